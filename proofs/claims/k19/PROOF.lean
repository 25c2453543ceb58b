import PyProof.Rows.All
import Wide.All
import OpenK.AllK
import Wide.FinOn
import HandS.ForMost
import HandS.Wide
import HandS.Exc
import HandS.ExcOwn
import HandS.WordsExc
import HandS.TryOnly
import HandS.IsInst
import HandS.Style
import HandS.TupMul
import HandS.SortOrd
import HandS.SortRule
import HandS.Flow
import HandS.Zip
import HandS.Rev
import HandS.TupAny
import HandS.SortInts
import HandS.EndBits
import HandS.ClsMeth
import HandS.ExcInit
import HandS.ExcIs
import HandS.ExcField
import HandS.TryMany
import HandS.Deep
import HandS.StrMore
import HandS.StrSplit
import HandS.Replace
import HandS.Conv
import HandS.SetKeys
import HandS.ListItems
import HandS.DictTup
import PyProof.StrOps2
import PyProof.Rows.IntBool
import HandS.RaiseMore
import KE.SortData
import KE.GoesEnum
import PySem.Challenge.RW_guestcopies_k19_whole_the_same_hour
set_option Elab.async false
set_option linter.all false
set_option maxRecDepth 100000
namespace G
open PySem PySem.Spec PyProof.Rows L2

/-- data: trees; frl: a list that is locked (the script); ins: a frozen instance; obj: a thing of the store -/
inductive D where
  | non | bl (b : Bool) | int (i : Int) | str (x : Str)
  | tup (ds : List D) | lst (ds : List D)
  | frl (ds : List D)
  | ins (c : Nat) (ks : List Str) (ds : List D)
  | obj (n : Nat)

/-- what changes: a dict with text and int keys, a list, an instance -/
inductive MO where
  | dict (ks : List (Key × D))
  | lst (ds : List D)
  | ins (c : Nat) (ks : List (Str × D))

abbrev Sto := List MO
/-- an exception: its class, its field (where it has one) -/
structure XV where
  c : Nat
  fs : List (Str × D)

/-- what running gives -/
inductive R (α : Type) where
  | ok (a : α) (S : Sto)
  | exc (e : XV) (S : Sto)
  | bad
def R.bind {α β : Type} (r : R α) (f : α → Sto → R β) : R β := match r with
  | .ok a S => f a S
  | .exc e S => .exc e S
  | .bad => .bad

/-- a slot of a def: not bound, a value, an own list (it may grow) -/
inductive Slot where
  | un
  | val (d : D)
  | own (ds : List D)
abbrev Env := List Slot

mutual
def Rep (K : PySem.W.Frag) (cl : Nat → Addr) (io : List Addr) (H : Hp) : D → V → Prop
  | .non, v => v = .non
  | .bl b, v => v = .bl b
  | .int i, v => v = .int i
  | .str x, v => v = .str x
  | .tup ds, v => ∃ a vs, v = .ref a ∧ SqT K H a vs ∧ RepL K cl io H ds vs
  | .lst ds, v => ∃ a vs, v = .ref a ∧ H a = some (.lst vs) ∧ RepL K cl io H ds vs
  | .frl ds, v => ∃ a vs, v = .ref a ∧ SqL K H a vs ∧ RepL K cl io H ds vs
  | .ins c ks ds, v => ∃ a dx vs, v = .ref a ∧ H a = some (.ins (cl c) dx (ks.zip vs)) ∧ ks.length = vs.length ∧ RepL K cl io H ds vs
  | .obj n, v => ∃ a, v = .ref a ∧ io[n]? = some a
def RepL (K : PySem.W.Frag) (cl : Nat → Addr) (io : List Addr) (H : Hp) : List D → List V → Prop
  | [], vs => vs = []
  | d :: ds, vs => ∃ v r, vs = v :: r ∧ Rep K cl io H d v ∧ RepL K cl io H ds r
end

section
variable {K : PySem.W.Frag} {cl : Nat → Addr}
theorem Same.seqT {H H' : Hp} {a : Addr} {xs : List V} (e : Same H H') (h : SqT K H a xs) : SqT K H' a xs := by
  rcases h with (h | ⟨o, h⟩) | h
  · exact .inl (.inl (e _ _ h))
  · exact .inl (.inr ⟨o, e _ _ h⟩)
  · exact .inr h
/-- the store's addresses only grow -/
def Pre (io io' : List Addr) : Prop := ∀ (n : Nat) (a : Addr), io[n]? = some a → io'[n]? = some a
theorem Pre.refl (io : List Addr) : Pre io io := fun _ _ h => h
theorem Pre.trans {a b c : List Addr} (h : Pre a b) (h' : Pre b c) : Pre a c := fun n x e => h' n x (h n x e)
mutual
theorem Rep.mono {io io' : List Addr} {H H' : Hp} (hp : Pre io io') (hs : Same H H') : ∀ (d : D) (v : V), Rep K cl io H d v → Rep K cl io' H' d v
  | .non, _, h => h
  | .bl _, _, h => h
  | .int _, _, h => h
  | .str _, _, h => h
  | .tup ds, _, h => by
    obtain ⟨a, vs, e, q, r⟩ := h
    exact ⟨a, vs, e, Same.seqT hs q, RepL.mono hp hs ds vs r⟩
  | .lst ds, _, h => by
    obtain ⟨a, vs, e, q, r⟩ := h
    exact ⟨a, vs, e, hs _ _ q, RepL.mono hp hs ds vs r⟩
  | .frl ds, _, h => by
    obtain ⟨a, vs, e, q, r⟩ := h
    exact ⟨a, vs, e, hs.seq q, RepL.mono hp hs ds vs r⟩
  | .ins c ks ds, _, h => by
    obtain ⟨a, dx, vs, e, q, l, r⟩ := h
    exact ⟨a, dx, vs, e, hs _ _ q, l, RepL.mono hp hs ds vs r⟩
  | .obj n, _, h => by
    obtain ⟨a, e, q⟩ := h
    exact ⟨a, e, hp n a q⟩
theorem RepL.mono {io io' : List Addr} {H H' : Hp} (hp : Pre io io') (hs : Same H H') : ∀ (ds : List D) (vs : List V), RepL K cl io H ds vs → RepL K cl io' H' ds vs
  | [], _, h => h
  | d :: ds, _, h => by
    obtain ⟨v, r, e, h1, h2⟩ := h
    exact ⟨v, r, e, Rep.mono hp hs d v h1, RepL.mono hp hs ds r h2⟩
end
theorem RepL.length {io : List Addr} {H : Hp} : ∀ {ds : List D} {vs : List V}, RepL K cl io H ds vs → ds.length = vs.length
  | [], _, h => by cases h; rfl
  | _ :: _, _, h => by
    obtain ⟨v, r, e, _, h2⟩ := h
    subst e
    simp [RepL.length h2]
theorem RepL.get {io : List Addr} {H : Hp} : ∀ {ds : List D} {vs : List V} {i : Nat} {d : D}, RepL K cl io H ds vs → ds[i]? = some d → ∃ v, vs[i]? = some v ∧ Rep K cl io H d v
  | [], _, _, _, _, e => by simp at e
  | _ :: _, _, 0, _, h, e => by
    obtain ⟨v, r, e1, h1, h2⟩ := h
    subst e1
    simp at e; subst e
    exact ⟨v, by simp, h1⟩
  | _ :: _, _, i + 1, _, h, e => by
    obtain ⟨v, r, e1, h1, h2⟩ := h
    subst e1
    obtain ⟨w, h3, h4⟩ := RepL.get (i := i) h2 (by simpa using e)
    exact ⟨w, by simpa using h3, h4⟩
theorem RepL.getV {io : List Addr} {H : Hp} {ds : List D} {vs : List V} {i : Nat} {v : V} (h : RepL K cl io H ds vs) (e : vs[i]? = some v) : ∃ d, ds[i]? = some d ∧ Rep K cl io H d v := by
  have hl := h.length
  have hi : i < vs.length := (List.getElem?_eq_some_iff.mp e).1
  have hd : ds[i]? = some (ds[i]'(by omega)) := by simp
  obtain ⟨w, h1, h2⟩ := h.get hd
  rw [e] at h1; cases h1
  exact ⟨_, hd, h2⟩
theorem RepL.nil {io : List Addr} {H : Hp} : RepL K cl io H [] [] := rfl
theorem RepL.cons {io : List Addr} {H : Hp} {d : D} {v : V} {ds : List D} {vs : List V} (h : Rep K cl io H d v) (t : RepL K cl io H ds vs) : RepL K cl io H (d :: ds) (v :: vs) := ⟨v, vs, rfl, h, t⟩
theorem RepL.append {io : List Addr} {H : Hp} : ∀ {ds es : List D} {vs ws : List V}, RepL K cl io H ds vs → RepL K cl io H es ws → RepL K cl io H (ds ++ es) (vs ++ ws)
  | [], _, _, _, h, t => by cases h; exact t
  | d :: ds, _, _, _, h, t => by
    obtain ⟨v, r, e, h1, h2⟩ := h
    subst e
    exact .cons h1 (RepL.append h2 t)
theorem RepL.take {io : List Addr} {H : Hp} : ∀ {ds : List D} {vs : List V} (n : Nat), RepL K cl io H ds vs → RepL K cl io H (ds.take n) (vs.take n)
  | _, _, 0, _ => by simp; exact .nil
  | [], _, _ + 1, h => by cases h; exact .nil
  | d :: ds, _, n + 1, h => by
    obtain ⟨v, r, e, h1, h2⟩ := h
    subst e
    exact .cons h1 (RepL.take n h2)
theorem RepL.drop {io : List Addr} {H : Hp} : ∀ {ds : List D} {vs : List V} (n : Nat), RepL K cl io H ds vs → RepL K cl io H (ds.drop n) (vs.drop n)
  | _, _, 0, h => h
  | [], _, _ + 1, h => by cases h; exact .nil
  | d :: ds, _, n + 1, h => by
    obtain ⟨v, r, e, h1, h2⟩ := h
    subst e
    exact RepL.drop n h2
theorem RepL.reverse {io : List Addr} {H : Hp} : ∀ {ds : List D} {vs : List V}, RepL K cl io H ds vs → RepL K cl io H ds.reverse vs.reverse
  | [], _, h => by cases h; exact .nil
  | d :: ds, _, h => by
    obtain ⟨v, r, e, h1, h2⟩ := h
    subst e
    simp only [List.reverse_cons]
    exact (RepL.reverse h2).append (.cons h1 .nil)
theorem RepL.set {io : List Addr} {H : Hp} {d : D} {v : V} (hd : Rep K cl io H d v) : ∀ {ds : List D} {vs : List V} (i : Nat), RepL K cl io H ds vs → RepL K cl io H (ds.set i d) (vs.set i v)
  | [], _, _, h => by cases h; exact .nil
  | _ :: _, _, 0, h => by
    obtain ⟨w, r, e, h1, h2⟩ := h
    subst e
    exact .cons hd h2
  | _ :: _, _, i + 1, h => by
    obtain ⟨w, r, e, h1, h2⟩ := h
    subst e
    exact .cons h1 (RepL.set hd i h2)

/-- an object of the store as it stands at a -/
def RepO (K : PySem.W.Frag) (cl : Nat → Addr) (io : List Addr) (H0 H : Hp) (a : Addr) : MO → Prop
  | .dict kvs => ∃ vs, H a = some (.dK ((kvs.map (·.1)).zip vs)) ∧ RepL K cl io H0 (kvs.map (·.2)) vs
  | .lst ds => ∃ vs, H a = some (.lst vs) ∧ RepL K cl io H0 ds vs
  | .ins c fs => ∃ dx vs, H a = some (.ins (cl c) dx ((fs.map (·.1)).zip vs)) ∧ RepL K cl io H0 (fs.map (·.2)) vs

/-- the store and what never changes: H0 within H, the store's objects apart -/
structure StR (K : PySem.W.Frag) (cl : Nat → Addr) (io : List Addr) (H0 H : Hp) (S : Sto) : Prop where
  sub : Same H0 H
  len : io.length = S.length
  out : ∀ (n : Nat) a, io[n]? = some a → H0 a = none
  inj : ∀ (n m : Nat) a, io[n]? = some a → io[m]? = some a → n = m
  ob : ∀ (n : Nat) a o, io[n]? = some a → S[n]? = some o → RepO K cl io H0 H a o

/-- from one place to a later one: all that was tracked stays but the store's objects; what is new was free -/
structure Ev (io : List Addr) (H0 H : Hp) (io' : List Addr) (H0' H' : Hp) : Prop where
  pre : Pre io io'
  new : ∀ a, a ∈ io' → a ∈ io ∨ H a = none
  h0 : Same H0 H0'
  h0n : ∀ a o, H0' a = some o → H0 a = some o ∨ H a = none
  keep : ∀ a o, H a = some o → a ∉ io → H' a = some o
  dom : ∀ a, H a ≠ none → H' a ≠ none

theorem Ev.refl {io : List Addr} {H0 H : Hp} : Ev io H0 H io H0 H :=
  ⟨.refl _, fun _ h => .inl h, .refl _, fun _ _ h => .inl h, fun _ _ h _ => h, fun _ h => h⟩
theorem Pre.mem {io io' : List Addr} (h : Pre io io') {a : Addr} (m : a ∈ io) : a ∈ io' := by
  obtain ⟨n, e⟩ := List.mem_iff_getElem?.mp m
  exact List.mem_iff_getElem?.mpr ⟨n, h n a e⟩
theorem Ev.trans {io io' io'' : List Addr} {H0 H H0' H' H0'' H'' : Hp} (x : Ev io H0 H io' H0' H') (y : Ev io' H0' H' io'' H0'' H'') : Ev io H0 H io'' H0'' H'' where
  pre := x.pre.trans y.pre
  new := fun a m => by
    rcases y.new a m with h | h
    · exact x.new a h
    · refine .inr ?_
      cases q : H a with
      | none => rfl
      | some o => exact absurd h (x.dom a (by simp [q]))
  h0 := x.h0.trans y.h0
  h0n := fun a o e => by
    rcases y.h0n a o e with h | h
    · exact x.h0n a o h
    · refine .inr ?_
      cases q : H a with
      | none => rfl
      | some o => exact absurd h (x.dom a (by simp [q]))
  keep := fun a o e n => y.keep a o (x.keep a o e n) fun m => by
    rcases x.new a m with h | h
    · exact n h
    · rw [e] at h; cases h
  dom := fun a h => y.dom a (x.dom a h)

/-- an own slot's address -/
abbrev Own := List (Option Addr)
def SlotR (K : PySem.W.Frag) (cl : Nat → Addr) (io : List Addr) (H0 H : Hp) (sv : Option V) (ow : Option Addr) : Slot → Prop
  | .un => ow = none
  | .val d => ow = none ∧ ∃ v, sv = some v ∧ Rep K cl io H0 d v
  | .own ds => ∃ a vs, ow = some a ∧ sv = some (.ref a) ∧ H a = some (.lst vs) ∧ H0 a = none ∧ a ∉ io ∧ RepL K cl io H0 ds vs

structure EnvR (K : PySem.W.Frag) (cl : Nat → Addr) (io : List Addr) (om : Own) (H0 H : Hp) (env : Env) (σ : L2.St) : Prop where
  len : env.length = σ.length
  lenO : om.length = σ.length
  slot : ∀ (i : Nat) s sv ow, env[i]? = some s → σ[i]? = some sv → om[i]? = some ow → SlotR K cl io H0 H sv ow s
  inj : ∀ (i j : Nat) a, om[i]? = some (some a) → om[j]? = some (some a) → i = j

structure Rel (K : PySem.W.Frag) (cl : Nat → Addr) (io : List Addr) (om : Own) (H0 H : Hp) (env : Env) (S : Sto) (σ : L2.St) : Prop where
  st : StR K cl io H0 H S
  en : EnvR K cl io om H0 H env σ

theorem SlotR.ev {io io' : List Addr} {H0 H H0' H' : Hp} {sv : Option V} {ow : Option Addr} (x : Ev io H0 H io' H0' H') {s : Slot} (h : SlotR K cl io H0 H sv ow s) : SlotR K cl io' H0' H' sv ow s := by
  cases s with
  | un => exact h
  | val d =>
    obtain ⟨e, v, e2, r⟩ := h
    exact ⟨e, v, e2, Rep.mono x.pre x.h0 d v r⟩
  | own ds =>
    obtain ⟨a, vs, e, e2, e3, e4, e5, r⟩ := h
    refine ⟨a, vs, e, e2, x.keep a _ e3 e5, ?_, ?_, RepL.mono x.pre x.h0 ds vs r⟩
    · cases q : H0' a with
      | none => rfl
      | some o =>
        rcases x.h0n a o q with z | z
        · rw [e4] at z; cases z
        · rw [e3] at z; cases z
    · intro m
      rcases x.new a m with z | z
      · exact e5 z
      · rw [e3] at z; cases z
theorem EnvR.ev {io io' : List Addr} {om : Own} {H0 H H0' H' : Hp} {env : Env} {σ : L2.St} (x : Ev io H0 H io' H0' H') (h : EnvR K cl io om H0 H env σ) : EnvR K cl io' om H0' H' env σ :=
  ⟨h.len, h.lenO, fun i s sv ow e1 e2 e3 => (h.slot i s sv ow e1 e2 e3).ev x, h.inj⟩
theorem Rel.ev {io io' : List Addr} {om : Own} {H0 H H0' H' : Hp} {env : Env} {S S' : Sto} {σ : L2.St} (x : Ev io H0 H io' H0' H') (h : Rel K cl io om H0 H env S σ) (st : StR K cl io' H0' H' S') : Rel K cl io' om H0' H' env S' σ :=
  ⟨st, h.en.ev x⟩

end
end G

namespace G
open PySem PySem.Spec PyProof.Rows L2
section
variable {prog : Program} {w : World} {A : Around} {E : Value → Shared → Prop} {s : Shared}
theorem sliceApplied_back {sl : Addr} {vs : Value} {n : Nat} {Q : Int × Int × Nat → Shared → Prop} (hs : s.heap.IsSliceOf sl .none .none vs) (ps : IsPart vs (some (-1)))
    (h : Q ((n : Int) - 1, -1, n) s) : wpAny (model prog w) A (Builtin.Slice.sliceApplied (.ref sl) (Pure.pure (n : Int))) Q E s := by
  obtain ⟨os, hos, hcs, hds⟩ := id hs
  unfold Builtin.Slice.sliceApplied Builtin.Slice.sliceFields
  refine wpAny_bind (wpAny_bind (wpAny_field hos hds (x := .none) rfl (wpAny_bind (wpAny_field hos hds (x := .none) rfl (wpAny_bind (wpAny_field hos hds (x := vs) rfl (wpAny_pure ?_)))))))
  refine wpAny_bind (HT.slicePart_ ps ?_)
  show wpAny _ _ (if ((-1 : Int) == 0) = true then _ else _) _ _ s
  rw [if_neg (by decide)]
  refine wpAny_bind (HT.slicePart_ .none (wpAny_bind (HT.slicePart_ .none (wpAny_bind (wpAny_pure ?_)))))
  show wpAny _ _ (match Builtin.Slice.sliceAdjust none none (-1) (n : Int) with | (lo, hi) => Pure.pure (lo, (-1 : Int), Builtin.Slice.slicePlaces lo hi (-1))) _ _ s
  have e : Builtin.Slice.sliceAdjust none none (-1) (n : Int) = ((n : Int) - 1, -1) := by
    unfold Builtin.Slice.sliceAdjust
    simp
  rw [e]
  show wpAny _ _ (Pure.pure ((n : Int) - 1, (-1 : Int), Builtin.Slice.slicePlaces ((n : Int) - 1) (-1) (-1))) _ _ s
  have e2 : Builtin.Slice.slicePlaces ((n : Int) - 1) (-1) (-1) = n := by
    unfold Builtin.Slice.slicePlaces
    simp
    split <;> omega
  rw [e2]
  exact wpAny_pure h
theorem getItem_tuple_back {t sl : Addr} {items : Array Value} {vs : Value} {Q : Value → Shared → Prop} (ht : IsTup s.heap t items) (hs : s.heap.IsSliceOf sl .none .none vs) (ps : IsPart vs (some (-1)))
    (h : Q (.ref s.heap.objs.size) { s with heap := s.heap.push { cls := .type "tuple", data := .seq items.toList.reverse.toArray } })
    (hsz : items.size ≤ sizeLine) : wpAny (model prog w) A (getItem (.ref t) (.ref sl)) Q E s := by
  have htake : sizeOk (.seq items.toList.reverse.toArray) := by
    show items.toList.reverse.toArray.size ≤ sizeLine
    simpa using hsz
  obtain ⟨os, hos, hcs, hds⟩ := id hs
  have hTs : s.TypeIs (.ref sl) "slice" := ⟨os, hos, hcs⟩
  unfold getItem
  try with_reducible refine wpAny_holding ?_
  first | refine wpAny_bind (wpAny_pure ?_) | skip
  refine wpAny_bind (wpAny_sequenceKey ht.typeIs (by decide) ?_)
  refine wpAny_bind (wpAny_callSpecial?_slot (name := Str.ofString "__getitem__") ht.typeIs PyProof.Rows.slot_tuple_getitem
    (wpAny_call_entry PyProof.Rows.slot_tuple_getitem ht.typeIs entry_tuple_getitem ?_ (args_tuple_getitem _ _)))
  show wpAny _ _ (Builtin.Tuple.tupleItemsOf (.ref t) >>= _) _ _ s
  refine wpAny_bind (PyProof.Rows.tupleItemsOf_ ht ?_)
  refine wpAny_bind (wpAny_typeOf hTs ?_)
  rw [if_pos (by decide)]
  refine wpAny_bind (sliceApplied_back hs ps ?_)
  have hno : ¬ ((((items.size : Int) - 1) == 0 && (-1 : Int) == 1 && items.size == items.size) = true) := by simp
  show wpAny _ _ (if ((((items.size : Int) - 1) == 0 && (-1 : Int) == 1 && items.size == items.size)) = true then _ else _) _ _ s
  rw [if_neg hno]
  have hp : (List.range items.size).filterMap (fun (k : Nat) => items[((items.size : Int) - 1 + (k : Int) * (-1)).toNat]?) = items.toList.reverse := by
    have e1 : (List.range items.size).map (fun (k : Nat) => ((items.size : Int) - 1 + (k : Int) * (-1)).toNat) = (List.range items.size).map fun k => items.size - 1 - k := by
      apply List.map_congr_left
      intro k hk
      have := List.mem_range.mp hk
      omega
    rw [PySem.W.krv_range] at e1
    have e2 := congrArg (List.filterMap (items[·]?)) e1
    rw [List.filterMap_map, List.filterMap_reverse, PySem.W.krv_all] at e2
    exact e2
  rw [hp]
  first
    | exact wpAny_bind (m := Builtin.Tuple.tupleExact _) (wpAny_newObj_type (wpAny_pure ⟨_, rfl, wpAny_pure h⟩) htake)
    | exact wpAny_bind (m := Builtin.Tuple.tupleExact _) (wpAny_newObj_type (wpAny_bind (wpAny_pure (wpAny_pure ⟨_, rfl, wpAny_pure h⟩))) htake)
    | exact wpAny_bind (wpAny_bind (m := Builtin.Tuple.tupleExact _) (wpAny_newObj_type (wpAny_pure (wpAny_pure ⟨_, rfl, wpAny_pure h⟩)) htake))
    | exact wpAny_bind (wpAny_bind (m := Builtin.Tuple.tupleExact _) (wpAny_newObj_type (wpAny_pure ⟨_, rfl, wpAny_pure h⟩) htake))
end
section
variable {X : Cx}
def tRevT (K : PySem.W.Frag) (te : TE) : TE := fun σ H Q => te σ H fun x H1 => ∃ a xs, x = .ref a ∧ SqT K H1 a xs ∧ ∀ p, H1 p = none → Q (.ref p) (upd H1 p (.tup xs.reverse))
theorem pe_revT {e : Expr} {te : TE} {k : Nat} {p1 p2 p3 pos : Pos} (he : PE X e te) : PE X (.Subscript e (.Slice none none (some (.UnaryOp .USub (.Constant (.int 1) k p1) p2)) p3) pos) (tRevT X.K te) := by
  refine ⟨fun pins s σ H Q I h => ?_⟩
  refine Subscript_ (thn (he.run pins s σ H _ I h) fun v s1 ⟨x, H1, I1, r1, q1⟩ => ?_)
  obtain ⟨a, xs, ex, hx, q⟩ := q1
  subst ex
  cases r1
  have hst : PO X (some (.UnaryOp .USub (.Constant (.int 1) k p1) p2)) (tPart (tUn (rU fun i => .int (-i)) (tC (.int 1)))) := po_some (pe_un un_neg pe_int)
  refine wpAny_Slice (thn (po_none.run pins s1 σ H1 (fun o H2 => o = none ∧ H2 = H1) I1 ⟨rfl, rfl⟩) fun vl s2 ⟨l, H2, I2, pl, el, e2⟩ => ?_)
  subst el e2
  cases pl
  refine thn (po_none.run pins s2 σ H2 (fun o H3 => o = none ∧ H3 = H2) I2 ⟨rfl, rfl⟩) fun vu s3 ⟨u, H3, I3, pu, eu, e3⟩ => ?_
  subst eu e3
  cases pu
  refine thn (hst.run pins s3 σ H3 (fun o H4 => o = some (-1) ∧ H4 = H3) I3 ⟨1, rfl, -1, rfl, rfl, rfl⟩) fun vs s4 ⟨o, H4, I4, ps, eo, e4⟩ => ?_
  subst eo e4
  have I5 : Inv X pins σ H4 { s4 with heap := s4.heap.push { cls := .type "slice", data := .fields #[.none, .none, vs] } } := I4.kept (t' := s4.toks) fun b ob q => Heap.get?_push_of_some _ q
  obtain ⟨its, r, ht, hz⟩ := I5.tuple hx
  have hlen := r.length
  show wpAny (model X.prog X.w) X.A (subscriptTail e (.Slice none none (some (.UnaryOp .USub (.Constant (.int 1) k p1) p2)) p3) (.ref a) (.ref s4.heap.objs.size)) (EP X pins σ Q) X.xe { s4 with heap := s4.heap.push { cls := .type "slice", data := .fields #[.none, .none, vs] } }
  refine tail_any (ops := [.ref a, .ref s4.heap.objs.size]) ht.typeIs (PyProof.Rows.slot_tuple_getitem.lookup) ?_ (by with_unfolding_all rfl)
  refine getItem_tuple_back ht (Heap.IsSliceOf.new _ .none .none vs) ps ?_ (by rw [List.size_toArray]; omega)
  refine ⟨.ref _, _, I5.laid (t' := s4.toks) (o := .tup xs.reverse) (fun b ob q => Heap.get?_push_of_some _ q) (Nat.le_refl _) ?_, rfl, q _ (I5.hok.fresh (Nat.le_refl _))⟩
  exact ⟨by rw [List.length_reverse]; exact hz, _, r.reverse, ⟨_, Heap.get?_push_size _ rfl, rfl, 0, rfl⟩⟩
end
end G

namespace G
open PySem PySem.Spec PyProof.Rows L2
def repS (z : Str) (k : Int) : Str := ⟨(List.replicate k.toNat z.cps.toList).flatten.toArray⟩
theorem foldl_repA (its : List Nat) : ∀ (k : Nat) (acc : List Nat),
    List.foldl (fun x1 x2 => x1 ++ x2) acc.toArray (List.replicate k its.toArray) = (acc ++ (List.replicate k its).flatten).toArray
  | 0, acc => by simp
  | k + 1, acc => by
    have e : acc.toArray ++ its.toArray = (acc ++ its).toArray := by simp
    have e2 : (acc ++ its) ++ (List.replicate k its).flatten = acc ++ (List.replicate (k + 1) its).flatten := by
      rw [List.replicate_succ, List.flatten_cons, List.append_assoc]
    rw [← e2, ← foldl_repA its k (acc ++ its), ← e, List.replicate_succ, List.foldl_cons]
def rRepS : R2 := fun x y H Q => ∃ z k, x = .str z ∧ y = .int k ∧ 0 ≤ k ∧ k ≤ 1000 ∧ z.length ≤ 10000 ∧ Q (.str (repS z k)) H
theorem op_repS {X : Cx} : OpR X (binaryOp .Mult) rRepS := by
  intro pins s σ H x y v u Q I rx ry h
  obtain ⟨z, k, rfl, rfl, h1, h2, hz, q⟩ := h
  obtain ⟨t, rfl⟩ := rx
  obtain ⟨t', rfl⟩ := ry
  have hzz : z.length * k.toNat ≤ 10000 * 1000 := Nat.mul_le_mul hz (by omega)
  refine PySem.P.mul_str (by rw [decide_eq_false (by omega), decide_eq_false (by omega)]; rfl) (fun g1 g2 g3 => ?_) (fun g1 g2 => ?_) ?_
  · have a1 : (z.length : Int) * k ≤ 10000 * k := Int.mul_le_mul_of_nonneg_right (by omega) (by omega)
    have : (z.length : Int) ≤ (2 ^ 63 - 1) / k := Int.le_ediv_of_mul_le (by omega) (by omega)
    omega
  · exact decide_eq_false (by rw [PySem.sizeLine_eq]; omega)
  · have hS : (⟨(List.replicate k.toNat z.cps).foldl (· ++ ·) #[]⟩ : Str) = repS z k := by
      have := foldl_repA z.cps.toList k.toNat []
      rw [List.nil_append] at this
      unfold repS
      rw [← this]
    have hL : (repS z k).length = z.length * k.toNat := by
      unfold repS Str.length
      simp only [List.size_toArray]
      induction k.toNat with
      | zero => rfl
      | succ n ih => rw [List.replicate_succ, List.flatten_cons, List.length_append, ih, Nat.mul_succ, Array.length_toList]; omega
    split
    · rename_i g
      have : k = 0 := by omega
      subst this
      exact ⟨by rw [show Str.empty.length = 0 from rfl]; omega, .str (repS z 0), H, I.tok _, ⟨_, by unfold repS; rfl⟩, q⟩
    · split
      · rename_i g g2
        have e : repS z k = z := by
          rcases Bool.or_eq_true_iff.mp g2 with g2 | g2
          · have : k = 1 := by simpa using g2
            subst this
            unfold repS; simp
          · have : z.length = 0 := by simpa using g2
            have h0 : z.cps.toList = [] := by
              have : z.cps.toList.length = 0 := by rw [Array.length_toList]; exact this
              exact List.eq_nil_of_length_eq_zero this
            have hz : z = ⟨#[]⟩ := by
              cases z with
              | mk c => simp only [Array.toList_eq_nil_iff] at h0; rw [h0]
            unfold repS
            rw [h0, hz]
            simp
        rw [e] at q
        exact ⟨.str z, H, I, ⟨_, rfl⟩, q⟩
      · rw [hS]
        exact ⟨by rw [hL, PySem.sizeLine_eq]; omega, .str (repS z k), H, I.tok _, ⟨_, rfl⟩, q⟩
def tI (k : Bool) : Int := if k = true then 1 else 0
def rAddB : R2 := fun x y H Q => (∃ k i, x = .bl k ∧ y = .int i ∧ Q (.int (tI k + i)) H) ∨ ∃ i k, x = .int i ∧ y = .bl k ∧ Q (.int (i + tI k)) H
def rSubB : R2 := fun x y H Q => (∃ k i, x = .bl k ∧ y = .int i ∧ Q (.int (tI k - i)) H) ∨ ∃ i k, x = .int i ∧ y = .bl k ∧ Q (.int (i - tI k)) H
theorem op_addB {X : Cx} : OpR X (binaryOp .Add) rAddB := by
  intro pins s σ H x y v u Q I rx ry h
  rcases h with ⟨k, i, rfl, rfl, q⟩ | ⟨i, k, rfl, rfl, q⟩
  · obtain ⟨t, rfl⟩ := ry
    cases rx
    exact PySem.IntBool.add_bool_int ⟨.int (tI k + i), H, I.tok _, ⟨_, rfl⟩, q⟩
  · obtain ⟨t, rfl⟩ := rx
    cases ry
    exact add_int_bool ⟨.int (i + tI k), H, I.tok _, ⟨_, rfl⟩, q⟩
theorem op_subB {X : Cx} : OpR X (binaryOp .Sub) rSubB := by
  intro pins s σ H x y v u Q I rx ry h
  rcases h with ⟨k, i, rfl, rfl, q⟩ | ⟨i, k, rfl, rfl, q⟩
  · obtain ⟨t, rfl⟩ := ry
    cases rx
    exact PySem.IntBool.sub_bool_int ⟨.int (tI k - i), H, I.tok _, ⟨_, rfl⟩, q⟩
  · obtain ⟨t, rfl⟩ := rx
    cases ry
    exact PySem.IntBool.sub_int_bool ⟨.int (i - tI k), H, I.tok _, ⟨_, rfl⟩, q⟩
/-- str of a number, a truth, a text -/
def rStrA : List V → Hp → VK → Prop := fun xs H Q => (∃ i : Int, xs = [.int i] ∧ i.natAbs.log2 < 1920 ∧ Q (.str (toString i)) H) ∨ (∃ k : Bool, xs = [.bl k] ∧ Q (.str (if k then "True" else "False")) H) ∨ ∃ a, xs = [.str a] ∧ Q (.str a) H
theorem call_strA {X : Cx} : CallR X (.type "str") rStrA := by
  intro pins s σ H xs us Q I r h
  rcases h with h | ⟨k, rfl, q⟩ | h
  · exact call_str_int pins s σ H xs us Q I r h
  · obtain ⟨u, rfl, ru⟩ := vals1 r
    cases ru
    exact PySem.P.str_of_bool ⟨.str (if k then "True" else "False"), H, I.tok _, ⟨_, rfl⟩, q⟩
  · exact SkE.call_str_str pins s σ H xs us Q I r h
end G

set_option maxHeartbeats 4000000
namespace G
open PySem PySem.Spec PyProof.Rows L2
theorem tuple_mul_1 (l : Addr) (items : Array Value) (n : Nat) (dd : Option Addr) (sl : Array (Option Value)) (u : Tok) :
    Meets (Builtin.«tuple.__mul__» ⟨[.ref l, .int 1 u], []⟩) (fun _ R s => s.heap.get? l = some { cls := .type "tuple", dict := dd, data := .seq items n, slots := sl } ∧
      R (.ok (.ret (Value.ref l))) s) :=
  .of_wp fun prog w A R s h => by
    obtain ⟨hp, g, d, tk, os⟩ := s
    obtain ⟨hl, h⟩ := h
    have f1 := AutoSeq1.idx_int
    wp_walk using wpAny_loadPart' hl
    repeat (first
      | (refine wpAny_ite_false (decide_eq_false (by simp)) ?_; wp_walk using wpAny_loadPart' hl)
      | (refine wpAny_ite_true (by simp) ?_; wp_walk using wpAny_loadPart' hl))
    exact ⟨_, rfl, h⟩
theorem tuple_mul_0 (l : Addr) (items : Array Value) (n : Nat) (dd : Option Addr) (sl : Array (Option Value)) (u : Tok) (hi : items.isEmpty = false) :
    Meets (Builtin.«tuple.__mul__» ⟨[.ref l, .int 0 u], []⟩) (fun _ R s => s.heap.get? l = some { cls := .type "tuple", dict := dd, data := .seq items n, slots := sl } ∧
      R (.ok (.ret (Value.ref s.heap.objs.size))) { s with heap := s.heap.push { cls := Value.type "tuple", data := Data.seq #[] }, toks := s.toks }) :=
  .of_wp fun prog w A R s h => by
    obtain ⟨hp, g, d, tk, os⟩ := s
    obtain ⟨hl, h⟩ := h
    have f1 := AutoSeq1.idx_int
    wp_walk using wpAny_loadPart' hl
    repeat (first
      | (refine wpAny_ite_false (decide_eq_false (by simp [hi])) ?_; wp_walk using wpAny_loadPart' hl)
      | (refine wpAny_ite_true (by simp) ?_; wp_walk using wpAny_loadPart' hl))
    exact ⟨_, rfl, h⟩
def rRepT01 (K : PySem.W.Frag) : R2 := fun x y H Q => ∃ l k xs, x = .ref l ∧ y = .int k ∧ SqT K H l xs ∧ xs ≠ [] ∧ ((k = 1 ∧ Q (.ref l) H) ∨ (k = 0 ∧ ∀ p, H p = none → Q (.ref p) (upd H p (.tup []))))
theorem op_repT01 {X : Cx} : OpR X (binaryOp .Mult) (rRepT01 X.K) := by
  intro pins s σ H x y v u Q I rx ry h
  obtain ⟨l, k, xs, rfl, rfl, hT, hne, q⟩ := h
  cases rx
  obtain ⟨t, rfl⟩ := ry
  obtain ⟨its, r, ⟨⟨cls, dd, data, sl⟩, ho, hc, n, hd⟩, hs⟩ := I.tuple hT
  simp only at hc hd
  subst hc hd
  have hle : its.length = xs.length := r.length.symm
  have hi : its.toArray.isEmpty = false := by
    cases its with
    | nil => exact absurd (List.eq_nil_of_length_eq_zero hle.symm) hne
    | cons a b => rfl
  refine wpAny_binaryOp_repeat_ref (T := "tuple") (U := "int") (by decide) ⟨_, ho, rfl⟩ (fun s' => typeIs_int s' k t) noFill_tuple_mul F.fills_int_mul F.slot_int_rmul repeat_tuple F.slot_int_index.lookup
    (call_meets F.slot_int_rmul (typeIs_int s k t) F.entry_int_rmul (F.args_int_rmul_2 _ _) (int_rmul_tuple k t l its.toArray n dd sl)
      ⟨ho, rfl, ⟨_, ho, rfl⟩, ?_⟩)
  rcases q with ⟨rfl, q⟩ | ⟨rfl, q⟩
  · refine call_meets F.slot_tuple_mul ⟨_, ho, rfl⟩ F.entry_tuple_mul (F.args_tuple_mul_2 _ _) (tuple_mul_1 l its.toArray n dd sl t) ⟨ho, ?_⟩
    exact ⟨.ref l, H, I, rfl, q⟩
  · refine call_meets F.slot_tuple_mul ⟨_, ho, rfl⟩ F.entry_tuple_mul (F.args_tuple_mul_2 _ _) (tuple_mul_0 l its.toArray n dd sl t hi) ⟨ho, ?_⟩
    refine ⟨.ref s.heap.objs.size, _, I.laid (t' := s.toks) (o := .tup []) (fun b ob q => Heap.get?_push_of_some _ q) (Nat.le_refl _) ?_, rfl, q _ (I.hok.fresh (Nat.le_refl _))⟩
    exact ⟨Nat.zero_le _, [], .nil, IsTup.new _ _⟩
end G

namespace G
open PySem PySem.Spec PyProof.Rows L2

abbrev FnSem := List D → Sto → R D
abbrev Sem1 (α : Type) := Env → Sto → R α
abbrev Ex := Sem1 D
/-- what is wanted of an exception -/
abbrev WX := Value → Option Addr → L2.St → Hp → Prop

section
variable (K : PySem.W.Frag) (cl : Nat → Addr)
/-- how a result is borne: a value for good, or (p false) an own list that is borrowed -/
def rD (p : Bool) : List Addr → Hp → Hp → D → V → Prop := fun io H0 H d v => Rep K cl io H0 d v ∨
  (p = false ∧ ∃ ds a vs, d = .lst ds ∧ v = .ref a ∧ H a = some (.lst vs) ∧ a ∉ io ∧ RepL K cl io H0 ds vs)
def rL (p : Bool) (io : List Addr) (H0 H : Hp) : List D → List V → Prop
  | [], vs => vs = []
  | d :: ds, vs => ∃ v r, vs = v :: r ∧ rD K cl p io H0 H d v ∧ rL p io H0 H ds r
def rB : List Addr → Hp → Hp → Bool → Bool → Prop := fun _ _ _ b c => b = c
/-- a new list (of what was at Hs): nothing else knows it -/
def rN (Hs : Hp) : List Addr → Hp → Hp → List D → V → Prop := fun io H0 H ds v => ∃ a vs, v = .ref a ∧ H a = some (.lst vs) ∧ H0 a = none ∧ a ∉ io ∧ Hs a = none ∧ RepL K cl io H0 ds vs
/-- an exception as it lies: its class, its own dict -/
def RepX (io : List Addr) (H0 H : Hp) (e : XV) (c : Value) (dd : Option Addr) : Prop :=
  c = .ref (cl e.c) ∧ (match e.fs with
    | [] => dd = none
    | fs => ∃ d vs, dd = some d ∧ H d = some (.xd ((fs.map (·.1)).zip vs)) ∧ RepL K cl io H0 (fs.map (·.2)) vs)

def Post {α β : Type} (rp : List Addr → Hp → Hp → α → β → Prop) (W : WX) (io : List Addr) (H0 H : Hp) (σ : L2.St) (Q : β → Hp → Prop) : R α → Prop
  | .ok d S' => ∀ io' H0' H' v, Ev io H0 H io' H0' H' → StR K cl io' H0' H' S' → rp io' H0' H' d v → Q v H'
  | .exc e S' => ∀ io' H0' H' c dd, Ev io H0 H io' H0' H' → StR K cl io' H0' H' S' → RepX K cl io' H0' H' e c dd → W c dd σ H'
  | .bad => False
def tG {α β : Type} (rp : List Addr → Hp → Hp → α → β → Prop) (W : WX) (f : Sem1 α) : L2.St → Hp → (β → Hp → Prop) → Prop := fun σ H Q =>
  ∃ io om H0 env S, Rel K cl io om H0 H env S σ ∧ Post K cl rp W io H0 H σ Q (f env S)
def tN (W : WX) (f : Sem1 (List D)) : TE := fun σ H Q =>
  ∃ io om H0 env S, Rel K cl io om H0 H env S σ ∧ Post K cl (rN K cl H) W io H0 H σ Q (f env S)
end

section
variable {K : PySem.W.Frag} {cl : Nat → Addr} {W : WX} {io io' : List Addr} {om : Own} {H0 H H0' H' : Hp} {env : Env} {S S' : Sto} {σ : L2.St}
theorem Post.ev {α β : Type} {rp : List Addr → Hp → Hp → α → β → Prop} {Q : β → Hp → Prop} (x : Ev io H0 H io' H0' H') : ∀ {r : R α}, Post K cl rp W io H0 H σ Q r → Post K cl rp W io' H0' H' σ Q r
  | .ok _ _, h => fun a b c v e => h a b c v (x.trans e)
  | .exc _ _, h => fun a b c v d e => h a b c v d (x.trans e)
  | .bad, h => h
theorem Post.mono {α β : Type} {rp : List Addr → Hp → Hp → α → β → Prop} {Q Q' : β → Hp → Prop} (hq : ∀ v H, Q v H → Q' v H) : ∀ {r : R α}, Post K cl rp W io H0 H σ Q r → Post K cl rp W io H0 H σ Q' r
  | .ok _ _, h => fun a b c v e s r => hq _ _ (h a b c v e s r)
  | .exc _ _, h => h
  | .bad, h => h
/-- a step: the first part runs, the rest goes on from where it ends -/
theorem Post.bind {α β γ δ : Type} {rp : List Addr → Hp → Hp → α → β → Prop} {rp' : List Addr → Hp → Hp → γ → δ → Prop} {Q : δ → Hp → Prop} {r : R α} {k : α → Sto → R γ}
    (R0 : Rel K cl io om H0 H env S σ) (h : Post K cl rp' W io H0 H σ Q (r.bind k)) :
    Post K cl rp W io H0 H σ (fun v H1 => ∃ io1 H01 S1 d, Ev io H0 H io1 H01 H1 ∧ Rel K cl io1 om H01 H1 env S1 σ ∧ rp io1 H01 H1 d v ∧ Post K cl rp' W io1 H01 H1 σ Q (k d S1)) r := by
  cases r with
  | ok d S1 => exact fun io1 H01 H1 v e st q => ⟨io1, H01, S1, d, e, R0.ev e st, q, Post.ev e h⟩
  | exc e S1 => exact h
  | bad => exact h
theorem Post.bindE {α β γ δ : Type} {rp : List Addr → Hp → Hp → α → β → Prop} {rp' : List Addr → Hp → Hp → γ → δ → Prop} {Q : δ → Hp → Prop} {r : R α} {k : α → Sto → R γ}
    (R0 : Rel K cl io om H0 H env S σ) (h : Post K cl rp' W io H0 H σ Q (r.bind k)) :
    Post K cl rp W io H0 H σ (fun v H1 => ∃ io1 H01 S1 d, Ev io H0 H io1 H01 H1 ∧ Rel K cl io1 om H01 H1 env S1 σ ∧ rp io1 H01 H1 d v ∧ Post K cl rp' W io1 H01 H1 σ Q (k d S1) ∧ r = .ok d S1) r := by
  cases r with
  | ok d S1 => exact fun io1 H01 H1 v e st q => ⟨io1, H01, S1, d, e, R0.ev e st, q, Post.ev e h, rfl⟩
  | exc e S1 => exact h
  | bad => exact h
/-- the answer is there -/
theorem Post.done {α β : Type} {rp : List Addr → Hp → Hp → α → β → Prop} {Q : β → Hp → Prop} {d : α} {v : β} (R0 : Rel K cl io om H0 H env S σ) (h : Post K cl rp W io H0 H σ Q (.ok d S)) (q : rp io H0 H d v) : Q v H := h io H0 H v .refl R0.st q
theorem Post.done_bl {p : Bool} {Q : VK} {k : Bool} (R0 : Rel K cl io om H0 H env S σ) (h : Post K cl (rD K cl p) W io H0 H σ Q (.ok (.bl k) S)) : Q (.bl k) H := h io H0 H (.bl k) .refl R0.st (.inl rfl)
theorem Post.done_ev {α β : Type} {rp : List Addr → Hp → Hp → α → β → Prop} {Q : β → Hp → Prop} {d : α} {v : β} (h : Post K cl rp W io H0 H σ Q (.ok d S')) (x : Ev io H0 H io' H0' H') (st : StR K cl io' H0' H' S') (q : rp io' H0' H' d v) : Q v H' := h io' H0' H' v x st q
theorem rD.ev {p : Bool} (x : Ev io H0 H io' H0' H') {d : D} {v : V} (h : rD K cl p io H0 H d v) : rD K cl p io' H0' H' d v := by
  rcases h with h | ⟨e, ds, a, vs, rfl, rfl, h1, h2, h3⟩
  · exact .inl (Rep.mono x.pre x.h0 d v h)
  · refine .inr ⟨e, ds, a, vs, rfl, rfl, x.keep a _ h1 h2, fun m => ?_, RepL.mono x.pre x.h0 ds vs h3⟩
    rcases x.new a m with z | z
    · exact h2 z
    · rw [h1] at z; cases z
theorem rL.ev {p : Bool} (x : Ev io H0 H io' H0' H') : ∀ {ds : List D} {vs : List V}, rL K cl p io H0 H ds vs → rL K cl p io' H0' H' ds vs
  | [], _, h => h
  | _ :: _, _, ⟨v, r, e, h1, h2⟩ => ⟨v, r, e, h1.ev x, rL.ev x h2⟩
theorem rD.perm {d : D} {v : V} (h : rD K cl true io H0 H d v) : Rep K cl io H0 d v := by
  rcases h with h | ⟨e, _⟩
  · exact h
  · cases e
theorem rL.perm : ∀ {ds : List D} {vs : List V}, rL K cl true io H0 H ds vs → RepL K cl io H0 ds vs
  | [], _, h => h
  | _ :: _, _, ⟨v, r, e, h1, h2⟩ => ⟨v, r, e, h1.perm, rL.perm h2⟩
theorem rD.borrow {d : D} {v : V} (h : rD K cl true io H0 H d v) {p : Bool} : rD K cl p io H0 H d v := .inl h.perm
theorem rD.lst (st : StR K cl io H0 H S) {p : Bool} {ds : List D} {v : V} (h : rD K cl p io H0 H (.lst ds) v) : ∃ a vs, v = .ref a ∧ H a = some (.lst vs) ∧ RepL K cl io H0 ds vs := by
  rcases h with ⟨a, vs, e, h1, h2⟩ | ⟨_, es, a, vs, e, e2, h1, _, h3⟩
  · exact ⟨a, vs, e, st.sub _ _ h1, h2⟩
  · cases e
    exact ⟨a, vs, e2, h1, h3⟩
theorem rD.tup (st : StR K cl io H0 H S) {p : Bool} {ds : List D} {v : V} (h : rD K cl p io H0 H (.tup ds) v) : ∃ a vs, v = .ref a ∧ SqT K H a vs ∧ RepL K cl io H0 ds vs := by
  rcases h with ⟨a, vs, e, h1, h2⟩ | ⟨_, es, a, vs, e, _⟩
  · exact ⟨a, vs, e, Same.seqT st.sub h1, h2⟩
  · cases e
theorem rD.frl (st : StR K cl io H0 H S) {p : Bool} {ds : List D} {v : V} (h : rD K cl p io H0 H (.frl ds) v) : ∃ a vs, v = .ref a ∧ SqL K H a vs ∧ RepL K cl io H0 ds vs := by
  rcases h with ⟨a, vs, e, h1, h2⟩ | ⟨_, es, a, vs, e, _⟩
  · exact ⟨a, vs, e, st.sub.seq h1, h2⟩
  · cases e
theorem rD.int {p : Bool} {i : Int} {v : V} (h : rD K cl p io H0 H (.int i) v) : v = .int i := by
  rcases h with h | ⟨_, _, _, _, e, _⟩
  · exact h
  · cases e
theorem rD.str {p : Bool} {i : Str} {v : V} (h : rD K cl p io H0 H (.str i) v) : v = .str i := by
  rcases h with h | ⟨_, _, _, _, e, _⟩
  · exact h
  · cases e
theorem rD.bl {p : Bool} {i : Bool} {v : V} (h : rD K cl p io H0 H (.bl i) v) : v = .bl i := by
  rcases h with h | ⟨_, _, _, _, e, _⟩
  · exact h
  · cases e
theorem rD.non {p : Bool} {v : V} (h : rD K cl p io H0 H .non v) : v = .non := by
  rcases h with h | ⟨_, _, _, _, e, _⟩
  · exact h
  · cases e
theorem rD.obj {p : Bool} {n : Nat} {v : V} (h : rD K cl p io H0 H (.obj n) v) : ∃ a, v = .ref a ∧ io[n]? = some a := by
  rcases h with h | ⟨_, _, _, _, e, _⟩
  · exact h
  · cases e
theorem rD.ins (st : StR K cl io H0 H S) {p : Bool} {c : Nat} {ks : List Str} {ds : List D} {v : V} (h : rD K cl p io H0 H (.ins c ks ds) v) : ∃ a dx vs, v = .ref a ∧ H a = some (.ins (cl c) dx (ks.zip vs)) ∧ ks.length = vs.length ∧ RepL K cl io H0 ds vs := by
  rcases h with ⟨a, dx, vs, e, h1, h2, h3⟩ | ⟨_, es, a, vs, e, _⟩
  · exact ⟨a, dx, vs, e, st.sub _ _ h1, h2, h3⟩
  · cases e

theorem RepO.at {K : PySem.W.Frag} {cl : Nat → Addr} {a : Addr} (hp : Pre io io') (h0 : Same H0 H0') (e : H' a = H a) : ∀ {o : MO}, RepO K cl io H0 H a o → RepO K cl io' H0' H' a o
  | .dict kvs, ⟨vs, h1, h2⟩ => ⟨vs, by rw [e]; exact h1, RepL.mono hp h0 _ _ h2⟩
  | .lst ds, ⟨vs, h1, h2⟩ => ⟨vs, by rw [e]; exact h1, RepL.mono hp h0 _ _ h2⟩
  | .ins c fs, ⟨dx, vs, h1, h2⟩ => ⟨dx, vs, by rw [e]; exact h1, RepL.mono hp h0 _ _ h2⟩
theorem RepO.there {a : Addr} : ∀ {o : MO}, RepO K cl io H0 H a o → H a ≠ none
  | .dict _, ⟨_, h1, _⟩ => by rw [h1]; simp
  | .lst _, ⟨_, h1, _⟩ => by rw [h1]; simp
  | .ins _ _, ⟨_, _, h1, _⟩ => by rw [h1]; simp
theorem StR.there (st : StR K cl io H0 H S) {a : Addr} (h : a ∈ io) : H a ≠ none := by
  obtain ⟨n, e⟩ := List.mem_iff_getElem?.mp h
  have hn : n < S.length := by rw [← st.len]; exact (List.getElem?_eq_some_iff.mp e).1
  exact (st.ob n a _ e (List.getElem?_eq_getElem hn)).there
theorem StR.free0 (st : StR K cl io H0 H S) {a : Addr} (h : H a = none) : H0 a = none := st.sub.free h
theorem same_upd {H : Hp} {a : Addr} {o : HO} (h : H a = none) : Same H (upd H a o) := fun b u e => by rw [upd_ne (ne_of_none e h)]; exact e
/-- a new object that never changes -/
theorem StR.new0 (st : StR K cl io H0 H S) {a : Addr} (h : H a = none) (o : HO) : StR K cl io (upd H0 a o) (upd H a o) S ∧ Ev io H0 H io (upd H0 a o) (upd H a o) := by
  have h0 := st.free0 h
  have ne : ∀ b, b ∈ io → b ≠ a := fun b m z => st.there m (z ▸ h)
  refine ⟨⟨fun b u e => ?_, st.len, fun n b e => ?_, st.inj, fun n b u e e2 => ?_⟩, ⟨.refl _, fun b m => .inl m, same_upd h0, fun b u e => ?_, fun b u e _ => same_upd h b u e, fun b hb => ?_⟩⟩
  · by_cases hb : b = a
    · subst hb; rw [upd_same] at e ⊢; exact e
    · rw [upd_ne hb] at e ⊢; exact st.sub b u e
  · rw [upd_ne (ne b (List.mem_of_getElem? e))]; exact st.out n b e
  · exact (st.ob n b u e e2).at (.refl _) (same_upd h0) (upd_ne (ne b (List.mem_of_getElem? e)))
  · by_cases hb : b = a
    · subst hb; exact .inr h
    · rw [upd_ne hb] at e; exact .inl e
  · by_cases he : b = a
    · subst he; rw [upd_same]; simp
    · rw [upd_ne he]; exact hb
/-- a new object -/
theorem StR.new (st : StR K cl io H0 H S) {a : Addr} (h : H a = none) (o : HO) : StR K cl io H0 (upd H a o) S ∧ Ev io H0 H io H0 (upd H a o) := by
  have ne : ∀ b, b ∈ io → b ≠ a := fun b m z => st.there m (z ▸ h)
  refine ⟨⟨fun b u e => same_upd h b u (st.sub b u e), st.len, st.out, st.inj, fun n b u e e2 => ?_⟩, ⟨.refl _, fun b m => .inl m, .refl _, fun b u e => .inl e, fun b u e _ => same_upd h b u e, fun b hb => ?_⟩⟩
  · exact (st.ob n b u e e2).at (.refl _) (.refl _) (upd_ne (ne b (List.mem_of_getElem? e)))
  · by_cases he : b = a
    · subst he; rw [upd_same]; simp
    · rw [upd_ne he]; exact hb
end

section
variable (X : Cx) (cl : Nat → Addr) (W : WX)
abbrev ED (p : Bool) (e : Expr) (f : Ex) : Prop := PE X e (tG X.K cl (rD X.K cl p) W f)
abbrev TD (e : Expr) (f : Sem1 Bool) : Prop := PT X e (tG X.K cl rB W f)
abbrev AD (p : Bool) (es : List Expr) (f : Sem1 (List D)) : Prop := PA X es (tG X.K cl (rL X.K cl p) W f)
abbrev ND (e : Expr) (f : Sem1 (List D)) : Prop := PE X e (tN X.K cl W f)
end
section
variable {X : Cx} {cl : Nat → Addr} {W : WX} {e a b : Expr} {pos : Pos}
theorem weakE {t t' : TE} (h : PE X e t) (q : ∀ σ H Q, t' σ H Q → t σ H Q) : PE X e t' := ⟨fun pins s σ H Q I w => h.run pins s σ H Q I (q σ H Q w)⟩
theorem weakT {t t' : TT} (h : PT X e t) (q : ∀ σ H Q, t' σ H Q → t σ H Q) : PT X e t' := ⟨fun pins s σ H Q I w => h.run pins s σ H Q I (q σ H Q w)⟩
theorem weakA {es : List Expr} {t t' : TA} (h : PA X es t) (q : ∀ σ H Q, t' σ H Q → t σ H Q) : PA X es t' := ⟨fun pos pins s σ H Q I w => h.run pos pins s σ H Q I (q σ H Q w)⟩
theorem weakS {st : Stmt} {t t' : TS} (h : PS X st t) (q : ∀ D σ H, t' D σ H → t D σ H) : PS X st t' := ⟨fun pins s σ H D I w => h.run pins s σ H D I (q D σ H w)⟩
theorem weakSs {st : List Stmt} {t t' : TS} (h : PSs X st t) (q : ∀ D σ H, t' D σ H → t D σ H) : PSs X st t' := ⟨fun pins s σ H D I w => h.run pins s σ H D I (q D σ H w)⟩

/-- a value for good may be borrowed -/
theorem ED.bor {f : Ex} (h : ED X cl W true e f) {p : Bool} : ED X cl W p e f := by
  refine weakE h fun σ H Q ⟨io, om, H0, env, S, R0, h⟩ => ⟨io, om, H0, env, S, R0, ?_⟩
  cases q : f env S with
  | ok d S' =>
    rw [q] at h
    exact fun io' H0' H' v x st r => h io' H0' H' v x st r.borrow
  | exc e' S' => rw [q] at h; exact h
  | bad => rw [q] at h; exact h

def eVar (i : Nat) : Ex := fun env S => match env[i]? with
  | some (.val d) => .ok d S
  | _ => .bad
def eOwn (i : Nat) : Ex := fun env S => match env[i]? with
  | some (.own ds) => .ok (.lst ds) S
  | some (.val d) => .ok d S
  | _ => .bad
def eC (d : D) : Ex := fun _ S => .ok d S
theorem d_var (i : Nat) {x : Str} (hN : X.N[i]? = some x := by rfl) (hv : Vis X.env.scope x := by first | exact Or.inl rfl | exact Or.inr (Or.inl rfl) | exact Or.inr (Or.inr rfl)) (hd : (x == ("__debug__" : Str)) = false := by decide)
    (hcd : (x == ("__classdict__" : Str)) = false := by decide) : ED X cl W true (.Name x pos) (eVar i) := by
  refine weakE (pe_var hN hv hd hcd) fun σ H Q ⟨io, om, H0, env, S, R0, h⟩ => ?_
  unfold eVar at h
  split at h
  · rename_i d he
    have hi : i < σ.length := by rw [← R0.en.len]; exact (List.getElem?_eq_some_iff.mp he).1
    obtain ⟨_, v, hv, r⟩ := R0.en.slot i _ σ[i] (om[i]'(by rw [R0.en.lenO]; exact hi)) he (by simp) (by simp)
    exact ⟨v, by rw [List.getElem?_eq_getElem hi, hv], h.done R0 (.inl r)⟩
  · exact h.elim
theorem d_own (i : Nat) {x : Str} (hN : X.N[i]? = some x := by rfl) (hv : Vis X.env.scope x := by first | exact Or.inl rfl | exact Or.inr (Or.inl rfl) | exact Or.inr (Or.inr rfl)) (hd : (x == ("__debug__" : Str)) = false := by decide)
    (hcd : (x == ("__classdict__" : Str)) = false := by decide) : ED X cl W false (.Name x pos) (eOwn i) := by
  refine weakE (pe_var hN hv hd hcd) fun σ H Q ⟨io, om, H0, env, S, R0, h⟩ => ?_
  unfold eOwn at h
  split at h
  · rename_i ds he
    have hi : i < σ.length := by rw [← R0.en.len]; exact (List.getElem?_eq_some_iff.mp he).1
    obtain ⟨a, vs, _, hv, hH, h0, no, r⟩ := R0.en.slot i _ σ[i] (om[i]'(by rw [R0.en.lenO]; exact hi)) he (by simp) (by simp)
    refine ⟨.ref a, by rw [List.getElem?_eq_getElem hi, hv], h.done R0 ?_⟩
    exact .inr ⟨rfl, ds, a, vs, rfl, rfl, hH, no, r⟩
  · rename_i d he
    have hi : i < σ.length := by rw [← R0.en.len]; exact (List.getElem?_eq_some_iff.mp he).1
    obtain ⟨_, v, hv, r⟩ := R0.en.slot i _ σ[i] (om[i]'(by rw [R0.en.lenO]; exact hi)) he (by simp) (by simp)
    exact ⟨v, by rw [List.getElem?_eq_getElem hi, hv], h.done R0 (.inl r)⟩
  · exact h.elim
end
end G

namespace G
open PySem PySem.Spec PyProof.Rows L2

def okL (n : Nat) : Bool := decide (n ≤ sizeLine)
def mk (b : Bool) (d : D) (S : Sto) : R D := if b then .ok d S else .bad
def opAdd : D → D → Sto → R D
  | .int i, .int j, S => .ok (.int (i + j)) S
  | .str i, .str j, S => mk (okL (i.length + j.length)) (.str (i ++ j)) S
  | .lst a, .lst b, S => mk (okL (a.length + b.length)) (.lst (a ++ b)) S
  | .tup a, .tup b, S => mk (okL (a.length + b.length)) (.tup (a ++ b)) S
  | .bl k, .int j, S => .ok (.int (tI k + j)) S
  | .int i, .bl k, S => .ok (.int (i + tI k)) S
  | _, _, _ => .bad
def opSub : D → D → Sto → R D
  | .int i, .int j, S => .ok (.int (i - j)) S
  | .bl k, .int j, S => .ok (.int (tI k - j)) S
  | .int i, .bl k, S => .ok (.int (i - tI k)) S
  | _, _, _ => .bad
/-- factors of together less than a million bits -/
def okMul (i j : Int) : Bool := decide (i.natAbs.log2 + j.natAbs.log2 < 1000000)
def opMul : D → D → Sto → R D
  | .int i, .int j, S => mk (okMul i j) (.int (i * j)) S
  | .lst a, .int k, S => mk (decide (-(2 ^ 63) ≤ k ∧ k < 2 ^ 63 ∧ a.length * k.toNat ≤ sizeLine)) (.lst (List.replicate k.toNat a).flatten) S
  | .tup a, .int k, S => mk (decide (0 < a.length ∧ 0 ≤ k ∧ k ≤ 1000 ∧ a.length ≤ 1000)) (.tup (List.replicate k.toNat a).flatten) S
  | .str z, .int k, S => mk (decide (0 ≤ k ∧ k ≤ 1000 ∧ z.length ≤ 10000)) (.str (repS z k)) S
  | _, _, _ => .bad
def okDiv (j : Int) : Bool := decide (0 < j) && decide (j.natAbs.log2 < 9000)
def opFdiv : D → D → Sto → R D
  | .int i, .int j, S => mk (okDiv j) (.int (i / j)) S
  | _, _, _ => .bad
def opMod : D → D → Sto → R D
  | .int i, .int j, S => mk (decide (0 < j)) (.int (i % j)) S
  | _, _, _ => .bad
def opPow : D → D → Sto → R D
  | .int i, .int j, S => mk (decide (0 ≤ j ∧ j ≤ 1000000 ∧ i.natAbs < 2 ^ 64)) (.int (i ^ j.toNat)) S
  | _, _, _ => .bad
def cLt : D → D → Sto → R D
  | .int i, .int j, S => .ok (.bl (decide (i < j))) S
  | .str i, .str j, S => .ok (.bl (decide (i.cps.toList < j.cps.toList))) S
  | _, _, _ => .bad
def cLe : D → D → Sto → R D
  | .int i, .int j, S => .ok (.bl (decide (i ≤ j))) S
  | _, _, _ => .bad
def cGt : D → D → Sto → R D
  | .int i, .int j, S => .ok (.bl (decide (j < i))) S
  | _, _, _ => .bad
def cGe : D → D → Sto → R D
  | .int i, .int j, S => .ok (.bl (decide (j ≤ i))) S
  | _, _, _ => .bad
mutual
def toPy : D → PyData
  | .non => .none
  | .bl b => .bool b
  | .int i => .int i
  | .str x => .str x
  | .tup ds => .tuple (toPyL ds)
  | .lst ds => .list (toPyL ds)
  | .frl ds => .list (toPyL ds)
  | .ins _ _ _ => .none
  | .obj _ => .none
def toPyL : List D → List PyData
  | [] => []
  | d :: ds => toPy d :: toPyL ds
end
mutual
/-- data alone -/
def pure : D → Bool
  | .non => true
  | .bl _ => true
  | .int _ => true
  | .str _ => true
  | .tup ds => pureL ds
  | .lst ds => pureL ds
  | .frl _ => false
  | .ins _ _ _ => false
  | .obj _ => false
def pureL : List D → Bool
  | [] => true
  | d :: ds => pure d && pureL ds
end
def okEq (d : D) : Bool := pure d && SeqAt.shaped (toPy d)
def eqv (x y : D) : Bool := PyData.eqv (toPy x) (toPy y)
def eqD : D → D → Option Bool
  | .int i, .int j => some (decide (i = j))
  | .str i, .str j => some (decide (i = j))
  | x, y => if okEq x && okEq y then some (eqv x y) else none
def opt {α : Type} (o : Option α) (f : α → D) (S : Sto) : R D := match o with
  | some a => .ok (f a) S
  | none => .bad
def cEq (x y : D) (S : Sto) : R D := opt (eqD x y) .bl S
def cNe (x y : D) (S : Sto) : R D := opt (eqD x y) (fun b => .bl (!b)) S
def isNon : D → Bool
  | .non => true
  | _ => false
def cIs (x y : D) (S : Sto) : R D := match y with
  | .non => .ok (.bl (isNon x)) S
  | .bl b => match x with
    | .bl a => .ok (.bl (decide (a = b))) S
    | _ => .bad
  | _ => .bad
def cIsNot (x y : D) (S : Sto) : R D := match y with
  | .non => .ok (.bl (!isNon x)) S
  | .bl b => match x with
    | .bl a => .ok (.bl (!decide (a = b))) S
    | _ => .bad
  | _ => .bad
def flat : D → Bool
  | .non => true
  | .bl _ => true
  | .int _ => true
  | .str _ => true
  | _ => false
/-- == of flat ones -/
def feq : D → D → Bool
  | .non, .non => true
  | .bl a, .bl b => a == b
  | .bl a, .int b => (if a then 1 else 0) == b
  | .int a, .bl b => a == (if b then 1 else 0)
  | .int a, .int b => a == b
  | .str a, .str b => a == b
  | _, _ => false
def inL (x : D) (ds : List D) : Bool := ds.any fun y => feq y x
def inGen (x : D) (ds : List D) : Option Bool := if flat x && ds.all flat then some (inL x ds) else if okEq x && okEq (.lst ds) then some ((toPyL ds).any fun z => PyData.eqv z (toPy x)) else none
def inD : D → D → Option Bool
  | x, .lst ds => inGen x ds
  | x, .tup ds => inGen x ds
  | .str x, .str y => some (!(Builtin.Str.occurrences y x 0 y.length 1).isEmpty)
  | _, _ => none
def cIn (x y : D) (S : Sto) : R D := opt (inD x y) .bl S
def cNotIn (x y : D) (S : Sto) : R D := opt (inD x y) (fun b => .bl (!b)) S
def truth : D → Option Bool
  | .non => some false
  | .bl b => some b
  | .int i => some (i != 0)
  | .str y => if y.length ≤ sizeLine then some ((y.length : Int) != 0) else none
  | .lst ds => some (!ds.isEmpty)
  | .frl ds => some (!ds.isEmpty)
  | .tup ds => some (!ds.isEmpty)
  | _ => none

def eBin (f : D → D → Sto → R D) (fa fb : Ex) : Ex := fun env S => (fa env S).bind fun x S1 => (fb env S1).bind fun y S2 => f x y S2
def eNeg (fa : Ex) : Ex := fun env S => (fa env S).bind fun x S1 => match x with
  | .int i => .ok (.int (-i)) S1
  | _ => .bad
def eTup (f : Sem1 (List D)) : Ex := fun env S => (f env S).bind fun ds S1 => mk (okL ds.length) (.tup ds) S1
def nLst (f : Sem1 (List D)) : Sem1 (List D) := fun env S => (f env S).bind fun ds S1 => if okL ds.length then .ok ds S1 else .bad
def eLst (f : Sem1 (List D)) : Ex := fun env S => (f env S).bind fun ds S1 => .ok (.lst ds) S1
def aNil : Sem1 (List D) := fun _ S => .ok [] S
def aCons (f : Ex) (g : Sem1 (List D)) : Sem1 (List D) := fun env S => (f env S).bind fun d S1 => (g env S1).bind fun ds S2 => .ok (d :: ds) S2
def tVal (f : Ex) : Sem1 Bool := fun env S => (f env S).bind fun x S1 => match truth x with
  | some b => .ok b S1
  | none => .bad
def tAnd (f g : Sem1 Bool) : Sem1 Bool := fun env S => (f env S).bind fun b S1 => if b then g env S1 else .ok false S1
def tOr (f g : Sem1 Bool) : Sem1 Bool := fun env S => (f env S).bind fun b S1 => if b then .ok true S1 else g env S1
def tNot (f : Sem1 Bool) : Sem1 Bool := fun env S => (f env S).bind fun b S1 => .ok (!b) S1
def eIf (c : Sem1 Bool) (f g : Ex) : Ex := fun env S => (c env S).bind fun b S1 => if b then f env S1 else g env S1
def eAnd (f g : Ex) : Ex := fun env S => (f env S).bind fun x S1 => match truth x with
  | some b => if b then g env S1 else .ok x S1
  | none => .bad
def eOr (f g : Ex) : Ex := fun env S => (f env S).bind fun x S1 => match truth x with
  | some b => if b then .ok x S1 else g env S1
  | none => .bad
def eNot (f : Ex) : Ex := fun env S => (f env S).bind fun x S1 => match truth x with
  | some b => .ok (.bl (!b)) S1
  | none => .bad
/-- a f b g c -/
def eChain (f g : D → D → Sto → R D) (fa fb fc : Ex) : Ex := fun env S => (fa env S).bind fun x S1 => (fb env S1).bind fun y S2 => (f x y S2).bind fun z S3 => match z with
  | .bl true => (fc env S3).bind fun w S4 => g y w S4
  | .bl false => .ok (.bl false) S3
  | _ => .bad

section
variable (X : Cx) (cl : Nat → Addr)
def Op2 (r : R2) (f : D → D → Sto → R D) : Prop := ∀ (W : WX) (io : List Addr) (om : Own) (H0 H : Hp) (env : Env) (S : Sto) (σ : L2.St) (Q : VK) (p1 p2 : Bool) (x y : D) (vx vy : V), Rel X.K cl io om H0 H env S σ → rD X.K cl p1 io H0 H x vx → rD X.K cl p2 io H0 H y vy →
  Post X.K cl (rD X.K cl true) W io H0 H σ Q (f x y S) → r vx vy H Q
end
section
variable {X : Cx} {cl : Nat → Addr} {W : WX} {e a b c : Expr} {pos : Pos} {K : PySem.W.Frag} {io : List Addr} {om : Own} {H0 H : Hp} {env : Env} {S : Sto} {σ : L2.St} {Q : VK}
theorem mk_post {α : Type} {rp : List Addr → Hp → Hp → D → α → Prop} {Q : α → Hp → Prop} {k : Bool} {d : D} (h : Post K cl rp W io H0 H σ Q (mk k d S)) : k = true ∧ Post K cl rp W io H0 H σ Q (.ok d S) := by
  unfold mk at h
  cases k with
  | true => exact ⟨rfl, h⟩
  | false => exact h.elim
theorem opt_post {α β : Type} {rp : List Addr → Hp → Hp → D → α → Prop} {Q : α → Hp → Prop} {k : Option β} {d : β → D} (h : Post K cl rp W io H0 H σ Q (opt k d S)) : ∃ x, k = some x ∧ Post K cl rp W io H0 H σ Q (.ok (d x) S) := by
  unfold opt at h
  cases k with
  | some x => exact ⟨x, rfl, h⟩
  | none => exact h.elim
/-- a new tuple, a new list as a value -/
theorem Post.newT (R0 : Rel K cl io om H0 H env S σ) {ds : List D} {vs : List V} (r : RepL K cl io H0 ds vs) (h : Post K cl (rD K cl true) W io H0 H σ Q (.ok (.tup ds) S)) : ∀ p, H p = none → Q (.ref p) (upd H p (.tup vs)) := fun p hp => by
  obtain ⟨st, ev⟩ := R0.st.new0 hp (.tup vs)
  exact h.done_ev ev st (.inl ⟨p, vs, rfl, SqT.of upd_same, RepL.mono ev.pre ev.h0 _ _ r⟩)
theorem Post.newL (R0 : Rel K cl io om H0 H env S σ) {ds : List D} {vs : List V} (r : RepL K cl io H0 ds vs) (h : Post K cl (rD K cl true) W io H0 H σ Q (.ok (.lst ds) S)) : ∀ p, H p = none → Q (.ref p) (upd H p (.lst vs)) := fun p hp => by
  obtain ⟨st, ev⟩ := R0.st.new0 hp (.lst vs)
  exact h.done_ev ev st (.inl ⟨p, vs, rfl, upd_same, RepL.mono ev.pre ev.h0 _ _ r⟩)
theorem okL_le {n : Nat} (h : okL n = true) : n ≤ sizeLine := of_decide_eq_true h

theorem o_add : Op2 X cl (fun x y H Q => (∃ i j, x = .int i ∧ y = .int j ∧ Q (.int (i + j)) H) ∨ (∃ i j, x = .str i ∧ y = .str j ∧ i.length + j.length ≤ sizeLine ∧ Q (.str (i ++ j)) H) ∨ rCat x y H Q ∨ rCatA X.K x y H Q ∨ rAddB x y H Q) opAdd := by
  intro W io om H0 H env S σ Q p1 p2 x y vx vy R0 hx hy h
  unfold opAdd at h
  split at h
  · rw [hx.int, hy.int]
    exact .inl ⟨_, _, rfl, rfl, h.done R0 (.inl rfl)⟩
  · obtain ⟨hl, h⟩ := mk_post h
    rw [hx.str, hy.str]
    exact .inr (.inl ⟨_, _, rfl, rfl, okL_le hl, h.done R0 (.inl rfl)⟩)
  · obtain ⟨hl, h⟩ := mk_post h
    obtain ⟨a, vs, rfl, ha, ra⟩ := hx.lst R0.st
    obtain ⟨b, ws, rfl, hb, rb⟩ := hy.lst R0.st
    refine .inr (.inr (.inl ⟨a, b, vs, ws, rfl, rfl, ha, hb, by rw [← ra.length, ← rb.length]; exact okL_le hl, Post.newL R0 (ra.append rb) h⟩))
  · obtain ⟨hl, h⟩ := mk_post h
    obtain ⟨a, vs, rfl, ha, ra⟩ := hx.tup R0.st
    obtain ⟨b, ws, rfl, hb, rb⟩ := hy.tup R0.st
    refine .inr (.inr (.inr (.inl ⟨a, b, vs, ws, rfl, rfl, ha, hb, by rw [← ra.length, ← rb.length]; exact okL_le hl, fun e => ?_, fun _ e => ?_, fun _ _ => Post.newT R0 (ra.append rb) h⟩)))
    · subst e
      have := ra.length
      simp at this; subst this
      exact h.done R0 (.inl (by
        rcases hy with hy | ⟨_, _, _, _, e, _⟩
        · exact hy
        · cases e))
    · subst e
      have := rb.length
      simp at this; subst this
      rw [List.append_nil] at h
      exact h.done R0 (.inl (by
        rcases hx with hx | ⟨_, _, _, _, e, _⟩
        · exact hx
        · cases e))
  · rw [hx.bl, hy.int]
    exact .inr (.inr (.inr (.inr (.inl ⟨_, _, rfl, rfl, h.done R0 (.inl rfl)⟩))))
  · rw [hx.int, hy.bl]
    exact .inr (.inr (.inr (.inr (.inr ⟨_, _, rfl, rfl, h.done R0 (.inl rfl)⟩))))
  · exact h.elim
theorem o_sub : Op2 X cl (fun x y H Q => (∃ i j, x = .int i ∧ y = .int j ∧ Q (.int (i - j)) H) ∨ rSubB x y H Q) opSub := by
  intro W io om H0 H env S σ Q p1 p2 x y vx vy R0 hx hy h
  unfold opSub at h
  split at h
  · rw [hx.int, hy.int]
    exact .inl ⟨_, _, rfl, rfl, h.done R0 (.inl rfl)⟩
  · rw [hx.bl, hy.int]
    exact .inr (.inl ⟨_, _, rfl, rfl, h.done R0 (.inl rfl)⟩)
  · rw [hx.int, hy.bl]
    exact .inr (.inr ⟨_, _, rfl, rfl, h.done R0 (.inl rfl)⟩)
  · exact h.elim
theorem o_mul : Op2 X cl (fun x y H Q => rI CMulW (fun i j => .int (i * j)) x y H Q ∨ (rRep x y H Q ∨ (rRepT X.K x y H Q ∨ (rRepS x y H Q ∨ rRepT01 X.K x y H Q)))) opMul := by
  intro W io om H0 H env S σ Q p1 p2 x y vx vy R0 hx hy h
  unfold opMul at h
  split at h
  · obtain ⟨hl, h⟩ := mk_post h
    rw [hx.int, hy.int]
    have hm : CMulW _ _ := of_decide_eq_true (p := _ < _) hl
    exact .inl ⟨_, _, rfl, rfl, hm, h.done R0 (.inl rfl)⟩
  · obtain ⟨hl, h⟩ := mk_post h
    obtain ⟨h1, h2, h3⟩ := of_decide_eq_true hl
    obtain ⟨a, vs, rfl, ha, ra⟩ := hx.lst R0.st
    rw [hy.int]
    refine .inr (.inl ⟨a, _, vs, rfl, rfl, ha, h1, h2, by rw [← ra.length]; exact h3, Post.newL R0 ?_ h⟩)
    have rep : ∀ n : Nat, RepL X.K cl io H0 (List.replicate n _).flatten (List.replicate n vs).flatten := fun n => by
      induction n with
      | zero => exact .nil
      | succ n ih =>
        rw [List.replicate_succ, List.replicate_succ, List.flatten_cons, List.flatten_cons]
        exact ra.append ih
    exact rep _
  · obtain ⟨hl, h⟩ := mk_post h
    rename_i k0 S0
    obtain ⟨h1, h2, h3, h4⟩ := of_decide_eq_true hl
    obtain ⟨a, vs, rfl, ha, ra⟩ := hx.tup R0.st
    rw [hy.int]
    have rep : ∀ n : Nat, RepL X.K cl io H0 (List.replicate n _).flatten (List.replicate n vs).flatten := fun n => by
      induction n with
      | zero => exact .nil
      | succ n ih =>
        rw [List.replicate_succ, List.replicate_succ, List.flatten_cons, List.flatten_cons]
        exact ra.append ih
    have hne : vs ≠ [] := fun e => by rw [ra.length, e] at h1; exact absurd h1 (by decide)
    rcases (by omega : k0 = 1 ∨ k0 = 0 ∨ 2 ≤ k0) with rfl | rfl | h5
    · refine .inr (.inr (.inr (.inr ⟨a, _, vs, rfl, rfl, ha, hne, .inl ⟨rfl, ?_⟩⟩)))
      have e1 : ∀ l : List D, (List.replicate (1 : Int).toNat l).flatten = l := fun l => List.append_nil l
      rw [e1] at h
      rcases hx with hx | ⟨_, es, a', vs', e, _⟩
      · exact h.done R0 (.inl hx)
      · cases e
    · exact .inr (.inr (.inr (.inr ⟨a, _, vs, rfl, rfl, ha, hne, .inr ⟨rfl, Post.newT R0 (ds := []) .nil h⟩⟩)))
    · exact .inr (.inr (.inl ⟨a, _, vs, rfl, rfl, ha, hne, h5, h3, by rw [← ra.length]; exact h4, Post.newT R0 (rep _) h⟩))
  · obtain ⟨hl, h⟩ := mk_post h
    obtain ⟨h1, h2, h3⟩ := of_decide_eq_true hl
    rw [hx.str, hy.int]
    exact .inr (.inr (.inr (.inl ⟨_, _, rfl, rfl, h1, h2, h3, h.done R0 (.inl rfl)⟩)))
  · exact h.elim
theorem o_fdiv : Op2 X cl (rI CDivW fun i j => .int (i / j)) opFdiv := by
  intro W io om H0 H env S σ Q p1 p2 x y vx vy R0 hx hy h
  unfold opFdiv at h
  split at h
  · obtain ⟨hl, h⟩ := mk_post h
    unfold okDiv at hl
    rw [Bool.and_eq_true] at hl
    rw [hx.int, hy.int]
    exact ⟨_, _, rfl, rfl, ⟨of_decide_eq_true hl.1, of_decide_eq_true hl.2⟩, h.done R0 (.inl rfl)⟩
  · exact h.elim
theorem o_mod : Op2 X cl (rI (fun _ j => 0 < j) fun i j => .int (i % j)) opMod := by
  intro W io om H0 H env S σ Q p1 p2 x y vx vy R0 hx hy h
  unfold opMod at h
  split at h
  · obtain ⟨hl, h⟩ := mk_post h
    rw [hx.int, hy.int]
    exact ⟨_, _, rfl, rfl, of_decide_eq_true hl, h.done R0 (.inl rfl)⟩
  · exact h.elim
theorem o_pow : Op2 X cl (rI CPow fun i j => .int (i ^ j.toNat)) opPow := by
  intro W io om H0 H env S σ Q p1 p2 x y vx vy R0 hx hy h
  unfold opPow at h
  split at h
  · obtain ⟨hl, h⟩ := mk_post h
    rw [hx.int, hy.int]
    exact ⟨_, _, rfl, rfl, (by unfold CPow; simpa only [decide_eq_true_eq] using hl), h.done R0 (.inl rfl)⟩
  · exact h.elim
theorem o_lt : Op2 X cl (fun x y H Q => rI0 (fun i j => .bl (decide (i < j))) x y H Q ∨ (∃ i j, x = .str i ∧ y = .str j ∧ Q (.bl (decide (i.cps.toList < j.cps.toList))) H)) cLt := by
  intro W io om H0 H env S σ Q p1 p2 x y vx vy R0 hx hy h
  unfold cLt at h
  split at h
  · rw [hx.int, hy.int]
    exact .inl ⟨_, _, rfl, rfl, h.done R0 (.inl rfl)⟩
  · rw [hx.str, hy.str]
    exact .inr ⟨_, _, rfl, rfl, h.done R0 (.inl rfl)⟩
  · exact h.elim
theorem o_le : Op2 X cl (rI0 fun i j => .bl (decide (i ≤ j))) cLe := by
  intro W io om H0 H env S σ Q p1 p2 x y vx vy R0 hx hy h
  unfold cLe at h
  split at h
  · rw [hx.int, hy.int]
    exact ⟨_, _, rfl, rfl, h.done R0 (.inl rfl)⟩
  · exact h.elim
theorem o_gt : Op2 X cl (rI0 fun i j => .bl (decide (j < i))) cGt := by
  intro W io om H0 H env S σ Q p1 p2 x y vx vy R0 hx hy h
  unfold cGt at h
  split at h
  · rw [hx.int, hy.int]
    exact ⟨_, _, rfl, rfl, h.done R0 (.inl rfl)⟩
  · exact h.elim
theorem o_ge : Op2 X cl (rI0 fun i j => .bl (decide (j ≤ i))) cGe := by
  intro W io om H0 H env S σ Q p1 p2 x y vx vy R0 hx hy h
  unfold cGe at h
  split at h
  · rw [hx.int, hy.int]
    exact ⟨_, _, rfl, rfl, h.done R0 (.inl rfl)⟩
  · exact h.elim
mutual
theorem dp_of {K : PySem.W.Frag} {cl : Nat → Addr} {io : List Addr} {H : Hp} : ∀ (d : D) (v : V), Rep K cl io H d v → pure d = true → Dp K H v (toPy d)
  | .non, _, h, _ => by cases h; exact .non
  | .bl b, _, h, _ => by cases h; exact .bl b
  | .int b, _, h, _ => by cases h; exact .int b
  | .str b, _, h, _ => by cases h; exact .str b
  | .tup ds, _, h, p => by
    obtain ⟨a, vs, rfl, q, r⟩ := h
    exact .tup q (dps_of ds vs r p)
  | .lst ds, _, h, p => by
    obtain ⟨a, vs, rfl, q, r⟩ := h
    exact .lst (SqL.of q) (dps_of ds vs r p)
  | .frl _, _, _, p => by cases p
  | .ins _ _ _, _, _, p => by cases p
  | .obj _, _, _, p => by cases p
theorem dps_of {K : PySem.W.Frag} {cl : Nat → Addr} {io : List Addr} {H : Hp} : ∀ (ds : List D) (vs : List V), RepL K cl io H ds vs → pureL ds = true → DpAll K H vs (toPyL ds)
  | [], _, h, _ => by cases h; exact .nil
  | d :: ds, _, h, p => by
    obtain ⟨v, r, rfl, h1, h2⟩ := h
    rw [pureL, Bool.and_eq_true] at p
    exact .cons (dp_of d v h1 p.1) (dps_of ds r h2 p.2)
end
theorem dp_rD (st : StR K cl io H0 H S) {p : Bool} {d : D} {v : V} (h : rD K cl p io H0 H d v) (q : pure d = true) : Dp K H v (toPy d) := by
  rcases h with h | ⟨_, ds, a, vs, rfl, rfl, h1, _, h3⟩
  · exact dp_of d v (Rep.mono (.refl _) st.sub d v h) q
  · exact .lst (SqL.of h1) (dps_of ds vs (RepL.mono (.refl _) st.sub _ _ h3) q)
theorem eqD_post {p1 p2 : Bool} {x y : D} {vx vy : V} (st : StR K cl io H0 H S) (hx : rD K cl p1 io H0 H x vx) (hy : rD K cl p2 io H0 H y vy) {k : Bool} (h : eqD x y = some k) :
    (scal vx vy = true ∧ k = decide (vx = vy)) ∨ ∃ d e, Dp K H vx d ∧ Dp K H vy e ∧ SeqAt.shaped d = true ∧ SeqAt.shaped e = true ∧ k = PyData.eqv d e := by
  unfold eqD at h
  split at h
  · rw [hx.int, hy.int]
    refine .inl ⟨rfl, ?_⟩
    cases h
    rw [dec_int]
    exact (Bool.beq_eq_decide_eq _ _).symm
  · rw [hx.str, hy.str]
    refine .inl ⟨rfl, ?_⟩
    cases h
    rw [dec_str]
    exact (Bool.beq_eq_decide_eq _ _).symm
  · split at h
    · rename_i q
      rw [Bool.and_eq_true] at q
      obtain ⟨q1, q2⟩ := q
      unfold okEq at q1 q2
      rw [Bool.and_eq_true] at q1 q2
      cases h
      exact .inr ⟨_, _, dp_rD st hx q1.1, dp_rD st hy q2.1, q1.2, q2.2, rfl⟩
    · cases h
theorem o_eq : Op2 X cl (fun x y H Q => rEq x y H Q ∨ rEqD X.K x y H Q) cEq := by
  intro W io om H0 H env S σ Q p1 p2 x y vx vy R0 hx hy h
  obtain ⟨k, e, h⟩ := opt_post h
  have q := h.done_bl R0
  rcases eqD_post R0.st hx hy e with ⟨e1, rfl⟩ | ⟨d, e', h1, h2, h3, h4, rfl⟩
  · exact .inl ⟨e1, q⟩
  · exact .inr ⟨d, e', h1, h2, h3, h4, q⟩
theorem o_ne : Op2 X cl (fun x y H Q => rNe x y H Q ∨ rNeD X.K x y H Q) cNe := by
  intro W io om H0 H env S σ Q p1 p2 x y vx vy R0 hx hy h
  obtain ⟨k, e, h⟩ := opt_post h
  have q := h.done_bl R0
  rcases eqD_post R0.st hx hy e with ⟨e1, rfl⟩ | ⟨d, e', h1, h2, h3, h4, rfl⟩
  · exact .inl ⟨e1, q⟩
  · exact .inr ⟨d, e', h1, h2, h3, h4, q⟩
theorem isNon_v {p : Bool} {d : D} {v : V} (h : rD K cl p io H0 H d v) : decide (v = .non) = isNon d := by
  cases d with
  | non => rw [h.non]; rfl
  | bl b => rw [h.bl]; rfl
  | int b => rw [h.int]; rfl
  | str b => rw [h.str]; rfl
  | tup ds => rcases h with ⟨a, vs, rfl, _⟩ | ⟨_, _, _, _, e, _⟩; rfl; cases e
  | lst ds => rcases h with ⟨a, vs, rfl, _⟩ | ⟨_, _, _, _, _, rfl, _⟩ <;> rfl
  | frl ds => rcases h with ⟨a, vs, rfl, _⟩ | ⟨_, _, _, _, e, _⟩; rfl; cases e
  | ins c ks ds => rcases h with ⟨a, dx, vs, rfl, _⟩ | ⟨_, _, _, _, e, _⟩; rfl; cases e
  | obj n => rcases h with ⟨a, rfl, _⟩ | ⟨_, _, _, _, e, _⟩; rfl; cases e
theorem o_is : Op2 X cl (fun x y H Q => (y = .non ∧ Q (.bl (decide (x = .non))) H) ∨ rIsB x y H Q) cIs := by
  intro W io om H0 H env S σ Q p1 p2 x y vx vy R0 hx hy h
  unfold cIs at h
  split at h
  · exact .inl ⟨hy.non, h.done R0 (.inl (by rw [isNon_v hx]; rfl))⟩
  · split at h
    · exact .inr ⟨_, _, hx.bl, hy.bl, h.done R0 (.inl rfl)⟩
    · exact h.elim
  · exact h.elim
theorem o_isnot : Op2 X cl (fun x y H Q => (y = .non ∧ Q (.bl (!decide (x = .non))) H) ∨ rNotB x y H Q) cIsNot := by
  intro W io om H0 H env S σ Q p1 p2 x y vx vy R0 hx hy h
  unfold cIsNot at h
  split at h
  · exact .inl ⟨hy.non, h.done R0 (.inl (by rw [isNon_v hx]; rfl))⟩
  · split at h
    · exact .inr ⟨_, _, hx.bl, hy.bl, h.done R0 (.inl rfl)⟩
    · exact h.elim
  · exact h.elim
theorem flat_v {d : D} {v : V} (h : Rep K cl io H d v) (f : flat d = true) : flatV v = true ∧ ∀ {e : D} {w : V}, Rep K cl io H e w → flat e = true → eqV v w = feq d e := by
  cases d with
  | non => cases h; refine ⟨rfl, fun {e w} he fe => ?_⟩; cases e <;> first | (cases fe; done) | (cases he; rfl)
  | bl b => cases h; refine ⟨rfl, fun {e w} he fe => ?_⟩; cases e <;> first | (cases fe; done) | (cases he; rfl)
  | int b => cases h; refine ⟨rfl, fun {e w} he fe => ?_⟩; cases e <;> first | (cases fe; done) | (cases he; rfl)
  | str b => cases h; refine ⟨rfl, fun {e w} he fe => ?_⟩; cases e <;> first | (cases fe; done) | (cases he; rfl)
  | _ => cases f
theorem flat_all {x : D} {vx : V} (hx : Rep K cl io H x vx) (fx : flat x = true) : ∀ {ds : List D} {vs : List V}, RepL K cl io H ds vs → ds.all flat = true → vs.all flatV = true ∧ inV vx vs = inL x ds
  | [], _, h, _ => by cases h; exact ⟨rfl, rfl⟩
  | d :: ds, _, h, f => by
    obtain ⟨v, r, rfl, h1, h2⟩ := h
    rw [List.all_cons, Bool.and_eq_true] at f
    obtain ⟨i1, i2⟩ := flat_all hx fx h2 f.2
    obtain ⟨j1, j2⟩ := flat_v h1 f.1
    refine ⟨by rw [List.all_cons, j1, i1]; rfl, ?_⟩
    show (v :: r).any (fun y => eqV y vx) = (d :: ds).any (fun y => feq y x)
    rw [List.any_cons, List.any_cons, j2 hx fx]
    congr 1
def rInDS (K : PySem.W.Frag) (neg : Bool) : R2 := fun x y H Q => ∃ d ds, Dp K H x d ∧ (Dp K H y (.list ds) ∨ Dp K H y (.tuple ds)) ∧ SeqAt.shaped d = true ∧ SeqAt.shaped (.list ds) = true ∧ Q (.bl (if neg then !(ds.any fun z => PyData.eqv z d) else ds.any fun z => PyData.eqv z d)) H
def rInA (K : PySem.W.Frag) (neg : Bool) : R2 := fun x y H Q => rIn K neg x y H Q ∨ (∃ i j, x = .str i ∧ y = .str j ∧ Q (.bl (if neg then !(!(Builtin.Str.occurrences j i 0 j.length 1).isEmpty) else !(Builtin.Str.occurrences j i 0 j.length 1).isEmpty)) H) ∨ rInDS K neg x y H Q
theorem shaped_tl {ds : List PyData} (h : SeqAt.shaped (.list ds) = true) : PyData.canLayAll0 ds = true := SeqAt.canLay_of_shaped h
theorem op_inDS (hu : X.A.units + 65 < cLine) : OpR X (compareOp .In) (rInDS X.K false) := by
  intro pins s σ H x y v u Q I rx ry h
  obtain ⟨d, ds, hd, he, sd, se, q⟩ := h
  obtain ⟨as, r1⟩ := Dp.reads I d x v hd rx
  rcases he with he | he
  · obtain ⟨bs, r2⟩ := Dp.reads I (.list ds) y u he ry
    exact SeqAt.in_list_reads r2 r1 (SeqAt.canLay_of_shaped se) (SeqAt.canLay_of_shaped sd) (room_in_shaped sd hu) ⟨.bl _, H, I, rfl, q⟩
  · obtain ⟨bs, r2⟩ := Dp.reads I (.tuple ds) y u he ry
    exact SeqAt.in_tuple_reads r2 r1 (SeqAt.canLay_of_shaped se) (SeqAt.canLay_of_shaped sd) (room_in_shaped sd hu) ⟨.bl _, H, I, rfl, q⟩
theorem op_notInDS (hu : X.A.units + 65 < cLine) : OpR X (compareOp .NotIn) (rInDS X.K true) := by
  intro pins s σ H x y v u Q I rx ry h
  obtain ⟨d, ds, hd, he, sd, se, q⟩ := h
  obtain ⟨as, r1⟩ := Dp.reads I d x v hd rx
  rcases he with he | he
  · obtain ⟨bs, r2⟩ := Dp.reads I (.list ds) y u he ry
    exact SeqAt.notIn_list_reads r2 r1 (SeqAt.canLay_of_shaped se) (SeqAt.canLay_of_shaped sd) (room_in_shaped sd hu) ⟨.bl _, H, I, rfl, q⟩
  · obtain ⟨bs, r2⟩ := Dp.reads I (.tuple ds) y u he ry
    exact SeqAt.notIn_tuple_reads r2 r1 (SeqAt.canLay_of_shaped se) (SeqAt.canLay_of_shaped sd) (room_in_shaped sd hu) ⟨.bl _, H, I, rfl, q⟩
theorem flat_rep {p : Bool} {d : D} {v : V} (h : rD K cl p io H0 H d v) (f : flat d = true) : Rep K cl io H0 d v := by
  rcases h with h | ⟨_, _, _, _, e, _⟩
  · exact h
  · subst e; cases f
theorem okEq_iff {d : D} (h : okEq d = true) : pure d = true ∧ SeqAt.shaped (toPy d) = true := Bool.and_eq_true_iff.mp h
theorem inD_post {p1 p2 : Bool} {x y : D} {vx vy : V} (st : StR K cl io H0 H S) (hx : rD K cl p1 io H0 H x vx) (hy : rD K cl p2 io H0 H y vy) {k neg : Bool} (h : inD x y = some k) (q : Q (.bl (if neg then !k else k)) H) : rInA K neg vx vy H Q := by
  unfold inD at h
  split at h
  · rename_i ds
    unfold inGen at h
    split at h
    · rename_i f
      rw [Bool.and_eq_true] at f
      obtain ⟨a, vs, rfl, ha, ra⟩ := hy.lst st
      have rx := flat_rep hx f.1
      obtain ⟨i1, i2⟩ := flat_all rx f.1 ra f.2
      cases h
      exact .inl ⟨a, vs, rfl, .inl (SqL.of ha), (flat_v rx f.1).1, i1, by rw [i2]; exact q⟩
    · split at h
      · rename_i f
        rw [Bool.and_eq_true] at f
        cases h
        obtain ⟨x1, x2⟩ := okEq_iff f.1
        obtain ⟨y1, y2⟩ := okEq_iff f.2
        refine .inr (.inr ⟨_, _, dp_rD st hx x1, .inl ?_, x2, ?_, q⟩)
        · have := dp_rD st hy y1; simpa [toPy] using this
        · simpa [toPy] using y2
      · cases h
  · rename_i ds
    unfold inGen at h
    split at h
    · rename_i f
      rw [Bool.and_eq_true] at f
      obtain ⟨a, vs, rfl, ha, ra⟩ := hy.tup st
      have rx := flat_rep hx f.1
      obtain ⟨i1, i2⟩ := flat_all rx f.1 ra f.2
      cases h
      exact .inl ⟨a, vs, rfl, .inr ha, (flat_v rx f.1).1, i1, by rw [i2]; exact q⟩
    · split at h
      · rename_i f
        rw [Bool.and_eq_true] at f
        cases h
        obtain ⟨x1, x2⟩ := okEq_iff f.1
        obtain ⟨y1, y2⟩ := okEq_iff f.2
        have y1' : pure (.tup ds) = true := by simpa [pure] using y1
        refine .inr (.inr ⟨_, _, dp_rD st hx x1, .inr ?_, x2, ?_, q⟩)
        · have := dp_rD st hy y1'; simpa [toPy] using this
        · simpa [toPy] using y2
      · cases h
  · cases h
    rw [hx.str, hy.str]
    exact .inr (.inl ⟨_, _, rfl, rfl, q⟩)
  · cases h
theorem o_in : Op2 X cl (rInA X.K false) cIn := by
  intro W io om H0 H env S σ Q p1 p2 x y vx vy R0 hx hy h
  obtain ⟨k, e, h⟩ := opt_post h
  exact inD_post R0.st hx hy e (h.done_bl R0)
theorem o_notin : Op2 X cl (rInA X.K true) cNotIn := by
  intro W io om H0 H env S σ Q p1 p2 x y vx vy R0 hx hy h
  obtain ⟨k, e, h⟩ := opt_post h
  exact inD_post R0.st hx hy e (h.done_bl R0)
theorem op_inA (hu : X.A.units + 65 < cLine) : OpR X (compareOp .In) (rInA X.K false) := op_in_seq.or (op_in_str.or (op_inDS hu))
theorem op_notInA (hu : X.A.units + 65 < cLine) : OpR X (compareOp .NotIn) (rInA X.K true) := op_notIn_seq.or (op_notin_str.or (op_notInDS hu))

theorem tOp_of {r : R2} {f : D → D → Sto → R D} (hf : Op2 X cl r f) {p1 p2 : Bool} {fa fb : Ex} {σ : L2.St} {H : Hp} {Q : VK} (h : tG X.K cl (rD X.K cl true) W (eBin f fa fb) σ H Q) :
    tOp r (tG X.K cl (rD X.K cl p1) W fa) (tG X.K cl (rD X.K cl p2) W fb) σ H Q := by
  obtain ⟨io, om, H0, env, S, R0, h⟩ := h
  refine ⟨io, om, H0, env, S, R0, (Post.bind (rp := rD X.K cl p1) R0 h).mono fun vx H1 ⟨io1, H01, S1, x, e1, R1, q1, h1⟩ => ?_⟩
  refine ⟨io1, om, H01, env, S1, R1, (Post.bind (rp := rD X.K cl p2) R1 h1).mono fun vy H2 ⟨io2, H02, S2, y, e2, R2, q2, h2⟩ => ?_⟩
  exact hf W io2 om H02 H2 env S2 σ Q p1 p2 x y vx vy R2 (q1.ev e2) q2 h2
theorem d_bin {op : Operator} {r : R2} {f : D → D → Sto → R D} (ho : OpR X (binaryOp op) r) (hf : Op2 X cl r f) {p1 p2 : Bool} {fa fb : Ex} (ha : ED X cl W p1 a fa) (hb : ED X cl W p2 b fb) : ED X cl W true (.BinOp a op b pos) (eBin f fa fb) :=
  weakE (pe_op ho ha hb) fun _ _ _ h => tOp_of hf h
variable {p1 p2 : Bool} {fa fb fc : Ex}
theorem d_add (ha : ED X cl W p1 a fa) (hb : ED X cl W p2 b fb) : ED X cl W true (.BinOp a .Add b pos) (eBin opAdd fa fb) := d_bin (op_add.or (op_add_str.or (op_cat.or (op_catA.or op_addB)))) o_add ha hb
theorem d_sub (ha : ED X cl W p1 a fa) (hb : ED X cl W p2 b fb) : ED X cl W true (.BinOp a .Sub b pos) (eBin opSub fa fb) := d_bin (op_sub.or op_subB) o_sub ha hb
theorem d_mul (ha : ED X cl W p1 a fa) (hb : ED X cl W p2 b fb) : ED X cl W true (.BinOp a .Mult b pos) (eBin opMul fa fb) := d_bin (op_mulW.or (op_rep.or (op_repT.or (op_repS.or op_repT01)))) o_mul ha hb
theorem d_fdiv (ha : ED X cl W p1 a fa) (hb : ED X cl W p2 b fb) : ED X cl W true (.BinOp a .FloorDiv b pos) (eBin opFdiv fa fb) := d_bin op_fdivW o_fdiv ha hb
theorem d_mod (ha : ED X cl W p1 a fa) (hb : ED X cl W p2 b fb) : ED X cl W true (.BinOp a .Mod b pos) (eBin opMod fa fb) := d_bin op_mod o_mod ha hb
theorem d_pow (ha : ED X cl W p1 a fa) (hb : ED X cl W p2 b fb) : ED X cl W true (.BinOp a .Pow b pos) (eBin opPow fa fb) := d_bin op_pow o_pow ha hb
theorem d_neg (ha : ED X cl W p1 a fa) : ED X cl W true (.UnaryOp .USub a pos) (eNeg fa) := by
  refine weakE (pe_un un_neg ha) fun σ H Q ⟨io, om, H0, env, S, R0, h⟩ => ?_
  refine ⟨io, om, H0, env, S, R0, (Post.bind R0 h).mono fun vx H1 ⟨io1, H01, S1, x, e1, R1, q1, h1⟩ => ?_⟩
  split at h1
  · exact ⟨_, q1.int, h1.done R1 (.inl rfl)⟩
  · exact h1.elim
theorem d_cmp {op : CmpOp} {r : R2} {f : D → D → Sto → R D} (ho : OpR X (compareOp op) r) (hf : Op2 X cl r f) (ha : ED X cl W p1 a fa) (hb : ED X cl W p2 b fb) (hm : behindInMarks op b = false) : ED X cl W true (.Compare a [op] [b] pos) (eBin f fa fb) :=
  weakE (pe_cmpR ho ha hb hm) fun _ _ _ h => tOp_of hf h
/-- only truths come -/
def BoolF (f : D → D → Sto → R D) : Prop := ∀ x y S d S', f x y S = .ok d S' → ∃ k, d = .bl k
theorem eBin_ok {f : D → D → Sto → R D} {env : Env} {S S' : Sto} {d : D} (h : eBin f fa fb env S = .ok d S') : ∃ x y S2, f x y S2 = .ok d S' := by
  unfold eBin at h
  cases q : fa env S with
  | ok x S1 =>
    rw [q] at h
    cases q2 : fb env S1 with
    | ok y S2 =>
      simp only [R.bind, q2] at h
      exact ⟨x, y, S2, h⟩
    | exc e S2 => simp only [R.bind, q2] at h; cases h
    | bad => simp only [R.bind, q2] at h; cases h
  | exc e S2 => rw [q] at h; cases h
  | bad => rw [q] at h; cases h
theorem test_of {F : Ex} (hB : ∀ env S d S', F env S = .ok d S' → ∃ k, d = .bl k) {σ : L2.St} {H : Hp} {Q : Bool → Hp → Prop} (h : tG X.K cl rB W (tVal F) σ H Q) : tG X.K cl (rD X.K cl true) W F σ H fun x H' => ∃ k, x = .bl k ∧ Q k H' := by
  obtain ⟨io, om, H0, env, S, R0, h⟩ := h
  refine ⟨io, om, H0, env, S, R0, (Post.bindE R0 h).mono fun v H1 ⟨io1, H01, S1, x, e1, R1, q1, h1, eq⟩ => ?_⟩
  obtain ⟨k, rfl⟩ := hB _ _ _ _ eq
  exact ⟨k, q1.bl, h1.done R1 rfl⟩
theorem t_cmp {op : CmpOp} {r : R2} {f : D → D → Sto → R D} (ho : OpR X (compareOp op) r) (hf : Op2 X cl r f) (hB : BoolF f) (ha : ED X cl W p1 a fa) (hb : ED X cl W p2 b fb) (hm : behindInMarks op b = false) :
    TD X cl W (.Compare a [op] [b] pos) (tVal (eBin f fa fb)) :=
  weakT (pt_cmpR ho ha hb hm) fun σ H Q h => tOp_of hf (test_of (fun env S d S' q => by
    obtain ⟨_, _, _, q⟩ := eBin_ok q
    exact hB _ _ _ _ _ q) h)
theorem b_lt : BoolF cLt := fun x y S d S' h => by
  unfold cLt at h
  split at h <;> first | (cases h; exact ⟨_, rfl⟩) | cases h
theorem b_le : BoolF cLe := fun x y S d S' h => by
  unfold cLe at h
  split at h <;> first | (cases h; exact ⟨_, rfl⟩) | cases h
theorem b_gt : BoolF cGt := fun x y S d S' h => by
  unfold cGt at h
  split at h <;> first | (cases h; exact ⟨_, rfl⟩) | cases h
theorem b_ge : BoolF cGe := fun x y S d S' h => by
  unfold cGe at h
  split at h <;> first | (cases h; exact ⟨_, rfl⟩) | cases h
theorem b_opt {o : Option Bool} {f : Bool → Bool} {S S' : Sto} {d : D} (h : opt o (fun b => .bl (f b)) S = .ok d S') : ∃ k, d = .bl k := by
  unfold opt at h
  cases o with
  | some b => cases h; exact ⟨_, rfl⟩
  | none => cases h
theorem b_eq : BoolF cEq := fun x y S d S' h => b_opt (f := id) h
theorem b_ne : BoolF cNe := fun x y S d S' h => b_opt h
theorem b_in : BoolF cIn := fun x y S d S' h => b_opt (f := id) h
theorem b_notin : BoolF cNotIn := fun x y S d S' h => b_opt h
theorem b_is : BoolF cIs := fun x y S d S' h => by
  unfold cIs at h
  split at h <;> first | (cases h; exact ⟨_, rfl⟩) | (split at h <;> first | (cases h; exact ⟨_, rfl⟩) | cases h) | cases h
theorem b_isnot : BoolF cIsNot := fun x y S d S' h => by
  unfold cIsNot at h
  split at h <;> first | (cases h; exact ⟨_, rfl⟩) | (split at h <;> first | (cases h; exact ⟨_, rfl⟩) | cases h) | cases h
/-- comparisons as values, as tests -/
theorem d_lt (ha : ED X cl W p1 a fa) (hb : ED X cl W p2 b fb) : ED X cl W true (.Compare a [.Lt] [b] pos) (eBin cLt fa fb) := d_cmp (op_lt.or op_lt_str) o_lt ha hb (nomark _)
theorem d_le (ha : ED X cl W p1 a fa) (hb : ED X cl W p2 b fb) : ED X cl W true (.Compare a [.LtE] [b] pos) (eBin cLe fa fb) := d_cmp op_le o_le ha hb (nomark _)
theorem d_gt (ha : ED X cl W p1 a fa) (hb : ED X cl W p2 b fb) : ED X cl W true (.Compare a [.Gt] [b] pos) (eBin cGt fa fb) := d_cmp op_gt o_gt ha hb (nomark _)
theorem d_ge (ha : ED X cl W p1 a fa) (hb : ED X cl W p2 b fb) : ED X cl W true (.Compare a [.GtE] [b] pos) (eBin cGe fa fb) := d_cmp op_ge o_ge ha hb (nomark _)
theorem d_eq (hu : X.A.units + 64 < cLine) (ha : ED X cl W p1 a fa) (hb : ED X cl W p2 b fb) : ED X cl W true (.Compare a [.Eq] [b] pos) (eBin cEq fa fb) := d_cmp (op_eq.or (op_eqD hu)) o_eq ha hb (nomark _)
theorem d_ne (hu : X.A.units + 64 < cLine) (ha : ED X cl W p1 a fa) (hb : ED X cl W p2 b fb) : ED X cl W true (.Compare a [.NotEq] [b] pos) (eBin cNe fa fb) := d_cmp (op_ne.or (op_neD hu)) o_ne ha hb (nomark _)
theorem d_is (ha : ED X cl W p1 a fa) (hb : ED X cl W p2 b fb) : ED X cl W true (.Compare a [.Is] [b] pos) (eBin cIs fa fb) := d_cmp (op_isN.or op_isBl) o_is ha hb (nomark _)
theorem d_isnot (ha : ED X cl W p1 a fa) (hb : ED X cl W p2 b fb) : ED X cl W true (.Compare a [.IsNot] [b] pos) (eBin cIsNot fa fb) := d_cmp (op_notN.or op_notBl) o_isnot ha hb (nomark _)
theorem d_in (hu : X.A.units + 65 < cLine) (ha : ED X cl W p1 a fa) (hb : ED X cl W p2 b fb) (hm : behindInMarks .In b = false := by rfl) : ED X cl W true (.Compare a [.In] [b] pos) (eBin cIn fa fb) := d_cmp (op_inA hu) o_in ha hb hm
theorem d_notin (hu : X.A.units + 65 < cLine) (ha : ED X cl W p1 a fa) (hb : ED X cl W p2 b fb) (hm : behindInMarks .NotIn b = false := by rfl) : ED X cl W true (.Compare a [.NotIn] [b] pos) (eBin cNotIn fa fb) := d_cmp (op_notInA hu) o_notin ha hb hm
theorem t_lt (ha : ED X cl W p1 a fa) (hb : ED X cl W p2 b fb) : TD X cl W (.Compare a [.Lt] [b] pos) (tVal (eBin cLt fa fb)) := t_cmp (op_lt.or op_lt_str) o_lt b_lt ha hb (nomark _)
theorem t_le (ha : ED X cl W p1 a fa) (hb : ED X cl W p2 b fb) : TD X cl W (.Compare a [.LtE] [b] pos) (tVal (eBin cLe fa fb)) := t_cmp op_le o_le b_le ha hb (nomark _)
theorem t_gt (ha : ED X cl W p1 a fa) (hb : ED X cl W p2 b fb) : TD X cl W (.Compare a [.Gt] [b] pos) (tVal (eBin cGt fa fb)) := t_cmp op_gt o_gt b_gt ha hb (nomark _)
theorem t_ge (ha : ED X cl W p1 a fa) (hb : ED X cl W p2 b fb) : TD X cl W (.Compare a [.GtE] [b] pos) (tVal (eBin cGe fa fb)) := t_cmp op_ge o_ge b_ge ha hb (nomark _)
theorem t_eq (hu : X.A.units + 64 < cLine) (ha : ED X cl W p1 a fa) (hb : ED X cl W p2 b fb) : TD X cl W (.Compare a [.Eq] [b] pos) (tVal (eBin cEq fa fb)) := t_cmp (op_eq.or (op_eqD hu)) o_eq b_eq ha hb (nomark _)
theorem t_ne (hu : X.A.units + 64 < cLine) (ha : ED X cl W p1 a fa) (hb : ED X cl W p2 b fb) : TD X cl W (.Compare a [.NotEq] [b] pos) (tVal (eBin cNe fa fb)) := t_cmp (op_ne.or (op_neD hu)) o_ne b_ne ha hb (nomark _)
theorem t_is (ha : ED X cl W p1 a fa) (hb : ED X cl W p2 b fb) : TD X cl W (.Compare a [.Is] [b] pos) (tVal (eBin cIs fa fb)) := t_cmp (op_isN.or op_isBl) o_is b_is ha hb (nomark _)
theorem t_isnot (ha : ED X cl W p1 a fa) (hb : ED X cl W p2 b fb) : TD X cl W (.Compare a [.IsNot] [b] pos) (tVal (eBin cIsNot fa fb)) := t_cmp (op_notN.or op_notBl) o_isnot b_isnot ha hb (nomark _)
theorem t_in (hu : X.A.units + 65 < cLine) (ha : ED X cl W p1 a fa) (hb : ED X cl W p2 b fb) (hm : behindInMarks .In b = false := by rfl) : TD X cl W (.Compare a [.In] [b] pos) (tVal (eBin cIn fa fb)) := t_cmp (op_inA hu) o_in b_in ha hb hm
theorem t_notin (hu : X.A.units + 65 < cLine) (ha : ED X cl W p1 a fa) (hb : ED X cl W p2 b fb) (hm : behindInMarks .NotIn b = false := by rfl) : TD X cl W (.Compare a [.NotIn] [b] pos) (tVal (eBin cNotIn fa fb)) := t_cmp (op_notInA hu) o_notin b_notin ha hb hm
/-- a chain -/
theorem tChain_of {r r' : R2} {f f' : D → D → Sto → R D} (hf : Op2 X cl r f) (hf' : Op2 X cl r' f') (hB : BoolF f) {σ : L2.St} {H : Hp} {Q : VK} (h : tG X.K cl (rD X.K cl true) W (eChain f f' fa fb fc) σ H Q) :
    tChain r r' (tG X.K cl (rD X.K cl true) W fa) (tG X.K cl (rD X.K cl true) W fb) (tG X.K cl (rD X.K cl true) W fc) σ H Q := by
  obtain ⟨io, om, H0, env, S, R0, h⟩ := h
  refine ⟨io, om, H0, env, S, R0, (Post.bind (rp := rD X.K cl true) R0 h).mono fun vx H1 ⟨io1, H01, S1, x, e1, R1, q1, h1⟩ => ?_⟩
  refine ⟨io1, om, H01, env, S1, R1, (Post.bind (rp := rD X.K cl true) R1 h1).mono fun vy H2 ⟨io2, H02, S2, y, e2, R2, q2, h2⟩ => ?_⟩
  refine hf W io2 om H02 H2 env S2 σ _ true true x y vx vy R2 (q1.ev e2) q2 ((Post.bindE R2 h2).mono fun v H3 ⟨io3, H03, S3, z, e3, R3, q3, h3, eq⟩ => ?_)
  obtain ⟨k, rfl⟩ := hB _ _ _ _ _ eq
  refine ⟨k, q3.bl, ?_⟩
  cases k with
  | true =>
    refine iteT ⟨io3, om, H03, env, S3, R3, (Post.bind (rp := rD X.K cl true) R3 h3).mono fun vw H4 ⟨io4, H04, S4, w, e4, R4, q4, h4⟩ => ?_⟩
    exact hf' W io4 om H04 H4 env S4 σ Q true true y w vy vw R4 ((q2.ev e3).ev e4) q4 h4
  | false => exact iteF (h3.done_bl R3)
theorem bind_ok {α β : Type} {r : R α} {k : α → Sto → R β} {d : β} {S : Sto} (h : r.bind k = .ok d S) : ∃ x S1, r = .ok x S1 ∧ k x S1 = .ok d S := by
  cases r with
  | ok x S1 => exact ⟨x, S1, rfl, h⟩
  | exc _ _ => cases h
  | bad => cases h
theorem eChain_ok {f f' : D → D → Sto → R D} (hB' : BoolF f') {env : Env} {S S' : Sto} {d : D} (h : eChain f f' fa fb fc env S = .ok d S') : ∃ k, d = .bl k := by
  obtain ⟨x, S1, _, h⟩ := bind_ok h
  obtain ⟨y, S2, _, h⟩ := bind_ok h
  obtain ⟨z, S3, _, h⟩ := bind_ok h
  split at h
  · obtain ⟨w, S4, _, h⟩ := bind_ok h
    exact hB' _ _ _ _ _ h
  · cases h
    exact ⟨_, rfl⟩
  · cases h
section
variable (ha : ED X cl W true a fa) (hb : ED X cl W true b fb) (hc : ED X cl W true c fc)
include ha hb hc
theorem d_lele (hm : lastMarks [.LtE, .LtE] [b, c] = false := by with_unfolding_all rfl) : ED X cl W true (.Compare a [.LtE, .LtE] [b, c] pos) (eChain cLe cLe fa fb fc) := weakE (pe_chain op_le op_le ha hb hc hm) fun _ _ _ h => tChain_of o_le o_le b_le h
theorem d_lelt (hm : lastMarks [.LtE, .Lt] [b, c] = false := by with_unfolding_all rfl) : ED X cl W true (.Compare a [.LtE, .Lt] [b, c] pos) (eChain cLe cLt fa fb fc) := weakE (pe_chain op_le (op_lt.or op_lt_str) ha hb hc hm) fun _ _ _ h => tChain_of o_le o_lt b_le h
theorem d_ltlt (hm : lastMarks [.Lt, .Lt] [b, c] = false := by with_unfolding_all rfl) : ED X cl W true (.Compare a [.Lt, .Lt] [b, c] pos) (eChain cLt cLt fa fb fc) := weakE (pe_chain (op_lt.or op_lt_str) (op_lt.or op_lt_str) ha hb hc hm) fun _ _ _ h => tChain_of o_lt o_lt b_lt h
theorem t_lele (hm : lastMarks [.LtE, .LtE] [b, c] = false := by with_unfolding_all rfl) : TD X cl W (.Compare a [.LtE, .LtE] [b, c] pos) (tVal (eChain cLe cLe fa fb fc)) := weakT (pt_chain op_le op_le ha hb hc hm) fun _ _ _ h => tChain_of o_le o_le b_le (test_of (fun _ _ _ _ => eChain_ok b_le) h)
theorem t_lelt (hm : lastMarks [.LtE, .Lt] [b, c] = false := by with_unfolding_all rfl) : TD X cl W (.Compare a [.LtE, .Lt] [b, c] pos) (tVal (eChain cLe cLt fa fb fc)) := weakT (pt_chain op_le (op_lt.or op_lt_str) ha hb hc hm) fun _ _ _ h => tChain_of o_le o_lt b_le (test_of (fun _ _ _ _ => eChain_ok b_lt) h)
theorem t_ltlt (hm : lastMarks [.Lt, .Lt] [b, c] = false := by with_unfolding_all rfl) : TD X cl W (.Compare a [.Lt, .Lt] [b, c] pos) (tVal (eChain cLt cLt fa fb fc)) := weakT (pt_chain (op_lt.or op_lt_str) (op_lt.or op_lt_str) ha hb hc hm) fun _ _ _ h => tChain_of o_lt o_lt b_lt (test_of (fun _ _ _ _ => eChain_ok b_lt) h)
end

theorem isEmpty_len {α β : Type} {xs : List α} {ys : List β} (h : xs.length = ys.length) : (!xs.isEmpty) = !ys.isEmpty := by
  cases xs <;> cases ys <;> simp_all
theorem truth_v {p : Bool} {d : D} {v : V} {k : Bool} (st : StR K cl io H0 H S) (h : rD K cl p io H0 H d v) (e : truth d = some k) : TruV K v H k := by
  unfold truth at e
  split at e
  · cases e; rw [h.non]; rfl
  · cases e; rw [h.bl]; rfl
  · cases e; rw [h.int]; rfl
  · split at e
    · cases e
      rw [h.str]
      exact ⟨by assumption, rfl⟩
    · cases e
  · cases e
    obtain ⟨a, vs, rfl, ha, ra⟩ := h.lst st
    refine .inl ⟨vs, SqL.of ha, ?_⟩
    exact isEmpty_len ra.length
  · cases e
    obtain ⟨a, vs, rfl, ha, ra⟩ := h.frl st
    refine .inl ⟨vs, ha, ?_⟩
    exact isEmpty_len ra.length
  · cases e
    obtain ⟨a, vs, rfl, ha, ra⟩ := h.tup st
    refine .inr (.inl ⟨vs, ha, ?_⟩)
    exact isEmpty_len ra.length
  · cases e
theorem t_val (ha : ED X cl W p1 a fa) (he : ∀ whole, isTrue a X.env whole = (do let v ← whole; standAt a.pos; holding [v] (truthy v)) := by intro _; rfl) : TD X cl W a (tVal fa) := by
  refine weakT (pt_truth ha he) fun σ H Q ⟨io, om, H0, env, S, R0, h⟩ => ?_
  refine ⟨io, om, H0, env, S, R0, (Post.bind R0 h).mono fun vx H1 ⟨io1, H01, S1, x, e1, R1, q1, h1⟩ => ?_⟩
  split at h1
  · exact ⟨_, truth_v R1.st q1 (by assumption), h1.done R1 rfl⟩
  · exact h1.elim
variable {ta tb : Sem1 Bool} {rest : List Expr}
theorem w_and1 (ha : TD X cl W a ta) : PW X (.BoolOp .And [a] pos) (tG X.K cl rB W ta) := pw_and1 ha
theorem w_or1 (ha : TD X cl W a ta) : PW X (.BoolOp .Or [a] pos) (tG X.K cl rB W ta) := pw_or1 ha
theorem weakW {t t' : TT} (h : PW X e t) (q : ∀ σ H Q, t' σ H Q → t σ H Q) : PW X e t' := ⟨fun w pins s σ H Q I z => h.run w pins s σ H Q I (q σ H Q z)⟩
theorem w_and (ha : TD X cl W a ta) (hb : PW X (.BoolOp .And (b :: rest) pos) (tG X.K cl rB W tb)) : PW X (.BoolOp .And (a :: b :: rest) pos) (tG X.K cl rB W (tAnd ta tb)) := by
  refine weakW (pw_and ha hb) fun σ H Q ⟨io, om, H0, env, S, R0, h⟩ => ?_
  refine ⟨io, om, H0, env, S, R0, (Post.bind R0 h).mono fun k H1 ⟨io1, H01, S1, x, e1, R1, q1, h1⟩ => ?_⟩
  cases q1
  cases k with
  | true => exact iteT ⟨io1, om, H01, env, S1, R1, h1⟩
  | false => exact iteF (h1.done R1 rfl)
theorem w_or (ha : TD X cl W a ta) (hb : PW X (.BoolOp .Or (b :: rest) pos) (tG X.K cl rB W tb)) : PW X (.BoolOp .Or (a :: b :: rest) pos) (tG X.K cl rB W (tOr ta tb)) := by
  refine weakW (pw_or ha hb) fun σ H Q ⟨io, om, H0, env, S, R0, h⟩ => ?_
  refine ⟨io, om, H0, env, S, R0, (Post.bind R0 h).mono fun k H1 ⟨io1, H01, S1, x, e1, R1, q1, h1⟩ => ?_⟩
  cases q1
  cases k with
  | true => exact iteT (h1.done R1 rfl)
  | false => exact iteF ⟨io1, om, H01, env, S1, R1, h1⟩
theorem t_of {e : Expr} (h : PW X e (tG X.K cl rB W ta)) : TD X cl W e ta := h.pt
theorem t_not (ha : TD X cl W a ta) : TD X cl W (.UnaryOp .Not a pos) (tNot ta) := by
  refine weakT (pt_not ha) fun σ H Q ⟨io, om, H0, env, S, R0, h⟩ => ?_
  refine ⟨io, om, H0, env, S, R0, (Post.bind R0 h).mono fun k H1 ⟨io1, H01, S1, x, e1, R1, q1, h1⟩ => ?_⟩
  cases q1
  exact h1.done R1 rfl
theorem d_if (hc : TD X cl W c ta) (ha : ED X cl W p1 a fa) (hb : ED X cl W p1 b fb) : ED X cl W p1 (.IfExp c a b pos) (eIf ta fa fb) := by
  refine weakE (pe_ifExp hc ha hb) fun σ H Q ⟨io, om, H0, env, S, R0, h⟩ => ?_
  refine ⟨io, om, H0, env, S, R0, (Post.bind R0 h).mono fun k H1 ⟨io1, H01, S1, x, e1, R1, q1, h1⟩ => ?_⟩
  cases q1
  cases k with
  | true => exact iteT ⟨io1, om, H01, env, S1, R1, h1⟩
  | false => exact iteF ⟨io1, om, H01, env, S1, R1, h1⟩
theorem d_one {op : BoolOp} (ha : ED X cl W p1 a fa) : ED X cl W p1 (.BoolOp op [a] pos) fa := pe_one ha
theorem d_and (ha : ED X cl W p1 a fa) (hb : ED X cl W p1 (.BoolOp .And (b :: rest) pos) fb) : ED X cl W p1 (.BoolOp .And (a :: b :: rest) pos) (eAnd fa fb) := by
  refine weakE (pe_andT ha hb) fun σ H Q ⟨io, om, H0, env, S, R0, h⟩ => ?_
  refine ⟨io, om, H0, env, S, R0, (Post.bind R0 h).mono fun v H1 ⟨io1, H01, S1, x, e1, R1, q1, h1⟩ => ?_⟩
  cases ht : truth x with
  | some k =>
    simp only [ht] at h1
    refine ⟨k, truth_v R1.st q1 ht, ?_⟩
    cases k with
    | true => exact iteT ⟨io1, om, H01, env, S1, R1, h1⟩
    | false => exact iteF (h1.done R1 q1)
  | none => simp only [ht] at h1; exact h1.elim
theorem d_or (ha : ED X cl W p1 a fa) (hb : ED X cl W p1 (.BoolOp .Or (b :: rest) pos) fb) : ED X cl W p1 (.BoolOp .Or (a :: b :: rest) pos) (eOr fa fb) := by
  refine weakE (pe_orT ha hb) fun σ H Q ⟨io, om, H0, env, S, R0, h⟩ => ?_
  refine ⟨io, om, H0, env, S, R0, (Post.bind R0 h).mono fun v H1 ⟨io1, H01, S1, x, e1, R1, q1, h1⟩ => ?_⟩
  cases ht : truth x with
  | some k =>
    simp only [ht] at h1
    refine ⟨k, truth_v R1.st q1 ht, ?_⟩
    cases k with
    | true => exact iteT (h1.done R1 q1)
    | false => exact iteF ⟨io1, om, H01, env, S1, R1, h1⟩
  | none => simp only [ht] at h1; exact h1.elim
theorem d_not (ha : ED X cl W p1 a fa) : ED X cl W true (.UnaryOp .Not a pos) (eNot fa) := by
  refine weakE (pe_notT ha) fun σ H Q ⟨io, om, H0, env, S, R0, h⟩ => ?_
  refine ⟨io, om, H0, env, S, R0, (Post.bind R0 h).mono fun v H1 ⟨io1, H01, S1, x, e1, R1, q1, h1⟩ => ?_⟩
  cases ht : truth x with
  | some k =>
    simp only [ht] at h1
    exact ⟨k, truth_v R1.st q1 ht, h1.done_bl R1⟩
  | none => simp only [ht] at h1; exact h1.elim

theorem d_c {v : V} {d : D} (h : PE X e (tC v)) (r : Rep X.K cl [] (fun _ => none) d v) : ED X cl W true e (eC d) := by
  refine weakE h fun σ H Q ⟨io, om, H0, env, S, R0, h⟩ => ?_
  exact h.done R0 (.inl (Rep.mono (fun _ _ e => by simp at e) (fun _ _ e => by cases e) _ _ r))
theorem d_int {i : Int} {j : Nat} : ED X cl W true (.Constant (.int i) j pos) (eC (.int i)) := d_c pe_int rfl
theorem d_bl {i : Bool} {j : Nat} : ED X cl W true (.Constant (.bool i) j pos) (eC (.bl i)) := d_c pe_bl rfl
theorem d_non {j : Nat} : ED X cl W true (.Constant .none j pos) (eC .non) := d_c pe_non rfl
theorem d_str {i : Str} {j : Nat} : ED X cl W true (.Constant (.str i) j pos) (eC (.str i)) := d_c pe_str rfl
/-- a constant of the module -/
def GConst (K : PySem.W.Frag) (mg : Str → Option Value) (cl : Nat → Addr) (x : Str) (d : D) : Prop := ∃ u v, mg x = some u ∧ RelV v u ∧ Rep K cl [] (fun _ => none) d v
theorem d_glob {x : Str} {d : D} (h : GConst X.K X.mg cl x d) (hg : Gl X x := by rfl) (hd : (x == ("__debug__" : Str)) = false := by decide) : ED X cl W true (.Name x pos) (eC d) := by
  obtain ⟨u, v, h1, h2, h3⟩ := h
  exact d_c (pe_glob hg h1 h2 hd) h3
variable {es : List Expr} {fs : Sem1 (List D)}
theorem a_nil : AD X cl W p1 [] aNil := weakA pa_nil fun σ H Q ⟨io, om, H0, env, S, R0, h⟩ => h.done R0 rfl
theorem a_cons (ha : ED X cl W p1 a fa) (hr : AD X cl W p1 es fs) (hs : starEach (a :: es) X.env = (false, eval a X.env) :: starEach es X.env := by rfl) : AD X cl W p1 (a :: es) (aCons fa fs) := by
  refine weakA (pa_cons ha hr hs) fun σ H Q ⟨io, om, H0, env, S, R0, h⟩ => ?_
  refine ⟨io, om, H0, env, S, R0, (Post.bind R0 h).mono fun vx H1 ⟨io1, H01, S1, x, e1, R1, q1, h1⟩ => ?_⟩
  refine ⟨io1, om, H01, env, S1, R1, (Post.bind R1 h1).mono fun vy H2 ⟨io2, H02, S2, y, e2, R2, q2, h2⟩ => ?_⟩
  exact h2.done R2 ⟨_, _, rfl, q1.ev e2, q2⟩
theorem d_tup {k : Nat} (h : AD X cl W true es fs) : ED X cl W true (.Tuple es k pos) (eTup fs) := by
  refine weakE (pe_tup h) fun σ H Q ⟨io, om, H0, env, S, R0, h⟩ => ?_
  refine ⟨io, om, H0, env, S, R0, (Post.bind R0 h).mono fun vx H1 ⟨io1, H01, S1, x, e1, R1, q1, h1⟩ => ?_⟩
  obtain ⟨hl, h1⟩ := mk_post h1
  exact ⟨by rw [← q1.perm.length]; exact okL_le hl, Post.newT R1 q1.perm h1⟩
/-- a new list -/
theorem Post.newN {Hs : Hp} (hs : ∀ a, Hs a ≠ none → H a ≠ none) (R0 : Rel K cl io om H0 H env S σ) {ds : List D} {vs : List V} (r : RepL K cl io H0 ds vs) (h : Post K cl (rN K cl Hs) W io H0 H σ Q (.ok ds S)) : ∀ p, H p = none → Q (.ref p) (upd H p (.lst vs)) := fun p hp => by
  obtain ⟨st, ev⟩ := R0.st.new hp (.lst vs)
  refine h.done_ev ev st ⟨p, vs, rfl, upd_same, R0.st.free0 hp, fun m => R0.st.there m hp, ?_, r⟩
  cases q : Hs p with
  | none => rfl
  | some o => exact absurd hp (hs p (by simp [q]))
theorem n_lst (h : AD X cl W true es fs) : ND X cl W (.List es pos) (nLst fs) := by
  refine weakE (pe_lst h) fun σ H Q ⟨io, om, H0, env, S, R0, h⟩ => ?_
  refine ⟨io, om, H0, env, S, R0, (Post.bind R0 h).mono fun vx H1 ⟨io1, H01, S1, x, e1, R1, q1, h1⟩ => ?_⟩
  cases ho : okL x.length with
  | true =>
    simp only [ho] at h1
    exact ⟨by rw [← q1.perm.length]; exact okL_le ho, Post.newN e1.dom R1 q1.perm h1⟩
  | false => simp only [ho] at h1; exact h1.elim
/-- two lists, one behind the other, as a new list -/
def catD : D → D → Option (List D)
  | .lst a, .lst b => if okL (a.length + b.length) then some (a ++ b) else none
  | _, _ => none
def nCat (fa fb : Ex) : Sem1 (List D) := fun env S => (fa env S).bind fun x S1 => (fb env S1).bind fun y S2 => match catD x y with
  | some ds => .ok ds S2
  | none => .bad
theorem catD_some {x y : D} {ds : List D} (h : catD x y = some ds) : ∃ a b, x = .lst a ∧ y = .lst b ∧ okL (a.length + b.length) = true ∧ ds = a ++ b := by
  unfold catD at h
  split at h
  · split at h
    · rename_i q
      cases h
      exact ⟨_, _, rfl, rfl, q, rfl⟩
    · cases h
  · cases h
theorem n_cat (ha : ED X cl W p1 a fa) (hb : ED X cl W p2 b fb) : ND X cl W (.BinOp a .Add b pos) (nCat fa fb) := by
  refine weakE (pe_op op_cat ha hb) fun σ H Q ⟨io, om, H0, env, S, R0, h⟩ => ?_
  refine ⟨io, om, H0, env, S, R0, (Post.bind (rp := rD X.K cl p1) R0 h).mono fun vx H1 ⟨io1, H01, S1, x, e1, R1, q1, h1⟩ => ?_⟩
  refine ⟨io1, om, H01, env, S1, R1, (Post.bind (rp := rD X.K cl p2) R1 h1).mono fun vy H2 ⟨io2, H02, S2, y, e2, R2, q2, h2⟩ => ?_⟩
  cases hc : catD x y with
  | none => rw [hc] at h2; exact h2.elim
  | some ds =>
    rw [hc] at h2
    obtain ⟨l, m, rfl, rfl, ho, rfl⟩ := catD_some hc
    obtain ⟨pa, vs, rfl, ha, ra⟩ := (q1.ev e2).lst R2.st
    obtain ⟨pb, ws, rfl, hb, rb⟩ := q2.lst R2.st
    exact ⟨pa, pb, vs, ws, rfl, rfl, ha, hb, by rw [← ra.length, ← rb.length]; exact okL_le ho, Post.newN (fun a q => e2.dom _ (e1.dom _ q)) R2 (ra.append rb) h2⟩
/-- a list so many times, as a new list -/
def repD : D → D → Option (List D)
  | .lst a, .int k => if decide (-(2 ^ 63) ≤ k ∧ k < 2 ^ 63 ∧ a.length * k.toNat ≤ sizeLine) then some (List.replicate k.toNat a).flatten else none
  | _, _ => none
def nRep (fa fb : Ex) : Sem1 (List D) := fun env S => (fa env S).bind fun x S1 => (fb env S1).bind fun y S2 => match repD x y with
  | some ds => .ok ds S2
  | none => .bad
theorem repD_some {x y : D} {ds : List D} (h : repD x y = some ds) : ∃ a k, x = .lst a ∧ y = .int k ∧ (-(2 ^ 63) ≤ k ∧ k < 2 ^ 63 ∧ a.length * k.toNat ≤ sizeLine) ∧ ds = (List.replicate k.toNat a).flatten := by
  unfold repD at h
  split at h
  · split at h
    · rename_i q
      cases h
      exact ⟨_, _, rfl, rfl, of_decide_eq_true q, rfl⟩
    · cases h
  · cases h
theorem rep_RepL {io : List Addr} {H : Hp} {ds : List D} {vs : List V} (ra : RepL K cl io H ds vs) : ∀ n : Nat, RepL K cl io H (List.replicate n ds).flatten (List.replicate n vs).flatten
  | 0 => .nil
  | n + 1 => by
    rw [List.replicate_succ, List.replicate_succ, List.flatten_cons, List.flatten_cons]
    exact ra.append (rep_RepL ra n)
theorem n_rep (ha : ED X cl W p1 a fa) (hb : ED X cl W p2 b fb) : ND X cl W (.BinOp a .Mult b pos) (nRep fa fb) := by
  refine weakE (pe_op op_rep ha hb) fun σ H Q ⟨io, om, H0, env, S, R0, h⟩ => ?_
  refine ⟨io, om, H0, env, S, R0, (Post.bind (rp := rD X.K cl p1) R0 h).mono fun vx H1 ⟨io1, H01, S1, x, e1, R1, q1, h1⟩ => ?_⟩
  refine ⟨io1, om, H01, env, S1, R1, (Post.bind (rp := rD X.K cl p2) R1 h1).mono fun vy H2 ⟨io2, H02, S2, y, e2, R2, q2, h2⟩ => ?_⟩
  cases hc : repD x y with
  | none => rw [hc] at h2; exact h2.elim
  | some ds =>
    rw [hc] at h2
    obtain ⟨l, k, rfl, rfl, ⟨g1, g2, g3⟩, rfl⟩ := repD_some hc
    obtain ⟨pa, vs, rfl, ha, ra⟩ := (q1.ev e2).lst R2.st
    rw [q2.int]
    exact ⟨pa, _, vs, rfl, rfl, ha, g1, g2, by rw [← ra.length]; exact g3, Post.newN (fun a q => e2.dom _ (e1.dom _ q)) R2 (rep_RepL ra _) h2⟩
/-- the store with a new object that never changes, which stood already -/
theorem StR.freeze (st : StR K cl io H0 H S) {a : Addr} {o : HO} (h : H a = some o) (h0 : H0 a = none) (ho : a ∉ io) : StR K cl io (upd H0 a o) H S := by
  refine ⟨fun b u e => ?_, st.len, fun n b e => ?_, st.inj, fun n b u e e2 => (st.ob n b u e e2).at (.refl _) (same_upd h0) rfl⟩
  · by_cases hb : b = a
    · subst hb; rw [upd_same] at e; rw [h]; exact e
    · rw [upd_ne hb] at e; exact st.sub b u e
  · have hb : b ≠ a := fun z => ho (z ▸ List.mem_of_getElem? e)
    rw [upd_ne hb]; exact st.out n b e
theorem StR.freezeN {io' : List Addr} {H0' H' : Hp} {S' : Sto} (x : Ev io H0 H io' H0' H') (st : StR K cl io' H0' H' S') {a : Addr} {o : HO} (h : H' a = some o) (h0 : H0' a = none) (ho : a ∉ io') (hn : H a = none) :
    StR K cl io' (upd H0' a o) H' S' ∧ Ev io H0 H io' (upd H0' a o) H' :=
  ⟨st.freeze h h0 ho, ⟨x.pre, x.new, x.h0.trans (same_upd h0), fun b u e => by
    by_cases hb : b = a
    · subst hb; exact .inr hn
    · rw [upd_ne hb] at e; exact x.h0n b u e, x.keep, x.dom⟩⟩
end
end G

namespace G
open PySem PySem.Spec PyProof.Rows L2

def keyD : D → Option Key
  | .int i => some (.inl i)
  | .str x => some (.inr x)
  | _ => none
def look (kvs : List (Key × D)) (k : Key) : Option D := (kvs.find? fun kv => decide (kv.1 = k)).map (·.2)
def putD (kvs : List (Key × D)) (k : Key) (v : D) : List (Key × D) :=
  if (kvs.any fun kv => decide (kv.1 = k)) = true then kvs.map (fun kv => if kv.1 = k then (kv.1, v) else kv) else kvs ++ [(k, v)]
def opIx : D → D → Sto → R D
  | .lst ds, .int i, S => opt (atI ds i) id S
  | .tup ds, .int i, S => opt (atI ds i) id S
  | .frl ds, .int i, S => opt (atI ds i) id S
  | .str x, .int i, S => if x.length ≤ sizeLine then opt (atI x.cps.toList i) (fun c => .str ⟨#[c]⟩) S else .bad
  | _, _, _ => .bad
def opGet : D → D → Sto → R D
  | .obj n, k, S => match S[n]?, keyD k with
    | some (.dict kvs), some k => opt (look kvs k) id S
    | _, _ => .bad
  | _, _, _ => .bad
def cutA {α : Type} (xs : List α) (lo hi : Option Int) : List α := (xs.drop (HT.sIx xs.length 0 lo)).take (HT.sIx xs.length xs.length hi - HT.sIx xs.length 0 lo)
def opSl : D → Option Int → Option Int → Sto → R D
  | .lst ds, lo, hi, S => .ok (.lst (cutA ds lo hi)) S
  | .frl ds, lo, hi, S => .ok (.lst (cutA ds lo hi)) S
  | .tup ds, lo, hi, S => .ok (.tup (cutA ds lo hi)) S
  | .str x, lo, hi, S => if x.length ≤ sizeLine then .ok (.str (cutS x lo hi)) S else .bad
  | _, _, _, _ => .bad
def pLen : List D → Sto → R D
  | [.str y], S => if y.length ≤ sizeLine then .ok (.int (y.length : Nat)) S else .bad
  | [.lst ds], S => .ok (.int (ds.length : Nat)) S
  | [.frl ds], S => .ok (.int (ds.length : Nat)) S
  | [.tup ds], S => .ok (.int (ds.length : Nat)) S
  | _, _ => .bad
def pAbs : List D → Sto → R D
  | [.int i], S => .ok (.int (if i < 0 then -i else i)) S
  | _, _ => .bad
/-- the ints of a list -/
def intsD : List D → Option (List Int)
  | [] => some []
  | .int i :: r => (intsD r).map (i :: ·)
  | _ :: _ => none
def strsD : List D → Option (List Str)
  | [] => some []
  | .str i :: r => (strsD r).map (i :: ·)
  | _ :: _ => none
def blsD : List D → Option (List Bool)
  | [] => some []
  | .bl i :: r => (blsD r).map (i :: ·)
  | _ :: _ => none
def maxL : List Int → Option Int
  | [] => none
  | x :: r => some (r.foldl (fun m y => if y > m then y else m) x)
def minL : List Int → Option Int
  | [] => none
  | x :: r => some (r.foldl (fun m y => if y < m then y else m) x)
def pMax : List D → Sto → R D
  | [.int i, .int j], S => .ok (.int (if j > i then j else i)) S
  | [.lst ds], S => opt ((intsD ds).bind maxL) .int S
  | _, _ => .bad
def pMin : List D → Sto → R D
  | [.int i, .int j], S => .ok (.int (if j < i then j else i)) S
  | [.int i, .int j, .int k], S => .ok (.int (if j < i then (if k < j then k else j) else (if k < i then k else i))) S
  | [.lst ds], S => opt ((intsD ds).bind minL) .int S
  | _, _ => .bad
def pDivmod : List D → Sto → R D
  | [.int i, .int j], S => mk (decide (0 < j ∧ j < 1073741824)) (.tup [.int (i / j), .int (i % j)]) S
  | _, _ => .bad
def pInt : List D → Sto → R D
  | [.int i], S => .ok (.int i) S
  | [.bl k], S => .ok (.int (if k then 1 else 0)) S
  | _, _ => .bad
def pStr : List D → Sto → R D
  | [.int i], S => mk (decide (i.natAbs.log2 < 1920)) (.str (toString i)) S
  | [.bl k], S => .ok (.str (if k then "True" else "False")) S
  | [.str z], S => .ok (.str z) S
  | _, _ => .bad
def pTuple : List D → Sto → R D
  | [.lst ds], S => .ok (.tup ds) S
  | [.tup ds], S => .ok (.tup ds) S
  | _, _ => .bad
def pList : List D → Sto → R (List D)
  | [.lst ds], S => .ok ds S
  | [.tup ds], S => .ok ds S
  | [.frl ds], S => .ok ds S
  | _, _ => .bad
def pAll : List D → Sto → R D
  | [.lst ds], S => opt ((blsD ds).map (·.all id)) .bl S
  | _, _ => .bad
def pAny : List D → Sto → R D
  | [.lst ds], S => opt ((blsD ds).map (·.any id)) .bl S
  | _, _ => .bad
def pSum : List D → Sto → R D
  | [.lst ds], S => opt ((intsD ds).map List.sum) .int S
  | _, _ => .bad
def sortI (ns : List Int) : List Int := ns.mergeSort (fun a b => decide (a ≤ b))
/-- pairs of ints -/
def prsD : List D → Option (List (Int × Int))
  | [] => some []
  | .tup [.int i, .int j] :: r => (prsD r).map ((i, j) :: ·)
  | _ => none
def leP (p q : Int × Int) : Bool := decide (p.1 < q.1 ∨ (p.1 = q.1 ∧ p.2 ≤ q.2))
def sortP (ps : List (Int × Int)) : List (Int × Int) := ps.mergeSort leP
def prD (p : Int × Int) : D := .tup [.int p.1, .int p.2]
/-- data whose sorting is known: alike in all, tuples that aren't empty, or no tuples and no None -/
def neTup : D → Bool
  | .tup (_ :: _) => true
  | _ => false
def noTN : D → Bool
  | .non => false
  | .tup _ => false
  | _ => true
def okSrt (ds : List D) : Bool := (ds.all fun d => pure d && decide ((toPy d).depth ≤ 40)) && ((ds.all fun d => ds.all fun e => PySem.W.alike (toPy d) (toPy e)) && (ds.all neTup || ds.all noTN))
def sortD (ds : List D) : List D := ds.mergeSort (PySem.W.dataLe false toPy)
def pSorted : List D → Sto → R (List D)
  | [.lst ds], S => match intsD ds with
    | some ns => .ok ((sortI ns).map D.int) S
    | none => match prsD ds with
      | some ps => .ok ((sortP ps).map prD) S
      | none => if okSrt ds = true then .ok (sortD ds) S else .bad
  | _, _ => .bad
/-- sep.join of a list or a tuple of texts -/
def joinD (z : Str) (ds : List D) (S : Sto) : R D := match strsD ds with
  | some ys => mk (decide ((ys.map (·.length)).sum + ys.length * z.length ≤ 16777216)) (.str (Txt.join z ys)) S
  | none => .bad
def pJoin (z : Str) : List D → Sto → R D
  | [.lst ds], S => joinD z ds S
  | [.tup ds], S => joinD z ds S
  | _, _ => .bad
/-- the first place of an equal one, flat ones -/
def pIdx (ds : List D) : List D → Sto → R D
  | [y], S => if flat y && ds.all flat then opt (ds.findIdx? fun z => feq z y) (fun j => .int (j : Nat)) S else .bad
  | _, _ => .bad
def eIdx (fo : Ex) (fs : Sem1 (List D)) : Ex := fun env S => (fo env S).bind fun x S1 => match x with
  | .lst ds => (fs env S1).bind fun ys S2 => pIdx ds ys S2
  | _ => .bad
/-- the built-in kinds that are asked for -/
inductive Ty where
  | int | bool | str | tuple | list
def Ty.name : Ty → String
  | .int => "int" | .bool => "bool" | .str => "str" | .tuple => "tuple" | .list => "list"
def isT : Ty → D → Option Bool
  | _, .ins _ _ _ => none
  | _, .obj _ => none
  | .int, .int _ => some true
  | .int, .bl _ => some true
  | .bool, .bl _ => some true
  | .str, .str _ => some true
  | .tuple, .tup _ => some true
  | .list, .lst _ => some true
  | .list, .frl _ => some true
  | _, _ => some false

def eCall (f : List D → Sto → R D) (fs : Sem1 (List D)) : Ex := fun env S => (fs env S).bind f
def nCall (f : List D → Sto → R (List D)) (fs : Sem1 (List D)) : Sem1 (List D) := fun env S => (fs env S).bind f
def eFrz (f : Sem1 (List D)) : Ex := fun env S => (f env S).bind fun ds S1 => .ok (.lst ds) S1
def eIsi (T : Ty) (f : Ex) : Ex := fun env S => (f env S).bind fun d S1 => opt (isT T d) .bl S1
/-- a slice's part -/
def oNone : Sem1 (Option Int) := fun _ S => .ok none S
def oSome (f : Ex) : Sem1 (Option Int) := fun env S => (f env S).bind fun d S1 => match d with
  | .int i => .ok (some i) S1
  | _ => .bad
def eSl (f : Ex) (lo hi : Sem1 (Option Int)) : Ex := fun env S => (f env S).bind fun x S1 => (lo env S1).bind fun l S2 => (hi env S2).bind fun h S3 => opSl x l h S3
def eRev (f : Ex) : Ex := fun env S => (f env S).bind fun x S1 => match x with
  | .lst ds => .ok (.lst ds.reverse) S1
  | .tup ds => .ok (.tup ds.reverse) S1
  | _ => .bad

section
variable (X : Cx) (cl : Nat → Addr)
def Cal (r : List V → Hp → VK → Prop) (f : List D → Sto → R D) : Prop := ∀ (W : WX) (io : List Addr) (om : Own) (H0 H : Hp) (env : Env) (S : Sto) (σ : L2.St) (Q : VK) (p : Bool) (ds : List D) (vs : List V), Rel X.K cl io om H0 H env S σ → rL X.K cl p io H0 H ds vs →
  Post X.K cl (rD X.K cl true) W io H0 H σ Q (f ds S) → r vs H Q
def CalN (r : List V → Hp → VK → Prop) (f : List D → Sto → R (List D)) : Prop := ∀ (W : WX) (Hs : Hp) (io : List Addr) (om : Own) (H0 H : Hp) (env : Env) (S : Sto) (σ : L2.St) (Q : VK) (p : Bool) (ds : List D) (vs : List V), (∀ a, Hs a ≠ none → H a ≠ none) → Rel X.K cl io om H0 H env S σ → rL X.K cl p io H0 H ds vs →
  Post X.K cl (rN X.K cl Hs) W io H0 H σ Q (f ds S) → r vs H Q
end
section
variable {X : Cx} {cl : Nat → Addr} {W : WX} {e a b c : Expr} {pos : Pos} {K : PySem.W.Frag} {io : List Addr} {om : Own} {H0 H : Hp} {env : Env} {S : Sto} {σ : L2.St} {Q : VK} {p1 p2 : Bool} {fa fb fc : Ex}
theorem peOr {t t' : TE} (h : PE X e t) (h' : PE X e t') : PE X e (fun σ H Q => t σ H Q ∨ t' σ H Q) := ⟨fun pins s σ H Q I w => w.elim (h.run pins s σ H Q I) (h'.run pins s σ H Q I)⟩
theorem CallR.or {f : Value} {r r' : List V → Hp → VK → Prop} (h : CallR X f r) (h' : CallR X f r') : CallR X f (fun x H Q => r x H Q ∨ r' x H Q) := fun pins s σ H xs us Q I r q => q.elim (h pins s σ H xs us Q I r) (h' pins s σ H xs us Q I r)
theorem atI_rep {ds : List D} {vs : List V} {i : Int} {d : D} (r : RepL K cl io H ds vs) (e : atI ds i = some d) : ∃ v, atI vs i = some v ∧ Rep K cl io H d v := by
  unfold atI at e ⊢
  rw [← r.length]
  cases q : ixN ds.length i with
  | none => rw [q] at e; cases e
  | some j =>
    rw [q] at e
    exact r.get (i := j) e
theorem o_ix : Op2 X cl (fun x y H Q => rIxL X.K x y H Q ∨ rIxT X.K x y H Q ∨ rIxS x y H Q) opIx := by
  intro W io om H0 H env S σ Q p1 p2 x y vx vy R0 hx hy h
  unfold opIx at h
  split at h
  · obtain ⟨d, e, h⟩ := opt_post h
    obtain ⟨a, vs, rfl, ha, ra⟩ := hx.lst R0.st
    obtain ⟨v, e2, r⟩ := atI_rep ra e
    exact .inl ⟨a, vs, _, v, rfl, hy.int, SqL.of ha, e2, h.done R0 (.inl r)⟩
  · obtain ⟨d, e, h⟩ := opt_post h
    obtain ⟨a, vs, rfl, ha, ra⟩ := hx.tup R0.st
    obtain ⟨v, e2, r⟩ := atI_rep ra e
    exact .inr (.inl ⟨a, vs, _, v, rfl, hy.int, ha, e2, h.done R0 (.inl r)⟩)
  · obtain ⟨d, e, h⟩ := opt_post h
    obtain ⟨a, vs, rfl, ha, ra⟩ := hx.frl R0.st
    obtain ⟨v, e2, r⟩ := atI_rep ra e
    exact .inl ⟨a, vs, _, v, rfl, hy.int, ha, e2, h.done R0 (.inl r)⟩
  · split at h
    · obtain ⟨d, e, h⟩ := opt_post h
      exact .inr (.inr ⟨_, _, d, hx.str, hy.int, by assumption, e, h.done R0 (.inl rfl)⟩)
    · exact h.elim
  · exact h.elim
theorem d_ix (ha : ED X cl W p1 a fa) (hb : ED X cl W p2 b fb) (hs : PlainIx b := by exact fun _ _ => rfl) : ED X cl W true (.Subscript a b pos) (eBin opIx fa fb) :=
  weakE (pe_ix (ix_list.or (ix_tup.or ix_str)) ha hb hs) fun _ _ _ h => tOp_of o_ix h
theorem keyD_rep {d : D} {k : Key} {v : V} {p : Bool} (e : keyD d = some k) (h : rD K cl p io H0 H d v) : v = kV k := by
  cases d with
  | int i => cases e; exact h.int
  | str i => cases e; exact h.str
  | _ => cases e
theorem look_zip {io : List Addr} {H0 : Hp} {k : Key} {d : D} : ∀ {kvs : List (Key × D)} {vs : List V}, RepL K cl io H0 (kvs.map (·.2)) vs → look kvs k = some d → ∃ v, valV ((kvs.map (·.1)).zip vs) k = some v ∧ Rep K cl io H0 d v
  | [], _, _, e => by simp [look] at e
  | (k1, d1) :: r, _, h, e => by
    obtain ⟨v, t, rfl, h1, h2⟩ := h
    unfold look at e
    rw [List.find?_cons] at e
    by_cases hk : k1 = k
    · simp only [hk, decide_true] at e
      cases e
      exact ⟨v, by simp [valV, hk], h1⟩
    · simp only [hk, decide_false] at e
      obtain ⟨w, e1, e2⟩ := look_zip (k := k) (d := d) h2 e
      refine ⟨w, ?_, e2⟩
      rw [List.map_cons, List.zip_cons_cons, valV_neg hk]
      exact e1
theorem opGet_post {rp : List Addr → Hp → Hp → D → V → Prop} {x y : D} (h : Post K cl rp W io H0 H σ Q (opGet x y S)) : ∃ n kvs k d, x = .obj n ∧ S[n]? = some (.dict kvs) ∧ keyD y = some k ∧ look kvs k = some d ∧ Post K cl rp W io H0 H σ Q (.ok d S) := by
  cases x with
  | obj n =>
    unfold opGet at h
    cases hS : S[n]? with
    | none => simp only [hS] at h; exact h.elim
    | some o =>
      cases o with
      | dict kvs =>
        cases hk : keyD y with
        | none => simp only [hS, hk] at h; exact h.elim
        | some k =>
          simp only [hS, hk] at h
          obtain ⟨d, e, h⟩ := opt_post h
          exact ⟨n, kvs, k, d, rfl, hS, rfl, e, h⟩
      | lst ds => simp only [hS] at h; exact h.elim
      | ins c ks => simp only [hS] at h; exact h.elim
  | _ => exact h.elim
theorem d_get (hu : X.A.units + 1 < cLine) (ha : ED X cl W p1 a fa) (hb : ED X cl W p2 b fb) (hs : NoSl b := by exact fun _ _ => rfl) : ED X cl W true (.Subscript a b pos) (eBin opGet fa fb) := by
  refine weakE (pe_dget hu ha hb hs) fun σ H Q ⟨io, om, H0, env, S, R0, h⟩ => ?_
  refine ⟨io, om, H0, env, S, R0, (Post.bind (rp := rD X.K cl p1) R0 h).mono fun vx H1 ⟨io1, H01, S1, x, e1, R1, q1, h1⟩ => ?_⟩
  refine ⟨io1, om, H01, env, S1, R1, (Post.bind (rp := rD X.K cl p2) R1 h1).mono fun vy H2 ⟨io2, H02, S2, y, e2, R2, q2, h2⟩ => ?_⟩
  obtain ⟨n, kvs, key, d, rfl, hS, hk, e, h2⟩ := opGet_post h2
  obtain ⟨ad, rfl, hio⟩ := (q1.ev e2).obj
  obtain ⟨vs, hH, rv⟩ := R2.st.ob n ad _ hio hS
  obtain ⟨v, ev, rd⟩ := look_zip rv e
  rw [keyD_rep hk q2]
  exact ⟨ad, v, rfl, by rw [← ev]; exact DGet.k hH, h2.done R2 (.inl rd)⟩
abbrev OD (X : Cx) (cl : Nat → Addr) (W : WX) (e : Option Expr) (f : Sem1 (Option Int)) : Prop := PO X e (tG X.K cl (fun _ _ _ (a b : Option Int) => a = b) W f)
theorem weakO {e : Option Expr} {t t' : TO} (h : PO X e t) (q : ∀ σ H Q, t' σ H Q → t σ H Q) : PO X e t' := ⟨fun pins s σ H Q I w => h.run pins s σ H Q I (q σ H Q w)⟩
theorem o_none : OD X cl W none oNone := weakO po_none fun σ H Q ⟨io, om, H0, env, S, R0, h⟩ => h.done R0 rfl
theorem o_some (ha : ED X cl W p1 a fa) : OD X cl W (some a) (oSome fa) := by
  refine weakO (po_some ha) fun σ H Q ⟨io, om, H0, env, S, R0, h⟩ => ?_
  refine ⟨io, om, H0, env, S, R0, (Post.bind R0 h).mono fun vx H1 ⟨io1, H01, S1, x, e1, R1, q1, h1⟩ => ?_⟩
  split at h1
  · exact ⟨_, q1.int, h1.done R1 rfl⟩
  · exact h1.elim
theorem cutA_rep {ds : List D} {vs : List V} (r : RepL K cl io H ds vs) (lo hi : Option Int) : RepL K cl io H (cutA ds lo hi) (cutV vs lo hi) := by
  unfold cutA cutV
  rw [← r.length]
  exact (r.drop _).take _
theorem cut_whole {α : Type} {xs : List α} {lo hi : Option Int} (h : HT.sIx xs.length 0 lo = 0 ∧ HT.sIx xs.length xs.length hi = xs.length) : cutA xs lo hi = xs := by
  unfold cutA
  rw [h.1, h.2]
  simp
variable {lo hi : Option Expr} {fl fh : Sem1 (Option Int)} {q2 : Pos}
theorem d_sl (ha : ED X cl W p1 a fa) (hl : OD X cl W lo fl) (hh : OD X cl W hi fh) : ED X cl W true (.Subscript a (.Slice lo hi none q2) pos) (eSl fa fl fh) := by
  refine weakE (pe_slice (sl_list.or (sl_tupA.or sl_str)) ha hl hh) fun σ H Q ⟨io, om, H0, env, S, R0, h⟩ => ?_
  refine ⟨io, om, H0, env, S, R0, (Post.bind (rp := rD X.K cl p1) R0 h).mono fun vx H1 ⟨io1, H01, S1, x, e1, R1, q1, h1⟩ => ?_⟩
  refine ⟨io1, om, H01, env, S1, R1, (Post.bind R1 h1).mono fun vl H2 ⟨io2, H02, S2, l, e2, R2, q2, h2⟩ => ?_⟩
  refine ⟨io2, om, H02, env, S2, R2, (Post.bind R2 h2).mono fun vh H3 ⟨io3, H03, S3, u, e3, R3, q3, h3⟩ => ?_⟩
  subst q2 q3
  have q1 := (q1.ev e2).ev e3
  unfold opSl at h3
  split at h3
  · obtain ⟨p, vs, rfl, hp, rp⟩ := q1.lst R3.st
    exact .inl ⟨p, vs, rfl, SqL.of hp, Post.newL R3 (cutA_rep rp _ _) h3⟩
  · obtain ⟨p, vs, rfl, hp, rp⟩ := q1.frl R3.st
    exact .inl ⟨p, vs, rfl, hp, Post.newL R3 (cutA_rep rp _ _) h3⟩
  · obtain ⟨p, vs, rfl, hp, rp⟩ := q1.tup R3.st
    refine .inr (.inl ⟨p, vs, rfl, hp, fun w => ?_, fun _ => Post.newT R3 (cutA_rep rp _ _) h3⟩)
    rw [← rp.length] at w
    rw [cut_whole w] at h3
    refine h3.done R3 (.inl ?_)
    rcases q1 with q1 | ⟨_, _, _, _, e, _⟩
    · exact q1
    · cases e
  · split at h3
    · exact .inr (.inr ⟨_, q1.str, by assumption, h3.done R3 (.inl rfl)⟩)
    · exact h3.elim
  · exact h3.elim
/-- a new list cut out of one -/
def nSl (f : Ex) (lo hi : Sem1 (Option Int)) : Sem1 (List D) := fun env S => (f env S).bind fun x S1 => (lo env S1).bind fun l S2 => (hi env S2).bind fun h S3 => match x with
  | .lst ds => .ok (cutA ds l h) S3
  | .frl ds => .ok (cutA ds l h) S3
  | _ => .bad
theorem n_sl (ha : ED X cl W p1 a fa) (hl : OD X cl W lo fl) (hh : OD X cl W hi fh) : ND X cl W (.Subscript a (.Slice lo hi none q2) pos) (nSl fa fl fh) := by
  refine weakE (pe_slice sl_list ha hl hh) fun σ H Q ⟨io, om, H0, env, S, R0, h⟩ => ?_
  refine ⟨io, om, H0, env, S, R0, (Post.bind (rp := rD X.K cl p1) R0 h).mono fun vx H1 ⟨io1, H01, S1, x, e1, R1, q1, h1⟩ => ?_⟩
  refine ⟨io1, om, H01, env, S1, R1, (Post.bind R1 h1).mono fun vl H2 ⟨io2, H02, S2, l, e2, R2, q2, h2⟩ => ?_⟩
  refine ⟨io2, om, H02, env, S2, R2, (Post.bind R2 h2).mono fun vh H3 ⟨io3, H03, S3, u, e3, R3, q3, h3⟩ => ?_⟩
  subst q2 q3
  have q1 := (q1.ev e2).ev e3
  split at h3
  · obtain ⟨p, vs, rfl, hp, rp⟩ := q1.lst R3.st
    exact ⟨p, vs, rfl, SqL.of hp, Post.newN (fun a q => e3.dom _ (e2.dom _ (e1.dom _ q))) R3 (cutA_rep rp _ _) h3⟩
  · obtain ⟨p, vs, rfl, hp, rp⟩ := q1.frl R3.st
    exact ⟨p, vs, rfl, hp, Post.newN (fun a q => e3.dom _ (e2.dom _ (e1.dom _ q))) R3 (cutA_rep rp _ _) h3⟩
  · exact h3.elim
theorem d_rev {k : Nat} {p1' p2' p3' : Pos} (ha : ED X cl W p1 a fa) : ED X cl W true (.Subscript a (.Slice none none (some (.UnaryOp .USub (.Constant (.int 1) k p1') p2')) p3') pos) (eRev fa) := by
  refine weakE (peOr (pe_revL ha) (pe_revT ha)) fun σ H Q ⟨io, om, H0, env, S, R0, h⟩ => ?_
  by_cases hq : ∃ ds S1, fa env S = .ok (.tup ds) S1
  · refine .inr ⟨io, om, H0, env, S, R0, (Post.bindE (rp := rD X.K cl p1) R0 h).mono fun vx H1 ⟨io1, H01, S1, x, e1, R1, q1, h1, hr⟩ => ?_⟩
    obtain ⟨ds, S2, hq⟩ := hq
    rw [hq] at hr
    cases hr
    obtain ⟨p, vs, rfl, hp, rp⟩ := q1.tup R1.st
    exact ⟨p, vs, rfl, hp, Post.newT R1 rp.reverse h1⟩
  · refine .inl ⟨io, om, H0, env, S, R0, (Post.bindE (rp := rD X.K cl p1) R0 h).mono fun vx H1 ⟨io1, H01, S1, x, e1, R1, q1, h1, hr⟩ => ?_⟩
    split at h1
    · obtain ⟨p, vs, rfl, hp, rp⟩ := q1.lst R1.st
      exact ⟨p, vs, rfl, SqL.of hp, Post.newL R1 rp.reverse h1⟩
    · exact absurd ⟨_, _, hr⟩ hq
    · exact h1.elim

variable {es : List Expr} {fs : Sem1 (List D)} {x : Str} {q : Pos}
theorem d_callB {id : String} {r : List V → Hp → VK → Prop} {f : List D → Sto → R D} (hc : CallR X (.builtin id) r) (hf : Cal X cl r f) (ha : AD X cl W p1 (e :: es) fs) (hm : X.mg x = none) (hg : Gl X x := by rfl) (hv : bootBuiltins x = some (.builtin id) := by decide +kernel)
    (hn : x ≠ "__name__" := by decide) (hdb : (x == ("__debug__" : Str)) = false := by decide) (he : starEach (e :: es) X.env = (false, eval e X.env) :: starEach es X.env := by rfl) (hpl : (backTo pos (starEach es X.env)).any (·.1) = false := by rfl) :
    ED X cl W true (.Call (.Name x q) (e :: es) [] pos) (eCall f fs) := by
  refine weakE (pe_callB hc hg hm hv ha hn hdb he hpl) fun σ H Q ⟨io, om, H0, env, S, R0, h⟩ => ?_
  refine ⟨io, om, H0, env, S, R0, (Post.bind R0 h).mono fun vx H1 ⟨io1, H01, S1, ds, e1, R1, q1, h1⟩ => ?_⟩
  exact hf W io1 om H01 H1 env S1 σ Q p1 ds vx R1 q1 h1
theorem d_callTy {T : String} {r : List V → Hp → VK → Prop} {f : List D → Sto → R D} (hc : CallR X (.type T) r) (hf : Cal X cl r f) (ha : AD X cl W p1 (e :: es) fs) (hm : X.mg x = none) (hg : Gl X x := by rfl) (hv : bootBuiltins x = some (.type T) := by decide +kernel)
    (hn : x ≠ "__name__" := by decide) (hdb : (x == ("__debug__" : Str)) = false := by decide) (he : starEach (e :: es) X.env = (false, eval e X.env) :: starEach es X.env := by rfl) (hpl : (backTo pos (starEach es X.env)).any (·.1) = false := by rfl) :
    ED X cl W true (.Call (.Name x q) (e :: es) [] pos) (eCall f fs) := by
  refine weakE (pe_callTy hc hg hm hv ha hn hdb he hpl) fun σ H Q ⟨io, om, H0, env, S, R0, h⟩ => ?_
  refine ⟨io, om, H0, env, S, R0, (Post.bind R0 h).mono fun vx H1 ⟨io1, H01, S1, ds, e1, R1, q1, h1⟩ => ?_⟩
  exact hf W io1 om H01 H1 env S1 σ Q p1 ds vx R1 q1 h1
theorem n_callB {id : String} {r : List V → Hp → VK → Prop} {f : List D → Sto → R (List D)} (hc : CallR X (.builtin id) r) (hf : CalN X cl r f) (ha : AD X cl W p1 (e :: es) fs) (hm : X.mg x = none) (hg : Gl X x := by rfl) (hv : bootBuiltins x = some (.builtin id) := by decide +kernel)
    (hn : x ≠ "__name__" := by decide) (hdb : (x == ("__debug__" : Str)) = false := by decide) (he : starEach (e :: es) X.env = (false, eval e X.env) :: starEach es X.env := by rfl) (hpl : (backTo pos (starEach es X.env)).any (·.1) = false := by rfl) :
    ND X cl W (.Call (.Name x q) (e :: es) [] pos) (nCall f fs) := by
  refine weakE (pe_callB hc hg hm hv ha hn hdb he hpl) fun σ H Q ⟨io, om, H0, env, S, R0, h⟩ => ?_
  refine ⟨io, om, H0, env, S, R0, (Post.bind R0 h).mono fun vx H1 ⟨io1, H01, S1, ds, e1, R1, q1, h1⟩ => ?_⟩
  exact hf W _ io1 om H01 H1 env S1 σ Q p1 ds vx e1.dom R1 q1 h1
theorem n_callTy {T : String} {r : List V → Hp → VK → Prop} {f : List D → Sto → R (List D)} (hc : CallR X (.type T) r) (hf : CalN X cl r f) (ha : AD X cl W p1 (e :: es) fs) (hm : X.mg x = none) (hg : Gl X x := by rfl) (hv : bootBuiltins x = some (.type T) := by decide +kernel)
    (hn : x ≠ "__name__" := by decide) (hdb : (x == ("__debug__" : Str)) = false := by decide) (he : starEach (e :: es) X.env = (false, eval e X.env) :: starEach es X.env := by rfl) (hpl : (backTo pos (starEach es X.env)).any (·.1) = false := by rfl) :
    ND X cl W (.Call (.Name x q) (e :: es) [] pos) (nCall f fs) := by
  refine weakE (pe_callTy hc hg hm hv ha hn hdb he hpl) fun σ H Q ⟨io, om, H0, env, S, R0, h⟩ => ?_
  refine ⟨io, om, H0, env, S, R0, (Post.bind R0 h).mono fun vx H1 ⟨io1, H01, S1, ds, e1, R1, q1, h1⟩ => ?_⟩
  exact hf W _ io1 om H01 H1 env S1 σ Q p1 ds vx e1.dom R1 q1 h1
/-- a new list as a value -/
theorem d_frz {f : Sem1 (List D)} (h : ND X cl W e f) : ED X cl W true e (eFrz f) := by
  refine weakE h fun σ H Q ⟨io, om, H0, env, S, R0, h⟩ => ⟨io, om, H0, env, S, R0, ?_⟩
  have h : Post X.K cl (rD X.K cl true) W io H0 H σ Q ((f env S).bind fun ds S1 => .ok (.lst ds) S1) := h
  cases q : f env S with
  | ok ds S' =>
    rw [q] at h
    rintro io' H0' H' v x st ⟨a, vs, ev, e1, e2, e3, e4, r⟩
    obtain ⟨st2, x2⟩ := StR.freezeN x st e1 e2 e3 e4
    exact h io' _ H' v x2 st2 (.inl ⟨a, vs, ev, upd_same, RepL.mono (.refl _) (same_upd e2) _ _ r⟩)
  | exc e' S' => rw [q] at h; exact h
  | bad => rw [q] at h; exact h
theorem rL_cons {p : Bool} {d : D} {ds : List D} {vs : List V} (h : rL K cl p io H0 H (d :: ds) vs) : ∃ v r, vs = v :: r ∧ rD K cl p io H0 H d v ∧ rL K cl p io H0 H ds r := h
theorem rL_nil {p : Bool} {vs : List V} (h : rL K cl p io H0 H [] vs) : vs = [] := h
theorem rL_one {p : Bool} {d : D} {vs : List V} (h : rL K cl p io H0 H [d] vs) : ∃ v, vs = [v] ∧ rD K cl p io H0 H d v := by
  obtain ⟨v, r, rfl, h1, h2⟩ := h
  cases h2
  exact ⟨v, rfl, h1⟩
theorem rL_two {p : Bool} {d e : D} {vs : List V} (h : rL K cl p io H0 H [d, e] vs) : ∃ v w, vs = [v, w] ∧ rD K cl p io H0 H d v ∧ rD K cl p io H0 H e w := by
  obtain ⟨v, r, rfl, h1, h2⟩ := h
  obtain ⟨w, rfl, h3⟩ := rL_one h2
  exact ⟨v, w, rfl, h1, h3⟩
theorem intsD_rep {io : List Addr} {H : Hp} : ∀ {ds : List D} {ns : List Int} {vs : List V}, intsD ds = some ns → RepL K cl io H ds vs → vs = ns.map V.int
  | [], ns, _, e, h => by cases e; exact h
  | d :: ds, ns, _, e, h => by
    obtain ⟨v, r, rfl, h1, h2⟩ := h
    cases d with
    | int i =>
      unfold intsD at e
      cases q : intsD ds with
      | none => rw [q] at e; cases e
      | some ms =>
        rw [q] at e; cases e
        cases h1
        rw [intsD_rep q h2]; rfl
    | _ => cases e
theorem blsD_rep {io : List Addr} {H : Hp} : ∀ {ds : List D} {ns : List Bool} {vs : List V}, blsD ds = some ns → RepL K cl io H ds vs → vs = ns.map V.bl
  | [], ns, _, e, h => by cases e; exact h
  | d :: ds, ns, _, e, h => by
    obtain ⟨v, r, rfl, h1, h2⟩ := h
    cases d with
    | bl i =>
      unfold blsD at e
      cases q : blsD ds with
      | none => rw [q] at e; cases e
      | some ms =>
        rw [q] at e; cases e
        cases h1
        rw [blsD_rep q h2]; rfl
    | _ => cases e
theorem c_len : Cal X cl (fun xs H Q => ∃ x n, xs = [x] ∧ LenV X.K x H n ∧ Q (.int n) H) pLen := by
  intro W io om H0 H env S σ Q p ds vs R0 r h
  unfold pLen at h
  split at h
  · split at h
    · obtain ⟨v, rfl, q⟩ := rL_one r
      rw [q.str]
      exact ⟨_, _, rfl, ⟨by assumption, rfl⟩, h.done R0 (.inl rfl)⟩
    · exact h.elim
  · obtain ⟨v, rfl, q⟩ := rL_one r
    obtain ⟨a, ws, rfl, ha, ra⟩ := q.lst R0.st
    exact ⟨_, _, rfl, .inl ⟨ws, SqL.of ha, rfl⟩, h.done R0 (.inl (by rw [ra.length]; rfl))⟩
  · obtain ⟨v, rfl, q⟩ := rL_one r
    obtain ⟨a, ws, rfl, ha, ra⟩ := q.frl R0.st
    exact ⟨_, _, rfl, .inl ⟨ws, ha, rfl⟩, h.done R0 (.inl (by rw [ra.length]; rfl))⟩
  · obtain ⟨v, rfl, q⟩ := rL_one r
    obtain ⟨a, ws, rfl, ha, ra⟩ := q.tup R0.st
    exact ⟨_, _, rfl, .inr ⟨ws, ha, rfl⟩, h.done R0 (.inl (by rw [ra.length]; rfl))⟩
  · exact h.elim
theorem c_abs : Cal X cl (fun xs H Q => ∃ i, xs = [.int i] ∧ Q (.int (if i < 0 then -i else i)) H) pAbs := by
  intro W io om H0 H env S σ Q p ds vs R0 r h
  unfold pAbs at h
  split at h
  · obtain ⟨v, rfl, q⟩ := rL_one r
    rw [q.int]
    exact ⟨_, rfl, h.done R0 (.inl rfl)⟩
  · exact h.elim
theorem call_min3 (hc : X.calm = true) : CallR X (.builtin "min") (fun xs H Q => ∃ i j k, xs = [.int i, .int j, .int k] ∧ Q (.int (if j < i then (if k < j then k else j) else (if k < i then k else i))) H) := by
  intro pins s σ H xs us Q I r h
  obtain ⟨i, j, k, rfl, q⟩ := h
  obtain ⟨u1, us1, rfl, r1, r2⟩ : ∃ u us', us = u :: us' ∧ RelV (.int i) u ∧ Vals [.int j, .int k] us' := by cases r with | cons a b => exact ⟨_, _, rfl, a, b⟩
  obtain ⟨u2, u3, rfl, r3, r4⟩ := vals2 r2
  obtain ⟨t, rfl⟩ := r1
  obtain ⟨t2, rfl⟩ := r3
  obtain ⟨t3, rfl⟩ := r4
  refine min_three_ints (I.ok.hd hc) fun h' tk hk => ?_
  have key : ∀ tok, EP X pins σ Q (.int (if j < i then (if k < j then k else j) else (if k < i then k else i)) tok) { s with heap := h', toks := tk } := fun tok => ⟨V.int _, H, I.kept hk, (show RelV (.int _) _ from ⟨_, rfl⟩), q⟩
  by_cases hba : j < i <;> by_cases hc1 : k < j <;> by_cases hc2 : k < i <;> simp only [hba, hc1, hc2, if_true, if_false] at key ⊢ <;> exact key _
theorem foldl_max (l : List Int) : ∀ x : Int, (l.foldl (fun m y => if y > m then y else m) x = x ∨ l.foldl (fun m y => if y > m then y else m) x ∈ l) ∧ x ≤ l.foldl (fun m y => if y > m then y else m) x ∧ ∀ y ∈ l, y ≤ l.foldl (fun m y => if y > m then y else m) x := by
  induction l with
  | nil => intro x; simp
  | cons a l ih =>
    intro x
    rw [List.foldl_cons]
    obtain ⟨h1, h2, h3⟩ := ih (if a > x then a else x)
    have e : (if a > x then a else x) = a ∨ (if a > x then a else x) = x := by split <;> simp
    have e1 : a ≤ (if a > x then a else x) ∧ x ≤ (if a > x then a else x) := by split <;> omega
    refine ⟨?_, by omega, fun y hy => ?_⟩
    · rcases h1 with h1 | h1
      · rw [h1]
        rcases e with e | e <;> rw [e] <;> simp
      · exact .inr (List.mem_cons_of_mem _ h1)
    · rcases List.mem_cons.mp hy with rfl | hy
      · omega
      · exact h3 y hy
theorem foldl_min (l : List Int) : ∀ x : Int, (l.foldl (fun m y => if y < m then y else m) x = x ∨ l.foldl (fun m y => if y < m then y else m) x ∈ l) ∧ l.foldl (fun m y => if y < m then y else m) x ≤ x ∧ ∀ y ∈ l, l.foldl (fun m y => if y < m then y else m) x ≤ y := by
  induction l with
  | nil => intro x; simp
  | cons a l ih =>
    intro x
    rw [List.foldl_cons]
    obtain ⟨h1, h2, h3⟩ := ih (if a < x then a else x)
    have e : (if a < x then a else x) = a ∨ (if a < x then a else x) = x := by split <;> simp
    have e1 : (if a < x then a else x) ≤ a ∧ (if a < x then a else x) ≤ x := by split <;> omega
    refine ⟨?_, by omega, fun y hy => ?_⟩
    · rcases h1 with h1 | h1
      · rw [h1]
        rcases e with e | e <;> rw [e] <;> simp
      · exact .inr (List.mem_cons_of_mem _ h1)
    · rcases List.mem_cons.mp hy with rfl | hy
      · omega
      · exact h3 y hy
theorem maxL_spec {l : List Int} {m : Int} (h : maxL l = some m) : m ∈ l ∧ ∀ y ∈ l, y ≤ m := by
  cases l with
  | nil => cases h
  | cons x r =>
    cases h
    obtain ⟨h1, h2, h3⟩ := foldl_max r x
    refine ⟨?_, fun y hy => ?_⟩
    · rcases h1 with h1 | h1
      · rw [h1]; exact List.mem_cons_self
      · exact List.mem_cons_of_mem _ h1
    · rcases List.mem_cons.mp hy with rfl | hy
      · exact h2
      · exact h3 y hy
theorem minL_spec {l : List Int} {m : Int} (h : minL l = some m) : m ∈ l ∧ ∀ y ∈ l, m ≤ y := by
  cases l with
  | nil => cases h
  | cons x r =>
    cases h
    obtain ⟨h1, h2, h3⟩ := foldl_min r x
    refine ⟨?_, fun y hy => ?_⟩
    · rcases h1 with h1 | h1
      · rw [h1]; exact List.mem_cons_self
      · exact List.mem_cons_of_mem _ h1
    · rcases List.mem_cons.mp hy with rfl | hy
      · exact h2
      · exact h3 y hy
theorem c_max : Cal X cl (fun xs H Q => (∃ i j, xs = [.int i, .int j] ∧ Q (.int (if j > i then j else i)) H) ∨ rMax X.K xs H Q) pMax := by
  intro W io om H0 H env S σ Q p ds vs R0 r h
  unfold pMax at h
  split at h
  · obtain ⟨v, w, rfl, q1, q2⟩ := rL_two r
    rw [q1.int, q2.int]
    exact .inl ⟨_, _, rfl, h.done R0 (.inl rfl)⟩
  · obtain ⟨m, e, h⟩ := opt_post h
    obtain ⟨v, rfl, q⟩ := rL_one r
    obtain ⟨a, ws, rfl, ha, ra⟩ := q.lst R0.st
    obtain ⟨ns, e1, e2⟩ := Option.bind_eq_some_iff.mp e
    have e3 := intsD_rep e1 ra
    subst e3
    obtain ⟨m1, m2⟩ := maxL_spec e2
    refine .inr ⟨a, ns, rfl, SqL.of ha, List.length_pos_of_mem m1, fun m' h1 h2 => ?_⟩
    have e4 : m' = m := by have := h2 m m1; have := m2 m' h1; omega
    rw [e4]
    exact h.done R0 (.inl rfl)
  · exact h.elim
theorem c_min : Cal X cl (fun xs H Q => ((∃ i j, xs = [.int i, .int j] ∧ Q (.int (if j < i then j else i)) H) ∨ (∃ i j k, xs = [.int i, .int j, .int k] ∧ Q (.int (if j < i then (if k < j then k else j) else (if k < i then k else i))) H)) ∨ rMin X.K xs H Q) pMin := by
  intro W io om H0 H env S σ Q p ds vs R0 r h
  unfold pMin at h
  split at h
  · obtain ⟨v, w, rfl, q1, q2⟩ := rL_two r
    rw [q1.int, q2.int]
    exact .inl (.inl ⟨_, _, rfl, h.done R0 (.inl rfl)⟩)
  · obtain ⟨v, r, rfl, q1, q2⟩ := r
    obtain ⟨w, z, rfl, q3, q4⟩ := rL_two q2
    rw [q1.int, q3.int, q4.int]
    exact .inl (.inr ⟨_, _, _, rfl, h.done R0 (.inl rfl)⟩)
  · obtain ⟨m, e, h⟩ := opt_post h
    obtain ⟨v, rfl, q⟩ := rL_one r
    obtain ⟨a, ws, rfl, ha, ra⟩ := q.lst R0.st
    obtain ⟨ns, e1, e2⟩ := Option.bind_eq_some_iff.mp e
    have e3 := intsD_rep e1 ra
    subst e3
    obtain ⟨m1, m2⟩ := minL_spec e2
    refine .inr ⟨a, ns, rfl, SqL.of ha, List.length_pos_of_mem m1, fun m' h1 h2 => ?_⟩
    have e4 : m' = m := by have := h2 m m1; have := m2 m' h1; omega
    rw [e4]
    exact h.done R0 (.inl rfl)
  · exact h.elim
theorem c_divmod : Cal X cl (fun xs H Q => ∃ i j, xs = [.int i, .int j] ∧ CDiv i j ∧ ∀ p, H p = none → Q (.ref p) (upd H p (.tup [.int (i / j), .int (i % j)]))) pDivmod := by
  intro W io om H0 H env S σ Q p ds vs R0 r h
  unfold pDivmod at h
  split at h
  · obtain ⟨hl, h⟩ := mk_post h
    obtain ⟨v, w, rfl, q1, q2⟩ := rL_two r
    rw [q1.int, q2.int]
    exact ⟨_, _, rfl, (by unfold CDiv; simpa only [decide_eq_true_eq] using hl), Post.newT R0 (RepL.cons (d := .int _) rfl (RepL.cons (d := .int _) rfl RepL.nil)) h⟩
  · exact h.elim
theorem c_int : Cal X cl (fun xs H Q => (∃ i, xs = [.int i] ∧ Q (.int i) H) ∨ ∃ k, xs = [.bl k] ∧ Q (.int (if k then 1 else 0)) H) pInt := by
  intro W io om H0 H env S σ Q p ds vs R0 r h
  unfold pInt at h
  split at h
  · obtain ⟨v, rfl, q⟩ := rL_one r
    rw [q.int]
    exact .inl ⟨_, rfl, h.done R0 (.inl rfl)⟩
  · obtain ⟨v, rfl, q⟩ := rL_one r
    rw [q.bl]
    exact .inr ⟨_, rfl, h.done R0 (.inl rfl)⟩
  · exact h.elim
theorem c_str : Cal X cl rStrA pStr := by
  intro W io om H0 H env S σ Q p ds vs R0 r h
  unfold pStr at h
  split at h
  · obtain ⟨hl, h⟩ := mk_post h
    obtain ⟨v, rfl, q⟩ := rL_one r
    rw [q.int]
    exact .inl ⟨_, rfl, of_decide_eq_true hl, h.done R0 (.inl rfl)⟩
  · obtain ⟨v, rfl, q⟩ := rL_one r
    rw [q.bl]
    exact .inr (.inl ⟨_, rfl, h.done R0 (.inl rfl)⟩)
  · obtain ⟨v, rfl, q⟩ := rL_one r
    rw [q.str]
    exact .inr (.inr ⟨_, rfl, h.done R0 (.inl rfl)⟩)
  · exact h.elim
theorem c_tuple : Cal X cl (fun xs H Q => ∃ p ys, xs = [.ref p] ∧ ((SqL X.K H p ys ∧ ∀ l, H l = none → Q (.ref l) (upd H l (.tup ys))) ∨ (SqT X.K H p ys ∧ Q (.ref p) H))) pTuple := by
  intro W io om H0 H env S σ Q p ds vs R0 r h
  unfold pTuple at h
  split at h
  · obtain ⟨v, rfl, q⟩ := rL_one r
    obtain ⟨a, ws, rfl, ha, ra⟩ := q.lst R0.st
    exact ⟨a, ws, rfl, .inl ⟨SqL.of ha, Post.newT R0 ra h⟩⟩
  · obtain ⟨v, rfl, q⟩ := rL_one r
    obtain ⟨a, ws, rfl, ha, ra⟩ := q.tup R0.st
    refine ⟨a, ws, rfl, .inr ⟨ha, h.done R0 (.inl ?_)⟩⟩
    rcases q with q | ⟨_, _, _, _, e, _⟩
    · exact q
    · cases e
  · exact h.elim
theorem c_list : CalN X cl (fun xs H Q => ∃ p ys, xs = [.ref p] ∧ (SqL X.K H p ys ∨ SqT X.K H p ys) ∧ ∀ l, H l = none → Q (.ref l) (upd H l (.lst ys))) pList := by
  intro W Hs io om H0 H env S σ Q p ds vs hs R0 r h
  unfold pList at h
  split at h
  · obtain ⟨v, rfl, q⟩ := rL_one r
    obtain ⟨a, ws, rfl, ha, ra⟩ := q.lst R0.st
    exact ⟨a, ws, rfl, .inl (SqL.of ha), Post.newN hs R0 ra h⟩
  · obtain ⟨v, rfl, q⟩ := rL_one r
    obtain ⟨a, ws, rfl, ha, ra⟩ := q.tup R0.st
    exact ⟨a, ws, rfl, .inr ha, Post.newN hs R0 ra h⟩
  · obtain ⟨v, rfl, q⟩ := rL_one r
    obtain ⟨a, ws, rfl, ha, ra⟩ := q.frl R0.st
    exact ⟨a, ws, rfl, .inl ha, Post.newN hs R0 ra h⟩
  · exact h.elim
theorem c_all : Cal X cl (rAll X.K) pAll := by
  intro W io om H0 H env S σ Q p ds vs R0 r h
  unfold pAll at h
  split at h
  · obtain ⟨m, e, h⟩ := opt_post h
    obtain ⟨v, rfl, q⟩ := rL_one r
    obtain ⟨a, ws, rfl, ha, ra⟩ := q.lst R0.st
    obtain ⟨ns, e1, e2⟩ := Option.map_eq_some_iff.mp e
    have e3 := blsD_rep e1 ra
    subst e3 e2
    exact ⟨a, ns, rfl, SqL.of ha, h.done R0 (.inl rfl)⟩
  · exact h.elim
theorem c_any : Cal X cl (rAny X.K) pAny := by
  intro W io om H0 H env S σ Q p ds vs R0 r h
  unfold pAny at h
  split at h
  · obtain ⟨m, e, h⟩ := opt_post h
    obtain ⟨v, rfl, q⟩ := rL_one r
    obtain ⟨a, ws, rfl, ha, ra⟩ := q.lst R0.st
    obtain ⟨ns, e1, e2⟩ := Option.map_eq_some_iff.mp e
    have e3 := blsD_rep e1 ra
    subst e3 e2
    exact ⟨a, ns, rfl, SqL.of ha, h.done R0 (.inl rfl)⟩
  · exact h.elim
theorem c_sum : Cal X cl (rSum X.K) pSum := by
  intro W io om H0 H env S σ Q p ds vs R0 r h
  unfold pSum at h
  split at h
  · obtain ⟨m, e, h⟩ := opt_post h
    obtain ⟨v, rfl, q⟩ := rL_one r
    obtain ⟨a, ws, rfl, ha, ra⟩ := q.lst R0.st
    obtain ⟨ns, e1, e2⟩ := Option.map_eq_some_iff.mp e
    have e3 := intsD_rep e1 ra
    subst e3 e2
    exact ⟨a, ns, rfl, SqL.of ha, h.done R0 (.inl rfl)⟩
  · exact h.elim
theorem sortI_perm (ns : List Int) : (sortI ns).Perm ns := List.mergeSort_perm _ _
theorem sortI_sorted (ns : List Int) : (sortI ns).Pairwise (· ≤ ·) := by
  have h := List.pairwise_mergeSort (le := fun a b : Int => decide (a ≤ b)) (fun a b c h1 h2 => decide_eq_true (by have := of_decide_eq_true h1; have := of_decide_eq_true h2; omega)) (fun a b => by
    by_cases h : a ≤ b
    · simp [h]
    · simp [show b ≤ a by omega]) ns
  exact h.imp fun h => of_decide_eq_true h
theorem sorted_uniq : ∀ {xs ys : List Int}, xs.Perm ys → xs.Pairwise (· ≤ ·) → ys.Pairwise (· ≤ ·) → xs = ys := fun {xs ys} h h1 h2 =>
  h.eq_of_pairwise (fun a b _ _ h1 h2 => by omega) h1 h2
theorem RepL_ints {io : List Addr} {H : Hp} : ∀ ns : List Int, RepL K cl io H (ns.map D.int) (ns.map V.int)
  | [] => .nil
  | _ :: r => .cons rfl (RepL_ints r)
theorem sortP_perm (ps : List (Int × Int)) : (sortP ps).Perm ps := List.mergeSort_perm _ _
theorem leP_iff {p q : Int × Int} : leP p q = true ↔ p.1 < q.1 ∨ (p.1 = q.1 ∧ p.2 ≤ q.2) := decide_eq_true_iff
theorem sortP_sorted (ps : List (Int × Int)) : (sortP ps).Pairwise (fun p q => leP p q = true) := by
  refine List.pairwise_mergeSort (le := leP) (fun a b c h1 h2 => ?_) (fun a b => ?_) ps
  · rw [leP_iff] at *; omega
  · rw [Bool.or_eq_true, leP_iff, leP_iff]; omega
theorem sortP_uniq {xs ys : List (Int × Int)} (h : xs.Perm ys) (h1 : xs.Pairwise fun p q => leP p q = true) (h2 : ys.Pairwise fun p q => leP p q = true) : xs = ys :=
  h.eq_of_pairwise (fun a b _ _ h1 h2 => by
    rw [leP_iff] at h1 h2
    exact Prod.ext (by omega) (by omega)) h1 h2
/-- sorted(xs), xs a list of pairs of ints -/
def rSortedPT (K : PySem.W.Frag) : List V → Hp → VK → Prop := fun vs H Q => ∃ (a : Addr) (zs : List (V × (Int × Int))), vs = [V.ref a] ∧ SqL K H a (zs.map Prod.fst) ∧ (∀ z ∈ zs, ∃ t, z.1 = V.ref t ∧ SqT K H t [.int z.2.1, .int z.2.2]) ∧
  ∀ (ys : List (V × (Int × Int))) (p : Addr), ys.Perm zs → (ys.map Prod.snd).Pairwise (fun p q => leP p q = true) → H p = none → Q (.ref p) (upd H p (.lst (ys.map Prod.fst)))
theorem IsPair_one {h : Heap} {v : Value} {i j i' j' : Int} (a : Srt.IsPair h v i j) (b : Srt.IsPair h v i' j') : i = i' ∧ j = j' := by
  obtain ⟨t, o, t1, t2, n, rfl, ho, _, hd⟩ := a
  obtain ⟨t', o', t1', t2', n', e, ho', _, hd'⟩ := b
  cases e
  rw [ho] at ho'
  cases ho'
  rw [hd] at hd'
  simp only [Data.seq.injEq, Array.mk.injEq, List.cons.injEq, Value.int.injEq] at hd'
  exact ⟨hd'.1.1.1, hd'.1.2.1.1⟩
theorem cr_sortedPT : CallR X (.builtin "sorted") (rSortedPT X.K) := by
  intro pins s σ H vs us Q I r h
  obtain ⟨a, zs, rfl, hs, hx, q⟩ := h
  obtain ⟨its, rv, hl, hz⟩ := I.list hs
  obtain ⟨u, rfl, ru⟩ := vals1 r
  obtain rfl : u = Value.ref a := ru
  obtain ⟨k, hk⟩ : ∃ k : Value → Int × Int, ∀ v i j, Srt.IsPair s.heap v i j → k v = (i, j) := by
    classical
    refine ⟨fun v => if h : ∃ p : Int × Int, Srt.IsPair s.heap v p.1 p.2 then h.choose else (0, 0), fun v i j hp => ?_⟩
    have hex : ∃ p : Int × Int, Srt.IsPair s.heap v p.1 p.2 := ⟨(i, j), hp⟩
    simp only []
    rw [dif_pos hex]
    have := IsPair_one hex.choose_spec hp
    exact Prod.ext this.1 this.2
  have key : ∀ (zs : List (V × (Int × Int))) (its : List Value), Vals (zs.map Prod.fst) its → (∀ z ∈ zs, ∃ t, z.1 = V.ref t ∧ SqT X.K H t [.int z.2.1, .int z.2.2]) →
      zs = its.map (fun v => (backV v, k v)) ∧ ∀ v ∈ its, Srt.IsPair s.heap v (k v).1 (k v).2 ∧ ∃ t, v = Value.ref t := by
    intro zs
    induction zs with
    | nil => intro its rv _; cases rv; exact ⟨rfl, fun v hv => absurd hv (by simp)⟩
    | cons z zs ih =>
      intro its rv hx
      obtain ⟨x, i, j⟩ := z
      obtain ⟨t, e, hT⟩ := hx _ List.mem_cons_self
      simp only at e hT
      subst e
      cases rv with
      | cons r1 r2 =>
        rename_i v its
        obtain rfl : v = Value.ref t := r1
        obtain ⟨i1, i2⟩ := ih its r2 fun z hz => hx z (List.mem_cons_of_mem _ hz)
        obtain ⟨its2, r3, ⟨o, ho, hc, n, hd⟩, _⟩ := I.tuple hT
        obtain ⟨u1, u2, rfl, ri, rj⟩ := vals2 r3
        obtain ⟨t1, rfl⟩ := ri
        obtain ⟨t2, rfl⟩ := rj
        have hp : Srt.IsPair s.heap (Value.ref t) i j := ⟨t, o, t1, t2, n, rfl, ho, hc, hd⟩
        have e := hk _ _ _ hp
        refine ⟨?_, fun v hv => ?_⟩
        · rw [List.map_cons, ← i1, e]; rfl
        · rcases List.mem_cons.mp hv with rfl | hv
          · rw [e]; exact ⟨hp, t, rfl⟩
          · exact i2 v hv
  obtain ⟨e1, e2⟩ := key zs its rv hx
  refine SrtO.sorted_pairsO (k := k) hl.isList (by rw [← rv.length]; exact hz) (fun v hv => (e2 v hv).1) fun h' d out h1 h2 kp hd hn => ?_
  have h3 : ∀ u ∈ out, ∃ a, u = Value.ref a := fun u hu => (e2 u (h2.perm.mem_iff.mp hu)).2
  obtain ⟨n, hn⟩ := hn
  have f1 : ((out.map fun v => (backV v, k v)).map Prod.fst) = out.map backV := by rw [List.map_map]; rfl
  have f2 : ((out.map fun v => (backV v, k v)).map Prod.snd) = out.map k := by rw [List.map_map]; rfl
  have q := q (out.map fun v => (backV v, k v)) d (by rw [e1]; exact h2.perm.map _) (by
    rw [f2, List.pairwise_map]
    refine List.Pairwise.imp (fun {x y} h => ?_) h1
    have := SrtO.lexB_no.mp h
    rw [leP_iff]; omega) (I.hok.fresh hd)
  rw [f1] at q
  refine ⟨.ref d, upd H d (.lst (out.map backV)), I.laid (t' := s.toks) kp hd ⟨?_, out, n, vals_back h3, hn⟩, rfl, q⟩
  rw [List.length_map, h2.perm.length_eq, ← rv.length]
  exact hz
theorem prsD_rep {io : List Addr} {H : Hp} : ∀ {ds : List D} {ps : List (Int × Int)} {vs : List V}, prsD ds = some ps → RepL K cl io H ds vs →
    ∃ zs : List (V × (Int × Int)), zs.map Prod.fst = vs ∧ zs.map Prod.snd = ps ∧ ∀ z ∈ zs, Rep K cl io H (prD z.2) z.1
  | [], ps, _, e, h => by cases e; cases h; exact ⟨[], rfl, rfl, fun z hz => absurd hz (by simp)⟩
  | d :: ds, ps, _, e, h => by
    obtain ⟨v, r, rfl, h1, h2⟩ := h
    unfold prsD at e
    split at e
    · rename_i h; cases h
    · rename_i i j _ h
      cases h
      cases q : prsD ds with
      | none => rw [q] at e; cases e
      | some qs =>
        rw [q] at e; cases e
        obtain ⟨zs, rfl, rfl, h3⟩ := prsD_rep q h2
        refine ⟨(v, (i, j)) :: zs, rfl, rfl, fun z hz => ?_⟩
        rcases List.mem_cons.mp hz with rfl | hz
        · exact h1
        · exact h3 z hz
    · cases e
theorem RepL_prs {io : List Addr} {H : Hp} : ∀ {zs : List (V × (Int × Int))}, (∀ z ∈ zs, Rep K cl io H (prD z.2) z.1) → RepL K cl io H ((zs.map Prod.snd).map prD) (zs.map Prod.fst)
  | [], _ => .nil
  | z :: zs, h => .cons (h z List.mem_cons_self) (RepL_prs fun y hy => h y (List.mem_cons_of_mem _ hy))
/-- sorted(xs), xs a list of data alike in all -/
def rSortedX (K : PySem.W.Frag) : List V → Hp → VK → Prop := fun vs H Q => ∃ (a : Addr) (zs : List (V × D)), vs = [V.ref a] ∧ SqL K H a (zs.map Prod.fst) ∧ (∀ z ∈ zs, Dp K H z.1 (toPy z.2)) ∧ PySem.W.AllAlike (zs.map fun z => toPy z.2) ∧ PySem.W.Sortable (zs.map fun z => toPy z.2) ∧ (∀ z ∈ zs, (toPy z.2).depth ≤ 40) ∧
  ∀ p : Addr, H p = none → Q (.ref p) (upd H p (.lst ((zs.mergeSort (PySem.W.dataLe false fun z => toPy z.2)).map Prod.fst)))
theorem each_vals : ∀ {us : List Value} {zs : List (V × D)}, PySem.W.EachIs (fun u (z : V × D) => RelV z.1 u) us zs → Vals (zs.map Prod.fst) us
  | _, _, .nil => .nil
  | _, _, .cons h t => .cons h (each_vals t)
theorem vals_each : ∀ {us : List Value} {zs : List (V × D)}, Vals (zs.map Prod.fst) us → PySem.W.EachIs (fun u (z : V × D) => RelV z.1 u) us zs
  | _, [], h => by cases h; exact .nil
  | _, _ :: _, h => by cases h with | cons h t => exact .cons h (vals_each t)
theorem each_and {α β : Type} {R R' : α → β → Prop} : ∀ {as : List α} {bs : List β}, PySem.W.EachIs R as bs → (∀ b ∈ bs, ∀ a, R a b → R' a b) → PySem.W.EachIs R' as bs
  | _, _, .nil, _ => .nil
  | _, _, .cons h t, k => .cons (k _ List.mem_cons_self _ h) (each_and t fun b hb => k b (List.mem_cons_of_mem _ hb))
theorem cr_sortedX (hu : X.A.units + 64 < cLine) : CallR X (.builtin "sorted") (rSortedX X.K) := by
  intro pins s σ H vs us Q I r h
  obtain ⟨a, zs, rfl, hs, hx, hal, hsk, hd, q⟩ := h
  obtain ⟨its, rv, hl, hz⟩ := I.list hs
  obtain ⟨u, rfl, ru⟩ := vals1 r
  obtain rfl : u = Value.ref a := ru
  have hlen := rv.length
  rw [List.length_map] at hlen
  refine PySem.W.sorted_data (enc := fun z : V × D => toPy z.2) hl.isList (vals_each rv) (each_and (vals_each rv) fun z hz u hr => Dp.reads I _ _ _ (hx z hz) hr) hal hsk (by rw [List.length_map] at hz; exact hz) (fun z hz => by have := hd z hz; omega) fun out h1 h2 => ?_
  have hp := I.hok.fresh (Nat.le_succ s.heap.objs.size)
  obtain ⟨n, hn⟩ := sortedAll_at s.heap its out.toArray
  refine ⟨.ref (s.heap.objs.size + 1), upd H (s.heap.objs.size + 1) (.lst ((zs.mergeSort (PySem.W.dataLe false fun z => toPy z.2)).map Prod.fst)), I.laid (t' := s.toks) (fun b o e => sortedAll_old e) (Nat.le_succ _) ⟨?_, out, n, each_vals h2, hn⟩, rfl, q _ hp⟩
  rw [List.length_map] at hz ⊢
  rw [List.length_mergeSort]
  exact hz
theorem zs_rep {io : List Addr} {H : Hp} : ∀ {ds : List D} {vs : List V}, RepL K cl io H ds vs → ∃ zs : List (V × D), zs.map Prod.fst = vs ∧ zs.map Prod.snd = ds ∧ ∀ z ∈ zs, Rep K cl io H z.2 z.1
  | [], _, h => by cases h; exact ⟨[], rfl, rfl, fun z hz => absurd hz (by simp)⟩
  | d :: ds, _, h => by
    obtain ⟨v, r, rfl, h1, h2⟩ := h
    obtain ⟨zs, rfl, rfl, h3⟩ := zs_rep h2
    refine ⟨(v, d) :: zs, rfl, rfl, fun z hz => ?_⟩
    rcases List.mem_cons.mp hz with rfl | hz
    · exact h1
    · exact h3 z hz
theorem RepL_zs {io : List Addr} {H : Hp} : ∀ {zs : List (V × D)}, (∀ z ∈ zs, Rep K cl io H z.2 z.1) → RepL K cl io H (zs.map Prod.snd) (zs.map Prod.fst)
  | [], _ => .nil
  | z :: zs, h => .cons (h z List.mem_cons_self) (RepL_zs fun y hy => h y (List.mem_cons_of_mem _ hy))
theorem c_sorted : CalN X cl (fun vs H Q => (rSortedI X.K vs H Q ∨ rSortedPT X.K vs H Q) ∨ rSortedX X.K vs H Q) pSorted := by
  intro W Hs io om H0 H env S σ Q p ds vs hs R0 r h
  unfold pSorted at h
  split at h
  · rename_i ds
    obtain ⟨v, rfl, q⟩ := rL_one r
    obtain ⟨a, ws, rfl, ha, ra⟩ := q.lst R0.st
    cases e1 : intsD ds with
    | some ns =>
      simp only [e1] at h
      have e3 := intsD_rep e1 ra
      subst e3
      refine .inl (.inl ⟨a, ns, rfl, SqL.of ha, fun ns' pp h1 h2 hp => ?_⟩)
      have e4 : ns' = sortI ns := sorted_uniq (h1.trans (sortI_perm ns).symm) h2 (sortI_sorted ns)
      rw [e4]
      exact Post.newN hs R0 (RepL_ints _) h pp hp
    | none =>
      simp only [e1] at h
      cases e2 : prsD ds with
      | none =>
        simp only [e2] at h
        split at h
        · rename_i ho
          unfold okSrt at ho
          simp only [Bool.and_eq_true, Bool.or_eq_true, List.all_eq_true, decide_eq_true_eq] at ho
          obtain ⟨o1, o2, o3⟩ := ho
          obtain ⟨zs, rfl, rfl, hz⟩ := zs_rep ra
          have m : ∀ {x}, x ∈ zs.map (fun z => toPy z.2) → ∃ d ∈ zs.map Prod.snd, toPy d = x := fun {x} hx => by
            obtain ⟨z, hz, rfl⟩ := List.mem_map.mp hx
            exact ⟨z.2, List.mem_map.mpr ⟨z, hz, rfl⟩, rfl⟩
          refine .inr ⟨a, zs, rfl, SqL.of ha, fun z hm => ?_, fun d hd e he => ?_, ?_, fun z hm => (o1 _ (List.mem_map.mpr ⟨z, hm, rfl⟩)).2, fun pp hp => ?_⟩
          · exact dp_of _ _ (Rep.mono (.refl _) R0.st.sub _ _ (hz z hm)) (o1 _ (List.mem_map.mpr ⟨z, hm, rfl⟩)).1
          · obtain ⟨d', hd', rfl⟩ := m hd
            obtain ⟨e', he', rfl⟩ := m he
            exact o2 d' hd' e' he'
          · rcases o3 with o3 | o3
            · refine .inl fun d hd => ?_
              obtain ⟨d', hd', rfl⟩ := m hd
              have := o3 d' hd'
              unfold neTup at this
              split at this
              · exact ⟨_, _, rfl⟩
              · cases this
            · refine .inr fun d hd => ?_
              obtain ⟨d', hd', rfl⟩ := m hd
              have q1 := o3 d' hd'
              have q2 := (o1 d' hd').1
              clear hd hd' o1 o2 o3 m
              cases d' <;> simp_all [noTN, toPy, pure]
          · have e4 : sortD (zs.map Prod.snd) = (zs.mergeSort (PySem.W.dataLe false fun z => toPy z.2)).map Prod.snd := (PySem.W.sort_maps (r := PySem.W.dataLe false fun z : V × D => toPy z.2) (s := PySem.W.dataLe false toPy) Prod.snd fun a _ b _ => rfl).symm
            rw [e4] at h
            exact Post.newN hs R0 (RepL_zs fun z m => hz z ((List.mergeSort_perm _ _).mem_iff.mp m)) h pp hp
        · exact h.elim
      | some ps =>
        simp only [e2] at h
        obtain ⟨zs, rfl, rfl, hz⟩ := prsD_rep e2 ra
        refine .inl (.inr ⟨a, zs, rfl, SqL.of ha, fun z m => ?_, fun ys pp h1 h2 hp => ?_⟩)
        · obtain ⟨t, vs, e, hT, hr⟩ := hz z m
          obtain ⟨v1, r1, rfl, q1, v2, r2, rfl, q2, rfl⟩ := hr
          cases q1
          cases q2
          exact ⟨t, e, Same.seqT R0.st.sub hT⟩
        · have e4 : ys.map Prod.snd = sortP (zs.map Prod.snd) := sortP_uniq ((h1.map _).trans (sortP_perm _).symm) h2 (sortP_sorted _)
          rw [← e4] at h
          exact Post.newN hs R0 (RepL_prs fun z m => hz z (h1.mem_iff.mp m)) h pp hp
  · exact h.elim
theorem strsD_rep {io : List Addr} {H : Hp} : ∀ {ds : List D} {ns : List Str} {vs : List V}, strsD ds = some ns → RepL K cl io H ds vs → vs = ns.map V.str
  | [], ns, _, e, h => by cases e; exact h
  | d :: ds, ns, _, e, h => by
    obtain ⟨v, r, rfl, h1, h2⟩ := h
    cases d with
    | str i =>
      unfold strsD at e
      cases q : strsD ds with
      | none => rw [q] at e; cases e
      | some ms =>
        rw [q] at e; cases e
        cases h1
        rw [strsD_rep q h2]; rfl
    | _ => cases e
section
variable {es : List Expr} {fs : Sem1 (List D)} {apos : Pos} {p1 : Bool} {W : WX} {e o : Expr} {fo : Ex} {p2 : Bool}
theorem d_join {z : Str} {k : Nat} {zp : Pos} (ha : AD X cl W p1 [e] fs) (hs : starEach [e] X.env = [(false, eval e X.env)] := by rfl)
    (hbase : attributeBase (.Constant (.str z) k zp) "join" X.env (eval (.Constant (.str z) k zp) X.env) = eval (.Constant (.str z) k zp) X.env := by rfl)
    (hfew : ((backTo pos (starEach [e] X.env)).all (fun x => !x.1) && (backToKw pos (keywordEach [] X.env)).all (fun x => x.1.isSome)
      && decide ((e :: []).length + ([] : List Keyword).length + (if ([] : List Keyword).isEmpty then 0 else 1) < 30)) = true := by rfl)
    (hline : (apos.endLine == pos.line) = true := by rfl) :
    ED X cl W true (.Call (.Attribute (.Constant (.str z) k zp) "join" apos) [e] [] pos) (eCall (pJoin z) fs) := by
  refine weakE (pe_bm PySem.F.plainAttrs_str PySem.F.slot_str_join PySem.F.type_str_join mt_join pe_str ha hbase hfew hline hs (by rfl)) fun σ H Q ⟨io, om, H0, env, S, R0, h⟩ => ?_
  refine ⟨rfl, io, om, H0, env, S, R0, (Post.bind R0 h).mono fun vx H1 ⟨io1, H01, S1, ds, e1, R1, q1, h1⟩ => ?_⟩
  unfold pJoin at h1
  split at h1
  · rename_i ds
    unfold joinD at h1
    split at h1
    · rename_i ys e2
      obtain ⟨hl, h1⟩ := mk_post h1
      obtain ⟨v, rfl, q⟩ := rL_one q1
      obtain ⟨a, ws, rfl, ha, ra⟩ := q.lst R1.st
      have e3 := strsD_rep e2 ra
      subst e3
      exact ⟨z, a, ys, rfl, rfl, .inl (SqL.of ha), of_decide_eq_true hl, h1.done R1 (.inl rfl)⟩
    · exact h1.elim
  · rename_i ds
    unfold joinD at h1
    split at h1
    · rename_i ys e2
      obtain ⟨hl, h1⟩ := mk_post h1
      obtain ⟨v, rfl, q⟩ := rL_one q1
      obtain ⟨a, ws, rfl, ha, ra⟩ := q.tup R1.st
      have e3 := strsD_rep e2 ra
      subst e3
      exact ⟨z, a, ys, rfl, rfl, .inr ha, of_decide_eq_true hl, h1.done R1 (.inl rfl)⟩
    · exact h1.elim
  · exact h1.elim
theorem flat_get {x : D} {vx : V} {io : List Addr} {H : Hp} (hx : Rep K cl io H x vx) (fx : flat x = true) : ∀ {ds : List D} {vs : List V}, RepL K cl io H ds vs → ds.all flat = true → vs.map (fun v => eqV v vx) = ds.map (fun d => feq d x)
  | [], _, h, _ => by cases h; rfl
  | d :: ds, _, h, f => by
    obtain ⟨v, r, rfl, h1, h2⟩ := h
    rw [List.all_cons, Bool.and_eq_true] at f
    rw [List.map_cons, List.map_cons, flat_get hx fx h2 f.2, (flat_v h1 f.1).2 hx fx]
theorem d_index (ho : ED X cl W p2 o fo) (ha : AD X cl W p1 [e] fs) (hs : starEach [e] X.env = [(false, eval e X.env)] := by rfl)
    (hbase : attributeBase o "index" X.env (eval o X.env) = eval o X.env := by rfl)
    (hfew : ((backTo pos (starEach [e] X.env)).all (fun x => !x.1) && (backToKw pos (keywordEach [] X.env)).all (fun x => x.1.isSome)
      && decide ((e :: []).length + ([] : List Keyword).length + (if ([] : List Keyword).isEmpty then 0 else 1) < 30)) = true := by rfl)
    (hline : (apos.endLine == pos.line) = true := by rfl) :
    ED X cl W true (.Call (.Attribute o "index" apos) [e] [] pos) (eIdx fo fs) := by
  refine weakE (pe_bm PySem.F.plainAttrs_list PySem.F.slot_list_index PySem.F.type_list_index mt_index ho ha hbase hfew hline hs (by rfl)) fun σ H Q ⟨io, om, H0, env, S, R0, h⟩ => ?_
  refine ⟨io, om, H0, env, S, R0, (Post.bind (rp := rD X.K cl p2) R0 h).mono fun vx H1 ⟨io1, H01, S1, x, e1, R1, q1, h1⟩ => ?_⟩
  split at h1
  · rename_i ds
    obtain ⟨a, vs, rfl, ha, ra⟩ := q1.lst R1.st
    refine ⟨.inl ⟨rfl, vs, SqL.of ha⟩, io1, om, H01, env, S1, R1, (Post.bind R1 h1).mono fun vy H2 ⟨io2, H02, S2, ys, e2, R2, q2, h2⟩ => ?_⟩
    obtain ⟨a2, vs2, e3, ha2, ra2⟩ := (q1.ev e2).lst R2.st
    cases e3
    unfold pIdx at h2
    split at h2
    · rename_i y
      split at h2
      · rename_i f
        rw [Bool.and_eq_true] at f
        obtain ⟨j, ej, h2⟩ := opt_post h2
        obtain ⟨v, rfl, q⟩ := rL_one q2
        have rx := flat_rep q f.1
        have hm := flat_get rx f.1 ra2 f.2
        obtain ⟨hj, hj1, hj2⟩ := List.findIdx?_eq_some_iff_getElem.mp ej
        have hlen : vs2.length = ds.length := by have := congrArg List.length hm; simpa using this
        have hg : ∀ m (hm2 : m < vs2.length) (hm3 : m < ds.length), eqV vs2[m] v = feq ds[m] y := fun m hm2 hm3 => by
          have := congrArg (fun l => l[m]?) hm
          simp only [List.getElem?_map, List.getElem?_eq_getElem hm2, List.getElem?_eq_getElem hm3, Option.map_some, Option.some.injEq] at this
          exact this
        refine ⟨a, vs2, v, j, vs2[j], rfl, rfl, SqL.of ha2, (flat_v rx f.1).1, (flat_all rx f.1 ra2 f.2).1, List.getElem?_eq_getElem (by omega), ?_, fun m z' hmj hz => ?_, h2.done R2 (.inl rfl)⟩
        · rw [hg j (by omega) hj]; exact hj1
        · obtain ⟨hml, rfl⟩ := List.getElem?_eq_some_iff.mp hz
          rw [hg m hml (by omega)]
          have := hj2 m hmj
          exact Bool.eq_false_iff.mpr this
      · exact h2.elim
    · exact h2.elim
  · exact h1.elim
end
section
variable (ha : AD X cl W p1 (e :: es) fs)
include ha
theorem d_len (hm : X.mg "len" = none) (hg : Gl X "len" := by rfl) (he : starEach (e :: es) X.env = (false, eval e X.env) :: starEach es X.env := by rfl) (hpl : (backTo pos (starEach es X.env)).any (·.1) = false := by rfl) : ED X cl W true (.Call (.Name "len" q) (e :: es) [] pos) (eCall pLen fs) := d_callB call_len c_len ha hm hg (by decide +kernel) (by decide) (by decide) he hpl
theorem d_abs (hm : X.mg "abs" = none) (hg : Gl X "abs" := by rfl) (he : starEach (e :: es) X.env = (false, eval e X.env) :: starEach es X.env := by rfl) (hpl : (backTo pos (starEach es X.env)).any (·.1) = false := by rfl) : ED X cl W true (.Call (.Name "abs" q) (e :: es) [] pos) (eCall pAbs fs) := d_callB call_abs c_abs ha hm hg (by decide +kernel) (by decide) (by decide) he hpl
theorem d_max (hm : X.mg "max" = none) (hc : X.calm = true := by rfl) (hg : Gl X "max" := by rfl) (he : starEach (e :: es) X.env = (false, eval e X.env) :: starEach es X.env := by rfl) (hpl : (backTo pos (starEach es X.env)).any (·.1) = false := by rfl) : ED X cl W true (.Call (.Name "max" q) (e :: es) [] pos) (eCall pMax fs) := d_callB (CallR.or (call_max2 hc) (cr_max hc)) c_max ha hm hg (by decide +kernel) (by decide) (by decide) he hpl
theorem d_min (hm : X.mg "min" = none) (hc : X.calm = true := by rfl) (hg : Gl X "min" := by rfl) (he : starEach (e :: es) X.env = (false, eval e X.env) :: starEach es X.env := by rfl) (hpl : (backTo pos (starEach es X.env)).any (·.1) = false := by rfl) : ED X cl W true (.Call (.Name "min" q) (e :: es) [] pos) (eCall pMin fs) := d_callB (CallR.or (CallR.or (call_min2 hc) (call_min3 hc)) (cr_min hc)) c_min ha hm hg (by decide +kernel) (by decide) (by decide) he hpl
theorem d_divmod (hm : X.mg "divmod" = none) (hg : Gl X "divmod" := by rfl) (he : starEach (e :: es) X.env = (false, eval e X.env) :: starEach es X.env := by rfl) (hpl : (backTo pos (starEach es X.env)).any (·.1) = false := by rfl) : ED X cl W true (.Call (.Name "divmod" q) (e :: es) [] pos) (eCall pDivmod fs) := d_callB call_divmod c_divmod ha hm hg (by decide +kernel) (by decide) (by decide) he hpl
theorem d_sum (hm : X.mg "sum" = none) (hc : X.calm = true := by rfl) (hg : Gl X "sum" := by rfl) (he : starEach (e :: es) X.env = (false, eval e X.env) :: starEach es X.env := by rfl) (hpl : (backTo pos (starEach es X.env)).any (·.1) = false := by rfl) : ED X cl W true (.Call (.Name "sum" q) (e :: es) [] pos) (eCall pSum fs) := d_callB (cr_sum hc) c_sum ha hm hg (by decide +kernel) (by decide) (by decide) he hpl
theorem d_all (hm : X.mg "all" = none) (hc : X.calm = true := by rfl) (hg : Gl X "all" := by rfl) (he : starEach (e :: es) X.env = (false, eval e X.env) :: starEach es X.env := by rfl) (hpl : (backTo pos (starEach es X.env)).any (·.1) = false := by rfl) : ED X cl W true (.Call (.Name "all" q) (e :: es) [] pos) (eCall pAll fs) := d_callB (cr_all hc) c_all ha hm hg (by decide +kernel) (by decide) (by decide) he hpl
theorem d_any (hm : X.mg "any" = none) (hc : X.calm = true := by rfl) (hg : Gl X "any" := by rfl) (he : starEach (e :: es) X.env = (false, eval e X.env) :: starEach es X.env := by rfl) (hpl : (backTo pos (starEach es X.env)).any (·.1) = false := by rfl) : ED X cl W true (.Call (.Name "any" q) (e :: es) [] pos) (eCall pAny fs) := d_callB (cr_any hc) c_any ha hm hg (by decide +kernel) (by decide) (by decide) he hpl
theorem n_sorted (hu : X.A.units + 64 < cLine) (hm : X.mg "sorted" = none) (hg : Gl X "sorted" := by rfl) (he : starEach (e :: es) X.env = (false, eval e X.env) :: starEach es X.env := by rfl) (hpl : (backTo pos (starEach es X.env)).any (·.1) = false := by rfl) : ND X cl W (.Call (.Name "sorted" q) (e :: es) [] pos) (nCall pSorted fs) := n_callB (CallR.or (CallR.or cr_sortedI cr_sortedPT) (cr_sortedX hu)) c_sorted ha hm hg (by decide +kernel) (by decide) (by decide) he hpl
theorem d_intOf (hm : X.mg "int" = none) (hg : Gl X "int" := by rfl) (he : starEach (e :: es) X.env = (false, eval e X.env) :: starEach es X.env := by rfl) (hpl : (backTo pos (starEach es X.env)).any (·.1) = false := by rfl) : ED X cl W true (.Call (.Name "int" q) (e :: es) [] pos) (eCall pInt fs) := d_callTy call_int1 c_int ha hm hg (by decide +kernel) (by decide) (by decide) he hpl
theorem d_strOf (hm : X.mg "str" = none) (hg : Gl X "str" := by rfl) (he : starEach (e :: es) X.env = (false, eval e X.env) :: starEach es X.env := by rfl) (hpl : (backTo pos (starEach es X.env)).any (·.1) = false := by rfl) : ED X cl W true (.Call (.Name "str" q) (e :: es) [] pos) (eCall pStr fs) := d_callTy call_strA c_str ha hm hg (by decide +kernel) (by decide) (by decide) he hpl
theorem d_tupleOf (hm : X.mg "tuple" = none) (hg : Gl X "tuple" := by rfl) (he : starEach (e :: es) X.env = (false, eval e X.env) :: starEach es X.env := by rfl) (hpl : (backTo pos (starEach es X.env)).any (·.1) = false := by rfl) : ED X cl W true (.Call (.Name "tuple" q) (e :: es) [] pos) (eCall pTuple fs) := d_callTy call_tuple_of c_tuple ha hm hg (by decide +kernel) (by decide) (by decide) he hpl
theorem n_listOf (hm : X.mg "list" = none) (hg : Gl X "list" := by rfl) (he : starEach (e :: es) X.env = (false, eval e X.env) :: starEach es X.env := by rfl) (hpl : (backTo pos (starEach es X.env)).any (·.1) = false := by rfl) : ND X cl W (.Call (.Name "list" q) (e :: es) [] pos) (nCall pList fs) := n_callTy call_list_of c_list ha hm hg (by decide +kernel) (by decide) (by decide) he hpl
end
theorem isT_ty {K : PySem.W.Frag} {p : Bool} {T : Ty} {d : D} {v : V} {b : Bool} (st : StR K cl io H0 H S) (h : rD K cl p io H0 H d v) (e : isT T d = some b) : ∃ t : String, TyX K H v (.type t) ∧ kitB t T.name = some b := by
  cases d with
  | non =>
    rw [h.non]
    refine ⟨_, .base .non, ?_⟩
    cases T <;> (cases e; decide +kernel)
  | bl x =>
    rw [h.bl]
    refine ⟨_, .base (.bl x), ?_⟩
    cases T <;> (cases e; decide +kernel)
  | int x =>
    rw [h.int]
    refine ⟨_, .base (.int x), ?_⟩
    cases T <;> (cases e; decide +kernel)
  | str x =>
    rw [h.str]
    refine ⟨_, .base (.str x), ?_⟩
    cases T <;> (cases e; decide +kernel)
  | tup ds =>
    obtain ⟨a, vs, rfl, ha, ra⟩ := h.tup st
    refine ⟨"tuple", ?_, ?_⟩
    · rcases ha with (ha | ⟨o, ha⟩) | ⟨o, _, _, ha, hc, _⟩
      · exact .base (.tup ha)
      · exact .fTuple ha
      · exact .kTuple ha hc
    · cases T <;> (cases e; decide +kernel)
  | lst ds =>
    obtain ⟨a, vs, rfl, ha, ra⟩ := h.lst st
    refine ⟨"list", .base (.lst ha), ?_⟩
    cases T <;> (cases e; decide +kernel)
  | frl ds =>
    obtain ⟨a, vs, rfl, ha, ra⟩ := h.frl st
    refine ⟨"list", ?_, ?_⟩
    · rcases ha with (ha | ⟨o, ha⟩) | ⟨o, _, _, ha, hc, _⟩
      · exact .base (.lst ha)
      · exact .base (.frz ha)
      · exact .kList ha hc
    · cases T <;> (cases e; decide +kernel)
  | ins c ks ds => cases T <;> cases e
  | obj n => cases T <;> cases e
theorem d_isi {T : Ty} {x : Str} {q' : Pos} (ha : ED X cl W p1 a fa) (hm : X.mg "isinstance" = none) (hT : X.mg x = none) (hx : bootBuiltins x = some (.type T.name) := by decide +kernel) (hg : Gl X "isinstance" := by rfl) (hgT : Gl X x := by rfl)
    (hn : x ≠ "__name__" := by decide) (hd : (x == ("__debug__" : Str)) = false := by decide)
    (hs1 : starEach [a, .Name x q'] X.env = (false, eval a X.env) :: starEach [.Name x q'] X.env := by rfl) (hs2 : starEach [.Name x q'] X.env = (false, eval (.Name x q') X.env) :: starEach [] X.env := by rfl)
    (hpl : (backTo pos (starEach [.Name x q'] X.env)).any (·.1) = false := by rfl) :
    ED X cl W true (.Call (.Name "isinstance" q) [a, .Name x q'] [] pos) (eIsi T fa) := by
  refine weakE (pe_callB call_isi hg hm (by decide +kernel) (pa_cons ha (pa_cons (pe_bltn (v := .ty T.name) hgT hT hx rfl hn hd) pa_nil hs2) hs1) (by decide) (by decide) hs1 hpl) fun σ H Q ⟨io, om, H0, env, S, R0, h⟩ => ?_
  refine ⟨io, om, H0, env, S, R0, (Post.bind R0 h).mono fun vx H1 ⟨io1, H01, S1, x, e1, R1, q1, h1⟩ => ?_⟩
  obtain ⟨b, e, h1⟩ := opt_post h1
  obtain ⟨t, ht, hk⟩ := isT_ty R1.st q1 e
  exact ⟨vx, .ty T.name, _, _, b, rfl, .ty _, ht, kit_ty hk, h1.done_bl R1⟩
end
end G

namespace PySem
open Sem (wp)
open Builtin Builtin.Str PySem.Calls
set_option maxHeartbeats 1000000 in
theorem meets_enumerate_new1 {v : Value} {o : Obj} {H : Heap → Prop} (B : Begins v o H) :
    Meets (Builtin.«enumerate.__new__» ⟨[.type "enumerate", v], []⟩) (fun _ R s => H s.heap ∧
      R (.ok (.ret (.ref (s.heap.push o).objs.size))) { s with heap := (s.heap.push o).push { cls := .type "enumerate", data := .fields #[.none, .bool false, .ref s.heap.objs.size, rawInt 0, .none, .none] } }) :=
  .of_wp fun prog w A R s h => by
    obtain ⟨hp, g, d, tk, os⟩ := s; obtain ⟨h1, h⟩ := h
    have hsub := sub_enumerate
    have q1 : ∀ {A' : Around} {E : Value → Shared → Prop} {Q : Value → Shared → Prop}, Q (.ref hp.objs.size) ⟨hp.push o, g, d, tk, os⟩ → wpAny (model prog w) A' (pyIter v) Q E ⟨hp, g, d, tk, os⟩ :=
      fun q => B.iter prog w _ _ ⟨hp, g, d, tk, os⟩ _ h1 q
    wp_walk using q1
    refine wpAny_stack_any fun st => wpAny_pure ?_
    split
    · rename_i c _ _ _ _ _
      cases (c == Value.type "enumerate")
      · wp_walk using q1
        exact ⟨_, rfl, h⟩
      · wp_walk using q1
        exact ⟨_, rfl, h⟩
    · wp_walk using q1
      exact ⟨_, rfl, h⟩
section
variable {prog : Program} {w : World} {A : Around} {E : Value → Shared → Prop} {s : Shared}
theorem enum_begins1 {v : Value} {o : Obj} {H : Heap → Prop} {Q : Value → Shared → Prop} (B : Begins v o H) (h1 : H s.heap)
    (h : ∀ h', IsEnum h' (s.heap.objs.size + 1) s.heap.objs.size 0 .none → h'.get? s.heap.objs.size = some o → h'.objs.size = s.heap.objs.size + 2 →
      (∀ b o, s.heap.get? b = some o → h'.get? b = some o) → Q (.ref (s.heap.objs.size + 1)) { s with heap := h' }) :
    wpAny (model prog w) A (call (.type "enumerate") [v]) Q E s := by
  refine callType_new F.called_enumerate (by decide) (F.typeCall_enumerate_1 _) (F.newCall_enumerate_1 _) (fun obj => F.args_object_init_2 obj _) F.entry_enumerate_new
    (meets_enumerate_new1 B) ⟨h1, ?_⟩
  have hz : (s.heap.push o).objs.size = s.heap.objs.size + 1 := Heap.size_push ..
  show _ ∧ _
  rw [hz]
  have he : IsEnum ((s.heap.push o).push { cls := .type "enumerate", data := .fields #[.none, .bool false, .ref s.heap.objs.size, rawInt 0, .none, .none] }) (s.heap.objs.size + 1) s.heap.objs.size 0 .none := by
    have := Heap.get?_push_size (s.heap.push o) (o := { cls := .type "enumerate", data := .fields #[.none, .bool false, .ref s.heap.objs.size, rawInt 0, .none, .none] }) rfl
    rw [hz] at this; exact this
  refine ⟨⟨_, he, rfl⟩, h _ he (Heap.get?_push_of_some _ (Heap.get?_push_size _ B.free)) (by rw [Heap.size_push, hz]) fun b o x => Heap.get?_push_of_some _ (Heap.get?_push_of_some _ x)⟩
theorem wpAny_pyNext_enum_endT {e it t : Addr} {i : Nat} {c : Int} {items : Array Value} {old : Value} {Q : Option Value → Shared → Prop} (hh : A.handled = none)
    (he : IsEnum s.heap e it c old) (hit : s.heap.IsTupleIter it t i) (ht : s.heap.IsTuple t items) (hx : items[i]? = none)
    (hQ : ∀ h', Heap.ExtBut it s.heap h' → Q none { s with heap := h' }) : wpAny (model prog w) A (pyNext (.ref e)) Q E s := by
  have hT : s.TypeIs (.ref e) "enumerate" := ⟨_, he, rfl⟩
  unfold pyNext
  refine wpAny_bind (wpAny_attempt (wpAny_callSpecial?_slot (name := Str.ofString "__next__") hT F.slot_enumerate_next
    (wpAny_call_entry F.slot_enumerate_next hT F.entry_enumerate_next ?_ (F.args_enumerate_next_1 _))))
  show wpAny _ _ (field (.ref e) 2 >>= _) _ _ _
  refine wpAny_bind (wpAny_field he rfl (x := .ref it) rfl ?_)
  refine wpAny_bind (wpAny_nextOf_tuple_end hh hit ht hx fun h' x he' hx' => ?_)
  obtain ⟨o, ho, hc⟩ := hx'
  refine wpAny_bind (wpAny_isInstance (T := "StopIteration") (b := true) ⟨o, ho, hc⟩ isSubtype_stop ?_)
  exact wpAny_pure (hQ _ he')
end
end PySem
namespace G
open PySem PySem.Spec PyProof.Rows L2
/-- the tuple at a, each item in a new pair -/
def IteT (K : PySem.W.Frag) (a : Addr) : It :=
  ⟨fun i H => ∃ (xs : List V) (x : V), SqT K H a xs ∧ xs[i]? = some x, fun i H v H' => ∃ T x, v = .ref T ∧ H T = none ∧ H' = upd H T (.tup [.int (i : Nat), x]) ∧ ∀ xs, SqT K H a xs → xs[i]? = some x, fun i H => ∃ xs : List V, SqT K H a xs ∧ xs.length ≤ i⟩
theorem turn_enumT {P : Program} {w : World} {K : PySem.W.Frag} {elts : List Expr} {kk : Nat} {tpos : Pos} (a e it : Addr) (hai : a ≠ it) (hae : e ≠ a) :
    Turn P w K (.Tuple elts kk tpos) (IteT K a) [e, it] e (fun i h => (∃ old, IsEnum h e it ((i : Nat) : Int) old) ∧ h.IsTupleIter it a i ∧ e ≠ it) where
  mem := by simp
  obj := fun i h st b hb => by
    obtain ⟨⟨old, he⟩, ⟨o, ho, hc, hd⟩, _⟩ := st
    have e' : b = e ∨ b = it := by simpa using hb
    rcases e' with z | z
    · rw [z]; exact ⟨_, he, fun v q => nomatch q⟩
    · rw [z]; exact ⟨o, ho, fun v q => by rw [hd] at q; cases q⟩
  keep := fun i h h' st k => let ⟨⟨old, he⟩, hi, hne⟩ := st; ⟨⟨old, k e (by simp) _ he⟩, hi.at fun o q => k it (by simp) o q, hne⟩
  item := by
    intro X hP hw hK hc i pins s σ H E I hf st hg
    subst hP hw hK
    obtain ⟨⟨old, he⟩, hit, hne⟩ := st
    obtain ⟨xs, x, hq, hx⟩ := hg
    obtain ⟨its, rv, p, hz⟩ := I.tuple hq
    obtain ⟨u, hu, ru⟩ := rv.get hx
    have hel : e < s.heap.objs.size := Heap.lt_size he
    have hil : it < s.heap.objs.size := by obtain ⟨_, q, _⟩ := hit; exact Heap.lt_size q
    have hlt : i < its.toArray.size := by
      have := (List.getElem?_eq_some_iff.mp hu).1
      simpa using this
    refine wpAny_pyNext_enum_itemC (fp := [it, a]) (n := its.toArray.size) (i := i) (c := (i : Nat)) (P := fun i v => its.toArray[i]? = some v) (St := fun i h => h.IsTupleIter it a i ∧ h.IsTuple a its.toArray)
      (Draws.tuple (A := X.A.in1) (show X.A.in1.handled = none from I.ok.hd hc) it a hai its.toArray) he ⟨hit, p⟩ hlt hne (by simp [hne, hae]) fun y h' tk hy ho hst' hT hsz hk => ?_
    have ey : y = u := by
      rw [List.getElem?_toArray, hu] at hy
      exact (Option.some.inj hy).symm
    subst ey
    refine ⟨_, rfl, wpAny_letOwnedTupleGo_enum (s := { s with heap := h', toks := tk + 1 }) ho fun h'' he' sb => ?_⟩
    have hT2 : h''.get? s.heap.objs.size = some { cls := .type "tuple", data := .seq #[.int i tk, y] } := (sb.2 _ (Nat.ne_of_gt hel)).trans hT
    have new : ObjOk X.prog X.w (upd H s.heap.objs.size (.tup [.int (i : Nat), x])) h'' s.heap.objs.size (.tup [.int (i : Nat), x]) :=
      ⟨by show 2 ≤ sizeLine; decide, [.int i tk, y], .cons ⟨_, rfl⟩ (.cons ru .nil), ⟨_, hT2, rfl, _, rfl⟩⟩
    have I1 : Inv X pins σ (upd H s.heap.objs.size (.tup [.int (i : Nat), x])) { s with heap := h'', toks := tk + 1 } :=
      I.turnedNew (ch := [e, it]) (fun b ob hb q => (sb.2 b (fun z => hb (by simp [z]))).trans (hk b ob (fun z => hb (by simp [z])) (fun z => hb (by simp [z])) q)) hf (Nat.le_refl _) new
    refine ⟨.ref s.heap.objs.size, _, I1, rfl, ⟨_, x, rfl, I.hok.fresh (Nat.le_refl _), rfl, fun ys hy => by rw [I.tuple_inj hy hq]; exact hx⟩, ⟨⟨y, ?_⟩, hst'.1.at fun o q => (sb.2 it (Ne.symm hne)).trans q, hne⟩, fun b hb => ?_⟩
    · have e1 : ((i + 1 : Nat) : Int) = (i : Int) + 1 := by omega
      rw [e1]; exact he'
    · have hb' : b < s.heap.objs.size := by
        have e' : b = e ∨ b = it := by simpa using hb
        rcases e' with z | z
        · rw [z]; exact hel
        · rw [z]; exact hil
      rw [upd_ne (Nat.ne_of_lt hb')]
      exact (hf b hb).1
  done := by
    intro X hP hw hK hc i pins s σ H E I hf st hg
    subst hP hw hK
    obtain ⟨⟨old, he⟩, hit, hne⟩ := st
    obtain ⟨xs, hq, hx⟩ := hg
    obtain ⟨its, rv, p, hz⟩ := I.tuple hq
    obtain ⟨f0, f1, f2, f3, f4, f5⟩ := hf it (by simp)
    have hl := rv.length
    exact wpAny_pyNext_enum_endT (I.ok.hd hc) he hit p (by simp; omega) fun h' eb => ⟨rfl, I.turned (t' := s.toks) (fun b o hb q => eb b o hb q) f0 f1 f3 f4 f5⟩
  self := fun A i s Q E st h => let ⟨⟨_, he⟩, _⟩ := st; wpAny_pyIter_enum he h
def iEnumTu (K : PySem.W.Frag) (ta : TA) : TI := fun σ H R => ta σ H fun vs H1 => ∃ a xs, vs = [.ref a] ∧ SqT K H1 a xs ∧ R (IteT K a) H1
theorem pi_enumT {X : Cx} {e : Expr} {ta : TA} {p pos tpos : Pos} {elts : List Expr} {kk : Nat} (hg : Gl X "enumerate") (hm : X.mg "enumerate" = none) (ha : PA X [e] ta) (hs : starEach [e] X.env = [(false, eval e X.env)] := by rfl) :
    PI X (.Tuple elts kk tpos) (.Call (.Name "enumerate" p) [e] [] pos) (iEnumTu X.K ta) := by
  refine ⟨fun pins s σ H R I h => ?_⟩
  refine Call_ (ld_blt I hg hm boot_enumerate (PyProof.Rows.callWith_type1 (thn (ha.run pos pins s σ H _ I h) fun us s1 ⟨vs, H1, I1, r1, q1⟩ => ?_) hs rfl))
  obtain ⟨a, xs, ex, hq, q⟩ := q1
  subst ex
  cases r1 with
  | cons r rr =>
    cases rr
    cases r
    obtain ⟨its, rv, p', hz⟩ := I1.tuple hq
    obtain ⟨oa, hoa, _⟩ := id p'
    have hal : a < s1.heap.objs.size := Heap.lt_size hoa
    refine enum_begins1 (begins_tuple a its.toArray) p' fun h' he hit hsz hk => wpAny_pyIter_enum he ?_
    have I2 : Inv X pins σ H1 { s1 with heap := h' } := I1.kept (t' := s1.toks) hk
    refine ⟨s1.heap.objs.size + 1, [s1.heap.objs.size + 1, s1.heap.objs.size], _, _, H1, rfl, I2, turn_enumT a (s1.heap.objs.size + 1) s1.heap.objs.size (Nat.ne_of_lt hal) (Nat.ne_of_gt (Nat.lt_succ_of_lt hal)), ⟨⟨.none, he⟩, ⟨_, hit, rfl, rfl⟩, Nat.succ_ne_self _⟩, fun b hb => ?_, q⟩
    have e' : b = s1.heap.objs.size + 1 ∨ b = s1.heap.objs.size := by simpa using hb
    have hle : s1.heap.objs.size ≤ b := by
      rcases e' with z | z
      · rw [z]; exact Nat.le_add_right _ _
      · rw [z]; exact Nat.le_refl _
    exact I1.fpOk hle (I1.hok.fresh hle)
end G

set_option maxHeartbeats 1000000
namespace GZ
open PySem PySem.Spec PyProof.Rows L2
/-- the iterator at it walks the values xs, that stand at l -/
structure Row (prog : Program) (w : World) (it l : Addr) (Is : Heap → Nat → Prop) (At : Heap → Array Value → Prop) : Prop where
  item : ∀ {A : Around} {E : Value → Shared → Prop} {s : Shared} {i : Nat} {xs : Array Value} {x : Value} {Q : Value → Shared → Prop}, Is s.heap i → At s.heap xs → xs[i]? = some x →
    (∀ h', Is h' (i + 1) → Heap.SameBut it s.heap h' → Q x { s with heap := h' }) → wpAny (model prog w) A (Builtin.SmallTypes.nextOf (.ref it)) Q E s
  fin : ∀ {A : Around} {E : Value → Shared → Prop} {s : Shared} {i : Nat} {xs : Array Value} {Q : Value → Shared → Prop}, A.handled = none → Is s.heap i → At s.heap xs → xs[i]? = none →
    (∀ h' e, Heap.ExtBut it s.heap h' → (∃ o, h'.get? e = some o ∧ o.cls = .type "StopIteration") → E (.ref e) { s with heap := h' }) → wpAny (model prog w) A (Builtin.SmallTypes.nextOf (.ref it)) Q E s
  keep : ∀ {h h' : Heap} {i : Nat}, Is h i → (∀ o, h.get? it = some o → h'.get? it = some o) → Is h' i
  keepA : ∀ {h h' : Heap} {xs : Array Value}, At h xs → (∀ o, h.get? l = some o → h'.get? l = some o) → At h' xs
  obj : ∀ {h : Heap} {i : Nat}, Is h i → ∃ o, h.get? it = some o ∧ ∃ fs, o.data = .fields fs
section
variable {prog : Program} {w : World} {it l : Addr}
theorem rowT : Row prog w it l (fun h i => h.IsTupleIter it l i) (fun h xs => h.IsTuple l xs) where
  item := fun a b c d => RZ.nextOf_tuple_item a b c d
  fin := fun a b c d e => RZ.nextOf_tuple_end a b c d e
  keep := fun a e => Heap.IsTupleIter.at a e
  keepA := fun ⟨o, ho, r⟩ e => ⟨o, e o ho, r⟩
  obj := fun ⟨o, ho, _, hd⟩ => ⟨o, ho, _, hd⟩
theorem rowL : Row prog w it l (fun h i => h.IsListIter it l i) (fun h xs => h.IsList l xs) where
  item := fun a b c d => wpAny_nextOf_list_item a b c d
  fin := fun a b c d e => wpAny_nextOf_list_end a b c d e
  keep := fun a e => Heap.IsListIter.at a e
  keepA := fun a e => Heap.IsList.at a e
  obj := fun ⟨o, ho, _, hd⟩ => ⟨o, ho, _, hd⟩
end
section
variable {prog : Program} {w : World} {A : Around} {E : Value → Shared → Prop} {s : Shared} {z TI TO i1 i2 l1 l2 : Addr} {I1 I2 : Heap → Nat → Prop} {A1 A2 : Heap → Array Value → Prop} {k1 k2 : Nat} {xs ys : Array Value} {x y a b : Value}
theorem next_item {Q : Value → Shared → Prop} (r1 : Row prog w i1 l1 I1 A1) (r2 : Row prog w i2 l2 I2 A2) (D : ZipApart z TI TO i1 i2 l1 l2) (hz : IsZip s.heap z TI TO .none) (hTI : IsPair s.heap TI (.ref i1) (.ref i2)) (hTO : IsPair s.heap TO a b)
    (h1 : I1 s.heap k1) (h2 : I2 s.heap k2) (ha1 : A1 s.heap xs) (ha2 : A2 s.heap ys) (hx : xs[k1]? = some x) (hy : ys[k2]? = some y)
    (hQ : ∀ h', IsZip h' z TI TO (rawInt s.heap.objs.size) → IsPair h' TO x y → I1 h' (k1 + 1) → I2 h' (k2 + 1) → IsPair h' s.heap.objs.size x y →
      (∀ c o, c ≠ z → c ≠ TO → c ≠ i1 → c ≠ i2 → s.heap.get? c = some o → h'.get? c = some o) → Q (.ref s.heap.objs.size) { s with heap := h' }) :
    wpAny (model prog w) A (Builtin.«zip.__next__» ⟨[.ref z], []⟩) (fun fin s' => ∃ v, fin = .done (.ret v) ∧ Q v s') E s := by
  show wpAny _ _ (field (.ref z) 2 >>= _) _ _ _
  refine wpAny_bind (wpAny_field hz rfl (x := .bool false) rfl ?_)
  show wpAny _ _ (field (.ref z) 3 >>= _) _ _ _
  refine wpAny_bind (wpAny_field hz rfl (x := .ref TI) rfl ?_)
  refine wpAny_bind (wpAny_seqItems hTI rfl ?_)
  show wpAny _ _ (Builtin.SmallTypes.ownedTupleIsFree (.ref z) >>= _) _ _ _
  refine wpAny_bind ?_
  unfold Builtin.SmallTypes.ownedTupleIsFree
  refine wpAny_bind (wpAny_field hz rfl (x := .none) rfl (wpAny_pure ?_))
  simp only [if_true]
  refine wpAny_bind (wpAny_rule ?_)
  refine wpAny_bind (wpAny_field hz rfl (x := .ref TO) rfl ?_)
  refine wpAny_bind (wpAny_setField_rec hz (by simp) fun g1 z1 s1 => ?_)
  replace z1 : IsZip g1 z TI TO .ellipsis := z1
  refine wpAny_bind ?_
  simp only [List.zipIdx_cons, List.zipIdx_nil, List.forIn_cons, List.forIn_nil]
  refine wpAny_bind (wpAny_bind (wpAny_onRaise ?_))
  show wpAny _ _ (Builtin.SmallTypes.nextOf (.ref i1) >>= _) _ _ _
  have q1 := s1.extBut
  refine wpAny_bind (r1.item (r1.keep h1 fun o => q1 _ o D.i1z) (r1.keepA ha1 fun o => q1 _ o D.l1z) hx fun g2 n1 s2 => wpAny_pure ?_)
  have q2 := s2.extBut
  have p2 : IsPair g2 TO a b := q2 _ _ D.TOi1 (q1 _ _ D.TOz hTO)
  refine wpAny_bind (wpAny_seqItems p2 rfl ?_)
  refine wpAny_bind (wpAny_updateSeq_pair p2 fun g3 p3 s3 => ?_)
  replace p3 : IsPair g3 TO x b := p3
  have q3 := s3.extBut
  refine wpAny_bind (wpAny_letGo (wpAny_pure ?_))
  refine wpAny_bind (wpAny_bind (wpAny_onRaise ?_))
  show wpAny _ _ (Builtin.SmallTypes.nextOf (.ref i2) >>= _) _ _ _
  refine wpAny_bind (r2.item (r2.keep h2 fun o e => q3 _ o D.TOi2.symm (q2 _ o D.i12.symm (q1 _ o D.i2z e))) (r2.keepA ha2 fun o e => q3 _ o D.l2TO (q2 _ o D.l2i1 (q1 _ o D.l2z e))) hy fun g4 n2 s4 => wpAny_pure ?_)
  have q4 := s4.extBut
  have p4 : IsPair g4 TO x b := q4 _ _ D.TOi2 p3
  refine wpAny_bind (wpAny_seqItems p4 rfl ?_)
  refine wpAny_bind (wpAny_updateSeq_pair p4 fun g5 p5 s5 => ?_)
  replace p5 : IsPair g5 TO x y := p5
  have q5 := s5.extBut
  refine wpAny_bind (wpAny_letGo (wpAny_pure (wpAny_pure ?_)))
  refine wpAny_bind (wpAny_seqItems p5 rfl ?_)
  refine wpAny_bind (wpAny_newTuple ?_)
  have hsz : g5.objs.size = s.heap.objs.size := by rw [s5.1, s4.1, s3.1, s2.1, s1.1]
  have z5 : IsZip g5 z TI TO .ellipsis := q5 _ _ D.TOz.symm (q4 _ _ D.i2z.symm (q3 _ _ D.TOz.symm (q2 _ _ D.i1z.symm z1)))
  have old : ∀ c o, c ≠ z → c ≠ TO → c ≠ i1 → c ≠ i2 → s.heap.get? c = some o → g5.get? c = some o := fun c o c1 c2 c3 c4 e => q5 _ _ c2 (q4 _ _ c4 (q3 _ _ c2 (q2 _ _ c3 (q1 _ _ c1 e))))
  have m1 : I1 g5 (k1 + 1) := r1.keep n1 fun o e => q5 _ o D.TOi1.symm (q4 _ o D.i12 (q3 _ o D.TOi1.symm e))
  have m2 : I2 g5 (k2 + 1) := r2.keep n2 fun o e => q5 _ o D.TOi2.symm e
  have zl : z < g5.objs.size := Heap.lt_size z5
  show wpAny _ _ (Builtin.SmallTypes.ownedTupleHandOut (.ref z) (.ref g5.objs.size) >>= _) _ _ _
  refine wpAny_bind ?_
  unfold Builtin.SmallTypes.ownedTupleHandOut
  have z6 : IsZip (g5.push { cls := .type "tuple", data := .seq #[x, y] }) z TI TO .ellipsis := Heap.get?_push_of_some _ z5
  refine wpAny_bind (wpAny_setField_rec z6 (by simp) fun g7 z7 s7 => ?_)
  replace z7 : IsZip g7 z TI TO (rawInt g5.objs.size) := z7
  refine wpAny_setField_rec z7 (by simp) fun g8 z8 s8 => ?_
  replace z8 : IsZip g8 z TI TO (rawInt g5.objs.size) := z8
  have up : ∀ c o, c ≠ z → g5.get? c = some o → g8.get? c = some o := fun c o c1 e => s8.extBut _ _ c1 (s7.extBut _ _ c1 (Heap.get?_push_of_some _ e))
  have t8 : IsPair g8 g5.objs.size x y := s8.extBut _ _ (Nat.ne_of_gt zl) (s7.extBut _ _ (Nat.ne_of_gt zl) (Heap.get?_push_size _ rfl))
  rw [hsz] at z8 t8
  refine wpAny_pure ⟨_, rfl, ?_⟩
  show Q (.ref g5.objs.size) _
  rw [hsz]
  exact hQ g8 z8 (up _ _ D.TOz p5) (r1.keep m1 fun o => up _ o D.i1z) (r2.keep m2 fun o => up _ o D.i2z) t8 fun c o c1 c2 c3 c4 e => up c o c1 (old c o c1 c2 c3 c4 e)
theorem next_end {Q : PySem.Fin → Shared → Prop} (r1 : Row prog w i1 l1 I1 A1) (r2 : Row prog w i2 l2 I2 A2) (hh : A.handled = none) (D : ZipApart z TI TO i1 i2 l1 l2) (hz : IsZip s.heap z TI TO .none) (hTI : IsPair s.heap TI (.ref i1) (.ref i2)) (hTO : IsPair s.heap TO a b)
    (h1 : I1 s.heap k1) (h2 : I2 s.heap k2) (ha1 : A1 s.heap xs) (ha2 : A2 s.heap ys) (hend : xs[k1]? = none ∨ ys[k2]? = none)
    (hE : ∀ h' e, (∀ c o, c ≠ z → c ≠ TO → c ≠ i1 → c ≠ i2 → s.heap.get? c = some o → h'.get? c = some o) → (∃ o, h'.get? e = some o ∧ o.cls = .type "StopIteration") → E (.ref e) { s with heap := h' }) :
    wpAny (model prog w) A (Builtin.«zip.__next__» ⟨[.ref z], []⟩) Q E s := by
  show wpAny _ _ (field (.ref z) 2 >>= _) _ _ _
  refine wpAny_bind (wpAny_field hz rfl (x := .bool false) rfl ?_)
  show wpAny _ _ (field (.ref z) 3 >>= _) _ _ _
  refine wpAny_bind (wpAny_field hz rfl (x := .ref TI) rfl ?_)
  refine wpAny_bind (wpAny_seqItems hTI rfl ?_)
  show wpAny _ _ (Builtin.SmallTypes.ownedTupleIsFree (.ref z) >>= _) _ _ _
  refine wpAny_bind ?_
  unfold Builtin.SmallTypes.ownedTupleIsFree
  refine wpAny_bind (wpAny_field hz rfl (x := .none) rfl (wpAny_pure ?_))
  simp only [if_true]
  refine wpAny_bind (wpAny_rule ?_)
  refine wpAny_bind (wpAny_field hz rfl (x := .ref TO) rfl ?_)
  refine wpAny_bind (wpAny_setField_rec hz (by simp) fun g1 z1 s1 => ?_)
  replace z1 : IsZip g1 z TI TO .ellipsis := z1
  have q1 := s1.extBut
  refine wpAny_bind ?_
  simp only [List.zipIdx_cons, List.zipIdx_nil, List.forIn_cons, List.forIn_nil]
  refine wpAny_bind (wpAny_bind (wpAny_onRaise ?_))
  show wpAny _ _ (Builtin.SmallTypes.nextOf (.ref i1) >>= _) _ _ _
  cases hx : xs[k1]? with
  | none =>
    refine wpAny_bind (r1.fin hh (r1.keep h1 fun o => q1 _ o D.i1z) (r1.keepA ha1 fun o => q1 _ o D.l1z) hx fun g2 e q2 he => ?_)
    obtain ⟨oe, hoe, hce⟩ := he
    have z2 : IsZip g2 z TI TO .ellipsis := q2 _ _ D.i1z.symm z1
    have hez : e ≠ z := fun x => by subst x; rw [z2] at hoe; cases hoe; simp at hce
    refine wpAny_setField_rec z2 (by simp) fun g3 _ s3 => hE g3 e (fun c o c1 _ c3 _ x => s3.extBut _ _ c1 (q2 _ _ c3 (q1 _ _ c1 x))) ⟨oe, s3.extBut _ _ hez hoe, hce⟩
  | some x =>
    have hy : ys[k2]? = none := by rcases hend with h | h; rw [hx] at h; cases h; exact h
    refine wpAny_bind (r1.item (r1.keep h1 fun o => q1 _ o D.i1z) (r1.keepA ha1 fun o => q1 _ o D.l1z) hx fun g2 n1 s2 => wpAny_pure ?_)
    have q2 := s2.extBut
    have p2 : IsPair g2 TO a b := q2 _ _ D.TOi1 (q1 _ _ D.TOz hTO)
    refine wpAny_bind (wpAny_seqItems p2 rfl ?_)
    refine wpAny_bind (wpAny_updateSeq_pair p2 fun g3 p3 s3 => ?_)
    have q3 := s3.extBut
    refine wpAny_bind (wpAny_letGo (wpAny_pure ?_))
    refine wpAny_bind (wpAny_bind (wpAny_onRaise ?_))
    show wpAny _ _ (Builtin.SmallTypes.nextOf (.ref i2) >>= _) _ _ _
    refine wpAny_bind (r2.fin hh (r2.keep h2 fun o e => q3 _ o D.TOi2.symm (q2 _ o D.i12.symm (q1 _ o D.i2z e))) (r2.keepA ha2 fun o e => q3 _ o D.l2TO (q2 _ o D.l2i1 (q1 _ o D.l2z e))) hy fun g4 e q4 he => ?_)
    obtain ⟨oe, hoe, hce⟩ := he
    have z4 : IsZip g4 z TI TO .ellipsis := q4 _ _ D.i2z.symm (q3 _ _ D.TOz.symm (q2 _ _ D.i1z.symm z1))
    have hez : e ≠ z := fun x => by subst x; rw [z4] at hoe; cases hoe; simp at hce
    refine wpAny_setField_rec z4 (by simp) fun g5 _ s5 => hE g5 e (fun c o c1 c2 c3 c4 x => s5.extBut _ _ c1 (q4 _ _ c4 (q3 _ _ c2 (q2 _ _ c3 (q1 _ _ c1 x))))) ⟨oe, s5.extBut _ _ hez hoe, hce⟩
theorem py_item {Q : Option Value → Shared → Prop} (r1 : Row prog w i1 l1 I1 A1) (r2 : Row prog w i2 l2 I2 A2) (D : ZipApart z TI TO i1 i2 l1 l2) (hz : IsZip s.heap z TI TO .none) (hTI : IsPair s.heap TI (.ref i1) (.ref i2)) (hTO : IsPair s.heap TO a b)
    (h1 : I1 s.heap k1) (h2 : I2 s.heap k2) (ha1 : A1 s.heap xs) (ha2 : A2 s.heap ys) (hx : xs[k1]? = some x) (hy : ys[k2]? = some y)
    (hQ : ∀ h', IsZip h' z TI TO (rawInt s.heap.objs.size) → IsPair h' TO x y → I1 h' (k1 + 1) → I2 h' (k2 + 1) → IsPair h' s.heap.objs.size x y →
      (∀ c o, c ≠ z → c ≠ TO → c ≠ i1 → c ≠ i2 → s.heap.get? c = some o → h'.get? c = some o) → Q (some (.ref s.heap.objs.size)) { s with heap := h' }) :
    wpAny (model prog w) A (pyNext (.ref z)) Q E s := by
  have hT : s.TypeIs (.ref z) "zip" := ⟨_, hz, rfl⟩
  unfold pyNext
  exact wpAny_bind (wpAny_attempt (wpAny_callSpecial?_slot (name := Str.ofString "__next__") hT F.slot_zip_next
    (wpAny_call_entry F.slot_zip_next hT F.entry_zip_next
      (next_item r1 r2 D hz hTI hTO h1 h2 ha1 ha2 hx hy fun h' a1 a2 a3 a4 a5 a6 => wpAny_pure (hQ h' a1 a2 a3 a4 a5 a6)) (F.args_zip_next_1 _))))
theorem py_end {Q : Option Value → Shared → Prop} (r1 : Row prog w i1 l1 I1 A1) (r2 : Row prog w i2 l2 I2 A2) (hh : A.handled = none) (D : ZipApart z TI TO i1 i2 l1 l2) (hz : IsZip s.heap z TI TO .none) (hTI : IsPair s.heap TI (.ref i1) (.ref i2)) (hTO : IsPair s.heap TO a b)
    (h1 : I1 s.heap k1) (h2 : I2 s.heap k2) (ha1 : A1 s.heap xs) (ha2 : A2 s.heap ys) (hend : xs[k1]? = none ∨ ys[k2]? = none)
    (hQ : ∀ h', (∀ c o, c ≠ z → c ≠ TO → c ≠ i1 → c ≠ i2 → s.heap.get? c = some o → h'.get? c = some o) → Q none { s with heap := h' }) : wpAny (model prog w) A (pyNext (.ref z)) Q E s := by
  have hT : s.TypeIs (.ref z) "zip" := ⟨_, hz, rfl⟩
  unfold pyNext
  refine wpAny_bind (wpAny_attempt (wpAny_callSpecial?_slot (name := Str.ofString "__next__") hT F.slot_zip_next
    (wpAny_call_entry F.slot_zip_next hT F.entry_zip_next (next_end r1 r2 hh D hz hTI hTO h1 h2 ha1 ha2 hend fun h' e hk he => ?_) (F.args_zip_next_1 _))))
  obtain ⟨o, ho, hc⟩ := he
  refine wpAny_bind (wpAny_isInstance (T := "StopIteration") (b := true) ⟨o, ho, hc⟩ isSubtype_stop ?_)
  exact wpAny_pure (hQ _ hk)
end
/-- a row of the tracked heap: how it stands there -/
abbrev SqX := Hp → List V → Prop
/-- rows p and q as they stand at each turn, the items in new pairs -/
def Itm (P Q : SqX) : It :=
  ⟨fun i H => ∃ (xs ys : List V) (x y : V), P H xs ∧ Q H ys ∧ xs[i]? = some x ∧ ys[i]? = some y,
    fun i H v H' => ∃ T x y, v = .ref T ∧ H T = none ∧ H' = upd H T (.tup [x, y]) ∧ (∀ xs, P H xs → xs[i]? = some x) ∧ ∀ ys, Q H ys → ys[i]? = some y,
    fun i H => ∃ xs ys : List V, P H xs ∧ Q H ys ∧ (xs.length ≤ i ∨ ys.length ≤ i)⟩
/-- how a tracked row is read off the heap -/
def Rd (prog : Program) (w : World) (K : PySem.W.Frag) (P : SqX) (At : Heap → Array Value → Prop) : Prop := ∀ {X : Cx} {pins : List (Addr × Obj)} {s : Shared} {σ : L2.St} {H : Hp} {xs : List V}, X.prog = prog → X.w = w → X.K = K → Inv X pins σ H s → P H xs →
  ∃ its, Vals xs its ∧ At s.heap its.toArray ∧ ∀ ys, P H ys → ys = xs
theorem rdT {prog : Program} {w : World} {K : PySem.W.Frag} {a : Addr} : Rd prog w K (fun H xs => SqT K H a xs) (fun h xs => h.IsTuple a xs) := fun {X pins s σ H xs} e1 e2 e3 I h => by
  subst e1 e2 e3
  obtain ⟨its, rv, p, _⟩ := I.tuple h
  exact ⟨its, rv, p, fun ys hy => I.tuple_inj hy h⟩
theorem rdL {prog : Program} {w : World} {K : PySem.W.Frag} {a : Addr} : Rd prog w K (fun H xs => SqL K H a xs) (fun h xs => h.IsList a xs) := fun {X pins s σ H xs} e1 e2 e3 I h => by
  subst e1 e2 e3
  obtain ⟨its, rv, p, _⟩ := I.list h
  exact ⟨its, rv, p.isList, fun ys hy => I.list_inj hy h⟩
theorem turn_m {P : Program} {w : World} {K : PySem.W.Frag} {elts : List Expr} {kk : Nat} {tpos : Pos} {l1 l2 z TI TO i1 i2 : Addr} {I1 I2 : Heap → Nat → Prop} {A1 A2 : Heap → Array Value → Prop} {P1 P2 : SqX} (r1 : Row P w i1 l1 I1 A1) (r2 : Row P w i2 l2 I2 A2) (d1 : Rd P w K P1 A1) (d2 : Rd P w K P2 A2) (D : ZipApart z TI TO i1 i2 l1 l2) :
    Turn P w K (.Tuple elts kk tpos) (Itm P1 P2) [z, TI, TO, i1, i2] z (fun i h => IsZip h z TI TO .none ∧ IsPair h TI (.ref i1) (.ref i2) ∧ (∃ x y, IsPair h TO x y) ∧ I1 h i ∧ I2 h i) where
  mem := by simp
  obj := fun i h st c hc => by
    obtain ⟨hz, hTI, ⟨x, y, hTO⟩, h1, h2⟩ := st
    obtain ⟨o1, e1, f1, g1⟩ := r1.obj h1
    obtain ⟨o2, e2, f2, g2⟩ := r2.obj h2
    have e' : c = z ∨ c = TI ∨ c = TO ∨ c = i1 ∨ c = i2 := by simpa using hc
    rcases e' with q | q | q | q | q
    · rw [q]; exact ⟨_, hz, fun v q => nomatch q⟩
    · rw [q]; exact ⟨_, hTI, fun v q => nomatch q⟩
    · rw [q]; exact ⟨_, hTO, fun v q => nomatch q⟩
    · rw [q]; exact ⟨o1, e1, fun v q => by rw [g1] at q; cases q⟩
    · rw [q]; exact ⟨o2, e2, fun v q => by rw [g2] at q; cases q⟩
  keep := fun i h h' st k => by
    obtain ⟨hz, hTI, ⟨x, y, hTO⟩, h1, h2⟩ := st
    exact ⟨k z (by simp) _ hz, k TI (by simp) _ hTI, ⟨x, y, k TO (by simp) _ hTO⟩, r1.keep h1 fun o q => k i1 (by simp) o q, r2.keep h2 fun o q => k i2 (by simp) o q⟩
  item := by
    intro X hP hw hK hc i pins s σ H E I hf st hg
    obtain ⟨hz, hTI, ⟨x0, y0, hTO⟩, h1, h2⟩ := st
    obtain ⟨xs, ys, x, y, hqx, hqy, hx, hy⟩ := hg
    obtain ⟨its, rv, p, u1⟩ := d1 hP hw hK I hqx
    obtain ⟨its2, rv2, p2, u2⟩ := d2 hP hw hK I hqy
    obtain ⟨u, hu, ru⟩ := rv.get hx
    obtain ⟨u', hu', ru'⟩ := rv2.get hy
    subst hP hw hK
    have hzl : z < s.heap.objs.size := Heap.lt_size hz
    refine py_item r1 r2 D hz hTI hTO h1 h2 p p2 (x := u) (y := u') (by simpa using hu) (by simpa using hu') fun h' z' TO' n1 n2 hT hk => ?_
    refine ⟨_, rfl, wpAny_letOwnedTupleGo_zip (s := { s with heap := h' }) z' fun h'' z'' sb => ?_⟩
    have hT2 : h''.get? s.heap.objs.size = some { cls := .type "tuple", data := .seq #[u, u'] } := (sb.2 _ (Nat.ne_of_gt hzl)).trans hT
    have new : ObjOk X.prog X.w (upd H s.heap.objs.size (.tup [x, y])) h'' s.heap.objs.size (.tup [x, y]) :=
      ⟨by show 2 ≤ sizeLine; decide, [u, u'], .cons ru (.cons ru' .nil), ⟨_, hT2, rfl, _, rfl⟩⟩
    have I1 : Inv X pins σ (upd H s.heap.objs.size (.tup [x, y])) { s with heap := h'' } :=
      I.turnedNew (t' := s.toks) (ch := [z, TI, TO, i1, i2]) (fun c o hb q => (sb.2 c (fun q' => hb (by simp [q']))).trans (hk c o (fun q' => hb (by simp [q'])) (fun q' => hb (by simp [q'])) (fun q' => hb (by simp [q'])) (fun q' => hb (by simp [q'])) q)) hf (Nat.le_refl _) new
    refine ⟨.ref s.heap.objs.size, _, I1, rfl, ⟨_, x, y, rfl, I.hok.fresh (Nat.le_refl _), rfl, fun l hl => by rw [u1 l hl]; exact hx, fun l hl => by rw [u2 l hl]; exact hy⟩, ⟨z'', ?_, ⟨u, u', ?_⟩, ?_, ?_⟩, fun c hcm => ?_⟩
    · exact (sb.2 _ D.TIz).trans (hk _ _ D.TIz D.TITO D.TIi1 D.TIi2 hTI)
    · exact (sb.2 _ D.TOz).trans TO'
    · exact r1.keep n1 fun o q => (sb.2 _ D.i1z).trans q
    · exact r2.keep n2 fun o q => (sb.2 _ D.i2z).trans q
    · have hlt : c < s.heap.objs.size := by
        obtain ⟨o1, e1, _⟩ := r1.obj h1
        obtain ⟨o2, e2, _⟩ := r2.obj h2
        have e' : c = z ∨ c = TI ∨ c = TO ∨ c = i1 ∨ c = i2 := by simpa using hcm
        rcases e' with q | q | q | q | q
        · rw [q]; exact hzl
        · rw [q]; exact Heap.lt_size hTI
        · rw [q]; exact Heap.lt_size hTO
        · rw [q]; exact Heap.lt_size e1
        · rw [q]; exact Heap.lt_size e2
      rw [upd_ne (Nat.ne_of_lt hlt)]
      exact (hf c hcm).1
  done := by
    intro X hP hw hK hc i pins s σ H E I hf st hg
    obtain ⟨hz, hTI, ⟨x0, y0, hTO⟩, h1, h2⟩ := st
    obtain ⟨xs, ys, hqx, hqy, hend⟩ := hg
    obtain ⟨its, rv, p, _⟩ := d1 hP hw hK I hqx
    obtain ⟨its2, rv2, p2, _⟩ := d2 hP hw hK I hqy
    subst hP hw hK
    have l1 := rv.length
    have l2 := rv2.length
    have he : its.toArray[i]? = none ∨ its2.toArray[i]? = none := by
      rcases hend with q | q
      · exact .inl (by simp; omega)
      · exact .inr (by simp; omega)
    exact py_end r1 r2 (I.ok.hd hc) D hz hTI hTO h1 h2 p p2 he fun h' hk => ⟨rfl, I.turnedL (t' := s.toks) (ch := [z, TI, TO, i1, i2]) (fun c o hb q =>
      hk c o (fun q' => hb (by simp [q'])) (fun q' => hb (by simp [q'])) (fun q' => hb (by simp [q'])) (fun q' => hb (by simp [q'])) q) hf⟩
  self := fun A i s Q E st h => wpAny_pyIter_zip st.1 h

abbrev zTL1 (h : Heap) (l1 : Addr) : Heap := h.push { cls := .type "tuple_iterator", data := .fields #[.ref l1, .int 0 0] }
abbrev zTL2 (h : Heap) (l1 l2 : Addr) : Heap := (zTL1 h l1).push { cls := .type "list_iterator", data := .fields #[.ref l2, .int 0 0] }
abbrev zTL3 (h : Heap) (l1 l2 : Addr) : Heap := (zTL2 h l1 l2).push { cls := .type "tuple", data := .seq #[.ref h.objs.size, .ref (zTL1 h l1).objs.size] }
abbrev zTL4 (h : Heap) (l1 l2 : Addr) : Heap := (zTL3 h l1 l2).push { cls := .type "tuple", data := .seq #[.none, .none] }
abbrev zTL5 (h : Heap) (l1 l2 : Addr) : Heap := (zTL4 h l1 l2).push { cls := .type "zip", data := .fields #[.none, .bool false, .bool false, .ref (zTL2 h l1 l2).objs.size, .ref (zTL3 h l1 l2).objs.size] }
theorem meets_TL (l1 l2 : Addr) (xs ys : Array Value) :
    Meets (Builtin.«zip.__new__» ⟨[.type "zip", .ref l1, .ref l2], []⟩) (fun _ R s => s.heap.IsTuple l1 xs ∧ s.heap.IsList l2 ys ∧
      R (.ok (.ret (.ref (zTL4 s.heap l1 l2).objs.size))) { s with heap := zTL5 s.heap l1 l2 }) :=
  .of_wp fun prog w A R s h => by
    obtain ⟨hp, g, d, tk, os⟩ := s; obtain ⟨hl1, hl2, h⟩ := h
    have hsub := sub_zip
    have hL1 : Heap.IsTuple (Shared.heap ⟨hp, g, d, tk, os⟩) l1 xs := hl1
    have hL2 : Heap.IsList (Shared.heap ⟨hp.push { cls := .type "tuple_iterator", data := .fields #[.ref l1, .int 0 0] }, g, d, tk, os⟩) l2 ys := Heap.IsList.push hl2 _
    wp_walk using wpAny_pyIter_tuple hL1, wpAny_pyIter_list hL2
    exact ⟨_, rfl, h⟩
section
variable {prog : Program} {w : World} {A : Around} {E : Value → Shared → Prop} {s : Shared}
theorem call_TL {l1 l2 : Addr} {xs ys : Array Value} {Q : Value → Shared → Prop} (hl1 : s.heap.IsTuple l1 xs) (hl2 : s.heap.IsList l2 ys)
    (h : ∀ h', IsZip h' (s.heap.objs.size + 4) (s.heap.objs.size + 2) (s.heap.objs.size + 3) .none → IsPair h' (s.heap.objs.size + 2) (.ref s.heap.objs.size) (.ref (s.heap.objs.size + 1)) →
      IsPair h' (s.heap.objs.size + 3) .none .none → h'.IsTupleIter s.heap.objs.size l1 0 → h'.IsListIter (s.heap.objs.size + 1) l2 0 →
      (∀ c o, s.heap.get? c = some o → h'.get? c = some o) → Q (.ref (s.heap.objs.size + 4)) { s with heap := h' }) :
    wpAny (model prog w) A (call (.type "zip") [.ref l1, .ref l2]) Q E s := by
  refine callType_new F.called_zip (by decide) (F.typeCall_zip_2 _ _) (F.newCall_zip_2 _ _) (fun obj => F.args_object_init_3 obj _ _) F.entry_zip_new
    (meets_TL l1 l2 xs ys) ⟨hl1, hl2, ?_⟩
  have z1 : (zTL1 s.heap l1).objs.size = s.heap.objs.size + 1 := Heap.size_push ..
  have z2 : (zTL2 s.heap l1 l2).objs.size = s.heap.objs.size + 2 := by rw [Heap.size_push, z1]
  have z3 : (zTL3 s.heap l1 l2).objs.size = s.heap.objs.size + 3 := by rw [Heap.size_push, z2]
  have z4 : (zTL4 s.heap l1 l2).objs.size = s.heap.objs.size + 4 := by rw [Heap.size_push, z3]
  have g5 : (zTL5 s.heap l1 l2).get? (zTL4 s.heap l1 l2).objs.size = some _ := Heap.get?_push_size _ rfl
  have g4 : (zTL5 s.heap l1 l2).get? (zTL3 s.heap l1 l2).objs.size = some _ := Heap.get?_push_of_some _ (Heap.get?_push_size _ rfl)
  have g3 : (zTL5 s.heap l1 l2).get? (zTL2 s.heap l1 l2).objs.size = some _ := Heap.get?_push_of_some _ (Heap.get?_push_of_some _ (Heap.get?_push_size _ rfl))
  have g2 : (zTL5 s.heap l1 l2).get? (zTL1 s.heap l1).objs.size = some _ := Heap.get?_push_of_some _ (Heap.get?_push_of_some _ (Heap.get?_push_of_some _ (Heap.get?_push_size _ rfl)))
  have g1 : (zTL5 s.heap l1 l2).get? s.heap.objs.size = some _ := Heap.get?_push_of_some _ (Heap.get?_push_of_some _ (Heap.get?_push_of_some _ (Heap.get?_push_of_some _ (Heap.get?_push_size _ rfl))))
  show _ ∧ _
  rw [z2, z3, z4] at g5
  rw [z1, z2] at g3
  rw [z3] at g4
  rw [z1] at g2
  rw [z4]
  exact ⟨⟨_, g5, rfl⟩, h _ g5 g3 g4 ⟨_, g1, rfl, rfl⟩ ⟨_, g2, rfl, rfl⟩ fun c o x =>
    Heap.get?_push_of_some _ (Heap.get?_push_of_some _ (Heap.get?_push_of_some _ (Heap.get?_push_of_some _ (Heap.get?_push_of_some _ x))))⟩
end

abbrev zLT1 (h : Heap) (l1 : Addr) : Heap := h.push { cls := .type "list_iterator", data := .fields #[.ref l1, .int 0 0] }
abbrev zLT2 (h : Heap) (l1 l2 : Addr) : Heap := (zLT1 h l1).push { cls := .type "tuple_iterator", data := .fields #[.ref l2, .int 0 0] }
abbrev zLT3 (h : Heap) (l1 l2 : Addr) : Heap := (zLT2 h l1 l2).push { cls := .type "tuple", data := .seq #[.ref h.objs.size, .ref (zLT1 h l1).objs.size] }
abbrev zLT4 (h : Heap) (l1 l2 : Addr) : Heap := (zLT3 h l1 l2).push { cls := .type "tuple", data := .seq #[.none, .none] }
abbrev zLT5 (h : Heap) (l1 l2 : Addr) : Heap := (zLT4 h l1 l2).push { cls := .type "zip", data := .fields #[.none, .bool false, .bool false, .ref (zLT2 h l1 l2).objs.size, .ref (zLT3 h l1 l2).objs.size] }
theorem meets_LT (l1 l2 : Addr) (xs ys : Array Value) :
    Meets (Builtin.«zip.__new__» ⟨[.type "zip", .ref l1, .ref l2], []⟩) (fun _ R s => s.heap.IsList l1 xs ∧ s.heap.IsTuple l2 ys ∧
      R (.ok (.ret (.ref (zLT4 s.heap l1 l2).objs.size))) { s with heap := zLT5 s.heap l1 l2 }) :=
  .of_wp fun prog w A R s h => by
    obtain ⟨hp, g, d, tk, os⟩ := s; obtain ⟨hl1, hl2, h⟩ := h
    have hsub := sub_zip
    have hL1 : Heap.IsList (Shared.heap ⟨hp, g, d, tk, os⟩) l1 xs := hl1
    have hL2 : Heap.IsTuple (Shared.heap ⟨hp.push { cls := .type "list_iterator", data := .fields #[.ref l1, .int 0 0] }, g, d, tk, os⟩) l2 ys := Heap.IsTuple.push hl2 _
    wp_walk using wpAny_pyIter_list hL1, wpAny_pyIter_tuple hL2
    exact ⟨_, rfl, h⟩
section
variable {prog : Program} {w : World} {A : Around} {E : Value → Shared → Prop} {s : Shared}
theorem call_LT {l1 l2 : Addr} {xs ys : Array Value} {Q : Value → Shared → Prop} (hl1 : s.heap.IsList l1 xs) (hl2 : s.heap.IsTuple l2 ys)
    (h : ∀ h', IsZip h' (s.heap.objs.size + 4) (s.heap.objs.size + 2) (s.heap.objs.size + 3) .none → IsPair h' (s.heap.objs.size + 2) (.ref s.heap.objs.size) (.ref (s.heap.objs.size + 1)) →
      IsPair h' (s.heap.objs.size + 3) .none .none → h'.IsListIter s.heap.objs.size l1 0 → h'.IsTupleIter (s.heap.objs.size + 1) l2 0 →
      (∀ c o, s.heap.get? c = some o → h'.get? c = some o) → Q (.ref (s.heap.objs.size + 4)) { s with heap := h' }) :
    wpAny (model prog w) A (call (.type "zip") [.ref l1, .ref l2]) Q E s := by
  refine callType_new F.called_zip (by decide) (F.typeCall_zip_2 _ _) (F.newCall_zip_2 _ _) (fun obj => F.args_object_init_3 obj _ _) F.entry_zip_new
    (meets_LT l1 l2 xs ys) ⟨hl1, hl2, ?_⟩
  have z1 : (zLT1 s.heap l1).objs.size = s.heap.objs.size + 1 := Heap.size_push ..
  have z2 : (zLT2 s.heap l1 l2).objs.size = s.heap.objs.size + 2 := by rw [Heap.size_push, z1]
  have z3 : (zLT3 s.heap l1 l2).objs.size = s.heap.objs.size + 3 := by rw [Heap.size_push, z2]
  have z4 : (zLT4 s.heap l1 l2).objs.size = s.heap.objs.size + 4 := by rw [Heap.size_push, z3]
  have g5 : (zLT5 s.heap l1 l2).get? (zLT4 s.heap l1 l2).objs.size = some _ := Heap.get?_push_size _ rfl
  have g4 : (zLT5 s.heap l1 l2).get? (zLT3 s.heap l1 l2).objs.size = some _ := Heap.get?_push_of_some _ (Heap.get?_push_size _ rfl)
  have g3 : (zLT5 s.heap l1 l2).get? (zLT2 s.heap l1 l2).objs.size = some _ := Heap.get?_push_of_some _ (Heap.get?_push_of_some _ (Heap.get?_push_size _ rfl))
  have g2 : (zLT5 s.heap l1 l2).get? (zLT1 s.heap l1).objs.size = some _ := Heap.get?_push_of_some _ (Heap.get?_push_of_some _ (Heap.get?_push_of_some _ (Heap.get?_push_size _ rfl)))
  have g1 : (zLT5 s.heap l1 l2).get? s.heap.objs.size = some _ := Heap.get?_push_of_some _ (Heap.get?_push_of_some _ (Heap.get?_push_of_some _ (Heap.get?_push_of_some _ (Heap.get?_push_size _ rfl))))
  show _ ∧ _
  rw [z2, z3, z4] at g5
  rw [z1, z2] at g3
  rw [z3] at g4
  rw [z1] at g2
  rw [z4]
  exact ⟨⟨_, g5, rfl⟩, h _ g5 g3 g4 ⟨_, g1, rfl, rfl⟩ ⟨_, g2, rfl, rfl⟩ fun c o x =>
    Heap.get?_push_of_some _ (Heap.get?_push_of_some _ (Heap.get?_push_of_some _ (Heap.get?_push_of_some _ (Heap.get?_push_of_some _ x))))⟩
end

abbrev tqT (K : PySem.W.Frag) (a : Addr) : SqX := fun H xs => SqT K H a xs
abbrev tqL (K : PySem.W.Frag) (a : Addr) : SqX := fun H xs => SqL K H a xs
def iZipM (K : PySem.W.Frag) (ta : TA) : TI := fun σ H R => ta σ H fun vs H1 => ∃ a b xs ys, vs = [.ref a, .ref b] ∧ ((SqT K H1 a xs ∧ SqL K H1 b ys ∧ R (Itm (tqT K a) (tqL K b)) H1) ∨ (SqL K H1 a xs ∧ SqT K H1 b ys ∧ R (Itm (tqL K a) (tqT K b)) H1))
theorem pi_zipM {X : Cx} {e e2 : Expr} {ta : TA} {p pos tpos : Pos} {elts : List Expr} {kk : Nat} (hg : Gl X "zip") (hm : X.mg "zip" = none) (ha : PA X [e, e2] ta)
    (hs : starEach [e, e2] X.env = (false, eval e X.env) :: starEach [e2] X.env := by rfl) (hpl : (backTo pos (starEach [e2] X.env)).any (·.1) = false := by rfl) :
    PI X (.Tuple elts kk tpos) (.Call (.Name "zip" p) [e, e2] [] pos) (iZipM X.K ta) := by
  refine ⟨fun pins s σ H R I h => ?_⟩
  refine Call_ (ld_blt I hg hm PyProof.Rows.boot_zip (PyProof.Rows.callWith_type1 (thn (ha.run pos pins s σ H _ I h) fun us s1 ⟨vs, H1, I1, r1, q1⟩ => ?_) hs hpl))
  obtain ⟨a, b, xs, ys, ex, q1⟩ := q1
  subst ex
  cases r1 with
  | cons r rr =>
    cases rr with
    | cons r' rr =>
      cases rr
      cases r
      cases r'
      have fresh : ∀ c, c ∈ [s1.heap.objs.size + 4, s1.heap.objs.size + 2, s1.heap.objs.size + 3, s1.heap.objs.size, s1.heap.objs.size + 1] → FpOk X pins H1 c := fun c hcm => by
        have hle : s1.heap.objs.size ≤ c := by
          simp only [List.mem_cons, List.not_mem_nil, or_false] at hcm
          rcases hcm with rfl | rfl | rfl | rfl | rfl <;> omega
        exact I1.fpOk hle (I1.hok.fresh hle)
      rcases q1 with ⟨hqx, hqy, q⟩ | ⟨hqx, hqy, q⟩
      · obtain ⟨its, rv, p1, _⟩ := I1.tuple hqx
        obtain ⟨its2, rv2, p2, _⟩ := I1.list hqy
        obtain ⟨o1, ho1, _⟩ := id p1
        refine call_TL (show s1.heap.IsTuple a its.toArray from p1) p2.isList fun h' hz hTI hTO h1 h2 hk => wpAny_pyIter_zip hz ?_
        have I2 : Inv X pins σ H1 { s1 with heap := h' } := I1.kept (t' := s1.toks) hk
        exact ⟨s1.heap.objs.size + 4, [s1.heap.objs.size + 4, s1.heap.objs.size + 2, s1.heap.objs.size + 3, s1.heap.objs.size, s1.heap.objs.size + 1], _, _, H1, rfl, I2, turn_m rowT rowL rdT rdL (PySem.W.ktu_apart s1.heap.objs.size a b (Heap.lt_size ho1) p2.lt), ⟨hz, hTI, ⟨_, _, hTO⟩, h1, h2⟩, fresh, q⟩
      · obtain ⟨its, rv, p1, _⟩ := I1.list hqx
        obtain ⟨its2, rv2, p2, _⟩ := I1.tuple hqy
        obtain ⟨o2, ho2, _⟩ := id p2
        refine call_LT p1.isList (show s1.heap.IsTuple b its2.toArray from p2) fun h' hz hTI hTO h1 h2 hk => wpAny_pyIter_zip hz ?_
        have I2 : Inv X pins σ H1 { s1 with heap := h' } := I1.kept (t' := s1.toks) hk
        exact ⟨s1.heap.objs.size + 4, [s1.heap.objs.size + 4, s1.heap.objs.size + 2, s1.heap.objs.size + 3, s1.heap.objs.size, s1.heap.objs.size + 1], _, _, H1, rfl, I2, turn_m rowL rowT rdL rdT (PySem.W.ktu_apart s1.heap.objs.size a b p1.lt (Heap.lt_size ho2)), ⟨hz, hTI, ⟨_, _, hTO⟩, h1, h2⟩, fresh, q⟩
end GZ

namespace G
open PySem PySem.Spec PyProof.Rows L2

/-- the iterator J gives out ds -/
def Walks (K : PySem.W.Frag) (cl : Nat → Addr) (J : It) (ds : List D) (io : List Addr) (H0 : Hp) : Prop := ∀ io2 H02 H2 S2, Pre io io2 → Same H0 H02 → StR K cl io2 H02 H2 S2 →
  (∀ (i : Nat) d, ds[i]? = some d → J.go i H2 ∧ ∀ x H', J.yld i H2 x H' → ∃ H0', StR K cl io2 H0' H' S2 ∧ Ev io2 H02 H2 io2 H0' H' ∧ Rep K cl io2 H0' d x) ∧ J.stop ds.length H2
def rW (K : PySem.W.Frag) (cl : Nat → Addr) : List Addr → Hp → Hp → List D → It → Prop := fun io H0 _ ds J => Walks K cl J ds io H0
abbrev ID (X : Cx) (cl : Nat → Addr) (W : WX) (tg iter : Expr) (f : Sem1 (List D)) : Prop := PI X tg iter (tG X.K cl (rW X.K cl) W f)
def signs (x : Str) : List D := x.cps.toList.map fun c => D.str ⟨#[c]⟩
def seqD : D → Option (List D)
  | .lst ds => some ds
  | .tup ds => some ds
  | .frl ds => some ds
  | .str x => some (signs x)
  | _ => none
def iSeq (f : Ex) : Sem1 (List D) := fun env S => (f env S).bind fun d S1 => match seqD d with
  | some ds => .ok ds S1
  | none => .bad
def ok62 (i : Int) : Bool := decide (-(2 ^ 62) ≤ i ∧ i < 2 ^ 62)
def rangeD (lo hi : Int) : List D := (List.range (hi - lo).toNat).map fun i => D.int (lo + (i : Nat))
def iRng1 (f : Ex) : Sem1 (List D) := fun env S => (f env S).bind fun d S1 => match d with
  | .int j => if ok62 j then .ok (rangeD 0 j) S1 else .bad
  | _ => .bad
def iRng2 (f g : Ex) : Sem1 (List D) := fun env S => (f env S).bind fun d S1 => (g env S1).bind fun e S2 => match d, e with
  | .int i, .int j => if ok62 i && ok62 j then .ok (rangeD i j) S2 else .bad
  | _, _ => .bad
def iRng3 (f g h : Ex) : Sem1 (List D) := fun env S => (f env S).bind fun d S1 => (g env S1).bind fun e S2 => (h env S2).bind fun c S3 => match d, e, c with
  | .int i, .int j, .int c => if ok62 i && ok62 j && decide (c ≠ 0 ∧ c.natAbs < 1073741824) && Builtin.Range.small i j c then .ok ((List.range (Builtin.Range.rangeSize i j c).toNat).map fun k => D.int (i + (k : Nat) * c)) S3 else .bad
  | _, _, _ => .bad
def enumD (ds : List D) : List D := ds.zipIdx.map fun p => D.tup [.int (p.2 : Nat), p.1]
def iEnumD (f : Sem1 (List D)) : Sem1 (List D) := fun env S => (f env S).bind fun ds S1 => match ds with
  | [.lst ds] => .ok (enumD ds) S1
  | [.tup ds] => .ok (enumD ds) S1
  | _ => .bad
def zipD (a b : List D) : List D := (a.zip b).map fun p => D.tup [p.1, p.2]
def iZipD (f : Sem1 (List D)) : Sem1 (List D) := fun env S => (f env S).bind fun ds S1 => match ds with
  | [.lst a, .lst b] => .ok (zipD a b) S1
  | [.tup a, .tup b] => .ok (zipD a b) S1
  | [.tup a, .lst b] => .ok (zipD a b) S1
  | [.lst a, .tup b] => .ok (zipD a b) S1
  | _ => .bad

section
variable {X : Cx} {cl : Nat → Addr} {W : WX} {e a b c tg : Expr} {pos : Pos} {K : PySem.W.Frag} {io io' : List Addr} {om : Own} {H0 H H0' H' : Hp} {env : Env} {S S' : Sto} {σ : L2.St} {Q : VK} {p1 p2 : Bool} {fa fb fc : Ex}
theorem Walks.ev {J : It} {ds : List D} (x : Ev io H0 H io' H0' H') (h : Walks K cl J ds io H0) : Walks K cl J ds io' H0' := fun io2 H02 H2 S2 p s st => h io2 H02 H2 S2 (x.pre.trans p) (x.h0.trans s) st
theorem weakI {t t' : TI} (h : PI X tg e t) (q : ∀ σ H R, t' σ H R → t σ H R) : PI X tg e t' := ⟨fun pins s σ H R I w => h.run pins s σ H R I (q σ H R w)⟩
theorem piOr {t t' : TI} (h : PI X tg e t) (h' : PI X tg e t') : PI X tg e (fun σ H R => t σ H R ∨ t' σ H R) := ⟨fun pins s σ H R I w => w.elim (h.run pins s σ H R I) (h'.run pins s σ H R I)⟩
theorem walks_list {a : Addr} {vs : List V} {ds : List D} (h : H0 a = some (.lst vs)) (r : RepL K cl io H0 ds vs) : Walks K cl (Itl K a) ds io H0 := fun io2 H02 H2 S2 p s st => by
  have hh : H2 a = some (.lst vs) := st.sub _ _ (s _ _ h)
  refine ⟨fun i d hd => ?_, ⟨vs, SqL.of hh, Nat.le_of_eq r.length.symm⟩⟩
  obtain ⟨v, hv, rv⟩ := r.get hd
  refine ⟨⟨vs, v, SqL.of hh, hv⟩, ?_⟩
  rintro x H' ⟨rfl, q⟩
  have e := q vs (SqL.of hh)
  rw [hv] at e; cases e
  exact ⟨H02, st, .refl, Rep.mono p s d v rv⟩
theorem walks_frl {a : Addr} {vs : List V} {ds : List D} (h : SqL K H0 a vs) (r : RepL K cl io H0 ds vs) : Walks K cl (Itl K a) ds io H0 := fun io2 H02 H2 S2 p s st => by
  have hh : SqL K H2 a vs := st.sub.seq (s.seq h)
  refine ⟨fun i d hd => ?_, ⟨vs, hh, Nat.le_of_eq r.length.symm⟩⟩
  obtain ⟨v, hv, rv⟩ := r.get hd
  refine ⟨⟨vs, v, hh, hv⟩, ?_⟩
  rintro x H' ⟨rfl, q⟩
  have e := q vs hh
  rw [hv] at e; cases e
  exact ⟨H02, st, .refl, Rep.mono p s d v rv⟩
theorem walks_tup {a : Addr} {vs : List V} {ds : List D} (h : SqT K H0 a vs) (r : RepL K cl io H0 ds vs) : Walks K cl (Itt K a) ds io H0 := fun io2 H02 H2 S2 p s st => by
  have hh : SqT K H2 a vs := Same.seqT st.sub (Same.seqT s h)
  refine ⟨fun i d hd => ?_, ⟨vs, hh, Nat.le_of_eq r.length.symm⟩⟩
  obtain ⟨v, hv, rv⟩ := r.get hd
  refine ⟨⟨vs, v, hh, hv⟩, ?_⟩
  rintro x H' ⟨rfl, q⟩
  have e := q vs hh
  rw [hv] at e; cases e
  exact ⟨H02, st, .refl, Rep.mono p s d v rv⟩
theorem walks_range {lo : Int} {n : Nat} : Walks K cl (Itr lo n) ((List.range n).map fun i => D.int (lo + (i : Nat))) io H0 := fun io2 H02 H2 S2 p s st => by
  refine ⟨fun i d hd => ?_, by show n ≤ _; simp⟩
  rw [List.getElem?_map] at hd
  have hi : i < n := by
    cases q : (List.range n)[i]? with
    | none => rw [q] at hd; cases hd
    | some j => simpa using (List.getElem?_eq_some_iff.mp q).1
  have hd : d = D.int (lo + (i : Nat)) := by
    rw [List.getElem?_range hi] at hd
    cases hd; rfl
  subst hd
  refine ⟨hi, ?_⟩
  rintro x H' ⟨rfl, rfl⟩
  exact ⟨H02, st, .refl, rfl⟩
theorem walks_str {x : Str} : Walks K cl (Its x) (signs x) io H0 := fun io2 H02 H2 S2 p s st => by
  have hl : (signs x).length = x.cps.size := by simp [signs]
  refine ⟨fun i d hd => ?_, by show x.cps.size ≤ _; omega⟩
  unfold signs at hd
  rw [List.getElem?_map] at hd
  cases q : x.cps.toList[i]? with
  | none => rw [q] at hd; cases hd
  | some j =>
    rw [q] at hd
    cases hd
    have hi : i < x.cps.size := by simpa using (List.getElem?_eq_some_iff.mp q).1
    refine ⟨hi, ?_⟩
    rintro x H' ⟨rfl, c, hc, rfl⟩
    have e : c = j := by
      rw [← Array.getElem?_toList] at hc
      rw [q] at hc; cases hc; rfl
    rw [e]
    exact ⟨H02, st, .refl, rfl⟩
/-- a new tuple is given out -/
theorem walks_new {S2 : Sto} {H0 H : Hp} {T : Addr} {ds : List D} {vs : List V} (st : StR K cl io H0 H S2) (hT : H T = none) (r : RepL K cl io H0 ds vs) : ∃ H0', StR K cl io H0' (upd H T (.tup vs)) S2 ∧ Ev io H0 H io H0' (upd H T (.tup vs)) ∧ Rep K cl io H0' (.tup ds) (.ref T) := by
  obtain ⟨st2, ev⟩ := st.new0 hT (.tup vs)
  exact ⟨_, st2, ev, T, vs, rfl, SqT.of upd_same, RepL.mono ev.pre ev.h0 _ _ r⟩
theorem walks_enum {a : Addr} {vs : List V} {ds : List D} (h : H0 a = some (.lst vs)) (r : RepL K cl io H0 ds vs) : Walks K cl (Ite K a) (enumD ds) io H0 := fun io2 H02 H2 S2 p s st => by
  have hh : H2 a = some (.lst vs) := st.sub _ _ (s _ _ h)
  refine ⟨fun i d hd => ?_, ⟨vs, SqL.of hh, by simp [enumD, r.length]⟩⟩
  unfold enumD at hd
  rw [List.getElem?_map, List.getElem?_zipIdx] at hd
  cases q : ds[i]? with
  | none => rw [q] at hd; cases hd
  | some d1 =>
    rw [q] at hd
    cases hd
    obtain ⟨v, hv, rv⟩ := r.get q
    refine ⟨⟨vs, v, SqL.of hh, hv⟩, ?_⟩
    rintro x H' ⟨T, x1, rfl, hT, rfl, q1⟩
    have e := q1 vs (SqL.of hh)
    rw [hv] at e; cases e
    exact walks_new st hT (RepL.cons (d := .int _) (by simp [Rep]) (.cons (Rep.mono p s d1 v rv) .nil))
theorem walks_enumT {a : Addr} {vs : List V} {ds : List D} (h : SqT K H0 a vs) (r : RepL K cl io H0 ds vs) : Walks K cl (IteT K a) (enumD ds) io H0 := fun io2 H02 H2 S2 p s st => by
  have hh : SqT K H2 a vs := Same.seqT st.sub (Same.seqT s h)
  refine ⟨fun i d hd => ?_, ⟨vs, hh, by simp [enumD, r.length]⟩⟩
  unfold enumD at hd
  rw [List.getElem?_map, List.getElem?_zipIdx] at hd
  cases q : ds[i]? with
  | none => rw [q] at hd; cases hd
  | some d1 =>
    rw [q] at hd
    cases hd
    obtain ⟨v, hv, rv⟩ := r.get q
    refine ⟨⟨vs, v, hh, hv⟩, ?_⟩
    rintro x H' ⟨T, x1, rfl, hT, rfl, q1⟩
    have e := q1 vs hh
    rw [hv] at e; cases e
    exact walks_new st hT (RepL.cons (d := .int _) (by simp [Rep]) (.cons (Rep.mono p s d1 v rv) .nil))
theorem walks_zip {a b : Addr} {vs ws : List V} {ds es : List D} (h : H0 a = some (.lst vs)) (r : RepL K cl io H0 ds vs) (h' : H0 b = some (.lst ws)) (r' : RepL K cl io H0 es ws) : Walks K cl (Itz K a b) (zipD ds es) io H0 := fun io2 H02 H2 S2 p s st => by
  have hh : H2 a = some (.lst vs) := st.sub _ _ (s _ _ h)
  have hh' : H2 b = some (.lst ws) := st.sub _ _ (s _ _ h')
  refine ⟨fun i d hd => ?_, ⟨vs, ws, SqL.of hh, SqL.of hh', by simp only [zipD, List.length_map, List.length_zip, r.length, r'.length]; omega⟩⟩
  unfold zipD at hd
  rw [List.getElem?_map] at hd
  cases q : (ds.zip es)[i]? with
  | none => rw [q] at hd; cases hd
  | some d1 =>
    rw [q] at hd
    cases hd
    obtain ⟨d1, d2⟩ := d1
    obtain ⟨q1, q2⟩ := List.getElem?_zip_eq_some.mp q
    obtain ⟨v, hv, rv⟩ := r.get q1
    obtain ⟨v', hv', rv'⟩ := r'.get q2
    refine ⟨⟨vs, ws, v, v', SqL.of hh, SqL.of hh', hv, hv'⟩, ?_⟩
    rintro x H' ⟨T, x1, y1, rfl, hT, rfl, q1, q2⟩
    have e := q1 vs (SqL.of hh)
    rw [hv] at e; cases e
    have e := q2 ws (SqL.of hh')
    rw [hv'] at e; cases e
    exact walks_new st hT (.cons (Rep.mono p s d1 v rv) (.cons (Rep.mono p s d2 v' rv') .nil))
theorem walks_zipT {a b : Addr} {vs ws : List V} {ds es : List D} (h : SqT K H0 a vs) (r : RepL K cl io H0 ds vs) (h' : SqT K H0 b ws) (r' : RepL K cl io H0 es ws) : Walks K cl (RZ.ItzT K a b) (zipD ds es) io H0 := fun io2 H02 H2 S2 p s st => by
  have hh : SqT K H2 a vs := Same.seqT st.sub (Same.seqT s h)
  have hh' : SqT K H2 b ws := Same.seqT st.sub (Same.seqT s h')
  refine ⟨fun i d hd => ?_, ⟨vs, ws, hh, hh', by simp only [zipD, List.length_map, List.length_zip, r.length, r'.length]; omega⟩⟩
  unfold zipD at hd
  rw [List.getElem?_map] at hd
  cases q : (ds.zip es)[i]? with
  | none => rw [q] at hd; cases hd
  | some d1 =>
    rw [q] at hd
    cases hd
    obtain ⟨d1, d2⟩ := d1
    obtain ⟨q1, q2⟩ := List.getElem?_zip_eq_some.mp q
    obtain ⟨v, hv, rv⟩ := r.get q1
    obtain ⟨v', hv', rv'⟩ := r'.get q2
    refine ⟨⟨vs, ws, v, v', hh, hh', hv, hv'⟩, ?_⟩
    rintro x H' ⟨T, x1, y1, rfl, hT, rfl, q1, q2⟩
    have e := q1 vs hh
    rw [hv] at e; cases e
    have e := q2 ws hh'
    rw [hv'] at e; cases e
    exact walks_new st hT (.cons (Rep.mono p s d1 v rv) (.cons (Rep.mono p s d2 v' rv') .nil))
theorem walks_m {P Q : GZ.SqX} {vs ws : List V} {ds es : List D} (h : ∀ H H2, Same H0 H → Same H H2 → P H2 vs) (r : RepL K cl io H0 ds vs) (h' : ∀ H H2, Same H0 H → Same H H2 → Q H2 ws) (r' : RepL K cl io H0 es ws) : Walks K cl (GZ.Itm P Q) (zipD ds es) io H0 := fun io2 H02 H2 S2 p s st => by
  have hh : P H2 vs := h _ _ s st.sub
  have hh' : Q H2 ws := h' _ _ s st.sub
  refine ⟨fun i d hd => ?_, ⟨vs, ws, hh, hh', by simp only [zipD, List.length_map, List.length_zip, r.length, r'.length]; omega⟩⟩
  unfold zipD at hd
  rw [List.getElem?_map] at hd
  cases q : (ds.zip es)[i]? with
  | none => rw [q] at hd; cases hd
  | some d1 =>
    rw [q] at hd
    cases hd
    obtain ⟨d1, d2⟩ := d1
    obtain ⟨q1, q2⟩ := List.getElem?_zip_eq_some.mp q
    obtain ⟨v, hv, rv⟩ := r.get q1
    obtain ⟨v', hv', rv'⟩ := r'.get q2
    refine ⟨⟨vs, ws, v, v', hh, hh', hv, hv'⟩, ?_⟩
    rintro x H' ⟨T, x1, y1, rfl, hT, rfl, q1, q2⟩
    have e := q1 vs hh
    rw [hv] at e; cases e
    have e := q2 ws hh'
    rw [hv'] at e; cases e
    exact walks_new st hT (.cons (Rep.mono p s d1 v rv) (.cons (Rep.mono p s d2 v' rv') .nil))
/-- a permanent list or tuple -/
theorem rD.lst0 {ds : List D} {v : V} (h : rD K cl true io H0 H (.lst ds) v) : ∃ a vs, v = .ref a ∧ H0 a = some (.lst vs) ∧ RepL K cl io H0 ds vs := h.perm
theorem rD.tup0 {ds : List D} {v : V} (h : rD K cl true io H0 H (.tup ds) v) : ∃ a vs, v = .ref a ∧ SqT K H0 a vs ∧ RepL K cl io H0 ds vs := h.perm
theorem rD.frl0 {ds : List D} {v : V} (h : rD K cl true io H0 H (.frl ds) v) : ∃ a vs, v = .ref a ∧ SqL K H0 a vs ∧ RepL K cl io H0 ds vs := h.perm
theorem i_seq (ha : ED X cl W true a fa) : ID X cl W tg a (iSeq fa) := by
  refine weakI (piOr (pi_list ha) (piOr (pi_tup ha) (pi_str ha))) fun σ H R ⟨io, om, H0, env, S, R0, h⟩ => ?_
  have h1 := Post.bindE (rp := rD X.K cl true) R0 h
  have go : ∀ {t : L2.TE} , True := fun {_} => trivial
  cases q : fa env S with
  | ok d S1 =>
    cases d with
    | lst ds =>
      refine .inl ⟨io, om, H0, env, S, R0, h1.mono fun vx H1 ⟨io1, H01, S1', x, e1, R1, q1, h2, eq⟩ => ?_⟩
      rw [q] at eq; cases eq
      obtain ⟨a, vs, rfl, ha, ra⟩ := q1.lst0
      exact ⟨a, rfl, ⟨vs, SqL.of (R1.st.sub _ _ ha)⟩, h2.done R1 (walks_list ha ra)⟩
    | frl ds =>
      refine .inl ⟨io, om, H0, env, S, R0, h1.mono fun vx H1 ⟨io1, H01, S1', x, e1, R1, q1, h2, eq⟩ => ?_⟩
      rw [q] at eq; cases eq
      obtain ⟨a, vs, rfl, ha, ra⟩ := q1.frl0
      exact ⟨a, rfl, ⟨vs, R1.st.sub.seq ha⟩, h2.done R1 (walks_frl ha ra)⟩
    | tup ds =>
      refine .inr (.inl ⟨io, om, H0, env, S, R0, h1.mono fun vx H1 ⟨io1, H01, S1', x, e1, R1, q1, h2, eq⟩ => ?_⟩)
      rw [q] at eq; cases eq
      obtain ⟨a, vs, rfl, ha, ra⟩ := q1.tup0
      exact ⟨a, rfl, ⟨vs, Same.seqT R1.st.sub ha⟩, h2.done R1 (walks_tup ha ra)⟩
    | str x =>
      refine .inr (.inr ⟨io, om, H0, env, S, R0, h1.mono fun vx H1 ⟨io1, H01, S1', x', e1, R1, q1, h2, eq⟩ => ?_⟩)
      rw [q] at eq; cases eq
      exact ⟨x, q1.str, h2.done R1 walks_str⟩
    | non => unfold iSeq at h; rw [q] at h; exact h.elim
    | bl _ => unfold iSeq at h; rw [q] at h; exact h.elim
    | int _ => unfold iSeq at h; rw [q] at h; exact h.elim
    | ins _ _ _ => unfold iSeq at h; rw [q] at h; exact h.elim
    | obj _ => unfold iSeq at h; rw [q] at h; exact h.elim
  | exc e' S1 =>
    refine .inl ⟨io, om, H0, env, S, R0, ?_⟩
    unfold iSeq at h
    rw [q] at h ⊢
    exact h
  | bad => unfold iSeq at h; rw [q] at h; exact h.elim
theorem ok62_iff {i : Int} (h : ok62 i = true) : -(2 ^ 62) ≤ i ∧ i < 2 ^ 62 := of_decide_eq_true h
variable {es : List Expr} {fs : Sem1 (List D)} {q : Pos}
theorem i_range1 (ha : ED X cl W p1 a fa) (hm : X.mg "range" = none) (hg : Gl X "range" := by rfl) (hs : starEach [a] X.env = [(false, eval a X.env)] := by rfl) : ID X cl W tg (.Call (.Name "range" q) [a] [] pos) (iRng1 fa) := by
  refine weakI (pi_range1 hg hm (pa_cons ha pa_nil (by rw [hs]; rfl)) hs) fun σ H R ⟨io, om, H0, env, S, R0, h⟩ => ?_
  refine ⟨io, om, H0, env, S, R0, (Post.bind R0 h).mono fun vx H1 ⟨io1, H01, S1, d, e1, R1, q1, h1⟩ => ?_⟩
  cases d with
  | int j =>
    cases ho : ok62 j with
    | true =>
      simp only [ho] at h1
      obtain ⟨b1, b2⟩ := ok62_iff ho
      have w := h1.done R1 (v := Itr 0 _) (walks_range (K := X.K) (cl := cl) (lo := 0))
      rw [Int.sub_zero] at w
      rw [q1.int]
      exact ⟨_, rfl, b1, b2, w⟩
    | false => simp only [ho] at h1; exact h1.elim
  | _ => exact h1.elim
theorem i_range2 (ha : ED X cl W p1 a fa) (hb : ED X cl W p2 b fb) (hm : X.mg "range" = none) (hg : Gl X "range" := by rfl) (hs : starEach [a, b] X.env = [(false, eval a X.env), (false, eval b X.env)] := by rfl) (hs2 : starEach [b] X.env = [(false, eval b X.env)] := by rfl) : ID X cl W tg (.Call (.Name "range" q) [a, b] [] pos) (iRng2 fa fb) := by
  refine weakI (pi_range2 hg hm (pa_cons ha (pa_cons hb pa_nil (by rw [hs2]; rfl)) (by rw [hs, hs2])) hs hs2) fun σ H R ⟨io, om, H0, env, S, R0, h⟩ => ?_
  refine ⟨io, om, H0, env, S, R0, (Post.bind R0 h).mono fun vx H1 ⟨io1, H01, S1, d, e1, R1, q1, h1⟩ => ?_⟩
  refine ⟨io1, om, H01, env, S1, R1, (Post.bind R1 h1).mono fun vy H2 ⟨io2, H02, S2, e, e2, R2, q2, h2⟩ => ?_⟩
  cases d with
  | int i =>
    cases e with
    | int j =>
      cases ho : ok62 i && ok62 j with
      | true =>
        simp only [ho] at h2
        rw [Bool.and_eq_true] at ho
        obtain ⟨b1, b2⟩ := ok62_iff ho.1
        obtain ⟨b3, b4⟩ := ok62_iff ho.2
        rw [(q1.ev e2).int, q2.int]
        exact ⟨_, _, rfl, ⟨b1, b2, b3, b4⟩, h2.done R2 (v := Itr i _) (walks_range (K := X.K) (cl := cl) (lo := i))⟩
      | false => simp only [ho] at h2; exact h2.elim
    | _ => exact h2.elim
  | _ => exact h2.elim
variable {elts : List Expr} {kk : Nat} {tpos : Pos}
theorem i_enum (ha : ED X cl W true a fa) (hm : X.mg "enumerate" = none) (hg : Gl X "enumerate" := by rfl) (hs : starEach [a] X.env = [(false, eval a X.env)] := by rfl) : ID X cl W (.Tuple elts kk tpos) (.Call (.Name "enumerate" q) [a] [] pos) (iEnumD (aCons fa aNil)) := by
  refine weakI (piOr (pi_enum hg hm (a_cons ha a_nil (by rw [hs]; rfl)) hs) (pi_enumT hg hm (a_cons ha a_nil (by rw [hs]; rfl)) hs)) fun σ H R ⟨io, om, H0, env, S, R0, h⟩ => ?_
  by_cases hq : ∃ ds S1, aCons fa aNil env S = .ok [.tup ds] S1
  · refine .inr ⟨io, om, H0, env, S, R0, (Post.bindE (rp := rL X.K cl true) R0 h).mono fun vx H1 ⟨io1, H01, S1, ds, e1, R1, q1, h1, hx⟩ => ?_⟩
    obtain ⟨ds', S1', hq⟩ := hq
    rw [hq] at hx
    cases hx
    obtain ⟨v, rfl, q2⟩ := rL_one q1
    obtain ⟨a, vs, rfl, ha, ra⟩ := q2.tup0
    exact ⟨a, vs, rfl, Same.seqT R1.st.sub ha, h1.done R1 (walks_enumT ha ra)⟩
  · refine .inl ⟨io, om, H0, env, S, R0, (Post.bindE (rp := rL X.K cl true) R0 h).mono fun vx H1 ⟨io1, H01, S1, ds, e1, R1, q1, h1, hx⟩ => ?_⟩
    split at h1
    · obtain ⟨v, rfl, q2⟩ := rL_one q1
      obtain ⟨a, vs, rfl, ha, ra⟩ := q2.lst0
      exact ⟨a, vs, rfl, SqL.of (R1.st.sub _ _ ha), h1.done R1 (walks_enum ha ra)⟩
    · exact absurd ⟨_, _, hx⟩ hq
    · exact h1.elim
theorem i_zip (ha : ED X cl W true a fa) (hb : ED X cl W true b fb) (hm : X.mg "zip" = none) (hg : Gl X "zip" := by rfl) (hs : starEach [a, b] X.env = (false, eval a X.env) :: starEach [b] X.env := by rfl) (hs2 : starEach [b] X.env = (false, eval b X.env) :: starEach [] X.env := by rfl)
    (hpl : (backTo pos (starEach [b] X.env)).any (·.1) = false := by rfl) : ID X cl W (.Tuple elts kk tpos) (.Call (.Name "zip" q) [a, b] [] pos) (iZipD (aCons fa (aCons fb aNil))) := by
  refine weakI (piOr (RZ.pi_zipA hg hm (a_cons ha (a_cons hb a_nil hs2) hs) hs hpl) (GZ.pi_zipM hg hm (a_cons ha (a_cons hb a_nil hs2) hs) hs hpl)) fun σ H R ⟨io, om, H0, env, S, R0, h⟩ => ?_
  by_cases hq : ∃ ds es S1, aCons fa (aCons fb aNil) env S = .ok [.lst ds, .lst es] S1 ∨ aCons fa (aCons fb aNil) env S = .ok [.tup ds, .tup es] S1
  · refine .inl ⟨io, om, H0, env, S, R0, (Post.bindE (rp := rL X.K cl true) R0 h).mono fun vx H1 ⟨io1, H01, S1, ds, e1, R1, q1, h1, hx⟩ => ?_⟩
    obtain ⟨ds', es', S1', hq⟩ := hq
    rw [hx] at hq
    rcases hq with hq | hq
    · cases hq
      obtain ⟨v, w, rfl, q2, q3⟩ := rL_two q1
      obtain ⟨a, vs, rfl, ha, ra⟩ := q2.lst0
      obtain ⟨b, ws, rfl, hb, rb⟩ := q3.lst0
      exact ⟨a, b, vs, ws, rfl, .inl ⟨SqL.of (R1.st.sub _ _ ha), SqL.of (R1.st.sub _ _ hb), h1.done R1 (walks_zip ha ra hb rb)⟩⟩
    · cases hq
      obtain ⟨v, w, rfl, q2, q3⟩ := rL_two q1
      obtain ⟨a, vs, rfl, ha, ra⟩ := q2.tup0
      obtain ⟨b, ws, rfl, hb, rb⟩ := q3.tup0
      exact ⟨a, b, vs, ws, rfl, .inr ⟨Same.seqT R1.st.sub ha, Same.seqT R1.st.sub hb, h1.done R1 (walks_zipT ha ra hb rb)⟩⟩
  · refine .inr ⟨io, om, H0, env, S, R0, (Post.bindE (rp := rL X.K cl true) R0 h).mono fun vx H1 ⟨io1, H01, S1, ds, e1, R1, q1, h1, hx⟩ => ?_⟩
    split at h1
    · exact absurd ⟨_, _, _, .inl hx⟩ hq
    · exact absurd ⟨_, _, _, .inr hx⟩ hq
    · obtain ⟨v, w, rfl, q2, q3⟩ := rL_two q1
      obtain ⟨a, vs, rfl, ha, ra⟩ := q2.tup0
      obtain ⟨b, ws, rfl, hb, rb⟩ := q3.lst0
      exact ⟨a, b, vs, ws, rfl, .inl ⟨Same.seqT R1.st.sub ha, SqL.of (R1.st.sub _ _ hb), h1.done R1 (walks_m (fun _ _ s t => Same.seqT t (Same.seqT s ha)) ra (fun _ _ s t => SqL.of (t _ _ (s _ _ hb))) rb)⟩⟩
    · obtain ⟨v, w, rfl, q2, q3⟩ := rL_two q1
      obtain ⟨a, vs, rfl, ha, ra⟩ := q2.lst0
      obtain ⟨b, ws, rfl, hb, rb⟩ := q3.tup0
      exact ⟨a, b, vs, ws, rfl, .inr ⟨SqL.of (R1.st.sub _ _ ha), Same.seqT R1.st.sub hb, h1.done R1 (walks_m (fun _ _ s t => SqL.of (t _ _ (s _ _ ha))) ra (fun _ _ s t => Same.seqT t (Same.seqT s hb)) rb)⟩⟩
    · exact h1.elim
end

abbrev Tg := D → Env → Option Env
def gN (i : Nat) : Tg := fun d env => if i < env.length then some (env.set i (.val d)) else none
def gTs : List Tg → List D → Env → Option Env
  | [], [], env => some env
  | t :: ts, d :: ds, env => (t d env).bind fun env1 => gTs ts ds env1
  | _, _, _ => none
def gT (ts : List Tg) : Tg := fun d env => match d with
  | .tup ds => gTs ts ds env
  | _ => none
/-- the slots at ix alone are written -/
def TgOk (K : PySem.W.Frag) (cl : Nat → Addr) (ix : List Nat) (tg : Tg) : D → V → L2.St → Hp → (L2.St → Hp → Prop) → Prop := fun d v σ H Q =>
  ∃ io om H0 env S env', Rel K cl io om H0 H env S σ ∧ Rep K cl io H0 d v ∧ tg d env = some env' ∧
    ∀ om' σ', (∀ (i : Nat) a, om'[i]? = some (some a) → om[i]? = some (some a)) → (∀ ws : List Nat, (∀ i ∈ ix, i ∈ ws) → wipe σ' ws = wipe σ ws) → Rel K cl io om' H0 H env' S σ' → Q σ' H
def gG (K : PySem.W.Frag) (cl : Nat → Addr) (ix : List Nat) (tg : Tg) : TG := fun v σ H Q => ∃ d, TgOk K cl ix tg d v σ H Q
abbrev GD (X : Cx) (cl : Nat → Addr) (target : Expr) (ix : List Nat) (tg : Tg) : Prop := PG X target (gG X.K cl ix tg)
def gsG (K : PySem.W.Frag) (cl : Nat → Addr) (ix : List Nat) (tgs : List Tg) : TGs := fun vs σ H Q => ∃ ds io om H0 env S env', Rel K cl io om H0 H env S σ ∧ RepL K cl io H0 ds vs ∧ gTs tgs ds env = some env' ∧
    ∀ om' σ', (∀ (i : Nat) a, om'[i]? = some (some a) → om[i]? = some (some a)) → (∀ ws : List Nat, (∀ i ∈ ix, i ∈ ws) → wipe σ' ws = wipe σ ws) → Rel K cl io om' H0 H env' S σ' → Q σ' H
abbrev GsD (X : Cx) (cl : Nat → Addr) (targets : List Expr) (ix : List Nat) (tgs : List Tg) : Prop := PGs X targets (gsG X.K cl ix tgs)
section
variable {X : Cx} {cl : Nat → Addr} {W : WX} {e a b c tg : Expr} {pos : Pos} {K : PySem.W.Frag} {io io' : List Addr} {om : Own} {H0 H H0' H' : Hp} {env : Env} {S S' : Sto} {σ : L2.St} {Q : VK} {p1 p2 : Bool} {fa fb fc : Ex}
theorem weakG {t t' : TG} (h : PG X tg t) (q : ∀ v σ H Q, t' v σ H Q → t v σ H Q) : PG X tg t' := ⟨fun pins s σ H v u Q I r w => h.run pins s σ H v u Q I r (q v σ H Q w)⟩
theorem weakGs {ts : List Expr} {t t' : TGs} (h : PGs X ts t) (q : ∀ v σ H Q, t' v σ H Q → t v σ H Q) : PGs X ts t' := ⟨fun pins s σ H v u Q I r w => h.run pins s σ H v u Q I r (q v σ H Q w)⟩
theorem wipe_get {σ : L2.St} {j : Nat} : ∀ {ws : List Nat}, (wipe σ ws)[j]? = if j < σ.length then (if j ∈ ws then some none else σ[j]?) else none
  | [] => by
    simp only [wipe]
    split
    · simp
    · rename_i h
      exact List.getElem?_eq_none (by omega)
  | w :: ws => by
    simp only [wipe]
    rw [List.getElem?_set, wipe_length, wipe_get]
    by_cases hw : w = j
    · subst hw
      simp
    · have : ¬ j = w := fun e => hw e.symm
      simp [hw, this]
theorem wipe_set {σ : L2.St} {i : Nat} {x : Option V} {ws : List Nat} (h : i ∈ ws) : wipe (σ.set i x) ws = wipe σ ws := by
  apply List.ext_getElem?
  intro j
  rw [wipe_get, wipe_get]
  simp only [List.length_set]
  by_cases hj : j ∈ ws
  · simp [hj]
  · have : i ≠ j := fun e => hj (e ▸ h)
    simp [hj, List.getElem?_set_ne this]
/-- a slot is written -/
theorem Rel.set (R0 : Rel K cl io om H0 H env S σ) {i : Nat} {d : D} {v : V} (hi : i < env.length) (r : Rep K cl io H0 d v) : Rel K cl io (om.set i none) H0 H (env.set i (.val d)) S (σ.set i (some v)) := by
  refine ⟨R0.st, ⟨by simp [R0.en.len], by simp [R0.en.lenO], fun j s sv ow e1 e2 e3 => ?_, fun j k a e1 e2 => ?_⟩⟩
  · by_cases hj : i = j
    · subst hj
      rw [List.getElem?_set_self hi] at e1
      rw [List.getElem?_set_self (by rw [← R0.en.len]; exact hi)] at e2
      rw [List.getElem?_set_self (by rw [R0.en.lenO, ← R0.en.len]; exact hi)] at e3
      cases e1; cases e2; cases e3
      exact ⟨rfl, v, rfl, r⟩
    · rw [List.getElem?_set_ne hj] at e1 e2 e3
      exact R0.en.slot j s sv ow e1 e2 e3
  · by_cases hj : i = j
    · subst hj
      rw [List.getElem?_set_self (by rw [R0.en.lenO, ← R0.en.len]; exact hi)] at e1
      cases e1
    · by_cases hk : i = k
      · subst hk
        rw [List.getElem?_set_self (by rw [R0.en.lenO, ← R0.en.len]; exact hi)] at e2
        cases e2
      · rw [List.getElem?_set_ne hj] at e1
        rw [List.getElem?_set_ne hk] at e2
        exact R0.en.inj j k a e1 e2
theorem om_set {i : Nat} : ∀ (j : Nat) a, (om.set i none)[j]? = some (some a) → om[j]? = some (some a) := fun j a e => by
  by_cases hj : i = j
  · subst hj
    by_cases hl : i < om.length
    · rw [List.getElem?_set_self hl] at e; cases e
    · rw [List.getElem?_eq_none (by simp; omega)] at e; cases e
  · rw [List.getElem?_set_ne hj] at e; exact e
theorem g_name (i : Nat) {x : Str} (hN : X.N.Nodup) (hi : X.N[i]? = some x := by rfl) (hx : Loc X.env.scope x := by first | exact Or.inl rfl | exact Or.inr rfl) (hf : X.fn x = true ∨ X.env.scope.names.lookup x = some .local := by first | exact .inl rfl | exact .inr rfl) : GD X cl (.Name x pos) [i] (gN i) := by
  refine weakG (pg_name hN hi hx hf) fun v σ H Q ⟨d, io, om, H0, env, S, env', R0, r, ht, k⟩ => ?_
  unfold gN at ht
  split at ht
  · rename_i hl
    cases ht
    exact k _ _ om_set (fun ws hw => wipe_set (hw i (by simp))) (R0.set hl r)
  · cases ht
theorem gs_nil : GsD X cl [] [] [] := by
  refine weakGs pgs_nil fun vs σ H Q ⟨ds, io, om, H0, env, S, env', R0, r, ht, k⟩ => ?_
  cases ds with
  | nil =>
    cases ht
    exact ⟨r, k om σ (fun _ _ h => h) (fun _ _ => rfl) R0⟩
  | cons d ds => cases ht
theorem gs_cons {t : Expr} {ts : List Expr} {ix ix' : List Nat} {g : Tg} {gs : List Tg} (h1 : GD X cl t ix g) (h2 : GsD X cl ts ix' gs) (hs : (assignEach (t :: ts) X.env).map (·.2) = assign t X.env :: (assignEach ts X.env).map (·.2) := by rfl) : GsD X cl (t :: ts) (ix ++ ix') (g :: gs) := by
  refine weakGs (pgs_cons h1 h2 hs) fun vs σ H Q ⟨ds, io, om, H0, env, S, env', R0, r, ht, k⟩ => ?_
  cases ds with
  | nil => cases ht
  | cons d ds =>
    obtain ⟨v, vr, rfl, r1, r2⟩ := r
    obtain ⟨env1, t1, t2⟩ := Option.bind_eq_some_iff.mp ht
    refine ⟨v, vr, rfl, d, io, om, H0, env, S, env1, R0, r1, t1, fun om1 σ1 w1 w2 R1 => ?_⟩
    exact ⟨ds, io, om1, H0, env1, S, env', R1, r2, t2, fun om2 σ2 w3 w4 R2 => k om2 σ2 (fun i a e => w1 i a (w3 i a e)) (fun ws hw => (w4 ws fun i hi => hw i (List.mem_append_right _ hi)).trans (w2 ws fun i hi => hw i (List.mem_append_left _ hi))) R2⟩
theorem gTs_len : ∀ {gs : List Tg} {ds : List D} {env env' : Env}, gTs gs ds env = some env' → ds.length = gs.length
  | [], [], _, _, _ => rfl
  | [], _ :: _, _, _, h => by cases h
  | _ :: _, [], _, _, h => by cases h
  | g :: gs, d :: ds, _, _, h => by
    obtain ⟨_, _, h2⟩ := Option.bind_eq_some_iff.mp h
    rw [List.length_cons, List.length_cons, gTs_len h2]
theorem g_tup {ts : List Expr} {k : Nat} {ix : List Nat} {gs : List Tg} (h : GsD X cl ts ix gs) (hn : (assignEach ts X.env).length = gs.length := by rfl) (hc : X.calm = true := by rfl) (hst : (assignEach ts X.env).findIdx? (·.1) = none := by rfl) : GD X cl (.Tuple ts k pos) ix (gT gs) := by
  refine weakG (pg_tup (n := gs.length) hc h hn hst) fun v σ H Q ⟨d, io, om, H0, env, S, env', R0, r, ht, kk⟩ => ?_
  cases d with
  | tup ds =>
    obtain ⟨a, vs, rfl, q, rv⟩ := r
    exact ⟨a, vs, rfl, Same.seqT R0.st.sub q, by rw [← rv.length]; exact gTs_len ht, ds, io, om, H0, env, S, env', R0, rv, ht, kk⟩
  | _ => cases ht
end

def noX {α : Type} : R α → R α
  | .exc _ _ => .bad
  | r => r
def wipeE (env : Env) : List Nat → Env
  | [] => env
  | v :: vs => (wipeE env vs).set v .un
def wipeO (om : Own) : List Nat → Own
  | [] => om
  | v :: vs => (wipeO om vs).set v none
/-- the turns of [elt for tg in .. if c] -/
def lcL (tg : Tg) (c : Sem1 Bool) (elt : Ex) (env : Env) : List D → Sto → R (List D)
  | [], S => .ok [] S
  | d :: ds, S => match tg d env with
    | none => .bad
    | some env2 => (noX (c env2 S)).bind fun b S1 => if b then (noX (elt env2 S1)).bind fun y S2 => (lcL tg c elt env ds S2).bind fun ys S3 => .ok (y :: ys) S3 else lcL tg c elt env ds S1
def nLc (f : Sem1 (List D)) (tg : Tg) (c : Sem1 Bool) (elt : Ex) (vs : List Nat) : Sem1 (List D) := fun env S => (f env S).bind fun ds S1 => if okL ds.length then lcL tg c elt (wipeE env vs) ds S1 else .bad
def tT : Sem1 Bool := fun _ S => .ok true S
def WF : WX := fun _ _ _ _ => False
theorem wipeE_get {env : Env} {j : Nat} : ∀ {ws : List Nat}, (wipeE env ws)[j]? = if j < env.length then (if j ∈ ws then some .un else env[j]?) else none
  | [] => by
    simp only [wipeE]
    split
    · simp
    · rename_i h
      exact List.getElem?_eq_none (by omega)
  | w :: ws => by
    have hl : (wipeE env ws).length = env.length := by
      clear wipeE_get
      induction ws with
      | nil => rfl
      | cons w ws ih => simp [wipeE, ih]
    simp only [wipeE]
    rw [List.getElem?_set, hl, wipeE_get]
    by_cases hw : w = j
    · subst hw
      simp
    · have : ¬ j = w := fun e => hw e.symm
      simp [hw, this]
theorem wipeO_get {om : Own} {j : Nat} : ∀ {ws : List Nat}, (wipeO om ws)[j]? = if j < om.length then (if j ∈ ws then some none else om[j]?) else none
  | [] => by
    simp only [wipeO]
    split
    · simp
    · rename_i h
      exact List.getElem?_eq_none (by omega)
  | w :: ws => by
    have hl : (wipeO om ws).length = om.length := by
      clear wipeO_get
      induction ws with
      | nil => rfl
      | cons w ws ih => simp [wipeO, ih]
    simp only [wipeO]
    rw [List.getElem?_set, hl, wipeO_get]
    by_cases hw : w = j
    · subst hw
      simp
    · have : ¬ j = w := fun e => hw e.symm
      simp [hw, this]
theorem wipeE_len {env : Env} : ∀ {ws : List Nat}, (wipeE env ws).length = env.length
  | [] => rfl
  | w :: ws => by simp [wipeE, wipeE_len]
theorem wipeO_len {om : Own} : ∀ {ws : List Nat}, (wipeO om ws).length = om.length
  | [] => rfl
  | w :: ws => by simp [wipeO, wipeO_len]
section
variable {X : Cx} {cl : Nat → Addr} {W : WX} {e a b c tg : Expr} {pos : Pos} {K : PySem.W.Frag} {io io' : List Addr} {om : Own} {H0 H H0' H' : Hp} {env : Env} {S S' : Sto} {σ : L2.St} {Q : VK} {p1 p2 : Bool} {fa fb fc : Ex}
theorem Rel.wipe (R0 : Rel K cl io om H0 H env S σ) (ws : List Nat) : Rel K cl io (wipeO om ws) H0 H (wipeE env ws) S (L2.wipe σ ws) := by
  refine ⟨R0.st, ⟨by rw [wipeE_len, wipe_length, R0.en.len], by rw [wipeO_len, wipe_length, R0.en.lenO], fun j s sv ow e1 e2 e3 => ?_, fun j k a e1 e2 => ?_⟩⟩
  · rw [wipeE_get] at e1
    rw [wipe_get] at e2
    rw [wipeO_get] at e3
    split at e1
    · rename_i hl
      rw [if_pos (by rw [← R0.en.len]; exact hl)] at e2
      rw [if_pos (by rw [R0.en.lenO, ← R0.en.len]; exact hl)] at e3
      split at e1
      · rename_i hw
        rw [if_pos hw] at e3
        cases e1; cases e3
        rfl
      · rename_i hw
        rw [if_neg hw] at e2 e3
        exact R0.en.slot j s sv ow e1 e2 e3
    · cases e1
  · rw [wipeO_get] at e1 e2
    split at e1
    · split at e1
      · cases e1
      · split at e2
        · split at e2
          · cases e2
          · exact R0.en.inj j k a e1 e2
        · cases e2
    · cases e1
/-- within a block -/
theorem noX_post {α β : Type} {rp : List Addr → Hp → Hp → α → β → Prop} {Q : β → Hp → Prop} {σ σ' : L2.St} : ∀ {r : R α}, Post K cl rp W io H0 H σ Q (noX r) → Post K cl rp WF io H0 H σ' Q r
  | .ok _ _, h => h
  | .exc _ _, h => h.elim
  | .bad, h => h
theorem Post.sig {α β : Type} {rp : List Addr → Hp → Hp → α → β → Prop} {Q : β → Hp → Prop} {σ σ' : L2.St} : ∀ {r : R α}, Post K cl rp WF io H0 H σ Q r → Post K cl rp WF io H0 H σ' Q r
  | .ok _ _, h => h
  | .exc _ _, h => h
  | .bad, h => h
abbrev PtD (X : Cx) (cl : Nat → Addr) (ifs : List Expr) (f : Sem1 Bool) : Prop := PTs X ifs (tG X.K cl rB WF f)
theorem weakP {ifs : List Expr} {t t' : TT} (h : PTs X ifs t) (q : ∀ σ H Q, t' σ H Q → t σ H Q) : PTs X ifs t' := ⟨fun pins s σ H Q I w => h.run pins s σ H Q I (q σ H Q w)⟩
theorem p_nil : PtD X cl [] tT := weakP pts_nil fun σ H Q ⟨io, om, H0, env, S, R0, h⟩ => h.done R0 rfl
theorem p_one {f : Sem1 Bool} (h : TD X cl WF c f) : PtD X cl [c] f := pts_one h
/-- a first part that ends well, wherever it is asked -/
theorem Post.runX {α β γ δ : Type} {rp : List Addr → Hp → Hp → α → β → Prop} {rp' : List Addr → Hp → Hp → γ → δ → Prop} {Q : δ → Hp → Prop} {r : R α} {k : α → Sto → R γ} {σ' : L2.St} {ioB : List Addr} {H0B HB : Hp}
    (R0 : Rel K cl io om H0 H env S σ') (h : Post K cl rp' W ioB H0B HB σ Q ((noX r).bind k)) :
    Post K cl rp WF io H0 H σ' (fun v H1 => ∃ io1 H01 S1 d, Ev io H0 H io1 H01 H1 ∧ Rel K cl io1 om H01 H1 env S1 σ' ∧ rp io1 H01 H1 d v ∧ r = .ok d S1) r := by
  cases r with
  | ok d S1 => exact fun io1 H01 H1 v e st q => ⟨io1, H01, S1, d, e, R0.ev e st, q, rfl⟩
  | exc e S1 => exact h.elim
  | bad => exact h
theorem Ev.upd {io1 io2 : List Addr} {H01 H1 H02 H2 : Hp} (x : Ev io1 H01 H1 io2 H02 H2) {a : Addr} (o : HO) (h : H1 a = none) : Ev io1 H01 H1 io2 H02 (upd H2 a o) :=
  ⟨x.pre, x.new, x.h0, x.h0n, fun b u e n => by rw [upd_ne (ne_of_none e h)]; exact x.keep b u e n, fun b hb => by
    by_cases e : b = a
    · subst e; rw [upd_same]; simp
    · rw [upd_ne e]; exact x.dom b hb⟩
theorem StR.upd {a : Addr} (st : StR K cl io H0 H S) (o : HO) (h0 : H0 a = none) (hi : a ∉ io) : StR K cl io H0 (upd H a o) S :=
  ⟨fun b u e => by rw [upd_ne (ne_of_none e h0)]; exact st.sub b u e, st.len, st.out, st.inj, fun n b u e e2 => (st.ob n b u e e2).at (.refl _) (.refl _) (upd_ne (by rintro rfl; exact hi (List.mem_of_getElem? e)))⟩
theorem bind_assoc {α β γ : Type} {r : R α} {f : α → Sto → R β} {k : β → Sto → R γ} : (r.bind f).bind k = r.bind fun a S => (f a S).bind k := by cases r <;> rfl
def LcI (K : PySem.W.Frag) (cl : Nat → Addr) (W : WX) (io1 : List Addr) (H01 H1 : Hp) (σ : L2.St) (Q : VK) (Hs : Hp) (D0 : Addr) (tl : Sto → R (List D)) (i : Nat) (H2 : Hp) : Prop :=
  ∃ io2 H02 S2 acc vs, acc.length ≤ i ∧ Ev io1 H01 H1 io2 H02 H2 ∧ StR K cl io2 H02 H2 S2 ∧ H2 D0 = some (.lst vs) ∧ RepL K cl io2 H02 acc vs ∧ H02 D0 = none ∧ D0 ∉ io2 ∧
    Post K cl (rN K cl Hs) W io1 H01 H1 σ Q ((tl S2).bind fun ys S3 => .ok (acc ++ ys) S3)
theorem lc_of {own : List (Str × Nat)} {f : Sem1 (List D)} {ix : List Nat} {g : Tg} {fc : Sem1 Bool} {fe : Ex} (hix : ∀ i ∈ ix, i ∈ own.map (·.2)) {σ : L2.St} {H : Hp} {Q : VK} (h : tN X.K cl W (nLc f g fc fe (own.map (·.2))) σ H Q) :
    tLc (tG X.K cl (rW X.K cl) W f) (gG X.K cl ix g) (tG X.K cl rB WF fc) (tG X.K cl (rD X.K cl true) WF fe) (own.map (·.2)) σ H Q := by
  obtain ⟨io, om, H0, env, S, R0, h⟩ := h
  refine ⟨io, om, H0, env, S, R0, (Post.bind R0 h).mono fun J H1 ⟨io1, H01, S1, ds, e1, R1, wk, h1⟩ => ?_⟩
  cases ho : okL ds.length with
  | false => simp only [ho] at h1; exact h1.elim
  | true =>
  simp only [ho, if_true] at h1
  intro D0 hD
  have hsz := okL_le ho
  -- the list at D0 stands apart
  obtain ⟨st0, ev0⟩ := R1.st.new hD (.lst [])
  have D00 : H01 D0 = none := R1.st.free0 hD
  have Dio : D0 ∉ io1 := fun m => R1.st.there m hD
  have DH : H D0 = none := by
    cases q : H D0 with
    | none => rfl
    | some o => exact absurd hD (e1.dom D0 (by simp [q]))
  refine ⟨fun i m H2 => m = ds.length - i ∧ i ≤ ds.length ∧ LcI X.K cl W io1 H01 H1 σ Q H D0 (lcL g fc fe (wipeE env (own.map (·.2))) (ds.drop i)) i H2, ⟨ds.length, by simp, Nat.zero_le _, io1, H01, S1, [], [], Nat.zero_le _, ev0, st0, upd_same, .nil, D00, Dio, ?_⟩, ?_⟩
  · have e : ∀ r : R (List D), (r.bind fun ys S3 => G.R.ok ([] ++ ys) S3) = r := fun r => by cases r <;> rfl
    rw [List.drop_zero, e]
    exact h1
  · rintro i m H2 ⟨rfl, hi, io2, H02, S2, acc, vs, ha, ev, st, hv, ra, n0, nio, hp⟩
    obtain ⟨wi, ws⟩ := wk io2 H02 H2 S2 ev.pre ev.h0 st
    by_cases hlt : i < ds.length
    · have hd : ds[i]? = some ds[i] := List.getElem?_eq_getElem hlt
      have hdr : ds.drop i = ds[i] :: ds.drop (i + 1) := List.drop_eq_getElem_cons hlt
      obtain ⟨go, yl⟩ := wi i _ hd
      refine .inr ⟨go, fun H' => LcI X.K cl W io1 H01 H1 σ Q H D0 (lcL g fc fe (wipeE env (own.map (·.2))) (ds.drop (i + 1))) (i + 1) H', fun H' l => ⟨ds.length - (i + 1), by omega, rfl, hlt, l⟩, fun x H3 y => ?_⟩
      obtain ⟨H03, st3, ev3, rd⟩ := yl x H3 y
      have R3 := (R1.wipe (own.map (·.2))).ev (ev.trans ev3) st3
      rw [hdr] at hp
      unfold lcL at hp
      cases hgd : g ds[i] (wipeE env (own.map (·.2))) with
      | none => simp only [hgd] at hp; exact hp.elim
      | some env2 =>
        simp only [hgd] at hp
        rw [bind_assoc] at hp
        refine ⟨_, io2, _, H03, _, S2, env2, R3, rd, hgd, fun om2 σ2 w1 w2 R4 => ⟨?_, ?_⟩⟩
        · rw [w2 (own.map (·.2)) hix]
          apply List.ext_getElem?
          intro j
          rw [wipe_get, wipe_get, wipe_length]
          by_cases hj : j ∈ own.map (·.2)
          · simp [hj]
          · by_cases hl : j < σ.length
            · simp only [hj, hl, if_true, if_false]
            · simp [hl]
        refine ⟨io2, om2, H03, env2, S2, R4, (Post.runX R4 hp).mono fun b H4 ⟨io4, H04, S4, b', e4, R5, rb, eq4⟩ => ?_⟩
        cases rb
        rw [eq4] at hp
        have far : ∀ {io4 : List Addr} {H04 H4 : Hp}, Ev io2 H03 H3 io4 H04 H4 → H4 D0 = some (.lst vs) ∧ H04 D0 = none ∧ D0 ∉ io4 := fun {io4 H04 H4} e4 => by
          refine ⟨e4.keep _ _ (ev3.keep _ _ hv nio) nio, ?_, fun m => ?_⟩
          · cases q : H04 D0 with
            | none => rfl
            | some o =>
              rcases (ev3.trans e4).h0n _ _ q with z | z
              · rw [n0] at z; cases z
              · rw [hv] at z; cases z
          · rcases (ev3.trans e4).new _ m with z | z
            · exact nio z
            · rw [hv] at z; cases z
        cases b with
        | false =>
          obtain ⟨f1, f2, f3⟩ := far e4
          exact iteF ⟨io4, H04, S4, acc, vs, Nat.le_succ_of_le ha, (ev.trans ev3).trans e4, R5.st, f1, RepL.mono (ev3.trans e4).pre (ev3.trans e4).h0 _ _ ra, f2, f3, hp⟩
        | true =>
          refine iteT ?_
          have hp : Post X.K cl (rN X.K cl H) W io1 H01 H1 σ Q (((noX (fe env2 S4)).bind fun y S2 => (lcL g fc fe (wipeE env (own.map (·.2))) (ds.drop (i + 1)) S2).bind fun ys S3 => G.R.ok (y :: ys) S3).bind fun ys S3 => G.R.ok (acc ++ ys) S3) := hp
          rw [bind_assoc] at hp
          refine ⟨io4, om2, H04, env2, S4, R5, (Post.runX R5 hp).mono fun y H5 ⟨io5, H05, S5, dy, e5, R6, ry, eq5⟩ => ?_⟩
          rw [eq5] at hp
          obtain ⟨f1, f2, f3⟩ := far (e4.trans e5)
          have ra5 := RepL.mono (ev3.trans (e4.trans e5)).pre (ev3.trans (e4.trans e5)).h0 _ _ ra
          refine ⟨vs, f1, by rw [← ra.length]; omega, io5, H05, S5, acc ++ [dy], vs ++ [y], by rw [List.length_append, List.length_singleton]; omega, ((ev.trans ev3).trans (e4.trans e5)).upd _ hD, R6.st.upd _ f2 f3, upd_same, ra5.append (.cons ry.perm .nil), f2, f3, ?_⟩
          have hp : Post X.K cl (rN X.K cl H) W io1 H01 H1 σ Q (((lcL g fc fe (wipeE env (own.map (·.2))) (ds.drop (i + 1)) S5).bind fun ys S3 => G.R.ok (dy :: ys) S3).bind fun ys S3 => G.R.ok (acc ++ ys) S3) := hp
          rw [bind_assoc] at hp
          have e : (fun (a : List D) S => ((G.R.ok (dy :: a) S).bind fun ys S3 => G.R.ok (acc ++ ys) S3)) = fun ys S3 => G.R.ok (acc ++ [dy] ++ ys) S3 := by
            funext a S
            show G.R.ok (acc ++ (dy :: a)) S = _
            simp
          rw [e] at hp
          exact hp
    · have e : i = ds.length := by omega
      subst e
      rw [List.drop_length] at hp
      have hp : Post X.K cl (rN X.K cl H) W io1 H01 H1 σ Q (.ok (acc ++ []) S2) := hp
      rw [List.append_nil] at hp
      exact .inl ⟨ws, hp.done_ev ev st ⟨D0, vs, rfl, hv, n0, nio, DH, ra⟩⟩
theorem n_lc {elt iter : Expr} {ifs : List Expr} {scope : Scope} {own : List (Str × Nat)} {f : Sem1 (List D)} {ix : List Nat} {g : Tg} {fc : Sem1 Bool} {fe : Ex} (hN : X.N.Nodup) (hi : ID X cl W tg iter f) (hk : blkC X.N X.env.scope scope own = true)
    (hg : ∀ (s : Shared) (H : Hp) (C : Addr) (cz : List (Str × Addr)) (fp : List Addr), GD (X.blk s H scope (compEnvC scope cz C X.env) fp) cl tg ix g)
    (ht : ∀ (s : Shared) (H : Hp) (C : Addr) (cz : List (Str × Addr)) (fp : List Addr), PtD (X.blk s H scope (compEnvC scope cz C X.env) fp) cl ifs fc)
    (he : ∀ (s : Shared) (H : Hp) (C : Addr) (cz : List (Str × Addr)) (fp : List Addr), ED (X.blk s H scope (compEnvC scope cz C X.env) fp) cl WF true elt fe)
    (hix : ∀ i ∈ ix, i ∈ own.map (·.2) := by decide) (hc : X.calm = true := by rfl) (hs : ∀ x, foldedSetIterable iter X.env x = Pure.pure x := by intro _; rfl) :
    ND X cl W (.ListComp elt [⟨tg, iter, ifs, 0⟩] scope pos) (nLc f g fc fe (own.map (·.2))) :=
  weakE (pe_lc (g := gG X.K cl ix g) (tt := tG X.K cl rB WF fc) (te := tG X.K cl (rD X.K cl true) WF fe) hc hN hi (blkOk_by hk) hg ht he hs) fun σ H Q h => lc_of hix h
end
end G

namespace G
open PySem PySem.Spec PyProof.Rows L2

structure Ent where
  io : List Addr
  H0 : Hp
  H : Hp
inductive Fl where
  | nx (env : Env)
  | rt (d : D)
  | bk (env : Env)
  | ct (env : Env)
  | xc (e : XV) (env : Env)
  | ro (ds : List D)
abbrev Sm := Sem1 Fl
structure RelF (K : PySem.W.Frag) (cl : Nat → Addr) (T : Ent) (io : List Addr) (om : Own) (H0 H : Hp) (env : Env) (S : Sto) (σ : L2.St) : Prop where
  rel : Rel K cl io om H0 H env S σ
  ev : Ev T.io T.H0 T.H io H0 H
  fresh : ∀ (i : Nat) a, om[i]? = some (some a) → T.H a = none
def PostS (K : PySem.W.Frag) (cl : Nat → Addr) (T : Ent) (W : WX) (D : Ends) : R Fl → Prop
  | .ok (.nx env) S => ∀ io om H0 H σ, RelF K cl T io om H0 H env S σ → D.nx σ H
  | .ok (.rt d) S => ∀ io H0 H v, Ev T.io T.H0 T.H io H0 H → StR K cl io H0 H S → Rep K cl io H0 d v → D.rt v H
  | .ok (.bk env) S => ∀ io om H0 H σ, RelF K cl T io om H0 H env S σ → D.bk σ H
  | .ok (.ct env) S => ∀ io om H0 H σ, RelF K cl T io om H0 H env S σ → D.ct σ H
  | .ok (.xc e env) S => ∀ io om H0 H c dd σ, RelF K cl T io om H0 H env S σ → RepX K cl io H0 H e c dd → W c dd σ H
  | .ok (.ro ds) S => ∀ io H0 H v, Ev T.io T.H0 T.H io H0 H → StR K cl io H0 H S → rN K cl T.H io H0 H ds v → D.rt v H
  | .exc _ _ => False
  | .bad => False
def tS (K : PySem.W.Frag) (cl : Nat → Addr) (T : Ent) (W : WX) (g : Sm) : TS := fun D σ H => ∃ io om H0 env S, RelF K cl T io om H0 H env S σ ∧ PostS K cl T W D (g env S)
abbrev SD (X : Cx) (cl : Nat → Addr) (T : Ent) (W : WX) (st : Stmt) (g : Sm) : Prop := PS X st (tS X.K cl T W g)
abbrev SsD (X : Cx) (cl : Nat → Addr) (T : Ent) (W : WX) (st : List Stmt) (g : Sm) : Prop := PSs X st (tS X.K cl T W g)

/-- a statement's expression: what it raises is raised at the slots as they are -/
def R.bs {α : Type} (r : R α) (env : Env) (k : α → Sto → R Fl) : R Fl := match r with
  | .ok a S => k a S
  | .exc e S => .ok (.xc e env) S
  | .bad => .bad
def sNil : Sm := fun env S => .ok (.nx env) S
def sSeq (f g : Sm) : Sm := fun env S => (f env S).bind fun fl S1 => match fl with
  | .nx env1 => g env1 S1
  | fl => .ok fl S1
def sBad : Sm := fun _ _ => .bad
def sExpr (f : Ex) : Sm := fun env S => (f env S).bs env fun _ S1 => .ok (.nx env) S1
def sRet (f : Ex) : Sm := fun env S => (f env S).bs env fun d S1 => .ok (.rt d) S1
def sRetN : Sm := fun _ S => .ok (.rt .non) S
def sBrk : Sm := fun env S => .ok (.bk env) S
def sCnt : Sm := fun env S => .ok (.ct env) S
def setE (i : Nat) (s : Slot) (env : Env) (S : Sto) : R Fl := if i < env.length then .ok (.nx (env.set i s)) S else .bad
def sSet (i : Nat) (f : Ex) : Sm := fun env S => (f env S).bs env fun d S1 => setE i (.val d) env S1
def sOwn (i : Nat) (f : Sem1 (List D)) : Sm := fun env S => (f env S).bs env fun ds S1 => setE i (.own ds) env S1
def sTg (f : Ex) (g : Tg) : Sm := fun env S => (f env S).bs env fun d S1 => match g d env with
  | some env1 => .ok (.nx env1) S1
  | none => .bad
def sIf (c : Sem1 Bool) (f g : Sm) : Sm := fun env S => (c env S).bs env fun b S1 => if b then f env S1 else g env S1
def forL (tg : Tg) (body : Sm) : List D → Env → Sto → R Fl
  | [], env, S => .ok (.nx env) S
  | d :: ds, env, S => match tg d env with
    | none => .bad
    | some env1 => (body env1 S).bind fun fl S1 => match fl with
      | .nx env2 => forL tg body ds env2 S1
      | .ct env2 => forL tg body ds env2 S1
      | .bk env2 => .ok (.nx env2) S1
      | .rt d => .ok (.rt d) S1
      | .xc e env2 => .ok (.xc e env2) S1
      | .ro ds => .ok (.ro ds) S1
def sFor (f : Sem1 (List D)) (tg : Tg) (body : Sm) : Sm := fun env S => (f env S).bs env fun ds S1 => forL tg body ds env S1
def whileL (c : Sem1 Bool) (body : Sm) : Nat → Env → Sto → R Fl
  | 0, _, _ => .bad
  | n + 1, env, S => (c env S).bs env fun b S1 => if b then (body env S1).bind fun fl S2 => (match fl with
      | .nx env2 => whileL c body n env2 S2
      | .ct env2 => whileL c body n env2 S2
      | .bk env2 => .ok (.nx env2) S2
      | .rt d => .ok (.rt d) S2
      | .xc e env2 => .ok (.xc e env2) S2
      | .ro ds => .ok (.ro ds) S2) else .ok (.nx env) S1
def sWhile (n : Nat) (c : Sem1 Bool) (body : Sm) : Sm := fun env S => whileL c body n env S
def frzE (i : Nat) (env : Env) : Env := match env[i]? with
  | some (.own ds) => env.set i (.val (.lst ds))
  | _ => env
def sFrz (i : Nat) (g : Sm) : Sm := fun env S => g (frzE i env) S
/-- a change of an own list -/
def modE (i : Nat) (o : Option (List D)) (env : Env) (S : Sto) : R Fl := match o with
  | some es => .ok (.nx (env.set i (.own es))) S
  | none => .bad
def withO (i : Nat) (f : List D → Env → Sto → R Fl) : Sm := fun env S => match env[i]? with
  | some (.own ds) => f ds env S
  | _ => .bad
def hApp (d : D) (ds : List D) : Option (List D) := if ds.length < sizeLine then some (ds ++ [d]) else none
def hExt (d : D) (ds : List D) : Option (List D) := match d with
  | .lst es => if ds.length + es.length ≤ sizeLine then some (ds ++ es) else none
  | _ => none
def hSet (k v : D) (ds : List D) : Option (List D) := match k with
  | .int k => (ixN ds.length k).map fun j => ds.set j v
  | _ => none
def hIns (d y : D) (ds : List D) : Option (List D) := match d with
  | .int k => if ds.length < sizeLine ∧ 0 ≤ k ∧ k < 2 ^ 63 then some (ds.take k.toNat ++ [y] ++ ds.drop k.toNat) else none
  | _ => none
def sIns (i : Nat) (f g : Ex) : Sm := withO i fun ds env S => (f env S).bs env fun d S1 => (g env S1).bs env fun y S2 => modE i (hIns d y ds) env S2
def sRevO (i : Nat) : Sm := withO i fun ds env S => modE i (some ds.reverse) env S
def sClrO (i : Nat) : Sm := withO i fun ds env S => modE i (some []) env S
def sApp (i : Nat) (f : Ex) : Sm := withO i fun ds env S => (f env S).bs env fun d S1 => modE i (hApp d ds) env S1
def sExt (i : Nat) (f : Ex) : Sm := withO i fun ds env S => (f env S).bs env fun d S1 => modE i (hExt d ds) env S1
def sSetIx (i : Nat) (fi fv : Ex) : Sm := withO i fun ds env S => (fv env S).bs env fun v S1 => (fi env S1).bs env fun k S2 => modE i (hSet k v ds) env S2
/-- a store into a dict of the store -/
def putO (o k v : D) (S : Sto) : Option Sto := match o with
  | .obj n => (match S[n]?, keyD k with
    | some (.dict kvs), some k => if kvs.length < sizeLine then some (S.set n (.dict (putD kvs k v))) else none
    | _, _ => none)
  | _ => none
def sPut (fo fk fv : Ex) : Sm := fun env S => (fv env S).bs env fun v S1 => (fo env S1).bs env fun o S2 => (fk env S2).bs env fun k S3 => match putO o k v S3 with
  | some S4 => .ok (.nx env) S4
  | none => .bad

section
variable {X : Cx} {cl : Nat → Addr} {W : WX} {T : Ent} {e a b c tg : Expr} {st : Stmt} {sts : List Stmt} {pos : Pos} {K : PySem.W.Frag} {io io' : List Addr} {om : Own} {H0 H H0' H' : Hp} {env : Env} {S S' : Sto} {σ : L2.St} {D : Ends} {p1 p2 : Bool} {fa fb fc : Ex} {g h : Sm}
theorem RelF.step (R0 : RelF K cl T io om H0 H env S σ) (x : Ev io H0 H io' H0' H') (st : StR K cl io' H0' H' S') : RelF K cl T io' om H0' H' env S' σ := ⟨R0.rel.ev x st, R0.ev.trans x, R0.fresh⟩
theorem PostS.bindE {α β : Type} {rp : List Addr → Hp → Hp → α → β → Prop} {r : R α} {k : α → Sto → R Fl} (R0 : RelF K cl T io om H0 H env S σ) (h : PostS K cl T W D (r.bs env k)) :
    Post K cl rp W io H0 H σ (fun v H1 => ∃ io1 H01 S1 d, Ev io H0 H io1 H01 H1 ∧ RelF K cl T io1 om H01 H1 env S1 σ ∧ rp io1 H01 H1 d v ∧ PostS K cl T W D (k d S1) ∧ r = .ok d S1) r := by
  cases r with
  | ok d S1 => exact fun io1 H01 H1 v x st q => ⟨io1, H01, S1, d, x, R0.step x st, q, h, rfl⟩
  | exc e S1 => exact fun io1 H01 H1 c dd x st q => h io1 om H01 H1 c dd σ (R0.step x st) q
  | bad => exact h
theorem PostS.bind {α β : Type} {rp : List Addr → Hp → Hp → α → β → Prop} {r : R α} {k : α → Sto → R Fl} (R0 : RelF K cl T io om H0 H env S σ) (h : PostS K cl T W D (r.bs env k)) :
    Post K cl rp W io H0 H σ (fun v H1 => ∃ io1 H01 S1 d, Ev io H0 H io1 H01 H1 ∧ RelF K cl T io1 om H01 H1 env S1 σ ∧ rp io1 H01 H1 d v ∧ PostS K cl T W D (k d S1)) r :=
  (PostS.bindE R0 h).mono fun _ _ ⟨a, b, c, d, e, f, g, h, _⟩ => ⟨a, b, c, d, e, f, g, h⟩
theorem ss_nil : SsD X cl T W [] sNil := weakSs pss_nil fun D σ H ⟨io, om, H0, env, S, R0, h⟩ => h io om H0 H σ R0
/-- the first statement's end leads to the rest -/
theorem PostS.seq {r : R Fl} {k : Env → Sto → R Fl} (h : PostS K cl T W D (r.bind fun fl S1 => match fl with | .nx env1 => k env1 S1 | fl => .ok fl S1)) :
    PostS K cl T W { D with nx := tS K cl T W k D } r := by
  cases r with
  | ok fl S1 =>
    cases fl with
    | nx env1 => exact fun io om H0 H σ R1 => ⟨io, om, H0, env1, S1, R1, h⟩
    | rt d => exact h
    | bk e => exact h
    | ct e => exact h
    | xc e e1 => exact h
    | ro d => exact h
  | exc e S1 => exact h
  | bad => exact h
theorem ss_cons (h1 : SD X cl T W st g) (h2 : SsD X cl T W sts h) : SsD X cl T W (st :: sts) (sSeq g h) :=
  weakSs (pss_cons h1 h2) fun D σ H ⟨io, om, H0, env, S, R0, hp⟩ => ⟨io, om, H0, env, S, R0, PostS.seq hp⟩
theorem ss_one (h1 : SD X cl T W st g) : SsD X cl T W [st] g := pss_one h1
theorem s_never : SD X cl T W st sBad := weakS ps_never fun D σ H ⟨io, om, H0, env, S, R0, h⟩ => h
theorem s_pass : SD X cl T W (.Pass pos) sNil := weakS ps_pass fun D σ H ⟨io, om, H0, env, S, R0, h⟩ => h io om H0 H σ R0
theorem s_break : SD X cl T W (.Break pos) sBrk := weakS ps_break fun D σ H ⟨io, om, H0, env, S, R0, h⟩ => h io om H0 H σ R0
theorem s_continue : SD X cl T W (.Continue pos) sCnt := weakS ps_continue fun D σ H ⟨io, om, H0, env, S, R0, h⟩ => h io om H0 H σ R0
theorem s_expr (ha : ED X cl W p1 a fa) (hs : swapsWith a none pos.line X.env = Pure.pure false := by rfl) : SD X cl T W (.Expr a pos) (sExpr fa) :=
  weakS (ps_expr ha hs) fun D σ H ⟨io, om, H0, env, S, R0, h⟩ => ⟨io, om, H0, env, S, R0.rel, (PostS.bind R0 h).mono fun v H1 ⟨io1, H01, S1, d, x, R1, q, h1⟩ => h1 io1 om H01 H1 σ R1⟩
theorem s_ret (ha : ED X cl W true a fa) : SD X cl T W (.Return (some a) pos) (sRet fa) :=
  weakS (ps_ret ha) fun D σ H ⟨io, om, H0, env, S, R0, h⟩ => ⟨io, om, H0, env, S, R0.rel, (PostS.bind R0 h).mono fun v H1 ⟨io1, H01, S1, d, x, R1, q, h1⟩ => h1 io1 H01 H1 v R1.ev R1.rel.st q.perm⟩
/-- return x, x's list given away -/
def sRetO (i : Nat) : Sm := fun env S => match env[i]? with
  | some (.own ds) => .ok (.ro ds) S
  | _ => .bad
/-- return of a new list -/
def sRetL (f : Sem1 (List G.D)) : Sm := fun env S => (f env S).bs env fun ds S1 => .ok (.ro ds) S1
theorem s_retO (i : Nat) {x : Str} {p : Pos} (hN : X.N[i]? = some x := by rfl) (hv : Vis X.env.scope x := by first | exact Or.inl rfl | exact Or.inr (Or.inl rfl) | exact Or.inr (Or.inr rfl)) (hd : (x == ("__debug__" : Str)) = false := by decide)
    (hcd : (x == ("__classdict__" : Str)) = false := by decide) : SD X cl T W (.Return (some (.Name x p)) pos) (sRetO i) := by
  refine weakS (ps_ret (pe_var hN hv hd hcd)) fun D σ H ⟨io, om, H0, env, S, R0, h⟩ => ?_
  unfold sRetO at h
  split at h
  · rename_i ds he
    have hi : i < σ.length := by rw [← R0.rel.en.len]; exact (List.getElem?_eq_some_iff.mp he).1
    have ho : i < om.length := by rw [R0.rel.en.lenO]; exact hi
    obtain ⟨a, vs, ea, hv, hH, h0, no, r⟩ := R0.rel.en.slot i _ σ[i] om[i] he (by simp) (by simp)
    refine ⟨.ref a, by rw [List.getElem?_eq_getElem hi, hv], ?_⟩
    exact h io H0 H (.ref a) R0.ev R0.rel.st ⟨a, vs, rfl, hH, h0, no, R0.fresh i a (by rw [List.getElem?_eq_getElem ho, ea]), r⟩
  · exact h.elim
theorem s_retL {f : Sem1 (List G.D)} (ha : ND X cl W a f) : SD X cl T W (.Return (some a) pos) (sRetL f) := by
  refine weakS (ps_ret ha) fun D σ H ⟨io, om, H0, env, S, R0, h⟩ => ?_
  refine ⟨io, om, H0, env, S, R0.rel, (PostS.bind R0 h).mono fun v H1 ⟨io1, H01, S1, ds, x, R1, q, h1⟩ => ?_⟩
  obtain ⟨b, vs, rfl, q1, q2, q3, q4, q5⟩ := q
  refine h1 io1 H01 H1 _ R1.ev R1.rel.st ⟨b, vs, rfl, q1, q2, q3, ?_, q5⟩
  cases hz : T.H b with
  | none => rfl
  | some o => exact absurd q4 (R0.ev.dom b (by simp [hz]))
theorem s_retN : SD X cl T W (.Return none pos) sRetN := weakS ps_retN fun D σ H ⟨io, om, H0, env, S, R0, h⟩ => h io H0 H .non R0.ev R0.rel.st rfl
theorem RelF.set (R0 : RelF K cl T io om H0 H env S σ) {i : Nat} {d : G.D} {v : V} (hi : i < env.length) (r : Rep K cl io H0 d v) : RelF K cl T io (om.set i none) H0 H (env.set i (.val d)) S (σ.set i (some v)) :=
  ⟨R0.rel.set hi r, R0.ev, fun j a e => R0.fresh j a (om_set j a e)⟩
/-- an own list comes to a slot -/
theorem RelF.setOwn (R0 : RelF K cl T io om H0 H env S σ) {i : Nat} {ds : List G.D} {a : Addr} {vs : List V} (hi : i < env.length) (ha : H a = some (.lst vs)) (h0 : H0 a = none) (hio : a ∉ io) (hn : T.H a = none) (hom : ∀ j : Nat, om[j]? ≠ some (some a)) (r : RepL K cl io H0 ds vs) :
    RelF K cl T io (om.set i (some a)) H0 H (env.set i (.own ds)) S (σ.set i (some (.ref a))) := by
  have hiσ : i < σ.length := by rw [← R0.rel.en.len]; exact hi
  have hio' : i < om.length := by rw [R0.rel.en.lenO]; exact hiσ
  refine ⟨⟨R0.rel.st, ⟨by simp [R0.rel.en.len], by simp [R0.rel.en.lenO], fun j s sv ow e1 e2 e3 => ?_, fun j k b e1 e2 => ?_⟩⟩, R0.ev, fun j b e => ?_⟩
  · by_cases hj : i = j
    · subst hj
      rw [List.getElem?_set_self hi] at e1
      rw [List.getElem?_set_self hiσ] at e2
      rw [List.getElem?_set_self hio'] at e3
      cases e1; cases e2; cases e3
      exact ⟨a, vs, rfl, rfl, ha, h0, hio, r⟩
    · rw [List.getElem?_set_ne hj] at e1 e2 e3
      exact R0.rel.en.slot j s sv ow e1 e2 e3
  · by_cases hj : i = j
    · by_cases hk : i = k
      · exact hj.symm.trans hk
      · subst hj
        rw [List.getElem?_set_self hio'] at e1
        cases e1
        rw [List.getElem?_set_ne hk] at e2
        exact absurd e2 (hom k)
    · rw [List.getElem?_set_ne hj] at e1
      by_cases hk : i = k
      · subst hk
        rw [List.getElem?_set_self hio'] at e2
        cases e2
        exact absurd e1 (hom j)
      · rw [List.getElem?_set_ne hk] at e2
        exact R0.rel.en.inj j k b e1 e2
  · by_cases hj : i = j
    · subst hj
      rw [List.getElem?_set_self hio'] at e
      cases e
      exact hn
    · rw [List.getElem?_set_ne hj] at e
      exact R0.fresh j b e
theorem setE_post {i : Nat} {s : Slot} (h : PostS K cl T W D (setE i s env S)) : i < env.length ∧ PostS K cl T W D (.ok (.nx (env.set i s)) S) := by
  unfold setE at h
  split at h
  · exact ⟨by assumption, h⟩
  · exact h.elim
theorem asg_set {i : Nat} {σ : L2.St} {H : Hp} (h : tS K cl T W (sSet i fa) D σ H) : tAsg (tG K cl (rD K cl true) W fa) (gName i) D σ H := by
  obtain ⟨io, om, H0, env, S, R0, h⟩ := h
  refine ⟨io, om, H0, env, S, R0.rel, (PostS.bind R0 h).mono fun v H1 ⟨io1, H01, S1, d, x, R1, q, h1⟩ => ?_⟩
  obtain ⟨hi, h1⟩ := setE_post h1
  exact h1 _ _ _ _ _ (R1.set hi q.perm)
theorem asg_own {i : Nat} {f : Sem1 (List G.D)} {σ : L2.St} {H : Hp} (h : tS K cl T W (sOwn i f) D σ H) : tAsg (tN K cl W f) (gName i) D σ H := by
  obtain ⟨io, om, H0, env, S, R0, h⟩ := h
  refine ⟨io, om, H0, env, S, R0.rel, (PostS.bind R0 h).mono fun v H1 ⟨io1, H01, S1, d, x, R1, ⟨a, vs, ev, q1, q2, q3, q4, r⟩, h1⟩ => ?_⟩
  obtain ⟨hi, h1⟩ := setE_post h1
  subst ev
  refine h1 _ _ _ _ _ (R1.setOwn hi q1 q2 q3 ?_ (fun j e => ?_) r)
  · cases q : T.H a with
    | none => rfl
    | some o => exact absurd q4 (R0.ev.dom a (by simp [q]))
  · -- an own slot's list stood ahead
    have hj : j < om.length := (List.getElem?_eq_some_iff.mp e).1
    have hjσ : j < σ.length := by rw [← R0.rel.en.lenO]; exact hj
    have hje : j < env.length := by rw [R0.rel.en.len]; exact hjσ
    have sl := R0.rel.en.slot j _ _ _ (List.getElem?_eq_getElem hje) (List.getElem?_eq_getElem hjσ) e
    cases hs : env[j] with
    | un => rw [hs] at sl; cases sl
    | val d => rw [hs] at sl; cases sl.1
    | own ds =>
      rw [hs] at sl
      obtain ⟨b, ws, eb, _, hb, _⟩ := sl
      cases eb
      rw [q4] at hb; cases hb
theorem s_set (i : Nat) {x : Str} {pos' : Pos} (hN : X.N.Nodup) (ha : ED X cl W true a fa) (hi : X.N[i]? = some x := by rfl) (hx : Loc X.env.scope x := by first | exact Or.inl rfl | exact Or.inr rfl) (hs : swapsWith a (some (.Name x pos')) pos.line X.env = Pure.pure false := by rfl)
    (hf : X.fn x = true ∨ X.env.scope.names.lookup x = some .local := by first | exact .inl rfl | exact .inr rfl) : SD X cl T W (.Assign [.Name x pos'] a pos) (sSet i fa) :=
  weakS (ps_set hN hi hx ha hs hf) fun _ _ _ h => asg_set h
theorem s_own (i : Nat) {x : Str} {pos' : Pos} {f : Sem1 (List G.D)} (hN : X.N.Nodup) (ha : ND X cl W a f) (hi : X.N[i]? = some x := by rfl) (hx : Loc X.env.scope x := by first | exact Or.inl rfl | exact Or.inr rfl) (hs : swapsWith a (some (.Name x pos')) pos.line X.env = Pure.pure false := by rfl)
    (hf : X.fn x = true ∨ X.env.scope.names.lookup x = some .local := by first | exact .inl rfl | exact .inr rfl) : SD X cl T W (.Assign [.Name x pos'] a pos) (sOwn i f) :=
  weakS (ps_set hN hi hx ha hs hf) fun _ _ _ h => asg_own h
/-- the same of a comprehension on one line -/
theorem frz_of {f : Sem1 (List G.D)} {σ : L2.St} {H : Hp} {Q : VK} (h : tG K cl (rD K cl true) W (eFrz f) σ H Q) : tN K cl W f σ H Q := by
  obtain ⟨io, om, H0, env, S, R0, h⟩ := h
  refine ⟨io, om, H0, env, S, R0, ?_⟩
  have h : Post K cl (rD K cl true) W io H0 H σ Q ((f env S).bind fun ds S1 => .ok (.lst ds) S1) := h
  cases q : f env S with
  | ok ds S' =>
    rw [q] at h
    rintro io' H0' H' v x st ⟨a, vs, ev, e1, e2, e3, e4, r⟩
    obtain ⟨st2, x2⟩ := StR.freezeN x st e1 e2 e3 e4
    exact h io' _ H' v x2 st2 (.inl ⟨a, vs, ev, upd_same, RepL.mono (.refl _) (same_upd e2) _ _ r⟩)
  | exc e' S' => rw [q] at h; exact h
  | bad => rw [q] at h; exact h
section
variable {elt iter : Expr} {ifs : List Expr} {scope : Scope} {own : List (Str × Nat)} {f : Sem1 (List G.D)} {ix : List Nat} {gt : Tg} {fc : Sem1 Bool} {fe : Ex} {y : Str} {py spos : Pos}
theorem s_ownLc (i : Nat) (hN : X.N.Nodup) (hi : ID X cl W tg iter f) (hk : blkC X.N X.env.scope scope own = true)
    (hg : ∀ (s : Shared) (H : Hp) (C : Addr) (cz : List (Str × Addr)) (fp : List Addr), GD (X.blk s H scope (compEnvC scope cz C X.env) fp) cl tg ix gt)
    (ht : ∀ (s : Shared) (H : Hp) (C : Addr) (cz : List (Str × Addr)) (fp : List Addr), PtD (X.blk s H scope (compEnvC scope cz C X.env) fp) cl ifs fc)
    (he : ∀ (s : Shared) (H : Hp) (C : Addr) (cz : List (Str × Addr)) (fp : List Addr), ED (X.blk s H scope (compEnvC scope cz C X.env) fp) cl WF true elt fe)
    (hy : X.N[i]? = some y := by rfl) (hyl : X.env.scope.names.lookup y = some .local := by rfl) (hsw : swapsWith (.ListComp elt [⟨tg, iter, ifs, 0⟩] scope pos) (some (.Name y py)) spos.line X.env = Pure.pure true := by exact sw_true rfl rfl rfl (by decide +kernel))
    (hix : ∀ i ∈ ix, i ∈ own.map (·.2) := by decide) (hc : X.calm = true := by rfl) (hs : ∀ x, foldedSetIterable iter X.env x = Pure.pure x := by intro _; rfl) :
    SD X cl T W (.Assign [.Name y py] (.ListComp elt [⟨tg, iter, ifs, 0⟩] scope pos) spos) (sOwn i (nLc f gt fc fe (own.map (·.2)))) :=
  weakS (ps_setLc (g := gG X.K cl ix gt) (tt := tG X.K cl rB WF fc) (te := tG X.K cl (rD X.K cl true) WF fe) hc hN hy hyl hsw hi (blkOk_by hk) hg ht he hs) fun D σ H h => lc_of hix (asg_own h)
theorem s_setLc (i : Nat) (hN : X.N.Nodup) (hi : ID X cl W tg iter f) (hk : blkC X.N X.env.scope scope own = true)
    (hg : ∀ (s : Shared) (H : Hp) (C : Addr) (cz : List (Str × Addr)) (fp : List Addr), GD (X.blk s H scope (compEnvC scope cz C X.env) fp) cl tg ix gt)
    (ht : ∀ (s : Shared) (H : Hp) (C : Addr) (cz : List (Str × Addr)) (fp : List Addr), PtD (X.blk s H scope (compEnvC scope cz C X.env) fp) cl ifs fc)
    (he : ∀ (s : Shared) (H : Hp) (C : Addr) (cz : List (Str × Addr)) (fp : List Addr), ED (X.blk s H scope (compEnvC scope cz C X.env) fp) cl WF true elt fe)
    (hy : X.N[i]? = some y := by rfl) (hyl : X.env.scope.names.lookup y = some .local := by rfl) (hsw : swapsWith (.ListComp elt [⟨tg, iter, ifs, 0⟩] scope pos) (some (.Name y py)) spos.line X.env = Pure.pure true := by exact sw_true rfl rfl rfl (by decide +kernel))
    (hix : ∀ i ∈ ix, i ∈ own.map (·.2) := by decide) (hc : X.calm = true := by rfl) (hs : ∀ x, foldedSetIterable iter X.env x = Pure.pure x := by intro _; rfl) :
    SD X cl T W (.Assign [.Name y py] (.ListComp elt [⟨tg, iter, ifs, 0⟩] scope pos) spos) (sSet i (eFrz (nLc f gt fc fe (own.map (·.2))))) :=
  weakS (ps_setLc (g := gG X.K cl ix gt) (tt := tG X.K cl rB WF fc) (te := tG X.K cl (rD X.K cl true) WF fe) hc hN hy hyl hsw hi (blkOk_by hk) hg ht he hs) fun D σ H h => lc_of hix (frz_of (asg_set h))
end
theorem s_tg {ix : List Nat} {gt : Tg} (ha : ED X cl W true a fa) (hg : GD X cl tg ix gt) (hs : swapsWithSole [tg] a pos.line X.env = Pure.pure false := by rfl) (hw : swappedStores [tg] a X.env = Pure.pure none := by rfl)
    (h1 : (assignEach [tg] X.env).map (·.2) = [assign tg X.env] := by rfl) : SD X cl T W (.Assign [tg] a pos) (sTg fa gt) := by
  refine weakS (ps_asg ha hg hs hw h1) fun D σ H ⟨io, om, H0, env, S, R0, h⟩ => ?_
  refine ⟨io, om, H0, env, S, R0.rel, (PostS.bind R0 h).mono fun v H1 ⟨io1, H01, S1, d, x, R1, q, h1⟩ => ?_⟩
  cases ht : gt d env with
  | none => simp only [ht] at h1; exact h1.elim
  | some env1 =>
    simp only [ht] at h1
    exact ⟨d, io1, om, H01, env, S1, env1, R1.rel, q.perm, ht, fun om2 σ2 w1 w2 R2 => h1 _ _ _ _ _ ⟨R2, R1.ev, fun i b e => R1.fresh i b (w1 i b e)⟩⟩
theorem s_if {tc : Sem1 Bool} {sa sb : List Stmt} (hc : TD X cl W c tc) (ha : SsD X cl T W sa g) (hb : SsD X cl T W sb h) : SD X cl T W (.If c sa sb pos) (sIf tc g h) := by
  refine weakS (ps_if hc ha hb) fun D σ H ⟨io, om, H0, env, S, R0, h⟩ => ?_
  refine ⟨io, om, H0, env, S, R0.rel, (PostS.bind R0 h).mono fun v H1 ⟨io1, H01, S1, d, x, R1, q, h1⟩ => ?_⟩
  cases q
  cases v with
  | true => exact iteT ⟨io1, om, H01, env, S1, R1, h1⟩
  | false => exact iteF ⟨io1, om, H01, env, S1, R1, h1⟩
/-- the entry moved on: what never changes is what it is here -/
abbrev Ent.on (T : Ent) (io : List Addr) (H0 : Hp) : Ent := ⟨io, H0, T.H⟩
theorem RelF.on (R1 : RelF K cl T io om H0 H env S σ) : RelF K cl (T.on io H0) io om H0 H env S σ :=
  ⟨R1.rel, ⟨.refl _, fun a m => .inl m, .refl _, fun a o e => .inl e, fun a o e n => R1.ev.keep a o e fun m => n (R1.ev.pre.mem m), R1.ev.dom⟩, R1.fresh⟩
theorem RelF.off {io1 : List Addr} {H01 H1 : Hp} (x : Ev T.io T.H0 T.H io1 H01 H1) (R : RelF K cl (T.on io1 H01) io om H0 H env S σ) : RelF K cl T io om H0 H env S σ := by
  refine ⟨R.rel, ⟨x.pre.trans R.ev.pre, fun a m => ?_, x.h0.trans R.ev.h0, fun a o e => ?_, fun a o e n => R.ev.keep a o e fun m => ?_, R.ev.dom⟩, R.fresh⟩
  · rcases R.ev.new a m with z | z
    · exact x.new a z
    · exact .inr z
  · rcases R.ev.h0n a o e with z | z
    · exact x.h0n a o z
    · exact .inr z
  · rcases x.new a m with z | z
    · exact n z
    · rw [e] at z; cases z
theorem ev_off {io1 : List Addr} {H01 H1 : Hp} (x : Ev T.io T.H0 T.H io1 H01 H1) (y : Ev io1 H01 T.H io H0 H) : Ev T.io T.H0 T.H io H0 H := by
  refine ⟨x.pre.trans y.pre, fun a m => ?_, x.h0.trans y.h0, fun a o e => ?_, fun a o e n => y.keep a o e fun m => ?_, y.dom⟩
  · rcases y.new a m with z | z
    · exact x.new a z
    · exact .inr z
  · rcases y.h0n a o e with z | z
    · exact x.h0n a o z
    · exact .inr z
  · rcases x.new a m with z | z
    · exact n z
    · rw [e] at z; cases z
theorem PostS.on {io1 : List Addr} {H01 H1 : Hp} (x : Ev T.io T.H0 T.H io1 H01 H1) : ∀ {r : R Fl}, PostS K cl T W D r → PostS K cl (T.on io1 H01) W D r
  | .ok (.nx _) _, h => fun io om H0 H σ R => h io om H0 H σ (R.off x)
  | .ok (.bk _) _, h => fun io om H0 H σ R => h io om H0 H σ (R.off x)
  | .ok (.ct _) _, h => fun io om H0 H σ R => h io om H0 H σ (R.off x)
  | .ok (.rt _) _, h => fun io H0 H v y st r => h io H0 H v (ev_off x y) st r
  | .ok (.xc _ _) _, h => fun io om H0 H c dd σ R q => h io om H0 H c dd σ (R.off x) q
  | .ok (.ro _) _, h => fun io H0 H v y st r => h io H0 H v (ev_off x y) st r
  | .exc _ _, h => h
  | .bad, h => h
/-- where a turn's end leads -/
theorem PostS.turn {r : R Fl} {k : Env → Sto → R Fl} {N : L2.St → Hp → Prop} (hN : ∀ env1 S1, PostS K cl T W D (k env1 S1) → ∀ io om H0 H σ, RelF K cl T io om H0 H env1 S1 σ → N σ H)
    (h : PostS K cl T W D (r.bind fun fl S1 => match fl with | .nx env2 => k env2 S1 | .ct env2 => k env2 S1 | .bk env2 => .ok (.nx env2) S1 | .rt d => .ok (.rt d) S1 | .xc e env2 => .ok (.xc e env2) S1 | .ro ds => .ok (.ro ds) S1)) :
    PostS K cl T W { D with nx := N, ct := N, bk := D.nx } r := by
  cases r with
  | ok fl S1 =>
    cases fl with
    | nx env1 => exact hN env1 S1 h
    | ct env1 => exact hN env1 S1 h
    | bk env1 => exact h
    | rt d => exact h
    | xc e e1 => exact h
    | ro d => exact h
  | exc e S1 => exact h
  | bad => exact h
theorem s_for {iter : Expr} {body : List Stmt} {f : Sem1 (List G.D)} {ix : List Nat} {gt : Tg} (hp : PassesOwn (model X.prog X.w) X.A X.env X.xe) (hi : ID X cl W tg iter f) (hg : GD X cl tg ix gt) (hb : ∀ T, SsD X cl T W body g)
    (hc : X.calm = true := by rfl) (hs : ∀ x, foldedSetIterable iter X.env x = Pure.pure x := by intro _; rfl) : SD X cl T W (.For tg iter body [] pos) (sFor f gt g) := by
  -- the body runs with an entry of its own: any
  have hb' : PSs X body (fun D σ H => ∃ T, tS X.K cl T W g D σ H) := ⟨fun pins s σ H D I ⟨T, w⟩ => (hb T).run pins s σ H D I w⟩
  refine weakS (ps_for hp hc hi hg hb' hs) fun D σ H ⟨io, om, H0, env, S, R0, h⟩ => ?_
  refine ⟨io, om, H0, env, S, R0.rel, (PostS.bind R0 h).mono fun J H1 ⟨io1, H01, S1, ds, x, R1, wk, h1⟩ => ?_⟩
  have h1 := h1.on R1.ev
  refine ⟨fun i m σ H => m = ds.length - i ∧ i ≤ ds.length ∧ ∃ io2 om2 H02 env2 S2, RelF X.K cl (T.on io1 H01) io2 om2 H02 H env2 S2 σ ∧ PostS X.K cl (T.on io1 H01) W D (forL gt g (ds.drop i) env2 S2), ⟨ds.length, by simp, Nat.zero_le _, io1, om, H01, env, S1, R1.on, by rw [List.drop_zero]; exact h1⟩, ?_⟩
  rintro i m σ2 H2 ⟨rfl, hi, io2, om2, H02, env2, S2, R2, h2⟩
  obtain ⟨wi, ws⟩ := wk io2 H02 H2 S2 R2.ev.pre R2.ev.h0 R2.rel.st
  by_cases hlt : i < ds.length
  · have hd : ds[i]? = some ds[i] := List.getElem?_eq_getElem hlt
    have hdr : ds.drop i = ds[i] :: ds.drop (i + 1) := List.drop_eq_getElem_cons hlt
    obtain ⟨go, yl⟩ := wi i _ hd
    rw [hdr] at h2
    unfold forL at h2
    refine .inr ⟨go, fun σ' H' => ∃ io2 om2 H02 env2 S2, RelF X.K cl (T.on io1 H01) io2 om2 H02 H' env2 S2 σ' ∧ PostS X.K cl (T.on io1 H01) W D (forL gt g (ds.drop (i + 1)) env2 S2), fun σ' H' l => ⟨ds.length - (i + 1), by omega, rfl, hlt, l⟩, fun v H3 y => ?_⟩
    obtain ⟨H03, st3, ev3, rd⟩ := yl v H3 y
    have R3 := R2.step ev3 st3
    cases ht : gt ds[i] env2 with
    | none => simp only [ht] at h2; exact h2.elim
    | some env3 =>
      simp only [ht] at h2
      refine ⟨_, io2, om2, H03, env2, S2, env3, R3.rel, rd, ht, fun om4 σ4 w1 w2 R4 => ?_⟩
      exact ⟨T.on io1 H01, io2, om4, H03, env3, S2, ⟨R4, R3.ev, fun i b e => R3.fresh i b (w1 i b e)⟩, PostS.turn (fun env5 S5 h5 io5 om5 H05 H5 σ5 R5 => ⟨io5, om5, H05, env5, S5, R5, h5⟩) h2⟩
  · have e : i = ds.length := by omega
    subst e
    rw [List.drop_length] at h2
    exact .inl ⟨ws, h2 _ _ _ _ _ R2⟩
theorem s_while (n : Nat) {body : List Stmt} {tc : Sem1 Bool} (hp : PassesOwn (model X.prog X.w) X.A X.env X.xe) (hc : TD X cl W c tc) (hb : SsD X cl T W body g) : SD X cl T W (.While c body [] pos) (sWhile n tc g) := by
  refine weakS (ps_while hp hc hb) fun D σ H ⟨io, om, H0, env, S, R0, h⟩ => ?_
  refine ⟨fun m σ H => ∃ io om H0 env S, RelF X.K cl T io om H0 H env S σ ∧ PostS X.K cl T W D (whileL tc g m env S), ⟨n, io, om, H0, env, S, R0, h⟩, ?_⟩
  rintro m σ H ⟨io, om, H0, env, S, R0, h⟩
  cases m with
  | zero => exact h.elim
  | succ m =>
    refine ⟨io, om, H0, env, S, R0.rel, (PostS.bind R0 h).mono fun v H1 ⟨io1, H01, S1, d, x, R1, q, h1⟩ => ?_⟩
    cases q
    cases v with
    | true =>
      refine iteT ⟨fun σ' H' => ∃ io om H0 env S, RelF X.K cl T io om H0 H' env S σ' ∧ PostS X.K cl T W D (whileL tc g m env S), fun σ' H' w => ⟨m, Nat.lt_succ_self m, w⟩, ?_⟩
      exact ⟨io1, om, H01, env, S1, R1, PostS.turn (fun env5 S5 h5 io5 om5 H05 H5 σ5 R5 => ⟨io5, om5, H05, env5, S5, R5, h5⟩) h1⟩
    | false => exact iteF (h1 _ _ _ _ _ R1)
/-- an own list is a value from here on -/
theorem RelF.frz (R0 : RelF K cl T io om H0 H env S σ) (i : Nat) : ∃ om' H0', RelF K cl T io om' H0' H (frzE i env) S σ := by
  unfold frzE
  split
  · rename_i ds he
    have hi : i < env.length := (List.getElem?_eq_some_iff.mp he).1
    have hiσ : i < σ.length := by rw [← R0.rel.en.len]; exact hi
    have hio' : i < om.length := by rw [R0.rel.en.lenO]; exact hiσ
    obtain ⟨a, vs, ea, ev, hH, h0, no, r⟩ := R0.rel.en.slot i _ _ _ he (List.getElem?_eq_getElem hiσ) (List.getElem?_eq_getElem hio')
    have st := R0.rel.st.freeze hH h0 no
    have hf : T.H a = none := R0.fresh i a (by rw [List.getElem?_eq_getElem hio', ea])
    refine ⟨om.set i none, upd H0 a (.lst vs), ⟨st, ⟨by simp [R0.rel.en.len], by simp [R0.rel.en.lenO], fun j s sv ow e1 e2 e3 => ?_, fun j k b e1 e2 => R0.rel.en.inj j k b (om_set j b e1) (om_set k b e2)⟩⟩, ⟨R0.ev.pre, R0.ev.new, R0.ev.h0.trans (same_upd h0), fun b u e => ?_, R0.ev.keep, R0.ev.dom⟩, fun j b e => R0.fresh j b (om_set j b e)⟩
    · by_cases hj : i = j
      · subst hj
        rw [List.getElem?_set_self hi] at e1
        rw [List.getElem?_set_self hio'] at e3
        cases e1; cases e3
        rw [List.getElem?_eq_getElem hiσ, ev] at e2
        cases e2
        exact ⟨rfl, .ref a, rfl, a, vs, rfl, upd_same, RepL.mono (.refl _) (same_upd h0) _ _ r⟩
      · rw [List.getElem?_set_ne hj] at e1 e3
        have sl := R0.rel.en.slot j s sv ow e1 e2 e3
        cases s with
        | un => exact sl
        | val d =>
          obtain ⟨z1, v, z2, z3⟩ := sl
          exact ⟨z1, v, z2, Rep.mono (.refl _) (same_upd h0) _ _ z3⟩
        | own es =>
          obtain ⟨b, ws, z1, z2, z3, z4, z5, z6⟩ := sl
          refine ⟨b, ws, z1, z2, z3, ?_, z5, RepL.mono (.refl _) (same_upd h0) _ _ z6⟩
          rw [upd_ne]
          · exact z4
          · rintro rfl
            exact hj (R0.rel.en.inj i j b (by rw [List.getElem?_eq_getElem hio', ea]) (by rw [e3, z1]))
    · by_cases hb : b = a
      · subst hb; exact .inr hf
      · rw [upd_ne hb] at e; exact R0.ev.h0n b u e
  · exact ⟨om, H0, R0⟩
theorem ss_frz (i : Nat) (h : SsD X cl T W sts g) : SsD X cl T W sts (sFrz i g) := weakSs h fun D σ H ⟨io, om, H0, env, S, R0, h⟩ => by
  obtain ⟨om', H0', R1⟩ := R0.frz i
  exact ⟨io, om', H0', _, S, R1, h⟩
theorem s_frz (i : Nat) (h : SD X cl T W st g) : SD X cl T W st (sFrz i g) := weakS h fun D σ H ⟨io, om, H0, env, S, R0, h⟩ => by
  obtain ⟨om', H0', R1⟩ := R0.frz i
  exact ⟨io, om', H0', _, S, R1, h⟩
/-- an own list is changed -/
theorem modE_post {i : Nat} {ds : List G.D} {o : Option (List G.D)} (he : env[i]? = some (.own ds)) (R0 : RelF K cl T io om H0 H env S σ) (q : PostS K cl T W D (modE i o env S)) : ∃ a vs es, σ[i]? = some (some (.ref a)) ∧ H a = some (.lst vs) ∧ a ∉ io ∧ H0 a = none ∧ RepL K cl io H0 ds vs ∧ o = some es ∧
    ∀ ws, RepL K cl io H0 es ws → D.nx σ (upd H a (.lst ws)) := by
  unfold modE at q
  split at q
  · rename_i es
    have hi : i < env.length := (List.getElem?_eq_some_iff.mp he).1
    have hiσ : i < σ.length := by rw [← R0.rel.en.len]; exact hi
    have hio' : i < om.length := by rw [R0.rel.en.lenO]; exact hiσ
    obtain ⟨a, vs, ea, ev, hH, h0, no, r⟩ := R0.rel.en.slot i _ _ _ he (List.getElem?_eq_getElem hiσ) (List.getElem?_eq_getElem hio')
    have hf : T.H a = none := R0.fresh i a (by rw [List.getElem?_eq_getElem hio', ea])
    refine ⟨a, vs, es, by rw [List.getElem?_eq_getElem hiσ, ev], hH, no, h0, r, rfl, fun ws rw' => q io om H0 _ σ ?_⟩
    refine ⟨⟨R0.rel.st.upd _ h0 no, ⟨by simp [R0.rel.en.len], R0.rel.en.lenO, fun j s sv ow e1 e2 e3 => ?_, R0.rel.en.inj⟩⟩, R0.ev.upd _ hf, R0.fresh⟩
    by_cases hj : i = j
    · subst hj
      rw [List.getElem?_set_self hi] at e1
      rw [List.getElem?_eq_getElem hiσ, ev] at e2
      rw [List.getElem?_eq_getElem hio', ea] at e3
      cases e1; cases e2; cases e3
      exact ⟨a, ws, rfl, rfl, upd_same, h0, no, rw'⟩
    · rw [List.getElem?_set_ne hj] at e1
      have sl := R0.rel.en.slot j s sv ow e1 e2 e3
      cases s with
      | un => exact sl
      | val d => exact sl
      | own es =>
        obtain ⟨b, ws, z1, z2, z3, z4, z5, z6⟩ := sl
        refine ⟨b, ws, z1, z2, ?_, z4, z5, z6⟩
        rw [upd_ne]
        · exact z3
        · rintro rfl
          exact hj (R0.rel.en.inj i j b (by rw [List.getElem?_eq_getElem hio', ea]) (by rw [e3, z1]))
  · exact q.elim
/-- the slot of an own list -/
theorem own_slot {i : Nat} {ds : List G.D} (he : env[i]? = some (.own ds)) (R0 : RelF K cl T io om H0 H env S σ) : ∃ a vs, σ[i]? = some (some (.ref a)) ∧ H a = some (.lst vs) ∧ a ∉ io := by
  have hi : i < env.length := (List.getElem?_eq_some_iff.mp he).1
  have hiσ : i < σ.length := by rw [← R0.rel.en.len]; exact hi
  have hio' : i < om.length := by rw [R0.rel.en.lenO]; exact hiσ
  obtain ⟨a, vs, ea, ev, hH, h0, no, r⟩ := R0.rel.en.slot i _ _ _ he (List.getElem?_eq_getElem hiσ) (List.getElem?_eq_getElem hio')
  exact ⟨a, vs, by rw [List.getElem?_eq_getElem hiσ, ev], hH, no⟩
theorem withO_post {i : Nat} {f : List G.D → Env → Sto → R Fl} (q : PostS K cl T W D (withO i f env S)) : ∃ ds, env[i]? = some (.own ds) ∧ PostS K cl T W D (f ds env S) := by
  unfold withO at q
  split at q
  · exact ⟨_, by assumption, q⟩
  · exact q.elim
/-- a method of an own list with one argument, as a statement -/
theorem met1 {i : Nat} {r : V → List V → Hp → VK → Prop} {h : G.D → List G.D → Option (List G.D)} (hr : ∀ {io : List Addr} {H0 H : Hp} {S : Sto} {a : Addr} {vs : List V} {ds es : List G.D} {d : G.D} {v : V} {Q : VK}, StR K cl io H0 H S → H a = some (.lst vs) → RepL K cl io H0 ds vs → rD K cl p1 io H0 H d v → h d ds = some es →
    (∀ ws, RepL K cl io H0 es ws → Q .non (upd H a (.lst ws))) → r (.ref a) [v] H Q) (q : tS K cl T W (withO i fun ds env S => (fa env S).bs env fun d S1 => modE i (h d ds) env S1) D σ H) :
    tDrop (tBM K "list" r (tVar i) (tCons (tG K cl (rD K cl p1) W fa) tNil)) D σ H := by
  obtain ⟨io, om, H0, env, S, R0, q⟩ := q
  obtain ⟨ds, he, q⟩ := withO_post q
  obtain ⟨a, vs, eσ, hH, no⟩ := own_slot he R0
  refine ⟨.ref a, eσ, .inl ⟨rfl, vs, SqL.of hH⟩, ?_⟩
  refine ⟨io, om, H0, env, S, R0.rel, (PostS.bind R0 q).mono fun v H1 ⟨io1, H01, S1, d, x, R1, q1, h1⟩ => ?_⟩
  obtain ⟨a', vs', es, eσ', hH', no', h0', r', ho, k⟩ := modE_post he R1 h1
  rw [eσ] at eσ'
  cases eσ'
  exact hr R1.rel.st hH' r' q1 ho fun ws rw' => k ws rw'
/-- a method of an own list without arguments, as a statement -/
theorem met0 {i : Nat} {r : V → List V → Hp → VK → Prop} {h : List G.D → List G.D} (hr : ∀ {io : List Addr} {H0 H : Hp} {a : Addr} {vs : List V} {ds : List G.D} {Q : VK}, H a = some (.lst vs) → RepL K cl io H0 ds vs →
    (∀ ws, RepL K cl io H0 (h ds) ws → Q .non (upd H a (.lst ws))) → r (.ref a) [] H Q) (q : tS K cl T W (withO i fun ds env S => modE i (some (h ds)) env S) D σ H) :
    tDrop (tBM0 K "list" r (tVar i)) D σ H := by
  obtain ⟨io, om, H0, env, S, R0, q⟩ := q
  obtain ⟨ds, he, q⟩ := withO_post q
  obtain ⟨a, vs, eσ, hH, no⟩ := own_slot he R0
  refine ⟨.ref a, eσ, .inl ⟨rfl, vs, SqL.of hH⟩, ?_⟩
  obtain ⟨a', vs', es, eσ', hH', no', h0', r', ho, k⟩ := modE_post he R0 q
  rw [eσ] at eσ'
  cases eσ'
  cases ho
  exact hr hH' r' fun ws rw' => k ws rw'
variable {x : Str} {q1 apos cpos : Pos}
section
variable (i : Nat) 
theorem s_revO (hN : X.N[i]? = some x := by rfl) (hv : Vis X.env.scope x := by first | exact Or.inl rfl | exact Or.inr (Or.inl rfl) | exact Or.inr (Or.inr rfl)) (hd : (x == ("__debug__" : Str)) = false := by decide) (hcd : (x == ("__classdict__" : Str)) = false := by decide)
    (hbase : attributeBase (.Name x q1) "reverse" X.env (eval (.Name x q1) X.env) = eval (.Name x q1) X.env := by rfl) (hline : (apos.endLine == cpos.line) = true := by rfl)
    (hs : swapsWith (.Call (.Attribute (.Name x q1) "reverse" apos) [] [] cpos) none pos.line X.env = Pure.pure false := by rfl) :
    SD X cl T W (.Expr (.Call (.Attribute (.Name x q1) "reverse" apos) [] [] cpos) pos) (sRevO i) := by
  refine weakS (ps_expr (pe_bm0 PySem.F.plainAttrs_list PySem.F.slot_list_reverse PySem.F.type_list_reverse mt_reverse (pe_var hN hv hd hcd) hbase hline) hs) fun D σ H h => ?_
  exact met0 (h := List.reverse) (fun {io H0 H a vs ds Q} hH r k => ⟨a, vs, rfl, rfl, hH, k _ (RepL.reverse r)⟩) h
theorem s_clrO (hN : X.N[i]? = some x := by rfl) (hv : Vis X.env.scope x := by first | exact Or.inl rfl | exact Or.inr (Or.inl rfl) | exact Or.inr (Or.inr rfl)) (hd : (x == ("__debug__" : Str)) = false := by decide) (hcd : (x == ("__classdict__" : Str)) = false := by decide)
    (hbase : attributeBase (.Name x q1) "clear" X.env (eval (.Name x q1) X.env) = eval (.Name x q1) X.env := by rfl) (hline : (apos.endLine == cpos.line) = true := by rfl)
    (hs : swapsWith (.Call (.Attribute (.Name x q1) "clear" apos) [] [] cpos) none pos.line X.env = Pure.pure false := by rfl) :
    SD X cl T W (.Expr (.Call (.Attribute (.Name x q1) "clear" apos) [] [] cpos) pos) (sClrO i) := by
  refine weakS (ps_expr (pe_bm0 PySem.F.plainAttrs_list PySem.F.slot_list_clear PySem.F.type_list_clear mt_clear (pe_var hN hv hd hcd) hbase hline) hs) fun D σ H h => ?_
  exact met0 (h := fun _ => []) (fun {io H0 H a vs ds Q} hH r k => ⟨a, vs, rfl, rfl, hH, k _ .nil⟩) h
theorem s_app (ha : ED X cl W true a fa) (hN : X.N[i]? = some x := by rfl) (hv : Vis X.env.scope x := by first | exact Or.inl rfl | exact Or.inr (Or.inl rfl) | exact Or.inr (Or.inr rfl)) (hd : (x == ("__debug__" : Str)) = false := by decide) (hcd : (x == ("__classdict__" : Str)) = false := by decide)
    (hbase : attributeBase (.Name x q1) "append" X.env (eval (.Name x q1) X.env) = eval (.Name x q1) X.env := by rfl)
    (hfew : ((backTo cpos (starEach [a] X.env)).all (fun x => !x.1) && (backToKw cpos (keywordEach [] X.env)).all (fun x => x.1.isSome)
      && decide ([a].length + ([] : List Keyword).length + (if ([] : List Keyword).isEmpty then 0 else 1) < 30)) = true := by rfl)
    (hline : (apos.endLine == cpos.line) = true := by rfl) (hs1 : starEach [a] X.env = (false, eval a X.env) :: starEach [] X.env := by rfl) (hplain : (backTo cpos (starEach [] X.env)).any (·.1) = false := by rfl)
    (hs : swapsWith (.Call (.Attribute (.Name x q1) "append" apos) [a] [] cpos) none pos.line X.env = Pure.pure false := by rfl) :
    SD X cl T W (.Expr (.Call (.Attribute (.Name x q1) "append" apos) [a] [] cpos) pos) (sApp i fa) := by
  refine weakS (ps_expr (pe_bm PySem.F.plainAttrs_list PySem.F.slot_list_append PySem.F.type_list_append mt_append (pe_var hN hv hd hcd) (pa_cons ha pa_nil hs1) hbase hfew hline hs1 hplain) hs) fun D σ H h => ?_
  refine met1 (h := hApp) (p1 := true) (fun {io H0 H S a vs ds es d v Q} st hH r q ho k => ?_) h
  unfold hApp at ho
  split at ho
  · cases ho
    exact ⟨a, vs, v, rfl, rfl, hH, by rw [← r.length]; assumption, k _ (r.append (.cons q.perm .nil))⟩
  · cases ho
theorem s_ins {ai : Expr} {fi : Ex} (hi : ED X cl W p1 ai fi) (ha : ED X cl W true a fa) (hN : X.N[i]? = some x := by rfl) (hv : Vis X.env.scope x := by first | exact Or.inl rfl | exact Or.inr (Or.inl rfl) | exact Or.inr (Or.inr rfl)) (hd : (x == ("__debug__" : Str)) = false := by decide) (hcd : (x == ("__classdict__" : Str)) = false := by decide)
    (hbase : attributeBase (.Name x q1) "insert" X.env (eval (.Name x q1) X.env) = eval (.Name x q1) X.env := by rfl)
    (hfew : ((backTo cpos (starEach [ai, a] X.env)).all (fun x => !x.1) && (backToKw cpos (keywordEach [] X.env)).all (fun x => x.1.isSome)
      && decide ([ai, a].length + ([] : List Keyword).length + (if ([] : List Keyword).isEmpty then 0 else 1) < 30)) = true := by rfl)
    (hline : (apos.endLine == cpos.line) = true := by rfl) (hs1 : starEach [ai, a] X.env = (false, eval ai X.env) :: starEach [a] X.env := by rfl) (hs2 : starEach [a] X.env = (false, eval a X.env) :: starEach [] X.env := by rfl) (hplain : (backTo cpos (starEach [a] X.env)).any (·.1) = false := by rfl)
    (hs : swapsWith (.Call (.Attribute (.Name x q1) "insert" apos) [ai, a] [] cpos) none pos.line X.env = Pure.pure false := by rfl) :
    SD X cl T W (.Expr (.Call (.Attribute (.Name x q1) "insert" apos) [ai, a] [] cpos) pos) (sIns i fi fa) := by
  refine weakS (ps_expr (pe_bm PySem.F.plainAttrs_list PySem.F.slot_list_insert PySem.F.type_list_insert mt_insert (pe_var hN hv hd hcd) (pa_cons hi (pa_cons ha pa_nil hs2) hs1) hbase hfew hline hs1 hplain) hs) fun D σ H h => ?_
  obtain ⟨io, om, H0, env, S, R0, q⟩ := h
  obtain ⟨ds, he, q⟩ := withO_post q
  obtain ⟨b, vs, eσ, hH, no⟩ := own_slot he R0
  refine ⟨.ref b, eσ, .inl ⟨rfl, vs, SqL.of hH⟩, ?_⟩
  refine ⟨io, om, H0, env, S, R0.rel, (PostS.bind R0 q).mono fun v H1 ⟨io1, H01, S1, d, x1, R1, q1, h1⟩ => ?_⟩
  refine ⟨io1, om, H01, env, S1, R1.rel, (PostS.bind R1 h1).mono fun w H2 ⟨io2, H02, S2, y, x2, R2, q2, h2⟩ => ?_⟩
  obtain ⟨a', vs', es, eσ', hH', no', h0', r', ho, k⟩ := modE_post he R2 h2
  rw [eσ] at eσ'
  cases eσ'
  unfold hIns at ho
  split at ho
  · split at ho
    · rename_i g
      cases ho
      rw [(q1.ev x2).int]
      exact ⟨b, vs', _, w, rfl, rfl, hH', by rw [← r'.length]; exact g.1, g.2.1, g.2.2, k _ (((RepL.take _ r').append (.cons q2.perm .nil)).append (RepL.drop _ r'))⟩
    · cases ho
  · cases ho
theorem s_ext (ha : ED X cl W p1 a fa) (hN : X.N[i]? = some x := by rfl) (hv : Vis X.env.scope x := by first | exact Or.inl rfl | exact Or.inr (Or.inl rfl) | exact Or.inr (Or.inr rfl)) (hd : (x == ("__debug__" : Str)) = false := by decide) (hcd : (x == ("__classdict__" : Str)) = false := by decide)
    (hbase : attributeBase (.Name x q1) "extend" X.env (eval (.Name x q1) X.env) = eval (.Name x q1) X.env := by rfl)
    (hfew : ((backTo cpos (starEach [a] X.env)).all (fun x => !x.1) && (backToKw cpos (keywordEach [] X.env)).all (fun x => x.1.isSome)
      && decide ([a].length + ([] : List Keyword).length + (if ([] : List Keyword).isEmpty then 0 else 1) < 30)) = true := by rfl)
    (hline : (apos.endLine == cpos.line) = true := by rfl) (hs1 : starEach [a] X.env = (false, eval a X.env) :: starEach [] X.env := by rfl) (hplain : (backTo cpos (starEach [] X.env)).any (·.1) = false := by rfl)
    (hs : swapsWith (.Call (.Attribute (.Name x q1) "extend" apos) [a] [] cpos) none pos.line X.env = Pure.pure false := by rfl) :
    SD X cl T W (.Expr (.Call (.Attribute (.Name x q1) "extend" apos) [a] [] cpos) pos) (sExt i fa) := by
  refine weakS (ps_expr (pe_bm PySem.F.plainAttrs_list PySem.F.slot_list_extend PySem.F.type_list_extend mt_extend (pe_var hN hv hd hcd) (pa_cons ha pa_nil hs1) hbase hfew hline hs1 hplain) hs) fun D σ H h => ?_
  refine met1 (h := hExt) (p1 := p1) (fun {io H0 H S a vs ds es d v Q} st hH r q ho k => ?_) h
  unfold hExt at ho
  split at ho
  · split at ho
    · cases ho
      obtain ⟨b, ws, rfl, hb, rb⟩ := q.lst st
      exact ⟨a, b, vs, ws, rfl, rfl, hH, hb, by rw [← r.length, ← rb.length]; assumption, k _ (r.append rb)⟩
    · cases ho
  · cases ho
theorem s_setIx {ai : Expr} {fi : Ex} {tpos : Pos} (hi : ED X cl W p1 ai fi) (ha : ED X cl W true a fa) (hN : X.N[i]? = some x := by rfl) (hv : Vis X.env.scope x := by first | exact Or.inl rfl | exact Or.inr (Or.inl rfl) | exact Or.inr (Or.inr rfl)) (hd : (x == ("__debug__" : Str)) = false := by decide) (hcd : (x == ("__classdict__" : Str)) = false := by decide)
    (hasg : ∀ v, assign (.Subscript (.Name x q1) ai tpos) X.env v = (do
      let ov ← holding [v] (eval (.Name x q1) X.env)
      let iv ← holding [v, ov] (eval ai X.env)
      standAt tpos
      holding [v, ov, iv] (setItem ov iv v)
      release [v, ov, iv] []) := by intro _; rfl)
    (hs : swapsWithSole [.Subscript (.Name x q1) ai tpos] a pos.line X.env = Pure.pure false := by rfl) (hw : swappedStores [.Subscript (.Name x q1) ai tpos] a X.env = Pure.pure none := by rfl)
    (h1 : (assignEach [.Subscript (.Name x q1) ai tpos] X.env).map (·.2) = [assign (.Subscript (.Name x q1) ai tpos) X.env] := by rfl) : SD X cl T W (.Assign [.Subscript (.Name x q1) ai tpos] a pos) (sSetIx i fi fa) := by
  refine weakS (ps_asg ha (pg_sub (pe_var hN hv hd hcd) hi set_list hasg) hs hw h1) fun D σ H ⟨io, om, H0, env, S, R0, q⟩ => ?_
  obtain ⟨ds, he, q⟩ := withO_post q
  refine ⟨io, om, H0, env, S, R0.rel, (PostS.bind R0 q).mono fun v H1 ⟨io1, H01, S1, d, x, R1, q1, h1⟩ => ?_⟩
  obtain ⟨b, vs, eσ, hH, no⟩ := own_slot he R1
  refine ⟨.ref b, eσ, ?_⟩
  refine ⟨io1, om, H01, env, S1, R1.rel, (PostS.bind R1 h1).mono fun w H2 ⟨io2, H02, S2, k, x2, R2, q2, h2⟩ => ?_⟩
  obtain ⟨a', vs', es, eσ', hH', no', h0', r', ho, kk⟩ := modE_post he R2 h2
  rw [eσ] at eσ'
  cases eσ'
  unfold hSet at ho
  split at ho
  · obtain ⟨j, hj, rfl⟩ := Option.map_eq_some_iff.mp ho
    exact ⟨b, vs', _, j, rfl, q2.int, hH', by rw [← r'.length]; exact hj, kk _ (RepL.set (q1.ev x2).perm j r')⟩
  · cases ho
end
theorem any_zip {k : Key} : ∀ {kvs : List (Key × G.D)} {vs : List V}, (kvs.map (·.2)).length = vs.length → (((kvs.map (·.1)).zip vs).any fun kv => decide (kv.1 = k)) = kvs.any fun kv => decide (kv.1 = k)
  | [], vs, h => by simp
  | p :: r, [], h => by simp at h
  | p :: r, v :: vs, h => by
    simp only [List.map_cons, List.zip_cons_cons, List.any_cons]
    rw [any_zip (kvs := r) (vs := vs) (by simpa using h)]
theorem map_zip {io : List Addr} {H0 : Hp} {k : Key} {d : G.D} {v : V} (hd : Rep K cl io H0 d v) : ∀ {kvs : List (Key × G.D)} {vs : List V}, RepL K cl io H0 (kvs.map (·.2)) vs →
    ∃ ws, ((kvs.map (·.1)).zip vs).map (fun kv => if kv.1 = k then (kv.1, v) else kv) = ((kvs.map fun kv => if kv.1 = k then (kv.1, d) else kv).map (·.1)).zip ws ∧ RepL K cl io H0 ((kvs.map fun kv => if kv.1 = k then (kv.1, d) else kv).map (·.2)) ws
  | [], _, h => ⟨[], by simp, .nil⟩
  | (k1, d1) :: r, _, h => by
    obtain ⟨v1, t, rfl, h1, h2⟩ := h
    obtain ⟨ws, e, rw'⟩ := map_zip hd h2
    by_cases hk : k1 = k
    · refine ⟨v :: ws, ?_, ?_⟩
      · simp only [List.map_cons, List.zip_cons_cons, hk, if_true]
        rw [e]
      · simp only [List.map_cons, hk, if_true]
        exact .cons hd rw'
    · refine ⟨v1 :: ws, ?_, ?_⟩
      · simp only [List.map_cons, List.zip_cons_cons, hk, if_false]
        rw [e]
      · simp only [List.map_cons, hk, if_false]
        exact .cons h1 rw'
theorem put_zip {io : List Addr} {H0 : Hp} {k : Key} {d : G.D} {v : V} (hd : Rep K cl io H0 d v) {kvs : List (Key × G.D)} {vs : List V} (h : RepL K cl io H0 (kvs.map (·.2)) vs) :
    ∃ ws, putK ((kvs.map (·.1)).zip vs) k v = ((putD kvs k d).map (·.1)).zip ws ∧ RepL K cl io H0 ((putD kvs k d).map (·.2)) ws := by
  unfold putK putD
  rw [any_zip h.length]
  split
  · exact map_zip hd h
  · refine ⟨vs ++ [v], ?_, ?_⟩
    · rw [List.map_append, List.zip_append (by simpa using h.length)]
      rfl
    · rw [List.map_append]
      exact h.append (.cons hd .nil)
/-- an object of the store is written -/
theorem RelF.putO {n : Nat} {ad : Addr} {o : HO} {mo : MO} (R0 : RelF K cl T io om H0 H env S σ) (hio : io[n]? = some ad) (ho : RepO K cl io H0 (upd H ad o) ad mo) : RelF K cl T io om H0 (upd H ad o) env (S.set n mo) σ := by
  have mem : ad ∈ io := List.mem_of_getElem? hio
  have hn : n < S.length := by rw [← R0.rel.st.len]; exact (List.getElem?_eq_some_iff.mp hio).1
  have h0 : H0 ad = none := R0.rel.st.out n ad hio
  refine ⟨⟨⟨fun b u e => by rw [upd_ne (ne_of_none e h0)]; exact R0.rel.st.sub b u e, by simp [R0.rel.st.len], R0.rel.st.out, R0.rel.st.inj, fun m b u e1 e2 => ?_⟩, ⟨R0.rel.en.len, R0.rel.en.lenO, fun j s sv ow e1 e2 e3 => ?_, R0.rel.en.inj⟩⟩, ⟨R0.ev.pre, R0.ev.new, R0.ev.h0, R0.ev.h0n, fun b u e nb => ?_, fun b hb => ?_⟩, R0.fresh⟩
  · by_cases hm : n = m
    · subst hm
      rw [hio] at e1
      cases e1
      rw [List.getElem?_set_self hn] at e2
      cases e2
      exact ho
    · rw [List.getElem?_set_ne hm] at e2
      exact (R0.rel.st.ob m b u e1 e2).at (.refl _) (.refl _) (upd_ne (by rintro rfl; exact hm (R0.rel.st.inj n m b hio e1)))
  · have sl := R0.rel.en.slot j s sv ow e1 e2 e3
    cases s with
    | un => exact sl
    | val d => exact sl
    | own es =>
      obtain ⟨b, ws, z1, z2, z3, z4, z5, z6⟩ := sl
      exact ⟨b, ws, z1, z2, by rw [upd_ne (by rintro rfl; exact z5 mem)]; exact z3, z4, z5, z6⟩
  · rw [upd_ne]
    · exact R0.ev.keep b u e nb
    · rintro rfl
      rcases R0.ev.new b mem with z | z
      · exact nb z
      · rw [e] at z; cases z
  · by_cases e : b = ad
    · subst e; rw [upd_same]; simp
    · rw [upd_ne e]; exact R0.ev.dom b hb
theorem putO_post {o k v : G.D} (h : PostS K cl T W D (match putO o k v S with | some S4 => .ok (.nx env) S4 | none => .bad)) : ∃ n kvs key, o = .obj n ∧ S[n]? = some (.dict kvs) ∧ keyD k = some key ∧ kvs.length < sizeLine ∧ PostS K cl T W D (.ok (.nx env) (S.set n (.dict (putD kvs key v)))) := by
  cases o with
  | obj n =>
    unfold putO at h
    cases hS : S[n]? with
    | none => simp only [hS] at h; exact h.elim
    | some o =>
      cases o with
      | dict kvs =>
        cases hk : keyD k with
        | none => simp only [hS, hk] at h; exact h.elim
        | some key =>
          simp only [hS, hk] at h
          by_cases hl : kvs.length < sizeLine
          · simp only [hl, if_true] at h
            exact ⟨n, kvs, key, rfl, hS, rfl, hl, h⟩
          · simp only [hl, if_false] at h
            exact h.elim
      | lst ds => simp only [hS] at h; exact h.elim
      | ins c ks => simp only [hS] at h; exact h.elim
  | _ => exact h.elim
theorem s_put {spos : Pos} (hu : X.A.units + 1 < cLine) (ho : ED X cl W p1 a fa) (hi : ED X cl W p2 b fb) (hv : ED X cl W true c fc) (hs : swapsWith c (some (.Subscript a b spos)) pos.line X.env = Pure.pure false := by rfl) :
    SD X cl T W (.Assign [.Subscript a b spos] c pos) (sPut fa fb fc) := by
  refine weakS (ps_dput hu ho hi hv hs) fun D σ H ⟨io, om, H0, env, S, R0, q⟩ => ?_
  refine ⟨io, om, H0, env, S, R0.rel, (PostS.bind R0 q).mono fun v H1 ⟨io1, H01, S1, d, x1, R1, q1, h1⟩ => ?_⟩
  refine ⟨io1, om, H01, env, S1, R1.rel, (PostS.bind R1 h1).mono fun o H2 ⟨io2, H02, S2, od, x2, R2, q2, h2⟩ => ?_⟩
  refine ⟨io2, om, H02, env, S2, R2.rel, (PostS.bind R2 h2).mono fun w H3 ⟨io3, H03, S3, k, x3, R3, q3, h3⟩ => ?_⟩
  obtain ⟨n, kvs, key, rfl, hS, hk, hl, h3⟩ := putO_post h3
  obtain ⟨ad, rfl, hio⟩ := (q2.ev x3).obj
  obtain ⟨vs, hH, rv⟩ := R3.rel.st.ob n ad _ hio hS
  rw [keyD_rep hk q3]
  obtain ⟨ws, e, rw'⟩ := put_zip (k := key) ((q1.ev x2).ev x3).perm rv
  refine ⟨ad, _, rfl, DPut.k hH (by rw [List.length_zip, List.length_map]; omega), ?_⟩
  exact h3 _ _ _ _ _ (R3.putO hio ⟨ws, by rw [upd_same, e], rw'⟩)
def sPar (i j : Nat) (f : Sem1 (List G.D)) : Sm := fun env S => (f env S).bs env fun ds S1 => match ds with
  | [d, e] => if i < env.length ∧ j < env.length then .ok (.nx ((env.set i (.val d)).set j (.val e))) S1 else .bad
  | _ => .bad
def sPar3 (i j l : Nat) (f : Sem1 (List G.D)) : Sm := fun env S => (f env S).bs env fun ds S1 => match ds with
  | [d, e, c] => if i < env.length ∧ j < env.length ∧ l < env.length then .ok (.nx (((env.set i (.val d)).set j (.val e)).set l (.val c))) S1 else .bad
  | _ => .bad
theorem s_par (i j : Nat) {x y : Str} {px py pt : Pos} {kt k2 : Nat} {pt2 : Pos} {fs : Sem1 (List G.D)} (hN : X.N.Nodup) (ha : AD X cl W true [a, b] fs) (hi : X.N[i]? = some x := by rfl) (hj : X.N[j]? = some y := by rfl) (hij : i ≠ j := by decide)
    (hx : X.env.scope.names.lookup x = some .local := by rfl) (hy : X.env.scope.names.lookup y = some .local := by rfl)
    (hw : swappedStores [.Tuple [.Name x px, .Name y py] kt pt] (.Tuple [a, b] k2 pt2) X.env = Pure.pure (some [x, y]) := by rfl)
    (hs : swapsWithSole [.Tuple [.Name x px, .Name y py] kt pt] (.Tuple [a, b] k2 pt2) pos.line X.env = Pure.pure false := by rfl) (hc : X.calm = true := by rfl) :
    SD X cl T W (.Assign [.Tuple [.Name x px, .Name y py] kt pt] (.Tuple [a, b] k2 pt2) pos) (sPar i j fs) := by
  refine weakS (ps_par hc hN hi hj hij hx hy ha hw hs) fun D σ H ⟨io, om, H0, env, S, R0, q⟩ => ?_
  refine ⟨io, om, H0, env, S, R0.rel, (PostS.bind R0 q).mono fun v H1 ⟨io1, H01, S1, ds, x1, R1, q1, h1⟩ => ?_⟩
  split at h1
  · split at h1
    · rename_i hl
      obtain ⟨v, w, rfl, r1, r2⟩ := rL_two q1
      exact ⟨v, w, rfl, h1 _ _ _ _ _ ((R1.set hl.1 r1.perm).set (by simpa using hl.2) r2.perm)⟩
    · exact h1.elim
  · exact h1.elim
theorem s_par3 (i j l : Nat) {x y z : Str} {px py pz pt : Pos} {kt k2 : Nat} {pt2 : Pos} {fs : Sem1 (List G.D)} (hN : X.N.Nodup) (ha : AD X cl W true [a, b, c] fs) (hi : X.N[i]? = some x := by rfl) (hj : X.N[j]? = some y := by rfl) (hl : X.N[l]? = some z := by rfl) (hij : i ≠ j := by decide) (hil : i ≠ l := by decide) (hjl : j ≠ l := by decide)
    (hx : X.env.scope.names.lookup x = some .local := by rfl) (hy : X.env.scope.names.lookup y = some .local := by rfl) (hz : X.env.scope.names.lookup z = some .local := by rfl)
    (t : ∀ {ta : TA}, PA X [a, b, c] ta → PS X (.Assign [.Tuple [.Name x px, .Name y py, .Name z pz] kt pt] (.Tuple [a, b, c] k2 pt2) pos) (tPar3 i j l ta)) :
    SD X cl T W (.Assign [.Tuple [.Name x px, .Name y py, .Name z pz] kt pt] (.Tuple [a, b, c] k2 pt2) pos) (sPar3 i j l fs) := by
  refine weakS (t ha) fun D σ H ⟨io, om, H0, env, S, R0, q⟩ => ?_
  refine ⟨io, om, H0, env, S, R0.rel, (PostS.bind R0 q).mono fun v H1 ⟨io1, H01, S1, ds, x1, R1, q1, h1⟩ => ?_⟩
  split at h1
  · split at h1
    · rename_i hl
      obtain ⟨v, r, rfl, r1, r2⟩ := q1
      obtain ⟨w, u, rfl, r3, r4⟩ := rL_two r2
      exact ⟨v, w, u, rfl, h1 _ _ _ _ _ (((R1.set hl.1 r1.perm).set (by simpa using hl.2.1) r3.perm).set (by simpa using hl.2.2) r4.perm)⟩
    · exact h1.elim
  · exact h1.elim
end
end G

namespace G
open PySem PySem.Spec PyProof.Rows L2

theorem hu65_of {A : Around} {k : Nat} (hr : Room k A) : A.units + 65 < cLine := by have := hr.un; omega
abbrev wOf (E : XK) : WX := fun c dd _ H => E c dd H
def spD (K : PySem.W.Frag) (cl : Nat → Addr) (n : Nat) (sem : FnSem) : Sp := fun vs H Q E => vs.length = n ∧ ∃ io H0 S ds, StR K cl io H0 H S ∧ RepL K cl io H0 ds vs ∧ Post K cl (rD K cl true) (wOf E) io H0 H [] Q (sem ds S)
/-- a def of the module, worth sem, by at most k calls, one in another -/
structure FD (P : Program) (w : World) (K : PySem.W.Frag) (mg : Str → Option Value) (base : Heap) (cl : Nat → Addr) (k : Nat) (x : Str) (n : Nat) (sem : FnSem) : Prop where
  ex : ∃ f fd ps, mg x = some (.ref f) ∧ PySem.W.keepIn K (.ref f) = true ∧ Binds K fd ps [] ∧ FnOk P w K mg base (L2.CX P w) k f fd ps (spD K cl n sem)
theorem FD.mono {P : Program} {w : World} {K : PySem.W.Frag} {mg : Str → Option Value} {base : Heap} {cl : Nat → Addr} {j k : Nat} {x : Str} {n : Nat} {sem : FnSem} (h : FD P w K mg base cl j x n sem) (l : j ≤ k) : FD P w K mg base cl k x n sem := by
  obtain ⟨f, fd, ps, a, b, c, d⟩ := h.ex
  exact ⟨f, fd, ps, a, b, c, d.mono l⟩

def eFn (n : Nat) (sem : FnSem) (fs : Sem1 (List D)) : Ex := fun env S => (fs env S).bind fun ds S1 => if ds.length = n then sem ds S1 else .bad
def startE (n : Nat) (ds : List D) : Env := ds.map Slot.val ++ List.replicate (n - ds.length) .un
def runF (n : Nat) (g : Sm) : FnSem := fun ds S => match g (startE n ds) S with
  | .ok (.nx _) S1 => .ok .non S1
  | .ok (.rt d) S1 => .ok d S1
  | .ok (.xc e _) S1 => .exc e S1
  | _ => .bad

section
variable {X : Cx} {cl : Nat → Addr} {W : WX} {T : Ent} {e a b c tg : Expr} {es : List Expr} {pos q : Pos} {K : PySem.W.Frag} {io io' : List Addr} {om : Own} {H0 H H0' H' : Hp} {env : Env} {S S' : Sto} {σ : L2.St} {p1 p2 : Bool} {fa fb fc : Ex} {fs : Sem1 (List D)}
theorem d_call {j k n : Nat} {x : Str} {sem : FnSem} (F : FD X.prog X.w X.K X.mg X.base cl j x n sem) (hr : Room k X.A) (tk : Takes X W) (ha : AD X cl W true (e :: es) fs) (hj : j ≤ k := by omega) (hg : Gl X x := by rfl)
    (hdb : (x == ("__debug__" : Str)) = false := by decide) (he : starEach (e :: es) X.env = (false, eval e X.env) :: starEach es X.env := by rfl) (hpl : (backTo pos (starEach es X.env)).any (·.1) = false := by rfl) :
    ED X cl W true (.Call (.Name x q) (e :: es) [] pos) (eFn n sem fs) := by
  obtain ⟨f, fd, ps, hm, hk, hb, hF⟩ := F.ex
  refine weakE (pe_callS hF (hr.mono hj) hg hm hk hb (fun σ => passAt tk σ) ha hdb he hpl) fun σ H Q ⟨io, om, H0, env, S, R0, h⟩ => ?_
  refine ⟨io, om, H0, env, S, R0, (Post.bind R0 h).mono fun vs H1 ⟨io1, H01, S1, ds, x1, R1, q1, h1⟩ => ?_⟩
  by_cases hl : ds.length = n
  · rw [if_pos hl] at h1
    refine ⟨by rw [← q1.perm.length]; exact hl, io1, H01, S1, ds, R1.st, q1.perm, ?_⟩
    cases r : sem ds S1 with
    | ok d S2 => rw [r] at h1; exact h1
    | exc e' S2 => rw [r] at h1; exact h1
    | bad => rw [r] at h1; exact h1
  · rw [if_neg hl] at h1
    exact h1.elim
theorem startE_get {n : Nat} {ds : List D} {j : Nat} : (startE n ds)[j]? = if j < ds.length then (ds[j]?).map Slot.val else if j < n then some .un else none := by
  unfold startE
  by_cases h : j < ds.length
  · rw [List.getElem?_append_left (by simpa using h), List.getElem?_map, if_pos h]
  · rw [List.getElem?_append_right (by simpa using h), if_neg h, List.length_map, List.getElem?_replicate]
    by_cases h2 : j < n
    · rw [if_pos h2, if_pos (by omega)]
    · rw [if_neg h2, if_neg (by omega)]
theorem start_get {N : List Str} {vs : List V} {j : Nat} : (L2.start N vs)[j]? = if j < vs.length then (vs[j]?).map some else if j < N.length then some none else none := by
  unfold L2.start
  by_cases h : j < vs.length
  · rw [List.getElem?_append_left (by simpa using h), List.getElem?_map, if_pos h]
  · rw [List.getElem?_append_right (by simpa using h), if_neg h, List.length_map, List.getElem?_replicate]
    by_cases h2 : j < N.length
    · rw [if_pos h2, if_pos (by omega)]
    · rw [if_neg h2, if_neg (by omega)]
theorem relF_start {N : List Str} {vs : List V} {ds : List D} (st : StR K cl io H0 H S) (r : RepL K cl io H0 ds vs) : RelF K cl ⟨io, H0, H⟩ io (List.replicate (L2.start N vs).length none) H0 H (startE N.length ds) S (L2.start N vs) := by
  have hl := r.length
  refine ⟨⟨st, ⟨by simp [startE, L2.start, hl], by simp, fun j s sv ow e1 e2 e3 => ?_, fun i j a e1 e2 => ?_⟩⟩, .refl, fun i a e => ?_⟩
  · have hw : ow = none := by
      rw [List.getElem?_replicate] at e3
      split at e3
      · exact (Option.some.inj e3).symm
      · cases e3
    subst hw
    rw [startE_get] at e1
    rw [start_get] at e2
    by_cases hj : j < ds.length
    · rw [if_pos hj] at e1
      rw [if_pos (by omega)] at e2
      obtain ⟨d, e4, rfl⟩ := Option.map_eq_some_iff.mp e1
      obtain ⟨v, e5, rfl⟩ := Option.map_eq_some_iff.mp e2
      obtain ⟨w, e6, rw'⟩ := r.get e4
      rw [e5] at e6; cases e6
      exact ⟨rfl, v, rfl, rw'⟩
    · rw [if_neg hj] at e1
      split at e1
      · cases e1
        rfl
      · cases e1
  · rw [List.getElem?_replicate] at e1
    split at e1 <;> cases e1
  · rw [List.getElem?_replicate] at e
    split at e <;> cases e
section
variable {P : Program} {w : World} {mg : Str → Option Value} {base : Heap}
theorem fn_D {x qual : Str} {st : Stmt} {f : Addr} {fd : FuncData} {N ps : List Str} {k : Nat} {g : Sm} (F : Fun K x qual st f fd) (Sc : FnScope N ps (defScope st))
    (hb : ∀ (cdv : Value) (A : Around) (outer : List PySem.Env) (s : Shared) (H : Hp) (E : XK) (T : Ent), Room k (A.deeper (envOfC qual (defScope st) s.heap.objs.size f cdv)) →
      Takes (cxOf (L2.CX P w) P w K mg base N qual (defScope st) f cdv A outer s H E) (wOf E) → PassesOwn (model P w) (A.deeper (envOfC qual (defScope st) s.heap.objs.size f cdv)) (envOfC qual (defScope st) s.heap.objs.size f cdv) (cxOf (L2.CX P w) P w K mg base N qual (defScope st) f cdv A outer s H E).xe →
      SsD (cxOf (L2.CX P w) P w K mg base N qual (defScope st) f cdv A outer s H E) cl T (wOf E) (defBody st) g) :
    FnOk P w K mg base (L2.CX P w) (k + 1) f fd ps (spD K cl ps.length (runF N.length g)) := by
  refine F.okX Sc (fun vs H Q E h => h.1) fun cdv A outer s H vs Q E hr hsp => ?_
  obtain ⟨hl, io, H0, S, ds, st, r, h⟩ := hsp
  refine ⟨_, hb cdv A outer s H E ⟨io, H0, H⟩ hr (takes_of rfl rfl rfl rfl) (passes_of rfl), io, _, H0, startE N.length ds, S, relF_start st r, ?_⟩
  unfold runF at h
  cases q : g (startE N.length ds) S with
  | ok fl S1 =>
    rw [q] at h
    cases fl with
    | nx env1 => exact fun io om H0 H σ R => h io H0 H .non R.ev R.rel.st (.inl rfl)
    | rt d => exact fun io H0 H v x st r => h io H0 H v x st (.inl r)
    | bk _ => exact h.elim
    | ct _ => exact h.elim
    | xc e env1 => exact fun io om H0 H c dd σ R r => h io H0 H c dd R.ev R.rel.st r
    | ro _ => exact h.elim
  | exc e S1 =>
    rw [q] at h
    exact h.elim
  | bad => rw [q] at h; exact h.elim
/-- a def that stands in the module -/
structure FnAt (K : PySem.W.Frag) (mg : Str → Option Value) (x : Str) (st : Stmt) : Prop where
  ex : ∃ f fd, mg x = some (.ref f) ∧ PySem.W.keepIn K (.ref f) = true ∧ Fun K x x st f fd
theorem fd_of {x : Str} {st : Stmt} {N ps : List Str} {k n : Nat} {g : Sm} (F : FnAt K mg x st) (Sc : FnScope N ps (defScope st))
    (hbind : ∀ (kV doc pm : Value) (an : Option Addr) (cdv ct : Value) (us : List Value), us.length = ps.length → bindArgs (PySem.W.fnOf x x (defArgs st) (defBody st) (defScope st) .none kV doc pm an cdv ct) ⟨us, []⟩ = Pure.pure (ps.zip us))
    (hb : ∀ (f : Addr) (cdv : Value) (A : Around) (outer : List PySem.Env) (s : Shared) (H : Hp) (E : XK) (T : Ent), Room k (A.deeper (envOfC x (defScope st) s.heap.objs.size f cdv)) →
      Takes (cxOf (L2.CX P w) P w K mg base N x (defScope st) f cdv A outer s H E) (wOf E) → PassesOwn (model P w) (A.deeper (envOfC x (defScope st) s.heap.objs.size f cdv)) (envOfC x (defScope st) s.heap.objs.size f cdv) (cxOf (L2.CX P w) P w K mg base N x (defScope st) f cdv A outer s H E).xe →
      SsD (cxOf (L2.CX P w) P w K mg base N x (defScope st) f cdv A outer s H E) cl T (wOf E) (defBody st) g) (hn : ps.length = n := by rfl) :
    FD P w K mg base cl (k + 1) x n (runF N.length g) := by
  obtain ⟨f, fd, hm, hk, hF⟩ := F.ex
  subst hn
  exact ⟨f, fd, ps, hm, hk, hF.binds hbind, fn_D hF Sc (hb f)⟩
abbrev FnSemN := List D → Sto → R (List D)
def spN (K : PySem.W.Frag) (cl : Nat → Addr) (n : Nat) (sem : FnSemN) : Sp := fun vs H Q E => vs.length = n ∧ ∃ io H0 S ds, StR K cl io H0 H S ∧ RepL K cl io H0 ds vs ∧ Post K cl (rN K cl H) (wOf E) io H0 H [] Q (sem ds S)
structure FDN (P : Program) (w : World) (K : PySem.W.Frag) (mg : Str → Option Value) (base : Heap) (cl : Nat → Addr) (k : Nat) (x : Str) (n : Nat) (sem : FnSemN) : Prop where
  ex : ∃ f fd ps, mg x = some (.ref f) ∧ PySem.W.keepIn K (.ref f) = true ∧ Binds K fd ps [] ∧ FnOk P w K mg base (L2.CX P w) k f fd ps (spN K cl n sem)
def runN (n : Nat) (g : Sm) : FnSemN := fun ds S => match g (startE n ds) S with
  | .ok (.ro ds) S1 => .ok ds S1
  | .ok (.xc e _) S1 => .exc e S1
  | _ => .bad
theorem fn_N {x qual : Str} {st : Stmt} {f : Addr} {fd : FuncData} {N ps : List Str} {k : Nat} {g : Sm} (F : Fun K x qual st f fd) (Sc : FnScope N ps (defScope st))
    (hb : ∀ (cdv : Value) (A : Around) (outer : List PySem.Env) (s : Shared) (H : Hp) (E : XK) (T : Ent), Room k (A.deeper (envOfC qual (defScope st) s.heap.objs.size f cdv)) →
      Takes (cxOf (L2.CX P w) P w K mg base N qual (defScope st) f cdv A outer s H E) (wOf E) → PassesOwn (model P w) (A.deeper (envOfC qual (defScope st) s.heap.objs.size f cdv)) (envOfC qual (defScope st) s.heap.objs.size f cdv) (cxOf (L2.CX P w) P w K mg base N qual (defScope st) f cdv A outer s H E).xe →
      SsD (cxOf (L2.CX P w) P w K mg base N qual (defScope st) f cdv A outer s H E) cl T (wOf E) (defBody st) g) :
    FnOk P w K mg base (L2.CX P w) (k + 1) f fd ps (spN K cl ps.length (runN N.length g)) := by
  refine F.okX Sc (fun vs H Q E h => h.1) fun cdv A outer s H vs Q E hr hsp => ?_
  obtain ⟨hl, io, H0, S, ds, st, r, h⟩ := hsp
  refine ⟨_, hb cdv A outer s H E ⟨io, H0, H⟩ hr (takes_of rfl rfl rfl rfl) (passes_of rfl), io, _, H0, startE N.length ds, S, relF_start st r, ?_⟩
  unfold runN at h
  cases q : g (startE N.length ds) S with
  | ok fl S1 =>
    rw [q] at h
    cases fl with
    | nx _ => exact h.elim
    | rt _ => exact h.elim
    | bk _ => exact h.elim
    | ct _ => exact h.elim
    | xc e env1 => exact fun io om H0 H c dd σ R r => h io H0 H c dd R.ev R.rel.st r
    | ro ds => exact fun io H0 H v x st r => h io H0 H v x st r
  | exc e S1 =>
    rw [q] at h
    exact h.elim
  | bad => rw [q] at h; exact h.elim
theorem fdN_of {x : Str} {st : Stmt} {N ps : List Str} {k n : Nat} {g : Sm} (F : FnAt K mg x st) (Sc : FnScope N ps (defScope st))
    (hbind : ∀ (kV doc pm : Value) (an : Option Addr) (cdv ct : Value) (us : List Value), us.length = ps.length → bindArgs (PySem.W.fnOf x x (defArgs st) (defBody st) (defScope st) .none kV doc pm an cdv ct) ⟨us, []⟩ = Pure.pure (ps.zip us))
    (hb : ∀ (f : Addr) (cdv : Value) (A : Around) (outer : List PySem.Env) (s : Shared) (H : Hp) (E : XK) (T : Ent), Room k (A.deeper (envOfC x (defScope st) s.heap.objs.size f cdv)) →
      Takes (cxOf (L2.CX P w) P w K mg base N x (defScope st) f cdv A outer s H E) (wOf E) → PassesOwn (model P w) (A.deeper (envOfC x (defScope st) s.heap.objs.size f cdv)) (envOfC x (defScope st) s.heap.objs.size f cdv) (cxOf (L2.CX P w) P w K mg base N x (defScope st) f cdv A outer s H E).xe →
      SsD (cxOf (L2.CX P w) P w K mg base N x (defScope st) f cdv A outer s H E) cl T (wOf E) (defBody st) g) (hn : ps.length = n := by rfl) :
    FDN P w K mg base cl (k + 1) x n (runN N.length g) := by
  obtain ⟨f, fd, hm, hk, hF⟩ := F.ex
  subst hn
  exact ⟨f, fd, ps, hm, hk, hF.binds hbind, fn_N hF Sc (hb f)⟩
/-- nothing is promised -/
theorem fd_bad {x : Str} {st : Stmt} {ps : List Str} {k n : Nat} (F : FnAt K mg x st)
    (hbind : ∀ (kV doc pm : Value) (an : Option Addr) (cdv ct : Value) (us : List Value), us.length = ps.length → bindArgs (PySem.W.fnOf x x (defArgs st) (defBody st) (defScope st) .none kV doc pm an cdv ct) ⟨us, []⟩ = Pure.pure (ps.zip us)) :
    FD P w K mg base cl k x n (fun _ _ => .bad) := by
  obtain ⟨f, fd, hm, hk, hF⟩ := F.ex
  refine ⟨f, fd, ps, hm, hk, hF.binds hbind, ⟨fun vs H Q E h => ?_, fun A outer s H args us vs Q E _ _ _ _ h => ?_⟩⟩
  · obtain ⟨_, _, _, _, _, _, _, h⟩ := h
    exact h.elim
  · obtain ⟨_, _, _, _, _, _, _, h⟩ := h
    exact h.elim
end
theorem StR.newO (st : StR K cl io H0 H S) {a : Addr} {mo : MO} (hi : a ∉ io) (h0 : H0 a = none) (ho : RepO K cl io H0 H a mo) : StR K cl (io ++ [a]) H0 H (S ++ [mo]) := by
  refine ⟨st.sub, by simp [st.len], fun n b e => ?_, fun n m b e1 e2 => ?_, fun n b u e1 e2 => ?_⟩
  all_goals have hlen := st.len
  · by_cases hn : n < io.length
    · rw [List.getElem?_append_left hn] at e
      exact st.out n b e
    · rw [List.getElem?_append_right (by omega)] at e
      have : n - io.length = 0 := by
        have := (List.getElem?_eq_some_iff.mp e).1
        simp at this; omega
      rw [this] at e; simp at e; subst e
      exact h0
  · have key : ∀ n, (io ++ [a])[n]? = some b → (n < io.length ∧ io[n]? = some b) ∨ (n = io.length ∧ b = a) := fun n e => by
      by_cases hn : n < io.length
      · rw [List.getElem?_append_left hn] at e
        exact .inl ⟨hn, e⟩
      · rw [List.getElem?_append_right (by omega)] at e
        have h1 : n - io.length = 0 := by
          have := (List.getElem?_eq_some_iff.mp e).1
          simp at this; omega
        rw [h1] at e; simp at e
        exact .inr ⟨by omega, e.symm⟩
    rcases key n e1 with ⟨_, z1⟩ | ⟨z1, z2⟩ <;> rcases key m e2 with ⟨_, z3⟩ | ⟨z3, z4⟩
    · exact st.inj n m b z1 z3
    · subst z4; exact absurd (List.mem_of_getElem? z1) hi
    · subst z2; exact absurd (List.mem_of_getElem? z3) hi
    · omega
  · have pre : Pre io (io ++ [a]) := fun n b e => by rw [List.getElem?_append_left (List.getElem?_eq_some_iff.mp e).1]; exact e
    by_cases hn : n < io.length
    · rw [List.getElem?_append_left hn] at e1
      rw [List.getElem?_append_left (by omega)] at e2
      exact (st.ob n b u e1 e2).at pre (.refl _) rfl
    · rw [List.getElem?_append_right (by omega)] at e1
      rw [List.getElem?_append_right (by omega)] at e2
      have h1 : n - io.length = 0 := by
        have := (List.getElem?_eq_some_iff.mp e1).1
        simp at this; omega
      have h2 : n - S.length = 0 := by omega
      rw [h1] at e1; rw [h2] at e2
      simp at e1 e2; subst e1 e2
      exact ho.at pre (.refl _) rfl
theorem Ev.newO (x : Ev io H0 H io' H0' H') {a : Addr} (h : H a = none) : Ev io H0 H (io' ++ [a]) H0' H' :=
  ⟨fun n b e => by
    have e1 := x.pre n b e
    rw [List.getElem?_append_left (List.getElem?_eq_some_iff.mp e1).1]; exact e1,
   fun b m => by
    rcases List.mem_append.mp m with m | m
    · exact x.new b m
    · simp at m; subst m; exact .inr h, x.h0, x.h0n, x.keep, x.dom⟩
/-- the pairs of a display -/
abbrev PairD := List (Ex × Ex)
def pairsF : PairD → Sem1 (List (Key × D))
  | [], _, S => .ok [] S
  | (fk, fv) :: r, env, S => (fk env S).bind fun k S1 => (fv env S1).bind fun v S2 => (pairsF r env S2).bind fun ps S3 => match keyD k with
    | some key => .ok ((key, v) :: ps) S3
    | none => .bad
def eDict (ps : PairD) : Ex := fun env S => (pairsF ps env S).bind fun kvs S1 => if kvs.length ≤ 15 then .ok (.obj S1.length) (S1 ++ [.dict (kvs.foldl (fun acc kv => putD acc kv.1 kv.2) [])]) else .bad
theorem merge_zip {io : List Addr} {H0 : Hp} : ∀ {more : List (Key × D)} {vs : List V} {kvs : List (Key × D)} {ws : List V}, RepL K cl io H0 (more.map (·.2)) vs → RepL K cl io H0 (kvs.map (·.2)) ws →
    ∃ zs, mergeK ((kvs.map (·.1)).zip ws) ((more.map (·.1)).zip vs) = ((more.foldl (fun acc kv => putD acc kv.1 kv.2) kvs).map (·.1)).zip zs ∧ RepL K cl io H0 ((more.foldl (fun acc kv => putD acc kv.1 kv.2) kvs).map (·.2)) zs
  | [], vs, kvs, ws, h, h' => ⟨ws, by simp [mergeK], h'⟩
  | (k, d) :: r, _, kvs, ws, h, h' => by
    obtain ⟨v, t, rfl, h1, h2⟩ := h
    obtain ⟨zs, e1, r1⟩ := put_zip (k := k) h1 h'
    obtain ⟨ys, e2, r2⟩ := merge_zip h2 r1
    refine ⟨ys, ?_, r2⟩
    show mergeK (putK ((kvs.map (·.1)).zip ws) k v) ((r.map (·.1)).zip t) = _
    rw [e1]
    exact e2
inductive PpD (X : Cx) (cl : Nat → Addr) (W : WX) : List (Option Expr) → List Expr → PairD → Prop where
  | nil : PpD X cl W [] [] []
  | cons {k v : Expr} {ks : List (Option Expr)} {vs : List Expr} {fk fv : Ex} {ps : PairD} (hk : ED X cl W true k fk) (hv : ED X cl W true v fv) (h : PpD X cl W ks vs ps) : PpD X cl W (some k :: ks) (v :: vs) ((fk, fv) :: ps)
/-- what the pairs' readings come to -/
def trsOf (K : PySem.W.Frag) (cl : Nat → Addr) (W : WX) (ps : PairD) : List (TE × TE) := ps.map fun p => (tG K cl (rD K cl true) W p.1, tG K cl (rD K cl true) W p.2)
theorem PpD.pps {ks : List (Option Expr)} {vs : List Expr} {ps : PairD} (h : PpD X cl W ks vs ps) : PPs X pos ks vs (trsOf X.K cl W ps) := by
  induction h with
  | nil => exact pps_nil
  | cons hk hv _ ih => exact pps_cons hk hv ih
def rK (K : PySem.W.Frag) (cl : Nat → Addr) : List Addr → Hp → Hp → List (Key × D) → List (V × V) → Prop := fun io H0 H kvs ps => ∃ vs, RepL K cl io H0 (kvs.map (·.2)) vs ∧ ps = ((kvs.map (·.1)).zip vs).map fun kv => (kV kv.1, kv.2)
theorem pairs_of : ∀ {ps : PairD} {σ : L2.St} {H : Hp} {Q : List (V × V) → Hp → Prop}, tG K cl (rK K cl) W (pairsF ps) σ H Q → tPairs (trsOf K cl W ps) σ H Q
  | [], σ, H, Q, ⟨io, om, H0, env, S, R0, h⟩ => h.done R0 ⟨[], .nil, rfl⟩
  | (fk, fv) :: r, σ, H, Q, ⟨io, om, H0, env, S, R0, h⟩ => by
    refine ⟨io, om, H0, env, S, R0, (Post.bind R0 h).mono fun vk H1 ⟨io1, H01, S1, k, x1, R1, q1, h1⟩ => ?_⟩
    refine ⟨io1, om, H01, env, S1, R1, (Post.bind R1 h1).mono fun vv H2 ⟨io2, H02, S2, d, x2, R2, q2, h2⟩ => ?_⟩
    refine pairs_of ⟨io2, om, H02, env, S2, R2, (Post.bind (rp := rK K cl) R2 h2).mono fun ps H3 ⟨io3, H03, S3, kvs, x3, R3, ⟨vs, rv, ep⟩, h3⟩ => ?_⟩
    cases hk : keyD k with
    | none => simp only [hk] at h3; exact h3.elim
    | some key =>
      simp only [hk] at h3
      subst ep
      exact h3.done R3 ⟨vv :: vs, .cons (q2.ev x3).perm rv, by rw [keyD_rep hk q1]; rfl⟩
theorem d_dict {ks : List (Option Expr)} {vs : List Expr} {ps : PairD} (h : PpD X cl W ks vs ps) (hall : ks.all (·.isSome) = true := by rfl) (hl : ks.length = vs.length := by rfl) (h0 : ks ≠ [] := by exact fun z => by cases z) (h15 : ks.length ≤ 15 := by decide) : ED X cl W true (.Dict ks vs pos) (eDict ps) := by
  refine weakE (pe_disp h.pps hall hl h0 h15) fun σ H Q ⟨io, om, H0, env, S, R0, h⟩ => ?_
  intro p hp
  obtain ⟨st, ev⟩ := R0.st.new hp (.dK [])
  have R1 := R0.ev ev st
  have h1 := Post.ev ev h
  refine pairs_of ⟨io, om, H0, env, S, R1, (Post.bindE (rp := rK X.K cl) R1 h1).mono fun zs H2 ⟨io2, H02, S2, kvs, x2, R2, ⟨vs, rv, ep⟩, h2, eq⟩ => ?_⟩
  have pio : p ∉ io := fun m => R0.st.there m hp
  have hp0 : H0 p = none := R0.st.free0 hp
  have hv : H2 p = some (.dK []) := x2.keep _ _ upd_same pio
  have p02 : H02 p = none := by
    cases q : H02 p with
    | none => rfl
    | some o =>
      rcases x2.h0n _ _ q with z | z
      · rw [hp0] at z; cases z
      · rw [upd_same] at z; cases z
  have pio2 : p ∉ io2 := fun m => by
    rcases x2.new _ m with z | z
    · exact pio z
    · rw [upd_same] at z; cases z
  refine ⟨hv, _, ep, ?_, ?_⟩
  · have hlen := rv.length
    by_cases hk : kvs.length ≤ 15
    · simp only [List.length_zip, List.length_map]; omega
    · simp only [hk, if_false] at h2
      exact h2.elim
  · by_cases hk : kvs.length ≤ 15
    · rw [if_pos hk] at h2
      obtain ⟨ws, e, rw'⟩ := merge_zip (kvs := []) (ws := []) rv .nil
      -- back to the start
      have hE : eDict ps env S = .ok (.obj S2.length) (S2 ++ [.dict (kvs.foldl (fun acc kv => putD acc kv.1 kv.2) [])]) := by
        unfold eDict
        rw [eq]
        simp only [R.bind, hk, if_true]
      rw [hE] at h
      have st3 := (R2.st.upd (a := p) (.dK (mergeK [] ((kvs.map (·.1)).zip vs))) p02 pio2).newO (mo := .dict (kvs.foldl (fun acc kv => putD acc kv.1 kv.2) [])) pio2 p02 ⟨ws, by rw [upd_same]; exact congrArg (fun z => some (HO.dK z)) e, rw'⟩
      refine h _ _ _ _ (((ev.trans x2).upd _ hp).newO hp) st3 (.inl ⟨p, rfl, ?_⟩)
      rw [R2.st.len.symm]
      simp
    · simp only [hk, if_false] at h2
      exact h2.elim
end
def nFn (n : Nat) (sem : FnSemN) (fs : Sem1 (List D)) : Sem1 (List D) := fun env S => (fs env S).bind fun ds S1 => if ds.length = n then sem ds S1 else .bad
section
variable {X : Cx} {cl : Nat → Addr} {W : WX} {e : Expr} {es : List Expr} {pos q : Pos} {fs : Sem1 (List D)}
theorem n_fn {j k n : Nat} {x : Str} {sem : FnSemN} (F : FDN X.prog X.w X.K X.mg X.base cl j x n sem) (hr : Room k X.A) (tk : Takes X W) (ha : AD X cl W true (e :: es) fs) (hj : j ≤ k := by omega) (hg : Gl X x := by rfl)
    (hdb : (x == ("__debug__" : Str)) = false := by decide) (he : starEach (e :: es) X.env = (false, eval e X.env) :: starEach es X.env := by rfl) (hpl : (backTo pos (starEach es X.env)).any (·.1) = false := by rfl) :
    ND X cl W (.Call (.Name x q) (e :: es) [] pos) (nFn n sem fs) := by
  obtain ⟨f, fd, ps, hm, hk, hb, hF⟩ := F.ex
  refine weakE (pe_callS hF (hr.mono hj) hg hm hk hb (fun σ => passAt tk σ) ha hdb he hpl) fun σ H Q ⟨io, om, H0, env, S, R0, h⟩ => ?_
  refine ⟨io, om, H0, env, S, R0, (Post.bind R0 h).mono fun vs H1 ⟨io1, H01, S1, ds, x1, R1, q1, h1⟩ => ?_⟩
  by_cases hl : ds.length = n
  · rw [if_pos hl] at h1
    refine ⟨by rw [← q1.perm.length]; exact hl, io1, H01, S1, ds, R1.st, q1.perm, ?_⟩
    cases r : sem ds S1 with
    | ok d S2 =>
      rw [r] at h1
      intro io' H0' H' v y st ⟨a, ws, ev, z1, z2, z3, z4, z5⟩
      refine h1 io' H0' H' v y st ⟨a, ws, ev, z1, z2, z3, ?_, z5⟩
      cases hz : H a with
      | none => rfl
      | some o => exact absurd z4 (x1.dom a (by simp [hz]))
    | exc e' S2 => rw [r] at h1; exact h1
    | bad => rw [r] at h1; exact h1
  · rw [if_neg hl] at h1
    exact h1.elim
end
end G

namespace G
open PySem PySem.Spec PyProof.Rows L2
section
variable {K : PySem.W.Frag} {h : Heap} {mg : Str → Option Value} {cl : Nat → Addr}
theorem fnAt_mk {x : Str} {st : Stmt} {f : Addr} {oc kV dc pm cd ct : Value} {od an : Option Addr} {sl : Array (Option Value)} (X : K.In h) (G : h.Ns mainGlobals mg)
    (a : PySem.W.nsIn K mainGlobals x = some (some (.ref f))) (l : K.lookup f = some ⟨oc, od, .func (PySem.W.fnOf x x (defArgs st) (defBody st) (defScope st) .none kV dc pm an cd ct), sl⟩)
    (c : PySem.W.codeIn K cd x = true) (k : PySem.W.keepIn K (.ref f) = true) : FnAt K mg x st := ⟨f, _, PySem.W.mg_of X G a, k, fun_mk l c k⟩
theorem gc_int {x : Str} {i : Int} {t : Tok} (X : K.In h) (G : h.Ns mainGlobals mg) (a : PySem.W.nsIn K mainGlobals x = some (some (.int i t))) : GConst K mg cl x (.int i) :=
  ⟨_, .int i, PySem.W.mg_of X G a, ⟨t, rfl⟩, rfl⟩
theorem gc_str {x : Str} {i : Str} {t : Tok} (X : K.In h) (G : h.Ns mainGlobals mg) (a : PySem.W.nsIn K mainGlobals x = some (some (.str i t))) : GConst K mg cl x (.str i) :=
  ⟨_, .str i, PySem.W.mg_of X G a, ⟨t, rfl⟩, rfl⟩
theorem gc_tup {x : Str} {ds : List D} {vs : List V} {its : Array Value} {f : Addr} {n : Nat} {od : Option Addr} {sl : Array (Option Value)} (X : K.In h) (G : h.Ns mainGlobals mg) (a : PySem.W.nsIn K mainGlobals x = some (some (.ref f)))
    (l : K.lookup f = some ⟨.type "tuple", od, .seq its n, sl⟩) (hs : its.size ≤ sizeLine) (hv : Vals vs its.toList) (r : RepL K cl [] (fun _ => none) ds vs) : GConst K mg cl x (.tup ds) :=
  ⟨_, .ref f, PySem.W.mg_of X G a, rfl, f, vs, rfl, .inr ⟨_, its, n, l, rfl, rfl, hs, hv⟩, r⟩
theorem no_of {x : Str} (X : K.In h) (G : h.Ns mainGlobals mg) (a : PySem.W.nsIn K mainGlobals x = some none) : mg x = none := PySem.W.mg_none_of X G a
end
/-- the law's promise -/
def spLaw (K : PySem.W.Frag) : Sp := fun vs H Q _ => ∃ (a : Addr) (ns : List Int), vs = [.ref a] ∧ SqL K H a (ns.map V.int) ∧ ns.length ≤ 63 ∧ ∀ H', Q (.bl true) H'
/-- the script as data -/
def scr (ns : List Int) : D := .frl (ns.map D.int)
theorem Only.stR {K : PySem.W.Frag} {cl : Nat → Addr} {H : Hp} : StR K cl [] H H [] :=
  ⟨.refl _, rfl, fun _ _ h => by simp at h, fun _ _ _ h => by simp at h, fun _ _ _ h => by simp at h⟩
/-- a law that is worth True at every script -/
theorem law_fn {P : Program} {w : World} {K : PySem.W.Frag} {mg : Str → Option Value} {base : Heap} {cl : Nat → Addr} {k : Nat} {f : Addr} {fd : FuncData} {ps : List Str} {sem : FnSem} (F : FnOk P w K mg base (L2.CX P w) k f fd ps (spD K cl 1 sem))
    (hs : ∀ ns : List Int, ns.length ≤ 63 → ∃ S, sem [scr ns] [] = .ok (.bl true) S) : FnOk P w K mg base (L2.CX P w) k f fd ps (spLaw K) := by
  refine F.imp fun vs H Q E ⟨a, ns, e, hS, hl, q⟩ => ?_
  subst e
  obtain ⟨S, e⟩ := hs ns hl
  refine ⟨rfl, [], H, [], [scr ns], Only.stR, .cons ⟨a, ns.map V.int, rfl, hS, RepL_ints ns⟩ .nil, ?_⟩
  rw [e]
  exact fun io' H0' H' v x st r => by
    rw [r.bl]
    exact q H'
theorem walk {l : PySem.W.OpenLaw} {q : Program} {loose : List Str} {XP : (Str → Option Value) → Heap → Prop} {YP : World → Heap → Prop} {d : DefRec} {K : Params → PySem.W.Frag} {k : Nat} {x : Str} (hn : l.most = some 63) (hdf : d.params.defaults = []) (hr : Room k callerA)
    (hY : ∀ (w : World) (h : Heap), YP w h → (K w.params).In h)
    (F : ∀ (w : World) (mg : Str → Option Value) (fa : Addr) (h : Heap), (K w.params).In h → h.Ns mainGlobals mg → mg d.name = some (.ref fa) →
      ∃ fd : FuncData, (∀ (s : Shared) (u : Value), BindsTo s fd ⟨[u], []⟩ [(x, u)]) ∧ ∀ base : Heap, (K w.params).In base → base.Ns mainGlobals mg → FnOk l.prog w (K w.params) mg base (L2.CX l.prog w) k fa fd [x] (spLaw (K w.params))) :
    PySem.W.WalkO q loose XP YP l.row.toRowW d [] (fun f vs => PySem.call f vs) :=
  L2.walk_of (n := 63) (k := k) (x := x) (CX := fun w => L2.CX l.prog w) (sp := fun w => spLaw (K w.params)) hn (by decide) hdf hr hY F (fun _ _ a ns hl _ hS => ⟨a, ns, rfl, hS, hl, fun _ => rfl⟩)
    fun w H s e s' c => by
      obtain ⟨_, _, _, _, _, _, _, _, _, _, _, _, z⟩ := c
      exact z
end G

namespace G
open PySem PySem.Spec PyProof.Rows L2
section
variable {X : Cx} {CX : CXT} {k : Nat} {f C : Addr} {fd : FuncData} {ps : List Str} {sp : Sp} {E : L2.St → XK} {x m : Str} {p pos apos : Pos} {e o : Expr} {es : List Expr} {ta : TE} {t : TA} {mc : Value} {pl : Sem Bool}
def tMethS (C : Addr) (m : Str) (sp : Sp) (E : L2.St → XK) (ta : TE) (t : TA) : TE := fun σ H Q => ta σ H fun x H1 => ∃ a dx fs, x = .ref a ∧ H1 a = some (.ins C dx fs) ∧ fs.lookup m = none ∧
  t σ H1 fun vs H2 => sp (x :: vs) H2 Q (E σ)
theorem pe_methS (he : PE X o ta) (c : Cls X.K C) (hm : Meth X.K C m f) (F : FnOk X.prog X.w X.K X.mg X.base CX k f fd ps sp) (hr : Room k X.A) (hb : Binds X.K fd ps []) (hx : ∀ σ, PassesAt CX X σ (E σ)) (ha : PA X (e :: es) t)
    (hst : starEach (e :: es) X.env = (false, eval e X.env) :: starEach es X.env := by rfl) (hpl : (backTo pos (starEach es X.env)).any (·.1) = false := by rfl)
    (ht : eval (.Call (.Attribute o m apos) (e :: es) [] pos) X.env = (do
      let ov ← eval o X.env
      standAt apos.atName
      let (f, first) ← holding [ov] (getMethod ov m pl)
      callWith pos f first (backTo pos (starEach (e :: es) X.env)) (backToKw pos (keywordEach [] X.env))) := by rfl) :
    PE X (.Call (.Attribute o m apos) (e :: es) [] pos) (tMethS C m sp E ta t) := by
  refine ⟨fun pins s σ H Q I h => ?_⟩
  refine PySem.W.methodCall_KW (pl := pl) (thn (he.run pins s σ H _ I h) fun u s1 ⟨x, H1, I1, rx, a, dx, fs, ex, ea, l, q⟩ => ?_) ht
  subst ex
  obtain rfl : u = Value.ref a := rx
  refine getmeth_ok I1 ea c hm l ?_
  refine PySem.W.callWith_K (first := [.ref a]) (h₀ := X.base) I.ok.mod.kin hm.kp (thn (ha.run pos pins s1 σ H1 _ I1 q) fun us s2 ⟨vs, H2, I2, r, q2⟩ => ⟨I2.kIn, ?_⟩) hst hpl
  exact run_fnS (us := .ref a :: us) (vs := .ref a :: vs) F hr hb (hx σ) I2 (.cons rfl r) q2
theorem pe_methS0 (he : PE X o ta) (c : Cls X.K C) (hm : Meth X.K C m f) (F : FnOk X.prog X.w X.K X.mg X.base CX k f fd ps sp) (hr : Room k X.A) (hb : Binds X.K fd ps []) (hx : ∀ σ, PassesAt CX X σ (E σ))
    (ht : eval (.Call (.Attribute o m apos) [] [] pos) X.env = (do
      let ov ← eval o X.env
      standAt apos.atName
      let (f, first) ← holding [ov] (getMethod ov m pl)
      callWith pos f first (backTo pos (starEach [] X.env)) (backToKw pos (keywordEach [] X.env))) := by rfl) :
    PE X (.Call (.Attribute o m apos) [] [] pos) (tMethS C m sp E ta tNil) := by
  refine ⟨fun pins s σ H Q I h => ?_⟩
  refine PySem.W.methodCall_KW (pl := pl) (thn (he.run pins s σ H _ I h) fun u s1 ⟨x, H1, I1, rx, a, dx, fs, ex, ea, l, q⟩ => ?_) ht
  subst ex
  obtain rfl : u = Value.ref a := rx
  refine getmeth_ok I1 ea c hm l ?_
  exact PySem.W.callWith_K0 (first := [.ref a]) I1.kIn hm.kp (run_fnS (us := [.ref a]) (vs := [.ref a]) F hr hb (hx σ) I1 (.cons rfl .nil) q)
/-- f(), f a def of the module -/
theorem pe_callS0 (F : FnOk X.prog X.w X.K X.mg X.base CX k f fd ps sp) (hr : Room k X.A) (hg : Gl X x) (hm : X.mg x = some (.ref f)) (hk : PySem.W.keepIn X.K (.ref f) = true) (hb : Binds X.K fd ps []) (hx : ∀ σ, PassesAt CX X σ (E σ))
    (hdb : (x == ("__debug__" : Str)) = false := by decide) : PE X (.Call (.Name x p) [] [] pos) (tCallS sp E tNil) := by
  refine ⟨fun pins s σ H Q I h => ?_⟩
  refine wpAny_Call_Name_kw (ld_glob I hg hm ?_ hdb)
  exact PySem.W.callWith_K0 I.kIn hk (run_fnS (us := []) (vs := []) F hr hb (hx σ) I .nil h)
/-- C.m(..), m a def of the class, called by the class -/
def tClsFn (C : Addr) (sp : Sp) (E : L2.St → XK) (ta : TE) (t : TA) : TE := fun σ H Q => ta σ H fun x H1 => x = .ref C ∧ t σ H1 fun vs H2 => sp vs H2 Q (E σ)
theorem pe_clsFn (he : PE X o ta) (r : ClX.CRead X.K C mc) (c : ClX.CVal X.K C mc m (.ref f) (.ref f)) (hk : PySem.W.keepIn X.K (.ref f) = true) (F : FnOk X.prog X.w X.K X.mg X.base CX k f fd ps sp) (hr : Room k X.A) (hb : Binds X.K fd ps []) (hx : ∀ σ, PassesAt CX X σ (E σ)) (ha : PA X (e :: es) t)
    (hst : starEach (e :: es) X.env = (false, eval e X.env) :: starEach es X.env := by rfl) (hpl : (backTo pos (starEach es X.env)).any (·.1) = false := by rfl)
    (ht : eval (.Call (.Attribute o m apos) (e :: es) [] pos) X.env = (do
      let ov ← eval o X.env
      standAt apos.atName
      let (f, first) ← holding [ov] (getMethod ov m pl)
      callWith pos f first (backTo pos (starEach (e :: es) X.env)) (backToKw pos (keywordEach [] X.env))) := by rfl) :
    PE X (.Call (.Attribute o m apos) (e :: es) [] pos) (tClsFn C sp E ta t) := by
  refine ⟨fun pins s σ H Q I h => ?_⟩
  refine PySem.W.methodCall_KW (pl := pl) (thn (he.run pins s σ H _ I h) fun u s1 ⟨x, H1, I1, rx, ex, q⟩ => ?_) ht
  subst ex
  obtain rfl : u = Value.ref C := rx
  refine PySem.W.method_cls I1.kIn r.ga (ClX.getcval_ok I1 r c fun s2 I2 => ?_)
  refine PySem.W.callWith_K (first := []) (h₀ := X.base) I.ok.mod.kin hk (thn (ha.run pos pins s2 σ H1 _ I2 q) fun us s3 ⟨vs, H2, I3, rv, q2⟩ => ⟨I3.kIn, ?_⟩) hst hpl
  exact run_fnS (us := us) (vs := vs) F hr hb (hx σ) I3 rv q2
def tMakeS (C : Addr) (sp : Sp) (E : L2.St → XK) (t : TA) : TE := fun σ H Q => t σ H fun vs H1 => ∀ x dx, H1 x = none → H1 dx = none → dx ≠ x →
  sp (.ref x :: vs) (upd (upd H1 dx (.own x)) x (.ins C dx [])) (fun v H2 => v = .non ∧ Q (.ref x) H2) (E σ)
theorem run_makeS {pins : List (Addr × Obj)} {σ : L2.St} {H : Hp} {s : Shared} {Q : VK} {us : List Value} {vs : List V} (M : Mk X.K C f) (F : FnOk X.prog X.w X.K X.mg X.base CX k f fd ps sp) (hr : Room (k + 1) X.A) (hb : Binds X.K fd ps [])
    (hx : ∀ s H e s', Inv X pins σ H s → CX X.stack H s (E σ) e s' → X.xe e s') (I : Inv X pins σ H s) (r : Vals vs us)
    (h : ∀ x dx, H x = none → H dx = none → dx ≠ x → sp (.ref x :: vs) (upd (upd H dx (.own x)) x (.ins C dx [])) (fun v H2 => v = .non ∧ Q (.ref x) H2) (E σ)) :
    wpAny (model X.prog X.w) X.A (call (.ref C) us) (EP X pins σ Q) X.xe s := by
  have hq := h (s.heap.objs.size + 1) s.heap.objs.size (I.hok.fresh (Nat.le_succ _)) (I.hok.fresh (Nat.le_refl _)) (Nat.ne_of_lt (Nat.lt_succ_self _))
  have I2 := Inv.made (C := C) I
  have r2 : Vals (V.ref (s.heap.objs.size + 1) :: vs) (Value.ref (s.heap.objs.size + 1) :: us) := .cons rfl r
  have hl : ((Value.ref (s.heap.objs.size + 1) :: us) ++ []).length = ps.length := by
    have e := r2.length
    rw [F.len _ _ _ _ hq] at e
    rw [List.append_nil]
    exact e.symm
  have b := hb _ (Value.ref (s.heap.objs.size + 1) :: us) I2.kIn hl
  rw [List.append_nil] at b
  refine wpAny_call (make_map (f := f) I.kIn M.makes M.init (beq_iff_eq.mp M.fn) (codeAny_mono (F.run _ X.stack _ _ ⟨Value.ref (s.heap.objs.size + 1) :: us, []⟩ (Value.ref (s.heap.objs.size + 1) :: us) _ _ (E σ) (hr.make C us [])
    (I2.env0.make C us []) b r2 hq) fun r s' hq' => ?_))
  cases r with
  | error e => exact hx _ _ e s' I2 hq'
  | ok fl =>
    cases fl with
    | ret u =>
      obtain ⟨v, H', I3, rv, ev, q3⟩ := I2.after hq'
      subst ev
      exact ⟨rv, ⟨V.ref (s.heap.objs.size + 1), H', I3, rfl, q3⟩⟩
    | next => exact False.elim hq'
    | brk => exact False.elim hq'
    | cont => exact False.elim hq'
theorem pe_makeS (M : Mk X.K C f) (F : FnOk X.prog X.w X.K X.mg X.base CX k f fd ps sp) (hr : Room (k + 1) X.A) (hg : Gl X x) (hm : X.mg x = some (.ref C)) (hb : Binds X.K fd ps []) (hx : ∀ σ, PassesAt CX X σ (E σ))
    (ha : PA X (e :: es) t) (hdb : (x == ("__debug__" : Str)) = false := by decide) (he : starEach (e :: es) X.env = (false, eval e X.env) :: starEach es X.env := by rfl) (hpl : (backTo pos (starEach es X.env)).any (·.1) = false := by rfl) :
    PE X (.Call (.Name x p) (e :: es) [] pos) (tMakeS C sp E t) := by
  refine ⟨fun pins s σ H Q I h => ?_⟩
  refine wpAny_Call_Name_kw (ld_glob I hg hm ?_ hdb)
  refine PySem.W.callWith_K (h₀ := X.base) I.ok.mod.kin M.kp (thn (ha.run pos pins s σ H _ I h) fun us s1 ⟨vs, H1, I1, r, q⟩ => ⟨I1.kIn, ?_⟩) he hpl
  exact run_makeS M F hr hb (fun s H e s' J c => hx σ pins H s e s' J c) I1 r q
theorem pe_makeS0 (M : Mk X.K C f) (F : FnOk X.prog X.w X.K X.mg X.base CX k f fd ps sp) (hr : Room (k + 1) X.A) (hg : Gl X x) (hm : X.mg x = some (.ref C)) (hb : Binds X.K fd ps []) (hx : ∀ σ, PassesAt CX X σ (E σ))
    (hdb : (x == ("__debug__" : Str)) = false := by decide) : PE X (.Call (.Name x p) [] [] pos) (tMakeS C sp E tNil) := by
  refine ⟨fun pins s σ H Q I h => ?_⟩
  refine wpAny_Call_Name_kw (ld_glob I hg hm ?_ hdb)
  exact PySem.W.callWith_K0 I.kIn M.kp (run_makeS (us := []) M F hr hb (fun s H e s' J c => hx σ pins H s e s' J c) I .nil h)
end
end G

namespace G
open PySem PySem.Spec PyProof.Rows L2
/-- an instance: its class, its attributes -/
def insOf (S : Sto) : D → Option (Nat × List (Str × D))
  | .obj n => match S[n]? with
    | some (.ins c fs) => some (c, fs)
    | _ => none
  | .ins c ks ds => some (c, ks.zip ds)
  | _ => none
def eFld (cs : List Nat) (f : Str) (fa : Ex) : Ex := fun env S => (fa env S).bind fun x S1 => match insOf S1 x with
  | some (c, fs) => if c ∈ cs then opt (fs.lookup f) id S1 else .bad
  | none => .bad
def putFD (f : Str) (v : D) : List (Str × D) → List (Str × D)
  | [] => [(f, v)]
  | (g, x) :: r => if g = f then (g, v) :: r else (g, x) :: putFD f v r
/-- a store into an instance of the store -/
def setO (cs : List Nat) (f : Str) (x y : D) (S : Sto) : Option Sto := match x with
  | .obj n => (match S[n]? with
    | some (.ins c fs) => if c ∈ cs ∧ fs.length < 1000 then some (S.set n (.ins c (putFD f y fs))) else none
    | _ => none)
  | _ => none
def sFld (cs : List Nat) (f : Str) (fo fv : Ex) : Sm := fun env S => (fv env S).bs env fun y S1 => (fo env S1).bs env fun x S2 => match setO cs f x y S2 with
  | some S3 => .ok (.nx env) S3
  | none => .bad
def lkM (ms : List (Nat × FnSem)) (c : Nat) : Option FnSem := (ms.find? fun p => decide (p.1 = c)).map (·.2)
def eMeth (m : Str) (ms : List (Nat × FnSem)) (n : Nat) (fo : Ex) (fs : Sem1 (List D)) : Ex := fun env S => (fo env S).bind fun x S1 => match insOf S1 x with
  | some (c, at_) => (match lkM ms c, at_.lookup m with
    | some sem, none => (fs env S1).bind fun ds S2 => if ds.length + 1 = n then sem (x :: ds) S2 else .bad
    | _, _ => .bad)
  | none => .bad
def eMake (c n : Nat) (sem : FnSem) (fs : Sem1 (List D)) : Ex := fun env S => (fs env S).bind fun ds S1 => if ds.length + 1 = n then (sem (.obj S1.length :: ds) (S1 ++ [.ins c []])).bind fun r S2 => (match r with
  | .non => .ok (.obj S1.length) S2
  | _ => .bad) else .bad
section
variable {K : PySem.W.Frag} {cl : Nat → Addr} {io : List Addr} {H0 H : Hp} {S : Sto}
theorem lookup_zip {f : Str} {d : D} : ∀ {fs : List (Str × D)} {vs : List V}, RepL K cl io H0 (fs.map (·.2)) vs → fs.lookup f = some d → ∃ v, ((fs.map (·.1)).zip vs).lookup f = some v ∧ Rep K cl io H0 d v
  | [], _, _, e => by cases e
  | (g, x) :: r, _, h, e => by
    obtain ⟨v, t, rfl, h1, h2⟩ := h
    rw [List.map_cons, List.zip_cons_cons]
    rw [List.lookup_cons] at e ⊢
    cases hb : f == g with
    | true => rw [hb] at e; cases e; exact ⟨v, rfl, h1⟩
    | false => rw [hb] at e; exact lookup_zip h2 e
theorem lookup_none {f : Str} : ∀ {fs : List (Str × D)} {vs : List V}, (fs.map (·.2)).length = vs.length → fs.lookup f = none → ((fs.map (·.1)).zip vs).lookup f = none
  | [], _, _, _ => by simp
  | (g, x) :: r, [], h, _ => by simp at h
  | (g, x) :: r, v :: vs, h, e => by
    rw [List.map_cons, List.zip_cons_cons]
    rw [List.lookup_cons] at e ⊢
    cases hb : f == g with
    | true => rw [hb] at e; cases e
    | false => rw [hb] at e; exact lookup_none (by simpa using h) e
theorem ins_at {p : Bool} {x : D} {v : V} {c : Nat} {fs : List (Str × D)} (st : StR K cl io H0 H S) (r : rD K cl p io H0 H x v) (e : insOf S x = some (c, fs)) : ∃ a dx vs, v = .ref a ∧ H a = some (.ins (cl c) dx ((fs.map (·.1)).zip vs)) ∧ RepL K cl io H0 (fs.map (·.2)) vs := by
  unfold insOf at e
  split at e
  · rename_i n
    obtain ⟨a, rfl, hio⟩ := r.obj
    split at e
    · rename_i c' fs' hS
      cases e
      obtain ⟨dx, vs, h1, h2⟩ := st.ob _ a _ hio hS
      exact ⟨a, dx, vs, rfl, h1, h2⟩
    · cases e
  · rename_i c' ks ds
    cases e
    obtain ⟨a, dx, vs, rfl, h1, h2, h3⟩ := r.ins st
    have hl := h3.length
    refine ⟨a, dx, vs, rfl, ?_, ?_⟩
    · rw [List.map_fst_zip (by omega)]; exact h1
    · rw [List.map_snd_zip (by omega)]; exact h3
  · cases e
theorem putF_zip {f : Str} {d : D} {v : V} (hd : Rep K cl io H0 d v) : ∀ {fs : List (Str × D)} {vs : List V}, RepL K cl io H0 (fs.map (·.2)) vs → ∃ ws, putF f v ((fs.map (·.1)).zip vs) = ((putFD f d fs).map (·.1)).zip ws ∧ RepL K cl io H0 ((putFD f d fs).map (·.2)) ws
  | [], vs, h => by
    cases h
    exact ⟨[v], rfl, .cons hd .nil⟩
  | (g, x) :: r, _, h => by
    obtain ⟨w, t, rfl, h1, h2⟩ := h
    rw [List.map_cons, List.zip_cons_cons]
    unfold putF putFD
    by_cases hg : g = f
    · rw [if_pos hg, if_pos hg]
      exact ⟨v :: t, rfl, .cons hd h2⟩
    · rw [if_neg hg, if_neg hg]
      obtain ⟨ws, e, r2⟩ := putF_zip hd h2
      refine ⟨w :: ws, ?_, .cons h1 r2⟩
      show (g, w) :: putF f v _ = _
      rw [e]; rfl
end
section
variable {X : Cx} {cl : Nat → Addr} {W : WX} {T : Ent} {e a b c tg : Expr} {es : List Expr} {pos q : Pos} {K : PySem.W.Frag} {io io' : List Addr} {om : Own} {H0 H H0' H' : Hp} {env : Env} {S S' : Sto} {σ : L2.St} {p1 p2 : Bool} {fa fb fc : Ex} {fs : Sem1 (List D)} {f : Str} {cs : List Nat}
theorem d_fld (ha : ED X cl W p1 a fa) (hc : ∀ c ∈ cs, Cls X.K (cl c) ∧ NoAttr X.K (cl c) f) (hb : attributeBase a f X.env (eval a X.env) = eval a X.env := by rfl) : ED X cl W true (.Attribute a f pos) (eFld cs f fa) := by
  refine weakE (pe_fld ha hb) fun σ H Q ⟨io, om, H0, env, S, R0, h⟩ => ?_
  refine ⟨io, om, H0, env, S, R0, (Post.bind (rp := rD X.K cl p1) R0 h).mono fun vx H1 ⟨io1, H01, S1, x, e1, R1, q1, h1⟩ => ?_⟩
  split at h1
  · rename_i c fs hi
    split at h1
    · rename_i hm
      obtain ⟨d, hd, h2⟩ := opt_post h1
      obtain ⟨p, dx, vs, rfl, hp, rp⟩ := ins_at R1.st q1 hi
      obtain ⟨v, hv, rv⟩ := lookup_zip rp hd
      exact ⟨p, _, dx, _, v, rfl, hp, (hc _ hm).1, (hc _ hm).2, hv, h2.done R1 (.inl rv)⟩
    · exact h1.elim
  · exact h1.elim
theorem s_fld {o value : Expr} {pos' : Pos} {fo fv : Ex} (ho : ED X cl W p1 o fo) (hv : ED X cl W true value fv) (hc : ∀ c ∈ cs, Cls X.K (cl c) ∧ NoAttr X.K (cl c) f) (hs : swapsWith value (some (.Attribute o f pos')) pos.line X.env = Pure.pure false := by rfl) :
    SD X cl T W (.Assign [.Attribute o f pos'] value pos) (sFld cs f fo fv) := by
  refine weakS (ps_fld ho hv hs) fun D σ H ⟨io, om, H0, env, S, R0, h⟩ => ?_
  refine ⟨io, om, H0, env, S, R0.rel, (PostS.bind R0 h).mono fun v H1 ⟨io1, H01, S1, y, x1, R1, q1, h1⟩ => ?_⟩
  refine ⟨io1, om, H01, env, S1, R1.rel, (PostS.bind R1 h1).mono fun w H2 ⟨io2, H02, S2, x, x2, R2, q2, h2⟩ => ?_⟩
  unfold setO at h2
  split at h2
  · rename_i S3 he
    split at he
    · rename_i n
      split at he
      · rename_i c fs hS
        split at he
        · rename_i hm
          cases he
          obtain ⟨a, rfl, hio⟩ := q2.obj
          obtain ⟨dx, vs, hH, rv⟩ := R2.rel.st.ob _ a _ hio hS
          obtain ⟨ws, e, rw'⟩ := putF_zip (f := f) (q1.ev x2).perm rv
          refine ⟨a, _, dx, _, rfl, hH, (hc _ hm.1).1, (hc _ hm.1).2, by rw [List.length_zip, List.length_map]; omega, ?_⟩
          exact h2 _ _ _ _ _ (R2.putO hio ⟨dx, ws, by rw [upd_same, e], rw'⟩)
        · cases he
      · cases he
    · cases he
  · exact h2.elim
/-- a method of a class, worth sem -/
structure MD (P : Program) (w : World) (K : PySem.W.Frag) (mg : Str → Option Value) (base : Heap) (cl : Nat → Addr) (k c : Nat) (m : Str) (n : Nat) (sem : FnSem) : Prop where
  cls : Cls K (cl c)
  ex : ∃ f fd ps, Meth K (cl c) m f ∧ Binds K fd ps [] ∧ FnOk P w K mg base (L2.CX P w) k f fd ps (spD K cl n sem)
theorem MD.mono {P : Program} {w : World} {K : PySem.W.Frag} {mg : Str → Option Value} {base : Heap} {cl : Nat → Addr} {j k c n : Nat} {m : Str} {sem : FnSem} (h : MD P w K mg base cl j c m n sem) (l : j ≤ k) : MD P w K mg base cl k c m n sem := by
  obtain ⟨f, fd, ps, a, b, d⟩ := h.ex
  exact ⟨h.cls, f, fd, ps, a, b, d.mono l⟩
theorem peEx {ι : Type} {e : Expr} {t : ι → TE} (h : ∀ i, PE X e (t i)) : PE X e (fun σ H Q => ∃ i, t i σ H Q) := ⟨fun pins s σ H Q I ⟨i, w⟩ => (h i).run pins s σ H Q I w⟩
theorem lkM_mem {ms : List (Nat × FnSem)} {c : Nat} {sem : FnSem} (h : lkM ms c = some sem) : (c, sem) ∈ ms := by
  unfold lkM at h
  obtain ⟨p, hp, rfl⟩ := Option.map_eq_some_iff.mp h
  have h1 := List.find?_some hp
  have h2 := List.mem_of_find?_eq_some hp
  have : p.1 = c := of_decide_eq_true h1
  subst this
  exact h2
theorem d_meth {m : Str} {apos : Pos} {k n : Nat} {ms : List (Nat × FnSem)} {p0 : Nat × FnSem} (hms : ∀ p ∈ p0 :: ms, MD X.prog X.w X.K X.mg X.base cl k p.1 m n p.2) (hr : Room k X.A) (tk : Takes X W) (ho : ED X cl W p1 a fa) (ha : AD X cl W true (e :: es) fs)
    {pl : Sem Bool} (hst : starEach (e :: es) X.env = (false, eval e X.env) :: starEach es X.env := by rfl) (hpl : (backTo pos (starEach es X.env)).any (·.1) = false := by rfl)
    (ht : eval (.Call (.Attribute a m apos) (e :: es) [] pos) X.env = (do
      let ov ← eval a X.env
      standAt apos.atName
      let (f, first) ← holding [ov] (getMethod ov m pl)
      callWith pos f first (backTo pos (starEach (e :: es) X.env)) (backToKw pos (keywordEach [] X.env))) := by rfl) :
    ED X cl W true (.Call (.Attribute a m apos) (e :: es) [] pos) (eMeth m (p0 :: ms) n fa fs) := by
  have key : ∀ i : {p // p ∈ p0 :: ms}, ∃ t, PE X (.Call (.Attribute a m apos) (e :: es) [] pos) t ∧ ∀ σ H Q, t σ H Q = tMethS (cl i.1.1) m (spD X.K cl n i.1.2) (WE W) (tG X.K cl (rD X.K cl p1) W fa) (tG X.K cl (rL X.K cl true) W fs) σ H Q := fun i => by
    obtain ⟨f, fd, ps, hm, hb, F⟩ := (hms i.1 i.2).ex
    exact ⟨_, pe_methS ho (hms i.1 i.2).cls hm F hr hb (fun σ => passAt tk σ) ha hst hpl ht, fun _ _ _ => rfl⟩
  refine weakE (peEx (ι := {p // p ∈ p0 :: ms}) (t := fun i => tMethS (cl i.1.1) m (spD X.K cl n i.1.2) (WE W) (tG X.K cl (rD X.K cl p1) W fa) (tG X.K cl (rL X.K cl true) W fs)) fun i => by
    obtain ⟨t, h, e⟩ := key i
    exact weakE h fun σ H Q z => by rw [e]; exact z) fun σ H Q ⟨io, om, H0, env, S, R0, h⟩ => ?_
  have pick : ∃ i : {p // p ∈ p0 :: ms}, ∀ x S1 c at_ sem, fa env S = .ok x S1 → insOf S1 x = some (c, at_) → lkM (p0 :: ms) c = some sem → i.1 = (c, sem) := by
    by_cases hq : ∃ x S1 c at_ sem, fa env S = .ok x S1 ∧ insOf S1 x = some (c, at_) ∧ lkM (p0 :: ms) c = some sem
    · obtain ⟨x, S1, c, at_, sem, h1, h2, h3⟩ := hq
      refine ⟨⟨(c, sem), lkM_mem h3⟩, fun x' S1' c' at' sem' z1 z2 z3 => ?_⟩
      rw [h1] at z1; cases z1
      rw [h2] at z2; cases z2
      rw [h3] at z3; cases z3
      rfl
    · exact ⟨⟨p0, List.mem_cons_self⟩, fun x S1 c at_ sem z1 z2 z3 => absurd ⟨x, S1, c, at_, sem, z1, z2, z3⟩ hq⟩
  obtain ⟨i, hi⟩ := pick
  refine ⟨i, io, om, H0, env, S, R0, (Post.bindE (rp := rD X.K cl p1) R0 h).mono fun vx H1 ⟨io1, H01, S1, x, e1, R1, q1, h1, hx⟩ => ?_⟩
  split at h1
  · rename_i c at_ hio
    split at h1
    · rename_i sem hl hn
      have he := hi x S1 c at_ sem hx hio hl
      obtain ⟨p, dx, vs, rfl, hp, rp⟩ := ins_at R1.st q1 hio
      rw [he]
      refine ⟨p, dx, _, rfl, hp, lookup_none rp.length hn, ?_⟩
      refine ⟨io1, om, H01, env, S1, R1, (Post.bind (rp := rL X.K cl true) R1 h1).mono fun vs H2 ⟨io2, H02, S2, ds, x2, R2, q2, h2⟩ => ?_⟩
      by_cases hlen : ds.length + 1 = n
      · rw [if_pos hlen] at h2
        refine ⟨by rw [List.length_cons, ← q2.perm.length]; exact hlen, io2, H02, S2, x :: ds, R2.st, .cons ?_ q2.perm, ?_⟩
        · have hb := q1.ev x2
          rcases hb with hb | ⟨_, ds', _, _, ed, _⟩
          · exact hb
          · subst ed
            simp [insOf] at hio
        · show Post X.K cl (rD X.K cl true) (wOf (WE W σ)) io2 H02 H2 [] Q (sem (x :: ds) S2)
          cases r : sem (x :: ds) S2 with
          | ok d S3 => rw [r] at h2; exact h2
          | exc e' S3 => rw [r] at h2; exact h2
          | bad => rw [r] at h2; exact h2
      · rw [if_neg hlen] at h2
        exact h2.elim
    · exact h1.elim
  · exact h1.elim
theorem d_meth0 {m : Str} {apos : Pos} {k n : Nat} {ms : List (Nat × FnSem)} {p0 : Nat × FnSem} (hms : ∀ p ∈ p0 :: ms, MD X.prog X.w X.K X.mg X.base cl k p.1 m n p.2) (hr : Room k X.A) (tk : Takes X W) (ho : ED X cl W p1 a fa)
    {pl : Sem Bool} (ht : eval (.Call (.Attribute a m apos) [] [] pos) X.env = (do
      let ov ← eval a X.env
      standAt apos.atName
      let (f, first) ← holding [ov] (getMethod ov m pl)
      callWith pos f first (backTo pos (starEach [] X.env)) (backToKw pos (keywordEach [] X.env))) := by rfl) :
    ED X cl W true (.Call (.Attribute a m apos) [] [] pos) (eMeth m (p0 :: ms) n fa aNil) := by
  have key : ∀ i : {p // p ∈ p0 :: ms}, ∃ t, PE X (.Call (.Attribute a m apos) [] [] pos) t ∧ ∀ σ H Q, t σ H Q = tMethS (cl i.1.1) m (spD X.K cl n i.1.2) (WE W) (tG X.K cl (rD X.K cl p1) W fa) tNil σ H Q := fun i => by
    obtain ⟨f, fd, ps, hm, hb, F⟩ := (hms i.1 i.2).ex
    exact ⟨_, pe_methS0 ho (hms i.1 i.2).cls hm F hr hb (fun σ => passAt tk σ) ht, fun _ _ _ => rfl⟩
  refine weakE (peEx (ι := {p // p ∈ p0 :: ms}) (t := fun i => tMethS (cl i.1.1) m (spD X.K cl n i.1.2) (WE W) (tG X.K cl (rD X.K cl p1) W fa) tNil) fun i => by
    obtain ⟨t, h, e⟩ := key i
    exact weakE h fun σ H Q z => by rw [e]; exact z) fun σ H Q ⟨io, om, H0, env, S, R0, h⟩ => ?_
  have pick : ∃ i : {p // p ∈ p0 :: ms}, ∀ x S1 c at_ sem, fa env S = .ok x S1 → insOf S1 x = some (c, at_) → lkM (p0 :: ms) c = some sem → i.1 = (c, sem) := by
    by_cases hq : ∃ x S1 c at_ sem, fa env S = .ok x S1 ∧ insOf S1 x = some (c, at_) ∧ lkM (p0 :: ms) c = some sem
    · obtain ⟨x, S1, c, at_, sem, h1, h2, h3⟩ := hq
      refine ⟨⟨(c, sem), lkM_mem h3⟩, fun x' S1' c' at' sem' z1 z2 z3 => ?_⟩
      rw [h1] at z1; cases z1
      rw [h2] at z2; cases z2
      rw [h3] at z3; cases z3
      rfl
    · exact ⟨⟨p0, List.mem_cons_self⟩, fun x S1 c at_ sem z1 z2 z3 => absurd ⟨x, S1, c, at_, sem, z1, z2, z3⟩ hq⟩
  obtain ⟨i, hi⟩ := pick
  refine ⟨i, io, om, H0, env, S, R0, (Post.bindE (rp := rD X.K cl p1) R0 h).mono fun vx H1 ⟨io1, H01, S1, x, e1, R1, q1, h1, hx⟩ => ?_⟩
  split at h1
  · rename_i c at_ hio
    split at h1
    · rename_i sem hl hn
      have he := hi x S1 c at_ sem hx hio hl
      obtain ⟨p, dx, vs, rfl, hp, rp⟩ := ins_at R1.st q1 hio
      rw [he]
      refine ⟨p, dx, _, rfl, hp, lookup_none rp.length hn, ?_⟩
      have h2 : Post X.K cl (rD X.K cl true) W io1 H01 H1 σ Q (if 0 + 1 = n then sem [x] S1 else .bad) := h1
      by_cases hlen : 0 + 1 = n
      · rw [if_pos hlen] at h2
        refine ⟨hlen, io1, H01, S1, [x], R1.st, .cons ?_ .nil, ?_⟩
        · rcases q1 with hb | ⟨_, ds', _, _, ed, _⟩
          · exact hb
          · subst ed
            simp [insOf] at hio
        · show Post X.K cl (rD X.K cl true) (wOf (WE W σ)) io1 H01 H1 [] Q (sem [x] S1)
          cases r : sem [x] S1 with
          | ok d S3 => rw [r] at h2; exact h2
          | exc e' S3 => rw [r] at h2; exact h2
          | bad => rw [r] at h2; exact h2
      · rw [if_neg hlen] at h2
        exact h2.elim
    · exact h1.elim
  · exact h1.elim

/-- f(), f a def of the module -/
theorem d_call0 {j k : Nat} {x : Str} {sem : FnSem} (F : FD X.prog X.w X.K X.mg X.base cl j x 0 sem) (hr : Room k X.A) (tk : Takes X W) (hj : j ≤ k := by omega) (hg : Gl X x := by rfl)
    (hdb : (x == ("__debug__" : Str)) = false := by decide) : ED X cl W true (.Call (.Name x q) [] [] pos) (eFn 0 sem aNil) := by
  obtain ⟨f, fd, ps, hm, hk, hb, hF⟩ := F.ex
  refine weakE (pe_callS0 hF (hr.mono hj) hg hm hk hb (fun σ => passAt tk σ) hdb) fun σ H Q ⟨io, om, H0, env, S, R0, h⟩ => ?_
  have h : Post X.K cl (rD X.K cl true) W io H0 H σ Q (sem [] S) := h
  refine ⟨rfl, io, H0, S, [], R0.st, .nil, ?_⟩
  cases r : sem [] S with
  | ok d S2 => rw [r] at h; exact h
  | exc e' S2 => rw [r] at h; exact h
  | bad => rw [r] at h; exact h
/-- a class that is made by its own __init__, worth sem -/
structure KD' (P : Program) (w : World) (K : PySem.W.Frag) (mg : Str → Option Value) (base : Heap) (cl : Nat → Addr) (k c : Nat) (x : Str) (n : Nat) (sem : FnSem) : Prop where
  ex : ∃ f fd ps, mg x = some (.ref (cl c)) ∧ Mk K (cl c) f ∧ Binds K fd ps [] ∧ FnOk P w K mg base (L2.CX P w) k f fd ps (spD K cl n sem)
theorem make_post {c n : Nat} {sem : FnSem} {ds : List D} {vs : List V} {Q : VK} (R1 : Rel X.K cl io om H0 H env S σ) (r : RepL X.K cl io H0 ds vs) (hl : ds.length + 1 = n)
    (h : Post X.K cl (rD X.K cl true) W io H0 H σ Q ((sem (.obj S.length :: ds) (S ++ [.ins c []])).bind fun r S2 => (match r with
      | .non => .ok (.obj S.length) S2
      | _ => .bad))) : ∀ x dx, H x = none → H dx = none → dx ≠ x →
    spD X.K cl n sem (.ref x :: vs) (upd (upd H dx (.own x)) x (.ins (cl c) dx [])) (fun v H2 => v = .non ∧ Q (.ref x) H2) (WE W σ) := fun x dx nx ndx ne => by
  obtain ⟨st1, ev1⟩ := R1.st.new0 ndx (.own x)
  have nx1 : upd H dx (.own x) x = none := by rw [upd_ne (Ne.symm ne)]; exact nx
  obtain ⟨st2, ev2⟩ := st1.new nx1 (.ins (cl c) dx [])
  have pio : x ∉ io := fun m => R1.st.there m nx
  have h0 : upd H0 dx (.own x) x = none := by rw [upd_ne (Ne.symm ne)]; exact R1.st.free0 nx
  have st3 := st2.newO (mo := .ins c []) pio h0 ⟨dx, [], by rw [upd_same]; rfl, rfl⟩
  have ev3 : Ev io H0 H (io ++ [x]) (upd H0 dx (.own x)) (upd (upd H dx (.own x)) x (.ins (cl c) dx [])) := (ev1.trans ev2).newO nx
  have hat : (io ++ [x])[S.length]? = some x := by rw [← R1.st.len]; simp
  have hrep : Rep X.K cl (io ++ [x]) (upd H0 dx (.own x)) (.obj S.length) (.ref x) := ⟨x, rfl, hat⟩
  refine ⟨by rw [List.length_cons, ← r.length]; exact hl, io ++ [x], upd H0 dx (.own x), S ++ [.ins c []], .obj S.length :: ds, st3, .cons hrep (RepL.mono ev3.pre ev3.h0 _ _ r), ?_⟩
  cases q : sem (.obj S.length :: ds) (S ++ [.ins c []]) with
  | ok d S2 =>
    rw [q] at h
    cases d with
    | non =>
      intro io' H0' H' v ev st rp
      refine ⟨rp.non, ?_⟩
      exact h _ _ _ _ (ev3.trans ev) st (.inl ⟨x, rfl, ev.pre _ _ hat⟩)
    | _ => exact h.elim
  | exc e' S2 =>
    rw [q] at h
    exact fun io' H0' H' cc dd ev st rp => h _ _ _ _ _ (ev3.trans ev) st rp
  | bad => rw [q] at h; exact h
theorem d_make {j k c n : Nat} {x : Str} {sem : FnSem} (F : KD' X.prog X.w X.K X.mg X.base cl j c x n sem) (hr : Room k X.A) (tk : Takes X W) (ha : AD X cl W true (e :: es) fs) (hj : j + 1 ≤ k := by omega) (hg : Gl X x := by rfl)
    (hdb : (x == ("__debug__" : Str)) = false := by decide) (he : starEach (e :: es) X.env = (false, eval e X.env) :: starEach es X.env := by rfl) (hpl : (backTo pos (starEach es X.env)).any (·.1) = false := by rfl) :
    ED X cl W true (.Call (.Name x q) (e :: es) [] pos) (eMake c n sem fs) := by
  obtain ⟨f, fd, ps, hm, M, hb, hF⟩ := F.ex
  refine weakE (pe_makeS M hF (hr.mono hj) hg hm hb (fun σ => passAt tk σ) ha hdb he hpl) fun σ H Q ⟨io, om, H0, env, S, R0, h⟩ => ?_
  refine ⟨io, om, H0, env, S, R0, (Post.bind R0 h).mono fun vs H1 ⟨io1, H01, S1, ds, x1, R1, q1, h1⟩ => ?_⟩
  by_cases hl : ds.length + 1 = n
  · rw [if_pos hl] at h1
    exact make_post R1 q1.perm hl h1
  · rw [if_neg hl] at h1
    exact h1.elim
theorem d_make0 {j k c n : Nat} {x : Str} {sem : FnSem} (F : KD' X.prog X.w X.K X.mg X.base cl j c x n sem) (hr : Room k X.A) (tk : Takes X W) (hj : j + 1 ≤ k := by omega) (hg : Gl X x := by rfl)
    (hdb : (x == ("__debug__" : Str)) = false := by decide) : ED X cl W true (.Call (.Name x q) [] [] pos) (eMake c n sem aNil) := by
  obtain ⟨f, fd, ps, hm, M, hb, hF⟩ := F.ex
  refine weakE (pe_makeS0 M hF (hr.mono hj) hg hm hb (fun σ => passAt tk σ) hdb) fun σ H Q ⟨io, om, H0, env, S, R0, h⟩ => ?_
  by_cases hl : ([] : List D).length + 1 = n
  · have h : Post X.K cl (rD X.K cl true) W io H0 H σ Q (if ([] : List D).length + 1 = n then _ else _) := h
    rw [if_pos hl] at h
    exact make_post R0 .nil hl h
  · have h : Post X.K cl (rD X.K cl true) W io H0 H σ Q (if ([] : List D).length + 1 = n then _ else _) := h
    rw [if_neg hl] at h
    exact h.elim
/-- C.m(..), m a def of the class C, called by the class -/
structure CD (P : Program) (w : World) (K : PySem.W.Frag) (mg : Str → Option Value) (base : Heap) (cl : Nat → Addr) (k c : Nat) (x m : Str) (n : Nat) (sem : FnSem) : Prop where
  ex : ∃ f fd ps mc, mg x = some (.ref (cl c)) ∧ ClX.CRead K (cl c) mc ∧ ClX.CVal K (cl c) mc m (.ref f) (.ref f) ∧ PySem.W.keepIn K (.ref f) = true ∧ Binds K fd ps [] ∧ FnOk P w K mg base (L2.CX P w) k f fd ps (spD K cl n sem)
theorem d_clsFn {j k c n : Nat} {x m : Str} {apos : Pos} {sem : FnSem} (F : CD X.prog X.w X.K X.mg X.base cl j c x m n sem) (hr : Room k X.A) (tk : Takes X W) (ha : AD X cl W true (e :: es) fs) (hj : j ≤ k := by omega) (hg : Gl X x := by rfl) {pl : Sem Bool}
    (hdb : (x == ("__debug__" : Str)) = false := by decide) (hst : starEach (e :: es) X.env = (false, eval e X.env) :: starEach es X.env := by rfl) (hpl : (backTo pos (starEach es X.env)).any (·.1) = false := by rfl)
    (ht : eval (.Call (.Attribute (.Name x q) m apos) (e :: es) [] pos) X.env = (do
      let ov ← eval (.Name x q) X.env
      standAt apos.atName
      let (f, first) ← holding [ov] (getMethod ov m pl)
      callWith pos f first (backTo pos (starEach (e :: es) X.env)) (backToKw pos (keywordEach [] X.env))) := by rfl) :
    ED X cl W true (.Call (.Attribute (.Name x q) m apos) (e :: es) [] pos) (eFn n sem fs) := by
  obtain ⟨f, fd, ps, mc, hm, r, cv, hk, hb, hF⟩ := F.ex
  refine weakE (pe_clsFn (pe_glob (v := .ref (cl c)) hg hm rfl hdb) r cv hk hF (hr.mono hj) hb (fun σ => passAt tk σ) ha hst hpl ht) fun σ H Q ⟨io, om, H0, env, S, R0, h⟩ => ?_
  refine ⟨rfl, io, om, H0, env, S, R0, (Post.bind R0 h).mono fun vs H1 ⟨io1, H01, S1, ds, x1, R1, q1, h1⟩ => ?_⟩
  by_cases hl : ds.length = n
  · rw [if_pos hl] at h1
    refine ⟨by rw [← q1.perm.length]; exact hl, io1, H01, S1, ds, R1.st, q1.perm, ?_⟩
    cases r : sem ds S1 with
    | ok d S2 => rw [r] at h1; exact h1
    | exc e' S2 => rw [r] at h1; exact h1
    | bad => rw [r] at h1; exact h1
  · rw [if_neg hl] at h1
    exact h1.elim
end
mutual
/-- only objects below n are named -/
def scp (n : Nat) : D → Bool
  | .non => true
  | .bl _ => true
  | .int _ => true
  | .str _ => true
  | .tup ds => scpL n ds
  | .lst ds => scpL n ds
  | .frl ds => scpL n ds
  | .ins _ _ ds => scpL n ds
  | .obj m => decide (m < n)
def scpL (n : Nat) : List D → Bool
  | [] => true
  | d :: ds => scp n d && scpL n ds
end
def scpO (n : Nat) : MO → Bool
  | .dict kvs => scpL n (kvs.map (·.2))
  | .lst ds => scpL n ds
  | .ins _ fs => scpL n (fs.map (·.2))
open Classical in
noncomputable def frzO (S1 S2 : Sto) : R D := match S2[S1.length]? with
  | some (.ins c fs) => if S2 = S1 ++ [.ins c fs] ∧ scpL S1.length (fs.map (·.2)) = true then .ok (.ins c (fs.map (·.1)) (fs.map (·.2))) S1 else .bad
  | _ => .bad
noncomputable def eMakeF (c n : Nat) (sem : FnSem) (fs : Sem1 (List D)) : Ex := fun env S => (fs env S).bind fun ds S1 => if ds.length + 1 = n then (match sem (.obj S1.length :: ds) (S1 ++ [.ins c []]) with
  | .ok .non S2 => frzO S1 S2
  | _ => .bad) else .bad
section
variable {K : PySem.W.Frag} {cl : Nat → Addr} {H : Hp}
mutual
theorem Rep.scp {io : List Addr} : ∀ {d : D} {v : V}, Rep K cl io H d v → scp io.length d = true
  | .non, _, _ => rfl
  | .bl _, _, _ => rfl
  | .int _, _, _ => rfl
  | .str _, _, _ => rfl
  | .tup ds, _, h => by
    obtain ⟨a, vs, _, _, r⟩ := h
    simpa [G.scp] using RepL.scp r
  | .lst ds, _, h => by
    obtain ⟨a, vs, _, _, r⟩ := h
    simpa [G.scp] using RepL.scp r
  | .frl ds, _, h => by
    obtain ⟨a, vs, _, _, r⟩ := h
    simpa [G.scp] using RepL.scp r
  | .ins c ks ds, _, h => by
    obtain ⟨a, dx, vs, _, _, _, r⟩ := h
    simpa [G.scp] using RepL.scp r
  | .obj n, _, h => by
    obtain ⟨a, _, e⟩ := h
    simpa [G.scp] using (List.getElem?_eq_some_iff.mp e).1
theorem RepL.scp {io : List Addr} : ∀ {ds : List D} {vs : List V}, RepL K cl io H ds vs → scpL io.length ds = true
  | [], _, _ => by simp [scpL]
  | d :: ds, _, h => by
    obtain ⟨v, r, _, h1, h2⟩ := h
    simp [scpL, Rep.scp h1, RepL.scp h2]
end
mutual
theorem Rep.narrow {io io' : List Addr} (hp : Pre io io') : ∀ {d : D} {v : V}, G.scp io.length d = true → Rep K cl io' H d v → Rep K cl io H d v
  | .non, _, _, h => h
  | .bl _, _, _, h => h
  | .int _, _, _, h => h
  | .str _, _, _, h => h
  | .tup ds, _, s, h => by
    obtain ⟨a, vs, e, q, r⟩ := h
    exact ⟨a, vs, e, q, RepL.narrow hp (by simpa [G.scp] using s) r⟩
  | .lst ds, _, s, h => by
    obtain ⟨a, vs, e, q, r⟩ := h
    exact ⟨a, vs, e, q, RepL.narrow hp (by simpa [G.scp] using s) r⟩
  | .frl ds, _, s, h => by
    obtain ⟨a, vs, e, q, r⟩ := h
    exact ⟨a, vs, e, q, RepL.narrow hp (by simpa [G.scp] using s) r⟩
  | .ins c ks ds, _, s, h => by
    obtain ⟨a, dx, vs, e, q, l, r⟩ := h
    exact ⟨a, dx, vs, e, q, l, RepL.narrow hp (by simpa [G.scp] using s) r⟩
  | .obj n, _, s, h => by
    obtain ⟨a, e, q⟩ := h
    have hn : n < io.length := by simpa [G.scp] using s
    have := hp n _ (List.getElem?_eq_getElem hn)
    rw [this] at q
    cases q
    exact ⟨_, e, List.getElem?_eq_getElem hn⟩
theorem RepL.narrow {io io' : List Addr} (hp : Pre io io') : ∀ {ds : List D} {vs : List V}, scpL io.length ds = true → RepL K cl io' H ds vs → RepL K cl io H ds vs
  | [], _, _, h => h
  | d :: ds, _, s, h => by
    obtain ⟨v, r, e, h1, h2⟩ := h
    simp only [scpL, Bool.and_eq_true] at s
    exact ⟨v, r, e, Rep.narrow hp s.1 h1, RepL.narrow hp s.2 h2⟩
end
theorem RepO.scpO {io : List Addr} {H0 : Hp} {a : Addr} : ∀ {o : MO}, RepO K cl io H0 H a o → G.scpO io.length o = true
  | .dict _, ⟨_, _, r⟩ => RepL.scp r
  | .lst _, ⟨_, _, r⟩ => RepL.scp r
  | .ins _ _, ⟨_, _, _, r⟩ => RepL.scp r
theorem RepO.narrow {io io' : List Addr} {H0 H0' : Hp} {a : Addr} (hp : Pre io io') (hs : Same H0 H0') : ∀ {o : MO}, G.scpO io.length o = true → RepO K cl io' H0 H a o → RepO K cl io H0' H a o
  | .dict _, s, ⟨vs, h, r⟩ => ⟨vs, h, RepL.mono (.refl _) hs _ _ (RepL.narrow hp s r)⟩
  | .lst _, s, ⟨vs, h, r⟩ => ⟨vs, h, RepL.mono (.refl _) hs _ _ (RepL.narrow hp s r)⟩
  | .ins _ _, s, ⟨dx, vs, h, r⟩ => ⟨dx, vs, h, RepL.mono (.refl _) hs _ _ (RepL.narrow hp s r)⟩
theorem frzO_ok {S1 S2 S' : Sto} {d : D} (h : frzO S1 S2 = .ok d S') : ∃ c fs, S2 = S1 ++ [.ins c fs] ∧ scpL S1.length (fs.map (·.2)) = true ∧ d = .ins c (fs.map (·.1)) (fs.map (·.2)) ∧ S' = S1 := by
  unfold frzO at h
  split at h
  · split at h
    · rename_i c fs hS hc
      cases h
      exact ⟨c, fs, hc.1, hc.2, rfl, rfl⟩
    · cases h
  · cases h
theorem StR.freezeO {io : List Addr} {H0 : Hp} {S : Sto} {c : Nat} {fs : List (Str × D)} {x : Addr} (st : StR K cl (io ++ [x]) H0 H (S ++ [.ins c fs])) (hS : ∀ o ∈ S, G.scpO io.length o = true) (hf : scpL io.length (fs.map (·.2)) = true) :
    ∃ dx vs, H x = some (.ins (cl c) dx ((fs.map (·.1)).zip vs)) ∧ RepL K cl io H0 (fs.map (·.2)) vs ∧ H0 x = none ∧ x ∉ io ∧ StR K cl io (L2.upd H0 x (HO.ins (cl c) dx ((fs.map (·.1)).zip vs))) H S := by
  have hl : io.length = S.length := by have := st.len; simpa using this
  have hat : (io ++ [x])[io.length]? = some x := by simp
  have hpre : Pre io (io ++ [x]) := fun n b e => by rw [List.getElem?_append_left (List.getElem?_eq_some_iff.mp e).1]; exact e
  obtain ⟨dx, vs, h1, h2⟩ := st.ob io.length x (.ins c fs) hat (by rw [hl]; simp)
  have h0 : H0 x = none := st.out _ _ hat
  have hni : x ∉ io := fun m => by
    obtain ⟨n, e⟩ := List.mem_iff_getElem?.mp m
    have := st.inj n io.length x (hpre n x e) hat
    have := (List.getElem?_eq_some_iff.mp e).1
    omega
  refine ⟨dx, vs, h1, RepL.narrow hpre hf h2, h0, hni, ⟨fun b u e => ?_, hl, fun n b e => ?_, fun n m b e1 e2 => st.inj n m b (hpre n b e1) (hpre m b e2), fun n b u e1 e2 => ?_⟩⟩
  · by_cases hb : b = x
    · subst hb; rw [upd_same] at e; cases e; exact h1
    · rw [upd_ne hb] at e; exact st.sub b u e
  · have hne : b ≠ x := fun z => hni (by rw [← z]; exact List.mem_of_getElem? e)
    rw [upd_ne hne]
    exact st.out n b (hpre n b e)
  · have hn : n < S.length := (List.getElem?_eq_some_iff.mp e2).1
    exact RepO.narrow hpre (same_upd h0) (hS u (List.mem_of_getElem? e2)) (st.ob n b u (hpre n b e1) (by rw [List.getElem?_append_left hn]; exact e2))
end
section
variable {X : Cx} {cl : Nat → Addr} {W : WX} {T : Ent} {e a b c tg : Expr} {es : List Expr} {pos q : Pos} {io io' : List Addr} {om : Own} {H0 H H0' H' : Hp} {env : Env} {S S' : Sto} {σ : L2.St} {fs : Sem1 (List D)}
theorem d_makeF {j k c n : Nat} {x : Str} {sem : FnSem} (F : KD' X.prog X.w X.K X.mg X.base cl j c x n sem) (hr : Room k X.A) (tk : Takes X W) (ha : AD X cl W true (e :: es) fs) (hj : j + 1 ≤ k := by omega) (hg : Gl X x := by rfl)
    (hdb : (x == ("__debug__" : Str)) = false := by decide) (he : starEach (e :: es) X.env = (false, eval e X.env) :: starEach es X.env := by rfl) (hpl : (backTo pos (starEach es X.env)).any (·.1) = false := by rfl) :
    ED X cl W true (.Call (.Name x q) (e :: es) [] pos) (eMakeF c n sem fs) := by
  obtain ⟨f, fd, ps, hm, M, hb, hF⟩ := F.ex
  refine weakE (pe_makeS M hF (hr.mono hj) hg hm hb (fun σ => passAt tk σ) ha hdb he hpl) fun σ H Q ⟨io, om, H0, env, S, R0, h⟩ => ?_
  refine ⟨io, om, H0, env, S, R0, (Post.bind R0 h).mono fun vs H1 ⟨io1, H01, S1, ds, x1, R1, q1, h1⟩ => ?_⟩
  by_cases hl : ds.length + 1 = n
  · rw [if_pos hl] at h1
    intro x dx nx ndx ne
    obtain ⟨st1, ev1⟩ := R1.st.new0 ndx (.own x)
    have nx1 : upd H1 dx (.own x) x = none := by rw [upd_ne (Ne.symm ne)]; exact nx
    obtain ⟨st2, ev2⟩ := st1.new nx1 (.ins (cl c) dx [])
    have pio : x ∉ io1 := fun m => R1.st.there m nx
    have h0 : upd H01 dx (.own x) x = none := by rw [upd_ne (Ne.symm ne)]; exact R1.st.free0 nx
    have st3 := st2.newO (mo := .ins c []) pio h0 ⟨dx, [], by rw [upd_same]; rfl, rfl⟩
    have ev3 : Ev io1 H01 H1 (io1 ++ [x]) (upd H01 dx (.own x)) (upd (upd H1 dx (.own x)) x (.ins (cl c) dx [])) := (ev1.trans ev2).newO nx
    have hat : (io1 ++ [x])[S1.length]? = some x := by rw [← R1.st.len]; simp
    have hrep : Rep X.K cl (io1 ++ [x]) (upd H01 dx (.own x)) (.obj S1.length) (.ref x) := ⟨x, rfl, hat⟩
    have hold : ∀ o ∈ S1, G.scpO io1.length o = true := fun o m => by
      obtain ⟨i, e⟩ := List.mem_iff_getElem?.mp m
      have hi : i < io1.length := by rw [R1.st.len]; exact (List.getElem?_eq_some_iff.mp e).1
      exact (R1.st.ob i _ o (List.getElem?_eq_getElem hi) e).scpO
    refine ⟨by rw [List.length_cons, ← q1.perm.length]; exact hl, io1 ++ [x], upd H01 dx (.own x), S1 ++ [.ins c []], .obj S1.length :: ds, st3, .cons hrep (RepL.mono ev3.pre ev3.h0 _ _ q1.perm), ?_⟩
    cases hq : sem (.obj S1.length :: ds) (S1 ++ [.ins c []]) with
    | ok d S2 =>
      rw [hq] at h1
      cases d with
      | non =>
        intro io' H0' H' v ev st rp
        refine ⟨rp.non, ?_⟩
        have h5 : Post X.K cl (rD X.K cl true) W io1 H01 H1 σ Q (frzO S1 S2) := h1
        clear h1
        cases hz : frzO S1 S2 with
        | ok d S3 =>
          rw [hz] at h5
          obtain ⟨c', fs', e2, hsc, ed, eS⟩ := frzO_ok hz
          subst e2 ed eS
          have hio : io' = io1 ++ [x] := by
            have hlen : io'.length = io1.length + 1 := by rw [st.len, R1.st.len]; simp
            apply List.ext_getElem?
            intro i
            by_cases hi : i < (io1 ++ [x]).length
            · rw [List.getElem?_eq_getElem hi]
              exact ev.pre i _ (List.getElem?_eq_getElem hi)
            · rw [List.getElem?_eq_none (by simp at hi ⊢; omega), List.getElem?_eq_none (by simpa using hi)]
          subst hio
          rw [← R1.st.len] at hsc
          obtain ⟨dx', vs', z1, z2, z3, z4, z5⟩ := st.freezeO hold hsc
          have E := ev3.trans ev
          have lenvs := z2.length
          refine h5 io1 _ H' (.ref x) ⟨.refl _, fun a m => .inl m, E.h0.trans (same_upd z3), fun a o e => ?_, E.keep, E.dom⟩ z5 (.inl ⟨x, dx', vs', rfl, upd_same, by simpa using lenvs, RepL.mono (.refl _) (same_upd z3) _ _ z2⟩)
          by_cases ha : a = x
          · subst ha; exact .inr nx
          · rw [upd_ne ha] at e; exact E.h0n a o e
        | exc _ _ => unfold frzO at hz; (repeat' split at hz) <;> cases hz
        | bad => rw [hz] at h5; exact h5.elim
      | _ => exact h1.elim
    | exc e' S2 => rw [hq] at h1; exact h1.elim
    | bad => rw [hq] at h1; exact h1.elim
  · rw [if_neg hl] at h1
    exact h1.elim
end
end G

namespace G
open PySem PySem.Spec PyProof.Rows L2
structure MtAt (K : PySem.W.Frag) (C : Addr) (m qual : Str) (st : Stmt) : Prop where
  ex : ∃ f fd, Meth K C m f ∧ Fun K m qual st f fd
structure KdAt (K : PySem.W.Frag) (mg : Str → Option Value) (x : Str) (C : Addr) (qual : Str) (st : Stmt) : Prop where
  ex : ∃ f fd, mg x = some (.ref C) ∧ Mk K C f ∧ Fun K "__init__" qual st f fd
structure CdAt (K : PySem.W.Frag) (mg : Str → Option Value) (x : Str) (C : Addr) (m qual : Str) (st : Stmt) : Prop where
  ex : ∃ f fd mc, mg x = some (.ref C) ∧ ClX.CRead K C mc ∧ ClX.CVal K C mc m (.ref f) (.ref f) ∧ PySem.W.keepIn K (.ref f) = true ∧ Fun K m qual st f fd
theorem alls_nil {α : Type} {P : α → Prop} : ∀ d ∈ ([] : List α), P d := fun _ h => nomatch h
theorem alls_cons {α : Type} {P : α → Prop} {a : α} {l : List α} (h : P a) (t : ∀ d ∈ l, P d) : ∀ d ∈ a :: l, P d := fun d m => by
  rcases List.mem_cons.mp m with rfl | m
  · exact h
  · exact t d m
section
variable {P : Program} {w : World} {K : PySem.W.Frag} {mg : Str → Option Value} {base : Heap} {cl : Nat → Addr}
theorem md_of {m qual : Str} {st : Stmt} {N ps : List Str} {k n c : Nat} {g : Sm} (F : MtAt K (cl c) m qual st) (hC : Cls K (cl c)) (Sc : FnScope N ps (defScope st))
    (hbind : ∀ (kV doc pm : Value) (an : Option Addr) (cdv ct : Value) (us : List Value), us.length = ps.length → bindArgs (PySem.W.fnOf m qual (defArgs st) (defBody st) (defScope st) .none kV doc pm an cdv ct) ⟨us, []⟩ = Pure.pure (ps.zip us))
    (hb : ∀ (f : Addr) (cdv : Value) (A : Around) (outer : List PySem.Env) (s : Shared) (H : Hp) (E : XK) (T : Ent), Room k (A.deeper (envOfC qual (defScope st) s.heap.objs.size f cdv)) →
      Takes (cxOf (L2.CX P w) P w K mg base N qual (defScope st) f cdv A outer s H E) (wOf E) → PassesOwn (model P w) (A.deeper (envOfC qual (defScope st) s.heap.objs.size f cdv)) (envOfC qual (defScope st) s.heap.objs.size f cdv) (cxOf (L2.CX P w) P w K mg base N qual (defScope st) f cdv A outer s H E).xe →
      SsD (cxOf (L2.CX P w) P w K mg base N qual (defScope st) f cdv A outer s H E) cl T (wOf E) (defBody st) g) (hn : ps.length = n := by rfl) :
    MD P w K mg base cl (k + 1) c m n (runF N.length g) := by
  obtain ⟨f, fd, hm, hF⟩ := F.ex
  subst hn
  exact ⟨hC, f, fd, ps, hm, hF.binds hbind, fn_D hF Sc (hb f)⟩
theorem kd_of {x qual : Str} {st : Stmt} {N ps : List Str} {k n c : Nat} {g : Sm} (F : KdAt K mg x (cl c) qual st) (Sc : FnScope N ps (defScope st))
    (hbind : ∀ (kV doc pm : Value) (an : Option Addr) (cdv ct : Value) (us : List Value), us.length = ps.length → bindArgs (PySem.W.fnOf "__init__" qual (defArgs st) (defBody st) (defScope st) .none kV doc pm an cdv ct) ⟨us, []⟩ = Pure.pure (ps.zip us))
    (hb : ∀ (f : Addr) (cdv : Value) (A : Around) (outer : List PySem.Env) (s : Shared) (H : Hp) (E : XK) (T : Ent), Room k (A.deeper (envOfC qual (defScope st) s.heap.objs.size f cdv)) →
      Takes (cxOf (L2.CX P w) P w K mg base N qual (defScope st) f cdv A outer s H E) (wOf E) → PassesOwn (model P w) (A.deeper (envOfC qual (defScope st) s.heap.objs.size f cdv)) (envOfC qual (defScope st) s.heap.objs.size f cdv) (cxOf (L2.CX P w) P w K mg base N qual (defScope st) f cdv A outer s H E).xe →
      SsD (cxOf (L2.CX P w) P w K mg base N qual (defScope st) f cdv A outer s H E) cl T (wOf E) (defBody st) g) (hn : ps.length = n := by rfl) :
    KD' P w K mg base cl (k + 1) c x n (runF N.length g) := by
  obtain ⟨f, fd, hm, hk, hF⟩ := F.ex
  subst hn
  exact ⟨f, fd, ps, hm, hk, hF.binds hbind, fn_D hF Sc (hb f)⟩
theorem cd_of {x m qual : Str} {st : Stmt} {N ps : List Str} {k n c : Nat} {g : Sm} (F : CdAt K mg x (cl c) m qual st) (Sc : FnScope N ps (defScope st))
    (hbind : ∀ (kV doc pm : Value) (an : Option Addr) (cdv ct : Value) (us : List Value), us.length = ps.length → bindArgs (PySem.W.fnOf m qual (defArgs st) (defBody st) (defScope st) .none kV doc pm an cdv ct) ⟨us, []⟩ = Pure.pure (ps.zip us))
    (hb : ∀ (f : Addr) (cdv : Value) (A : Around) (outer : List PySem.Env) (s : Shared) (H : Hp) (E : XK) (T : Ent), Room k (A.deeper (envOfC qual (defScope st) s.heap.objs.size f cdv)) →
      Takes (cxOf (L2.CX P w) P w K mg base N qual (defScope st) f cdv A outer s H E) (wOf E) → PassesOwn (model P w) (A.deeper (envOfC qual (defScope st) s.heap.objs.size f cdv)) (envOfC qual (defScope st) s.heap.objs.size f cdv) (cxOf (L2.CX P w) P w K mg base N qual (defScope st) f cdv A outer s H E).xe →
      SsD (cxOf (L2.CX P w) P w K mg base N qual (defScope st) f cdv A outer s H E) cl T (wOf E) (defBody st) g) (hn : ps.length = n := by rfl) :
    CD P w K mg base cl (k + 1) c x m n (runF N.length g) := by
  obtain ⟨f, fd, mc, hm, h1, h2, hk, hF⟩ := F.ex
  subst hn
  exact ⟨f, fd, ps, mc, hm, h1, h2, hk, hF.binds hbind, fn_D hF Sc (hb f)⟩
end
section
variable {K : PySem.W.Frag} {h : Heap} {mg : Str → Option Value} {cl : Nat → Addr}
theorem na_mk {C : Addr} {f : Str} (h : PySem.W.findIn K (.ref C) f = some none) : NoAttr K C f := h
theorem cls_mk {C : Addr} (pg : PySem.W.plainGet K C Str.empty = true) (hd : PySem.W.hasDictIn K C = true) (po : PySem.W.plainOver K C = true) (sa : PySem.W.findIn K (.ref C) "__setattr__" = some (some (.builtin "object.__setattr__"))) : Cls K C := ⟨pg, hd, po, sa⟩
theorem mtAt_mk {C : Addr} {m qual : Str} {st : Stmt} {f : Addr} {oc kV dc pm cd ct : Value} {od an : Option Addr} {sl : Array (Option Value)}
    (a : PySem.W.findIn K (.ref C) m = some (some (.ref f))) (i : PySem.W.isFn K (.ref f) = true) (l : K.lookup f = some ⟨oc, od, .func (PySem.W.fnOf m qual (defArgs st) (defBody st) (defScope st) .none kV dc pm an cd ct), sl⟩)
    (c : PySem.W.codeIn K cd qual = true) (k : PySem.W.keepIn K (.ref f) = true) : MtAt K C m qual st := ⟨f, _, ⟨a, i, k⟩, fun_mk l c k⟩
theorem kdAt_mk {C : Addr} {x qual : Str} {st : Stmt} {f : Addr} {oc kV dc pm cd ct : Value} {od an : Option Addr} {sl : Array (Option Value)} (X : K.In h) (G : h.Ns mainGlobals mg) (aC : PySem.W.nsIn K mainGlobals x = some (some (.ref C)))
    (mk : PySem.W.makesIn K C = true) (a : PySem.W.findIn K (.ref C) "__init__" = some (some (.ref f))) (i : PySem.W.isFn K (.ref f) = true) (kc : PySem.W.keepIn K (.ref C) = true) (l : K.lookup f = some ⟨oc, od, .func (PySem.W.fnOf "__init__" qual (defArgs st) (defBody st) (defScope st) .none kV dc pm an cd ct), sl⟩)
    (c : PySem.W.codeIn K cd qual = true) (k : PySem.W.keepIn K (.ref f) = true) : KdAt K mg x C qual st := ⟨f, _, PySem.W.mg_of X G aC, ⟨mk, a, i, kc⟩, fun_mk l c k⟩
theorem cdAt_mk {C : Addr} {x m qual : Str} {st : Stmt} {f : Addr} {oc kV dc pm cd ct : Value} {od an : Option Addr} {sl : Array (Option Value)} (X : K.In h) (G : h.Ns mainGlobals mg) (aC : PySem.W.nsIn K mainGlobals x = some (some (.ref C)))
    (rd : PySem.W.readsIn K C (.type "type") = true) (ga : PySem.W.specialIn K (.ref C) "__getattribute__" = some (some (.builtin "type.__getattribute__"))) (a : PySem.W.findCls K (.ref C) (.type "type") m = some (.val (.ref f))) (l : K.lookup f = some ⟨oc, od, .func (PySem.W.fnOf m qual (defArgs st) (defBody st) (defScope st) .none kV dc pm an cd ct), sl⟩)
    (c : PySem.W.codeIn K cd qual = true) (k : PySem.W.keepIn K (.ref f) = true) : CdAt K mg x C m qual st := ⟨f, _, .type "type", PySem.W.mg_of X G aC, ⟨rd, ga⟩, ⟨a, rfl⟩, k, fun_mk l c k⟩
end
end G

namespace G
open PySem PySem.Spec PyProof.Rows L2
mutual
/-- no list within -/
def nol : D → Bool
  | .non => true
  | .bl _ => true
  | .int _ => true
  | .str _ => true
  | .tup ds => nolL ds
  | _ => false
def nolL : List D → Bool
  | [] => true
  | d :: ds => nol d && nolL ds
end
def eFnB (n : Nat) (sem : FnSem) (fs : Sem1 (List D)) : Ex := fun env S => (fs env S).bind fun ds S1 => if ds.length = n ∧ scpL 0 ds = true then (match sem ds [] with
  | .ok d _ => if nol d = true then .ok d S1 else .bad
  | _ => .bad) else .bad
section
variable {K : PySem.W.Frag} {cl : Nat → Addr} {H H' : Hp}
theorem SqT.but (h : ∀ a o, H a = some o → (∃ vs, o = .lst vs) ∨ H' a = some o) {a : Addr} {vs : List V} (q : SqT K H a vs) : SqT K H' a vs := by
  rcases q with (q | ⟨o, q⟩) | q
  · rcases h _ _ q with ⟨_, e⟩ | e
    · cases e
    · exact .inl (.inl e)
  · rcases h _ _ q with ⟨_, e⟩ | e
    · cases e
    · exact .inl (.inr ⟨o, e⟩)
  · exact .inr q
mutual
theorem Rep.nol (h : ∀ a o, H a = some o → (∃ vs, o = .lst vs) ∨ H' a = some o) {io io' : List Addr} : ∀ {d : D} {v : V}, nol d = true → Rep K cl io H d v → Rep K cl io' H' d v
  | .non, _, _, q => q
  | .bl _, _, _, q => q
  | .int _, _, _, q => q
  | .str _, _, _, q => q
  | .tup ds, _, n, q => by
    obtain ⟨a, vs, e, z, r⟩ := q
    exact ⟨a, vs, e, SqT.but h z, RepL.nol h (by simpa [G.nol] using n) r⟩
  | .lst _, _, n, _ => by simp [G.nol] at n
  | .frl _, _, n, _ => by simp [G.nol] at n
  | .ins _ _ _, _, n, _ => by simp [G.nol] at n
  | .obj _, _, n, _ => by simp [G.nol] at n
theorem RepL.nol (h : ∀ a o, H a = some o → (∃ vs, o = .lst vs) ∨ H' a = some o) {io io' : List Addr} : ∀ {ds : List D} {vs : List V}, nolL ds = true → RepL K cl io H ds vs → RepL K cl io' H' ds vs
  | [], _, _, q => q
  | d :: ds, _, n, q => by
    obtain ⟨v, r, e, h1, h2⟩ := q
    simp only [G.nolL, Bool.and_eq_true] at n
    exact ⟨v, r, e, Rep.nol h n.1 h1, RepL.nol h n.2 h2⟩
end
mutual
theorem Rep.scp0 {io : List Addr} (hs : Same H H') : ∀ {d : D} {v : V}, scp 0 d = true → Rep K cl io H d v → Rep K cl [] H' d v
  | .non, _, _, q => q
  | .bl _, _, _, q => q
  | .int _, _, _, q => q
  | .str _, _, _, q => q
  | .tup ds, _, n, q => by
    obtain ⟨a, vs, e, z, r⟩ := q
    exact ⟨a, vs, e, Same.seqT hs z, RepL.scp0 hs (by simpa [scp] using n) r⟩
  | .lst ds, _, n, q => by
    obtain ⟨a, vs, e, z, r⟩ := q
    exact ⟨a, vs, e, hs _ _ z, RepL.scp0 hs (by simpa [scp] using n) r⟩
  | .frl ds, _, n, q => by
    obtain ⟨a, vs, e, z, r⟩ := q
    exact ⟨a, vs, e, hs.seq z, RepL.scp0 hs (by simpa [scp] using n) r⟩
  | .ins c ks ds, _, n, q => by
    obtain ⟨a, dx, vs, e, z, l, r⟩ := q
    exact ⟨a, dx, vs, e, hs _ _ z, l, RepL.scp0 hs (by simpa [scp] using n) r⟩
  | .obj m, _, n, _ => by simp [scp] at n
theorem RepL.scp0 {io : List Addr} (hs : Same H H') : ∀ {ds : List D} {vs : List V}, scpL 0 ds = true → RepL K cl io H ds vs → RepL K cl [] H' ds vs
  | [], _, _, q => q
  | d :: ds, _, n, q => by
    obtain ⟨v, r, e, h1, h2⟩ := q
    simp only [scpL, Bool.and_eq_true] at n
    exact ⟨v, r, e, Rep.scp0 hs n.1 h1, RepL.scp0 hs n.2 h2⟩
end
open Classical in
/-- all lists that aren't the store's are held still -/
noncomputable def still (io : List Addr) (H0 H : Hp) : Hp := fun b => match H0 b with
  | some o => some o
  | none => if b ∈ io then none else match H b with
    | some (.lst vs) => some (.lst vs)
    | _ => none
/-- what is new is for good -/
def grown (H0 H H1 : Hp) : Hp := fun b => match H0 b with
  | some o => some o
  | none => match H b with
    | some _ => none
    | none => H1 b
theorem still_same {io : List Addr} {H0 H : Hp} : Same H0 (still io H0 H) := fun b o e => by unfold still; rw [e]
theorem grown_same {H0 H H1 : Hp} : Same H0 (grown H0 H H1) := fun b o e => by unfold grown; rw [e]
theorem still_sub {io : List Addr} {H0 H : Hp} (hs : Same H0 H) : Same (still io H0 H) H := fun b o e => by
  unfold still at e
  cases q : H0 b with
  | some u => rw [q] at e; cases e; exact hs _ _ q
  | none =>
    rw [q] at e
    simp only at e
    split at e
    · cases e
    · cases z : H b with
      | none => rw [z] at e; cases e
      | some u => cases u <;> rw [z] at e <;> first | exact e | cases e
theorem still_lst {io : List Addr} {H0 H : Hp} (hs : Same H0 H) {a : Addr} {vs : List V} (h : H a = some (.lst vs)) (hi : a ∉ io) : still io H0 H a = some (.lst vs) := by
  unfold still
  cases q : H0 a with
  | some u =>
    have := hs _ _ q
    rw [h] at this; exact this.symm
  | none => simp only [hi, h, if_false]
theorem rL_still {io : List Addr} {H0 H : Hp} (hs : Same H0 H) : ∀ {ds : List D} {vs : List V}, scpL 0 ds = true → rL K cl false io H0 H ds vs → RepL K cl [] (still io H0 H) ds vs
  | [], _, _, q => q
  | d :: ds, _, n, q => by
    obtain ⟨v, r, e, h1, h2⟩ := q
    simp only [scpL, Bool.and_eq_true] at n
    refine ⟨v, r, e, ?_, rL_still hs n.2 h2⟩
    rcases h1 with h1 | ⟨_, es, a, vs, rfl, rfl, z1, z2, z3⟩
    · exact Rep.scp0 still_same n.1 h1
    · exact ⟨a, vs, rfl, still_lst hs z1 z2, RepL.scp0 still_same (by simpa [scp] using n.1) z3⟩
theorem nolD_rep {io io' : List Addr} {H0 H H0' H1 : Hp} (x : Ev [] (still io H0 H) H io' H0' H1) {d : D} {v : V} (n : nol d = true) (q : Rep K cl io' H0' d v) : Rep K cl io (grown H0 H H0') d v := by
  refine Rep.nol (fun a o e => ?_) n q
  unfold grown
  cases z : H0 a with
  | some u =>
    have h1 : still io H0 H a = some u := still_same _ _ z
    have h2 := x.h0 _ _ h1
    rw [e] at h2
    exact .inr h2.symm
  | none =>
    rcases x.h0n _ _ e with h | h
    · unfold still at h
      rw [z] at h
      simp only at h
      split at h
      · cases h
      · cases y : H a with
        | none => rw [y] at h; cases h
        | some u => cases u <;> rw [y] at h <;> first | (cases h; exact .inl ⟨_, rfl⟩) | cases h
    · rw [h]
      exact .inr e
theorem ev_grown {io io' : List Addr} {H0 H H0' H1 : Hp} {S S' : Sto} (st : StR K cl io H0 H S) (x : Ev [] (still io H0 H) H io' H0' H1) (st' : StR K cl io' H0' H1 S') :
    StR K cl io (grown H0 H H0') H1 S ∧ Ev io H0 H io (grown H0 H H0') H1 := by
  have keep : ∀ a o, H a = some o → H1 a = some o := fun a o e => x.keep a o e (by simp)
  refine ⟨⟨fun b o e => ?_, st.len, fun n b e => ?_, st.inj, fun n b u e e2 => ?_⟩, ⟨.refl _, fun a m => .inl m, grown_same, fun a o e => ?_, fun a o e _ => keep a o e, x.dom⟩⟩
  · unfold grown at e
    cases q : H0 b with
    | some u => rw [q] at e; cases e; exact keep _ _ (st.sub _ _ q)
    | none =>
      rw [q] at e
      simp only at e
      split at e
      · cases e
      · exact st'.sub _ _ e
  · have h0 := st.out n b e
    have hb := st.there (List.mem_of_getElem? e)
    unfold grown
    rw [h0]
    simp only
    split
    · rfl
    · rename_i z; exact absurd z hb
  · have hb := st.there (List.mem_of_getElem? e)
    refine (st.ob n b u e e2).at (.refl _) grown_same ?_
    cases z : H b with
    | none => exact absurd z hb
    | some o => exact keep _ _ z
  · unfold grown at e
    cases q : H0 a with
    | some u => rw [q] at e; exact .inl e
    | none =>
      rw [q] at e
      simp only at e
      split at e
      · cases e
      · rename_i z; exact .inr z
end
section
variable {X : Cx} {cl : Nat → Addr} {W : WX} {e : Expr} {es : List Expr} {pos q : Pos} {fs : Sem1 (List D)}
theorem d_callO {j k n : Nat} {x : Str} {sem : FnSem} (F : FD X.prog X.w X.K X.mg X.base cl j x n sem) (hr : Room k X.A) (tk : Takes X W) (ha : AD X cl W false (e :: es) fs) (hj : j ≤ k := by omega) (hg : Gl X x := by rfl)
    (hdb : (x == ("__debug__" : Str)) = false := by decide) (he : starEach (e :: es) X.env = (false, eval e X.env) :: starEach es X.env := by rfl) (hpl : (backTo pos (starEach es X.env)).any (·.1) = false := by rfl) :
    ED X cl W true (.Call (.Name x q) (e :: es) [] pos) (eFnB n sem fs) := by
  obtain ⟨f, fd, ps, hm, hk, hb, hF⟩ := F.ex
  refine weakE (pe_callS hF (hr.mono hj) hg hm hk hb (fun σ => passAt tk σ) ha hdb he hpl) fun σ H Q ⟨io, om, H0, env, S, R0, h⟩ => ?_
  refine ⟨io, om, H0, env, S, R0, (Post.bind R0 h).mono fun vs H1 ⟨io1, H01, S1, ds, x1, R1, q1, h1⟩ => ?_⟩
  by_cases hl : ds.length = n ∧ scpL 0 ds = true
  · rw [if_pos hl] at h1
    have hs := R1.st.sub
    have hrep := rL_still hs hl.2 q1
    refine ⟨by rw [← hrep.length]; exact hl.1, [], still io1 H01 H1, [], ds, ⟨still_sub hs, rfl, fun n a e => by simp at e, fun n m a e => by simp at e, fun n a o e => by simp at e⟩, hrep, ?_⟩
    cases r : sem ds [] with
    | ok d S2 =>
      rw [r] at h1
      simp only at h1
      by_cases hn : nol d = true
      · rw [if_pos hn] at h1
        intro io' H0' H' v y st' rep
        obtain ⟨g1, g2⟩ := ev_grown R1.st y st'
        exact h1 io1 _ H' v g2 g1 (.inl (nolD_rep y hn rep.perm))
      · rw [if_neg hn] at h1
        exact h1.elim
    | exc e' S2 => rw [r] at h1; exact h1.elim
    | bad => rw [r] at h1; exact h1.elim
  · rw [if_neg hl] at h1
    exact h1.elim
end
open Classical in
noncomputable def frzB : Slot → Slot
  | .own ds => if scpL 0 ds = true then .val (.lst ds) else .un
  | .val d => if scp 0 d = true then .val d else .un
  | .un => .un
noncomputable def envB : List Bool → Env → Env
  | true :: bs, s :: env => frzB s :: envB bs env
  | false :: bs, _ :: env => .un :: envB bs env
  | [], _ :: env => .un :: envB [] env
  | _, [] => []
noncomputable def tStill (bs : List Bool) (t : Sem1 Bool) : Sem1 Bool := fun env S => match t (envB bs env) [] with
  | .ok b _ => .ok b S
  | _ => .bad
noncomputable def eStill (bs : List Bool) (f : Ex) : Ex := fun env S => match f (envB bs env) [] with
  | .ok d _ => if nol d = true then .ok d S else .bad
  | _ => .bad
section
variable {K : PySem.W.Frag} {cl : Nat → Addr} {io : List Addr} {om : Own} {H0 H : Hp} {env : Env} {S : Sto} {σ : L2.St}
theorem envB_len : ∀ {bs : List Bool} {env : Env}, (envB bs env).length = env.length
  | true :: bs, s :: env => by simp [envB, envB_len (bs := bs) (env := env)]
  | false :: bs, _ :: env => by simp [envB, envB_len (bs := bs) (env := env)]
  | [], _ :: env => by simp [envB, envB_len (bs := []) (env := env)]
  | [], [] => rfl
  | true :: _, [] => rfl
  | false :: _, [] => rfl
theorem envB_get : ∀ {bs : List Bool} {env : Env} {i : Nat} {s : Slot}, (envB bs env)[i]? = some s → s = .un ∨ ∃ z, env[i]? = some z ∧ s = frzB z
  | true :: bs, x :: env, 0, s, h => by simp [envB] at h; exact .inr ⟨x, rfl, h.symm⟩
  | true :: bs, x :: env, i + 1, s, h => by simp only [envB, List.getElem?_cons_succ] at h ⊢; exact envB_get h
  | false :: bs, x :: env, 0, s, h => by simp [envB] at h; exact .inl h.symm
  | false :: bs, x :: env, i + 1, s, h => by simp only [envB, List.getElem?_cons_succ] at h ⊢; exact envB_get h
  | [], x :: env, 0, s, h => by simp [envB] at h; exact .inl h.symm
  | [], x :: env, i + 1, s, h => by simp only [envB, List.getElem?_cons_succ] at h ⊢; exact envB_get h
  | [], [], _, _, h => by simp [envB] at h
  | true :: _, [], _, _, h => by simp [envB] at h
  | false :: _, [], _, _, h => by simp [envB] at h
theorem rel_still (R0 : Rel K cl io om H0 H env S σ) (bs : List Bool) : Rel K cl [] (List.replicate σ.length none) (still io H0 H) H (envB bs env) [] σ := by
  have hs := R0.st.sub
  have he := R0.en
  refine ⟨⟨still_sub hs, rfl, fun n a e => by simp at e, fun n m a e => by simp at e, fun n a o e => by simp at e⟩, ⟨by rw [envB_len]; exact he.len, by simp, fun i s sv ow e1 e2 e3 => ?_, fun i j a e1 e2 => ?_⟩⟩
  · have hw : ow = none := by
      rw [List.getElem?_replicate] at e3
      split at e3
      · exact (Option.some.inj e3).symm
      · cases e3
    subst hw
    rcases envB_get e1 with rfl | ⟨z, h1, rfl⟩
    · rfl
    · obtain ⟨ow, h2⟩ : ∃ ow, om[i]? = some ow := by
        have h3 := (List.getElem?_eq_some_iff.mp e2).1
        exact ⟨om[i]'(by rw [he.lenO]; exact h3), by simp⟩
      have hz := he.slot i z sv ow h1 e2 h2
      cases z with
      | un => rfl
      | val d =>
        obtain ⟨_, v, ev, r⟩ := hz
        by_cases hd : scp 0 d = true
        · have : frzB (.val d) = .val d := if_pos hd
          rw [this]
          exact ⟨rfl, v, ev, Rep.scp0 still_same hd r⟩
        · have : frzB (.val d) = .un := if_neg hd
          rw [this]; rfl
      | own ds =>
        obtain ⟨a, vs, _, ev, h1, _, h2, r⟩ := hz
        by_cases hd : scpL 0 ds = true
        · have : frzB (.own ds) = .val (.lst ds) := if_pos hd
          rw [this]
          exact ⟨rfl, _, ev, a, vs, rfl, still_lst hs h1 h2, RepL.scp0 still_same hd r⟩
        · have : frzB (.own ds) = .un := if_neg hd
          rw [this]; rfl
  · rw [List.getElem?_replicate] at e1
    split at e1 <;> cases e1
end
section
variable {X : Cx} {cl : Nat → Addr} {W : WX} {e : Expr}
theorem t_still {t : Sem1 Bool} (bs : List Bool) (h : TD X cl W e t) : TD X cl W e (tStill bs t) := by
  refine weakT h fun σ H Q ⟨io, om, H0, env, S, R0, h⟩ => ⟨[], _, _, envB bs env, [], rel_still R0 bs, ?_⟩
  unfold tStill at h
  cases q : t (envB bs env) [] with
  | ok b S2 =>
    rw [q] at h
    intro io' H0' H' v y st' rep
    obtain ⟨g1, g2⟩ := ev_grown R0.st y st'
    exact h io _ H' v g2 g1 rep
  | exc e' S2 => rw [q] at h; exact h.elim
  | bad => rw [q] at h; exact h.elim
theorem d_still {f : Ex} (bs : List Bool) (h : ED X cl W true e f) : ED X cl W true e (eStill bs f) := by
  refine weakE h fun σ H Q ⟨io, om, H0, env, S, R0, h⟩ => ⟨[], _, _, envB bs env, [], rel_still R0 bs, ?_⟩
  unfold eStill at h
  cases q : f (envB bs env) [] with
  | ok d S2 =>
    rw [q] at h
    simp only at h
    by_cases hn : nol d = true
    · rw [if_pos hn] at h
      intro io' H0' H' v y st' rep
      obtain ⟨g1, g2⟩ := ev_grown R0.st y st'
      exact h io _ H' v g2 g1 (.inl (nolD_rep y hn rep.perm))
    · rw [if_neg hn] at h
      exact h.elim
  | exc e' S2 => rw [q] at h; exact h.elim
  | bad => rw [q] at h; exact h.elim
end
end G
noncomputable section
namespace G
open PySem PySem.Spec PyProof.Rows L2
def fuel : Nat := 1000000
def k_FIRST_YEAR : D := .int 2001
def k_LENGTHS : D := .tup [.int 31, .int 28, .int 31, .int 30, .int 31, .int 30, .int 31, .int 31, .int 30, .int 31, .int 30, .int 31]
def k_DAY_MINUTES : D := .int 1440
def k_MOST_TURNS : D := .int 40
def k_LAST_MOMENT : D := .int 143999999
def k_FAR : D := .int 840
def k_LAST_DAY : D := .int 99990
def M.b_is_whole : Sm :=
  (sRet (eAnd (eIsi .int (eVar 0)) (eAnd (eNot (eIsi .bool (eVar 0))) (eChain cLe cLe (eVar 1) (eVar 0) (eVar 2)))))
def M.is_whole : FnSem := runF 3 M.b_is_whole
def M.b_is_leap : Sm :=
  (sRet (eAnd (eBin cEq (eBin opMod (eVar 0) (eC (.int 4))) (eC (.int 0))) (eOr (eBin cNe (eBin opMod (eVar 0) (eC (.int 100))) (eC (.int 0))) (eBin cEq (eBin opMod (eVar 0) (eC (.int 400))) (eC (.int 0))))))
def M.is_leap : FnSem := runF 1 M.b_is_leap
def M.b_days_ahead : Sm :=
  (sSeq (sSet 1 (eBin opSub (eVar 0) (eC k_FIRST_YEAR)))
  (sSeq (sSet 2 (eBin opSub (eVar 0) (eC (.int 1))))
  (sSeq (sSet 3 (eBin opSub (eBin opAdd (eBin opSub (eBin opFdiv (eVar 2) (eC (.int 4))) (eBin opFdiv (eVar 2) (eC (.int 100)))) (eBin opFdiv (eVar 2) (eC (.int 400)))) (eC (.int 485))))
  (sRet (eBin opAdd (eBin opMul (eC (.int 365)) (eVar 1)) (eVar 3))))))
def M.days_ahead : FnSem := runF 4 M.b_days_ahead
def M.b_month_length : Sm :=
  (sSeq (sTg (eCall pDivmod (aCons (eVar 0) (aCons (eC (.int 12)) aNil))) (gT [(gN 1), (gN 2)]))
  (sSeq (sIf (tAnd (tVal (eBin cEq (eVar 2) (eC (.int 1)))) (tVal (eFn 1 M.is_leap (aCons (eBin opAdd (eC k_FIRST_YEAR) (eVar 1)) aNil)))) (sRet (eC (.int 29))) sNil)
  (sRet (eBin opIx (eC k_LENGTHS) (eVar 2)))))
def M.month_length : FnSem := runF 3 M.b_month_length
def M.b_first_of : Sm :=
  (sSeq (sTg (eCall pDivmod (aCons (eVar 0) (aCons (eC (.int 12)) aNil))) (gT [(gN 1), (gN 2)]))
  (sSeq (sSet 3 (eFn 1 M.days_ahead (aCons (eBin opAdd (eC k_FIRST_YEAR) (eVar 1)) aNil)))
  (sSeq (sFor (iRng1 (eVar 2)) (gN 4) (sSet 3 (eBin opAdd (eVar 3) (eFn 1 M.month_length (aCons (eBin opAdd (eBin opMul (eC (.int 12)) (eVar 1)) (eVar 4)) aNil)))))
  (sRet (eVar 3)))))
def M.first_of : FnSem := runF 5 M.b_first_of
def M.b_month_of : Sm :=
  (sSeq (sSet 1 (eBin opAdd (eC k_FIRST_YEAR) (eBin opFdiv (eVar 0) (eC (.int 366)))))
  (sSeq (sWhile fuel (tVal (eBin cLe (eFn 1 M.days_ahead (aCons (eBin opAdd (eVar 1) (eC (.int 1))) aNil)) (eVar 0))) (sSet 1 (eBin opAdd (eVar 1) (eC (.int 1)))))
  (sSeq (sSet 2 (eBin opMul (eC (.int 12)) (eBin opSub (eVar 1) (eC k_FIRST_YEAR))))
  (sSeq (sSet 3 (eBin opSub (eVar 0) (eFn 1 M.days_ahead (aCons (eVar 1) aNil))))
  (sSeq (sWhile fuel (tVal (eBin cGe (eVar 3) (eFn 1 M.month_length (aCons (eVar 2) aNil)))) (sSeq (sSet 3 (eBin opSub (eVar 3) (eFn 1 M.month_length (aCons (eVar 2) aNil))))
  (sSet 2 (eBin opAdd (eVar 2) (eC (.int 1))))))
  (sRet (eVar 2)))))))
def M.month_of : FnSem := runF 4 M.b_month_of
def M.b_date_of : Sm :=
  (sSeq (sSet 1 (eFn 1 M.month_of (aCons (eVar 0) aNil)))
  (sRet (eTup (aCons (eBin opAdd (eC k_FIRST_YEAR) (eBin opFdiv (eVar 1) (eC (.int 12)))) (aCons (eBin opAdd (eBin opMod (eVar 1) (eC (.int 12))) (eC (.int 1))) (aCons (eBin opAdd (eBin opSub (eVar 0) (eFn 1 M.first_of (aCons (eVar 1) aNil))) (eC (.int 1))) aNil))))))
def M.date_of : FnSem := runF 2 M.b_date_of
def M.b_weekday : Sm :=
  (sRet (eBin opMod (eVar 0) (eC (.int 7))))
def M.weekday : FnSem := runF 1 M.b_weekday
def M.b_law_tape : Sm :=
  (sRet (eDict [((eC (.str "cells")), (eSl (eVar 0) oNone (oSome (eC (.int 63))))), ((eC (.str "spot")), (eC (.int 0))), ((eC (.str "left")), (eC (.int 0)))]))
def M.law_tape : FnSem := runF 1 M.b_law_tape
def M.b_law_draw (self : FnSem) : Sm :=
  (sSeq (sIf (tVal (eBin cGt (eBin opGet (eVar 0) (eC (.str "left"))) (eC (.int 0)))) (sSeq (sSet 8 (eBin opMod (eBin opGet (eVar 0) (eC (.str "left"))) (eVar 1)))
  (sSeq (sPut (eVar 0) (eC (.str "left")) (eBin opFdiv (eBin opGet (eVar 0) (eC (.str "left"))) (eVar 1)))
  (sRet (eVar 8)))) sNil)
  (sSeq (sSet 2 (eBin opGet (eVar 0) (eC (.str "spot"))))
  (sSeq (sPut (eVar 0) (eC (.str "spot")) (eBin opAdd (eVar 2) (eC (.int 1))))
  (sSeq (sSet 3 (eOr (eBin opGet (eVar 0) (eC (.str "cells"))) (eFrz (nLst (aCons (eC (.int 0)) aNil)))))
  (sSeq (sSet 4 (eBin opIx (eVar 3) (eBin opMod (eVar 2) (eCall pLen (aCons (eVar 3) aNil)))))
  (sSeq (sIf (tAnd (tVal (eBin cGe (eVar 4) (eBin opPow (eC (.int 10)) (eC (.int 18))))) (tVal (eBin cLt (eVar 2) (eCall pLen (aCons (eVar 3) aNil))))) (sSeq (sPut (eVar 0) (eC (.str "left")) (eBin opFdiv (eBin opSub (eVar 4) (eBin opPow (eC (.int 10)) (eC (.int 18)))) (eVar 1)))
  (sRet (eBin opMod (eBin opSub (eVar 4) (eBin opPow (eC (.int 10)) (eC (.int 18)))) (eVar 1)))) sNil)
  (sSeq (sSet 5 (eFrz (nLst (aCons (eC (.int 2147483647)) (aCons (eC (.int 2147483629)) (aCons (eC (.int 2147483587)) (aCons (eC (.int 2147483579)) (aCons (eC (.int 2147483563)) (aCons (eC (.int 2147483549)) (aCons (eC (.int 2147483543)) aNil))))))))))
  (sSeq (sSet 6 (eBin opIx (eVar 5) (eBin opMod (eVar 2) (eC (.int 7)))))
  (sSeq (sSet 7 (eBin opMod (eBin opAdd (eBin opAdd (eBin opAdd (eBin opMul (eBin opMod (eVar 4) (eVar 6)) (eC (.int 48271))) (eBin opMul (eBin opMul (eC (.int 7919)) (eVar 2)) (eVar 2))) (eBin opMul (eC (.int 69621)) (eVar 2))) (eC (.int 1))) (eVar 6)))
  (sSeq (sSet 7 (eBin opMod (eBin opMul (eVar 7) (eBin opAdd (eVar 7) (eC (.int 16807)))) (eBin opIx (eVar 5) (eBin opMod (eBin opAdd (eVar 2) (eC (.int 3))) (eC (.int 7))))))
  (sSeq (sSet 8 (eBin opFdiv (eBin opMod (eBin opMul (eVar 7) (eVar 7)) (eVar 6)) (eC (.int 64))))
  (sSeq (sIf (tVal (eBin cGt (eVar 1) (eBin opPow (eC (.int 10)) (eC (.int 6))))) (sSet 8 (eBin opAdd (eBin opMod (eVar 8) (eBin opPow (eC (.int 10)) (eC (.int 6)))) (eBin opMul (eBin opPow (eC (.int 10)) (eC (.int 6))) (eFn 2 self (aCons (eVar 0) (aCons (eBin opAdd (eBin opFdiv (eVar 1) (eBin opPow (eC (.int 10)) (eC (.int 6)))) (eC (.int 1))) aNil)))))) sNil)
  (sRet (eBin opMod (eVar 8) (eVar 1)))))))))))))))
def M.law_draw : Nat → FnSem
  | 0 => fun _ _ => .bad
  | k + 1 => runF 9 (M.b_law_draw (M.law_draw k))
def M.b_law_month_days : Sm :=
  (sSeq (sIf (tVal (eBin cEq (eVar 1) (eC (.int 2)))) (sRet (eBin opAdd (eC (.int 28)) (eCall pInt (aCons (eAnd (eBin cEq (eBin opMod (eVar 0) (eC (.int 4))) (eC (.int 0))) (eOr (eBin cGt (eBin opMod (eVar 0) (eC (.int 100))) (eC (.int 0))) (eBin cEq (eBin opMod (eVar 0) (eC (.int 400))) (eC (.int 0))))) aNil)))) sNil)
  (sRet (eBin opAdd (eC (.int 30)) (eCall pInt (aCons (eBin cIn (eVar 1) (eTup (aCons (eC (.int 1)) (aCons (eC (.int 3)) (aCons (eC (.int 5)) (aCons (eC (.int 7)) (aCons (eC (.int 8)) (aCons (eC (.int 10)) (aCons (eC (.int 12)) aNil))))))))) aNil)))))
def M.law_month_days : FnSem := runF 2 M.b_law_month_days
def M.b_law_day_v2 : Sm :=
  (sSeq (sSet 3 (eBin opSub (eVar 0) (eCall pInt (aCons (eBin cLt (eVar 1) (eC (.int 3))) aNil))))
  (sSeq (sSet 4 (eBin opMod (eBin opAdd (eVar 1) (eC (.int 9))) (eC (.int 12))))
  (sSeq (sSet 5 (eBin opSub (eBin opAdd (eBin opAdd (eBin opAdd (eBin opSub (eBin opAdd (eBin opMul (eC (.int 365)) (eVar 3)) (eBin opFdiv (eVar 3) (eC (.int 4)))) (eBin opFdiv (eVar 3) (eC (.int 100)))) (eBin opFdiv (eVar 3) (eC (.int 400)))) (eBin opFdiv (eBin opAdd (eBin opMul (eC (.int 153)) (eVar 4)) (eC (.int 2))) (eC (.int 5)))) (eVar 2)) (eC (.int 1))))
  (sRet (eBin opSub (eVar 5) (eC (.int 730791)))))))
def M.law_day_v2 : FnSem := runF 6 M.b_law_day_v2
def M.b_law_whole_v2 : Sm :=
  (sRet (eAnd (eIsi .int (eVar 0)) (eAnd (eNot (eIsi .bool (eVar 0))) (eChain cLe cLe (eVar 1) (eVar 0) (eVar 2)))))
def M.law_whole_v2 : FnSem := runF 3 M.b_law_whole_v2
def M.b_is_clock : Sm :=
  (sSeq (sIf (tOr (tNot (tVal (eIsi .tuple (eVar 0)))) (tOr (tVal (eBin cLt (eCall pLen (aCons (eVar 0) aNil)) (eC (.int 1)))) (tVal (eBin cGt (eCall pLen (aCons (eVar 0) aNil)) (eC k_MOST_TURNS))))) (sRet (eC (.bl false))) sNil)
  (sSeq (sSet 1 (eNeg (eC (.int 1))))
  (sSeq (sFor (iSeq (eVar 0)) (gN 2) (sSeq (sIf (tOr (tNot (tVal (eIsi .tuple (eVar 2)))) (tVal (eBin cNe (eCall pLen (aCons (eVar 2) aNil)) (eC (.int 2))))) (sRet (eC (.bl false))) sNil)
  (sSeq (sIf (tOr (tNot (tVal (eFn 3 M.is_whole (aCons (eBin opIx (eVar 2) (eC (.int 0))) (aCons (eBin opAdd (eVar 1) (eC (.int 1))) (aCons (eC k_LAST_MOMENT) aNil)))))) (tNot (tVal (eFn 3 M.is_whole (aCons (eBin opIx (eVar 2) (eC (.int 1))) (aCons (eBin opSub (eC (.int 0)) (eC k_FAR)) (aCons (eC k_FAR) aNil))))))) (sRet (eC (.bl false))) sNil)
  (sSet 1 (eBin opIx (eVar 2) (eC (.int 0)))))))
  (sRet (eBin cEq (eBin opIx (eBin opIx (eVar 0) (eC (.int 0))) (eC (.int 0))) (eC (.int 0)))))))
def M.is_clock : FnSem := runF 3 M.b_is_clock
def M.b_law_offset : Sm :=
  (sSeq (sSet 1 (eFrz (nLst (aCons (eBin opMul (eC (.int 60)) (eBin opSub (eFn 2 (M.law_draw 20) (aCons (eVar 0) (aCons (eC (.int 29)) aNil))) (eC (.int 14)))) (aCons (eBin opSub (eFn 2 (M.law_draw 20) (aCons (eVar 0) (aCons (eC (.int 1681)) aNil))) (eC (.int 840))) (aCons (eC (.int 840)) (aCons (eNeg (eC (.int 840))) (aCons (eC (.int 0)) (aCons (eC (.int 60)) (aCons (eC (.int 120)) (aCons (eC (.int 1)) aNil)))))))))))
  (sRet (eBin opIx (eVar 1) (eFn 2 (M.law_draw 20) (aCons (eVar 0) (aCons (eC (.int 8)) aNil))))))
def M.law_offset : FnSem := runF 2 M.b_law_offset
def M.b_law_clock_v3 : Sm :=
  (sSeq (sOwn 2 (nLst (aCons (eTup (aCons (eC (.int 0)) (aCons (eFn 1 M.law_offset (aCons (eVar 0) aNil)) aNil))) aNil)))
  (sSeq (sSet 3 (eC (.int 0)))
  (sSeq (sSet 4 (eBin opAdd (eBin opAdd (eC (.int 2000)) (eBin opMul (eFn 2 (M.law_draw 20) (aCons (eVar 0) (aCons (eC (.int 3)) aNil))) (eC (.int 70000000)))) (eFn 2 (M.law_draw 20) (aCons (eVar 0) (aCons (eC (.int 1000000)) aNil)))))
  (sSeq (sFor (iRng1 (eFn 2 (M.law_draw 20) (aCons (eVar 0) (aCons (eVar 1) aNil)))) (gN 5) (sSeq (sSet 6 (eBin opIx (eFrz (nLst (aCons (eC (.int 1)) (aCons (eBin opAdd (eC (.int 1)) (eFn 2 (M.law_draw 20) (aCons (eVar 0) (aCons (eC (.int 3)) aNil)))) (aCons (eBin opAdd (eC (.int 1)) (eFn 2 (M.law_draw 20) (aCons (eVar 0) (aCons (eC (.int 1500)) aNil)))) (aCons (eBin opAdd (eC (.int 1)) (eFn 2 (M.law_draw 20) (aCons (eVar 0) (aCons (eC (.int 300000)) aNil)))) aNil)))))) (eFn 2 (M.law_draw 20) (aCons (eVar 0) (aCons (eC (.int 4)) aNil)))))
  (sSeq (sSet 3 (eBin opAdd (eIf (tVal (eBin cEq (eVar 5) (eC (.int 0)))) (eVar 4) (eVar 3)) (eVar 6)))
  (sIf (tVal (eBin cLt (eVar 3) (eC (.int 143990000)))) (sApp 2 (eTup (aCons (eVar 3) (aCons (eFn 1 M.law_offset (aCons (eVar 0) aNil)) aNil)))) sNil))))
  (sRet (eCall pTuple (aCons (eOwn 2) aNil)))))))
def M.law_clock_v3 : FnSem := runF 7 M.b_law_clock_v3
def M.b_offset_at : Sm :=
  (sSeq (sSet 2 (eC (.int 0)))
  (sSeq (sFor (iSeq (eVar 0)) (gT [(gN 3), (gN 4)]) (sIf (tVal (eBin cLe (eVar 3) (eVar 1))) (sSet 2 (eVar 4)) sNil))
  (sRet (eVar 2))))
def M.offset_at : FnSem := runF 5 M.b_offset_at
def M.b_local : Sm :=
  (sRet (eBin opAdd (eVar 1) (eFn 2 M.offset_at (aCons (eVar 0) (aCons (eVar 1) aNil)))))
def M.local : FnSem := runF 2 M.b_local
def M.b_stretches : Sm :=
  (sSeq (sSet 1 (eBin opAdd (eFrz (nLc (iSeq (eSl (eVar 0) (oSome (eC (.int 1))) oNone)) (gN 3) tT (eBin opIx (eVar 3) (eC (.int 0))) [3])) (eFrz (nLst (aCons (eBin opAdd (eC k_LAST_MOMENT) (eC (.int 1))) aNil)))))
  (sRet (eFrz (nLc (iRng1 (eCall pLen (aCons (eVar 0) aNil))) (gN 2) tT (eTup (aCons (eBin opIx (eBin opIx (eVar 0) (eVar 2)) (eC (.int 0))) (aCons (eBin opIx (eVar 1) (eVar 2)) (aCons (eBin opIx (eBin opIx (eVar 0) (eVar 2)) (eC (.int 1))) aNil)))) [2]))))
def M.stretches : FnSem := runF 4 M.b_stretches
def M.b_comes_at : Sm :=
  (sRet (eFrz (nLc (iSeq (eFn 1 M.stretches (aCons (eVar 0) aNil))) (gT [(gN 2), (gN 3), (gN 4)]) (tVal (eChain cLe cLt (eVar 2) (eBin opSub (eVar 1) (eVar 4)) (eVar 3))) (eBin opSub (eVar 1) (eVar 4)) [2, 3, 4])))
def M.comes_at : FnSem := runF 5 M.b_comes_at
def M.b_how_often : Sm :=
  (sRet (eCall pLen (aCons (eFn 2 M.comes_at (aCons (eVar 0) (aCons (eVar 1) aNil))) aNil)))
def M.how_often : FnSem := runF 2 M.b_how_often
def M.b_passed : Sm :=
  (sSeq (sFor (iSeq (eSl (eVar 0) (oSome (eC (.int 1))) oNone)) (gT [(gN 2), (gN 3)]) (sIf (tVal (eChain cLt cLt (eFn 2 M.local (aCons (eVar 0) (aCons (eBin opSub (eVar 2) (eC (.int 1))) aNil))) (eVar 1) (eBin opAdd (eVar 2) (eVar 3)))) (sRet (eVar 2)) sNil))
  (sRet (eC .non)))
def M.passed : FnSem := runF 4 M.b_passed
def M.b_moment_of : Sm :=
  (sSeq (sSet 2 (eFn 2 M.comes_at (aCons (eVar 0) (aCons (eVar 1) aNil))))
  (sSeq (sIf (tVal (eBin cNe (eVar 2) (eFrz (nLst aNil)))) (sRet (eCall pMin (aCons (eVar 2) aNil))) sNil)
  (sRet (eFn 2 M.passed (aCons (eVar 0) (aCons (eVar 1) aNil))))))
def M.moment_of : FnSem := runF 3 M.b_moment_of
def M.b_law_v8 : Sm :=
  (sSeq (sSet 1 (eFn 1 M.law_tape (aCons (eVar 0) aNil)))
  (sSeq (sFor (iRng1 (eC (.int 10))) (gN 2) (sSeq (sSet 3 (eFn 2 M.law_clock_v3 (aCons (eVar 1) (aCons (eBin opIx (eFrz (nLst (aCons (eC (.int 2)) (aCons (eC (.int 3)) (aCons (eC (.int 12)) (aCons (eC (.int 40)) aNil)))))) (eFn 2 (M.law_draw 20) (aCons (eVar 1) (aCons (eC (.int 4)) aNil)))) aNil))))
  (sSeq (sSet 4 (eBin opSub (eBin opAdd (eBin opIx (eBin opIx (eVar 3) (eFn 2 (M.law_draw 20) (aCons (eVar 1) (aCons (eCall pLen (aCons (eVar 3) aNil)) aNil)))) (eC (.int 0))) (eFn 2 (M.law_draw 20) (aCons (eVar 1) (aCons (eC (.int 2000)) aNil)))) (eC (.int 1000))))
  (sSeq (sSet 5 (eCall pMin (aCons (eC (.int 143995000)) (aCons (eCall pMax (aCons (eC (.int 4600)) (aCons (eBin opIx (eFrz (nLst (aCons (eVar 4) (aCons (eFn 2 (M.law_draw 20) (aCons (eVar 1) (aCons (eC (.int 143995000)) aNil))) aNil)))) (eFn 2 (M.law_draw 20) (aCons (eVar 1) (aCons (eC (.int 2)) aNil)))) aNil))) aNil))))
  (sSeq (sSet 6 (eFn 2 M.local (aCons (eVar 3) (aCons (eVar 5) aNil))))
  (sSeq (sSet 7 (eFn 2 M.moment_of (aCons (eVar 3) (aCons (eVar 6) aNil))))
  (sSeq (sIf (tOr (tVal (eBin cGt (eVar 7) (eVar 5))) (tOr (tVal (eBin cNe (eFn 2 M.local (aCons (eVar 3) (aCons (eVar 7) aNil))) (eVar 6))) (tVal (eBin cLt (eFn 2 M.how_often (aCons (eVar 3) (aCons (eVar 6) aNil))) (eC (.int 1)))))) (sRet (eC (.bl false))) sNil)
  (sSeq (sSet 8 (eTup (aCons (eVar 5) (aCons (eC (.int 1)) (aCons (eBin opAdd (eVar 5) (eBin opIx (eBin opIx (eVar 3) (eC (.int 0))) (eC (.int 1)))) aNil)))))
  (sSeq (sIf (tAnd (tVal (eBin cEq (eCall pLen (aCons (eVar 3) aNil)) (eC (.int 1)))) (tVal (eBin cNe (eTup (aCons (eVar 7) (aCons (eFn 2 M.how_often (aCons (eVar 3) (aCons (eVar 6) aNil))) (aCons (eVar 6) aNil)))) (eVar 8)))) (sRet (eC (.bl false))) sNil)
  (sSeq (sSet 9 (eBin opSub (eBin opAdd (eVar 6) (eFn 2 (M.law_draw 20) (aCons (eVar 1) (aCons (eC (.int 1700)) aNil)))) (eC (.int 850))))
  (sSeq (sSet 10 (eFn 2 M.moment_of (aCons (eVar 3) (aCons (eVar 9) aNil))))
  (sSeq (sIf (tAnd (tVal (eBin cEq (eFn 2 M.how_often (aCons (eVar 3) (aCons (eVar 9) aNil))) (eC (.int 0)))) (tNot (tVal (eChain cLt cLt (eFn 2 M.local (aCons (eVar 3) (aCons (eBin opSub (eVar 10) (eC (.int 1))) aNil))) (eVar 9) (eFn 2 M.local (aCons (eVar 3) (aCons (eVar 10) aNil))))))) (sRet (eC (.bl false))) sNil)
  (sIf (tAnd (tVal (eBin cGt (eFn 2 M.how_often (aCons (eVar 3) (aCons (eVar 9) aNil))) (eC (.int 0)))) (tVal (eBin cNe (eFn 2 M.local (aCons (eVar 3) (aCons (eVar 10) aNil))) (eVar 9)))) (sRet (eC (.bl false))) sNil)))))))))))))
  (sRet (eC (.bl true)))))
def M.law_v8 : FnSem := runF 11 M.b_law_v8
def M.b_law_how_v3 : Sm :=
  (sSeq (sSet 1 (eFn 2 (M.law_draw 20) (aCons (eVar 0) (aCons (eC (.int 5)) aNil))))
  (sSeq (sSet 2 (eBin opIx (eFrz (nLst (aCons (eC (.int 1)) (aCons (eBin opAdd (eC (.int 1)) (eFn 2 (M.law_draw 20) (aCons (eVar 0) (aCons (eC (.int 4)) aNil)))) (aCons (eBin opAdd (eC (.int 1)) (eFn 2 (M.law_draw 20) (aCons (eVar 0) (aCons (eC (.int 99)) aNil)))) aNil))))) (eFn 2 (M.law_draw 20) (aCons (eVar 0) (aCons (eC (.int 3)) aNil)))))
  (sSeq (sIf (tVal (eBin cEq (eVar 1) (eC (.int 0)))) (sRet (eTup (aCons (eC (.str "once")) aNil))) sNil)
  (sSeq (sIf (tVal (eBin cEq (eVar 1) (eC (.int 1)))) (sRet (eTup (aCons (eC (.str "days")) (aCons (eVar 2) aNil)))) sNil)
  (sSeq (sIf (tVal (eBin cEq (eVar 1) (eC (.int 2)))) (sSeq (sSet 3 (eFrz (nLc (iRng1 (eC (.int 7))) (gN 4) (tVal (eBin cEq (eFn 2 (M.law_draw 20) (aCons (eVar 0) (aCons (eC (.int 3)) aNil))) (eC (.int 0)))) (eVar 4) [4])))
  (sRet (eTup (aCons (eC (.str "weeks")) (aCons (eVar 2) (aCons (eCall pTuple (aCons (eOr (eVar 3) (eFrz (nLst (aCons (eFn 2 (M.law_draw 20) (aCons (eVar 0) (aCons (eC (.int 7)) aNil))) aNil)))) aNil)) aNil)))))) sNil)
  (sSeq (sIf (tVal (eBin cEq (eVar 1) (eC (.int 3)))) (sRet (eTup (aCons (eC (.str "months")) (aCons (eVar 2) (aCons (eBin opIx (eFrz (nLst (aCons (eBin opAdd (eC (.int 1)) (eFn 2 (M.law_draw 20) (aCons (eVar 0) (aCons (eC (.int 31)) aNil)))) (aCons (eBin opAdd (eC (.int 29)) (eFn 2 (M.law_draw 20) (aCons (eVar 0) (aCons (eC (.int 3)) aNil)))) aNil)))) (eFn 2 (M.law_draw 20) (aCons (eVar 0) (aCons (eC (.int 2)) aNil)))) aNil))))) sNil)
  (sRet (eTup (aCons (eC (.str "months")) (aCons (eVar 2) (aCons (eBin opIx (eFrz (nLst (aCons (eC (.int 1)) (aCons (eC (.int 2)) (aCons (eC (.int 3)) (aCons (eC (.int 4)) (aCons (eC (.int 5)) (aCons (eNeg (eC (.int 1))) aNil)))))))) (eFn 2 (M.law_draw 20) (aCons (eVar 0) (aCons (eC (.int 6)) aNil)))) (aCons (eFn 2 (M.law_draw 20) (aCons (eVar 0) (aCons (eC (.int 7)) aNil))) aNil))))))))))))
def M.law_how_v3 : FnSem := runF 5 M.b_law_how_v3
def M.b_Once_init : Sm :=
  (sFld [0, 1, 2, 3, 4, 5] "first" (eVar 0) (eVar 1))
def M.Once_init : FnSem := runF 2 M.b_Once_init
def M.b_Months_init : Sm :=
  (sSeq (sExpr (eFn 2 M.Once_init (aCons (eVar 0) (aCons (eVar 1) aNil))))
  (sSeq (sFld [3, 4, 5] "month" (eVar 0) (eFn 1 M.month_of (aCons (eVar 1) aNil)))
  (sFld [3, 4, 5] "step" (eVar 0) (eVar 2))))
def M.Months_init : FnSem := runF 3 M.b_Months_init
def M.b_Dates_init : Sm :=
  (sSeq (sExpr (eFn 3 M.Months_init (aCons (eVar 0) (aCons (eVar 1) (aCons (eVar 2) aNil)))))
  (sFld [4] "date" (eVar 0) (eVar 3)))
def M.Dates_init : FnSem := runF 4 M.b_Dates_init
def M.b_Days_init : Sm :=
  (sSeq (sExpr (eFn 2 M.Once_init (aCons (eVar 0) (aCons (eVar 1) aNil))))
  (sFld [1] "step" (eVar 0) (eVar 2)))
def M.Days_init : FnSem := runF 3 M.b_Days_init
def M.b_Weekdays_init : Sm :=
  (sSeq (sExpr (eFn 3 M.Months_init (aCons (eVar 0) (aCons (eVar 1) (aCons (eVar 2) aNil)))))
  (sSeq (sFld [5] "which" (eVar 0) (eVar 3))
  (sFld [5] "one" (eVar 0) (eVar 4))))
def M.Weekdays_init : FnSem := runF 5 M.b_Weekdays_init
def M.b_Weeks_init : Sm :=
  (sSeq (sExpr (eFn 2 M.Once_init (aCons (eVar 0) (aCons (eVar 1) aNil))))
  (sSeq (sFld [2] "monday" (eVar 0) (eBin opSub (eVar 1) (eFn 1 M.weekday (aCons (eVar 1) aNil))))
  (sSeq (sFld [2] "step" (eVar 0) (eBin opMul (eC (.int 7)) (eVar 2)))
  (sSeq (sFld [2] "weekdays" (eVar 0) (eVar 3))
  (sFld [2] "left_out" (eVar 0) (eCall pLen (aCons (eFrz (nLc (iSeq (eVar 3)) (gN 4) (tVal (eBin cLt (eBin opAdd (eFld [2] "monday" (eVar 0)) (eVar 4)) (eVar 1))) (eVar 4) [4])) aNil)))))))
def M.Weeks_init : FnSem := runF 5 M.b_Weeks_init
def M.b_coming_of : Sm :=
  (sSeq (sPar 1 2 (aCons (eBin opIx (eVar 0) (eC (.int 0))) (aCons (eBin opIx (eVar 0) (eC (.int 3))) aNil)))
  (sSeq (sIf (tVal (eBin cEq (eBin opIx (eVar 2) (eC (.int 0))) (eC (.str "once")))) (sRet (eMakeF 0 2 M.Once_init (aCons (eVar 1) aNil))) sNil)
  (sSeq (sIf (tVal (eBin cEq (eBin opIx (eVar 2) (eC (.int 0))) (eC (.str "days")))) (sRet (eMakeF 1 3 M.Days_init (aCons (eVar 1) (aCons (eBin opIx (eVar 2) (eC (.int 1))) aNil)))) sNil)
  (sSeq (sIf (tVal (eBin cEq (eBin opIx (eVar 2) (eC (.int 0))) (eC (.str "weeks")))) (sRet (eMakeF 2 4 M.Weeks_init (aCons (eVar 1) (aCons (eBin opIx (eVar 2) (eC (.int 1))) (aCons (eBin opIx (eVar 2) (eC (.int 2))) aNil))))) sNil)
  (sSeq (sIf (tVal (eBin cEq (eCall pLen (aCons (eVar 2) aNil)) (eC (.int 3)))) (sRet (eMakeF 4 4 M.Dates_init (aCons (eVar 1) (aCons (eBin opIx (eVar 2) (eC (.int 1))) (aCons (eBin opIx (eVar 2) (eC (.int 2))) aNil))))) sNil)
  (sRet (eMakeF 5 5 M.Weekdays_init (aCons (eVar 1) (aCons (eBin opIx (eVar 2) (eC (.int 1))) (aCons (eBin opIx (eVar 2) (eC (.int 2))) (aCons (eBin opIx (eVar 2) (eC (.int 3))) aNil)))))))))))
def M.coming_of : FnSem := runF 3 M.b_coming_of
def M.b_Days_at_place : Sm :=
  (sRet (eBin opAdd (eFld [1] "first" (eVar 0)) (eBin opMul (eVar 1) (eFld [1] "step" (eVar 0)))))
def M.Days_at_place : FnSem := runF 2 M.b_Days_at_place
def M.b_Months_begins : Sm :=
  (sRet (eFn 1 M.first_of (aCons (eBin opAdd (eFld [3, 4, 5] "month" (eVar 0)) (eBin opMul (eVar 1) (eFld [3, 4, 5] "step" (eVar 0)))) aNil)))
def M.Months_begins : FnSem := runF 2 M.b_Months_begins
def M.b_Dates_date_in : Sm :=
  (sRet (eIf (tVal (eBin cLe (eFld [4] "date" (eVar 0)) (eFn 1 M.month_length (aCons (eVar 1) aNil)))) (eFld [4] "date" (eVar 0)) (eC .non)))
def M.Dates_date_in : FnSem := runF 2 M.b_Dates_date_in
def M.b_Months_date_in : Sm :=
  (sRet (eC .non))
def M.Months_date_in : FnSem := runF 2 M.b_Months_date_in
def M.b_Weekdays_date_in : Sm :=
  (sSeq (sSet 2 (eBin opAdd (eC (.int 1)) (eBin opMod (eBin opSub (eFld [5] "one" (eVar 0)) (eFn 1 M.weekday (aCons (eFn 1 M.first_of (aCons (eVar 1) aNil)) aNil))) (eC (.int 7)))))
  (sSeq (sIf (tVal (eBin cGt (eFld [5] "which" (eVar 0)) (eC (.int 0)))) (sSeq (sSet 2 (eBin opAdd (eVar 2) (eBin opMul (eC (.int 7)) (eBin opSub (eFld [5] "which" (eVar 0)) (eC (.int 1))))))
  (sRet (eIf (tVal (eBin cLe (eVar 2) (eFn 1 M.month_length (aCons (eVar 1) aNil)))) (eVar 2) (eC .non)))) sNil)
  (sSeq (sWhile fuel (tVal (eBin cLe (eBin opAdd (eVar 2) (eC (.int 7))) (eFn 1 M.month_length (aCons (eVar 1) aNil)))) (sSet 2 (eBin opAdd (eVar 2) (eC (.int 7)))))
  (sRet (eVar 2)))))
def M.Weekdays_date_in : FnSem := runF 3 M.b_Weekdays_date_in
def M.b_Months_days_in : Sm :=
  (sSeq (sSet 2 (eBin opAdd (eFld [3, 4, 5] "month" (eVar 0)) (eBin opMul (eVar 1) (eFld [3, 4, 5] "step" (eVar 0)))))
  (sSeq (sSet 3 (eMeth "date_in" [(3, M.Months_date_in), (4, M.Dates_date_in), (5, M.Weekdays_date_in)] 2 (eVar 0) (aCons (eVar 2) aNil)))
  (sSeq (sIf (tOr (tVal (eBin cIs (eVar 3) (eC .non))) (tVal (eBin cLt (eBin opSub (eBin opAdd (eFn 1 M.first_of (aCons (eVar 2) aNil)) (eVar 3)) (eC (.int 1))) (eFld [3, 4, 5] "first" (eVar 0))))) (sRet (eFrz (nLst aNil))) sNil)
  (sRet (eFrz (nLst (aCons (eBin opSub (eBin opAdd (eFn 1 M.first_of (aCons (eVar 2) aNil)) (eVar 3)) (eC (.int 1))) aNil)))))))
def M.Months_days_in : FnSem := runF 4 M.b_Months_days_in
def M.b_Months_at_place : Sm :=
  (sSeq (sSet 2 (eC (.int 0)))
  (sSeq (sSet 3 (eVar 1))
  (sSeq (sWhile fuel (tVal (eBin cLe (eMeth "begins" [(3, M.Months_begins), (4, M.Months_begins), (5, M.Months_begins)] 2 (eVar 0) (aCons (eVar 2) aNil)) (eC k_LAST_DAY))) (sSeq (sSet 4 (eMeth "days_in" [(3, M.Months_days_in), (4, M.Months_days_in), (5, M.Months_days_in)] 2 (eVar 0) (aCons (eVar 2) aNil)))
  (sSeq (sIf (tVal (eBin cLt (eVar 3) (eCall pLen (aCons (eVar 4) aNil)))) (sRet (eBin opIx (eVar 4) (eVar 3))) sNil)
  (sSeq (sSet 3 (eBin opSub (eVar 3) (eCall pLen (aCons (eVar 4) aNil))))
  (sSet 2 (eBin opAdd (eVar 2) (eC (.int 1))))))))
  (sRet (eC .non)))))
def M.Months_at_place : FnSem := runF 5 M.b_Months_at_place
def M.b_Once_at_place : Sm :=
  (sRet (eIf (tVal (eBin cEq (eVar 1) (eC (.int 0)))) (eFld [0, 1, 2, 3, 4, 5] "first" (eVar 0)) (eC .non)))
def M.Once_at_place : FnSem := runF 2 M.b_Once_at_place
def M.b_Weeks_begins : Sm :=
  (sRet (eBin opAdd (eFld [2] "monday" (eVar 0)) (eBin opMul (eVar 1) (eFld [2] "step" (eVar 0)))))
def M.Weeks_begins : FnSem := runF 2 M.b_Weeks_begins
def M.b_Weeks_at_place : Sm :=
  (sSeq (sTg (eCall pDivmod (aCons (eBin opAdd (eVar 1) (eFld [2] "left_out" (eVar 0))) (aCons (eCall pLen (aCons (eFld [2] "weekdays" (eVar 0)) aNil)) aNil))) (gT [(gN 2), (gN 3)]))
  (sRet (eBin opAdd (eMeth "begins" [(2, M.Weeks_begins)] 2 (eVar 0) (aCons (eVar 2) aNil)) (eBin opIx (eFld [2] "weekdays" (eVar 0)) (eVar 3)))))
def M.Weeks_at_place : FnSem := runF 4 M.b_Weeks_at_place
def M.b_limit_of : Sm :=
  (sSeq (sIf (tVal (eBin cIs (eBin opIx (eVar 0) (eC (.int 4))) (eC .non))) (sRet (eC k_LAST_DAY)) sNil)
  (sSeq (sIf (tVal (eBin cEq (eBin opIx (eBin opIx (eVar 0) (eC (.int 4))) (eC (.int 0))) (eC (.str "until")))) (sRet (eBin opIx (eBin opIx (eVar 0) (eC (.int 4))) (eC (.int 1)))) sNil)
  (sSeq (sSet 2 (eMeth "at_place" [(0, M.Once_at_place), (1, M.Days_at_place), (2, M.Weeks_at_place), (3, M.Months_at_place), (4, M.Months_at_place), (5, M.Months_at_place)] 2 (eVar 1) (aCons (eBin opSub (eBin opIx (eBin opIx (eVar 0) (eC (.int 4))) (eC (.int 1))) (eC (.int 1))) aNil)))
  (sRet (eIf (tVal (eBin cIs (eVar 2) (eC .non))) (eC k_LAST_DAY) (eCall pMin (aCons (eVar 2) (aCons (eC k_LAST_DAY) aNil))))))))
def M.limit_of : FnSem := runF 3 M.b_limit_of
def M.b_Days_begins : Sm :=
  (sRet (eBin opAdd (eFld [1] "first" (eVar 0)) (eBin opMul (eVar 1) (eFld [1] "step" (eVar 0)))))
def M.Days_begins : FnSem := runF 2 M.b_Days_begins
def M.b_Days_days_in : Sm :=
  (sRet (eFrz (nLst (aCons (eMeth "begins" [(1, M.Days_begins)] 2 (eVar 0) (aCons (eVar 1) aNil)) aNil))))
def M.Days_days_in : FnSem := runF 2 M.b_Days_days_in
def M.b_Days_stretch_of : Sm :=
  (sRet (eCall pMax (aCons (eC (.int 0)) (aCons (eBin opFdiv (eBin opSub (eVar 1) (eFld [1] "first" (eVar 0))) (eFld [1] "step" (eVar 0))) aNil))))
def M.Days_stretch_of : FnSem := runF 2 M.b_Days_stretch_of
def M.b_Months_stretch_of : Sm :=
  (sRet (eCall pMax (aCons (eC (.int 0)) (aCons (eBin opFdiv (eBin opSub (eFn 1 M.month_of (aCons (eVar 1) aNil)) (eFld [3, 4, 5] "month" (eVar 0))) (eFld [3, 4, 5] "step" (eVar 0))) aNil))))
def M.Months_stretch_of : FnSem := runF 2 M.b_Months_stretch_of
def M.b_Once_begins : Sm :=
  (sRet (eBin opAdd (eFld [0, 1, 2, 3, 4, 5] "first" (eVar 0)) (eBin opMul (eVar 1) (eC k_LAST_DAY))))
def M.Once_begins : FnSem := runF 2 M.b_Once_begins
def M.b_Once_days_in : Sm :=
  (sRet (eIf (tVal (eBin cEq (eVar 1) (eC (.int 0)))) (eFrz (nLst (aCons (eFld [0, 1, 2, 3, 4, 5] "first" (eVar 0)) aNil))) (eFrz (nLst aNil))))
def M.Once_days_in : FnSem := runF 2 M.b_Once_days_in
def M.b_Once_stretch_of : Sm :=
  (sRet (eC (.int 0)))
def M.Once_stretch_of : FnSem := runF 2 M.b_Once_stretch_of
def M.b_Weeks_days_in : Sm :=
  (sSeq (sSet 2 (eFrz (nLc (iSeq (eFld [2] "weekdays" (eVar 0))) (gN 3) tT (eBin opAdd (eMeth "begins" [(2, M.Weeks_begins)] 2 (eVar 0) (aCons (eVar 1) aNil)) (eVar 3)) [3])))
  (sRet (eFrz (nLc (iSeq (eVar 2)) (gN 4) (tVal (eBin cGe (eVar 4) (eFld [2] "first" (eVar 0)))) (eVar 4) [4]))))
def M.Weeks_days_in : FnSem := runF 5 M.b_Weeks_days_in
def M.b_Weeks_stretch_of : Sm :=
  (sRet (eCall pMax (aCons (eC (.int 0)) (aCons (eBin opFdiv (eBin opSub (eVar 1) (eFld [2] "monday" (eVar 0))) (eFld [2] "step" (eVar 0))) aNil))))
def M.Weeks_stretch_of : FnSem := runF 2 M.b_Weeks_stretch_of
def M.b_days_of : Sm :=
  (sSeq (sSet 3 (eFn 1 M.coming_of (aCons (eVar 0) aNil)))
  (sSeq (sSet 4 (eCall pMin (aCons (eVar 2) (aCons (eFn 2 M.limit_of (aCons (eVar 0) (aCons (eVar 3) aNil))) aNil))))
  (sSeq (sSet 5 (eMeth "stretch_of" [(0, M.Once_stretch_of), (1, M.Days_stretch_of), (2, M.Weeks_stretch_of), (3, M.Months_stretch_of), (4, M.Months_stretch_of), (5, M.Months_stretch_of)] 2 (eVar 3) (aCons (eVar 1) aNil)))
  (sSeq (sOwn 6 (nLst aNil))
  (sSeq (sWhile fuel (tVal (eBin cLe (eMeth "begins" [(0, M.Once_begins), (1, M.Days_begins), (2, M.Weeks_begins), (3, M.Months_begins), (4, M.Months_begins), (5, M.Months_begins)] 2 (eVar 3) (aCons (eVar 5) aNil)) (eVar 4))) (sSeq (sExt 6 (eFrz (nLc (iSeq (eMeth "days_in" [(0, M.Once_days_in), (1, M.Days_days_in), (2, M.Weeks_days_in), (3, M.Months_days_in), (4, M.Months_days_in), (5, M.Months_days_in)] 2 (eVar 3) (aCons (eVar 5) aNil))) (gN 7) (tVal (eChain cLe cLe (eVar 1) (eVar 7) (eVar 4))) (eVar 7) [7])))
  (sSet 5 (eBin opAdd (eVar 5) (eC (.int 1))))))
  (sRetO 6))))))
def M.days_of : FnSemN := runN 8 M.b_days_of
def M.b_Days_ahead_of : Sm :=
  (sRet (eCall pMax (aCons (eC (.int 0)) (aCons (eBin opFdiv (eBin opSub (eBin opAdd (eBin opSub (eVar 1) (eFld [1] "first" (eVar 0))) (eFld [1] "step" (eVar 0))) (eC (.int 1))) (eFld [1] "step" (eVar 0))) aNil))))
def M.Days_ahead_of : FnSem := runF 2 M.b_Days_ahead_of
def M.b_Months_ahead_of : Sm :=
  (sSeq (sSet 2 (eC (.int 0)))
  (sSeq (sFor (iRng1 (eBin opAdd (eMeth "stretch_of" [(3, M.Months_stretch_of), (4, M.Months_stretch_of), (5, M.Months_stretch_of)] 2 (eVar 0) (aCons (eVar 1) aNil)) (eC (.int 1)))) (gN 3) (sSet 2 (eBin opAdd (eVar 2) (eCall pLen (aCons (eFrz (nLc (iSeq (eMeth "days_in" [(3, M.Months_days_in), (4, M.Months_days_in), (5, M.Months_days_in)] 2 (eVar 0) (aCons (eVar 3) aNil))) (gN 4) (tVal (eBin cLt (eVar 4) (eVar 1))) (eVar 4) [4])) aNil)))))
  (sRet (eVar 2))))
def M.Months_ahead_of : FnSem := runF 5 M.b_Months_ahead_of
def M.b_Once_ahead_of : Sm :=
  (sRet (eCall pInt (aCons (eBin cLt (eFld [0, 1, 2, 3, 4, 5] "first" (eVar 0)) (eVar 1)) aNil)))
def M.Once_ahead_of : FnSem := runF 2 M.b_Once_ahead_of
def M.b_Weeks_ahead_of : Sm :=
  (sSeq (sSet 2 (eMeth "stretch_of" [(2, M.Weeks_stretch_of)] 2 (eVar 0) (aCons (eVar 1) aNil)))
  (sSeq (sSet 3 (eFrz (nLc (iSeq (eFld [2] "weekdays" (eVar 0))) (gN 4) (tVal (eBin cLt (eBin opAdd (eMeth "begins" [(2, M.Weeks_begins)] 2 (eVar 0) (aCons (eVar 2) aNil)) (eVar 4)) (eVar 1))) (eVar 4) [4])))
  (sRet (eCall pMax (aCons (eC (.int 0)) (aCons (eBin opSub (eBin opAdd (eBin opMul (eVar 2) (eCall pLen (aCons (eFld [2] "weekdays" (eVar 0)) aNil))) (eCall pLen (aCons (eVar 3) aNil))) (eFld [2] "left_out" (eVar 0))) aNil))))))
def M.Weeks_ahead_of : FnSem := runF 5 M.b_Weeks_ahead_of
def M.b_is_day : Sm :=
  (sSeq (sSet 2 (eFn 1 M.coming_of (aCons (eVar 0) aNil)))
  (sSeq (sIf (tOr (tVal (eBin cGt (eVar 1) (eC k_LAST_DAY))) (tVal (eBin cNotIn (eVar 1) (eMeth "days_in" [(0, M.Once_days_in), (1, M.Days_days_in), (2, M.Weeks_days_in), (3, M.Months_days_in), (4, M.Months_days_in), (5, M.Months_days_in)] 2 (eVar 2) (aCons (eMeth "stretch_of" [(0, M.Once_stretch_of), (1, M.Days_stretch_of), (2, M.Weeks_stretch_of), (3, M.Months_stretch_of), (4, M.Months_stretch_of), (5, M.Months_stretch_of)] 2 (eVar 2) (aCons (eVar 1) aNil)) aNil))))) (sRet (eC (.bl false))) sNil)
  (sSeq (sIf (tVal (eBin cIs (eBin opIx (eVar 0) (eC (.int 4))) (eC .non))) (sRet (eC (.bl true))) sNil)
  (sSeq (sIf (tVal (eBin cEq (eBin opIx (eBin opIx (eVar 0) (eC (.int 4))) (eC (.int 0))) (eC (.str "until")))) (sRet (eBin cLe (eVar 1) (eBin opIx (eBin opIx (eVar 0) (eC (.int 4))) (eC (.int 1))))) sNil)
  (sRet (eBin cLt (eMeth "ahead_of" [(0, M.Once_ahead_of), (1, M.Days_ahead_of), (2, M.Weeks_ahead_of), (3, M.Months_ahead_of), (4, M.Months_ahead_of), (5, M.Months_ahead_of)] 2 (eVar 2) (aCons (eVar 1) aNil)) (eBin opIx (eBin opIx (eVar 0) (eC (.int 4))) (eC (.int 1)))))))))
def M.is_day : FnSem := runF 3 M.b_is_day
def M.b_law_rule_v3 : Sm :=
  (sSeq (sSet 1 (eFrz (nLst (aCons (eBin opAdd (eC (.int 2)) (eFn 2 (M.law_draw 20) (aCons (eVar 0) (aCons (eC (.int 3000)) aNil)))) (aCons (eBin opAdd (eC (.int 2)) (eFn 2 (M.law_draw 20) (aCons (eVar 0) (aCons (eC (.int 99989)) aNil)))) (aCons (eBin opSub (eC (.int 99990)) (eFn 2 (M.law_draw 20) (aCons (eVar 0) (aCons (eC (.int 60)) aNil)))) aNil))))))
  (sSeq (sSet 2 (eBin opIx (eVar 1) (eFn 2 (M.law_draw 20) (aCons (eVar 0) (aCons (eC (.int 3)) aNil)))))
  (sSeq (sSet 3 (eC .non))
  (sSeq (sSet 4 (eFn 2 (M.law_draw 20) (aCons (eVar 0) (aCons (eC (.int 3)) aNil))))
  (sSeq (sIf (tVal (eBin cEq (eVar 4) (eC (.int 1)))) (sSet 3 (eTup (aCons (eC (.str "times")) (aCons (eBin opIx (eFrz (nLst (aCons (eC (.int 1)) (aCons (eBin opAdd (eC (.int 1)) (eFn 2 (M.law_draw 20) (aCons (eVar 0) (aCons (eC (.int 12)) aNil)))) (aCons (eBin opAdd (eC (.int 1)) (eFn 2 (M.law_draw 20) (aCons (eVar 0) (aCons (eC (.int 1000)) aNil)))) aNil))))) (eFn 2 (M.law_draw 20) (aCons (eVar 0) (aCons (eC (.int 3)) aNil)))) aNil)))) sNil)
  (sSeq (sIf (tVal (eBin cEq (eVar 4) (eC (.int 2)))) (sSet 3 (eTup (aCons (eC (.str "until")) (aCons (eCall pMin (aCons (eC (.int 99990)) (aCons (eBin opAdd (eVar 2) (eBin opIx (eFrz (nLst (aCons (eC (.int 0)) (aCons (eFn 2 (M.law_draw 20) (aCons (eVar 0) (aCons (eC (.int 30)) aNil))) (aCons (eFn 2 (M.law_draw 20) (aCons (eVar 0) (aCons (eC (.int 900)) aNil))) aNil))))) (eFn 2 (M.law_draw 20) (aCons (eVar 0) (aCons (eC (.int 3)) aNil))))) aNil))) aNil)))) sNil)
  (sSeq (sSet 5 (eBin opIx (eFrz (nLst (aCons (eC (.int 30)) (aCons (eC (.int 1)) (aCons (eC (.int 1440)) (aCons (eBin opAdd (eC (.int 1)) (eFn 2 (M.law_draw 20) (aCons (eVar 0) (aCons (eC (.int 1440)) aNil)))) aNil)))))) (eFn 2 (M.law_draw 20) (aCons (eVar 0) (aCons (eC (.int 4)) aNil)))))
  (sSeq (sSet 6 (eBin opIx (eFrz (nLst (aCons (eFn 2 (M.law_draw 20) (aCons (eVar 0) (aCons (eC (.int 1440)) aNil))) (aCons (eC (.int 0)) (aCons (eC (.int 1439)) aNil))))) (eFn 2 (M.law_draw 20) (aCons (eVar 0) (aCons (eC (.int 3)) aNil)))))
  (sSeq (sSet 7 (eFn 1 M.law_how_v3 (aCons (eVar 0) aNil)))
  (sSeq (sIf (tAnd (tVal (eBin cEq (eBin opIx (eVar 7) (eC (.int 0))) (eC (.str "months")))) (tVal (eBin cEq (eVar 4) (eC (.int 1))))) (sSet 3 (eTup (aCons (eC (.str "times")) (aCons (eBin opAdd (eC (.int 1)) (eBin opMod (eBin opIx (eVar 3) (eC (.int 1))) (eC (.int 120)))) aNil)))) sNil)
  (sRet (eTup (aCons (eVar 2) (aCons (eVar 6) (aCons (eVar 5) (aCons (eVar 7) (aCons (eVar 3) aNil)))))))))))))))))
def M.law_rule_v3 : FnSem := runF 8 M.b_law_rule_v3
def M.b_law_comes_v3 : Sm :=
  (sSeq (sTg (eVar 0) (gT [(gN 2), (gN 3), (gN 4), (gN 5), (gN 6)]))
  (sSeq (sIf (tOr (tVal (eBin cLt (eVar 1) (eVar 2))) (tVal (eBin cGt (eVar 1) (eC (.int 99990))))) (sRet (eC (.bl false))) sNil)
  (sSeq (sIf (tVal (eBin cEq (eBin opIx (eVar 5) (eC (.int 0))) (eC (.str "once")))) (sRet (eBin cEq (eVar 1) (eVar 2))) sNil)
  (sSeq (sIf (tVal (eBin cEq (eBin opIx (eVar 5) (eC (.int 0))) (eC (.str "days")))) (sRet (eBin cEq (eBin opMod (eBin opSub (eVar 1) (eVar 2)) (eBin opIx (eVar 5) (eC (.int 1)))) (eC (.int 0)))) sNil)
  (sSeq (sIf (tVal (eBin cEq (eBin opIx (eVar 5) (eC (.int 0))) (eC (.str "weeks")))) (sRet (eAnd (eBin cIn (eBin opMod (eVar 1) (eC (.int 7))) (eBin opIx (eVar 5) (eC (.int 2)))) (eBin cEq (eBin opMod (eBin opSub (eBin opFdiv (eVar 1) (eC (.int 7))) (eBin opFdiv (eVar 2) (eC (.int 7)))) (eBin opIx (eVar 5) (eC (.int 1)))) (eC (.int 0))))) sNil)
  (sSeq (sTg (eFn 1 M.date_of (aCons (eVar 1) aNil)) (gT [(gN 7), (gN 8), (gN 9)]))
  (sSeq (sSet 10 (eFn 1 M.date_of (aCons (eVar 2) aNil)))
  (sSeq (sIf (tVal (eBin cNe (eBin opMod (eBin opSub (eBin opAdd (eBin opMul (eC (.int 12)) (eBin opSub (eVar 7) (eBin opIx (eVar 10) (eC (.int 0))))) (eVar 8)) (eBin opIx (eVar 10) (eC (.int 1)))) (eBin opIx (eVar 5) (eC (.int 1)))) (eC (.int 0)))) (sRet (eC (.bl false))) sNil)
  (sSeq (sIf (tVal (eBin cEq (eCall pLen (aCons (eVar 5) aNil)) (eC (.int 3)))) (sRet (eBin cEq (eVar 9) (eBin opIx (eVar 5) (eC (.int 2))))) sNil)
  (sSeq (sIf (tVal (eBin cNe (eBin opMod (eVar 1) (eC (.int 7))) (eBin opIx (eVar 5) (eC (.int 3))))) (sRet (eC (.bl false))) sNil)
  (sSeq (sIf (tVal (eBin cGt (eBin opIx (eVar 5) (eC (.int 2))) (eC (.int 0)))) (sRet (eBin cEq (eBin opFdiv (eBin opAdd (eVar 9) (eC (.int 6))) (eC (.int 7))) (eBin opIx (eVar 5) (eC (.int 2))))) sNil)
  (sRet (eBin cNe (eBin opIx (eFn 1 M.date_of (aCons (eBin opAdd (eVar 1) (eC (.int 7))) aNil)) (eC (.int 1))) (eVar 8))))))))))))))
def M.law_comes_v3 : FnSem := runF 11 M.b_law_comes_v3
def M.b_bare : Sm :=
  (sRet (eTup (aCons (eC (.str "is")) (aCons (eVar 2) (aCons (eBin opIx (eVar 0) (eC (.int 1))) (aCons (eBin opIx (eVar 0) (eC (.int 2))) (aCons (eVar 1) aNil)))))))
def M.bare : FnSem := runF 3 M.b_bare
def M.b_told_by : Sm :=
  (sSeq (sTg (eVar 0) (gT [(gN 2), (gN 3), (gN 4), (gN 5)]))
  (sSeq (sSet 6 (eFn 3 M.bare (aCons (eVar 3) (aCons (eVar 4) (aCons (eVar 1) aNil)))))
  (sSeq (sFor (iSeq (eVar 5)) (gT [(gN 7), (gN 8)]) (sIf (tVal (eBin cEq (eVar 7) (eVar 1))) (sSet 6 (eVar 8)) sNil))
  (sRet (eIf (tVal (eBin cEq (eBin opIx (eVar 6) (eC (.int 0))) (eC (.str "off")))) (eC .non) (eSl (eVar 6) (oSome (eC (.int 1))) oNone))))))
def M.told_by : FnSem := runF 9 M.b_told_by
def M.b_meetings : Sm :=
  (sSeq (sSet 3 (eFrz (nLc (iSeq (eFrz (nFn 3 M.days_of (aCons (eBin opIx (eVar 0) (eC (.int 1))) (aCons (eVar 1) (aCons (eVar 2) aNil)))))) (gN 4) tT (eTup (aCons (eVar 4) (aCons (eFn 2 M.told_by (aCons (eVar 0) (aCons (eVar 4) aNil))) aNil))) [4])))
  (sRetL (nLc (iSeq (eVar 3)) (gN 5) (tVal (eBin cIsNot (eBin opIx (eVar 5) (eC (.int 1))) (eC .non))) (eVar 5) [5])))
def M.meetings : FnSemN := runN 6 M.b_meetings
def M.b_moments : Sm :=
  (sSeq (sOwn 3 (nLst aNil))
  (sSeq (sFor (iSeq (eFrz (nFn 3 M.meetings (aCons (eVar 0) (aCons (eVar 1) (aCons (eVar 2) aNil)))))) (gT [(gN 4), (gT [(gN 5), (gN 6), (gN 7), (gN 8)])]) (sApp 3 (eTup (aCons (eFn 2 M.moment_of (aCons (eBin opIx (eVar 0) (eC (.int 0))) (aCons (eBin opAdd (eBin opMul (eC k_DAY_MINUTES) (eVar 5)) (eVar 6)) aNil))) (aCons (eVar 7) (aCons (eVar 8) (aCons (eVar 4) aNil)))))))
  (sRetL (nCall pSorted (aCons (eOwn 3) aNil)))))
def M.moments : FnSemN := runN 9 M.b_moments
def M.b_law_near_clock : Sm :=
  (sSeq (sOwn 2 (nLst (aCons (eTup (aCons (eC (.int 0)) (aCons (eFn 1 M.law_offset (aCons (eVar 0) aNil)) aNil))) aNil)))
  (sSeq (sSet 3 (eCall pMax (aCons (eC (.int 2000)) (aCons (eBin opMul (eC (.int 1440)) (eBin opSub (eVar 1) (eC (.int 2)))) aNil))))
  (sSeq (sFor (iRng1 (eFn 2 (M.law_draw 20) (aCons (eVar 0) (aCons (eC (.int 39)) aNil)))) (gN 4) (sSeq (sSet 3 (eBin opAdd (eBin opAdd (eVar 3) (eC (.int 1))) (eBin opIx (eFrz (nLst (aCons (eFn 2 (M.law_draw 20) (aCons (eVar 0) (aCons (eC (.int 5)) aNil))) (aCons (eFn 2 (M.law_draw 20) (aCons (eVar 0) (aCons (eC (.int 1500)) aNil))) (aCons (eFn 2 (M.law_draw 20) (aCons (eVar 0) (aCons (eC (.int 9000)) aNil))) aNil))))) (eFn 2 (M.law_draw 20) (aCons (eVar 0) (aCons (eC (.int 3)) aNil))))))
  (sIf (tVal (eBin cLt (eVar 3) (eC (.int 143990000)))) (sApp 2 (eTup (aCons (eVar 3) (aCons (eFn 1 M.law_offset (aCons (eVar 0) aNil)) aNil)))) sNil)))
  (sRet (eCall pTuple (aCons (eOwn 2) aNil))))))
def M.law_near_clock : FnSem := runF 5 M.b_law_near_clock
def M.b_law_v19 : Sm :=
  (sSeq (sSet 1 (eFn 1 M.law_tape (aCons (eVar 0) aNil)))
  (sSeq (sFor (iRng1 (eC (.int 3))) (gN 2) (sSeq (sSet 3 (eFn 1 M.law_rule_v3 (aCons (eVar 1) aNil)))
  (sSeq (sSet 4 (eBin opIx (eFrz (nLst (aCons (eFn 2 M.law_near_clock (aCons (eVar 1) (aCons (eBin opIx (eVar 3) (eC (.int 0))) aNil))) (aCons (eFn 2 M.law_clock_v3 (aCons (eVar 1) (aCons (eC (.int 40)) aNil))) aNil)))) (eFn 2 (M.law_draw 20) (aCons (eVar 1) (aCons (eC (.int 2)) aNil)))))
  (sSeq (sSet 5 (eTup (aCons (eVar 4) (aCons (eVar 3) (aCons (eC (.str "hall")) (aCons (eTup aNil) aNil))))))
  (sSeq (sSet 6 (eCall pMin (aCons (eC (.int 99990)) (aCons (eBin opAdd (eBin opIx (eVar 3) (eC (.int 0))) (eC (.int 70))) aNil))))
  (sSeq (sSet 7 (eFrz (nFn 3 M.days_of (aCons (eVar 3) (aCons (eC (.int 0)) (aCons (eVar 6) aNil))))))
  (sSeq (sIf (tVal (eBin cNe (eFrz (nFn 3 M.meetings (aCons (eVar 5) (aCons (eC (.int 0)) (aCons (eVar 6) aNil))))) (eFrz (nLc (iSeq (eVar 7)) (gN 12) tT (eTup (aCons (eVar 12) (aCons (eTup (aCons (eVar 12) (aCons (eBin opIx (eVar 3) (eC (.int 1))) (aCons (eBin opIx (eVar 3) (eC (.int 2))) (aCons (eC (.str "hall")) aNil))))) aNil))) [12])))) (sRet (eC (.bl false))) sNil)
  (sSeq (sSet 8 (eFrz (nFn 3 M.moments (aCons (eVar 5) (aCons (eC (.int 0)) (aCons (eVar 6) aNil))))))
  (sSeq (sIf (tOr (tVal (eBin cNe (eVar 8) (eFrz (nCall pSorted (aCons (eVar 8) aNil))))) (tVal (eBin cNe (eFrz (nCall pSorted (aCons (eFrz (nLc (iSeq (eVar 8)) (gN 14) tT (eBin opIx (eVar 14) (eC (.int 3))) [14])) aNil))) (eVar 7)))) (sRet (eC (.bl false))) sNil)
  (sFor (iSeq (eVar 8)) (gT [(gN 9), (gN 10), (gN 11), (gN 12)]) (sSeq (sSet 13 (eBin opAdd (eBin opMul (eC (.int 1440)) (eVar 12)) (eBin opIx (eVar 3) (eC (.int 1)))))
  (sSeq (sIf (tVal (eBin cNe (eTup (aCons (eVar 10) (aCons (eVar 11) aNil))) (eTup (aCons (eBin opIx (eVar 3) (eC (.int 2))) (aCons (eC (.str "hall")) aNil))))) (sRet (eC (.bl false))) sNil)
  (sSeq (sIf (tAnd (tVal (eBin cEq (eFn 2 M.how_often (aCons (eVar 4) (aCons (eVar 13) aNil))) (eC (.int 0)))) (tNot (tVal (eChain cLt cLt (eFn 2 M.local (aCons (eVar 4) (aCons (eBin opSub (eVar 9) (eC (.int 1))) aNil))) (eVar 13) (eFn 2 M.local (aCons (eVar 4) (aCons (eVar 9) aNil))))))) (sRet (eC (.bl false))) sNil)
  (sIf (tAnd (tVal (eBin cGt (eFn 2 M.how_often (aCons (eVar 4) (aCons (eVar 13) aNil))) (eC (.int 0)))) (tVal (eBin cNe (eFn 2 M.local (aCons (eVar 4) (aCons (eVar 9) aNil))) (eVar 13)))) (sRet (eC (.bl false))) sNil))))))))))))))
  (sRet (eC (.bl true)))))
def M.law_v19 : FnSem := runF 15 M.b_law_v19
end G
end
namespace G
open PySem L2

def noE : XV → Sto → Prop := fun _ _ => False
/-- r ends well with Q, or raises with E -/
@[irreducible] def Tx {α : Type} (r : R α) (Q : α → Sto → Prop) (E : XV → Sto → Prop) : Prop := match r with
  | .ok a S => Q a S
  | .exc e S => E e S
  | .bad => False
abbrev Tri {α : Type} (r : R α) (Q : α → Sto → Prop) : Prop := Tx r Q noE
section
variable {α β : Type} {r : R α} {a : α} {S : Sto} {Q Q' : α → Sto → Prop} {E E' : XV → Sto → Prop}
theorem Tx.mono (h : Tx r Q E) (q : ∀ a S, Q a S → Q' a S) (e : ∀ a S, E a S → E' a S) : Tx r Q' E' := by
  unfold Tx at h ⊢
  cases r with
  | ok a S => exact q a S h
  | exc x S => exact e x S h
  | bad => exact h
theorem Tx.to (h : Tx r Q noE) (q : ∀ a S, Q a S → Q' a S) : Tx r Q' E := h.mono q fun _ _ z => z.elim
theorem Tx.use (h : Tx r Q E) (q : ∀ a S, Q a S → Q' a S) : Tx r Q' E := h.mono q fun _ _ z => z
theorem Tx.eq (h : Tx r Q noE) : ∃ a S, r = .ok a S ∧ Q a S := by
  unfold Tx at h
  cases r with
  | ok a S => exact ⟨a, S, rfl, h⟩
  | exc _ _ => exact h.elim
  | bad => exact h.elim
theorem tri_eq {x : α} (h : Tx r (fun a S1 => a = x ∧ S1 = S) noE) : r = .ok x S := by
  obtain ⟨a, S1, e, rfl, rfl⟩ := h.eq
  exact e
theorem x_ok : Tx (.ok a S) Q E = Q a S := by with_unfolding_all rfl
theorem x_exc {e : XV} : Tx (.exc e S : R α) Q E = E e S := by with_unfolding_all rfl
theorem x_bad : Tx (.bad : R α) Q E = False := by with_unfolding_all rfl
theorem x_bind {k : α → Sto → R β} {Q : β → Sto → Prop} : Tx (r.bind k) Q E = Tx r (fun a S1 => Tx (k a S1) Q E) E := by cases r <;> with_unfolding_all rfl
theorem x_bs {env : Env} {k : α → Sto → R Fl} {Q : Fl → Sto → Prop} : Tx (r.bs env k) Q E = Tx r (fun a S1 => Tx (k a S1) Q E) (fun e S1 => Q (.xc e env) S1) := by cases r <;> with_unfolding_all rfl
theorem x_mk {b : Bool} {d : D} {Q : D → Sto → Prop} : Tx (mk b d S) Q E = (b = true ∧ Q d S) := by
  cases b <;> simp [mk, Tx]
end
theorem x_ite {α : Type} {c : Prop} [Decidable c] {r : R α} {Q : α → Sto → Prop} {E : XV → Sto → Prop} : Tx (if c then r else .bad) Q E = (c ∧ Tx r Q E) := by
  by_cases h : c
  · rw [if_pos h]; simp [h]
  · rw [if_neg h]; simp [h, Tx]
abbrev KD := D → Sto → Prop
abbrev KL := List D → Sto → Prop
abbrev KB := Bool → Sto → Prop
abbrev KF := Fl → Sto → Prop
abbrev EX := XV → Sto → Prop
section
variable {env : Env} {S : Sto} {E : EX} {K : KD} {KL' : KL} {KB' : KB} {KF' : KF} {fa fb fc : Ex} {d x y : D} {ds : List D} {b : Bool} {i j n : Nat}
def slotV : Option Slot → KD → Sto → Prop
  | some (.val d), K, S => K d S
  | _, _, _ => False
theorem slotV_v : slotV (some (.val d)) K S = K d S := rfl
def slotO : Option Slot → KD → Sto → Prop
  | some (.val d), K, S => K d S
  | some (.own ds), K, S => K (.lst ds) S
  | _, _, _ => False
theorem slotO_v : slotO (some (.val d)) K S = K d S := rfl
theorem slotO_o : slotO (some (.own ds)) K S = K (.lst ds) S := rfl
theorem x_var : Tx (eVar i env S) K E = slotV env[i]? K S := by
  unfold eVar slotV; split <;> simp_all [Tx]
theorem x_own : Tx (eOwn i env S) K E = slotO env[i]? K S := by
  unfold eOwn slotO; split <;> simp_all [Tx]
theorem x_c : Tx (eC d env S) K E = K d S := by with_unfolding_all rfl
def kBin1 (f : D → D → Sto → R D) (fb : Ex) (env : Env) (K : KD) (E : EX) : KD := fun x S => Tx (fb env S) (fun y S2 => Tx (f x y S2) K E) E
def kBin2 (f : D → D → Sto → R D) (x : D) (K : KD) (E : EX) : KD := fun y S2 => Tx (f x y S2) K E
variable {f g : D → D → Sto → R D}
theorem x_bin : Tx (eBin f fa fb env S) K E = Tx (fa env S) (kBin1 f fb env K E) E := by
  unfold eBin; simp only [x_bind]; with_unfolding_all rfl
theorem k_bin1 : kBin1 f fb env K E x S = Tx (fb env S) (kBin2 f x K E) E := by with_unfolding_all rfl
theorem k_bin2 : kBin2 f x K E y S = Tx (f x y S) K E := by with_unfolding_all rfl
def kNeg (K : KD) : KD := fun x S => match x with
  | .int i => K (.int (-i)) S
  | _ => False
theorem x_neg : Tx (eNeg fa env S) K E = Tx (fa env S) (kNeg K) E := by
  unfold eNeg; rw [x_bind]; congr 1; funext x S; cases x <;> with_unfolding_all rfl
theorem k_neg {i : Int} : kNeg K (.int i) S = K (.int (-i)) S := rfl
def kTup (K : KD) : KL := fun ds S => okL ds.length = true ∧ K (.tup ds) S
variable {fs gs : Sem1 (List D)}
theorem x_tup : Tx (eTup fs env S) K E = Tx (fs env S) (kTup K) E := by
  unfold eTup; rw [x_bind]; congr 1; funext x S; exact x_mk
theorem okL_of {n : Nat} (h : n ≤ 16777216) : okL n = true := decide_eq_true (by show n ≤ sizeLine; rw [PySem.sizeLine_eq]; exact h)
theorem k_tup (h : ds.length ≤ 16777216) : kTup K ds S = K (.tup ds) S := by
  unfold kTup; rw [okL_of h]; simp
def kLst (K : KL) : KL := fun ds S => okL ds.length = true ∧ K ds S
theorem x_lst : Tx (nLst fs env S) KL' E = Tx (fs env S) (kLst KL') E := by
  unfold nLst; rw [x_bind]; congr 1; funext x S
  unfold kLst
  split <;> simp_all [Tx]
theorem k_lst (h : ds.length ≤ 16777216) : kLst KL' ds S = KL' ds S := by
  unfold kLst; rw [okL_of h]; simp
def catK (x y : D) (K : KL) (S : Sto) : Prop := match catD x y with
  | some ds => K ds S
  | none => False
def kCat1 (fb : Ex) (env : Env) (K : KL) (E : EX) : KD := fun x S1 => Tx (fb env S1) (fun y S2 => catK x y K S2) E
def kCat2 (x : D) (K : KL) : KD := fun y S2 => catK x y K S2
theorem x_nCat : Tx (nCat fa fb env S) KL' E = Tx (fa env S) (kCat1 fb env KL' E) E := by
  unfold nCat; simp only [x_bind]; congr 1; funext x S; unfold kCat1; congr 1; funext y S
  unfold catK; cases catD x y <;> with_unfolding_all rfl
theorem k_cat1 : kCat1 fb env KL' E x S = Tx (fb env S) (kCat2 x KL') E := by with_unfolding_all rfl
theorem k_cat2 {a b : List D} (h : a.length + b.length ≤ 16777216) : kCat2 (.lst a) KL' (.lst b) S = KL' (a ++ b) S := by
  have : catD (.lst a) (.lst b) = some (a ++ b) := by
    show (if okL (a.length + b.length) = true then _ else _) = _
    rw [okL_of h]; rfl
  unfold kCat2 catK; rw [this]
def repK (x y : D) (K : KL) (S : Sto) : Prop := match repD x y with
  | some ds => K ds S
  | none => False
def kRep1 (fb : Ex) (env : Env) (K : KL) (E : EX) : KD := fun x S1 => Tx (fb env S1) (fun y S2 => repK x y K S2) E
def kRep2 (x : D) (K : KL) : KD := fun y S2 => repK x y K S2
theorem x_nRep : Tx (nRep fa fb env S) KL' E = Tx (fa env S) (kRep1 fb env KL' E) E := by
  unfold nRep; simp only [x_bind]; congr 1; funext x S; unfold kRep1; congr 1; funext y S
  unfold repK; cases repD x y <;> with_unfolding_all rfl
theorem k_rep1 : kRep1 fb env KL' E x S = Tx (fb env S) (kRep2 x KL') E := by with_unfolding_all rfl
theorem k_rep2 {a : List D} {k : Int} (h0 : 0 ≤ k) (h1 : k ≤ 1000) (h2 : a.length ≤ 1000) : kRep2 (.lst a) KL' (.int k) S = KL' (List.replicate k.toNat a).flatten S := by
  have : repD (.lst a) (.int k) = some (List.replicate k.toNat a).flatten := by
    show (if decide _ = true then _ else _) = _
    rw [decide_eq_true]
    · rfl
    · refine ⟨by omega, by omega, ?_⟩
      rw [PySem.sizeLine_eq]
      have : a.length * k.toNat ≤ 1000 * 1000 := Nat.mul_le_mul h2 (by omega)
      omega
  unfold kRep2 repK; rw [this]
def kFrz (K : KD) : KL := fun ds S => K (.lst ds) S
theorem x_frz : Tx (eFrz fs env S) K E = Tx (fs env S) (kFrz K) E := by
  unfold eFrz; rw [x_bind]; with_unfolding_all rfl
theorem k_frz : kFrz K ds S = K (.lst ds) S := rfl
theorem x_nil : Tx (aNil env S) KL' E = KL' [] S := by with_unfolding_all rfl
def kCons1 (gs : Sem1 (List D)) (env : Env) (K : KL) (E : EX) : KD := fun d S1 => Tx (gs env S1) (fun ds S2 => K (d :: ds) S2) E
def kCons2 (d : D) (K : KL) : KL := fun ds S2 => K (d :: ds) S2
theorem x_cons : Tx (aCons fa gs env S) KL' E = Tx (fa env S) (kCons1 gs env KL' E) E := by
  unfold aCons; simp only [x_bind]; with_unfolding_all rfl
theorem k_cons1 : kCons1 gs env KL' E d S = Tx (gs env S) (kCons2 d KL') E := by with_unfolding_all rfl
theorem k_cons2 : kCons2 d KL' ds S = KL' (d :: ds) S := rfl
def truV (x : D) (K : KB) (S : Sto) : Prop := match truth x with
  | some b => K b S
  | none => False
def kVal (K : KB) : KD := fun x S => truV x K S
variable {ft gt : Sem1 Bool}
theorem x_val : Tx (tVal fa env S) KB' E = Tx (fa env S) (kVal KB') E := by
  unfold tVal; rw [x_bind]; congr 1; funext x S
  unfold kVal truV; split <;> simp_all [Tx]
theorem k_val : kVal KB' x S = truV x KB' S := rfl
theorem tr_bl : truV (.bl b) KB' S = KB' b S := rfl
theorem tr_non : truV .non KB' S = KB' false S := rfl
theorem tr_int {i : Int} : truV (.int i) KB' S = KB' (i != 0) S := rfl
theorem tr_lst : truV (.lst ds) KB' S = KB' (!ds.isEmpty) S := rfl
theorem tr_tup : truV (.tup ds) KB' S = KB' (!ds.isEmpty) S := rfl
theorem tr_frl : truV (.frl ds) KB' S = KB' (!ds.isEmpty) S := rfl
theorem tr_str {z : Str} (h : z.length ≤ 16777216) : truV (.str z) KB' S = KB' ((z.length : Int) != 0) S := by
  unfold truV truth; simp only []; rw [if_pos (by rw [PySem.sizeLine_eq]; exact h)]
def kAnd (g : Sem1 Bool) (env : Env) (K : KB) (E : EX) : KB := fun b S => if b = true then Tx (g env S) K E else K false S
def kOr (g : Sem1 Bool) (env : Env) (K : KB) (E : EX) : KB := fun b S => if b = true then K true S else Tx (g env S) K E
def kNot (K : KB) : KB := fun b S => K (!b) S
theorem x_and : Tx (tAnd ft gt env S) KB' E = Tx (ft env S) (kAnd gt env KB' E) E := by
  unfold tAnd; rw [x_bind]; congr 1; funext b S; cases b <;> with_unfolding_all rfl
theorem x_or : Tx (tOr ft gt env S) KB' E = Tx (ft env S) (kOr gt env KB' E) E := by
  unfold tOr; rw [x_bind]; congr 1; funext b S; cases b <;> with_unfolding_all rfl
theorem x_not : Tx (tNot ft env S) KB' E = Tx (ft env S) (kNot KB') E := by
  unfold tNot; rw [x_bind]; with_unfolding_all rfl
theorem k_and : kAnd gt env KB' E b S = if b = true then Tx (gt env S) KB' E else KB' false S := by with_unfolding_all rfl
theorem k_or : kOr gt env KB' E b S = if b = true then KB' true S else Tx (gt env S) KB' E := by with_unfolding_all rfl
theorem k_not : kNot KB' b S = KB' (!b) S := rfl
theorem x_tT : Tx (tT env S) KB' E = KB' true S := by with_unfolding_all rfl
def kIfE (f g : Ex) (env : Env) (K : KD) (E : EX) : KB := fun b S => if b = true then Tx (f env S) K E else Tx (g env S) K E
theorem x_ifE : Tx (eIf ft fa fb env S) K E = Tx (ft env S) (kIfE fa fb env K E) E := by
  unfold eIf; rw [x_bind]; congr 1; funext b S; cases b <;> with_unfolding_all rfl
theorem k_ifE : kIfE fa fb env K E b S = if b = true then Tx (fa env S) K E else Tx (fb env S) K E := by with_unfolding_all rfl
def kAndV (g : Ex) (env : Env) (K : KD) (E : EX) : KD := fun x S => truV x (fun b S => if b = true then Tx (g env S) K E else K x S) S
def kOrV (g : Ex) (env : Env) (K : KD) (E : EX) : KD := fun x S => truV x (fun b S => if b = true then K x S else Tx (g env S) K E) S
def kNotV (K : KD) : KD := fun x S => truV x (fun b S => K (.bl (!b)) S) S
theorem x_andV : Tx (eAnd fa fb env S) K E = Tx (fa env S) (kAndV fb env K E) E := by
  unfold eAnd; rw [x_bind]; congr 1; funext x S
  unfold kAndV truV; cases h : truth x with
  | none => with_unfolding_all rfl
  | some b => cases b <;> with_unfolding_all rfl
theorem x_orV : Tx (eOr fa fb env S) K E = Tx (fa env S) (kOrV fb env K E) E := by
  unfold eOr; rw [x_bind]; congr 1; funext x S
  unfold kOrV truV; cases h : truth x with
  | none => with_unfolding_all rfl
  | some b => cases b <;> with_unfolding_all rfl
theorem x_notV : Tx (eNot fa env S) K E = Tx (fa env S) (kNotV K) E := by
  unfold eNot; rw [x_bind]; congr 1; funext x S
  unfold kNotV truV; cases h : truth x <;> with_unfolding_all rfl
theorem k_andV : kAndV fb env K E x S = truV x (fun b S => if b = true then Tx (fb env S) K E else K x S) S := by with_unfolding_all rfl
theorem k_orV : kOrV fb env K E x S = truV x (fun b S => if b = true then K x S else Tx (fb env S) K E) S := by with_unfolding_all rfl
theorem k_notV : kNotV K x S = truV x (fun b S => K (.bl (!b)) S) S := rfl
def kCh1 (f g : D → D → Sto → R D) (fb fc : Ex) (env : Env) (K : KD) (E : EX) : KD := fun x S => Tx (fb env S) (fun y S2 => Tx (f x y S2) (fun z S3 => match z with
  | .bl true => Tx (fc env S3) (fun w S4 => Tx (g y w S4) K E) E
  | .bl false => K (.bl false) S3
  | _ => False) E) E
def kCh2 (f g : D → D → Sto → R D) (x : D) (fc : Ex) (env : Env) (K : KD) (E : EX) : KD := fun y S2 => Tx (f x y S2) (fun z S3 => match z with
  | .bl true => Tx (fc env S3) (fun w S4 => Tx (g y w S4) K E) E
  | .bl false => K (.bl false) S3
  | _ => False) E
def kCh3 (g : D → D → Sto → R D) (y : D) (fc : Ex) (env : Env) (K : KD) (E : EX) : KD := fun z S3 => match z with
  | .bl true => Tx (fc env S3) (fun w S4 => Tx (g y w S4) K E) E
  | .bl false => K (.bl false) S3
  | _ => False
theorem x_chain : Tx (eChain f g fa fb fc env S) K E = Tx (fa env S) (kCh1 f g fb fc env K E) E := by
  unfold eChain; simp only [x_bind]; congr 1; funext x S; unfold kCh1; congr 1; funext y S; congr 1; funext z S
  split <;> simp only [x_bind, x_ok, x_bad]
theorem k_ch1 : kCh1 f g fb fc env K E x S = Tx (fb env S) (kCh2 f g x fc env K E) E := by with_unfolding_all rfl
theorem k_ch2 : kCh2 f g x fc env K E y S = Tx (f x y S) (kCh3 g y fc env K E) E := by with_unfolding_all rfl
theorem k_ch3 : kCh3 g y fc env K E (.bl b) S = if b = true then Tx (fc env S) (kBin2 g y K E) E else K (.bl false) S := by cases b <;> with_unfolding_all rfl
def kCall {α : Type} (f : List D → Sto → R α) (K : α → Sto → Prop) (E : EX) : KL := fun ds S => Tx (f ds S) K E
theorem x_call {f : List D → Sto → R D} : Tx (eCall f fs env S) K E = Tx (fs env S) (kCall f K E) E := by
  unfold eCall; rw [x_bind]; with_unfolding_all rfl
theorem x_callN {f : List D → Sto → R (List D)} : Tx (nCall f fs env S) KL' E = Tx (fs env S) (kCall f KL' E) E := by
  unfold nCall; rw [x_bind]; with_unfolding_all rfl
theorem k_call {α : Type} {f : List D → Sto → R α} {K : α → Sto → Prop} : kCall f K E ds S = Tx (f ds S) K E := by with_unfolding_all rfl
def optK {β : Type} (o : Option β) (f : β → D) (K : KD) (S : Sto) : Prop := match o with
  | some a => K (f a) S
  | none => False
theorem x_opt {β : Type} {o : Option β} {f : β → D} : Tx (opt o f S) K E = optK o f K S := by
  cases o <;> with_unfolding_all rfl
theorem k_some {β : Type} {a : β} {f : β → D} : optK (some a) f K S = K (f a) S := rfl
def kIsi (T : Ty) (K : KD) : KD := fun d S => optK (isT T d) .bl K S
theorem x_isi {T : Ty} : Tx (eIsi T fa env S) K E = Tx (fa env S) (kIsi T K) E := by
  unfold eIsi; simp only [x_bind, x_opt]; with_unfolding_all rfl
theorem k_isi {T : Ty} : kIsi T K d S = optK (isT T d) .bl K S := rfl
abbrev KO := Option Int → Sto → Prop
variable {KO' : KO} {lo hi : Sem1 (Option Int)}
theorem x_oNone : Tx (oNone env S) KO' E = KO' none S := by with_unfolding_all rfl
def kSome (K : KO) : KD := fun x S => match x with
  | .int i => K (some i) S
  | _ => False
theorem x_oSome : Tx (oSome fa env S) KO' E = Tx (fa env S) (kSome KO') E := by
  unfold oSome; rw [x_bind]; congr 1; funext x S; cases x <;> with_unfolding_all rfl
theorem k_oSome {i : Int} : kSome KO' (.int i) S = KO' (some i) S := rfl
def kSl1 (lo hi : Sem1 (Option Int)) (env : Env) (K : KD) (E : EX) : KD := fun x S1 => Tx (lo env S1) (fun l S2 => Tx (hi env S2) (fun h S3 => Tx (opSl x l h S3) K E) E) E
def kSl2 (x : D) (hi : Sem1 (Option Int)) (env : Env) (K : KD) (E : EX) : KO := fun l S2 => Tx (hi env S2) (fun h S3 => Tx (opSl x l h S3) K E) E
def kSl3 (x : D) (l : Option Int) (K : KD) (E : EX) : KO := fun h S3 => Tx (opSl x l h S3) K E
theorem x_sl : Tx (eSl fa lo hi env S) K E = Tx (fa env S) (kSl1 lo hi env K E) E := by
  unfold eSl; simp only [x_bind]; with_unfolding_all rfl
theorem k_sl1 : kSl1 lo hi env K E x S = Tx (lo env S) (kSl2 x hi env K E) E := by with_unfolding_all rfl
theorem k_sl2 {l : Option Int} : kSl2 x hi env K E l S = Tx (hi env S) (kSl3 x l K E) E := by with_unfolding_all rfl
theorem k_sl3 {l h : Option Int} : kSl3 x l K E h S = Tx (opSl x l h S) K E := by with_unfolding_all rfl
def slK (x : D) (l h : Option Int) (K : KL) (S : Sto) : Prop := match x with
  | .lst ds => K (cutA ds l h) S
  | .frl ds => K (cutA ds l h) S
  | _ => False
def kNSl1 (lo hi : Sem1 (Option Int)) (env : Env) (K : KL) (E : EX) : KD := fun x S1 => Tx (lo env S1) (fun l S2 => Tx (hi env S2) (fun h S3 => slK x l h K S3) E) E
def kNSl2 (x : D) (hi : Sem1 (Option Int)) (env : Env) (K : KL) (E : EX) : KO := fun l S2 => Tx (hi env S2) (fun h S3 => slK x l h K S3) E
def kNSl3 (x : D) (l : Option Int) (K : KL) : KO := fun h S3 => slK x l h K S3
theorem x_nSl : Tx (nSl fa lo hi env S) KL' E = Tx (fa env S) (kNSl1 lo hi env KL' E) E := by
  unfold nSl kNSl1; simp only [x_bind]; congr 1; funext x S; congr 1; funext l S; congr 1; funext h S
  cases x <;> with_unfolding_all rfl
theorem k_nsl1 : kNSl1 lo hi env KL' E x S = Tx (lo env S) (kNSl2 x hi env KL' E) E := by with_unfolding_all rfl
theorem k_nsl2 {l : Option Int} : kNSl2 x hi env KL' E l S = Tx (hi env S) (kNSl3 x l KL') E := by with_unfolding_all rfl
theorem k_nsl3L {l h : Option Int} : kNSl3 (.lst ds) l KL' h S = KL' (cutA ds l h) S := rfl
theorem k_nsl3F {l h : Option Int} : kNSl3 (.frl ds) l KL' h S = KL' (cutA ds l h) S := rfl
def kRev (K : KD) : KD := fun x S => match x with
  | .lst ds => K (.lst ds.reverse) S
  | .tup ds => K (.tup ds.reverse) S
  | _ => False
theorem x_rev : Tx (eRev fa env S) K E = Tx (fa env S) (kRev K) E := by
  unfold eRev; rw [x_bind]; congr 1; funext x S; cases x <;> with_unfolding_all rfl
theorem k_rev : kRev K (.lst ds) S = K (.lst ds.reverse) S := rfl
theorem k_revT : kRev K (.tup ds) S = K (.tup ds.reverse) S := rfl
def kFn (n : Nat) (sem : FnSem) (K : KD) (E : EX) : KL := fun ds S => ds.length = n ∧ Tx (sem ds S) K E
theorem x_fn {sem : FnSem} : Tx (eFn n sem fs env S) K E = Tx (fs env S) (kFn n sem K E) E := by
  unfold eFn; rw [x_bind]; congr 1; funext x S; unfold kFn; split <;> simp_all [Tx]
def kFnN (n : Nat) (sem : FnSemN) (K : KL) (E : EX) : KL := fun ds S => ds.length = n ∧ Tx (sem ds S) K E
theorem x_nFn {sem : FnSemN} : Tx (nFn n sem fs env S) KL' E = Tx (fs env S) (kFnN n sem KL' E) E := by
  unfold nFn; rw [x_bind]; congr 1; funext x S; unfold kFnN; split <;> simp_all [Tx]
theorem k_fnN {sem : FnSemN} (h : ds.length = n) : kFnN n sem KL' E ds S = Tx (sem ds S) KL' E := by
  unfold kFnN; simp [h]
theorem k_fn {sem : FnSem} (h : ds.length = n) : kFn n sem K E ds S = Tx (sem ds S) K E := by
  unfold kFn; simp [h]
def kSeqD (K : KL) : KD := fun x S => match seqD x with
  | some ds => K ds S
  | none => False
theorem x_seq : Tx (iSeq fa env S) KL' E = Tx (fa env S) (kSeqD KL') E := by
  unfold iSeq; rw [x_bind]; congr 1; funext x S; unfold kSeqD; split <;> simp_all [Tx]
theorem k_seqL : kSeqD KL' (.lst ds) S = KL' ds S := rfl
theorem k_seqT : kSeqD KL' (.tup ds) S = KL' ds S := rfl
theorem k_seqF : kSeqD KL' (.frl ds) S = KL' ds S := rfl
theorem k_seqS {z : Str} : kSeqD KL' (.str z) S = KL' (signs z) S := rfl
theorem ok62_of {i : Int} (h1 : -4611686018427387904 ≤ i) (h2 : i < 4611686018427387904) : ok62 i = true := by
  unfold ok62
  exact decide_eq_true ⟨by have : (2:Int)^62 = 4611686018427387904 := by decide
                           omega, by have : (2:Int)^62 = 4611686018427387904 := by decide
                                     omega⟩
def kRng1 (K : KL) : KD := fun x S => match x with
  | .int j => ok62 j = true ∧ K (rangeD 0 j) S
  | _ => False
theorem x_rng1 : Tx (iRng1 fa env S) KL' E = Tx (fa env S) (kRng1 KL') E := by
  unfold iRng1; rw [x_bind]; congr 1; funext x S
  cases x <;> simp only [kRng1, x_ite, x_ok, x_bad]
theorem k_rng1 {j : Int} (h1 : -4611686018427387904 ≤ j) (h2 : j < 4611686018427387904) : kRng1 KL' (.int j) S = KL' (rangeD 0 j) S := by
  unfold kRng1; simp [ok62_of h1 h2]
def kRng2a (fb : Ex) (env : Env) (K : KL) (E : EX) : KD := fun x S => Tx (fb env S) (fun y S => match x, y with
  | .int i, .int j => ok62 i = true ∧ ok62 j = true ∧ K (rangeD i j) S
  | _, _ => False) E
def kRng2b (x : D) (K : KL) : KD := fun y S => match x, y with
  | .int i, .int j => ok62 i = true ∧ ok62 j = true ∧ K (rangeD i j) S
  | _, _ => False
theorem x_rng2 : Tx (iRng2 fa fb env S) KL' E = Tx (fa env S) (kRng2a fb env KL' E) E := by
  unfold iRng2; simp only [x_bind]; congr 1; funext x S; unfold kRng2a; congr 1; funext y S
  cases x <;> cases y <;> simp only [x_bad]
  rename_i i j
  cases h : ok62 i <;> cases h' : ok62 j <;> simp [x_ok, x_bad]
theorem k_rng2a : kRng2a fb env KL' E x S = Tx (fb env S) (kRng2b x KL') E := by with_unfolding_all rfl
theorem k_rng2b {i j : Int} (h1 : -4611686018427387904 ≤ i) (h2 : i < 4611686018427387904) (h3 : -4611686018427387904 ≤ j) (h4 : j < 4611686018427387904) : kRng2b (.int i) KL' (.int j) S = KL' (rangeD i j) S := by
  unfold kRng2b; simp [ok62_of h1 h2, ok62_of h3 h4]
def kEnum (K : KL) : KL := fun ds S => match ds with
  | [.lst ds] => K (enumD ds) S
  | [.tup ds] => K (enumD ds) S
  | _ => False
theorem x_enum : Tx (iEnumD fs env S) KL' E = Tx (fs env S) (kEnum KL') E := by
  unfold iEnumD; rw [x_bind]; congr 1; funext x S; unfold kEnum; split <;> simp_all [Tx]
theorem k_enumT : kEnum KL' [.tup ds] S = KL' (enumD ds) S := rfl
theorem k_enum : kEnum KL' [.lst ds] S = KL' (enumD ds) S := rfl
def kZip (K : KL) : KL := fun ds S => match ds with
  | [.lst a, .lst b] => K (zipD a b) S
  | [.tup a, .tup b] => K (zipD a b) S
  | [.tup a, .lst b] => K (zipD a b) S
  | [.lst a, .tup b] => K (zipD a b) S
  | _ => False
theorem x_zip : Tx (iZipD fs env S) KL' E = Tx (fs env S) (kZip KL') E := by
  unfold iZipD; rw [x_bind]; congr 1; funext x S; unfold kZip; split <;> simp_all [Tx]
theorem k_zipL {a b : List D} : kZip KL' [.lst a, .lst b] S = KL' (zipD a b) S := rfl
theorem k_zipT {a b : List D} : kZip KL' [.tup a, .tup b] S = KL' (zipD a b) S := rfl
theorem k_zipM {a b : List D} : kZip KL' [.tup a, .lst b] S = KL' (zipD a b) S := rfl
theorem k_zipN {a b : List D} : kZip KL' [.lst a, .tup b] S = KL' (zipD a b) S := rfl
variable {tg : Tg} {vs : List Nat}
def kLc (tg : Tg) (c : Sem1 Bool) (elt : Ex) (vs : List Nat) (env : Env) (K : KL) (E : EX) : KL := fun ds S => okL ds.length = true ∧ Tx (lcL tg c elt (wipeE env vs) ds S) K E
theorem x_lc : Tx (nLc fs tg ft fa vs env S) KL' E = Tx (fs env S) (kLc tg ft fa vs env KL' E) E := by
  unfold nLc; rw [x_bind]; congr 1; funext x S; unfold kLc; split <;> simp_all [Tx]
theorem k_lc (h : ds.length ≤ 16777216) : kLc tg ft fa vs env KL' E ds S = Tx (lcL tg ft fa (wipeE env vs) ds S) KL' E := by
  unfold kLc; simp [okL_of h]
variable {sf sg : Sm}
/-- what is raised within a statement -/
def kX (env : Env) (K : KF) : EX := fun e S => K (.xc e env) S
theorem k_x {e : XV} : kX env KF' e S = KF' (.xc e env) S := rfl
theorem x_sNil : Tx (sNil env S) KF' E = KF' (.nx env) S := by with_unfolding_all rfl
def kSq (g : Sm) (K : KF) (E : EX) : KF := fun fl S => match fl with
  | .nx e => Tx (g e S) K E
  | fl => K fl S
theorem x_sSeq : Tx (sSeq sf sg env S) KF' E = Tx (sf env S) (kSq sg KF' E) E := by
  unfold sSeq; rw [x_bind]; congr 1; funext x S; cases x <;> with_unfolding_all rfl
theorem k_sqn : kSq sg KF' E (.nx env) S = Tx (sg env S) KF' E := by with_unfolding_all rfl
theorem k_sqr : kSq sg KF' E (.rt d) S = KF' (.rt d) S := rfl
theorem k_sqb : kSq sg KF' E (.bk env) S = KF' (.bk env) S := rfl
theorem k_sqx {e : XV} : kSq sg KF' E (.xc e env) S = KF' (.xc e env) S := rfl
theorem k_sqo : kSq sg KF' E (.ro ds) S = KF' (.ro ds) S := rfl
theorem k_sqc : kSq sg KF' E (.ct env) S = KF' (.ct env) S := rfl
def kExpr (env : Env) (K : KF) : KD := fun _ S => K (.nx env) S
theorem x_sExpr : Tx (sExpr fa env S) KF' E = Tx (fa env S) (kExpr env KF') (kX env KF') := by
  unfold sExpr; rw [x_bs]; with_unfolding_all rfl
theorem k_expr : kExpr env KF' d S = KF' (.nx env) S := rfl
def kRet (K : KF) : KD := fun d S => K (.rt d) S
theorem x_sRet : Tx (sRet fa env S) KF' E = Tx (fa env S) (kRet KF') (kX env KF') := by
  unfold sRet; rw [x_bs]; with_unfolding_all rfl
theorem k_ret : kRet KF' d S = KF' (.rt d) S := rfl
def sRetOK (K : KF) : Option Slot → Sto → Prop
  | some (.own ds), S => K (.ro ds) S
  | _, _ => False
theorem x_sRetO : Tx (sRetO i env S) KF' E = sRetOK KF' env[i]? S := by
  unfold sRetO sRetOK; split <;> simp_all [Tx]
theorem k_retO : sRetOK KF' (some (.own ds)) S = KF' (.ro ds) S := rfl
def kRetL (K : KF) : KL := fun ds S => K (.ro ds) S
theorem x_sRetL : Tx (sRetL fs env S) KF' E = Tx (fs env S) (kRetL KF') (kX env KF') := by
  unfold sRetL; rw [x_bs]; with_unfolding_all rfl
theorem k_retL : kRetL KF' ds S = KF' (.ro ds) S := rfl
theorem x_sRetN : Tx (sRetN env S) KF' E = KF' (.rt .non) S := by with_unfolding_all rfl
theorem x_sBrk : Tx (sBrk env S) KF' E = KF' (.bk env) S := by with_unfolding_all rfl
theorem x_sCnt : Tx (sCnt env S) KF' E = KF' (.ct env) S := by with_unfolding_all rfl
def kSet (i : Nat) (env : Env) (K : KF) : KD := fun d S => i < env.length ∧ K (.nx (env.set i (.val d))) S
theorem x_sSet : Tx (sSet i fa env S) KF' E = Tx (fa env S) (kSet i env KF') (kX env KF') := by
  unfold sSet; rw [x_bs]; congr 1; funext x S; unfold kSet setE; rw [x_ite, x_ok]
theorem k_set (h : i < env.length) : kSet i env KF' d S = KF' (.nx (env.set i (.val d))) S := by
  unfold kSet; simp [h]
def kOwn (i : Nat) (env : Env) (K : KF) : KL := fun d S => i < env.length ∧ K (.nx (env.set i (.own d))) S
theorem x_sOwn : Tx (sOwn i fs env S) KF' E = Tx (fs env S) (kOwn i env KF') (kX env KF') := by
  unfold sOwn; rw [x_bs]; congr 1; funext x S; unfold kOwn setE; rw [x_ite, x_ok]
theorem k_own (h : i < env.length) : kOwn i env KF' ds S = KF' (.nx (env.set i (.own ds))) S := by
  unfold kOwn; simp [h]
def tgV : Option Env → (Env → Sto → Prop) → Sto → Prop
  | some e, K, S => K e S
  | none, _, _ => False
theorem tg_some {K : Env → Sto → Prop} : tgV (some env) K S = K env S := rfl
def kTg (g : Tg) (env : Env) (K : KF) : KD := fun d S => tgV (g d env) (fun e S => K (.nx e) S) S
theorem x_sTg : Tx (sTg fa tg env S) KF' E = Tx (fa env S) (kTg tg env KF') (kX env KF') := by
  unfold sTg; rw [x_bs]; congr 1; funext x S; unfold kTg; cases tg x env <;> with_unfolding_all rfl
theorem k_tg : kTg tg env KF' d S = tgV (tg d env) (fun e S => KF' (.nx e) S) S := rfl
theorem gN_ok (h : i < env.length) : gN i d env = some (env.set i (.val d)) := if_pos h
theorem gT_t {gs : List Tg} : gT gs (.tup ds) env = gTs gs ds env := rfl
theorem gTs_n : gTs [] [] env = some env := rfl
theorem gTs_c {g : Tg} {gs : List Tg} : gTs (g :: gs) (d :: ds) env = (g d env).bind (gTs gs ds) := rfl
def kIf (f g : Sm) (env : Env) (K : KF) (E : EX) : KB := fun b S => if b = true then Tx (f env S) K E else Tx (g env S) K E
theorem x_sIf : Tx (sIf ft sf sg env S) KF' E = Tx (ft env S) (kIf sf sg env KF' E) (kX env KF') := by
  unfold sIf; rw [x_bs]; congr 1; funext b S; cases b <;> with_unfolding_all rfl
theorem k_if : kIf sf sg env KF' E b S = if b = true then Tx (sf env S) KF' E else Tx (sg env S) KF' E := by with_unfolding_all rfl
def kFor (tg : Tg) (body : Sm) (env : Env) (K : KF) (E : EX) : KL := fun ds S => Tx (forL tg body ds env S) K E
theorem x_sFor : Tx (sFor fs tg sf env S) KF' E = Tx (fs env S) (kFor tg sf env KF' E) (kX env KF') := by
  unfold sFor; rw [x_bs]; with_unfolding_all rfl
theorem k_for : kFor tg sf env KF' E ds S = Tx (forL tg sf ds env S) KF' E := by with_unfolding_all rfl
theorem x_sWhile : Tx (sWhile n ft sf env S) KF' E = Tx (whileL ft sf n env S) KF' E := by with_unfolding_all rfl
theorem x_sFrz : Tx (sFrz i sf env S) KF' E = Tx (sf (frzE i env) S) KF' E := by with_unfolding_all rfl
def frzS : Option Slot → Nat → Env → Env
  | some (.own ds), i, env => env.set i (.val (.lst ds))
  | _, _, env => env
theorem frzE_eq : frzE i env = frzS env[i]? i env := by unfold frzE frzS; split <;> simp_all
theorem frz_o : frzS (some (.own ds)) i env = env.set i (.val (.lst ds)) := rfl
theorem frz_v : frzS (some (.val d)) i env = env := rfl
theorem frz_u : frzS (some .un) i env = env := rfl
def slotL : Option Slot → KL → Sto → Prop
  | some (.own ds), K, S => K ds S
  | _, _, _ => False
theorem slotL_o : slotL (some (.own ds)) KL' S = KL' ds S := rfl
def kModE (i : Nat) (env : Env) (K : KF) (S : Sto) : Option (List D) → Prop
  | some es => K (.nx (env.set i (.own es))) S
  | none => False
theorem k_mod {es : List D} : kModE i env KF' S (some es) = KF' (.nx (env.set i (.own es))) S := rfl
theorem x_modE {o : Option (List D)} : Tx (modE i o env S) KF' E = kModE i env KF' S o := by cases o <;> with_unfolding_all rfl
theorem x_withO {f : List D → Env → Sto → R Fl} : Tx (withO i f env S) KF' E = slotL env[i]? (fun ds S => Tx (f ds env S) KF' E) S := by
  unfold withO slotL; split <;> simp_all [Tx]
def kAppL (i : Nat) (fa : Ex) (env : Env) (K : KF) (E : EX) : KL := fun ds S => Tx (fa env S) (fun d S1 => kModE i env K S1 (hApp d ds)) (kX env K)
def kApp (i : Nat) (ds : List D) (env : Env) (K : KF) : KD := fun d S1 => kModE i env K S1 (hApp d ds)
theorem x_sApp : Tx (sApp i fa env S) KF' E = slotL env[i]? (kAppL i fa env KF' E) S := by
  unfold sApp; rw [x_withO]; congr 1; funext ds S; rw [x_bs]; unfold kAppL; congr 1; funext d S1; exact x_modE
theorem k_appL : kAppL i fa env KF' E ds S = Tx (fa env S) (kApp i ds env KF') (kX env KF') := by with_unfolding_all rfl
theorem k_app : kApp i ds env KF' d S = kModE i env KF' S (hApp d ds) := rfl
theorem hApp_ok (h : ds.length < 16777216) : hApp d ds = some (ds ++ [d]) := if_pos (by show _ < sizeLine; rw [PySem.sizeLine_eq]; exact h)
def kInsL (i : Nat) (fa fb : Ex) (env : Env) (K : KF) (E : EX) : KL := fun ds S => Tx (fa env S) (fun d S1 => Tx (fb env S1) (fun y S2 => kModE i env K S2 (hIns d y ds)) (kX env K)) (kX env K)
def kIns1 (i : Nat) (ds : List D) (fb : Ex) (env : Env) (K : KF) (E : EX) : KD := fun d S1 => Tx (fb env S1) (fun y S2 => kModE i env K S2 (hIns d y ds)) (kX env K)
def kIns2 (i : Nat) (ds : List D) (d : D) (env : Env) (K : KF) : KD := fun y S2 => kModE i env K S2 (hIns d y ds)
theorem x_sIns : Tx (sIns i fa fb env S) KF' E = slotL env[i]? (kInsL i fa fb env KF' E) S := by
  unfold sIns; rw [x_withO]; congr 1; funext ds S; simp only [x_bs, x_modE]; rfl
theorem k_insL : kInsL i fa fb env KF' E ds S = Tx (fa env S) (kIns1 i ds fb env KF' E) (kX env KF') := by with_unfolding_all rfl
theorem k_ins1 : kIns1 i ds fb env KF' E d S = Tx (fb env S) (kIns2 i ds d env KF') (kX env KF') := by with_unfolding_all rfl
theorem k_ins2 : kIns2 i ds d env KF' y S = kModE i env KF' S (hIns d y ds) := rfl
theorem hIns_ok {k : Int} {y : D} (h : ds.length < 16777216) (h0 : 0 ≤ k) (h1 : k < 9223372036854775808) : hIns (.int k) y ds = some (ds.take k.toNat ++ [y] ++ ds.drop k.toNat) := if_pos ⟨by show _ < sizeLine; rw [PySem.sizeLine_eq]; exact h, h0, by omega⟩
def kExtL (i : Nat) (fa : Ex) (env : Env) (K : KF) (E : EX) : KL := fun ds S => Tx (fa env S) (fun d S1 => kModE i env K S1 (hExt d ds)) (kX env K)
def kExt (i : Nat) (ds : List D) (env : Env) (K : KF) : KD := fun d S1 => kModE i env K S1 (hExt d ds)
theorem x_sExt : Tx (sExt i fa env S) KF' E = slotL env[i]? (kExtL i fa env KF' E) S := by
  unfold sExt; rw [x_withO]; congr 1; funext ds S; rw [x_bs]; unfold kExtL; congr 1; funext d S1; exact x_modE
theorem k_extL : kExtL i fa env KF' E ds S = Tx (fa env S) (kExt i ds env KF') (kX env KF') := by with_unfolding_all rfl
theorem k_ext : kExt i ds env KF' d S = kModE i env KF' S (hExt d ds) := rfl
theorem hExt_ok {es : List D} (h : ds.length + es.length ≤ 16777216) : hExt (.lst es) ds = some (ds ++ es) := if_pos (by show _ ≤ sizeLine; rw [PySem.sizeLine_eq]; exact h)
def kRevO (i : Nat) (env : Env) (K : KF) : KL := fun ds S => K (.nx (env.set i (.own ds.reverse))) S
theorem x_sRevO : Tx (sRevO i env S) KF' E = slotL env[i]? (kRevO i env KF') S := by
  unfold sRevO; rw [x_withO]; congr 1; funext ds S; exact x_modE
theorem k_revO : kRevO i env KF' ds S = KF' (.nx (env.set i (.own ds.reverse))) S := rfl
def kClrO (i : Nat) (env : Env) (K : KF) : KL := fun ds S => K (.nx (env.set i (.own []))) S
theorem x_sClrO : Tx (sClrO i env S) KF' E = slotL env[i]? (kClrO i env KF') S := by
  unfold sClrO; rw [x_withO]; congr 1; funext ds S; exact x_modE
theorem k_clrO : kClrO i env KF' ds S = KF' (.nx (env.set i (.own []))) S := rfl
def kSetIxL (i : Nat) (fi fv : Ex) (env : Env) (K : KF) (E : EX) : KL := fun ds S => Tx (fv env S) (fun v S1 => Tx (fi env S1) (fun k S2 => kModE i env K S2 (hSet k v ds)) (kX env K)) (kX env K)
def kSetIx1 (i : Nat) (ds : List D) (fi : Ex) (env : Env) (K : KF) (E : EX) : KD := fun v S1 => Tx (fi env S1) (fun k S2 => kModE i env K S2 (hSet k v ds)) (kX env K)
def kSetIx2 (i : Nat) (ds : List D) (v : D) (env : Env) (K : KF) : KD := fun k S2 => kModE i env K S2 (hSet k v ds)
theorem x_sSetIx : Tx (sSetIx i fa fb env S) KF' E = slotL env[i]? (kSetIxL i fa fb env KF' E) S := by
  unfold sSetIx; rw [x_withO]; congr 1; funext ds S; simp only [x_bs, x_modE]; rfl
theorem k_setIxL : kSetIxL i fa fb env KF' E ds S = Tx (fb env S) (kSetIx1 i ds fa env KF' E) (kX env KF') := by with_unfolding_all rfl
theorem k_setIx1 : kSetIx1 i ds fa env KF' E d S = Tx (fa env S) (kSetIx2 i ds d env KF') (kX env KF') := by with_unfolding_all rfl
theorem k_setIx2 : kSetIx2 i ds x env KF' y S = kModE i env KF' S (hSet y x ds) := rfl
def putK (env : Env) (K : KF) : Option Sto → Prop
  | some S4 => K (.nx env) S4
  | none => False
theorem k_putK {S4 : Sto} : putK env KF' (some S4) = KF' (.nx env) S4 := rfl
def kPut1 (fo fk : Ex) (env : Env) (K : KF) (E : EX) : KD := fun v S1 => Tx (fo env S1) (fun o S2 => Tx (fk env S2) (fun k S3 => putK env K (putO o k v S3)) (kX env K)) (kX env K)
def kPut2 (v : D) (fk : Ex) (env : Env) (K : KF) (E : EX) : KD := fun o S2 => Tx (fk env S2) (fun k S3 => putK env K (putO o k v S3)) (kX env K)
def kPut3 (o v : D) (env : Env) (K : KF) : KD := fun k S3 => putK env K (putO o k v S3)
theorem x_sPut : Tx (sPut fa fb fc env S) KF' E = Tx (fc env S) (kPut1 fa fb env KF' E) (kX env KF') := by
  unfold sPut; simp only [x_bs]; unfold kPut1 kX; congr 1; funext v S; congr 1; funext o S; congr 1; funext k S
  cases putO o k v S <;> with_unfolding_all rfl
theorem k_put1 : kPut1 fa fb env KF' E d S = Tx (fa env S) (kPut2 d fb env KF' E) (kX env KF') := by with_unfolding_all rfl
theorem k_put2 : kPut2 d fb env KF' E x S = Tx (fb env S) (kPut3 x d env KF') (kX env KF') := by with_unfolding_all rfl
theorem k_put3 : kPut3 x d env KF' y S = putK env KF' (putO x y d S) := rfl
def kPar (i j : Nat) (env : Env) (K : KF) : KL := fun ds S => match ds with
  | [d, e] => (i < env.length ∧ j < env.length) ∧ K (.nx ((env.set i (.val d)).set j (.val e))) S
  | _ => False
theorem x_sPar : Tx (sPar i j fs env S) KF' E = Tx (fs env S) (kPar i j env KF') (kX env KF') := by
  unfold sPar; rw [x_bs]; congr 1; funext ds S; unfold kPar; split
  · rw [x_ite, x_ok]
  · simp_all [Tx]
theorem k_par {d e : D} (h1 : i < env.length) (h2 : j < env.length) : kPar i j env KF' [d, e] S = KF' (.nx ((env.set i (.val d)).set j (.val e))) S := by
  simp [kPar, h1, h2]
def kPar3 (i j l : Nat) (env : Env) (K : KF) : KL := fun ds S => match ds with
  | [d, e, c] => (i < env.length ∧ j < env.length ∧ l < env.length) ∧ K (.nx (((env.set i (.val d)).set j (.val e)).set l (.val c))) S
  | _ => False
theorem x_sPar3 {l : Nat} : Tx (sPar3 i j l fs env S) KF' E = Tx (fs env S) (kPar3 i j l env KF') (kX env KF') := by
  unfold sPar3; rw [x_bs]; congr 1; funext ds S; unfold kPar3; split
  · rw [x_ite, x_ok]
  · simp_all [Tx]
theorem k_par3 {l : Nat} {d e c : D} (h1 : i < env.length) (h2 : j < env.length) (h3 : l < env.length) : kPar3 i j l env KF' [d, e, c] S = KF' (.nx (((env.set i (.val d)).set j (.val e)).set l (.val c))) S := by
  simp [kPar3, h1, h2, h3]
def kRun (K : KD) (E : EX) : KF := fun fl S => match fl with
  | .nx _ => K .non S
  | .rt d => K d S
  | .xc e _ => E e S
  | _ => False
theorem x_run : Tx (runF n sf ds S) K E = Tx (sf (startE n ds) S) (kRun K E) noE := by
  unfold runF; cases sf (startE n ds) S with
  | ok fl S1 => cases fl <;> with_unfolding_all rfl
  | exc e S1 => with_unfolding_all rfl
  | bad => with_unfolding_all rfl
def kRunL (K : KL) (E : EX) : KF := fun fl S => match fl with
  | .ro ds => K ds S
  | .xc e _ => E e S
  | _ => False
theorem x_runN : Tx (runN n sf ds S) KL' E = Tx (sf (startE n ds) S) (kRunL KL' E) noE := by
  unfold runN; cases sf (startE n ds) S with
  | ok fl S1 => cases fl <;> with_unfolding_all rfl
  | exc e S1 => with_unfolding_all rfl
  | bad => with_unfolding_all rfl
theorem k_runO : kRunL KL' E (.ro ds) S = KL' ds S := rfl
theorem k_runOX {e : XV} : kRunL KL' E (.xc e env) S = E e S := rfl
theorem k_runN : kRun K E (.nx env) S = K .non S := rfl
theorem k_runR : kRun K E (.rt d) S = K d S := rfl
theorem k_runX {e : XV} : kRun K E (.xc e env) S = E e S := rfl
abbrev KP := List (Key × D) → Sto → Prop
variable {KP' : KP} {ps : PairD}
def kP1 (fb : Ex) (ps : PairD) (env : Env) (K : KP) (E : EX) : KD := fun k S => Tx (fb env S) (fun v S => Tx (pairsF ps env S) (fun kvs S => match keyD k with
  | some key => K ((key, v) :: kvs) S
  | none => False) E) E
def kP2 (k : D) (ps : PairD) (env : Env) (K : KP) (E : EX) : KD := fun v S => Tx (pairsF ps env S) (fun kvs S => match keyD k with
  | some key => K ((key, v) :: kvs) S
  | none => False) E
def kP3 (k v : D) (K : KP) : KP := fun kvs S => match keyD k with
  | some key => K ((key, v) :: kvs) S
  | none => False
theorem x_pairsN : Tx (pairsF [] env S) KP' E = KP' [] S := by with_unfolding_all rfl
theorem x_pairsC : Tx (pairsF ((fa, fb) :: ps) env S) KP' E = Tx (fa env S) (kP1 fb ps env KP' E) E := by
  rw [pairsF]; simp only [x_bind]; congr 1; funext k S; unfold kP1; congr 1; funext v S; congr 1; funext kvs S
  cases keyD k <;> with_unfolding_all rfl
theorem k_p1 {k : D} : kP1 fb ps env KP' E k S = Tx (fb env S) (kP2 k ps env KP' E) E := by with_unfolding_all rfl
theorem k_p2 {k v : D} : kP2 k ps env KP' E v S = Tx (pairsF ps env S) (kP3 k v KP') E := by with_unfolding_all rfl
theorem k_p3i {k : Int} {v : D} {kvs : List (Key × D)} : kP3 (.int k) v KP' kvs S = KP' ((.inl k, v) :: kvs) S := rfl
theorem k_p3s {k : Str} {v : D} {kvs : List (Key × D)} : kP3 (.str k) v KP' kvs S = KP' ((.inr k, v) :: kvs) S := rfl
def mkDict (kvs : List (Key × D)) : List (Key × D) := kvs.foldl (fun acc kv => putD acc kv.1 kv.2) []
def kDict (K : KD) : KP := fun kvs S => kvs.length ≤ 15 ∧ K (.obj S.length) (S ++ [.dict (mkDict kvs)])
theorem x_dict : Tx (eDict ps env S) K E = Tx (pairsF ps env S) (kDict K) E := by
  unfold eDict; rw [x_bind]; congr 1; funext kvs S; unfold kDict; rw [x_ite, x_ok]; rfl
theorem k_dict {kvs : List (Key × D)} (h : kvs.length ≤ 15) : kDict K kvs S = K (.obj S.length) (S ++ [.dict (mkDict kvs)]) := by simp [kDict, h]
end
section
variable {S : Sto} {i j : Int}
theorem okMul_64 (h1 : -18446744073709551616 ≤ i) (h2 : i ≤ 18446744073709551616) (h3 : -18446744073709551616 ≤ j) (h4 : j ≤ 18446744073709551616) : okMul i j = true := by
  unfold okMul
  have b : ∀ x : Int, -18446744073709551616 ≤ x → x ≤ 18446744073709551616 → x.natAbs.log2 ≤ 65 := fun x a b => by
    by_cases hx : x.natAbs = 0
    · rw [hx]; decide
    · have : x.natAbs < 2 ^ 66 := by
        have : (2:Nat)^66 = 73786976294838206464 := by decide
        omega
      have := (Nat.log2_lt hx).mpr this
      omega
  have := b i h1 h2
  have := b j h3 h4
  simp; omega
theorem okDiv_64 (h1 : 0 < j) (h2 : j ≤ 18446744073709551616) : okDiv j = true := by
  unfold okDiv
  have : j.natAbs.log2 ≤ 65 := by
    by_cases hx : j.natAbs = 0
    · rw [hx]; decide
    · have : j.natAbs < 2 ^ 66 := by
        have : (2:Nat)^66 = 73786976294838206464 := by decide
        omega
      have := (Nat.log2_lt hx).mpr this
      omega
  simp [h1]; omega
theorem q_add : opAdd (.int i) (.int j) S = .ok (.int (i + j)) S := rfl
theorem q_sub : opSub (.int i) (.int j) S = .ok (.int (i - j)) S := rfl
theorem q_mul (h1 : -18446744073709551616 ≤ i) (h2 : i ≤ 18446744073709551616) (h3 : -18446744073709551616 ≤ j) (h4 : j ≤ 18446744073709551616) : opMul (.int i) (.int j) S = .ok (.int (i * j)) S := by
  show mk _ _ _ = _
  rw [okMul_64 h1 h2 h3 h4]; rfl
theorem q_rep {a : List D} {k : Int} (h1 : 0 ≤ k) (h2 : k ≤ 16777216) (h3 : a.length * k.toNat ≤ 16777216) : opMul (.lst a) (.int k) S = .ok (.lst (List.replicate k.toNat a).flatten) S := by
  show mk _ _ _ = _
  rw [decide_eq_true ⟨by omega, by omega, by rw [PySem.sizeLine_eq]; exact h3⟩]; rfl
theorem q_div (h1 : 0 < j) (h2 : j ≤ 18446744073709551616) : opFdiv (.int i) (.int j) S = .ok (.int (i / j)) S := by
  show mk _ _ _ = _
  rw [okDiv_64 h1 h2]; rfl
theorem q_mod (h1 : 0 < j) : opMod (.int i) (.int j) S = .ok (.int (i % j)) S := by
  show mk _ _ _ = _
  rw [decide_eq_true h1]; rfl
theorem q_lt : cLt (.int i) (.int j) S = .ok (.bl (decide (i < j))) S := rfl
theorem q_le : cLe (.int i) (.int j) S = .ok (.bl (decide (i ≤ j))) S := rfl
theorem q_gt : cGt (.int i) (.int j) S = .ok (.bl (decide (j < i))) S := rfl
theorem q_ge : cGe (.int i) (.int j) S = .ok (.bl (decide (j ≤ i))) S := rfl
theorem q_eq : cEq (.int i) (.int j) S = .ok (.bl (decide (i = j))) S := rfl
theorem q_ne : cNe (.int i) (.int j) S = .ok (.bl (!decide (i = j))) S := rfl
theorem q_is {x : D} : cIs x .non S = .ok (.bl (isNon x)) S := rfl
theorem q_isn {x : D} : cIsNot x .non S = .ok (.bl (!isNon x)) S := rfl
theorem q_isB {a b : Bool} : cIs (.bl a) (.bl b) S = .ok (.bl (decide (a = b))) S := rfl
theorem q_isnB {a b : Bool} : cIsNot (.bl a) (.bl b) S = .ok (.bl (!decide (a = b))) S := rfl
theorem q_mulT {a : List D} {k : Int} (h0 : 0 < a.length) (h1 : 0 ≤ k) (h2 : k ≤ 1000) (h3 : a.length ≤ 1000) : opMul (.tup a) (.int k) S = .ok (.tup (List.replicate k.toNat a).flatten) S := by
  show mk (decide _) _ S = _
  rw [decide_eq_true ⟨h0, h1, h2, h3⟩]; rfl
theorem p_sortP {ps : List (Int × Int)} : pSorted [.lst (ps.map prD)] S = .ok ((sortP ps).map prD) S := by
  have h : prsD (ps.map prD) = some ps := by
    induction ps with
    | nil => rfl
    | cons p r ih => show ((prsD (r.map prD)).map _) = _; rw [ih]; rfl
  cases ps with
  | nil =>
    have e1 : sortI [] = [] := by unfold sortI; exact List.mergeSort_nil
    have e2 : sortP [] = [] := by unfold sortP; exact List.mergeSort_nil
    show R.ok ((sortI []).map D.int) S = _
    rw [e1, e2]; rfl
  | cons p r =>
    have e1 : intsD ((p :: r).map prD) = none := rfl
    unfold pSorted
    simp only [e1, h]
def kIdx1 (fs : Sem1 (List D)) (env : Env) (K : KD) (E : EX) : KD := fun x S1 => match x with
  | .lst ds => Tx (fs env S1) (fun ys S2 => Tx (pIdx ds ys S2) K E) E
  | _ => False
def kIdx2 (ds : List D) (K : KD) (E : EX) : KL := fun ys S2 => Tx (pIdx ds ys S2) K E
theorem x_idx : Tx (eIdx fa fs env S) K E = Tx (fa env S) (kIdx1 fs env K E) E := by
  unfold eIdx; rw [x_bind]; congr 1; funext x S; unfold kIdx1
  cases x <;> simp only [x_bind, x_bad]
theorem k_idx1 : kIdx1 fs env K E (.lst ds) S = Tx (fs env S) (kIdx2 ds K E) E := rfl
theorem k_idx2 {ys : List D} : kIdx2 ds K E ys S = Tx (pIdx ds ys S) K E := rfl
theorem q_catL {a b : List D} (h : a.length + b.length ≤ 16777216) : opAdd (.lst a) (.lst b) S = .ok (.lst (a ++ b)) S := by
  show mk _ _ _ = _
  rw [okL_of h]; rfl
theorem q_catT {a b : List D} (h : a.length + b.length ≤ 16777216) : opAdd (.tup a) (.tup b) S = .ok (.tup (a ++ b)) S := by
  show mk _ _ _ = _
  rw [okL_of h]; rfl
theorem q_catS {a b : Str} (h : a.length + b.length ≤ 16777216) : opAdd (.str a) (.str b) S = .ok (.str (a ++ b)) S := by
  show mk _ _ _ = _
  rw [okL_of h]; rfl
theorem isNon_non : isNon .non = true := rfl
theorem isNon_int : isNon (.int i) = false := rfl
theorem isNon_bl {b : Bool} : isNon (.bl b) = false := rfl
theorem isNon_str {z : Str} : isNon (.str z) = false := rfl
theorem isNon_tup {ds : List D} : isNon (.tup ds) = false := rfl
theorem isNon_lst {ds : List D} : isNon (.lst ds) = false := rfl
theorem p_divmod (h1 : 0 < j) (h2 : j < 1073741824) : pDivmod [.int i, .int j] S = .ok (.tup [.int (i / j), .int (i % j)]) S := by
  show mk _ _ _ = _
  rw [decide_eq_true ⟨h1, h2⟩]; rfl
theorem p_lenL {ds : List D} : pLen [.lst ds] S = .ok (.int (ds.length : Nat)) S := rfl
theorem p_lenT {ds : List D} : pLen [.tup ds] S = .ok (.int (ds.length : Nat)) S := rfl
theorem p_lenF {ds : List D} : pLen [.frl ds] S = .ok (.int (ds.length : Nat)) S := rfl
theorem p_lenS {z : Str} (h : z.length ≤ 16777216) : pLen [.str z] S = .ok (.int (z.length : Nat)) S := if_pos (by rw [PySem.sizeLine_eq]; exact h)
theorem p_intB {k : Bool} : pInt [.bl k] S = .ok (.int (if k = true then 1 else 0)) S := by cases k <;> with_unfolding_all rfl
theorem p_intI : pInt [.int i] S = .ok (.int i) S := rfl
theorem p_max2 : pMax [.int i, .int j] S = .ok (.int (if i < j then j else i)) S := rfl
theorem p_min2 : pMin [.int i, .int j] S = .ok (.int (if j < i then j else i)) S := rfl
theorem p_tupL {ds : List D} : pTuple [.lst ds] S = .ok (.tup ds) S := rfl
theorem p_tupT {ds : List D} : pTuple [.tup ds] S = .ok (.tup ds) S := rfl
theorem p_lstL {ds : List D} : pList [.lst ds] S = .ok ds S := rfl
theorem p_lstT {ds : List D} : pList [.tup ds] S = .ok ds S := rfl
theorem p_lstF {ds : List D} : pList [.frl ds] S = .ok ds S := rfl
theorem is_intI : isT .int (.int i) = some true := rfl
theorem is_intB {b : Bool} : isT .int (.bl b) = some true := rfl
theorem is_intS {z : Str} : isT .int (.str z) = some false := rfl
theorem is_intN : isT .int .non = some false := rfl
theorem is_intT {ds : List D} : isT .int (.tup ds) = some false := rfl
theorem is_intL {ds : List D} : isT .int (.lst ds) = some false := rfl
theorem is_blI : isT .bool (.int i) = some false := rfl
theorem is_blB {b : Bool} : isT .bool (.bl b) = some true := rfl
theorem is_blS {z : Str} : isT .bool (.str z) = some false := rfl
theorem is_blN : isT .bool .non = some false := rfl
theorem is_blT {ds : List D} : isT .bool (.tup ds) = some false := rfl
theorem is_blL {ds : List D} : isT .bool (.lst ds) = some false := rfl
theorem is_strI : isT .str (.int i) = some false := rfl
theorem is_strB {b : Bool} : isT .str (.bl b) = some false := rfl
theorem is_strS {z : Str} : isT .str (.str z) = some true := rfl
theorem is_strN : isT .str .non = some false := rfl
theorem is_strT {ds : List D} : isT .str (.tup ds) = some false := rfl
theorem is_strL {ds : List D} : isT .str (.lst ds) = some false := rfl
theorem is_tupI : isT .tuple (.int i) = some false := rfl
theorem is_tupB {b : Bool} : isT .tuple (.bl b) = some false := rfl
theorem is_tupS {z : Str} : isT .tuple (.str z) = some false := rfl
theorem is_tupN : isT .tuple .non = some false := rfl
theorem is_tupT {ds : List D} : isT .tuple (.tup ds) = some true := rfl
theorem is_tupL {ds : List D} : isT .tuple (.lst ds) = some false := rfl
theorem is_lstI : isT .list (.int i) = some false := rfl
theorem is_lstB {b : Bool} : isT .list (.bl b) = some false := rfl
theorem is_lstS {z : Str} : isT .list (.str z) = some false := rfl
theorem is_lstN : isT .list .non = some false := rfl
theorem is_lstT {ds : List D} : isT .list (.tup ds) = some false := rfl
theorem is_lstL {ds : List D} : isT .list (.lst ds) = some true := rfl
theorem opIx_lst {ds : List D} : opIx (.lst ds) (.int i) S = opt (atI ds i) id S := rfl
theorem opIx_tup {ds : List D} : opIx (.tup ds) (.int i) S = opt (atI ds i) id S := rfl
theorem opIx_frl {ds : List D} : opIx (.frl ds) (.int i) S = opt (atI ds i) id S := rfl
end

theorem atI_pos {α : Type} {xs : List α} {i : Int} (h0 : 0 ≤ i) (h1 : i < (xs.length : Int)) : atI xs i = xs[i.toNat]? := by
  unfold atI ixN
  rw [if_pos h0, if_pos h1]; rfl
section
variable {α : Type} {a b c d e f : α} {l : List α}
theorem at0 : atI (a :: l) 0 = some a := by rw [atI_pos (by decide) (by simp only [List.length_cons]; omega)]; rfl
theorem at1 : atI (a :: b :: l) 1 = some b := by rw [atI_pos (by decide) (by simp only [List.length_cons]; omega)]; rfl
theorem at2 : atI (a :: b :: c :: l) 2 = some c := by rw [atI_pos (by decide) (by simp only [List.length_cons]; omega)]; rfl
theorem at3 : atI (a :: b :: c :: d :: l) 3 = some d := by rw [atI_pos (by decide) (by simp only [List.length_cons]; omega)]; rfl
theorem at4 : atI (a :: b :: c :: d :: e :: l) 4 = some e := by rw [atI_pos (by decide) (by simp only [List.length_cons]; omega)]; rfl
theorem at5 : atI (a :: b :: c :: d :: e :: f :: l) 5 = some f := by rw [atI_pos (by decide) (by simp only [List.length_cons]; omega)]; rfl
end
theorem cut_ns {α : Type} {xs : List α} {n : Int} (h : 0 ≤ n) : cutA xs none (some n) = xs.take n.toNat := by
  obtain ⟨k, rfl⟩ := Int.eq_ofNat_of_zero_le h
  unfold cutA
  rw [HT.sIx_none, HT.sIx_nat, List.drop_zero, Nat.sub_zero, Int.toNat_natCast]
  by_cases hk : k ≤ xs.length
  · rw [Nat.min_eq_left hk]
  · rw [Nat.min_eq_right (by omega), List.take_of_length_le (Nat.le_refl _), List.take_of_length_le (by omega)]
theorem cut_sn {α : Type} {xs : List α} {n : Int} (h : 0 ≤ n) : cutA xs (some n) none = xs.drop n.toNat := by
  obtain ⟨k, rfl⟩ := Int.eq_ofNat_of_zero_le h
  unfold cutA
  rw [HT.sIx_none, HT.sIx_nat, Int.toNat_natCast]
  by_cases hk : k ≤ xs.length
  · rw [Nat.min_eq_left hk, List.take_of_length_le (by simp)]
  · rw [Nat.min_eq_right (by omega), List.drop_eq_nil_of_le (by omega), List.drop_eq_nil_of_le (by omega)]; simp
theorem cut_ss {α : Type} {xs : List α} {n m : Int} (h : 0 ≤ n) (h2 : 0 ≤ m) : cutA xs (some n) (some m) = (xs.drop n.toNat).take (m.toNat - n.toNat) := by
  obtain ⟨k, rfl⟩ := Int.eq_ofNat_of_zero_le h
  obtain ⟨l, rfl⟩ := Int.eq_ofNat_of_zero_le h2
  unfold cutA
  rw [HT.sIx_nat, HT.sIx_nat, Int.toNat_natCast, Int.toNat_natCast]
  by_cases hk : k ≤ xs.length
  · rw [Nat.min_eq_left hk]
    by_cases hl : l ≤ xs.length
    · rw [Nat.min_eq_left hl]
    · rw [Nat.min_eq_right (by omega), List.take_of_length_le (by simp), List.take_of_length_le (by simp; omega)]
  · rw [Nat.min_eq_right (a := k) (by omega), List.drop_eq_nil_of_le (by omega), List.drop_eq_nil_of_le (by omega)]; simp
theorem sl_L {ds : List D} {lo hi : Option Int} {S : Sto} : opSl (.lst ds) lo hi S = .ok (.lst (cutA ds lo hi)) S := rfl
theorem sl_F {ds : List D} {lo hi : Option Int} {S : Sto} : opSl (.frl ds) lo hi S = .ok (.lst (cutA ds lo hi)) S := rfl
theorem sl_T {ds : List D} {lo hi : Option Int} {S : Sto} : opSl (.tup ds) lo hi S = .ok (.tup (cutA ds lo hi)) S := rfl
theorem sl_S {z : Str} {lo hi : Option Int} {S : Sto} (h : z.length ≤ 16777216) : opSl (.str z) lo hi S = .ok (.str (cutS z lo hi)) S := if_pos (by rw [PySem.sizeLine_eq]; exact h)
/-- behind a turn -/
def kTurn (I : Env → Sto → Prop) (K : KF) : KF := fun fl S => match fl with
  | .nx e => I e S
  | .ct e => I e S
  | .bk e => K (.nx e) S
  | .rt d => K (.rt d) S
  | .xc e env => K (.xc e env) S
  | .ro ds => K (.ro ds) S
section
variable {I : Env → Sto → Prop} {K : KF} {env : Env} {S : Sto} {d : D}
theorem k_turnN : kTurn I K (.nx env) S = I env S := rfl
theorem k_turnC : kTurn I K (.ct env) S = I env S := rfl
theorem k_turnB : kTurn I K (.bk env) S = K (.nx env) S := rfl
theorem k_turnR : kTurn I K (.rt d) S = K (.rt d) S := rfl
theorem k_turnO {ds : List D} : kTurn I K (.ro ds) S = K (.ro ds) S := rfl
theorem k_turnX {e : XV} : kTurn I K (.xc e env) S = K (.xc e env) S := rfl
end
/-- a turn: the target, then the body -/
def turn (tg : Tg) (body : Sm) (d : D) (env : Env) (S : Sto) (K : KF) (E : EX) : Prop := tgV (tg d env) (fun e S => Tx (body e S) K E) S
theorem turn_eq {tg : Tg} {body : Sm} {d : D} {env : Env} {S : Sto} {K : KF} {E : EX} : turn tg body d env S K E = tgV (tg d env) (fun e S => Tx (body e S) K E) S := by with_unfolding_all rfl
theorem forL_nil {tg : Tg} {body : Sm} {env : Env} {S : Sto} {K : KF} {E : EX} : Tx (forL tg body [] env S) K E = K (.nx env) S := by with_unfolding_all rfl
theorem forL_cons {tg : Tg} {body : Sm} {d : D} {ds : List D} {env : Env} {S : Sto} {K : KF} {E : EX} : Tx (forL tg body (d :: ds) env S) K E = turn tg body d env S (kTurn (fun e S => Tx (forL tg body ds e S) K E) K) E := by
  unfold turn
  rw [forL]
  cases h : tg d env with
  | none => with_unfolding_all rfl
  | some e =>
    show Tx (R.bind _ _) _ _ = _
    rw [x_bind]
    show _ = Tx (body e S) _ E
    congr 1; funext fl S; cases fl <;> with_unfolding_all rfl
/-- a for by what holds between its turns -/
theorem for_inv {tg : Tg} {body : Sm} (I : Nat → Env → Sto → Prop) {K : KF} {E : EX} {ds : List D} {env : Env} {S : Sto} (h0 : I 0 env S)
    (step : ∀ i d env S, ds[i]? = some d → I i env S → turn tg body d env S (kTurn (I (i + 1)) K) E)
    (done : ∀ env S, I ds.length env S → K (.nx env) S) : Tx (forL tg body ds env S) K E := by
  have key : ∀ (es : List D) (i : Nat) env S, ds.drop i = es → i ≤ ds.length → I i env S → Tx (forL tg body es env S) K E := by
    intro es
    induction es with
    | nil =>
      intro i env S e hi h
      have : i = ds.length := by
        have := congrArg List.length e
        simp at this; omega
      subst this
      rw [forL_nil]
      exact done env S h
    | cons d es ih =>
      intro i env S e hi h
      have hlt : i < ds.length := by
        have := congrArg List.length e
        simp at this; omega
      have hd : ds[i]? = some d := by
        have h1 : (ds.drop i)[0]? = some d := by rw [e]; rfl
        simpa using h1
      have he : ds.drop (i + 1) = es := by
        have h1 : (ds.drop i).drop 1 = es := by rw [e]; rfl
        rw [List.drop_drop] at h1; exact h1
      have st := step i d env S hd h
      rw [forL_cons]
      unfold turn at st ⊢
      cases ht : tg d env with
      | none => rw [ht] at st; exact st
      | some e2 =>
        rw [ht] at st
        refine Tx.use (show Tx (body e2 S) _ E from st) fun fl S1 q => ?_
        cases fl with
        | nx e1 => exact ih (i + 1) e1 S1 he hlt q
        | ct e1 => exact ih (i + 1) e1 S1 he hlt q
        | bk e1 => exact q
        | rt d => exact q
        | xc e e1 => exact q
        | ro d => exact q
  exact key ds 0 env S rfl (Nat.zero_le _) h0
theorem zipD_len {a b : List D} : (zipD a b).length = min a.length b.length := by simp [zipD]
theorem enumD_get {ds : List D} {i : Nat} {d : D} (h : (enumD ds)[i]? = some d) : ∃ x, ds[i]? = some x ∧ d = .tup [.int (i : Nat), x] := by
  unfold enumD at h
  rw [List.getElem?_map, List.getElem?_zipIdx] at h
  cases q : ds[i]? with
  | none => rw [q] at h; cases h
  | some x =>
    rw [q] at h
    cases h
    exact ⟨x, rfl, by rw [Nat.zero_add]⟩
theorem enumD_len {a : List D} : (enumD a).length = a.length := by simp [enumD]
theorem rangeD_len {lo hi : Int} : (rangeD lo hi).length = (hi - lo).toNat := by simp [rangeD]
theorem rangeD_get {lo hi : Int} {i : Nat} {d : D} (h : (rangeD lo hi)[i]? = some d) : d = .int (lo + (i : Nat)) ∧ lo + (i : Nat) < hi := by
  unfold rangeD at h
  rw [List.getElem?_map] at h
  obtain ⟨j, h1, rfl⟩ := Option.map_eq_some_iff.mp h
  have h2 := List.getElem?_eq_some_iff.mp h1
  obtain ⟨h3, h4⟩ := h2
  simp at h3 h4
  subst h4
  exact ⟨rfl, by omega⟩
/-- a for over a range -/
theorem rng_inv {tg : Tg} {body : Sm} (I : Int → Env → Sto → Prop) {K : KF} {E : EX} {lo hi : Int} {env : Env} {S : Sto} (h0 : I lo env S)
    (step : ∀ i env S, lo ≤ i → i < hi → I i env S → turn tg body (.int i) env S (kTurn (I (i + 1)) K) E)
    (hl : lo ≤ hi) (done : ∀ env S, I hi env S → K (.nx env) S) : Tx (forL tg body (rangeD lo hi) env S) K E := by
  refine for_inv (fun i env S => I (lo + (i : Nat)) env S) (by simpa using h0) (fun i d env S e h => ?_) (fun env S h => ?_)
  · obtain ⟨rfl, h2⟩ := rangeD_get e
    have := step _ env S (by omega) h2 h
    have e : (fun env S => I (lo + ((i + 1 : Nat) : Int)) env S) = I (lo + (i : Nat) + 1) := by
      have e : lo + ((i + 1 : Nat) : Int) = lo + (i : Nat) + 1 := by omega
      rw [e]
    rw [e]
    exact this
  · rw [rangeD_len, Int.toNat_of_nonneg (by omega)] at h
    have e : lo + (hi - lo) = hi := by omega
    rw [e] at h
    exact done env S h
/-- behind a while's turn -/
def kWt (I : Env → Sto → Prop) (μ : Env → Sto → Nat) (m : Nat) (K : KF) : KF := fun fl S => match fl with
  | .nx e => I e S ∧ μ e S < m
  | .ct e => I e S ∧ μ e S < m
  | .bk e => K (.nx e) S
  | .rt d => K (.rt d) S
  | .xc e env => K (.xc e env) S
  | .ro ds => K (.ro ds) S
section
variable {I : Env → Sto → Prop} {μ : Env → Sto → Nat} {m : Nat} {K : KF} {env : Env} {S : Sto} {d : D}
theorem k_wtN : kWt I μ m K (.nx env) S = (I env S ∧ μ env S < m) := rfl
theorem k_wtC : kWt I μ m K (.ct env) S = (I env S ∧ μ env S < m) := rfl
theorem k_wtB : kWt I μ m K (.bk env) S = K (.nx env) S := rfl
theorem k_wtR : kWt I μ m K (.rt d) S = K (.rt d) S := rfl
theorem k_wtO {ds : List D} : kWt I μ m K (.ro ds) S = K (.ro ds) S := rfl
theorem k_wtX {e : XV} : kWt I μ m K (.xc e env) S = K (.xc e env) S := rfl
end
def kWc (body : Sm) (I : Env → Sto → Prop) (μ : Env → Sto → Nat) (m : Nat) (env : Env) (K : KF) (E : EX) : KB := fun b S => if b = true then Tx (body env S) (kWt I μ m K) E else K (.nx env) S
theorem k_wc {body : Sm} {I : Env → Sto → Prop} {μ : Env → Sto → Nat} {m : Nat} {env : Env} {K : KF} {E : EX} {b : Bool} {S : Sto} : kWc body I μ m env K E b S = if b = true then Tx (body env S) (kWt I μ m K) E else K (.nx env) S := by with_unfolding_all rfl
/-- a while by what holds between its turns and a number that falls -/
theorem while_inv {c : Sem1 Bool} {body : Sm} (I : Env → Sto → Prop) (μ : Env → Sto → Nat) {K : KF} {E : EX}
    {n : Nat} {env : Env} {S : Sto} (h : I env S) (hm : μ env S < n)
    (step : ∀ env S, I env S → Tx (c env S) (kWc body I μ (μ env S) env K E) (kX env K)) : Tx (whileL c body n env S) K E := by
  induction n generalizing env S with
  | zero => omega
  | succ n ih =>
    rw [whileL, x_bs]
    refine Tx.mono (step env S h) (fun b S1 q => ?_) (fun _ _ z => z)
    unfold kWc at q
    cases b with
    | false => exact (x_ok (Q := K)).symm ▸ q
    | true =>
      show Tx (R.bind _ _) _ _
      rw [x_bind]
      refine Tx.use (show Tx (body env S1) _ E from q) fun fl S2 q2 => ?_
      cases fl with
      | nx e => exact ih q2.1 (by have := q2.2; omega)
      | ct e => exact ih q2.1 (by have := q2.2; omega)
      | bk e => exact (x_ok (Q := K)).symm ▸ q2
      | rt d => exact (x_ok (Q := K)).symm ▸ q2
      | xc e e1 => exact (x_ok (Q := K)).symm ▸ q2
      | ro d => exact (x_ok (Q := K)).symm ▸ q2
/-- one turn of a while -/
theorem whileL_succ {c : Sem1 Bool} {body : Sm} {n : Nat} {env : Env} {S : Sto} {K : KF} {E : EX} : Tx (whileL c body (n + 1) env S) K E = Tx (c env S) (fun b S => if b = true then Tx (body env S) (kTurn (fun e S => Tx (whileL c body n e S) K E) K) E else K (.nx env) S) (kX env K) := by
  rw [whileL, x_bs]
  congr 1; funext b S
  cases b with
  | false => with_unfolding_all rfl
  | true =>
    show Tx (R.bind _ _) _ _ = _
    rw [x_bind]
    show _ = Tx (body env S) _ E
    congr 1; funext fl S; cases fl <;> with_unfolding_all rfl
/-- the element's part of a turn -/
def kLe (elt : Ex) (env : Env) (Q1 : KD) (Q0 : Sto → Prop) : KB := fun b S => if b = true then Tx (elt env S) Q1 noE else Q0 S
theorem k_le {elt : Ex} {env : Env} {Q1 : KD} {Q0 : Sto → Prop} {b : Bool} {S : Sto} : kLe elt env Q1 Q0 b S = if b = true then Tx (elt env S) Q1 noE else Q0 S := by with_unfolding_all rfl
def turnC (tg : Tg) (c : Sem1 Bool) (elt : Ex) (d : D) (env : Env) (S : Sto) (Q1 : KD) (Q0 : Sto → Prop) : Prop := tgV (tg d env) (fun e S => Tx (c e S) (kLe elt e Q1 Q0) noE) S
theorem turnC_eq {tg : Tg} {c : Sem1 Bool} {elt : Ex} {d : D} {env : Env} {S : Sto} {Q1 : KD} {Q0 : Sto → Prop} : turnC tg c elt d env S Q1 Q0 = tgV (tg d env) (fun e S => Tx (c e S) (kLe elt e Q1 Q0) noE) S := by with_unfolding_all rfl
theorem noX_tx {α : Type} {r : R α} {Q : α → Sto → Prop} {E : EX} (h : Tx r Q noE) : Tx (noX r) Q E := by
  cases r with
  | ok a S => rw [x_ok] at h; show Tx (.ok a S) Q E; rw [x_ok]; exact h
  | exc e S => rw [x_exc] at h; exact h.elim
  | bad => rw [x_bad] at h; exact h.elim
theorem lcL_nil {tg : Tg} {c : Sem1 Bool} {elt : Ex} {env : Env} {S : Sto} {K : KL} {E : EX} : Tx (lcL tg c elt env [] S) K E = K [] S := by with_unfolding_all rfl
/-- a comprehension by its turns, one by one -/
theorem lcL_cons {tg : Tg} {c : Sem1 Bool} {elt : Ex} {d : D} {ds : List D} {env : Env} {S : Sto} {K : KL} {E : EX}
    (h : turnC tg c elt d env S (fun y S2 => Tx (lcL tg c elt env ds S2) (fun ys S3 => K (y :: ys) S3) E) (fun S1 => Tx (lcL tg c elt env ds S1) K E)) : Tx (lcL tg c elt env (d :: ds) S) K E := by
  rw [lcL]
  unfold turnC at h
  cases ht : tg d env with
  | none => rw [ht] at h; exact h.elim
  | some e2 =>
    rw [ht] at h
    show Tx (R.bind _ _) _ _
    rw [x_bind]
    refine noX_tx ((show Tx (c e2 S) _ noE from h).use fun b S1 q => ?_)
    unfold kLe at q
    cases b with
    | false => exact q
    | true =>
      show Tx (R.bind _ _) _ _
      rw [x_bind]
      refine noX_tx (Tx.use (show Tx (elt e2 S1) _ noE from q) fun y S2 q2 => ?_)
      rw [x_bind]
      refine q2.mono (fun ys S3 z => ?_) (fun _ _ z => z)
      rw [x_ok]; exact z
/-- a comprehension whose parts change nothing -/
theorem lc_pure {tg : Tg} {c : Sem1 Bool} {elt : Ex} {env : Env} {S : Sto} {K : KL} {E : EX} (p : D → Bool) (f : D → D) {ds : List D}
    (h : ∀ d ∈ ds, turnC tg c elt d env S (fun y S2 => p d = true ∧ y = f d ∧ S2 = S) (fun S2 => p d = false ∧ S2 = S))
    (k : K ((ds.filter p).map f) S) : Tx (lcL tg c elt env ds S) K E := by
  induction ds generalizing K with
  | nil => rw [lcL_nil]; exact k
  | cons d ds ih =>
    refine lcL_cons ?_
    have hd := h d List.mem_cons_self
    have ht := fun e he => h e (List.mem_cons_of_mem _ he)
    unfold turnC at hd ⊢
    cases hg : tg d env with
    | none => rw [hg] at hd; exact hd
    | some e2 =>
      rw [hg] at hd
      refine Tx.use (show Tx (c e2 S) _ noE from hd) fun b S1 q => ?_
      unfold kLe at q ⊢
      cases b with
      | false =>
        obtain ⟨hp, rfl⟩ := q
        exact ih ht (by simpa [hp] using k)
      | true =>
        refine Tx.use (show Tx (elt e2 S1) _ noE from q) fun y S2 ⟨hp, hy, hS⟩ => ?_
        subst hy hS
        exact ih ht (by simpa [hp] using k)
/-- .. without an if -/
theorem lc_map {tg : Tg} {elt : Ex} {env : Env} {S : Sto} {K : KL} {E : EX} (f : D → D) {ds : List D}
    (h : ∀ d ∈ ds, turnC tg tT elt d env S (fun y S2 => y = f d ∧ S2 = S) (fun _ => False))
    (k : K (ds.map f) S) : Tx (lcL tg tT elt env ds S) K E := by
  refine lc_pure (fun _ => true) f (fun d hd => ?_) (by rw [List.filter_eq_self.mpr (fun _ _ => rfl)]; exact k)
  have := h d hd
  unfold turnC at this ⊢
  cases hg : tg d env with
  | none => rw [hg] at this; exact this
  | some e2 =>
    rw [hg] at this
    rw [tg_some, x_tT] at this ⊢
    unfold kLe at this ⊢
    rw [if_pos rfl] at this ⊢
    exact this.use fun y S2 ⟨h1, h2⟩ => ⟨rfl, h1, h2⟩
/-- .. whose parts may change the store: what holds between turns -/
theorem lc_inv {tg : Tg} {c : Sem1 Bool} {elt : Ex} {env : Env} (I : Nat → List D → Sto → Prop) {K : KL} {E : EX} {ds : List D} {S : Sto} (h0 : I 0 [] S)
    (step : ∀ i d acc S, ds[i]? = some d → I i acc S → turnC tg c elt d env S (fun y S2 => I (i + 1) (acc ++ [y]) S2) (I (i + 1) acc))
    (done : ∀ acc S, I ds.length acc S → K acc S) : Tx (lcL tg c elt env ds S) K E := by
  have key : ∀ (es : List D) (i : Nat) acc S, ds.drop i = es → i ≤ ds.length → I i acc S → Tx (lcL tg c elt env es S) (fun ys S1 => K (acc ++ ys) S1) E := by
    intro es
    induction es with
    | nil =>
      intro i acc S e hi h
      have : i = ds.length := by
        have := congrArg List.length e
        simp at this; omega
      subst this
      rw [lcL_nil, List.append_nil]
      exact done acc S h
    | cons d es ih =>
      intro i acc S e hi h
      have hlt : i < ds.length := by
        have := congrArg List.length e
        simp at this; omega
      have hd : ds[i]? = some d := by
        have h1 : (ds.drop i)[0]? = some d := by rw [e]; rfl
        simpa using h1
      have he : ds.drop (i + 1) = es := by
        have h1 : (ds.drop i).drop 1 = es := by rw [e]; rfl
        rw [List.drop_drop] at h1; exact h1
      have st := step i d acc S hd h
      refine lcL_cons ?_
      unfold turnC at st ⊢
      cases hg : tg d env with
      | none => rw [hg] at st; exact st
      | some e2 =>
        rw [hg] at st
        refine Tx.use (show Tx (c e2 S) _ noE from st) fun b S1 q => ?_
        unfold kLe at q ⊢
        cases b with
        | false => exact ih (i + 1) acc S1 he hlt q
        | true =>
          refine Tx.use (show Tx (elt e2 S1) _ noE from q) fun y S2 q2 => ?_
          refine (ih (i + 1) (acc ++ [y]) S2 he hlt q2).use fun ys S3 q3 => ?_
          rw [List.append_assoc] at q3
          exact q3
  exact (key ds 0 [] S rfl (Nat.zero_le _) h0).use fun ys S1 q => by simpa using q
section
variable {a b : Int}
theorem olt_t (h : a < b) : (a < b) = True := eq_true h
theorem olt_f (h : b ≤ a) : (a < b) = False := eq_false (by omega)
theorem ole_t (h : a ≤ b) : (a ≤ b) = True := eq_true h
theorem ole_f (h : b < a) : (a ≤ b) = False := eq_false (by omega)
theorem oeq_t (h : a = b) : (a = b) = True := eq_true h
theorem oeq_lt (h : a < b) : (a = b) = False := eq_false (by omega)
theorem oeq_gt (h : b < a) : (a = b) = False := eq_false (by omega)
end
theorem ofS_eq (a b : String) : (Str.ofString a = Str.ofString b) = (a = b) := by
  refine propext ⟨fun h => ?_, fun h => by rw [h]⟩
  have h1 : (Str.ofString a).cps = (Str.ofString b).cps := by rw [h]
  unfold Str.ofString at h1
  rw [cpsOfBytes_string, cpsOfBytes_string] at h1
  have h2 : a.toList.map Char.toNat = b.toList.map Char.toNat := by simpa using h1
  have h3 : a.toList = b.toList := by
    refine List.map_inj_right (f := Char.toNat) (fun x y e => ?_) |>.mp h2
    exact Char.ext (UInt32.toNat_inj.mp e)
  exact String.toList_inj.mp h3
def kMid (I : Env → Sto → Prop) (K : KF) : KF := fun fl S => match fl with
  | .nx e => I e S
  | .ct e => K (.ct e) S
  | .bk e => K (.bk e) S
  | .rt d => K (.rt d) S
  | .xc e env => K (.xc e env) S
  | .ro ds => K (.ro ds) S
section
variable {I : Env → Sto → Prop} {K : KF} {env : Env} {S : Sto} {d : D} {E : EX} {sf sg sh : Sm}
theorem k_midN : kMid I K (.nx env) S = I env S := rfl
theorem k_midC : kMid I K (.ct env) S = K (.ct env) S := rfl
theorem k_midB : kMid I K (.bk env) S = K (.bk env) S := rfl
theorem k_midR : kMid I K (.rt d) S = K (.rt d) S := rfl
theorem k_midO {ds : List D} : kMid I K (.ro ds) S = K (.ro ds) S := rfl
theorem k_midX {e : XV} : kMid I K (.xc e env) S = K (.xc e env) S := rfl
theorem seq_cut (I : Env → Sto → Prop) (h : Tx (sf env S) (kMid I K) E) (k : ∀ e S, I e S → Tx (sg e S) K E) : Tx (sSeq sf sg env S) K E := by
  rw [x_sSeq]
  refine h.use fun fl S1 q => ?_
  cases fl with
  | nx e => exact k e S1 q
  | ct e => exact q
  | bk e => exact q
  | rt d => exact q
  | xc e e1 => exact q
  | ro d => exact q
theorem seq_assoc : Tx (sSeq sf (sSeq sg sh) env S) K E = Tx (sSeq (sSeq sf sg) sh env S) K E := by
  rw [x_sSeq, x_sSeq, x_sSeq]
  congr 1; funext fl S1
  cases fl with
  | nx e => rw [k_sqn, k_sqn, x_sSeq]
  | _ => rfl
/-- a value's cut: what holds of it -/
theorem Tx.cut {α : Type} {r : R α} {Q : α → Sto → Prop} (P : α → Sto → Prop) (h : Tx r P E) (k : ∀ a S, P a S → Q a S) : Tx r Q E := h.use k
end
def kFnB (n : Nat) (sem : FnSem) (K : KD) : KL := fun ds S => (ds.length = n ∧ scpL 0 ds = true) ∧ Tx (sem ds []) (fun d _ => nol d = true ∧ K d S) noE
def kNol (K : KD) (S : Sto) : KD := fun d _ => nol d = true ∧ K d S
theorem x_fnB {n : Nat} {sem : FnSem} {fs : Sem1 (List D)} {env : Env} {S : Sto} {K : KD} {E : EX} : Tx (eFnB n sem fs env S) K E = Tx (fs env S) (kFnB n sem K) E := by
  unfold eFnB; rw [x_bind]; congr 1; funext ds S1; unfold kFnB
  split
  · rename_i h
    simp only [h, and_self, true_and]
    cases sem ds [] with
    | ok d S2 =>
      simp only [x_ok]
      split
      · rename_i g; simp [x_ok, g]
      · rename_i g; simp [x_bad, g]
    | exc e S2 => simp [x_exc, x_bad, noE]
    | bad => simp [x_bad]
  · rename_i h
    simp [x_bad, h]
theorem k_fnB {n : Nat} {sem : FnSem} {ds : List D} {S : Sto} {K : KD} (h : ds.length = n) (hs : scpL 0 ds = true) : kFnB n sem K ds S = Tx (sem ds []) (kNol K S) noE := by
  unfold kFnB kNol; simp [h, hs]
section
variable {K : KD} {S S' : Sto}
theorem k_nolB {b : Bool} : kNol K S (.bl b) S' = K (.bl b) S := by simp [kNol, nol]
theorem k_nolI {i : Int} : kNol K S (.int i) S' = K (.int i) S := by simp [kNol, nol]
theorem k_nolS {x : Str} : kNol K S (.str x) S' = K (.str x) S := by simp [kNol, nol]
theorem k_nolN : kNol K S .non S' = K .non S := by simp [kNol, nol]
end
def kStB (K : KB) (S : Sto) : KB := fun b _ => K b S
section
variable {bs : List Bool} {env : Env} {S S' : Sto} {K : KD} {KB' : KB} {E : EX} {t : Sem1 Bool} {f : Ex} {b : Bool} {i : Int} {x : Str} {d : D} {ds : List D} {s : Slot}
theorem x_tStill : Tx (tStill bs t env S) KB' E = Tx (t (envB bs env) []) (kStB KB' S) noE := by
  unfold tStill kStB
  cases t (envB bs env) [] with
  | ok d S2 => simp only [x_ok]
  | exc e S2 => simp [x_exc, x_bad, noE]
  | bad => simp [x_bad]
theorem k_stB : kStB KB' S b S' = KB' b S := rfl
theorem x_eStill : Tx (eStill bs f env S) K E = Tx (f (envB bs env) []) (kNol K S) noE := by
  unfold eStill kNol
  cases f (envB bs env) [] with
  | ok d S2 =>
    simp only [x_ok]
    split
    · rename_i g; simp [x_ok, g]
    · rename_i g; simp [x_bad, g]
  | exc e S2 => simp [x_exc, x_bad, noE]
  | bad => simp [x_bad]
theorem envB_t : envB (true :: bs) (s :: env) = frzB s :: envB bs env := rfl
theorem envB_f : envB (false :: bs) (s :: env) = .un :: envB bs env := rfl
theorem envB_n : envB [] (s :: env) = .un :: envB [] env := rfl
theorem envB_e : envB bs [] = [] := by cases bs with
  | nil => rfl
  | cons b bs => cases b <;> rfl
theorem frzB_u : frzB .un = .un := rfl
theorem frzB_o (h : scpL 0 ds = true) : frzB (.own ds) = .val (.lst ds) := if_pos h
theorem frzB_v (h : scp 0 d = true) : frzB (.val d) = .val d := if_pos h
theorem frzB_i : frzB (.val (.int i)) = .val (.int i) := frzB_v (d := (.int i)) rfl
theorem frzB_b : frzB (.val (.bl b)) = .val (.bl b) := frzB_v (d := (.bl b)) rfl
theorem frzB_s : frzB (.val (.str x)) = .val (.str x) := frzB_v (d := (.str x)) rfl
theorem frzB_non : frzB (.val .non) = .val .non := frzB_v (d := .non) rfl
theorem frzB_t (h : scpL 0 ds = true) : frzB (.val (.tup ds)) = .val (.tup ds) := if_pos (by simpa [scp] using h)
theorem frzB_l (h : scpL 0 ds = true) : frzB (.val (.lst ds)) = .val (.lst ds) := if_pos (by simpa [scp] using h)
end
section
variable {S : Sto} {k : Bool} {i : Int} {z : Str}
theorem q_addBI : opAdd (.bl k) (.int i) S = .ok (.int (tI k + i)) S := rfl
theorem q_addIB : opAdd (.int i) (.bl k) S = .ok (.int (i + tI k)) S := rfl
theorem q_subBI : opSub (.bl k) (.int i) S = .ok (.int (tI k - i)) S := rfl
theorem q_subIB : opSub (.int i) (.bl k) S = .ok (.int (i - tI k)) S := rfl
theorem p_strB : pStr [.bl k] S = .ok (.str (if k then "True" else "False")) S := rfl
theorem p_strS : pStr [.str z] S = .ok (.str z) S := rfl
theorem tI_t : tI true = 1 := rfl
theorem tI_f : tI false = 0 := rfl
end
end G

namespace G
open PySem L2
local macro_rules
  | `(tactic| simp_arith only [$xs,*]) => `(tactic| simp -implicitDefEqProofs (disch := first | assumption | omega | (simp only [List.length_cons, List.length_nil, List.length_append, List.length_map, List.length_set, List.length_take, List.length_drop, List.length_reverse, rangeD_len, zipD_len, enumD_len] <;> omega)) only [x_ok, at0, at1, at2, at3, at4, at5, x_dict, k_dict, x_pairsN, x_pairsC, k_p1, k_p2, k_p3i, k_p3s, cut_ns, cut_sn, cut_ss, sl_L, sl_F, sl_T, sl_S, x_exc, slotV_v, slotO_v, slotO_o, x_var, x_own, x_c, x_bin, k_bin1, k_bin2, x_neg, k_neg, x_tup, k_tup, x_lst, k_lst, x_nCat, k_cat1, k_cat2, x_nRep, k_rep1, k_rep2, x_frz, k_frz, x_nil, x_cons, k_cons1, k_cons2, x_val, k_val, tr_bl, tr_non, tr_int, tr_lst, tr_tup, tr_frl, tr_str, x_and, x_or, x_not, k_and, k_or, k_not, x_tT, x_ifE, k_ifE, x_andV, x_orV, x_notV, k_andV, k_orV, k_notV, x_chain, k_ch1, k_ch2, k_ch3, x_call, x_callN, k_call, x_opt, k_some, x_isi, k_isi, x_oNone, x_oSome, k_oSome, x_nSl, k_nsl1, k_nsl2, k_nsl3L, k_nsl3F, x_sl, k_sl1, k_sl2, k_sl3, x_rev, k_rev, k_revT, x_fn, k_fn, x_fnB, k_fnB, x_tStill, k_stB, x_eStill, envB_t, envB_f, envB_n, envB_e, frzB_u, frzB_o, frzB_v, frzB_i, frzB_b, frzB_s, frzB_non, frzB_t, frzB_l, k_nolB, k_nolI, k_nolS, k_nolN, x_seq, k_seqL, k_seqT, k_seqF, k_seqS, x_rng1, k_rng1, x_rng2, k_rng2a, k_rng2b, x_enum, k_enum, k_enumT, x_zip, k_zipL, k_zipT, k_zipM, k_zipN, x_lc, k_lc, x_sNil, x_sSeq, k_sqn, k_sqr, k_sqb, k_sqc, k_sqx, x_sExpr, k_expr, x_sRet, k_ret, x_sRetN, x_sRetO, k_retO, x_sRetL, k_retL, x_nFn, k_fnN, k_sqo, k_turnO, k_wtO, x_runN, k_runO, k_runOX, x_sBrk, x_sCnt, x_sSet, k_set, x_sOwn, k_own, tg_some, x_sTg, k_tg, gN_ok, gT_t, gTs_n, gTs_c, x_sIf, k_if, x_sFor, k_for, x_sWhile, x_sFrz, frzE_eq, frz_o, frz_v, frz_u, slotL_o, k_mod, x_modE, x_withO, x_sApp, k_appL, k_app, hApp_ok, x_sIns, k_insL, k_ins1, k_ins2, hIns_ok, x_sRevO, k_revO, x_sClrO, k_clrO, x_sExt, k_extL, k_ext, hExt_ok, x_sSetIx, k_setIxL, k_setIx1, k_setIx2, k_putK, x_sPut, k_put1, k_put2, k_put3, x_sPar, k_par, x_sPar3, k_par3, x_run, k_runN, k_runR, k_runX, k_x, q_add, q_sub, q_addBI, q_addIB, q_subBI, q_subIB, p_strB, p_strS, tI_t, tI_f, q_mul, q_rep, q_div, q_mod, q_lt, q_le, q_gt, q_ge, q_eq, q_ne, q_is, q_isn, q_isB, q_isnB, x_idx, k_idx1, k_idx2, q_catL, q_catT, q_catS, isNon_non, isNon_int, isNon_bl, isNon_str, isNon_tup, isNon_lst, p_divmod, p_lenL, p_lenT, p_lenF, p_lenS, p_intB, p_intI, p_max2, p_min2, p_tupL, p_tupT, p_lstL, p_lstT, p_lstF, is_intI, is_intB, is_intS, is_intN, is_intT, is_intL, is_blI, is_blB, is_blS, is_blN, is_blT, is_blL, is_strI, is_strB, is_strS, is_strN, is_strT, is_strL, is_tupI, is_tupB, is_tupS, is_tupN, is_tupT, is_tupL, is_lstI, is_lstB, is_lstS, is_lstN, is_lstT, is_lstL, opIx_lst, opIx_tup, opIx_frl, k_midN, k_midC, k_midB, k_midR, k_midO, k_midX, k_turnN, k_turnC, k_turnB, k_turnR, k_turnX, k_wtN, k_wtC, k_wtB, k_wtR, k_wtX, k_wc, k_le, frzE_eq, turn_eq, turnC_eq, k_le, forL_nil, lcL_nil, startE, decide_eq_true_eq, decide_eq_false_iff_not, decide_true, decide_false, Bool.not_eq_true', Bool.not_eq_eq_eq_not, Bool.not_true, Bool.not_false, Bool.true_eq_false, Bool.false_eq_true, Bool.not_not, Option.bind_some, Option.map_some, List.map_cons, List.map_nil, List.length_cons, List.length_nil, List.cons_append, List.nil_append, List.set_cons_zero, List.set_cons_succ, List.getElem?_cons_zero, List.getElem?_cons_succ, List.length_set, ↓reduceIte, if_true, if_false, ite_self, List.replicate, List.take_succ_cons, List.take_zero, List.drop_succ_cons, List.drop_zero, List.flatten_cons, List.flatten_nil, Int.reduceToNat, List.isEmpty_cons, List.isEmpty_nil, Nat.reduceAdd, Nat.reduceSub, Nat.reduceLT, Nat.reduceLeDiff, Nat.reduceEqDiff, Int.cast_ofNat_Int, not_true_eq_false, not_false_eq_true, Int.reduceAdd, Int.reduceSub, Int.reduceMul, Int.reduceLT, Int.reduceLE, Int.reduceEq, Int.reduceNe, Int.reduceNeg, Int.zero_add, ne_eq, id, wipeE, lcL_nil, eq_self, and_true, true_and, D.int.injEq, D.bl.injEq, ofS_eq, String.reduceEq, $xs,*])

/-- the tape as it lies -/
def tp (ns : List Int) (sp l : Int) : MO := .dict [(.inr "cells", .lst (ns.map D.int)), (.inr "spot", .int sp), (.inr "left", .int l)]
/-- a tape ahead of R, of which at most n cells were asked -/
def Tp (n : Nat) (R S : Sto) : Prop := ∃ ns sp l, S = tp ns sp l :: R ∧ ns.length ≤ 63 ∧ 0 ≤ sp ∧ sp ≤ n ∧ 0 ≤ l
theorem Tp.mono {n m : Nat} {R S : Sto} (h : Tp n R S) (l : n ≤ m) : Tp m R S := by
  obtain ⟨ns, sp, le, a, b, c, d, e⟩ := h
  exact ⟨ns, sp, le, a, b, c, by omega, e⟩
section
variable {ns : List Int} {sp l i : Int} {R : Sto}
theorem g_cells {L : List D} (h : ns.map D.int = L) : opGet (.obj 0) (.str "cells") (tp ns sp l :: R) = .ok (.lst L) (tp ns sp l :: R) := by subst h; rfl
theorem g_spot : opGet (.obj 0) (.str "spot") (tp ns sp l :: R) = .ok (.int sp) (tp ns sp l :: R) := rfl
theorem g_left : opGet (.obj 0) (.str "left") (tp ns sp l :: R) = .ok (.int l) (tp ns sp l :: R) := rfl
theorem size3 : 3 < sizeLine := by rw [PySem.sizeLine_eq]; decide
theorem p_spot : putO (.obj 0) (.str "spot") (.int i) (tp ns sp l :: R) = some (tp ns i l :: R) := if_pos (e := none) size3
theorem p_left : putO (.obj 0) (.str "left") (.int i) (tp ns sp l :: R) = some (tp ns sp i :: R) := if_pos (e := none) size3
end
theorem atI_ok {α : Type} {xs : List α} {i : Int} (h0 : 0 ≤ i) (h1 : i < (xs.length : Int)) : ∃ x, atI xs i = some x ∧ x ∈ xs := by
  rw [atI_pos h0 h1]
  have hl : i.toNat < xs.length := by omega
  exact ⟨xs[i.toNat], List.getElem?_eq_getElem hl, List.getElem_mem hl⟩



theorem pow6 {S : Sto} : opPow (.int 10) (.int 6) S = .ok (.int 1000000) S := rfl
theorem pow18 {S : Sto} : opPow (.int 10) (.int 18) S = .ok (.int 1000000000000000000) S := rfl
theorem pow60 {S : Sto} : opPow (.int 10) (.int 60) S = .ok (.int 1000000000000000000000000000000000000000000000000000000000000) S := rfl
theorem truth_lst {ds : List D} : truth (.lst ds) = some (!ds.isEmpty) := rfl
/-- the cells, or one nought -/
def cellsL (ns : List Int) : List Int := if ns.isEmpty then [0] else ns
theorem primes_ok {i : Int} (h : 0 ≤ i) (h2 : i < 7) : ∃ p, atI [D.int 2147483647, D.int 2147483629, D.int 2147483587, D.int 2147483579, D.int 2147483563, D.int 2147483549, D.int 2147483543] i = some (.int p) ∧ 2147483543 ≤ p ∧ p ≤ 2147483647 := by
  have : i = 0 ∨ i = 1 ∨ i = 2 ∨ i = 3 ∨ i = 4 ∨ i = 5 ∨ i = 6 := by omega
  rcases this with rfl | rfl | rfl | rfl | rfl | rfl | rfl <;> exact ⟨_, rfl, by decide, by decide⟩
def bnd : Nat → Int
  | 0 => 0
  | k + 1 => 524288 * (if k = 0 then 1 else bnd k)
theorem draw_step (k : Nat) (self : FnSem) (B : Int)
    (hs : ∀ n m R S, Tp n R S → n + k ≤ 1000000000000000 → 0 < m → m ≤ B → Tri (self [.obj 0, .int m] S) fun d S' => ∃ i, d = .int i ∧ 0 ≤ i ∧ i < m ∧ Tp (n + k) R S')
    {n : Nat} {m : Int} {R S : Sto} (h : Tp n R S) (hn : n + (k + 1) ≤ 1000000000000000) (m0 : 0 < m) (m1 : m ≤ 1000000 ∨ m / 1000000 + 1 ≤ B) (m2 : okDiv m = true) (m3 : m ≤ 1606938044258990275541962092341162602522202993782792835301376) :
    Tri (runF 9 (M.b_law_draw self) [.obj 0, .int m] S) fun d S' => ∃ i, d = .int i ∧ 0 ≤ i ∧ i < m ∧ Tp (n + (k + 1)) R S' := by
  obtain ⟨ns, sp, l, rfl, hl, s0, s1, l0⟩ := h
  have qd : ∀ (i : Int) (S : Sto), opFdiv (.int i) (.int m) S = .ok (.int (i / m)) S := fun i S => by
    show mk _ _ _ = _
    rw [m2]; rfl
  have em0 : ∀ i : Int, 0 ≤ i % m := fun i => Int.emod_nonneg _ (by omega)
  have em1 : ∀ i : Int, i % m < m := fun i => Int.emod_lt_of_pos _ m0
  have tl : ∀ (sp' : Int) (l' : Int), 0 ≤ sp' → sp' ≤ sp + 1 → 0 ≤ l' → Tp (n + (k + 1)) R (tp ns sp' l' :: R) := fun sp' l' a b c => ⟨ns, sp', l', rfl, hl, a, by push_cast; omega, c⟩
  by_cases hz : 0 < l
  · simp_arith only [M.b_law_draw, g_left, p_left, hz, qd]
    exact ⟨_, rfl, em0 _, em1 _, tl _ _ s0 (by omega) (Int.ediv_nonneg l0 (Int.le_of_lt m0))⟩
  · obtain ⟨p1, e1, p1a, p1b⟩ := primes_ok (i := sp % 7) (Int.emod_nonneg _ (by decide)) (Int.emod_lt_of_pos _ (by decide))
    obtain ⟨p2, e2, p2a, p2b⟩ := primes_ok (i := (sp + 3) % 7) (Int.emod_nonneg _ (by decide)) (Int.emod_lt_of_pos _ (by decide))
    have hm1 : ∀ x : Int, 0 ≤ x % p1 ∧ x % p1 < 2147483647 := fun x => ⟨Int.emod_nonneg _ (by omega), by have := Int.emod_lt_of_pos x (b := p1) (by omega); omega⟩
    have hm2 : ∀ x : Int, 0 ≤ x % p2 ∧ x % p2 < 2147483647 := fun x => ⟨Int.emod_nonneg _ (by omega), by have := Int.emod_lt_of_pos x (b := p2) (by omega); omega⟩
    obtain ⟨L, hLe⟩ : ∃ L, ns.map D.int = L := ⟨_, rfl⟩
    have hLl : L.length ≤ 63 := by rw [← hLe]; simpa using hl
    have hA : ∀ (x : Int) (S : Sto), opMul (.int (x % p1)) (.int (x % p1 + 16807)) S = .ok (.int (x % p1 * (x % p1 + 16807))) S := fun x S => by
      have := hm1 x
      exact q_mul (by omega) (by omega) (by omega) (by omega)
    have hB : ∀ (x : Int) (S : Sto), opMul (.int (x % p1)) (.int 48271) S = .ok (.int (x % p1 * 48271)) S := fun x S => by
      have := hm1 x
      exact q_mul (by omega) (by omega) (by omega) (by omega)
    have hC : ∀ (x : Int) (S : Sto), opMul (.int (x % p2)) (.int (x % p2)) S = .ok (.int (x % p2 * (x % p2))) S := fun x S => by
      have := hm2 x
      exact q_mul (by omega) (by omega) (by omega) (by omega)
    have hc : ∃ c : Int, (L.isEmpty = false ∧ 0 < (L.length : Int) ∧ atI L (sp % (L.length : Nat)) = some (.int c)) ∨ (L = [] ∧ c = 0) := by
      cases hne : L.isEmpty with
      | true => exact ⟨0, .inr ⟨List.isEmpty_iff.mp hne, rfl⟩⟩
      | false =>
        have hL0 : 0 < (L.length : Int) := by
          cases L with
          | nil => cases hne
          | cons a t => simp only [List.length_cons]; omega
        obtain ⟨x, hx, hm⟩ := atI_ok (xs := L) (Int.emod_nonneg sp (by omega)) (Int.emod_lt_of_pos sp hL0)
        rw [← hLe] at hm
        obtain ⟨c, _, rfl⟩ := List.mem_map.mp hm
        exact ⟨c, .inl ⟨rfl, hL0, hx⟩⟩
    have e0 : atI [D.int 0] (sp % 1) = some (.int 0) := by rw [Int.emod_one]; rfl
    have tail : 1000000 < m → Tx (self [.obj 0, .int (m / 1000000 + 1)] (tp ns (sp + 1) l :: R)) (fun d S' => ∃ i, d = .int i ∧ (-1606938044258990275541962092341162602522202993782792835301376 ≤ i ∧ i ≤ 1606938044258990275541962092341162602522202993782792835301376) ∧ Tp (n + (k + 1)) R S') noE := fun h6 => by
      rcases m1 with h | h
      · omega
      · refine (hs (n + 1) (m / 1000000 + 1) R _ ⟨ns, sp + 1, l, rfl, hl, by omega, by push_cast; omega, l0⟩ (by omega) (by omega) h).use fun d S' ⟨i, h1, h2, h3, h4⟩ => ⟨i, h1, ⟨by omega, by omega⟩, h4.mono (by omega)⟩
    have hD : ∀ (i : Int) (S : Sto), (-1606938044258990275541962092341162602522202993782792835301376 ≤ i ∧ i ≤ 1606938044258990275541962092341162602522202993782792835301376) → opMul (.int 1000000) (.int i) S = .ok (.int (1000000 * i)) S := fun i S ⟨a, b⟩ => by
      show mk _ _ _ = _
      have : okMul 1000000 i = true := by
        unfold okMul
        have h1 : (1000000 : Int).natAbs.log2 ≤ 20 := by decide
        have h2 : i.natAbs.log2 ≤ 200 := by
          by_cases hx : i.natAbs = 0
          · rw [hx]; decide
          · have : i.natAbs < 2 ^ 201 := by
              have : (2:Nat)^201 > 1606938044258990275541962092341162602522202993782792835301376 := by decide
              omega
            have := (Nat.log2_lt hx).mpr this
            omega
        exact decide_eq_true (by omega)
      rw [this]; rfl
    obtain ⟨c, ⟨hne, hL0, hx⟩ | ⟨rfl, rfl⟩⟩ := hc
    · by_cases hb1 : 1000000000000000000 ≤ c <;> by_cases hb2 : sp < (L.length : Int)
      · simp_arith only [M.b_law_draw, g_left, g_spot, g_cells hLe, p_left, p_spot, hz, qd, hne, hx, pow6, pow18, hb1, hb2]
        exact ⟨_, rfl, em0 _, em1 _, tl _ _ (by omega) (by omega) (Int.ediv_nonneg (by omega) (Int.le_of_lt m0))⟩
      all_goals
        by_cases h6 : 1000000 < m
        · simp_arith only [M.b_law_draw, g_left, g_spot, g_cells hLe, p_left, p_spot, hz, qd, hne, hx, pow6, pow18, hb1, hb2, hA, hB, hC, e1, e2, h6]
          refine (tail h6).use fun d S' ⟨i, hi, hi2, T⟩ => ?_
          subst hi
          simp_arith only [hD]
          exact ⟨_, rfl, em0 _, em1 _, T⟩
        · simp_arith only [M.b_law_draw, g_left, g_spot, g_cells hLe, p_left, p_spot, hz, qd, hne, hx, pow6, pow18, hb1, hb2, hA, hB, hC, e1, e2, h6]
          exact ⟨_, rfl, em0 _, em1 _, tl _ _ (by omega) (by omega) l0⟩
    · by_cases h6 : 1000000 < m
      · simp_arith only [M.b_law_draw, g_left, g_spot, g_cells hLe, p_left, p_spot, hz, qd, e0, pow6, pow18, hA, hB, hC, e1, e2, h6]
        refine (tail h6).use fun d S' ⟨i, hi, hi2, T⟩ => ?_
        subst hi
        simp_arith only [hD]
        exact ⟨_, rfl, em0 _, em1 _, T⟩
      · simp_arith only [M.b_law_draw, g_left, g_spot, g_cells hLe, p_left, p_spot, hz, qd, e0, pow6, pow18, hA, hB, hC, e1, e2, h6]
        exact ⟨_, rfl, em0 _, em1 _, tl _ _ (by omega) (by omega) l0⟩
theorem okDiv_200 {j : Int} (h1 : 0 < j) (h2 : j ≤ 1606938044258990275541962092341162602522202993782792835301376) : okDiv j = true := by
  unfold okDiv
  have : j.natAbs.log2 ≤ 200 := by
    by_cases hx : j.natAbs = 0
    · rw [hx]; decide
    · have : j.natAbs < 2 ^ 201 := by
        have : (2:Nat)^201 > 1606938044258990275541962092341162602522202993782792835301376 := by decide
        omega
      have := (Nat.log2_lt hx).mpr this
      omega
  simp [h1]; omega
theorem draw_all : ∀ (k : Nat) {n : Nat} {m : Int} {R S : Sto}, Tp n R S → n + (k + 1) ≤ 1000000000000000 → 0 < m → m ≤ 1000000 * 500000 ^ k → m ≤ 1606938044258990275541962092341162602522202993782792835301376 →
    Tri (M.law_draw (k + 1) [.obj 0, .int m] S) fun d S' => ∃ i, d = .int i ∧ 0 ≤ i ∧ i < m ∧ Tp (n + (k + 1)) R S'
  | 0, n, m, R, S, h, hn, m0, m1, m3 => draw_step 0 (M.law_draw 0) 0 (fun n m R S _ _ a b => by omega) h hn m0 (.inl (by simpa using m1)) (okDiv_200 m0 m3) m3
  | k + 1, n, m, R, S, h, hn, m0, m1, m3 => by
    have hp : (500000 : Int) ^ (k + 1) = 500000 ^ k * 500000 := Int.pow_succ _ _
    have hq : ∀ k : Nat, (1 : Int) ≤ 500000 ^ k := fun k => by
      induction k with
      | zero => decide
      | succ k ih => rw [Int.pow_succ]; omega
    have hq := hq k
    rw [hp] at m1
    exact draw_step (k + 1) (M.law_draw (k + 1)) (min (1000000 * 500000 ^ k) 1606938044258990275541962092341162602522202993782792835301376)
      (fun n m R S a b c d => draw_all k a b c (by omega) (by omega)) h hn m0 (by omega) (okDiv_200 m0 m3) m3
/-- a draw -/
theorem dr {n : Nat} {m : Int} {R S : Sto} (h : Tp n R S) (hn : n ≤ 900000000000000) (m0 : 0 < m) (m1 : m ≤ 1606938044258990275541962092341162602522202993782792835301376) :
    Tri (M.law_draw 20 [.obj 0, .int m] S) fun d S' => ∃ i, d = .int i ∧ 0 ≤ i ∧ i < m ∧ Tp (n + 20) R S' :=
  draw_all 19 h (by omega) m0 (by
    have : (500000 : Int) ^ 19 ≥ 1606938044258990275541962092341162602522202993782792835301376 := by decide
    omega) m1
/-- the tape is made -/
theorem s_tape {ns : List Int} (h : ns.length ≤ 63) : Tri (M.law_tape [scr ns] []) fun d S => d = .obj 0 ∧ Tp 0 [] S := by
  simp_arith only [M.law_tape, M.b_law_tape, scr]
  exact ⟨ns.take 63, 0, 0, by rw [tp, List.map_take]; rfl, by simp; omega, by decide, by decide, by decide⟩
/-- one of some is taken -/
theorem pick {ds : List D} {i : Int} {K : KD} {S : Sto} (P : D → Prop) (h0 : 0 ≤ i) (h1 : i < (ds.length : Int)) (h : ∀ d ∈ ds, P d) (k : ∀ d, P d → K d S) : optK (atI ds i) id K S := by
  obtain ⟨x, e, m⟩ := atI_ok h0 h1
  rw [e]
  exact k x (h x m)
theorem pickI {ds : List D} {i : Int} {K : KD} {S : Sto} (lo hi : Int) (h0 : 0 ≤ i) (h1 : i < (ds.length : Int)) (h : ∀ d ∈ ds, ∃ v, d = .int v ∧ lo ≤ v ∧ v ≤ hi) (k : ∀ v, lo ≤ v → v ≤ hi → K (.int v) S) : optK (atI ds i) id K S :=
  pick (fun d => ∃ v, d = .int v ∧ lo ≤ v ∧ v ≤ hi) h0 h1 h fun d ⟨v, e, a, b⟩ => by subst e; exact k v a b
theorem all_nil {α : Type} {P : α → Prop} : ∀ d ∈ ([] : List α), P d := fun _ h => nomatch h
theorem all_cons {α : Type} {P : α → Prop} {a : α} {l : List α} (h : P a) (t : ∀ d ∈ l, P d) : ∀ d ∈ a :: l, P d := fun d m => by
  rcases List.mem_cons.mp m with rfl | m
  · exact h
  · exact t d m
end G

namespace G
open PySem L2

mutual
/-- == -/
def deq : D → D → Bool
  | .non, .non => true
  | .bl a, .bl b => a == b
  | .bl a, .int j => (if a then 1 else 0) == j
  | .int i, .bl b => i == (if b then 1 else 0)
  | .int i, .int j => i == j
  | .str x, .str y => x == y
  | .lst a, .lst b => deqL a b
  | .tup a, .tup b => deqL a b
  | _, _ => false
def deqL : List D → List D → Bool
  | [], [] => true
  | x :: xs, y :: ys => deq x y && deqL xs ys
  | _, _ => false
end
mutual
/-- plain data of that depth at most -/
def okd : Nat → D → Bool
  | _, .non => true
  | _, .bl _ => true
  | _, .int _ => true
  | _, .str x => PyData.strOk x
  | n + 1, .tup ds => okdL n ds
  | n + 1, .lst ds => okdL n ds
  | _, _ => false
def okdL : Nat → List D → Bool
  | _, [] => true
  | n, d :: ds => okd n d && okdL n ds
end
mutual
theorem okd_pure : ∀ {n : Nat} {d : D}, okd n d = true → pure d = true ∧ (toPy d).canLay0 = true ∧ (toPy d).depth ≤ n
  | n, .non, h => by simp [pure, toPy, PyData.canLay0, PyData.depth]
  | n, .bl _, h => by simp [pure, toPy, PyData.canLay0, PyData.depth]
  | n, .int _, h => by simp [pure, toPy, PyData.canLay0, PyData.depth]
  | n, .str x, h => by
    cases n <;> (simp only [okd] at h; simp [pure, toPy, PyData.canLay0, PyData.depth, h])
  | 0, .tup ds, h => by simp [okd] at h
  | n + 1, .tup ds, h => by
    have := okdL_pure (n := n) (ds := ds) (by simpa [okd] using h)
    simp [pure, toPy, PyData.canLay0, PyData.depth, this]
  | 0, .lst ds, h => by simp [okd] at h
  | n + 1, .lst ds, h => by
    have := okdL_pure (n := n) (ds := ds) (by simpa [okd] using h)
    simp [pure, toPy, PyData.canLay0, PyData.depth, this]
  | n, .frl _, h => by cases n <;> simp [okd] at h
  | n, .ins _ _ _, h => by cases n <;> simp [okd] at h
  | n, .obj _, h => by cases n <;> simp [okd] at h
theorem okdL_pure : ∀ {n : Nat} {ds : List D}, okdL n ds = true → pureL ds = true ∧ PyData.canLayAll0 (toPyL ds) = true ∧ PyData.depthAll (toPyL ds) ≤ n
  | n, [], h => by simp [pureL, toPyL, PyData.canLayAll0, PyData.depthAll]
  | n, d :: ds, h => by
    simp only [okdL, Bool.and_eq_true] at h
    have h1 := okd_pure h.1
    have h2 := okdL_pure h.2
    simp [pureL, toPyL, PyData.canLayAll0, PyData.depthAll, h1, h2]
    omega
end
theorem okEq_of {n : Nat} {d : D} (h : okd n d = true) (hn : n ≤ 64) : okEq d = true := by
  have := okd_pure h
  unfold okEq SeqAt.shaped
  simp [this]; omega
mutual
theorem eqv_deq : ∀ (x y : D), pure x = true → pure y = true → PyData.eqv (toPy x) (toPy y) = deq x y
  | .non, y, hx, hy => by cases y <;> simp_all [toPy, PyData.eqv, deq, pure]
  | .bl a, y, hx, hy => by cases y <;> simp_all [toPy, PyData.eqv, deq, pure]
  | .int a, y, hx, hy => by cases y <;> simp_all [toPy, PyData.eqv, deq, pure]
  | .str a, y, hx, hy => by cases y <;> simp_all [toPy, PyData.eqv, deq, pure]
  | .tup a, y, hx, hy => by
    cases y with
    | tup b =>
      simp only [toPy, PyData.eqv, deq]
      exact eqv_deqL a b (by simpa [pure] using hx) (by simpa [pure] using hy)
    | _ => simp_all [toPy, PyData.eqv, deq, pure]
  | .lst a, y, hx, hy => by
    cases y with
    | lst b =>
      simp only [toPy, PyData.eqv, deq]
      exact eqv_deqL a b (by simpa [pure] using hx) (by simpa [pure] using hy)
    | _ => simp_all [toPy, PyData.eqv, deq, pure]
  | .frl _, y, hx, hy => by simp [pure] at hx
  | .ins _ _ _, y, hx, hy => by simp [pure] at hx
  | .obj _, y, hx, hy => by simp [pure] at hx
theorem eqv_deqL : ∀ (x y : List D), pureL x = true → pureL y = true → PyData.eqvAll (toPyL x) (toPyL y) = deqL x y
  | [], y, hx, hy => by cases y <;> simp [toPyL, PyData.eqvAll, deqL]
  | x :: xs, [], hx, hy => by simp [toPyL, PyData.eqvAll, deqL]
  | x :: xs, y :: ys, hx, hy => by
    simp only [pureL, Bool.and_eq_true] at hx hy
    simp only [toPyL, PyData.eqvAll, deqL, eqv_deq x y hx.1 hy.1, eqv_deqL xs ys hx.2 hy.2]
end
theorem eqD_deq {x y : D} (hx : okd 60 x = true) (hy : okd 60 y = true) : eqD x y = some (deq x y) := by
  have h1 := okEq_of hx (by decide)
  have h2 := okEq_of hy (by decide)
  have h3 := eqv_deq x y (okd_pure hx).1 (okd_pure hy).1
  unfold eqD
  split
  · simp only [deq]; congr 1
  · simp only [deq]; congr 1
  · simp [h1, h2, eqv, h3]
theorem q_eqD {x y : D} {S : Sto} (hx : okd 60 x = true) (hy : okd 60 y = true) : cEq x y S = .ok (.bl (deq x y)) S := by
  unfold cEq; rw [eqD_deq hx hy]; rfl
theorem q_neD {x y : D} {S : Sto} (hx : okd 60 x = true) (hy : okd 60 y = true) : cNe x y S = .ok (.bl (!deq x y)) S := by
  unfold cNe; rw [eqD_deq hx hy]; rfl
theorem feq_deq {x y : D} (hx : flat x = true) (hy : flat y = true) : feq x y = deq x y := by
  cases x <;> cases y <;> simp_all [flat, feq, deq]
theorem inGen_deq {x : D} : ∀ {ds : List D}, okd 60 x = true → okdL 59 ds = true → inGen x ds = some (ds.any fun y => deq y x) := by
  intro ds hx hd
  unfold inGen
  split
  · rename_i f
    rw [Bool.and_eq_true] at f
    have : ∀ {es : List D}, es.all flat = true → inL x es = es.any fun y => deq y x := fun {es} h => by
      induction es with
      | nil => rfl
      | cons d r ih =>
        rw [List.all_cons, Bool.and_eq_true] at h
        show (d :: r).any _ = _
        rw [List.any_cons, List.any_cons, feq_deq h.1 f.1]
        congr 1
        exact ih h.2
    rw [this f.2]
  · have h1 := okEq_of hx (by decide)
    have h2 := okEq_of (n := 60) (d := .lst ds) (by simpa [okd] using hd) (by decide)
    rw [h1, h2]
    simp only [Bool.and_self, if_true]
    congr 1
    have h3 := (okd_pure hx).1
    have : ∀ {es : List D}, okdL 59 es = true → ((toPyL es).any fun z => PyData.eqv z (toPy x)) = es.any fun y => deq y x := fun {es} h => by
      induction es with
      | nil => rfl
      | cons d r ih =>
        simp only [okdL, Bool.and_eq_true] at h
        rw [toPyL, List.any_cons, List.any_cons, ih h.2, eqv_deq d x (okd_pure h.1).1 h3]
    exact this hd
theorem q_inT {x : D} {ds : List D} {S : Sto} (hx : okd 60 x = true) (hd : okdL 59 ds = true) : cIn x (.tup ds) S = .ok (.bl (ds.any fun y => deq y x)) S := by
  unfold cIn
  rw [show inD x (.tup ds) = inGen x ds from by cases x <;> rfl, inGen_deq hx hd]; rfl
theorem q_inL {x : D} {ds : List D} {S : Sto} (hx : okd 60 x = true) (hd : okdL 59 ds = true) : cIn x (.lst ds) S = .ok (.bl (ds.any fun y => deq y x)) S := by
  unfold cIn
  rw [show inD x (.lst ds) = inGen x ds from by cases x <;> rfl, inGen_deq hx hd]; rfl
theorem q_ninT {x : D} {ds : List D} {S : Sto} (hx : okd 60 x = true) (hd : okdL 59 ds = true) : cNotIn x (.tup ds) S = .ok (.bl (!ds.any fun y => deq y x)) S := by
  unfold cNotIn
  rw [show inD x (.tup ds) = inGen x ds from by cases x <;> rfl, inGen_deq hx hd]; rfl
theorem q_ninL {x : D} {ds : List D} {S : Sto} (hx : okd 60 x = true) (hd : okdL 59 ds = true) : cNotIn x (.lst ds) S = .ok (.bl (!ds.any fun y => deq y x)) S := by
  unfold cNotIn
  rw [show inD x (.lst ds) = inGen x ds from by cases x <;> rfl, inGen_deq hx hd]; rfl
mutual
theorem deq_refl : ∀ {n : Nat} {d : D}, okd n d = true → deq d d = true
  | n, .non, h => rfl
  | n, .bl _, h => by simp [deq]
  | n, .int _, h => by simp [deq]
  | n, .str x, h => by simp [deq]
  | 0, .tup ds, h => by simp [okd] at h
  | n + 1, .tup ds, h => by
    have := deqL_refl (n := n) (ds := ds) (by simpa [okd] using h)
    simpa [deq] using this
  | 0, .lst ds, h => by simp [okd] at h
  | n + 1, .lst ds, h => by
    have := deqL_refl (n := n) (ds := ds) (by simpa [okd] using h)
    simpa [deq] using this
  | n, .frl _, h => by cases n <;> simp [okd] at h
  | n, .ins _ _ _, h => by cases n <;> simp [okd] at h
  | n, .obj _, h => by cases n <;> simp [okd] at h
theorem deqL_refl : ∀ {n : Nat} {ds : List D}, okdL n ds = true → deqL ds ds = true
  | n, [], h => rfl
  | n, d :: ds, h => by
    simp only [okdL, Bool.and_eq_true] at h
    simp [deqL, deq_refl h.1, deqL_refl h.2]
end
section
variable {S : Sto} {i j : Int} {a b : Bool} {x y : Str} {ds es : List D} {d e : D} {n : Nat}
theorem deq_ii : deq (.int i) (.int j) = decide (i = j) := rfl
theorem deq_ss : deq (.str x) (.str y) = decide (x = y) := rfl
theorem deq_tt : deq (.tup ds) (.tup es) = deqL ds es := by simp [deq]
theorem deq_ll : deq (.lst ds) (.lst es) = deqL ds es := by simp [deq]
theorem deq_nb : deq .non (.bl b) = false := by simp [deq]
theorem deq_ni : deq .non (.int i) = false := by simp [deq]
theorem deq_ns : deq .non (.str x) = false := by simp [deq]
theorem deq_nt : deq .non (.tup es) = false := by simp [deq]
theorem deq_nl : deq .non (.lst es) = false := by simp [deq]
theorem deq_bn : deq (.bl a) .non = false := by simp [deq]
theorem deq_bs : deq (.bl a) (.str x) = false := by simp [deq]
theorem deq_bt : deq (.bl a) (.tup es) = false := by simp [deq]
theorem deq_bl : deq (.bl a) (.lst es) = false := by simp [deq]
theorem deq_in : deq (.int i) .non = false := by simp [deq]
theorem deq_is : deq (.int i) (.str x) = false := by simp [deq]
theorem deq_it : deq (.int i) (.tup es) = false := by simp [deq]
theorem deq_il : deq (.int i) (.lst es) = false := by simp [deq]
theorem deq_sn : deq (.str x) .non = false := by simp [deq]
theorem deq_sb : deq (.str x) (.bl b) = false := by simp [deq]
theorem deq_si : deq (.str x) (.int i) = false := by simp [deq]
theorem deq_st : deq (.str x) (.tup es) = false := by simp [deq]
theorem deq_sl : deq (.str x) (.lst es) = false := by simp [deq]
theorem deq_tn : deq (.tup ds) .non = false := by simp [deq]
theorem deq_tb : deq (.tup ds) (.bl b) = false := by simp [deq]
theorem deq_ti : deq (.tup ds) (.int i) = false := by simp [deq]
theorem deq_ts : deq (.tup ds) (.str x) = false := by simp [deq]
theorem deq_tl : deq (.tup ds) (.lst es) = false := by simp [deq]
theorem deq_ln : deq (.lst ds) .non = false := by simp [deq]
theorem deq_lb : deq (.lst ds) (.bl b) = false := by simp [deq]
theorem deq_li : deq (.lst ds) (.int i) = false := by simp [deq]
theorem deq_ls : deq (.lst ds) (.str x) = false := by simp [deq]
theorem deq_lt : deq (.lst ds) (.tup es) = false := by simp [deq]
theorem deq_nn : deq .non .non = true := by simp [deq]
theorem deq_bb : deq (.bl a) (.bl b) = (a == b) := by simp [deq]
theorem deqL_nn : deqL [] [] = true := by simp [deqL]
theorem deqL_cc : deqL (d :: ds) (e :: es) = (deq d e && deqL ds es) := by simp [deqL]
theorem deqL_nc : deqL [] (e :: es) = false := by simp [deqL]
theorem deqL_cn : deqL (d :: ds) [] = false := by simp [deqL]
theorem okd_i : okd n (.int i) = true := by cases n <;> simp [okd]
theorem okd_n : okd n .non = true := by cases n <;> simp [okd]
theorem okd_b : okd n (.bl a) = true := by cases n <;> simp [okd]
theorem okd_s (h : PyData.strOk x = true) : okd n (.str x) = true := by cases n <;> simp [okd, h]
theorem okd_t : okd (n + 1) (.tup ds) = okdL n ds := by simp [okd]
theorem okd_l : okd (n + 1) (.lst ds) = okdL n ds := by simp [okd]
theorem okdL_n : okdL n [] = true := by simp [okdL]
theorem okdL_c : okdL n (d :: ds) = (okd n d && okdL n ds) := by simp [okdL]
theorem okdL_of (h : ∀ d ∈ ds, okd n d = true) : okdL n ds = true := by
  induction ds with
  | nil => exact okdL_n
  | cons d ds ih => rw [okdL_c, h d List.mem_cons_self, ih fun e he => h e (List.mem_cons_of_mem _ he)]; rfl
end
theorem okdL_append {n : Nat} {a b : List D} (h : okdL n a = true) (h2 : okdL n b = true) : okdL n (a ++ b) = true := by
  induction a with
  | nil => exact h2
  | cons d ds ih =>
    simp only [okdL, Bool.and_eq_true] at h
    rw [List.cons_append, okdL_c, h.1, ih h.2]; rfl
theorem okdL_mem {n : Nat} {a : List D} (h : okdL n a = true) : ∀ d ∈ a, okd n d = true := by
  induction a with
  | nil => intro d m; cases m
  | cons d ds ih =>
    simp only [okdL, Bool.and_eq_true] at h
    intro e m
    rcases List.mem_cons.mp m with rfl | m
    · exact h.1
    · exact ih h.2 e m
theorem okdL_sub {n : Nat} {a b : List D} (h : okdL n a = true) (hb : ∀ d ∈ b, d ∈ a) : okdL n b = true := okdL_of fun d m => okdL_mem h d (hb d m)
theorem okdL_take {n k : Nat} {a : List D} (h : okdL n a = true) : okdL n (a.take k) = true := okdL_sub h fun d m => List.mem_of_mem_take m
theorem okdL_drop {n k : Nat} {a : List D} (h : okdL n a = true) : okdL n (a.drop k) = true := okdL_sub h fun d m => List.mem_of_mem_drop m
theorem okdL_rev {n : Nat} {a : List D} (h : okdL n a = true) : okdL n a.reverse = true := okdL_sub h fun d m => List.mem_reverse.mp m
theorem strOk_of (s : String) : PyData.strOk (Str.ofString s) = true := by
  unfold PyData.strOk Str.ofString
  rw [cpsOfBytes_string, Array.all_eq_true']
  intro c h
  simp at h
  obtain ⟨ch, _, rfl⟩ := h
  have := ch.valid
  simp only [UInt32.isValidChar, Nat.isValidChar] at this
  have e : ch.toNat = ch.val.toNat := rfl
  simp; omega
theorem p_str {i : Int} {S : Sto} (h1 : -18446744073709551616 ≤ i) (h2 : i ≤ 18446744073709551616) : pStr [.int i] S = .ok (.str (toString i)) S := by
  show mk _ _ _ = _
  have : i.natAbs.log2 < 1920 := by
    by_cases hx : i.natAbs = 0
    · rw [hx]; decide
    · have : i.natAbs < 2 ^ 66 := by
        have : (2:Nat)^66 = 73786976294838206464 := by decide
        omega
      have := (Nat.log2_lt hx).mpr this
      omega
  rw [decide_eq_true this]; rfl
end G

namespace G
open PySem L2
local macro_rules
  | `(tactic| simp_arith only [$xs,*]) => `(tactic| simp -implicitDefEqProofs (disch := first | assumption | omega | (simp only [List.length_cons, List.length_nil, List.length_append, List.length_map, List.length_set, List.length_take, List.length_drop, List.length_reverse, rangeD_len, zipD_len, enumD_len] <;> omega)) only [x_ok, at0, at1, at2, at3, at4, at5, x_dict, k_dict, x_pairsN, x_pairsC, k_p1, k_p2, k_p3i, k_p3s, cut_ns, cut_sn, cut_ss, sl_L, sl_F, sl_T, sl_S, x_exc, slotV_v, slotO_v, slotO_o, x_var, x_own, x_c, x_bin, k_bin1, k_bin2, x_neg, k_neg, x_tup, k_tup, x_lst, k_lst, x_nCat, k_cat1, k_cat2, x_nRep, k_rep1, k_rep2, x_frz, k_frz, x_nil, x_cons, k_cons1, k_cons2, x_val, k_val, tr_bl, tr_non, tr_int, tr_lst, tr_tup, tr_frl, tr_str, x_and, x_or, x_not, k_and, k_or, k_not, x_tT, x_ifE, k_ifE, x_andV, x_orV, x_notV, k_andV, k_orV, k_notV, x_chain, k_ch1, k_ch2, k_ch3, x_call, x_callN, k_call, x_opt, k_some, x_isi, k_isi, x_oNone, x_oSome, k_oSome, x_nSl, k_nsl1, k_nsl2, k_nsl3L, k_nsl3F, x_sl, k_sl1, k_sl2, k_sl3, x_rev, k_rev, k_revT, x_fn, k_fn, x_fnB, k_fnB, x_tStill, k_stB, x_eStill, envB_t, envB_f, envB_n, envB_e, frzB_u, frzB_o, frzB_v, frzB_i, frzB_b, frzB_s, frzB_non, frzB_t, frzB_l, k_nolB, k_nolI, k_nolS, k_nolN, x_seq, k_seqL, k_seqT, k_seqF, k_seqS, x_rng1, k_rng1, x_rng2, k_rng2a, k_rng2b, x_enum, k_enum, k_enumT, x_zip, k_zipL, k_zipT, k_zipM, k_zipN, x_lc, k_lc, x_sNil, x_sSeq, k_sqn, k_sqr, k_sqb, k_sqc, k_sqx, x_sExpr, k_expr, x_sRet, k_ret, x_sRetN, x_sRetO, k_retO, x_sRetL, k_retL, x_nFn, k_fnN, k_sqo, k_turnO, k_wtO, x_runN, k_runO, k_runOX, x_sBrk, x_sCnt, x_sSet, k_set, x_sOwn, k_own, tg_some, x_sTg, k_tg, gN_ok, gT_t, gTs_n, gTs_c, x_sIf, k_if, x_sFor, k_for, x_sWhile, x_sFrz, frzE_eq, frz_o, frz_v, frz_u, slotL_o, k_mod, x_modE, x_withO, x_sApp, k_appL, k_app, hApp_ok, x_sIns, k_insL, k_ins1, k_ins2, hIns_ok, x_sRevO, k_revO, x_sClrO, k_clrO, x_sExt, k_extL, k_ext, hExt_ok, x_sSetIx, k_setIxL, k_setIx1, k_setIx2, k_putK, x_sPut, k_put1, k_put2, k_put3, x_sPar, k_par, x_sPar3, k_par3, x_run, k_runN, k_runR, k_runX, k_x, q_add, q_sub, q_addBI, q_addIB, q_subBI, q_subIB, p_strB, p_strS, tI_t, tI_f, q_mul, q_rep, q_div, q_mod, q_lt, q_le, q_gt, q_ge, q_eq, q_ne, q_is, q_isn, q_isB, q_isnB, x_idx, k_idx1, k_idx2, q_catL, q_catT, q_catS, isNon_non, isNon_int, isNon_bl, isNon_str, isNon_tup, isNon_lst, p_divmod, p_lenL, p_lenT, p_lenF, p_lenS, p_intB, p_intI, p_max2, p_min2, p_tupL, p_tupT, p_lstL, p_lstT, p_lstF, is_intI, is_intB, is_intS, is_intN, is_intT, is_intL, is_blI, is_blB, is_blS, is_blN, is_blT, is_blL, is_strI, is_strB, is_strS, is_strN, is_strT, is_strL, is_tupI, is_tupB, is_tupS, is_tupN, is_tupT, is_tupL, is_lstI, is_lstB, is_lstS, is_lstN, is_lstT, is_lstL, opIx_lst, opIx_tup, opIx_frl, k_midN, k_midC, k_midB, k_midR, k_midO, k_midX, k_turnN, k_turnC, k_turnB, k_turnR, k_turnX, k_wtN, k_wtC, k_wtB, k_wtR, k_wtX, k_wc, k_le, frzE_eq, turn_eq, turnC_eq, k_le, forL_nil, lcL_nil, startE, decide_eq_true_eq, decide_eq_false_iff_not, decide_true, decide_false, Bool.not_eq_true', Bool.not_eq_eq_eq_not, Bool.not_true, Bool.not_false, Bool.true_eq_false, Bool.false_eq_true, Bool.not_not, Option.bind_some, Option.map_some, List.map_cons, List.map_nil, List.length_cons, List.length_nil, List.cons_append, List.nil_append, List.set_cons_zero, List.set_cons_succ, List.getElem?_cons_zero, List.getElem?_cons_succ, List.length_set, ↓reduceIte, if_true, if_false, ite_self, List.replicate, List.take_succ_cons, List.take_zero, List.drop_succ_cons, List.drop_zero, List.flatten_cons, List.flatten_nil, Int.reduceToNat, List.isEmpty_cons, List.isEmpty_nil, Nat.reduceAdd, Nat.reduceSub, Nat.reduceLT, Nat.reduceLeDiff, Nat.reduceEqDiff, Int.cast_ofNat_Int, not_true_eq_false, not_false_eq_true, Int.reduceAdd, Int.reduceSub, Int.reduceMul, Int.reduceLT, Int.reduceLE, Int.reduceEq, Int.reduceNe, Int.reduceNeg, Int.zero_add, ne_eq, id, wipeE, lcL_nil, eq_self, and_true, true_and, D.int.injEq, D.bl.injEq, ofS_eq, String.reduceEq, $xs,*])

def wholeD (lo hi : Int) : D → Bool
  | .int i => decide (lo ≤ i) && decide (i ≤ hi)
  | _ => false
theorem okd_kinds {n : Nat} {d : D} (h : okd n d = true) : (∃ ds, d = .tup ds ∧ okdL (n - 1) ds = true) ∨ (∃ i, d = .int i) ∨ (∃ b, d = .bl b) ∨ (∃ x, d = .str x) ∨ (∃ ds, d = .lst ds ∧ okdL (n - 1) ds = true) ∨ d = .non := by
  cases d with
  | tup ds =>
    cases n with
    | zero => simp [okd] at h
    | succ n => exact .inl ⟨ds, rfl, by simpa [okd] using h⟩
  | lst ds =>
    cases n with
    | zero => simp [okd] at h
    | succ n => exact .inr (.inr (.inr (.inr (.inl ⟨ds, rfl, by simpa [okd] using h⟩))))
  | int i => exact .inr (.inl ⟨i, rfl⟩)
  | bl i => exact .inr (.inr (.inl ⟨i, rfl⟩))
  | str i => exact .inr (.inr (.inr (.inl ⟨i, rfl⟩)))
  | non => exact .inr (.inr (.inr (.inr (.inr rfl))))
  | frl _ => cases n <;> simp [okd] at h
  | ins _ _ _ => cases n <;> simp [okd] at h
  | obj _ => cases n <;> simp [okd] at h
mutual
theorem okd_succ : ∀ {n : Nat} {d : D}, okd n d = true → okd (n + 1) d = true
  | n, .non, h => by simp [okd]
  | n, .bl _, h => by simp [okd]
  | n, .int _, h => by simp [okd]
  | n, .str x, h => by cases n <;> simpa [okd] using h
  | 0, .tup ds, h => by simp [okd] at h
  | n + 1, .tup ds, h => by
    have := okdL_succ (n := n) (ds := ds) (by simpa [okd] using h)
    simpa [okd] using this
  | 0, .lst ds, h => by simp [okd] at h
  | n + 1, .lst ds, h => by
    have := okdL_succ (n := n) (ds := ds) (by simpa [okd] using h)
    simpa [okd] using this
  | n, .frl _, h => by cases n <;> simp [okd] at h
  | n, .ins _ _ _, h => by cases n <;> simp [okd] at h
  | n, .obj _, h => by cases n <;> simp [okd] at h
theorem okdL_succ : ∀ {n : Nat} {ds : List D}, okdL n ds = true → okdL (n + 1) ds = true
  | n, [], h => by simp [okdL]
  | n, d :: ds, h => by
    simp only [okdL, Bool.and_eq_true] at h
    simp [okdL, okd_succ h.1, okdL_succ h.2]
end
theorem okd_mono {n m : Nat} {d : D} (h : okd n d = true) (l : n ≤ m) : okd m d = true := by
  induction l with
  | refl => exact h
  | step _ ih => exact okd_succ ih
theorem okdL_mono {n m : Nat} {d : List D} (h : okdL n d = true) (l : n ≤ m) : okdL m d = true := by
  induction l with
  | refl => exact h
  | step _ ih => exact okdL_succ ih
theorem s_wholeD {n : Nat} {d : D} {lo hi : Int} {S : Sto} (h : okd n d = true) : M.is_whole [d, .int lo, .int hi] S = .ok (.bl (wholeD lo hi d)) S := by
  refine tri_eq ?_
  rcases okd_kinds h with ⟨ds, rfl, _⟩ | ⟨i, rfl⟩ | ⟨b, rfl⟩ | ⟨x, rfl⟩ | ⟨ds, rfl, _⟩ | rfl
  case inr.inl => by_cases h1 : lo ≤ i <;> by_cases h2 : i ≤ hi <;> simp_arith only [M.is_whole, M.b_is_whole, wholeD, h1, h2, Bool.and_true, Bool.and_false, Bool.true_and]
  all_goals simp_arith only [M.is_whole, M.b_is_whole, wholeD]
theorem s_lwholeD {n : Nat} {d : D} {lo hi : Int} {S : Sto} (h : okd n d = true) : M.law_whole_v2 [d, .int lo, .int hi] S = .ok (.bl (wholeD lo hi d)) S := by
  refine tri_eq ?_
  rcases okd_kinds h with ⟨ds, rfl, _⟩ | ⟨i, rfl⟩ | ⟨b, rfl⟩ | ⟨x, rfl⟩ | ⟨ds, rfl, _⟩ | rfl
  case inr.inl => by_cases h1 : lo ≤ i <;> by_cases h2 : i ≤ hi <;> simp_arith only [M.law_whole_v2, M.b_law_whole_v2, wholeD, h1, h2, Bool.and_true, Bool.and_false, Bool.true_and]
  all_goals simp_arith only [M.law_whole_v2, M.b_law_whole_v2, wholeD]
def intOf : D → Int
  | .int i => i
  | _ => 0
def turnsOk : Int → List D → Bool
  | _, [] => true
  | a, .tup [m, o] :: r => wholeD (a + 1) 143999999 m && (wholeD (-840) 840 o && turnsOk (intOf m) r)
  | _, _ :: _ => false
def firstNull : List D → Bool
  | .tup (.int m :: _) :: _ => m == 0
  | _ => false
def isClock : D → Bool
  | .tup ds => decide (1 ≤ ds.length) && (decide (ds.length ≤ 40) && (turnsOk (-1) ds && firstNull ds))
  | _ => false
theorem isClock_t {ds : List D} : isClock (.tup ds) = (decide (1 ≤ ds.length) && (decide (ds.length ≤ 40) && (turnsOk (-1) ds && firstNull ds))) := rfl
theorem okdL_get {n : Nat} {ds : List D} {i : Nat} {d : D} (h : okdL n ds = true) (e : ds[i]? = some d) : okd n d = true := by
  induction ds generalizing i with
  | nil => simp at e
  | cons a r ih =>
    simp only [okdL, Bool.and_eq_true] at h
    cases i with
    | zero => simp at e; subst e; exact h.1
    | succ i => exact ih h.2 (by simpa using e)
theorem drop_cons {α : Type} {ds : List α} {i : Nat} {d : α} (e : ds[i]? = some d) : ds.drop i = d :: ds.drop (i + 1) := by
  obtain ⟨h, rfl⟩ := List.getElem?_eq_some_iff.mp e
  exact List.drop_eq_getElem_cons h
theorem wholeD_int {lo hi : Int} {d : D} (h : wholeD lo hi d = true) : ∃ i, d = .int i ∧ lo ≤ i ∧ i ≤ hi := by
  cases d with
  | int i => simp [wholeD] at h; exact ⟨i, rfl, h⟩
  | _ => simp [wholeD] at h
theorem s_is_clock {n : Nat} {d : D} {S : Sto} (h : okd n d = true) : M.is_clock [d] S = .ok (.bl (isClock d)) S := by
  have w3 : ∀ k : Nat, ¬ (((k + 1 + 1 + 1 : Nat) : Int) = 2) := fun k => by omega
  refine tri_eq ?_
  rcases okd_kinds h with ⟨ds, rfl, hd⟩ | ⟨i, rfl⟩ | ⟨b, rfl⟩ | ⟨x, rfl⟩ | ⟨ds, rfl, _⟩ | rfl
  case inl =>
    rw [isClock_t]
    by_cases h1 : (ds.length : Int) < 1
    · have : decide (1 ≤ ds.length) = false := decide_eq_false (by omega)
      simp_arith only [M.is_clock, M.b_is_clock, h1, this, Bool.false_and]
    by_cases h2 : 40 < (ds.length : Int)
    · have : decide (ds.length ≤ 40) = false := decide_eq_false (by omega)
      simp_arith only [M.is_clock, M.b_is_clock, h1, h2, k_MOST_TURNS, this, Bool.false_and, Bool.and_false]
    have w1 : decide (1 ≤ ds.length) = true := decide_eq_true (by omega)
    have w2 : decide (ds.length ≤ 40) = true := decide_eq_true (by omega)
    simp_arith only [M.is_clock, M.b_is_clock, h1, h2, k_MOST_TURNS, w1, w2, Bool.true_and]
    refine for_inv (fun i env S' => S' = S ∧ ∃ a z, env = [.val (.tup ds), .val (.int a), z] ∧ turnsOk (-1) ds = turnsOk a (ds.drop i)) ⟨rfl, _, _, rfl, rfl⟩ ?_ ?_
    · rintro i d env S' e ⟨rfl, a, z, rfl, ha⟩
      have hk := okdL_get hd e
      rw [drop_cons e] at ha
      rcases okd_kinds hk with ⟨es, rfl, he⟩ | ⟨i, rfl⟩ | ⟨b, rfl⟩ | ⟨x, rfl⟩ | ⟨ds, rfl, _⟩ | rfl
      case inl =>
        rcases es with _ | ⟨m, _ | ⟨o, _ | ⟨q, r⟩⟩⟩
        case cons.cons.nil =>
          simp only [okdL, Bool.and_eq_true] at he
          have f1 := fun S => s_wholeD (lo := a + 1) (hi := 143999999) (S := S) he.1
          have f2 := fun S => s_wholeD (lo := -840) (hi := 840) (S := S) he.2.1
          rw [turnsOk] at ha
          cases c1 : wholeD (a + 1) 143999999 m with
          | false =>
            rw [c1, Bool.false_and] at ha
            simp_arith only [f1, f2, k_LAST_MOMENT, c1, ha, Bool.false_and]
          | true =>
            obtain ⟨k, rfl, _, _⟩ := wholeD_int c1
            cases c2 : wholeD (-840) 840 o with
            | false =>
              rw [c2, Bool.false_and, Bool.and_false] at ha
              simp_arith only [f1, f2, k_LAST_MOMENT, k_FAR, c1, c2, ha, Bool.false_and]
            | true =>
              rw [c1, c2, Bool.true_and, Bool.true_and] at ha
              simp_arith only [f1, f2, k_LAST_MOMENT, k_FAR, c1, c2]
              exact ⟨_, _, rfl, ha⟩
        all_goals
          rw [show turnsOk a _ = false from rfl] at ha
          simp_arith only [ha, Bool.false_and, w3]
      all_goals
        rw [show turnsOk a _ = false from rfl] at ha
        simp_arith only [ha, Bool.false_and]
    · rintro env S' ⟨rfl, a, z, rfl, ha⟩
      rw [List.drop_eq_nil_of_le (Nat.le_refl _)] at ha
      rw [show turnsOk a [] = true from by simp [turnsOk]] at ha
      rcases ds with _ | ⟨f, r⟩
      · simp at h1
      have hk := okdL_get hd (i := 0) rfl
      have hf : ∃ m o, f = .tup [.int m, o] := by
        rcases okd_kinds hk with ⟨es, rfl, he⟩ | ⟨i, rfl⟩ | ⟨b, rfl⟩ | ⟨x, rfl⟩ | ⟨ds, rfl, _⟩ | rfl
        case inl =>
          rcases es with _ | ⟨m, _ | ⟨o, _ | ⟨q, r⟩⟩⟩
          case cons.cons.nil =>
            rw [turnsOk] at ha
            simp only [Bool.and_eq_true] at ha
            obtain ⟨k, rfl, _, _⟩ := wholeD_int ha.1
            exact ⟨_, _, rfl⟩
          all_goals cases ha
        all_goals cases ha
      obtain ⟨m, o, rfl⟩ := hf
      simp_arith only [ha, Bool.true_and]
      rfl
  all_goals simp_arith only [M.is_clock, M.b_is_clock, isClock]
end G

namespace G
open PySem L2
local macro_rules
  | `(tactic| simp_arith only [$xs,*]) => `(tactic| simp -implicitDefEqProofs (disch := first | assumption | omega | (simp only [List.length_cons, List.length_nil, List.length_append, List.length_map, List.length_set, List.length_take, List.length_drop, List.length_reverse, rangeD_len, zipD_len, enumD_len] <;> omega)) only [x_ok, at0, at1, at2, at3, at4, at5, x_dict, k_dict, x_pairsN, x_pairsC, k_p1, k_p2, k_p3i, k_p3s, cut_ns, cut_sn, cut_ss, sl_L, sl_F, sl_T, sl_S, x_exc, slotV_v, slotO_v, slotO_o, x_var, x_own, x_c, x_bin, k_bin1, k_bin2, x_neg, k_neg, x_tup, k_tup, x_lst, k_lst, x_nCat, k_cat1, k_cat2, x_nRep, k_rep1, k_rep2, x_frz, k_frz, x_nil, x_cons, k_cons1, k_cons2, x_val, k_val, tr_bl, tr_non, tr_int, tr_lst, tr_tup, tr_frl, tr_str, x_and, x_or, x_not, k_and, k_or, k_not, x_tT, x_ifE, k_ifE, x_andV, x_orV, x_notV, k_andV, k_orV, k_notV, x_chain, k_ch1, k_ch2, k_ch3, x_call, x_callN, k_call, x_opt, k_some, x_isi, k_isi, x_oNone, x_oSome, k_oSome, x_nSl, k_nsl1, k_nsl2, k_nsl3L, k_nsl3F, x_sl, k_sl1, k_sl2, k_sl3, x_rev, k_rev, k_revT, x_fn, k_fn, x_fnB, k_fnB, x_tStill, k_stB, x_eStill, envB_t, envB_f, envB_n, envB_e, frzB_u, frzB_o, frzB_v, frzB_i, frzB_b, frzB_s, frzB_non, frzB_t, frzB_l, k_nolB, k_nolI, k_nolS, k_nolN, x_seq, k_seqL, k_seqT, k_seqF, k_seqS, x_rng1, k_rng1, x_rng2, k_rng2a, k_rng2b, x_enum, k_enum, k_enumT, x_zip, k_zipL, k_zipT, k_zipM, k_zipN, x_lc, k_lc, x_sNil, x_sSeq, k_sqn, k_sqr, k_sqb, k_sqc, k_sqx, x_sExpr, k_expr, x_sRet, k_ret, x_sRetN, x_sRetO, k_retO, x_sRetL, k_retL, x_nFn, k_fnN, k_sqo, k_turnO, k_wtO, x_runN, k_runO, k_runOX, x_sBrk, x_sCnt, x_sSet, k_set, x_sOwn, k_own, tg_some, x_sTg, k_tg, gN_ok, gT_t, gTs_n, gTs_c, x_sIf, k_if, x_sFor, k_for, x_sWhile, x_sFrz, frzE_eq, frz_o, frz_v, frz_u, slotL_o, k_mod, x_modE, x_withO, x_sApp, k_appL, k_app, hApp_ok, x_sIns, k_insL, k_ins1, k_ins2, hIns_ok, x_sRevO, k_revO, x_sClrO, k_clrO, x_sExt, k_extL, k_ext, hExt_ok, x_sSetIx, k_setIxL, k_setIx1, k_setIx2, k_putK, x_sPut, k_put1, k_put2, k_put3, x_sPar, k_par, x_sPar3, k_par3, x_run, k_runN, k_runR, k_runX, k_x, q_add, q_sub, q_addBI, q_addIB, q_subBI, q_subIB, p_strB, p_strS, tI_t, tI_f, q_mul, q_rep, q_div, q_mod, q_lt, q_le, q_gt, q_ge, q_eq, q_ne, q_is, q_isn, q_isB, q_isnB, x_idx, k_idx1, k_idx2, q_catL, q_catT, q_catS, isNon_non, isNon_int, isNon_bl, isNon_str, isNon_tup, isNon_lst, p_divmod, p_lenL, p_lenT, p_lenF, p_lenS, p_intB, p_intI, p_max2, p_min2, p_tupL, p_tupT, p_lstL, p_lstT, p_lstF, is_intI, is_intB, is_intS, is_intN, is_intT, is_intL, is_blI, is_blB, is_blS, is_blN, is_blT, is_blL, is_strI, is_strB, is_strS, is_strN, is_strT, is_strL, is_tupI, is_tupB, is_tupS, is_tupN, is_tupT, is_tupL, is_lstI, is_lstB, is_lstS, is_lstN, is_lstT, is_lstL, opIx_lst, opIx_tup, opIx_frl, k_midN, k_midC, k_midB, k_midR, k_midO, k_midX, k_turnN, k_turnC, k_turnB, k_turnR, k_turnX, k_wtN, k_wtC, k_wtB, k_wtR, k_wtX, k_wc, k_le, frzE_eq, turn_eq, turnC_eq, k_le, forL_nil, lcL_nil, startE, decide_eq_true_eq, decide_eq_false_iff_not, decide_true, decide_false, Bool.not_eq_true', Bool.not_eq_eq_eq_not, Bool.not_true, Bool.not_false, Bool.true_eq_false, Bool.false_eq_true, Bool.not_not, Option.bind_some, Option.map_some, List.map_cons, List.map_nil, List.length_cons, List.length_nil, List.cons_append, List.nil_append, List.set_cons_zero, List.set_cons_succ, List.getElem?_cons_zero, List.getElem?_cons_succ, List.length_set, ↓reduceIte, if_true, if_false, ite_self, List.replicate, List.take_succ_cons, List.take_zero, List.drop_succ_cons, List.drop_zero, List.flatten_cons, List.flatten_nil, Int.reduceToNat, List.isEmpty_cons, List.isEmpty_nil, Nat.reduceAdd, Nat.reduceSub, Nat.reduceLT, Nat.reduceLeDiff, Nat.reduceEqDiff, Int.cast_ofNat_Int, not_true_eq_false, not_false_eq_true, Int.reduceAdd, Int.reduceSub, Int.reduceMul, Int.reduceLT, Int.reduceLE, Int.reduceEq, Int.reduceNe, Int.reduceNeg, Int.zero_add, ne_eq, id, wipeE, lcL_nil, eq_self, and_true, true_and, D.int.injEq, D.bl.injEq, ofS_eq, String.reduceEq, $xs,*])

def turnD (t : Int × Int) : D := .tup [.int t.1, .int t.2]
abbrev clockD (ts : List (Int × Int)) : D := .tup (ts.map turnD)
/-- turns that rise from a on -/
def Rise : Int → List (Int × Int) → Prop
  | _, [] => True
  | a, t :: r => a < t.1 ∧ t.1 ≤ 143999999 ∧ -840 ≤ t.2 ∧ t.2 ≤ 840 ∧ Rise t.1 r
structure Clk (ts : List (Int × Int)) : Prop where
  rise : Rise (-1) ts
  first : ∃ o r, ts = (0, o) :: r
  len : ts.length ≤ 40
theorem Rise.snoc {m o : Int} : ∀ {ts : List (Int × Int)} {a : Int}, Rise a ts → (∀ t ∈ ts, t.1 < m) → a < m → m ≤ 143999999 → -840 ≤ o → o ≤ 840 → Rise a (ts ++ [(m, o)])
  | [], _, _, _, h1, h2, h3, h4 => ⟨h1, h2, h3, h4, trivial⟩
  | t :: r, _, ⟨a1, a2, a3, a4, a5⟩, h, _, h2, h3, h4 => ⟨a1, a2, a3, a4, Rise.snoc a5 (fun u hu => h u (List.mem_cons_of_mem _ hu)) (h t List.mem_cons_self) h2 h3 h4⟩
theorem s_offset {n : Nat} {R S : Sto} (hT : Tp n R S) (hn : n ≤ 100000000000000) : Tri (M.law_offset [.obj 0] S) fun d S' => ∃ o, d = .int o ∧ -840 ≤ o ∧ o ≤ 840 ∧ Tp (n + 60) R S' := by
  simp_arith only [M.law_offset, M.b_law_offset]
  refine (dr hT (by omega) (by omega) (by omega)).to ?_
  rintro _ _ ⟨a, rfl, a0, a1, hT⟩
  simp_arith only []
  refine (dr hT (by omega) (by omega) (by omega)).to ?_
  rintro _ _ ⟨b, rfl, b0, b1, hT⟩
  simp_arith only []
  refine (dr hT (by omega) (by omega) (by omega)).to ?_
  rintro _ _ ⟨c, rfl, c0, c1, hT⟩
  simp_arith only []
  refine pickI (-840) 840 (by omega) (by simp only [List.length_cons, List.length_nil]; omega) (by repeat' (first | exact all_nil | refine all_cons ⟨_, rfl, by omega, by omega⟩ ?_)) fun e e0 e1 => ?_
  simp_arith only []
  exact ⟨e, rfl, e0, e1, hT⟩
theorem s_clock3 {n : Nat} {R S : Sto} {m : Int} (hT : Tp n R S) (hn : n ≤ 10000000000000) (m0 : 0 < m) (m1 : m ≤ 40) : Tri (M.law_clock_v3 [.obj 0, .int m] S) fun d S' => ∃ ts, d = clockD ts ∧ Clk ts ∧ (ts.length : Int) ≤ m ∧ Tp (n + 7000) R S' := by
  simp_arith only [M.law_clock_v3, M.b_law_clock_v3]
  refine (s_offset hT (by omega)).to ?_
  rintro _ _ ⟨o, rfl, o0, o1, hT⟩
  simp_arith only []
  refine (dr hT (by omega) (by omega) (by omega)).to ?_
  rintro _ _ ⟨a, rfl, a0, a1, hT⟩
  simp_arith only []
  refine (dr hT (by omega) (by omega) (by omega)).to ?_
  rintro _ _ ⟨b, rfl, b0, b1, hT⟩
  simp_arith only []
  refine (dr hT (by omega) (by omega) (by omega)).to ?_
  rintro _ _ ⟨c, rfl, c0, c1, hT⟩
  simp_arith only []
  generalize hnear : 2000 + a * 70000000 + b = near
  have n0 : 2000 ≤ near := by omega
  have n1 : near ≤ 142000000 := by omega
  refine rng_inv (fun i env S => ∃ (k : Nat) (ts : List (Int × Int)) (mo : Int) (x y : Slot), Tp k R S ∧ (k : Int) ≤ n + 120 + i * 160 ∧ Rise (-1) ts ∧ (∃ o r, ts = (0, o) :: r) ∧ (∀ t ∈ ts, t.1 ≤ mo) ∧ (ts.length : Int) ≤ i + 1 ∧ (i = 0 → mo = 0) ∧ 0 ≤ mo ∧ mo ≤ 142000000 + i * 300001 ∧
    env = [.val (.obj 0), .val (.int m), .own (ts.map turnD), .val (.int mo), .val (.int near), x, y])
    ⟨n + 120, [(0, o)], 0, _, _, hT.mono (by omega), by push_cast; omega, ⟨by show (-1 : Int) < 0; decide, by show (0 : Int) ≤ 143999999; decide, o0, o1, trivial⟩, ⟨o, [], rfl⟩, by simp, by simp, fun _ => rfl, by omega, by omega, rfl⟩ ?_ c0 ?_
  · rintro i env S i0 i1 ⟨k, ts, mo, x, y, hT, hk, hR, ⟨o', r, ht⟩, hm, hl, hz, q0, q1, rfl⟩
    simp_arith only []
    refine (dr hT (by omega) (by omega) (by omega)).to ?_
    rintro _ _ ⟨d, rfl, d0, d1, hT⟩
    simp_arith only []
    refine (dr hT (by omega) (by omega) (by omega)).to ?_
    rintro _ _ ⟨e, rfl, e0, e1, hT⟩
    simp_arith only []
    refine (dr hT (by omega) (by omega) (by omega)).to ?_
    rintro _ _ ⟨f, rfl, f0, f1, hT⟩
    simp_arith only []
    refine (dr hT (by omega) (by omega) (by omega)).to ?_
    rintro _ _ ⟨g, rfl, g0, g1, hT⟩
    simp_arith only []
    refine pickI 1 300001 (by omega) (by simp only [List.length_cons, List.length_nil]; omega) (by repeat' (first | exact all_nil | refine all_cons ⟨_, rfl, by omega, by omega⟩ ?_)) fun h h0 h1 => ?_
    simp_arith only []
    have hb : ∃ mo', (if i = 0 then near else mo) + h = mo' ∧ mo < mo' ∧ mo' ≤ 142000000 + (i + 1) * 300001 := ⟨_, rfl, by split <;> omega, by split <;> omega⟩
    obtain ⟨mo', e1, e2, e3⟩ := hb
    by_cases hi : i = 0
    all_goals
      simp only [hi, ↓reduceIte] at e1
      by_cases hc : mo' < 143990000
      · simp_arith only [hi, e1, hc]
        refine (s_offset hT (by omega)).to ?_
        rintro _ _ ⟨o2, rfl, p0, p1, hT⟩
        have hlt : (ts.map turnD).length < 16777216 := by rw [List.length_map]; omega
        simp_arith only [hlt]
        exact ⟨_, ts ++ [(mo', o2)], mo', _, _, hT, by push_cast; omega, hR.snoc (fun t ht => by have := hm t ht; omega) (by omega) (by omega) p0 p1, ⟨o', r ++ [(mo', o2)], by rw [ht]; rfl⟩,
          fun t ht => by
            rcases List.mem_append.mp ht with q | q
            · have := hm t q; omega
            · simp at q; subst q; exact Int.le_refl _,
          by simp; omega, fun z => (by first | omega | cases z), by omega, by omega, by rw [List.map_append]; rfl⟩
      · simp_arith only [hi, e1, hc]
        exact ⟨_, ts, mo', _, _, hT, by push_cast; omega, hR, ⟨o', r, ht⟩, fun t ht => by have := hm t ht; omega, by omega, fun z => (by first | omega | cases z), by omega, by omega, rfl⟩
  · rintro env S ⟨k, ts, mo, x, y, hT, hk, hR, ht, hm, hl, hz, q0, q1, rfl⟩
    simp_arith only []
    exact ⟨ts, rfl, ⟨hR, ht, by omega⟩, by omega, hT.mono (by omega)⟩
theorem okd_turn {n : Nat} {t : Int × Int} : okd (n + 1) (turnD t) = true := by simp [turnD, okd_t, okdL_c, okdL_n, okd_i]
theorem okdL_turns {n : Nat} {ts : List (Int × Int)} : okdL (n + 1) (ts.map turnD) = true := okdL_of fun d m => by
  obtain ⟨t, _, rfl⟩ := List.mem_map.mp m
  exact okd_turn
theorem okd_clock {n : Nat} {ts : List (Int × Int)} : okd (n + 2) (clockD ts) = true := by rw [clockD, okd_t]; exact okdL_turns
theorem at_turn {ts : List (Int × Int)} {i : Int} (h0 : 0 ≤ i) (h1 : i < (ts.length : Int)) : ∃ m o, atI (ts.map turnD) i = some (.tup [.int m, .int o]) ∧ (m, o) ∈ ts := by
  obtain ⟨x, e, hm⟩ := atI_ok (xs := ts.map turnD) h0 (by rw [List.length_map]; exact h1)
  obtain ⟨t, ht, rfl⟩ := List.mem_map.mp hm
  exact ⟨t.1, t.2, e, ht⟩
end G

namespace G.C
def stepO (m : Int) (f : Int) (t : Int × Int) : Int := if t.1 ≤ m then t.2 else f
def offAt (ts : List (Int × Int)) (m : Int) : Int := ts.foldl (stepO m) 0
def loc (ts : List (Int × Int)) (m : Int) : Int := m + offAt ts m
def segs : List (Int × Int) → List (Int × Int × Int)
  | [] => []
  | [t] => [(t.1, 144000000, t.2)]
  | t :: u :: r => (t.1, u.1, t.2) :: segs (u :: r)
def cfits (t : Int) (s : Int × Int × Int) : Bool := decide (s.1 ≤ t - s.2.2) && decide (t - s.2.2 < s.2.1)
def comes (ts : List (Int × Int)) (t : Int) : List Int := ((segs ts).filter (cfits t)).map fun s => t - s.2.2
theorem fold_late {m : Int} : ∀ {ts : List (Int × Int)} {a f : Int}, Rise a ts → m ≤ a → ts.foldl (stepO m) f = f
  | [], _, _, _, _ => rfl
  | t :: r, a, f, ⟨h1, _, _, _, h5⟩, h => by
    rw [List.foldl_cons, show stepO m f t = f from if_neg (by omega)]
    exact fold_late h5 (by omega)
theorem segs_off {b e o x : Int} : ∀ {ts : List (Int × Int)} {a f : Int}, Rise a ts → (b, e, o) ∈ segs ts → b ≤ x → x < e → ts.foldl (stepO x) f = o
  | [], _, _, _, h, _, _ => by cases h
  | [t], _, _, _, h, h1, h2 => by
    simp [segs] at h
    obtain ⟨rfl, rfl, rfl⟩ := h
    show stepO x _ t = t.2
    exact if_pos h1
  | t :: u :: r, a, f, ⟨q1, q2, q3, q4, q5⟩, h, h1, h2 => by
    rw [segs] at h
    rw [List.foldl_cons]
    rcases List.mem_cons.mp h with h | h
    · cases h
      rw [show stepO x f t = t.2 from if_pos h1]
      obtain ⟨p1, p2, p3, p4, p5⟩ := q5
      rw [List.foldl_cons, show stepO x t.2 u = t.2 from if_neg (by omega)]
      exact fold_late p5 (by omega)
    · exact segs_off q5 h h1 h2
theorem segs_cover {x : Int} : ∀ {ts : List (Int × Int)} {a : Int} {t : Int × Int} {r : List (Int × Int)}, ts = t :: r → Rise a ts → t.1 ≤ x → x < 144000000 → ∃ b e o, (b, e, o) ∈ segs ts ∧ b ≤ x ∧ x < e
  | _, _, t, [], rfl, _, h1, h2 => ⟨t.1, 144000000, t.2, by simp [segs], h1, h2⟩
  | _, a, t, u :: r, rfl, ⟨q1, q2, q3, q4, q5⟩, h1, h2 => by
    by_cases h : x < u.1
    · exact ⟨t.1, u.1, t.2, by simp [segs], h1, h⟩
    · obtain ⟨b, e, o, m, p⟩ := segs_cover (ts := u :: r) rfl q5 (by omega) h2
      exact ⟨b, e, o, by rw [segs]; exact List.mem_cons_of_mem _ m, p⟩
theorem segs_bounds {b e o : Int} : ∀ {ts : List (Int × Int)} {a : Int}, Rise a ts → (b, e, o) ∈ segs ts → a < b ∧ b < e ∧ e ≤ 144000000 ∧ -840 ≤ o ∧ o ≤ 840
  | [], _, _, h => by cases h
  | [t], a, ⟨q1, q2, q3, q4, q5⟩, h => by
    simp [segs] at h
    obtain ⟨rfl, rfl, rfl⟩ := h
    omega
  | t :: u :: r, a, ⟨q1, q2, q3, q4, q5⟩, h => by
    rw [segs] at h
    rcases List.mem_cons.mp h with h | h
    · cases h
      obtain ⟨p1, p2, p3, p4, p5⟩ := q5
      omega
    · have := segs_bounds q5 h
      omega
theorem mem_comes {ts : List (Int × Int)} {o0 : Int} {r : List (Int × Int)} {t x : Int} (h : Rise (-1) ts) (h0 : ts = (0, o0) :: r) : x ∈ comes ts t ↔ 0 ≤ x ∧ x < 144000000 ∧ loc ts x = t := by
  unfold comes loc offAt
  constructor
  · intro hx
    obtain ⟨⟨b, e, o⟩, hs, rfl⟩ := List.mem_map.mp hx
    obtain ⟨hm, hf⟩ := List.mem_filter.mp hs
    simp [cfits] at hf
    have hb := segs_bounds h hm
    rw [segs_off h hm hf.1 hf.2]
    simp only
    omega
  · rintro ⟨x0, x1, hx⟩
    obtain ⟨b, e, o, hm, h1, h2⟩ := segs_cover h0 h x0 x1
    rw [segs_off h hm h1 h2] at hx
    refine List.mem_map.mpr ⟨(b, e, o), List.mem_filter.mpr ⟨hm, ?_⟩, by simp only; omega⟩
    simp [cfits]
    omega
theorem offAt_bound {m : Int} : ∀ {ts : List (Int × Int)} {a f : Int}, Rise a ts → -840 ≤ f → f ≤ 840 → -840 ≤ ts.foldl (stepO m) f ∧ ts.foldl (stepO m) f ≤ 840
  | [], _, _, _, h1, h2 => ⟨h1, h2⟩
  | t :: r, a, f, ⟨_, _, q3, q4, q5⟩, h1, h2 => by
    rw [List.foldl_cons]
    refine offAt_bound q5 ?_ ?_ <;> (unfold stepO; split <;> omega)
theorem loc_bound {ts : List (Int × Int)} {a m : Int} (h : Rise a ts) : m - 840 ≤ loc ts m ∧ loc ts m ≤ m + 840 := by
  have := offAt_bound (m := m) (f := 0) h (by decide) (by decide)
  unfold loc offAt
  omega
/-- between two turns local time goes on by minutes -/
theorem fold_step {x : Int} : ∀ {ts : List (Int × Int)} {f : Int}, (∀ t ∈ ts, t.1 ≠ x) → ts.foldl (stepO x) f = ts.foldl (stepO (x - 1)) f
  | [], _, _ => rfl
  | t :: r, f, h => by
    rw [List.foldl_cons, List.foldl_cons]
    have h1 := h t List.mem_cons_self
    have : stepO x f t = stepO (x - 1) f t := by
      unfold stepO
      by_cases q : t.1 ≤ x
      · rw [if_pos q, if_pos (by omega)]
      · rw [if_neg q, if_neg (by omega)]
    rw [this]
    exact fold_step fun u hu => h u (List.mem_cons_of_mem _ hu)
/-- at a turn its own offset -/
theorem fold_at {t : Int × Int} : ∀ {ts : List (Int × Int)} {a f : Int}, Rise a ts → t ∈ ts → ts.foldl (stepO t.1) f = t.2
  | [], _, _, _, h => by cases h
  | u :: r, a, f, ⟨q1, q2, q3, q4, q5⟩, h => by
    rw [List.foldl_cons]
    rcases List.mem_cons.mp h with rfl | h
    · rw [show stepO t.1 f t = t.2 from if_pos (Int.le_refl _)]
      exact fold_late q5 (Int.le_refl _)
    · exact fold_at q5 h
theorem cross {f : Int → Int} {t : Int} : ∀ (n : Nat) {x : Int}, f x < t → t < f (x + n) → (∀ y, x ≤ y → y ≤ x + n → f y ≠ t) → ∃ y, x < y ∧ y ≤ x + n ∧ f (y - 1) < t ∧ t < f y
  | 0, x, h1, h2, _ => by simp at h2; omega
  | n + 1, x, h1, h2, h3 => by
    have := h3 (x + n) (by omega) (by push_cast; omega)
    by_cases h : t < f (x + n)
    · obtain ⟨y, a, b, c⟩ := cross n h1 h fun y a b => h3 y a (by push_cast; omega)
      exact ⟨y, a, by push_cast; omega, c⟩
    · refine ⟨x + n + 1, by omega, by push_cast; omega, ?_, ?_⟩
      · rw [show x + n + 1 - 1 = x + n from by omega]; omega
      · have e : x + ((n + 1 : Nat) : Int) = x + n + 1 := by push_cast; omega
        rw [e] at h2; exact h2
/-- where a local time never comes a turn leads over it -/
theorem over_it {ts : List (Int × Int)} {o0 : Int} {r : List (Int × Int)} {t : Int} (h : Rise (-1) ts) (h0 : ts = (0, o0) :: r) (t0 : 841 ≤ t) (t1 : t ≤ 143999158) (hc : comes ts t = []) :
    ∃ u ∈ r, loc ts (u.1 - 1) < t ∧ t < u.1 + u.2 := by
  have hn : ∀ y, 0 ≤ y → y ≤ 143999999 → loc ts y ≠ t := fun y a b e => by
    have := (mem_comes (t := t) (x := y) h h0).mpr ⟨a, by omega, e⟩
    rw [hc] at this; cases this
  have b0 := loc_bound (m := 0) h
  have b1 := loc_bound (m := 143999999) h
  obtain ⟨y, y0, y1, y2, y3⟩ := cross (f := loc ts) (t := t) 143999999 (x := 0) (by omega) (by simp; omega) (fun y a b => hn y a (by simpa using b))
  have hy : ∃ u ∈ ts, u.1 = y := by
    by_cases q : ∃ u ∈ ts, u.1 = y
    · exact q
    · have : offAt ts y = offAt ts (y - 1) := fold_step fun u hu e => q ⟨u, hu, e⟩
      unfold loc at y2 y3
      omega
  obtain ⟨u, hu, rfl⟩ := hy
  refine ⟨u, ?_, y2, ?_⟩
  · rw [h0] at hu
    rcases List.mem_cons.mp hu with rfl | hu
    · simp at y0
    · exact hu
  · unfold loc offAt at y3
    rw [fold_at h hu] at y3
    exact y3
def ends (ts : List (Int × Int)) : List Int := (ts.drop 1).map (·.1) ++ [144000000]
theorem segs_len : ∀ ts : List (Int × Int), (segs ts).length = ts.length
  | [] => rfl
  | [_] => rfl
  | t :: u :: r => by rw [segs, List.length_cons, segs_len (u :: r)]; rfl
theorem segs_get : ∀ {ts : List (Int × Int)} {k : Nat} {t : Int × Int}, ts[k]? = some t → ∃ e, (ends ts)[k]? = some e ∧ (segs ts)[k]? = some (t.1, e, t.2)
  | [], _, _, h => by simp at h
  | [u], k, t, h => by
    cases k with
    | zero => simp at h; subst h; exact ⟨144000000, rfl, rfl⟩
    | succ k => simp at h
  | u :: v :: r, k, t, h => by
    cases k with
    | zero => simp at h; subst h; exact ⟨v.1, rfl, rfl⟩
    | succ k =>
      obtain ⟨e, h1, h2⟩ := segs_get (ts := v :: r) (k := k) (by simpa using h)
      refine ⟨e, ?_, by rw [segs]; simpa using h2⟩
      cases k with
      | zero => simpa [ends] using h1
      | succ k => simpa [ends] using h1
end G.C

namespace G
open PySem L2 C
local macro_rules
  | `(tactic| simp_arith only [$xs,*]) => `(tactic| simp -implicitDefEqProofs (disch := first | assumption | omega | (simp only [List.length_cons, List.length_nil, List.length_append, List.length_map, List.length_set, List.length_take, List.length_drop, List.length_reverse, rangeD_len, zipD_len, enumD_len] <;> omega)) only [x_ok, at0, at1, at2, at3, at4, at5, x_dict, k_dict, x_pairsN, x_pairsC, k_p1, k_p2, k_p3i, k_p3s, cut_ns, cut_sn, cut_ss, sl_L, sl_F, sl_T, sl_S, x_exc, slotV_v, slotO_v, slotO_o, x_var, x_own, x_c, x_bin, k_bin1, k_bin2, x_neg, k_neg, x_tup, k_tup, x_lst, k_lst, x_nCat, k_cat1, k_cat2, x_nRep, k_rep1, k_rep2, x_frz, k_frz, x_nil, x_cons, k_cons1, k_cons2, x_val, k_val, tr_bl, tr_non, tr_int, tr_lst, tr_tup, tr_frl, tr_str, x_and, x_or, x_not, k_and, k_or, k_not, x_tT, x_ifE, k_ifE, x_andV, x_orV, x_notV, k_andV, k_orV, k_notV, x_chain, k_ch1, k_ch2, k_ch3, x_call, x_callN, k_call, x_opt, k_some, x_isi, k_isi, x_oNone, x_oSome, k_oSome, x_nSl, k_nsl1, k_nsl2, k_nsl3L, k_nsl3F, x_sl, k_sl1, k_sl2, k_sl3, x_rev, k_rev, k_revT, x_fn, k_fn, x_fnB, k_fnB, x_tStill, k_stB, x_eStill, envB_t, envB_f, envB_n, envB_e, frzB_u, frzB_o, frzB_v, frzB_i, frzB_b, frzB_s, frzB_non, frzB_t, frzB_l, k_nolB, k_nolI, k_nolS, k_nolN, x_seq, k_seqL, k_seqT, k_seqF, k_seqS, x_rng1, k_rng1, x_rng2, k_rng2a, k_rng2b, x_enum, k_enum, k_enumT, x_zip, k_zipL, k_zipT, k_zipM, k_zipN, x_lc, k_lc, x_sNil, x_sSeq, k_sqn, k_sqr, k_sqb, k_sqc, k_sqx, x_sExpr, k_expr, x_sRet, k_ret, x_sRetN, x_sRetO, k_retO, x_sRetL, k_retL, x_nFn, k_fnN, k_sqo, k_turnO, k_wtO, x_runN, k_runO, k_runOX, x_sBrk, x_sCnt, x_sSet, k_set, x_sOwn, k_own, tg_some, x_sTg, k_tg, gN_ok, gT_t, gTs_n, gTs_c, x_sIf, k_if, x_sFor, k_for, x_sWhile, x_sFrz, frzE_eq, frz_o, frz_v, frz_u, slotL_o, k_mod, x_modE, x_withO, x_sApp, k_appL, k_app, hApp_ok, x_sIns, k_insL, k_ins1, k_ins2, hIns_ok, x_sRevO, k_revO, x_sClrO, k_clrO, x_sExt, k_extL, k_ext, hExt_ok, x_sSetIx, k_setIxL, k_setIx1, k_setIx2, k_putK, x_sPut, k_put1, k_put2, k_put3, x_sPar, k_par, x_sPar3, k_par3, x_run, k_runN, k_runR, k_runX, k_x, q_add, q_sub, q_addBI, q_addIB, q_subBI, q_subIB, p_strB, p_strS, tI_t, tI_f, q_mul, q_rep, q_div, q_mod, q_lt, q_le, q_gt, q_ge, q_eq, q_ne, q_is, q_isn, q_isB, q_isnB, x_idx, k_idx1, k_idx2, q_catL, q_catT, q_catS, isNon_non, isNon_int, isNon_bl, isNon_str, isNon_tup, isNon_lst, p_divmod, p_lenL, p_lenT, p_lenF, p_lenS, p_intB, p_intI, p_max2, p_min2, p_tupL, p_tupT, p_lstL, p_lstT, p_lstF, is_intI, is_intB, is_intS, is_intN, is_intT, is_intL, is_blI, is_blB, is_blS, is_blN, is_blT, is_blL, is_strI, is_strB, is_strS, is_strN, is_strT, is_strL, is_tupI, is_tupB, is_tupS, is_tupN, is_tupT, is_tupL, is_lstI, is_lstB, is_lstS, is_lstN, is_lstT, is_lstL, opIx_lst, opIx_tup, opIx_frl, k_midN, k_midC, k_midB, k_midR, k_midO, k_midX, k_turnN, k_turnC, k_turnB, k_turnR, k_turnX, k_wtN, k_wtC, k_wtB, k_wtR, k_wtX, k_wc, k_le, frzE_eq, turn_eq, turnC_eq, k_le, forL_nil, lcL_nil, startE, decide_eq_true_eq, decide_eq_false_iff_not, decide_true, decide_false, Bool.not_eq_true', Bool.not_eq_eq_eq_not, Bool.not_true, Bool.not_false, Bool.true_eq_false, Bool.false_eq_true, Bool.not_not, Option.bind_some, Option.map_some, List.map_cons, List.map_nil, List.length_cons, List.length_nil, List.cons_append, List.nil_append, List.set_cons_zero, List.set_cons_succ, List.getElem?_cons_zero, List.getElem?_cons_succ, List.length_set, ↓reduceIte, if_true, if_false, ite_self, List.replicate, List.take_succ_cons, List.take_zero, List.drop_succ_cons, List.drop_zero, List.flatten_cons, List.flatten_nil, Int.reduceToNat, List.isEmpty_cons, List.isEmpty_nil, Nat.reduceAdd, Nat.reduceSub, Nat.reduceLT, Nat.reduceLeDiff, Nat.reduceEqDiff, Int.cast_ofNat_Int, not_true_eq_false, not_false_eq_true, Int.reduceAdd, Int.reduceSub, Int.reduceMul, Int.reduceLT, Int.reduceLE, Int.reduceEq, Int.reduceNe, Int.reduceNeg, Int.zero_add, ne_eq, id, wipeE, lcL_nil, eq_self, and_true, true_and, D.int.injEq, D.bl.injEq, ofS_eq, String.reduceEq, $xs,*])
local macro_rules
  | `(tactic| simp_arith! only [$xs,*]) => `(tactic| simp -implicitDefEqProofs (disch := first | assumption | omega | (simp only [okd_i, okd_n, okd_b, okd_s, strOk_of, okd_t, okd_l, okdL_n, okdL_c, Bool.and_true, Bool.and_self, *]; done) | (simp only [List.length_cons, List.length_nil, List.length_append, List.length_map, List.length_set, List.length_take, List.length_drop, List.length_reverse, rangeD_len, zipD_len, enumD_len] <;> omega)) only [x_ok, at0, at1, at2, at3, at4, at5, x_dict, k_dict, x_pairsN, x_pairsC, k_p1, k_p2, k_p3i, k_p3s, cut_ns, cut_sn, cut_ss, sl_L, sl_F, sl_T, sl_S, x_exc, slotV_v, slotO_v, slotO_o, x_var, x_own, x_c, x_bin, k_bin1, k_bin2, x_neg, k_neg, x_tup, k_tup, x_lst, k_lst, x_nCat, k_cat1, k_cat2, x_nRep, k_rep1, k_rep2, x_frz, k_frz, x_nil, x_cons, k_cons1, k_cons2, x_val, k_val, tr_bl, tr_non, tr_int, tr_lst, tr_tup, tr_frl, tr_str, x_and, x_or, x_not, k_and, k_or, k_not, x_tT, x_ifE, k_ifE, x_andV, x_orV, x_notV, k_andV, k_orV, k_notV, x_chain, k_ch1, k_ch2, k_ch3, x_call, x_callN, k_call, x_opt, k_some, x_isi, k_isi, x_oNone, x_oSome, k_oSome, x_nSl, k_nsl1, k_nsl2, k_nsl3L, k_nsl3F, x_sl, k_sl1, k_sl2, k_sl3, x_rev, k_rev, k_revT, x_fn, k_fn, x_fnB, k_fnB, x_tStill, k_stB, x_eStill, envB_t, envB_f, envB_n, envB_e, frzB_u, frzB_o, frzB_v, frzB_i, frzB_b, frzB_s, frzB_non, frzB_t, frzB_l, k_nolB, k_nolI, k_nolS, k_nolN, x_seq, k_seqL, k_seqT, k_seqF, k_seqS, x_rng1, k_rng1, x_rng2, k_rng2a, k_rng2b, x_enum, k_enum, k_enumT, x_zip, k_zipL, k_zipT, k_zipM, k_zipN, x_lc, k_lc, x_sNil, x_sSeq, k_sqn, k_sqr, k_sqb, k_sqc, k_sqx, x_sExpr, k_expr, x_sRet, k_ret, x_sRetN, x_sRetO, k_retO, x_sRetL, k_retL, x_nFn, k_fnN, k_sqo, k_turnO, k_wtO, x_runN, k_runO, k_runOX, x_sBrk, x_sCnt, x_sSet, k_set, x_sOwn, k_own, tg_some, x_sTg, k_tg, gN_ok, gT_t, gTs_n, gTs_c, x_sIf, k_if, x_sFor, k_for, x_sWhile, x_sFrz, frzE_eq, frz_o, frz_v, frz_u, slotL_o, k_mod, x_modE, x_withO, x_sApp, k_appL, k_app, hApp_ok, x_sIns, k_insL, k_ins1, k_ins2, hIns_ok, x_sRevO, k_revO, x_sClrO, k_clrO, x_sExt, k_extL, k_ext, hExt_ok, x_sSetIx, k_setIxL, k_setIx1, k_setIx2, k_putK, x_sPut, k_put1, k_put2, k_put3, x_sPar, k_par, x_sPar3, k_par3, x_run, k_runN, k_runR, k_runX, k_x, q_add, q_sub, q_addBI, q_addIB, q_subBI, q_subIB, p_strB, p_strS, tI_t, tI_f, q_mul, q_rep, q_div, q_mod, q_lt, q_le, q_gt, q_ge, q_eq, q_ne, q_is, q_isn, q_isB, q_isnB, x_idx, k_idx1, k_idx2, q_catL, q_catT, q_catS, isNon_non, isNon_int, isNon_bl, isNon_str, isNon_tup, isNon_lst, p_divmod, p_lenL, p_lenT, p_lenF, p_lenS, p_intB, p_intI, p_max2, p_min2, p_tupL, p_tupT, p_lstL, p_lstT, p_lstF, is_intI, is_intB, is_intS, is_intN, is_intT, is_intL, is_blI, is_blB, is_blS, is_blN, is_blT, is_blL, is_strI, is_strB, is_strS, is_strN, is_strT, is_strL, is_tupI, is_tupB, is_tupS, is_tupN, is_tupT, is_tupL, is_lstI, is_lstB, is_lstS, is_lstN, is_lstT, is_lstL, opIx_lst, opIx_tup, opIx_frl, k_midN, k_midC, k_midB, k_midR, k_midO, k_midX, k_turnN, k_turnC, k_turnB, k_turnR, k_turnX, k_wtN, k_wtC, k_wtB, k_wtR, k_wtX, k_wc, k_le, frzE_eq, turn_eq, turnC_eq, k_le, forL_nil, lcL_nil, startE, decide_eq_true_eq, decide_eq_false_iff_not, decide_true, decide_false, Bool.not_eq_true', Bool.not_eq_eq_eq_not, Bool.not_true, Bool.not_false, Bool.true_eq_false, Bool.false_eq_true, Bool.not_not, Option.bind_some, Option.map_some, List.map_cons, List.map_nil, List.length_cons, List.length_nil, List.cons_append, List.nil_append, List.set_cons_zero, List.set_cons_succ, List.getElem?_cons_zero, List.getElem?_cons_succ, List.length_set, ↓reduceIte, if_true, if_false, ite_self, List.replicate, List.take_succ_cons, List.take_zero, List.drop_succ_cons, List.drop_zero, List.flatten_cons, List.flatten_nil, Int.reduceToNat, List.isEmpty_cons, List.isEmpty_nil, Nat.reduceAdd, Nat.reduceSub, Nat.reduceLT, Nat.reduceLeDiff, Nat.reduceEqDiff, Int.cast_ofNat_Int, not_true_eq_false, not_false_eq_true, Int.reduceAdd, Int.reduceSub, Int.reduceMul, Int.reduceLT, Int.reduceLE, Int.reduceEq, Int.reduceNe, Int.reduceNeg, Int.zero_add, ne_eq, id, wipeE, lcL_nil, eq_self, and_true, true_and, D.int.injEq, D.bl.injEq, ofS_eq, String.reduceEq, q_eqD, q_neD, q_inT, q_inL, q_ninT, q_ninL, beq_self_eq_true, List.any_cons, List.any_nil, Bool.or_false, Bool.false_or, Bool.or_true, Bool.true_or, deq_nb, deq_ni, deq_ns, deq_nt, deq_nl, deq_bn, deq_bs, deq_bt, deq_bl, deq_in, deq_is, deq_it, deq_il, deq_sn, deq_sb, deq_si, deq_st, deq_sl, deq_tn, deq_tb, deq_ti, deq_ts, deq_tl, deq_ln, deq_lb, deq_li, deq_ls, deq_lt, deq_nn, deq_bb, deq_ii, deq_ss, deq_tt, deq_ll, deqL_nn, deqL_cc, deqL_nc, deqL_cn, okd_i, okd_n, okd_b, okd_t, okd_l, okdL_n, okdL_c, Bool.and_true, Bool.true_and, Bool.and_false, Bool.false_and, $xs,*])

def segD (s : Int × Int × Int) : D := .tup [.int s.1, .int s.2.1, .int s.2.2]
theorem s_offset_at {ts : List (Int × Int)} {m : Int} {S : Sto} : M.offset_at [clockD ts, .int m] S = .ok (.int (offAt ts m)) S := by
  refine tri_eq ?_
  simp_arith only [M.offset_at, M.b_offset_at, clockD]
  refine for_inv (fun i env S1 => S1 = S ∧ ∃ f x y, offAt ts m = (ts.drop i).foldl (stepO m) f ∧ env = [.val (.tup (ts.map turnD)), .val (.int m), .val (.int f), x, y]) ⟨rfl, 0, _, _, rfl, rfl⟩ ?_ ?_
  · rintro i d env S1 e ⟨rfl, f, x, y, hf, rfl⟩
    rw [List.getElem?_map] at e
    obtain ⟨t, ht, rfl⟩ := Option.map_eq_some_iff.mp e
    rw [drop_cons ht, List.foldl_cons] at hf
    by_cases h : t.1 ≤ m
    · rw [show stepO m f t = t.2 from if_pos h] at hf
      simp_arith only [turnD, h]
      exact ⟨_, _, _, hf, rfl⟩
    · rw [show stepO m f t = f from if_neg h] at hf
      simp_arith only [turnD, h]
      exact ⟨_, _, _, hf, rfl⟩
  · rintro env S1 ⟨rfl, f, x, y, hf, rfl⟩
    rw [List.length_map, List.drop_eq_nil_of_le (Nat.le_refl _), List.foldl_nil] at hf
    simp_arith only [hf]
theorem s_local {ts : List (Int × Int)} {m : Int} {S : Sto} : M.local [clockD ts, .int m] S = .ok (.int (loc ts m)) S := by
  refine tri_eq ?_
  simp_arith only [M.local, M.b_local, s_offset_at]
  rfl
theorem s_stretches {ts : List (Int × Int)} {S : Sto} (hl : ts.length ≤ 1000) : M.stretches [clockD ts] S = .ok (.lst ((segs ts).map segD)) S := by
  refine tri_eq ?_
  simp_arith only [M.stretches, M.b_stretches, clockD, k_LAST_MOMENT]
  refine lc_map (fun d => match d with | .tup (a :: _) => a | _ => .non) ?_ ?_
  · intro d hd
    obtain ⟨t, _, rfl⟩ := List.mem_map.mp (List.mem_of_mem_drop hd)
    simp_arith only [turnD]
  have he : (List.map (fun d => match d with | D.tup (a :: _) => a | _ => D.non) (List.drop 1 (ts.map turnD))) ++ [D.int 144000000] = (ends ts).map D.int := by
    unfold ends
    rw [List.map_append, ← List.map_drop, List.map_map, List.map_map]
    rfl
  simp_arith only []
  rw [he]
  refine lc_map (fun d => match d with
    | .int k => (match ts[k.toNat]?, (ends ts)[k.toNat]? with
      | some t, some e => segD (t.1, e, t.2)
      | _, _ => .non)
    | _ => .non) ?_ ?_
  · intro d hd
    obtain ⟨k, hk⟩ := List.mem_iff_getElem?.mp hd
    obtain ⟨rfl, h2⟩ := rangeD_get hk
    rw [List.length_map] at h2
    have hk : k < ts.length := by omega
    have ht : ts[k]? = some ts[k] := List.getElem?_eq_getElem hk
    obtain ⟨e, h3, h4⟩ := segs_get ht
    have a1 : atI (ts.map turnD) (k : Int) = some (turnD ts[k]) := by exact atI_nat (by rw [List.getElem?_map, ht]; rfl)
    have a2 : atI ((ends ts).map D.int) (k : Int) = some (.int e) := by exact atI_nat (by rw [List.getElem?_map, h3]; rfl)
    simp_arith only [a1, a2, Int.toNat_natCast, turnD, ht, h3]
    rfl
  simp_arith only []
  congr 1
  apply List.ext_getElem?
  intro k
  rw [List.getElem?_map, List.getElem?_map]
  unfold rangeD
  rw [List.getElem?_map]
  by_cases hk : k < ts.length
  · have ht : ts[k]? = some ts[k] := List.getElem?_eq_getElem hk
    obtain ⟨e, h3, h4⟩ := segs_get ht
    rw [List.getElem?_range (by rw [List.length_map]; omega), h4]
    show some _ = some _
    have a3 : (0 + (k : Int)).toNat = k := by omega
    simp only [a3, ht, h3]
  · rw [List.getElem?_eq_none (by simp; omega), List.getElem?_eq_none (by rw [segs_len]; omega)]
    rfl
theorem s_comes_at {ts : List (Int × Int)} {t : Int} {S : Sto} (hl : ts.length ≤ 1000) : M.comes_at [clockD ts, .int t] S = .ok (.lst ((comes ts t).map D.int)) S := by
  refine tri_eq ?_
  have hs := segs_len ts
  simp_arith only [M.comes_at, M.b_comes_at, s_stretches hl]
  refine lc_pure (fun d => match d with | .tup [.int b, .int e, .int o] => cfits t (b, e, o) | _ => false) (fun d => match d with | .tup [.int b, .int e, .int o] => .int (t - o) | _ => .non) ?_ ?_
  · intro d hd
    obtain ⟨⟨b, e, o⟩, _, rfl⟩ := List.mem_map.mp hd
    by_cases h1 : b ≤ t - o <;> by_cases h2 : t - o < e
    all_goals
      simp_arith only [segD, h1, h2]
      simp [cfits, h1, h2]
  · simp_arith only []
    congr 1
    unfold comes
    rw [List.filter_map, List.map_map, List.map_map]
    rfl
theorem s_how_often {ts : List (Int × Int)} {t : Int} {S : Sto} (hl : ts.length ≤ 1000) : M.how_often [clockD ts, .int t] S = .ok (.int ((comes ts t).length : Nat)) S := by
  refine tri_eq ?_
  simp_arith only [M.how_often, M.b_how_often, s_comes_at hl, List.length_map]
def passed (ts : List (Int × Int)) (t : Int) : List (Int × Int) → Option Int
  | [] => none
  | u :: r => if loc ts (u.1 - 1) < t ∧ t < u.1 + u.2 then some u.1 else passed ts t r
def optD : Option Int → D
  | none => .non
  | some i => .int i
theorem s_passed {ts : List (Int × Int)} {t : Int} {S : Sto} : M.passed [clockD ts, .int t] S = .ok (optD (passed ts t (ts.drop 1))) S := by
  refine tri_eq ?_
  simp_arith only [M.passed, M.b_passed, clockD]
  have hd : List.drop 1 (ts.map turnD) = (ts.drop 1).map turnD := by rw [List.map_drop]
  rw [hd]
  generalize hus : ts.drop 1 = us
  refine for_inv (fun i env S1 => S1 = S ∧ ∃ x y, passed ts t us = passed ts t (us.drop i) ∧ env = [.val (.tup (ts.map turnD)), .val (.int t), x, y]) ⟨rfl, _, _, rfl, rfl⟩ ?_ ?_
  · rintro i d env S1 e ⟨rfl, x, y, hf, rfl⟩
    rw [List.getElem?_map] at e
    obtain ⟨u, hu, rfl⟩ := Option.map_eq_some_iff.mp e
    rw [drop_cons hu, passed] at hf
    have hl := fun m S => s_local (ts := ts) (m := m) (S := S)
    rw [show clockD ts = .tup (ts.map turnD) from rfl] at hl
    by_cases h1 : loc ts (u.1 - 1) < t <;> by_cases h2 : t < u.1 + u.2
    · rw [if_pos ⟨h1, h2⟩] at hf
      simp_arith only [turnD, h1, h2, hl, hf, optD]
    all_goals
      rw [if_neg (by simp [h1, h2])] at hf
      simp_arith only [turnD, h1, h2, hl]
      exact ⟨_, _, hf, rfl⟩
  · rintro env S1 ⟨rfl, x, y, hf, rfl⟩
    rw [List.length_map, List.drop_eq_nil_of_le (Nat.le_refl _), passed] at hf
    simp_arith only [hf, optD]
/-- the least of some -/
def least : List Int → Int
  | [] => 0
  | x :: r => r.foldl (fun m y => if y < m then y else m) x
theorem intsD_map (l : List Int) : intsD (l.map D.int) = some l := by
  induction l with
  | nil => rfl
  | cons a r ih => rw [List.map_cons, intsD, ih]; rfl
theorem p_minL {l : List Int} {S : Sto} (h : l ≠ []) : pMin [.lst (l.map D.int)] S = .ok (.int (least l)) S := by
  show opt _ _ _ = _
  rw [intsD_map]
  cases l with
  | nil => exact absurd rfl h
  | cons a r => rfl
theorem p_maxL {l : List Int} {S : Sto} {m : Int} (h : maxL l = some m) : pMax [.lst (l.map D.int)] S = .ok (.int m) S := by
  show opt _ _ _ = _
  rw [intsD_map]
  simp [h, opt]
theorem least_spec {l : List Int} (h : l ≠ []) : least l ∈ l ∧ ∀ y ∈ l, least l ≤ y := by
  cases l with
  | nil => exact absurd rfl h
  | cons a r => exact minL_spec (l := a :: r) rfl
def momOf (ts : List (Int × Int)) (t : Int) : Option Int := if comes ts t = [] then passed ts t (ts.drop 1) else some (least (comes ts t))
theorem s_moment_of {ts : List (Int × Int)} {t : Int} {S : Sto} (hl : ts.length ≤ 1000) : M.moment_of [clockD ts, .int t] S = .ok (optD (momOf ts t)) S := by
  refine tri_eq ?_
  unfold momOf
  by_cases h : comes ts t = []
  · simp_arith! only [M.moment_of, M.b_moment_of, s_comes_at hl, h, s_passed]
  · have hk : okd 60 (.lst ((comes ts t).map D.int)) = true := by
      rw [okd_l]; exact okdL_of fun d m => by
        obtain ⟨i, _, rfl⟩ := List.mem_map.mp m
        exact okd_i
    have hd : deqL ((comes ts t).map D.int) [] = false := by
      cases hc : comes ts t with
      | nil => exact absurd hc h
      | cons a r => exact deqL_cn
    simp_arith! only [M.moment_of, M.b_moment_of, s_comes_at hl, h, hk, hd, p_minL h, optD]
end G

namespace G
open PySem L2 C
local macro_rules
  | `(tactic| simp_arith only [$xs,*]) => `(tactic| simp -implicitDefEqProofs (disch := first | assumption | omega | (simp only [List.length_cons, List.length_nil, List.length_append, List.length_map, List.length_set, List.length_take, List.length_drop, List.length_reverse, rangeD_len, zipD_len, enumD_len] <;> omega)) only [x_ok, at0, at1, at2, at3, at4, at5, x_dict, k_dict, x_pairsN, x_pairsC, k_p1, k_p2, k_p3i, k_p3s, cut_ns, cut_sn, cut_ss, sl_L, sl_F, sl_T, sl_S, x_exc, slotV_v, slotO_v, slotO_o, x_var, x_own, x_c, x_bin, k_bin1, k_bin2, x_neg, k_neg, x_tup, k_tup, x_lst, k_lst, x_nCat, k_cat1, k_cat2, x_nRep, k_rep1, k_rep2, x_frz, k_frz, x_nil, x_cons, k_cons1, k_cons2, x_val, k_val, tr_bl, tr_non, tr_int, tr_lst, tr_tup, tr_frl, tr_str, x_and, x_or, x_not, k_and, k_or, k_not, x_tT, x_ifE, k_ifE, x_andV, x_orV, x_notV, k_andV, k_orV, k_notV, x_chain, k_ch1, k_ch2, k_ch3, x_call, x_callN, k_call, x_opt, k_some, x_isi, k_isi, x_oNone, x_oSome, k_oSome, x_nSl, k_nsl1, k_nsl2, k_nsl3L, k_nsl3F, x_sl, k_sl1, k_sl2, k_sl3, x_rev, k_rev, k_revT, x_fn, k_fn, x_fnB, k_fnB, x_tStill, k_stB, x_eStill, envB_t, envB_f, envB_n, envB_e, frzB_u, frzB_o, frzB_v, frzB_i, frzB_b, frzB_s, frzB_non, frzB_t, frzB_l, k_nolB, k_nolI, k_nolS, k_nolN, x_seq, k_seqL, k_seqT, k_seqF, k_seqS, x_rng1, k_rng1, x_rng2, k_rng2a, k_rng2b, x_enum, k_enum, k_enumT, x_zip, k_zipL, k_zipT, k_zipM, k_zipN, x_lc, k_lc, x_sNil, x_sSeq, k_sqn, k_sqr, k_sqb, k_sqc, k_sqx, x_sExpr, k_expr, x_sRet, k_ret, x_sRetN, x_sRetO, k_retO, x_sRetL, k_retL, x_nFn, k_fnN, k_sqo, k_turnO, k_wtO, x_runN, k_runO, k_runOX, x_sBrk, x_sCnt, x_sSet, k_set, x_sOwn, k_own, tg_some, x_sTg, k_tg, gN_ok, gT_t, gTs_n, gTs_c, x_sIf, k_if, x_sFor, k_for, x_sWhile, x_sFrz, frzE_eq, frz_o, frz_v, frz_u, slotL_o, k_mod, x_modE, x_withO, x_sApp, k_appL, k_app, hApp_ok, x_sIns, k_insL, k_ins1, k_ins2, hIns_ok, x_sRevO, k_revO, x_sClrO, k_clrO, x_sExt, k_extL, k_ext, hExt_ok, x_sSetIx, k_setIxL, k_setIx1, k_setIx2, k_putK, x_sPut, k_put1, k_put2, k_put3, x_sPar, k_par, x_sPar3, k_par3, x_run, k_runN, k_runR, k_runX, k_x, q_add, q_sub, q_addBI, q_addIB, q_subBI, q_subIB, p_strB, p_strS, tI_t, tI_f, q_mul, q_rep, q_div, q_mod, q_lt, q_le, q_gt, q_ge, q_eq, q_ne, q_is, q_isn, q_isB, q_isnB, x_idx, k_idx1, k_idx2, q_catL, q_catT, q_catS, isNon_non, isNon_int, isNon_bl, isNon_str, isNon_tup, isNon_lst, p_divmod, p_lenL, p_lenT, p_lenF, p_lenS, p_intB, p_intI, p_max2, p_min2, p_tupL, p_tupT, p_lstL, p_lstT, p_lstF, is_intI, is_intB, is_intS, is_intN, is_intT, is_intL, is_blI, is_blB, is_blS, is_blN, is_blT, is_blL, is_strI, is_strB, is_strS, is_strN, is_strT, is_strL, is_tupI, is_tupB, is_tupS, is_tupN, is_tupT, is_tupL, is_lstI, is_lstB, is_lstS, is_lstN, is_lstT, is_lstL, opIx_lst, opIx_tup, opIx_frl, k_midN, k_midC, k_midB, k_midR, k_midO, k_midX, k_turnN, k_turnC, k_turnB, k_turnR, k_turnX, k_wtN, k_wtC, k_wtB, k_wtR, k_wtX, k_wc, k_le, frzE_eq, turn_eq, turnC_eq, k_le, forL_nil, lcL_nil, startE, decide_eq_true_eq, decide_eq_false_iff_not, decide_true, decide_false, Bool.not_eq_true', Bool.not_eq_eq_eq_not, Bool.not_true, Bool.not_false, Bool.true_eq_false, Bool.false_eq_true, Bool.not_not, Option.bind_some, Option.map_some, List.map_cons, List.map_nil, List.length_cons, List.length_nil, List.cons_append, List.nil_append, List.set_cons_zero, List.set_cons_succ, List.getElem?_cons_zero, List.getElem?_cons_succ, List.length_set, ↓reduceIte, if_true, if_false, ite_self, List.replicate, List.take_succ_cons, List.take_zero, List.drop_succ_cons, List.drop_zero, List.flatten_cons, List.flatten_nil, Int.reduceToNat, List.isEmpty_cons, List.isEmpty_nil, Nat.reduceAdd, Nat.reduceSub, Nat.reduceLT, Nat.reduceLeDiff, Nat.reduceEqDiff, Int.cast_ofNat_Int, not_true_eq_false, not_false_eq_true, Int.reduceAdd, Int.reduceSub, Int.reduceMul, Int.reduceLT, Int.reduceLE, Int.reduceEq, Int.reduceNe, Int.reduceNeg, Int.zero_add, ne_eq, id, wipeE, lcL_nil, eq_self, and_true, true_and, D.int.injEq, D.bl.injEq, ofS_eq, String.reduceEq, $xs,*])
local macro_rules
  | `(tactic| simp_arith! only [$xs,*]) => `(tactic| simp -implicitDefEqProofs (disch := first | assumption | omega | (simp only [okd_i, okd_n, okd_b, okd_s, strOk_of, okd_t, okd_l, okdL_n, okdL_c, Bool.and_true, Bool.and_self, *]; done) | (simp only [List.length_cons, List.length_nil, List.length_append, List.length_map, List.length_set, List.length_take, List.length_drop, List.length_reverse, rangeD_len, zipD_len, enumD_len] <;> omega)) only [x_ok, at0, at1, at2, at3, at4, at5, x_dict, k_dict, x_pairsN, x_pairsC, k_p1, k_p2, k_p3i, k_p3s, cut_ns, cut_sn, cut_ss, sl_L, sl_F, sl_T, sl_S, x_exc, slotV_v, slotO_v, slotO_o, x_var, x_own, x_c, x_bin, k_bin1, k_bin2, x_neg, k_neg, x_tup, k_tup, x_lst, k_lst, x_nCat, k_cat1, k_cat2, x_nRep, k_rep1, k_rep2, x_frz, k_frz, x_nil, x_cons, k_cons1, k_cons2, x_val, k_val, tr_bl, tr_non, tr_int, tr_lst, tr_tup, tr_frl, tr_str, x_and, x_or, x_not, k_and, k_or, k_not, x_tT, x_ifE, k_ifE, x_andV, x_orV, x_notV, k_andV, k_orV, k_notV, x_chain, k_ch1, k_ch2, k_ch3, x_call, x_callN, k_call, x_opt, k_some, x_isi, k_isi, x_oNone, x_oSome, k_oSome, x_nSl, k_nsl1, k_nsl2, k_nsl3L, k_nsl3F, x_sl, k_sl1, k_sl2, k_sl3, x_rev, k_rev, k_revT, x_fn, k_fn, x_fnB, k_fnB, x_tStill, k_stB, x_eStill, envB_t, envB_f, envB_n, envB_e, frzB_u, frzB_o, frzB_v, frzB_i, frzB_b, frzB_s, frzB_non, frzB_t, frzB_l, k_nolB, k_nolI, k_nolS, k_nolN, x_seq, k_seqL, k_seqT, k_seqF, k_seqS, x_rng1, k_rng1, x_rng2, k_rng2a, k_rng2b, x_enum, k_enum, k_enumT, x_zip, k_zipL, k_zipT, k_zipM, k_zipN, x_lc, k_lc, x_sNil, x_sSeq, k_sqn, k_sqr, k_sqb, k_sqc, k_sqx, x_sExpr, k_expr, x_sRet, k_ret, x_sRetN, x_sRetO, k_retO, x_sRetL, k_retL, x_nFn, k_fnN, k_sqo, k_turnO, k_wtO, x_runN, k_runO, k_runOX, x_sBrk, x_sCnt, x_sSet, k_set, x_sOwn, k_own, tg_some, x_sTg, k_tg, gN_ok, gT_t, gTs_n, gTs_c, x_sIf, k_if, x_sFor, k_for, x_sWhile, x_sFrz, frzE_eq, frz_o, frz_v, frz_u, slotL_o, k_mod, x_modE, x_withO, x_sApp, k_appL, k_app, hApp_ok, x_sIns, k_insL, k_ins1, k_ins2, hIns_ok, x_sRevO, k_revO, x_sClrO, k_clrO, x_sExt, k_extL, k_ext, hExt_ok, x_sSetIx, k_setIxL, k_setIx1, k_setIx2, k_putK, x_sPut, k_put1, k_put2, k_put3, x_sPar, k_par, x_sPar3, k_par3, x_run, k_runN, k_runR, k_runX, k_x, q_add, q_sub, q_addBI, q_addIB, q_subBI, q_subIB, p_strB, p_strS, tI_t, tI_f, q_mul, q_rep, q_div, q_mod, q_lt, q_le, q_gt, q_ge, q_eq, q_ne, q_is, q_isn, q_isB, q_isnB, x_idx, k_idx1, k_idx2, q_catL, q_catT, q_catS, isNon_non, isNon_int, isNon_bl, isNon_str, isNon_tup, isNon_lst, p_divmod, p_lenL, p_lenT, p_lenF, p_lenS, p_intB, p_intI, p_max2, p_min2, p_tupL, p_tupT, p_lstL, p_lstT, p_lstF, is_intI, is_intB, is_intS, is_intN, is_intT, is_intL, is_blI, is_blB, is_blS, is_blN, is_blT, is_blL, is_strI, is_strB, is_strS, is_strN, is_strT, is_strL, is_tupI, is_tupB, is_tupS, is_tupN, is_tupT, is_tupL, is_lstI, is_lstB, is_lstS, is_lstN, is_lstT, is_lstL, opIx_lst, opIx_tup, opIx_frl, k_midN, k_midC, k_midB, k_midR, k_midO, k_midX, k_turnN, k_turnC, k_turnB, k_turnR, k_turnX, k_wtN, k_wtC, k_wtB, k_wtR, k_wtX, k_wc, k_le, frzE_eq, turn_eq, turnC_eq, k_le, forL_nil, lcL_nil, startE, decide_eq_true_eq, decide_eq_false_iff_not, decide_true, decide_false, Bool.not_eq_true', Bool.not_eq_eq_eq_not, Bool.not_true, Bool.not_false, Bool.true_eq_false, Bool.false_eq_true, Bool.not_not, Option.bind_some, Option.map_some, List.map_cons, List.map_nil, List.length_cons, List.length_nil, List.cons_append, List.nil_append, List.set_cons_zero, List.set_cons_succ, List.getElem?_cons_zero, List.getElem?_cons_succ, List.length_set, ↓reduceIte, if_true, if_false, ite_self, List.replicate, List.take_succ_cons, List.take_zero, List.drop_succ_cons, List.drop_zero, List.flatten_cons, List.flatten_nil, Int.reduceToNat, List.isEmpty_cons, List.isEmpty_nil, Nat.reduceAdd, Nat.reduceSub, Nat.reduceLT, Nat.reduceLeDiff, Nat.reduceEqDiff, Int.cast_ofNat_Int, not_true_eq_false, not_false_eq_true, Int.reduceAdd, Int.reduceSub, Int.reduceMul, Int.reduceLT, Int.reduceLE, Int.reduceEq, Int.reduceNe, Int.reduceNeg, Int.zero_add, ne_eq, id, wipeE, lcL_nil, eq_self, and_true, true_and, D.int.injEq, D.bl.injEq, ofS_eq, String.reduceEq, q_eqD, q_neD, q_inT, q_inL, q_ninT, q_ninL, beq_self_eq_true, List.any_cons, List.any_nil, Bool.or_false, Bool.false_or, Bool.or_true, Bool.true_or, deq_nb, deq_ni, deq_ns, deq_nt, deq_nl, deq_bn, deq_bs, deq_bt, deq_bl, deq_in, deq_is, deq_it, deq_il, deq_sn, deq_sb, deq_si, deq_st, deq_sl, deq_tn, deq_tb, deq_ti, deq_ts, deq_tl, deq_ln, deq_lb, deq_li, deq_ls, deq_lt, deq_nn, deq_bb, deq_ii, deq_ss, deq_tt, deq_ll, deqL_nn, deqL_cc, deqL_nc, deqL_cn, okd_i, okd_n, okd_b, okd_t, okd_l, okdL_n, okdL_c, Bool.and_true, Bool.true_and, Bool.and_false, Bool.false_and, $xs,*])

theorem passed_some {ts us : List (Int × Int)} {t : Int} (h : ∃ u ∈ us, loc ts (u.1 - 1) < t ∧ t < u.1 + u.2) : ∃ u ∈ us, passed ts t us = some u.1 ∧ loc ts (u.1 - 1) < t ∧ t < u.1 + u.2 := by
  induction us with
  | nil => obtain ⟨u, h, _⟩ := h; cases h
  | cons a r ih =>
    rw [passed]
    by_cases q : loc ts (a.1 - 1) < t ∧ t < a.1 + a.2
    · rw [if_pos q]
      exact ⟨a, List.mem_cons_self, rfl, q⟩
    · rw [if_neg q]
      obtain ⟨u, hu, h1, h2⟩ := h
      rcases List.mem_cons.mp hu with rfl | hu
      · exact absurd ⟨h1, h2⟩ q
      · obtain ⟨v, hv, p⟩ := ih ⟨u, hu, h1, h2⟩
        exact ⟨v, List.mem_cons_of_mem _ hv, p⟩
/-- the moment of a local time, and what holds of it -/
theorem mom_ok {ts : List (Int × Int)} {t : Int} (h : Clk ts) (t0 : 841 ≤ t) (t1 : t ≤ 143999158) : ∃ x, momOf ts t = some x ∧ 0 ≤ x ∧ x < 144000000 ∧
    ((comes ts t ≠ [] ∧ x = least (comes ts t) ∧ loc ts x = t ∧ ∀ y, 0 ≤ y → y < 144000000 → loc ts y = t → x ≤ y) ∨ (comes ts t = [] ∧ passed ts t (ts.drop 1) = some x ∧ loc ts (x - 1) < t ∧ t < loc ts x)) := by
  obtain ⟨o0, r, h0⟩ := h.first
  unfold momOf
  by_cases hc : comes ts t = []
  · rw [if_pos hc]
    obtain ⟨u, hu, p1, p2, p3⟩ := passed_some (over_it h.rise h0 t0 t1 hc)
    have hm : u ∈ ts := by rw [h0]; exact List.mem_cons_of_mem _ hu
    have hd : ts.drop 1 = r := by rw [h0]; rfl
    have hl : loc ts u.1 = u.1 + u.2 := by unfold loc offAt; rw [fold_at h.rise hm]
    have hb : ∀ {us : List (Int × Int)} {a : Int}, Rise a us → u ∈ us → a < u.1 ∧ u.1 ≤ 143999999 := by
      intro us
      induction us with
      | nil => intro a _ h; cases h
      | cons v us ih =>
        intro a ⟨q1, q2, q3, q4, q5⟩ h
        rcases List.mem_cons.mp h with rfl | h
        · exact ⟨q1, q2⟩
        · have := ih q5 h; omega
    have := hb h.rise hm
    rw [hd]
    exact ⟨u.1, p1, by omega, by omega, .inr ⟨hc, p1, p2, by rw [hl]; exact p3⟩⟩
  · rw [if_neg hc]
    obtain ⟨l1, l2⟩ := least_spec hc
    have := (mem_comes h.rise h0).mp l1
    exact ⟨_, rfl, this.1, this.2.1, .inl ⟨hc, rfl, this.2.2, fun y a b c => l2 y ((mem_comes h.rise h0).mpr ⟨a, b, c⟩)⟩⟩
set_option maxHeartbeats 1000000 in
theorem s_law_k08 {ns : List Int} (hns : ns.length ≤ 63) : ∃ S, M.law_v8 [scr ns] [] = .ok (.bl true) S := by
  have h : Tri (M.law_v8 [scr ns] []) fun d _ => d = .bl true := by
    simp_arith only [M.law_v8, M.b_law_v8]
    refine (s_tape hns).to ?_
    rintro _ S ⟨rfl, hT⟩
    simp_arith only []
    refine rng_inv (fun i env S => ∃ n : Nat, (n : Int) ≤ i * 10000 ∧ Tp n [] S ∧ ∃ a b c d e f g h j, env = [.val (scr ns), .val (.obj 0), a, b, c, d, e, f, g, h, j]) ⟨0, by omega, hT, _, _, _, _, _, _, _, _, _, rfl⟩ ?_ (by omega) ?_
    · rintro i env S i0 i1 ⟨n, hn, hT, _, _, _, _, _, _, _, _, _, rfl⟩
      simp_arith only []
      refine (dr hT (by omega) (by omega) (by omega)).to ?_
      rintro _ _ ⟨a, rfl, a0, a1, hT⟩
      simp_arith only []
      refine pickI 2 40 (by omega) (by simp only [List.length_cons, List.length_nil]; omega) (by repeat' (first | exact all_nil | refine all_cons ⟨_, rfl, by omega, by omega⟩ ?_)) fun m m0 m1 => ?_
      simp_arith only []
      refine (s_clock3 hT (by omega) (by omega) (by omega)).to ?_
      rintro _ S' ⟨ts, rfl, hC, hl, hT⟩
      have hlen := hC.len
      have hpos : 0 < (ts.length : Int) := by
        obtain ⟨o, r, e⟩ := hC.first
        rw [e]; simp only [List.length_cons]; omega
      simp_arith only []
      refine (dr hT (by omega) (by rw [List.length_map]; omega) (by rw [List.length_map]; omega)).to ?_
      rintro _ _ ⟨b, rfl, b0, b1, hT⟩
      rw [List.length_map] at b1
      obtain ⟨mm, oo, e1, hmm⟩ := at_turn b0 b1
      simp_arith only [e1]
      refine (dr hT (by omega) (by omega) (by omega)).to ?_
      rintro _ _ ⟨c, rfl, c0, c1, hT⟩
      simp_arith only []
      refine (dr hT (by omega) (by omega) (by omega)).to ?_
      rintro _ _ ⟨d, rfl, d0, d1, hT⟩
      simp_arith only []
      refine (dr hT (by omega) (by omega) (by omega)).to ?_
      rintro _ _ ⟨e, rfl, e0, e1, hT⟩
      simp_arith only []
      refine pick (fun d => ∃ v, d = .int v) (by omega) (by simp only [List.length_cons, List.length_nil]; omega) (all_cons ⟨_, rfl⟩ (all_cons ⟨_, rfl⟩ all_nil)) ?_
      rintro _ ⟨v, rfl⟩
      simp_arith only []
      obtain ⟨x, hx, x0, x1⟩ : ∃ x, (if (if 4600 < v then v else 4600) < 143995000 then (if 4600 < v then v else 4600) else 143995000) = x ∧ 4600 ≤ x ∧ x ≤ 143995000 := ⟨_, rfl, by (repeat' split) <;> omega, by (repeat' split) <;> omega⟩
      rw [hx]
      have hb := loc_bound (m := x) hC.rise
      obtain ⟨y, hy, y0, y1, hy2⟩ := mom_ok (t := loc ts x) hC (by omega) (by omega)
      obtain ⟨o0, r, hf⟩ := hC.first
      have hmem : x ∈ comes ts (loc ts x) := (mem_comes hC.rise hf).mpr ⟨by omega, by omega, rfl⟩
      have hne : comes ts (loc ts x) ≠ [] := fun z => by rw [z] at hmem; cases hmem
      have hy3 : loc ts y = loc ts x ∧ y ≤ x := by
        rcases hy2 with ⟨_, _, p, q⟩ | ⟨p, _⟩
        · exact ⟨p, q x (by omega) (by omega) rfl⟩
        · exact absurd p hne
      have hlen2 : ts.length ≤ 1000 := by omega
      have hn1 : 1 ≤ (comes ts (loc ts x)).length := by
        cases hq : comes ts (loc ts x) with
        | nil => exact absurd hq hne
        | cons a r => simp
      have w1 : ¬ x < y := by omega
      have w2 : ¬ (((comes ts (loc ts x)).length : Nat) : Int) < 1 := by omega
      have e2 : atI (ts.map turnD) 0 = some (.tup [.int 0, .int o0]) := by rw [hf]; exact at0
      simp_arith only [s_local, s_moment_of hlen2, s_how_often hlen2, hy, optD, w1, w2, hy3.1, e2, List.length_map]
      have h1c : ts.length = 1 → y = x ∧ (comes ts (loc ts x)).length = 1 ∧ x + o0 = loc ts x := fun q => by
        have hr : r = [] := by rw [hf] at q; simpa using q
        subst hr
        have l1 : ∀ z, 0 ≤ z → loc ts z = z + o0 := fun z hz => by
          rw [hf]; unfold loc offAt
          rw [List.foldl_cons, List.foldl_nil, show stepO z 0 (0, o0) = o0 from if_pos hz]
        have := l1 x (by omega)
        have := l1 y (by omega)
        refine ⟨by omega, ?_, by omega⟩
        rw [hf] at hn1 ⊢
        have h2 : (comes [(0, o0)] (loc [(0, o0)] x)).length ≤ 1 := by
          unfold comes
          rw [List.length_map]
          exact Nat.le_trans (List.length_filter_le _ _) (by simp [segs])
        omega
      have fin : ∀ S, Tp (n + 20 + 7000 + 20 + 20 + 20 + 20 + 20) [] S → ∃ k : Nat, (k : Int) ≤ (i + 1) * 10000 ∧ Tp k [] S := fun S h => ⟨_, by push_cast; omega, h⟩
      have hlo : 3000 ≤ loc ts x ∧ loc ts x ≤ 143996000 := by omega
      clear hx hb hy hy2 hy3 hmem hne hn1 w1 w2 e2 hmm
      generalize hL : (comes ts (loc ts x)).length = L at *
      generalize loc ts x = t at *
      by_cases q1 : ts.length = 1
      case pos =>
        obtain ⟨g1, g2, g3⟩ := h1c q1
        have q1' : (ts.length : Int) = 1 := by omega
        clear h1c
        subst g1 g2
        rw [g3]
        simp_arith! only [q1', Int.natCast_one]
        clear hL q1 q1'
        try clear g3
        refine (dr hT (by omega) (by omega) (by omega)).to ?_
        rintro _ _ ⟨k, rfl, k0, k1, hT⟩
        obtain ⟨z, hz, z0, z1, hz2⟩ := mom_ok (t := t + k - 850) hC (by omega) (by omega)
        obtain ⟨k', hk1, hk2⟩ := fin _ hT
        clear fin hT hn hlen hpos hl hf e1 e0 b0 b1 c0 c1 d0 d1 a0 a1 m0 m1 i0 i1
        rcases hz2 with ⟨p1, _, p3, _⟩ | ⟨p1, _, p3, p4⟩
        · have hq : 0 < (comes ts (t + k - 850)).length := List.length_pos_iff.mpr p1
          have wlen : ¬ (((comes ts (t + k - 850)).length : Nat) : Int) = 0 := by omega
          have wpos : 0 < (((comes ts (t + k - 850)).length : Nat) : Int) := by omega
          clear hq
          simp_arith only [s_moment_of hlen2, hz, optD, s_how_often hlen2, wlen, wpos, s_local, p3]
          exact ⟨k', hk1, hk2, _, _, _, _, _, _, _, _, _, rfl⟩
        · have wlen : (((comes ts (t + k - 850)).length : Nat) : Int) = 0 := by rw [p1]; rfl
          have wpos : ¬ 0 < (((comes ts (t + k - 850)).length : Nat) : Int) := by omega
          simp_arith only [s_moment_of hlen2, hz, optD, s_how_often hlen2, wlen, wpos, s_local, p3, p4]
          exact ⟨k', hk1, hk2, _, _, _, _, _, _, _, _, _, rfl⟩
      case neg =>
        have q1' : ¬ (ts.length : Int) = 1 := by omega
        clear h1c
        simp_arith! only [q1']
        clear hL q1 q1'
        try clear g3
        refine (dr hT (by omega) (by omega) (by omega)).to ?_
        rintro _ _ ⟨k, rfl, k0, k1, hT⟩
        obtain ⟨z, hz, z0, z1, hz2⟩ := mom_ok (t := t + k - 850) hC (by omega) (by omega)
        obtain ⟨k', hk1, hk2⟩ := fin _ hT
        clear fin hT hn hlen hpos hl hf e1 e0 b0 b1 c0 c1 d0 d1 a0 a1 m0 m1 i0 i1
        rcases hz2 with ⟨p1, _, p3, _⟩ | ⟨p1, _, p3, p4⟩
        · have hq : 0 < (comes ts (t + k - 850)).length := List.length_pos_iff.mpr p1
          have wlen : ¬ (((comes ts (t + k - 850)).length : Nat) : Int) = 0 := by omega
          have wpos : 0 < (((comes ts (t + k - 850)).length : Nat) : Int) := by omega
          clear hq
          simp_arith only [s_moment_of hlen2, hz, optD, s_how_often hlen2, wlen, wpos, s_local, p3]
          exact ⟨k', hk1, hk2, _, _, _, _, _, _, _, _, _, rfl⟩
        · have wlen : (((comes ts (t + k - 850)).length : Nat) : Int) = 0 := by rw [p1]; rfl
          have wpos : ¬ 0 < (((comes ts (t + k - 850)).length : Nat) : Int) := by omega
          simp_arith only [s_moment_of hlen2, hz, optD, s_how_often hlen2, wlen, wpos, s_local, p3, p4]
          exact ⟨k', hk1, hk2, _, _, _, _, _, _, _, _, _, rfl⟩
    · rintro env S ⟨n, hn, hT, _, _, _, _, _, _, _, _, _, rfl⟩
      simp_arith only []
  obtain ⟨_, S, e, rfl⟩ := h.eq
  exact ⟨S, e⟩
end G

namespace G.C
def leap (y : Int) : Prop := y % 4 = 0 ∧ (y % 100 ≠ 0 ∨ y % 400 = 0)
instance (y : Int) : Decidable (leap y) := by unfold leap; infer_instance
def ahead (y : Int) : Int := 365 * (y - 2001) + ((y - 1) / 4 - (y - 1) / 100 + (y - 1) / 400 - 485)
def lenL : List Int := [31, 28, 31, 30, 31, 30, 31, 31, 30, 31, 30, 31]
def ml (n : Int) : Int := if n % 12 = 1 ∧ leap (2001 + n / 12) then 29 else if n % 12 = 1 then 28 else if n % 12 = 3 ∨ n % 12 = 5 ∨ n % 12 = 8 ∨ n % 12 = 10 then 30 else 31
def cum (k : Int) : Int := if k = 0 then 0 else if k = 1 then 31 else if k = 2 then 59 else if k = 3 then 90 else if k = 4 then 120 else if k = 5 then 151 else if k = 6 then 181 else if k = 7 then 212 else if k = 8 then 243 else if k = 9 then 273 else if k = 10 then 304 else 334
def FO (n : Int) : Int := ahead (2001 + n / 12) + cum (n % 12) + (if 2 ≤ n % 12 ∧ leap (2001 + n / 12) then 1 else 0)
theorem ahead_step (y : Int) : ahead (y + 1) = ahead y + 365 + (if leap y then 1 else 0) := by
  by_cases h : leap y
  · rw [if_pos h]
    unfold ahead
    unfold leap at h
    omega
  · rw [if_neg h]
    unfold ahead
    unfold leap at h
    omega
theorem FO_step (n : Int) : FO (n + 1) = FO n + ml n := by
  have hn : n = 12 * (n / 12) + n % 12 := by omega
  have h0 : 0 ≤ n % 12 := by omega
  have h1 : n % 12 < 12 := by omega
  by_cases h : n % 12 = 11
  · have e1 : (n + 1) / 12 = n / 12 + 1 := by omega
    have e2 : (n + 1) % 12 = 0 := by omega
    unfold FO ml
    rw [e1, e2, h]
    have := ahead_step (2001 + n / 12)
    have e3 : 2001 + (n / 12 + 1) = 2001 + n / 12 + 1 := by omega
    rw [e3, this]
    simp [cum]
    split <;> omega
  · have e1 : (n + 1) / 12 = n / 12 := by omega
    have e2 : (n + 1) % 12 = n % 12 + 1 := by omega
    unfold FO ml
    rw [e1, e2]
    generalize 2001 + n / 12 = y
    generalize n % 12 = k at *
    have : k = 0 ∨ k = 1 ∨ k = 2 ∨ k = 3 ∨ k = 4 ∨ k = 5 ∨ k = 6 ∨ k = 7 ∨ k = 8 ∨ k = 9 ∨ k = 10 := by omega
    rcases this with rfl | rfl | rfl | rfl | rfl | rfl | rfl | rfl | rfl | rfl | rfl <;> by_cases hl : leap y <;> simp [cum, hl] <;> omega
theorem ml_pos (n : Int) : 28 ≤ ml n ∧ ml n ≤ 31 := by
  unfold ml
  (repeat' split) <;> omega
theorem FO_le {a b : Int} (h : a ≤ b) : FO a + 28 * (b - a) ≤ FO b := by
  obtain ⟨k, rfl⟩ : ∃ k : Nat, b = a + k := ⟨(b - a).toNat, by omega⟩
  clear h
  induction k with
  | zero => simp
  | succ k ih =>
    have := FO_step (a + k)
    have := ml_pos (a + k)
    have e : a + ((k + 1 : Nat) : Int) = a + (k : Nat) + 1 := by omega
    rw [e]
    omega
theorem FO_le31 {a b : Int} (h : a ≤ b) : FO b ≤ FO a + 31 * (b - a) := by
  obtain ⟨k, rfl⟩ : ∃ k : Nat, b = a + k := ⟨(b - a).toNat, by omega⟩
  clear h
  induction k with
  | zero => simp
  | succ k ih =>
    have := FO_step (a + k)
    have := ml_pos (a + k)
    have e : a + ((k + 1 : Nat) : Int) = a + (k : Nat) + 1 := by omega
    rw [e]
    omega
theorem FO_year (n : Int) : ahead (2001 + n / 12) ≤ FO n ∧ FO n + ml n ≤ ahead (2001 + n / 12 + 1) := by
  have a := FO_le (a := 12 * (n / 12)) (b := n) (by omega)
  have b := FO_le (a := n + 1) (b := 12 * (n / 12) + 12) (by omega)
  have c : FO (12 * (n / 12)) = ahead (2001 + n / 12) := by
    unfold FO
    have e1 : 12 * (n / 12) / 12 = n / 12 := by omega
    have e2 : 12 * (n / 12) % 12 = 0 := by omega
    rw [e1, e2]; simp [cum]
  have d : FO (12 * (n / 12) + 12) = ahead (2001 + n / 12 + 1) := by
    unfold FO
    have e1 : (12 * (n / 12) + 12) / 12 = n / 12 + 1 := by omega
    have e2 : (12 * (n / 12) + 12) % 12 = 0 := by omega
    rw [e1, e2]; simp [cum]
    congr 1; omega
  have := FO_step n
  omega
theorem ahead_le {a b : Int} (h : a ≤ b) : ahead a + 365 * (b - a) ≤ ahead b := by
  obtain ⟨k, rfl⟩ : ∃ k : Nat, b = a + k := ⟨(b - a).toNat, by omega⟩
  clear h
  induction k with
  | zero => simp
  | succ k ih =>
    have := ahead_step (a + k)
    have e : a + ((k + 1 : Nat) : Int) = a + (k : Nat) + 1 := by omega
    rw [e]
    split at this <;> omega
theorem ahead_hi {a b : Int} (h : a ≤ b) : ahead b ≤ ahead a + 366 * (b - a) := by
  obtain ⟨k, rfl⟩ : ∃ k : Nat, b = a + k := ⟨(b - a).toNat, by omega⟩
  clear h
  induction k with
  | zero => simp
  | succ k ih =>
    have := ahead_step (a + k)
    have e : a + ((k + 1 : Nat) : Int) = a + (k : Nat) + 1 := by omega
    rw [e]
    split at this <;> omega
theorem FO0 : FO 0 = 0 := by decide
theorem FO3285 : FO 3285 = 99984 := by decide
/-- a day lies in a month -/
theorem month_ex (d : Nat) : ∃ n : Nat, FO n ≤ d ∧ (d : Int) < FO n + ml n := by
  induction d with
  | zero => exact ⟨0, by decide, by decide⟩
  | succ d ih =>
    obtain ⟨n, h1, h2⟩ := ih
    by_cases h : ((d + 1 : Nat) : Int) < FO n + ml n
    · exact ⟨n, by omega, h⟩
    · have := FO_step n
      have := ml_pos (n + 1)
      exact ⟨n + 1, by push_cast; omega, by push_cast; omega⟩
theorem month_get {d : Int} (h : 0 ≤ d) (h2 : d ≤ 99999) : ∃ n : Int, 0 ≤ n ∧ n ≤ 3285 ∧ FO n ≤ d ∧ d < FO n + ml n := by
  obtain ⟨n, a, b⟩ := month_ex d.toNat
  rw [Int.toNat_of_nonneg h] at a b
  refine ⟨n, by omega, ?_, a, b⟩
  by_cases hn : (n : Int) ≤ 3285
  · exact hn
  · have := FO_le (a := 3286) (b := n) (by omega)
    have : FO 3286 = 100015 := by decide
    omega
/-- one month alone -/
theorem month_one {n m d : Int} (h1 : FO n ≤ d) (h2 : d < FO n + ml n) (h3 : FO m ≤ d) (h4 : d < FO m + ml m) : n = m := by
  rcases Int.lt_trichotomy n m with h | h | h
  · have := FO_le (a := n + 1) (b := m) (by omega)
    have := FO_step n
    omega
  · exact h
  · have := FO_le (a := m + 1) (b := n) (by omega)
    have := FO_step m
    omega
end G.C

namespace G
open PySem L2 C
local macro_rules
  | `(tactic| simp_arith only [$xs,*]) => `(tactic| simp -implicitDefEqProofs (disch := first | assumption | omega | (simp only [List.length_cons, List.length_nil, List.length_append, List.length_map, List.length_set, List.length_take, List.length_drop, List.length_reverse, rangeD_len, zipD_len, enumD_len] <;> omega)) only [x_ok, at0, at1, at2, at3, at4, at5, x_dict, k_dict, x_pairsN, x_pairsC, k_p1, k_p2, k_p3i, k_p3s, cut_ns, cut_sn, cut_ss, sl_L, sl_F, sl_T, sl_S, x_exc, slotV_v, slotO_v, slotO_o, x_var, x_own, x_c, x_bin, k_bin1, k_bin2, x_neg, k_neg, x_tup, k_tup, x_lst, k_lst, x_nCat, k_cat1, k_cat2, x_nRep, k_rep1, k_rep2, x_frz, k_frz, x_nil, x_cons, k_cons1, k_cons2, x_val, k_val, tr_bl, tr_non, tr_int, tr_lst, tr_tup, tr_frl, tr_str, x_and, x_or, x_not, k_and, k_or, k_not, x_tT, x_ifE, k_ifE, x_andV, x_orV, x_notV, k_andV, k_orV, k_notV, x_chain, k_ch1, k_ch2, k_ch3, x_call, x_callN, k_call, x_opt, k_some, x_isi, k_isi, x_oNone, x_oSome, k_oSome, x_nSl, k_nsl1, k_nsl2, k_nsl3L, k_nsl3F, x_sl, k_sl1, k_sl2, k_sl3, x_rev, k_rev, k_revT, x_fn, k_fn, x_fnB, k_fnB, x_tStill, k_stB, x_eStill, envB_t, envB_f, envB_n, envB_e, frzB_u, frzB_o, frzB_v, frzB_i, frzB_b, frzB_s, frzB_non, frzB_t, frzB_l, k_nolB, k_nolI, k_nolS, k_nolN, x_seq, k_seqL, k_seqT, k_seqF, k_seqS, x_rng1, k_rng1, x_rng2, k_rng2a, k_rng2b, x_enum, k_enum, k_enumT, x_zip, k_zipL, k_zipT, k_zipM, k_zipN, x_lc, k_lc, x_sNil, x_sSeq, k_sqn, k_sqr, k_sqb, k_sqc, k_sqx, x_sExpr, k_expr, x_sRet, k_ret, x_sRetN, x_sRetO, k_retO, x_sRetL, k_retL, x_nFn, k_fnN, k_sqo, k_turnO, k_wtO, x_runN, k_runO, k_runOX, x_sBrk, x_sCnt, x_sSet, k_set, x_sOwn, k_own, tg_some, x_sTg, k_tg, gN_ok, gT_t, gTs_n, gTs_c, x_sIf, k_if, x_sFor, k_for, x_sWhile, x_sFrz, frzE_eq, frz_o, frz_v, frz_u, slotL_o, k_mod, x_modE, x_withO, x_sApp, k_appL, k_app, hApp_ok, x_sIns, k_insL, k_ins1, k_ins2, hIns_ok, x_sRevO, k_revO, x_sClrO, k_clrO, x_sExt, k_extL, k_ext, hExt_ok, x_sSetIx, k_setIxL, k_setIx1, k_setIx2, k_putK, x_sPut, k_put1, k_put2, k_put3, x_sPar, k_par, x_sPar3, k_par3, x_run, k_runN, k_runR, k_runX, k_x, q_add, q_sub, q_addBI, q_addIB, q_subBI, q_subIB, p_strB, p_strS, tI_t, tI_f, q_mul, q_rep, q_div, q_mod, q_lt, q_le, q_gt, q_ge, q_eq, q_ne, q_is, q_isn, q_isB, q_isnB, x_idx, k_idx1, k_idx2, q_catL, q_catT, q_catS, isNon_non, isNon_int, isNon_bl, isNon_str, isNon_tup, isNon_lst, p_divmod, p_lenL, p_lenT, p_lenF, p_lenS, p_intB, p_intI, p_max2, p_min2, p_tupL, p_tupT, p_lstL, p_lstT, p_lstF, is_intI, is_intB, is_intS, is_intN, is_intT, is_intL, is_blI, is_blB, is_blS, is_blN, is_blT, is_blL, is_strI, is_strB, is_strS, is_strN, is_strT, is_strL, is_tupI, is_tupB, is_tupS, is_tupN, is_tupT, is_tupL, is_lstI, is_lstB, is_lstS, is_lstN, is_lstT, is_lstL, opIx_lst, opIx_tup, opIx_frl, k_midN, k_midC, k_midB, k_midR, k_midO, k_midX, k_turnN, k_turnC, k_turnB, k_turnR, k_turnX, k_wtN, k_wtC, k_wtB, k_wtR, k_wtX, k_wc, k_le, frzE_eq, turn_eq, turnC_eq, k_le, forL_nil, lcL_nil, startE, decide_eq_true_eq, decide_eq_false_iff_not, decide_true, decide_false, Bool.not_eq_true', Bool.not_eq_eq_eq_not, Bool.not_true, Bool.not_false, Bool.true_eq_false, Bool.false_eq_true, Bool.not_not, Option.bind_some, Option.map_some, List.map_cons, List.map_nil, List.length_cons, List.length_nil, List.cons_append, List.nil_append, List.set_cons_zero, List.set_cons_succ, List.getElem?_cons_zero, List.getElem?_cons_succ, List.length_set, ↓reduceIte, if_true, if_false, ite_self, List.replicate, List.take_succ_cons, List.take_zero, List.drop_succ_cons, List.drop_zero, List.flatten_cons, List.flatten_nil, Int.reduceToNat, List.isEmpty_cons, List.isEmpty_nil, Nat.reduceAdd, Nat.reduceSub, Nat.reduceLT, Nat.reduceLeDiff, Nat.reduceEqDiff, Int.cast_ofNat_Int, not_true_eq_false, not_false_eq_true, Int.reduceAdd, Int.reduceSub, Int.reduceMul, Int.reduceLT, Int.reduceLE, Int.reduceEq, Int.reduceNe, Int.reduceNeg, Int.zero_add, ne_eq, id, wipeE, lcL_nil, eq_self, and_true, true_and, D.int.injEq, D.bl.injEq, ofS_eq, String.reduceEq, $xs,*])

theorem s_is_leap {y : Int} {S : Sto} : M.is_leap [.int y] S = .ok (.bl (decide (leap y))) S := by
  refine tri_eq ?_
  unfold leap
  by_cases h1 : y % 4 = 0 <;> by_cases h2 : y % 100 = 0
  all_goals
    simp_arith only [M.is_leap, M.b_is_leap, h1, h2]
    try simp [h2]
theorem s_days_ahead {y : Int} {S : Sto} (h : 0 ≤ y) (h2 : y ≤ 10000) : M.days_ahead [.int y] S = .ok (.int (ahead y)) S := by
  refine tri_eq ?_
  simp_arith only [M.days_ahead, M.b_days_ahead, k_FIRST_YEAR]
  rfl
theorem s_ixL {k : Int} {S : Sto} (h : 0 ≤ k) (h2 : k < 12) : opIx k_LENGTHS (.int k) S = .ok (.int (if k = 1 then 28 else if k = 3 ∨ k = 5 ∨ k = 8 ∨ k = 10 then 30 else 31)) S := by
  have : k = 0 ∨ k = 1 ∨ k = 2 ∨ k = 3 ∨ k = 4 ∨ k = 5 ∨ k = 6 ∨ k = 7 ∨ k = 8 ∨ k = 9 ∨ k = 10 ∨ k = 11 := by omega
  rcases this with rfl | rfl | rfl | rfl | rfl | rfl | rfl | rfl | rfl | rfl | rfl | rfl <;> rfl
theorem s_month_length {n : Int} {S : Sto} (h : 0 ≤ n) (h2 : n ≤ 60000) : M.month_length [.int n] S = .ok (.int (ml n)) S := by
  refine tri_eq ?_
  unfold ml
  by_cases h1 : n % 12 = 1
  · by_cases hl : leap (2001 + n / 12)
    · simp_arith only [M.month_length, M.b_month_length, k_FIRST_YEAR, s_is_leap, s_ixL, h1, hl, and_self]
    · simp_arith only [M.month_length, M.b_month_length, k_FIRST_YEAR, s_is_leap, s_ixL, h1, hl, and_false]
  · simp_arith only [M.month_length, M.b_month_length, k_FIRST_YEAR, s_is_leap, s_ixL, h1, false_and]
theorem FO_year0 (n : Int) : FO (12 * (n / 12)) = ahead (2001 + n / 12) := by
  unfold FO
  have e1 : 12 * (n / 12) / 12 = n / 12 := by omega
  have e2 : 12 * (n / 12) % 12 = 0 := by omega
  rw [e1, e2]; simp [cum]
theorem s_first_of {n : Int} {S : Sto} (h : 0 ≤ n) (h2 : n ≤ 60000) : M.first_of [.int n] S = .ok (.int (FO n)) S := by
  refine tri_eq ?_
  simp_arith only [M.first_of, M.b_first_of, k_FIRST_YEAR, s_days_ahead]
  refine rng_inv (fun i env S1 => S1 = S ∧ ∃ z, env = [.val (.int n), .val (.int (n / 12)), .val (.int (n % 12)), .val (.int (FO (12 * (n / 12) + i))), z]) ⟨rfl, _, by rw [Int.add_zero, FO_year0]⟩ ?_ (by omega) ?_
  · rintro i env S1 hi hi2 ⟨rfl, z, rfl⟩
    simp_arith only [s_month_length]
    rw [← Int.add_assoc, FO_step]
    exact ⟨_, rfl⟩
  · rintro env S1 ⟨rfl, z, rfl⟩
    have e : 12 * (n / 12) + n % 12 = n := by omega
    simp_arith only [e]
theorem s_month_of {n d : Int} {S : Sto} (h : 0 ≤ n) (h2 : n ≤ 6000) (h3 : FO n ≤ d) (h4 : d < FO n + ml n) : M.month_of [.int d] S = .ok (.int n) S := by
  have hF := FO_year n
  have hd : 0 ≤ d := by
    have := FO_le h
    have := FO0
    omega
  have hy : 2001 + d / 366 ≤ 2001 + n / 12 := by
    have := ahead_hi (a := 2001) (b := 2001 + n / 12 + 1) (by omega)
    have : ahead 2001 = 0 := by decide
    omega
  refine tri_eq ?_
  simp_arith only [M.month_of, M.b_month_of, k_FIRST_YEAR, s_days_ahead]
  refine while_inv (fun env S1 => S1 = S ∧ ∃ y, 2001 + d / 366 ≤ y ∧ y ≤ 2001 + n / 12 ∧ env = [.val (.int d), .val (.int y), .un, .un]) (fun env S1 => match env with | [_, .val (.int y), _, _] => (2001 + n / 12 - y).toNat | _ => 0) ⟨rfl, _, by omega, by omega, rfl⟩ (by show (2001 + n / 12 - (2001 + d / 366)).toNat < 1000000; omega) ?_
  rintro env S1 ⟨rfl, y, y1, y2, rfl⟩
  by_cases hc : ahead (y + 1) ≤ d
  · have : y < 2001 + n / 12 := by
      by_cases hq : y < 2001 + n / 12
      · exact hq
      · have := ahead_le (a := 2001 + n / 12 + 1) (b := y + 1) (by omega)
        omega
    simp_arith only [s_days_ahead, hc]
    refine ⟨⟨_, ?_, ?_, rfl⟩, ?_⟩ <;> omega
  · have : y = 2001 + n / 12 := by
      by_cases hq : y < 2001 + n / 12
      · have := ahead_le (a := y + 1) (b := 2001 + n / 12) (by omega)
        omega
      · omega
    subst this
    simp_arith only [s_days_ahead, hc]
    have e : 12 * (2001 + n / 12 - 2001) = 12 * (n / 12) := by omega
    rw [e, ← FO_year0]
    refine while_inv (fun env S2 => S2 = S1 ∧ ∃ m, 12 * (n / 12) ≤ m ∧ m ≤ n ∧ env = [.val (.int d), .val (.int (2001 + n / 12)), .val (.int m), .val (.int (d - FO m))]) (fun env S1 => match env with | [_, _, .val (.int m), _] => (n - m).toNat | _ => 0) ⟨rfl, _, by omega, by omega, rfl⟩ (by show (n - 12 * (n / 12)).toNat < 1000000; omega) ?_
    rintro env S2 ⟨rfl, m, m1, m2, rfl⟩
    by_cases hm : m = n
    · subst hm
      have hc : ¬ ml m ≤ d - FO m := by omega
      simp_arith only [s_month_length, hc]
    · have := FO_le (a := m + 1) (b := n) (by omega)
      have h5 := FO_step m
      have hc : ml m ≤ d - FO m := by omega
      have e : d - FO m - ml m = d - FO (m + 1) := by omega
      simp_arith only [s_month_length, hc, e]
      refine ⟨⟨_, ?_, ?_, rfl⟩, ?_⟩ <;> omega
theorem s_date_of {n d : Int} {S : Sto} (h : 0 ≤ n) (h2 : n ≤ 6000) (h3 : FO n ≤ d) (h4 : d < FO n + ml n) : M.date_of [.int d] S = .ok (.tup [.int (2001 + n / 12), .int (n % 12 + 1), .int (d - FO n + 1)]) S := by
  refine tri_eq ?_
  simp_arith only [M.date_of, M.b_date_of, k_FIRST_YEAR, s_month_of h h2 h3 h4, s_first_of]
theorem s_weekday {d : Int} {S : Sto} : M.weekday [.int d] S = .ok (.int (d % 7)) S := by
  refine tri_eq ?_
  simp_arith only [M.weekday, M.b_weekday]
theorem s_whole {i lo hi : Int} {S : Sto} : M.is_whole [.int i, .int lo, .int hi] S = .ok (.bl (decide (lo ≤ i ∧ i ≤ hi))) S := by
  refine tri_eq ?_
  by_cases h1 : lo ≤ i <;> by_cases h2 : i ≤ hi
  all_goals simp_arith only [M.is_whole, M.b_is_whole, h1, h2, and_self, and_false, false_and]
theorem s_law_month_days {y m : Int} {S : Sto} (m1 : 1 ≤ m) (m2 : m ≤ 12) : M.law_month_days [.int y, .int m] S = .ok (.int (ml (12 * (y - 2001) + m - 1))) S := by
  have e1 : (12 * (y - 2001) + m - 1) % 12 = m - 1 := by omega
  have e2 : 2001 + (12 * (y - 2001) + m - 1) / 12 = y := by omega
  refine tri_eq ?_
  unfold ml
  rw [e1, e2]
  by_cases h : m = 2
  · subst h
    unfold leap
    by_cases h1 : y % 4 = 0
    · by_cases h3 : y % 100 = 0
      · have h2 : ¬ 0 < y % 100 := by omega
        by_cases h4 : y % 400 = 0
        · simp_arith only [M.law_month_days, M.b_law_month_days, h1, h2, h3, h4]; simp
        · simp_arith only [M.law_month_days, M.b_law_month_days, h1, h2, h3, h4]; simp
      · have h2 : 0 < y % 100 := by omega
        simp_arith only [M.law_month_days, M.b_law_month_days, h1, h2, h3]; simp [h3]
    · simp_arith only [M.law_month_days, M.b_law_month_days, h1]; simp
  · have : m = 1 ∨ m = 3 ∨ m = 4 ∨ m = 5 ∨ m = 6 ∨ m = 7 ∨ m = 8 ∨ m = 9 ∨ m = 10 ∨ m = 11 ∨ m = 12 := by omega
    rcases this with rfl | rfl | rfl | rfl | rfl | rfl | rfl | rfl | rfl | rfl | rfl <;> (unfold Tx; with_unfolding_all exact ⟨rfl, rfl⟩)
theorem leap_sum (y : Int) : y / 4 - y / 100 + y / 400 = (y - 1) / 4 - (y - 1) / 100 + (y - 1) / 400 + (if leap y then 1 else 0) := by
  by_cases h : leap y
  · rw [if_pos h]
    unfold leap at h
    omega
  · rw [if_neg h]
    unfold leap at h
    omega
theorem s_law_day {y m d : Int} {S : Sto} (y1 : 0 ≤ y) (y2 : y ≤ 5000) (m1 : 1 ≤ m) (m2 : m ≤ 12) : M.law_day_v2 [.int y, .int m, .int d] S = .ok (.int (FO (12 * (y - 2001) + m - 1) + d - 1)) S := by
  have e1 : (12 * (y - 2001) + m - 1) % 12 = m - 1 := by omega
  have e2 : 2001 + (12 * (y - 2001) + m - 1) / 12 = y := by omega
  refine tri_eq ?_
  by_cases h : m < 3
  · simp_arith only [M.law_day_v2, M.b_law_day_v2, h]
    have hs := leap_sum y
    unfold FO ahead
    rw [e1, e2]
    have : ¬ (2 ≤ m - 1 ∧ leap y) := by omega
    rw [if_neg this]
    have hp : (153 * ((m + 9) % 12) + 2) / 5 = cum (m - 1) + 306 := by
      have : m = 1 ∨ m = 2 := by omega
      rcases this with rfl | rfl <;> rfl
    have e3 : y - 1 - 1 = y - 2 := by omega
    clear e1 e2 hs
    generalize (153 * ((m + 9) % 12) + 2) / 5 = a at *
    generalize (y - 1) / 4 = b
    generalize (y - 1) / 100 = b1
    generalize (y - 1) / 400 = b2
    omega
  · simp_arith only [M.law_day_v2, M.b_law_day_v2, h]
    have hs := leap_sum y
    unfold FO ahead
    rw [e1, e2]
    have hp : (153 * ((m + 9) % 12) + 2) / 5 = cum (m - 1) - 59 := by
      have : m = 3 ∨ m = 4 ∨ m = 5 ∨ m = 6 ∨ m = 7 ∨ m = 8 ∨ m = 9 ∨ m = 10 ∨ m = 11 ∨ m = 12 := by omega
      rcases this with rfl | rfl | rfl | rfl | rfl | rfl | rfl | rfl | rfl | rfl <;> rfl
    by_cases hl : leap y
    · rw [if_pos ⟨by omega, hl⟩]
      rw [if_pos hl] at hs
      clear e1 e2
      generalize (153 * ((m + 9) % 12) + 2) / 5 = a at *
      generalize (y - 1) / 4 = b at *
      generalize (y - 1) / 100 = b1 at *
      generalize (y - 1) / 400 = b2 at *
      rw [Int.sub_zero]
      generalize y / 4 = c at *
      generalize y / 100 = c1 at *
      generalize y / 400 = c2 at *
      omega
    · rw [if_neg (fun z => hl z.2)]
      rw [if_neg hl] at hs
      clear e1 e2
      generalize (153 * ((m + 9) % 12) + 2) / 5 = a at *
      generalize (y - 1) / 4 = b at *
      generalize (y - 1) / 100 = b1 at *
      generalize (y - 1) / 400 = b2 at *
      rw [Int.sub_zero]
      generalize y / 4 = c at *
      generalize y / 100 = c1 at *
      generalize y / 400 = c2 at *
      omega
end G

namespace G.C
inductive How where
  | once
  | days (n : Int)
  | weeks (n : Int) (ws : List Int)
  | dates (n d : Int)
  | wds (n k o : Int)
def HowOk : How → Prop
  | .once => True
  | .days n => 1 ≤ n ∧ n ≤ 99
  | .weeks n ws => (1 ≤ n ∧ n ≤ 99) ∧ ws ≠ [] ∧ ws.Pairwise (· < ·) ∧ ∀ w ∈ ws, 0 ≤ w ∧ w ≤ 6
  | .dates n d => (1 ≤ n ∧ n ≤ 99) ∧ 1 ≤ d ∧ d ≤ 31
  | .wds n k o => (1 ≤ n ∧ n ≤ 99) ∧ -1 ≤ k ∧ k ≤ 5 ∧ k ≠ 0 ∧ 0 ≤ o ∧ o ≤ 6
/-- from a on, ahead of b -/
def rg (a b : Int) : List Int := (List.range (b - a).toNat).map fun i => a + (i : Nat)
theorem mem_rg {a b x : Int} : x ∈ rg a b ↔ a ≤ x ∧ x < b := by
  unfold rg
  rw [List.mem_map]
  constructor
  · rintro ⟨i, hi, rfl⟩
    rw [List.mem_range] at hi
    omega
  · rintro ⟨h1, h2⟩
    exact ⟨(x - a).toNat, by rw [List.mem_range]; omega, by omega⟩
theorem rg_lt (a b : Int) : (rg a b).Pairwise (· < ·) := by
  unfold rg
  rw [List.pairwise_map]
  exact List.pairwise_lt_range.imp fun h => by omega
/-- those of a stretch that p lets by -/
def rf (p : Int → Bool) (a b : Int) : List Int := (rg a b).filter p
theorem mem_rf {p : Int → Bool} {a b x : Int} : x ∈ rf p a b ↔ (a ≤ x ∧ x < b) ∧ p x = true := by
  unfold rf; rw [List.mem_filter, mem_rg]
theorem rf_lt (p : Int → Bool) (a b : Int) : (rf p a b).Pairwise (· < ·) := (rg_lt a b).filter _
theorem sorted_ext : ∀ {l m : List Int}, l.Pairwise (· < ·) → m.Pairwise (· < ·) → (∀ x, x ∈ l ↔ x ∈ m) → l = m
  | [], [], _, _, _ => rfl
  | [], b :: m, _, _, h => by have := (h b).mpr List.mem_cons_self; cases this
  | a :: l, [], _, _, h => by have := (h a).mp List.mem_cons_self; cases this
  | a :: l, b :: m, hl, hm, h => by
    rw [List.pairwise_cons] at hl hm
    have e : a = b := by
      rcases List.mem_cons.mp ((h a).mp List.mem_cons_self) with q | q
      · exact q
      · rcases List.mem_cons.mp ((h b).mpr List.mem_cons_self) with q2 | q2
        · exact q2.symm
        · have := hl.1 b q2
          have := hm.1 a q
          omega
    subst e
    congr 1
    refine sorted_ext hl.2 hm.2 fun x => ⟨fun q => ?_, fun q => ?_⟩
    · rcases List.mem_cons.mp ((h x).mp (List.mem_cons_of_mem _ q)) with z | z
      · have := hl.1 x q; omega
      · exact z
    · rcases List.mem_cons.mp ((h x).mpr (List.mem_cons_of_mem _ q)) with z | z
      · have := hm.1 x q; omega
      · exact z
theorem rf_append {p : Int → Bool} {a b c : Int} (h1 : a ≤ b) (h2 : b ≤ c) : rf p a b ++ rf p b c = rf p a c := by
  refine sorted_ext ?_ (rf_lt _ _ _) fun x => ?_
  · rw [List.pairwise_append]
    exact ⟨rf_lt _ _ _, rf_lt _ _ _, fun x hx y hy => by rw [mem_rf] at hx hy; omega⟩
  · rw [List.mem_append, mem_rf, mem_rf, mem_rf]
    constructor
    · rintro (⟨h, q⟩ | ⟨h, q⟩) <;> exact ⟨by omega, q⟩
    · rintro ⟨h, q⟩
      by_cases z : x < b
      · exact .inl ⟨by omega, q⟩
      · exact .inr ⟨by omega, q⟩
theorem rf_nil {p : Int → Bool} {a b : Int} (h : ∀ x, a ≤ x → x < b → p x = false) : rf p a b = [] := by
  refine List.eq_nil_iff_forall_not_mem.mpr fun x hx => ?_
  rw [mem_rf] at hx
  rw [h x hx.1.1 hx.1.2] at hx
  exact absurd hx.2 (by decide)
theorem rf_empty {p : Int → Bool} {a b : Int} (h : b ≤ a) : rf p a b = [] := rf_nil fun x h1 h2 => by omega
/-- the month of a day -/
noncomputable def mo (d : Int) : Int := open Classical in if h : ∃ n : Int, FO n ≤ d ∧ d < FO n + ml n then h.choose else 0
theorem mo_spec {d : Int} (h : 0 ≤ d) : 0 ≤ mo d ∧ FO (mo d) ≤ d ∧ d < FO (mo d) + ml (mo d) := by
  have hx : ∃ n : Int, FO n ≤ d ∧ d < FO n + ml n := by
    obtain ⟨n, a, b⟩ := month_ex d.toNat
    rw [Int.toNat_of_nonneg h] at a b
    exact ⟨n, a, b⟩
  unfold mo
  rw [dif_pos hx]
  have hs := hx.choose_spec
  refine ⟨?_, hs⟩
  by_cases h0 : 0 ≤ hx.choose
  · exact h0
  · have := FO_le (a := hx.choose + 1) (b := 0) (by omega)
    rw [FO_step, FO0] at this
    omega
theorem mo_of {d n : Int} (h1 : FO n ≤ d) (h2 : d < FO n + ml n) : mo d = n := by
  have hx : ∃ n : Int, FO n ≤ d ∧ d < FO n + ml n := ⟨n, h1, h2⟩
  unfold mo
  rw [dif_pos hx]
  exact month_one hx.choose_spec.1 hx.choose_spec.2 h1 h2
theorem FO_mono {a b : Int} (h : a < b) : FO a < FO b := by
  have := FO_le (a := a) (b := b) (by omega); omega
theorem mo_le {a b : Int} (h0 : 0 ≤ a) (h : a ≤ b) : mo a ≤ mo b := by
  have h1 := mo_spec h0
  have h2 := mo_spec (d := b) (by omega)
  by_cases q : mo a ≤ mo b
  · exact q
  · have := FO_le (a := mo b + 1) (b := mo a) (by omega)
    have := FO_step (mo b)
    omega
theorem mo_hi {d : Int} (h : 0 ≤ d) (h2 : d ≤ 110000) : mo d ≤ 4000 := by
  have h1 := mo_spec h
  by_cases q : mo d ≤ 4000
  · exact q
  · have := FO_le (a := 4000) (b := mo d) (by omega)
    have : FO 4000 = 121745 := by decide
    omega
/-- the date in a month, 0 of none -/
def lastW (m o : Int) : Int := 1 + (o - FO m % 7) % 7 + 7 * ((ml m - (1 + (o - FO m % 7) % 7)) / 7)
def dateIn : How → Int → Int
  | .dates _ d, m => if d ≤ ml m then d else 0
  | .wds _ k o, m => if 0 < k then (if 1 + (o - FO m % 7) % 7 + 7 * (k - 1) ≤ ml m then 1 + (o - FO m % 7) % 7 + 7 * (k - 1) else 0) else lastW m o
  | _, _ => 0
noncomputable def begins : How → Int → Int → Int
  | .once, f, s => f + s * 99990
  | .days n, f, s => f + s * n
  | .weeks n _, f, s => f - f % 7 + s * (7 * n)
  | .dates n _, f, s => FO (mo f + s * n)
  | .wds n _ _, f, s => FO (mo f + s * n)
noncomputable def daysIn : How → Int → Int → List Int
  | .once, f, s => if s = 0 then [f] else []
  | .days n, f, s => [f + s * n]
  | .weeks n ws, f, s => (ws.map fun w => begins (.weeks n ws) f s + w).filter fun d => decide (f ≤ d)
  | h@(.dates n _), f, s => if dateIn h (mo f + s * n) = 0 ∨ FO (mo f + s * n) + dateIn h (mo f + s * n) - 1 < f then [] else [FO (mo f + s * n) + dateIn h (mo f + s * n) - 1]
  | h@(.wds n _ _), f, s => if dateIn h (mo f + s * n) = 0 ∨ FO (mo f + s * n) + dateIn h (mo f + s * n) - 1 < f then [] else [FO (mo f + s * n) + dateIn h (mo f + s * n) - 1]
noncomputable def stretchOf : How → Int → Int → Int
  | .once, _, _ => 0
  | .days n, f, d => max 0 ((d - f) / n)
  | .weeks n _, f, d => max 0 ((d - (f - f % 7)) / (7 * n))
  | .dates n _, f, d => max 0 ((mo d - mo f) / n)
  | .wds n _ _, f, d => max 0 ((mo d - mo f) / n)
noncomputable def fits : How → Int → Int → Bool
  | .once, f, d => decide (d = f)
  | .days n, f, d => decide (f ≤ d ∧ (d - f) % n = 0)
  | .weeks n ws, f, d => decide (f ≤ d ∧ d % 7 ∈ ws ∧ (d / 7 - f / 7) % n = 0)
  | h@(.dates n _), f, d => decide (f ≤ d ∧ (mo d - mo f) % n = 0 ∧ dateIn h (mo d) ≠ 0 ∧ d = FO (mo d) + dateIn h (mo d) - 1)
  | h@(.wds n _ _), f, d => decide (f ≤ d ∧ (mo d - mo f) % n = 0 ∧ dateIn h (mo d) ≠ 0 ∧ d = FO (mo d) + dateIn h (mo d) - 1)
theorem fits_ge {h : How} {f d : Int} (q : fits h f d = true) : f ≤ d := by
  cases h <;> simp [fits] at q <;> omega
theorem lastW_in (m o : Int) : 1 ≤ lastW m o ∧ lastW m o ≤ ml m ∧ ml m < lastW m o + 7 := by
  have := ml_pos m
  unfold lastW
  omega
theorem dateIn_in {h : How} {f m : Int} (hok : HowOk h) (q : dateIn h m ≠ 0) : 1 ≤ dateIn h m ∧ dateIn h m ≤ ml m := by
  cases h with
  | dates n d =>
    simp only [dateIn] at q ⊢
    obtain ⟨_, h1, h2⟩ := hok
    split at q
    · rename_i h; rw [if_pos h]; omega
    · exact absurd rfl q
  | wds n k o =>
    simp only [dateIn] at q ⊢
    split
    · rename_i h
      rw [if_pos h] at q
      split at q
      · rename_i h2; rw [if_pos h2]; omega
      · exact absurd rfl q
    · have := lastW_in m o; omega
  | _ => exact absurd rfl q
theorem mul_step {s n : Int} : (s + 1) * n = s * n + n := by rw [Int.add_mul, Int.one_mul]
theorem begins_lt {h : How} {f s : Int} (hok : HowOk h) : begins h f s < begins h f (s + 1) := by
  cases h with
  | once => simp only [begins]; omega
  | days n => simp only [begins, mul_step]; have := hok.1; omega
  | weeks n ws => simp only [begins, mul_step]; have := hok.1.1; omega
  | dates n d => simp only [begins, mul_step]; have := hok.1.1; exact FO_mono (by omega)
  | wds n k o => simp only [begins, mul_step]; have := hok.1.1; exact FO_mono (by omega)
theorem begins_mono {h : How} {f a b : Int} (hok : HowOk h) (hab : a ≤ b) : begins h f a + (b - a) ≤ begins h f b := by
  obtain ⟨k, rfl⟩ : ∃ k : Nat, b = a + k := ⟨(b - a).toNat, by omega⟩
  induction k with
  | zero => simp
  | succ k ih =>
    have := ih (by omega)
    have h2 := begins_lt (h := h) (f := f) (s := a + k) hok
    have e : a + ((k + 1 : Nat) : Int) = a + k + 1 := by omega
    rw [e]
    omega
theorem begins0 {h : How} {f : Int} (f0 : 0 ≤ f) : begins h f 0 ≤ f := by
  cases h with
  | once => simp [begins]
  | days n => simp [begins]
  | weeks n ws => simp only [begins]; omega
  | dates n d => simp only [begins, Int.zero_mul, Int.add_zero]; exact (mo_spec f0).2.1
  | wds n k o => simp only [begins, Int.zero_mul, Int.add_zero]; exact (mo_spec f0).2.1
theorem rf_one {p : Int → Bool} {a b x : Int} (h1 : a ≤ x) (h2 : x < b) (hp : p x = true) (ho : ∀ y, a ≤ y → y < b → p y = true → y = x) : [x] = rf p a b := by
  refine sorted_ext (by simp) (rf_lt _ _ _) fun y => ?_
  rw [mem_rf, List.mem_singleton]
  constructor
  · rintro rfl; exact ⟨⟨h1, h2⟩, hp⟩
  · rintro ⟨⟨q1, q2⟩, q3⟩; exact ho y q1 q2 q3
theorem mod_range {x n : Int} (hn : 0 < n) (h0 : 0 ≤ x) (h1 : x < n) (hm : x % n = 0) : x = 0 := by
  rw [Int.emod_eq_of_lt h0 h1] at hm; exact hm
/-- the days of a stretch are those that fit, from its begin to the next one's -/
theorem daysIn_eq {h : How} {f s : Int} (hok : HowOk h) (f0 : 0 ≤ f) (s0 : 0 ≤ s) : daysIn h f s = rf (fits h f) (begins h f s) (begins h f (s + 1)) := by
  cases h with
  | once =>
    simp only [daysIn, begins]
    by_cases hs : s = 0
    · subst hs
      rw [if_pos rfl]
      exact rf_one (by omega) (by omega) (by simp [fits]) fun y _ _ q => by simpa [fits] using q
    · rw [if_neg hs, rf_nil]
      intro x h1 h2
      simp [fits]; omega
  | days n =>
    obtain ⟨n1, n2⟩ := hok
    simp only [daysIn, begins, mul_step]
    have hm : (f + s * n - f) % n = 0 := by
      rw [show f + s * n - f = s * n from by omega]; exact Int.mul_emod_left s n
    have hp : 0 ≤ s * n := Int.mul_nonneg s0 (by omega)
    refine rf_one (by omega) (by omega) (by simp [fits, hm]; omega) fun y h1 h2 q => ?_
    simp only [fits, decide_eq_true_eq] at q
    have := mod_range (x := y - f - s * n) (n := n) (by omega) (by omega) (by omega) (by
      rw [show y - f - s * n = y - f + (-s) * n from by rw [Int.neg_mul]; omega, Int.add_mul_emod_self_right]; exact q.2)
    omega
  | weeks n ws =>
    obtain ⟨⟨n1, n2⟩, hne, hsrt, hw⟩ := hok
    simp only [daysIn, begins, mul_step]
    have hp : 0 ≤ s * (7 * n) := Int.mul_nonneg s0 (by omega)
    obtain ⟨t, ht⟩ : ∃ t, s * n = t := ⟨_, rfl⟩
    have et : s * (7 * n) = 7 * t := by rw [← ht, ← Int.mul_assoc, Int.mul_comm s 7, Int.mul_assoc]
    rw [et] at hp ⊢
    refine sorted_ext ?_ (rf_lt _ _ _) fun x => ?_
    · refine List.Pairwise.filter _ ?_
      rw [List.pairwise_map]
      exact hsrt.imp fun h => by omega
    · rw [List.mem_filter, List.mem_map, mem_rf]
      simp only [fits, decide_eq_true_eq]
      constructor
      · rintro ⟨⟨w, hwm, rfl⟩, hf⟩
        have := hw w hwm
        refine ⟨by omega, hf, ?_, ?_⟩
        · rw [show (f - f % 7 + 7 * t + w) % 7 = w from by omega]; exact hwm
        · rw [show (f - f % 7 + 7 * t + w) / 7 - f / 7 = t from by omega, ← ht]; exact Int.mul_emod_left s n
      · rintro ⟨⟨h1, h2⟩, h3, h4, h5⟩
        refine ⟨⟨x % 7, h4, ?_⟩, h3⟩
        have := mod_range (x := x / 7 - f / 7 - t) (n := n) (by omega) (by omega) (by omega) (by
          rw [show x / 7 - f / 7 - t = x / 7 - f / 7 + (-s) * n from by rw [Int.neg_mul, ht]; omega, Int.add_mul_emod_self_right]; exact h5)
        omega
  | dates n d =>
    obtain ⟨⟨n1, n2⟩, _⟩ := id hok
    have key : ∀ x, FO (mo f + s * n) ≤ x → x < FO (mo f + s * n + n) → (mo x - mo f) % n = 0 → f ≤ x → mo x = mo f + s * n := fun x h1 h2 h3 h4 => by
      have hx := mo_spec (d := x) (by omega)
      have ha : mo f + s * n ≤ mo x := by
        by_cases q : mo f + s * n ≤ mo x
        · exact q
        · have := FO_le (a := mo x + 1) (b := mo f + s * n) (by omega)
          have := FO_step (mo x); omega
      have hb : mo x < mo f + s * n + n := by
        by_cases q : mo x < mo f + s * n + n
        · exact q
        · have := FO_le (a := mo f + s * n + n) (b := mo x) (by omega); omega
      have := mod_range (x := mo x - mo f - s * n) (n := n) (by omega) (by omega) (by omega) (by
        rw [show mo x - mo f - s * n = mo x - mo f + (-s) * n from by rw [Int.neg_mul]; omega, Int.add_mul_emod_self_right]; exact h3)
      omega
    have hmid : ∀ x, f ≤ x → 0 ≤ x → (mo x - mo f) % n = 0 → True := fun _ _ _ _ => trivial
    simp only [daysIn, begins, mul_step]
    rw [← Int.add_assoc]
    split
    · rename_i hc
      rw [rf_nil]
      intro x h1 h2
      rw [Bool.eq_false_iff]
      intro q
      simp only [fits, decide_eq_true_eq] at q
      obtain ⟨q1, q2, q3, q4⟩ := q
      have e := key x h1 h2 q2 q1
      rw [e] at q3 q4
      rcases hc with z | z
      · exact q3 z
      · omega
    · rename_i hc
      have hd := dateIn_in (h := .dates n d) (f := f) (m := mo f + s * n) hok (fun z => hc (.inl z))
      have hst := FO_le (a := mo f + s * n + 1) (b := mo f + s * n + n) (by omega)
      rw [FO_step] at hst
      have hmo : mo (FO (mo f + s * n) + dateIn (.dates n d) (mo f + s * n) - 1) = mo f + s * n := mo_of (by omega) (by omega)
      refine rf_one (by omega) (by omega) ?_ fun y h1 h2 q => ?_
      · simp only [fits, decide_eq_true_eq]
        rw [hmo]
        refine ⟨by omega, ?_, fun z => hc (.inl z), rfl⟩
        rw [show mo f + s * n - mo f = s * n from by omega]; exact Int.mul_emod_left s n
      · simp only [fits, decide_eq_true_eq] at q
        obtain ⟨q1, q2, q3, q4⟩ := q
        have e := key y h1 h2 q2 q1
        rw [e] at q4
        exact q4
  | wds n k o =>
    obtain ⟨⟨n1, n2⟩, _⟩ := id hok
    have key : ∀ x, FO (mo f + s * n) ≤ x → x < FO (mo f + s * n + n) → (mo x - mo f) % n = 0 → f ≤ x → mo x = mo f + s * n := fun x h1 h2 h3 h4 => by
      have hx := mo_spec (d := x) (by omega)
      have ha : mo f + s * n ≤ mo x := by
        by_cases q : mo f + s * n ≤ mo x
        · exact q
        · have := FO_le (a := mo x + 1) (b := mo f + s * n) (by omega)
          have := FO_step (mo x); omega
      have hb : mo x < mo f + s * n + n := by
        by_cases q : mo x < mo f + s * n + n
        · exact q
        · have := FO_le (a := mo f + s * n + n) (b := mo x) (by omega); omega
      have := mod_range (x := mo x - mo f - s * n) (n := n) (by omega) (by omega) (by omega) (by
        rw [show mo x - mo f - s * n = mo x - mo f + (-s) * n from by rw [Int.neg_mul]; omega, Int.add_mul_emod_self_right]; exact h3)
      omega
    simp only [daysIn, begins, mul_step]
    rw [← Int.add_assoc]
    split
    · rename_i hc
      rw [rf_nil]
      intro x h1 h2
      rw [Bool.eq_false_iff]
      intro q
      simp only [fits, decide_eq_true_eq] at q
      obtain ⟨q1, q2, q3, q4⟩ := q
      have e := key x h1 h2 q2 q1
      rw [e] at q3 q4
      rcases hc with z | z
      · exact q3 z
      · omega
    · rename_i hc
      have hd := dateIn_in (h := .wds n k o) (f := f) (m := mo f + s * n) hok (fun z => hc (.inl z))
      have hst := FO_le (a := mo f + s * n + 1) (b := mo f + s * n + n) (by omega)
      rw [FO_step] at hst
      have hmo : mo (FO (mo f + s * n) + dateIn (.wds n k o) (mo f + s * n) - 1) = mo f + s * n := mo_of (by omega) (by omega)
      refine rf_one (by omega) (by omega) ?_ fun y h1 h2 q => ?_
      · simp only [fits, decide_eq_true_eq]
        rw [hmo]
        refine ⟨by omega, ?_, fun z => hc (.inl z), rfl⟩
        rw [show mo f + s * n - mo f = s * n from by omega]; exact Int.mul_emod_left s n
      · simp only [fits, decide_eq_true_eq] at q
        obtain ⟨q1, q2, q3, q4⟩ := q
        have e := key y h1 h2 q2 q1
        rw [e] at q4
        exact q4
/-- a day's stretch -/
theorem stretch0 {h : How} {f d : Int} : 0 ≤ stretchOf h f d := by
  cases h <;> simp only [stretchOf] <;> omega
theorem stretch_in {h : How} {f d : Int} (hok : HowOk h) (f0 : 2 ≤ f) (h1 : begins h f 0 ≤ d) (h2 : h = .once → d ≤ 99990) (d0 : 0 ≤ d) : begins h f (stretchOf h f d) ≤ d ∧ d < begins h f (stretchOf h f d + 1) := by
  have dv : ∀ x n : Int, 0 < n → 0 ≤ x → max 0 (x / n) * n ≤ x ∧ x < max 0 (x / n) * n + n := fun x n hn hx => by
    have q := Int.ediv_nonneg hx (Int.le_of_lt hn)
    rw [Int.max_eq_right q]
    have := Int.mul_ediv_add_emod x n
    have := Int.emod_nonneg x (b := n) (by omega)
    have := Int.emod_lt_of_pos x hn
    have e : n * (x / n) = x / n * n := Int.mul_comm _ _
    constructor <;> omega
  cases h with
  | once => have := h2 rfl; simp only [begins, stretchOf] at *; omega
  | days n =>
    simp only [begins, stretchOf, mul_step] at *
    have := dv (d - f) n (by have := hok.1; omega) (by omega)
    omega
  | weeks n ws =>
    simp only [begins, stretchOf, mul_step] at *
    have := dv (d - (f - f % 7)) (7 * n) (by have := hok.1.1; omega) (by omega)
    omega
  | dates n k =>
    simp only [begins, stretchOf, mul_step, Int.zero_mul, Int.add_zero] at *
    have hn := hok.1.1
    have hd := mo_spec d0
    have hm : mo f ≤ mo d := by
      by_cases q : mo f ≤ mo d
      · exact q
      · have := FO_le (a := mo d + 1) (b := mo f) (by omega)
        have := FO_step (mo d); omega
    have := dv (mo d - mo f) n (by omega) (by omega)
    have a1 := FO_le (a := mo f + max 0 ((mo d - mo f) / n) * n) (b := mo d) (by omega)
    have a2 := FO_le (a := mo d + 1) (b := mo f + (max 0 ((mo d - mo f) / n) * n + n)) (by omega)
    rw [FO_step] at a2
    omega
  | wds n k o =>
    simp only [begins, stretchOf, mul_step, Int.zero_mul, Int.add_zero] at *
    have hn := hok.1.1
    have hd := mo_spec d0
    have hm : mo f ≤ mo d := by
      by_cases q : mo f ≤ mo d
      · exact q
      · have := FO_le (a := mo d + 1) (b := mo f) (by omega)
        have := FO_step (mo d); omega
    have := dv (mo d - mo f) n (by omega) (by omega)
    have a1 := FO_le (a := mo f + max 0 ((mo d - mo f) / n) * n) (b := mo d) (by omega)
    have a2 := FO_le (a := mo d + 1) (b := mo f + (max 0 ((mo d - mo f) / n) * n + n)) (by omega)
    rw [FO_step] at a2
    omega
theorem stretch_lo {h : How} {f d : Int} (hok : HowOk h) (f0 : 2 ≤ f) (d0 : 0 ≤ d) (h1 : d < begins h f 0) : stretchOf h f d = 0 := by
  have dv : ∀ x n : Int, 0 < n → x < 0 → max 0 (x / n) = 0 := fun x n hn hx => by
    have := Int.ediv_lt_of_lt_mul (a := x) (b := 0) (c := n) hn (by omega)
    omega
  cases h with
  | once => rfl
  | days n => simp only [begins, stretchOf] at *; exact dv _ _ (by have := hok.1; omega) (by omega)
  | weeks n ws => simp only [begins, stretchOf] at *; exact dv _ _ (by have := hok.1.1; omega) (by omega)
  | dates n k =>
    simp only [begins, stretchOf, Int.zero_mul, Int.add_zero] at *
    refine dv _ _ (by have := hok.1.1; omega) ?_
    have hd := mo_spec d0
    by_cases q : mo d - mo f < 0
    · exact q
    · have := FO_le (a := mo f) (b := mo d) (by omega); omega
  | wds n k o =>
    simp only [begins, stretchOf, Int.zero_mul, Int.add_zero] at *
    refine dv _ _ (by have := hok.1.1; omega) ?_
    have hd := mo_spec d0
    by_cases q : mo d - mo f < 0
    · exact q
    · have := FO_le (a := mo f) (b := mo d) (by omega); omega
end G.C

namespace G
open PySem L2

mutual
/-- plain data of depth n at most, lists and texts of length m at most -/
def okz (m : Nat) : Nat → D → Bool
  | _, .non => true
  | _, .bl _ => true
  | _, .int i => decide (-10000000000000000000000000000000000000000000000000000000000000000 ≤ i ∧ i ≤ 10000000000000000000000000000000000000000000000000000000000000000)
  | _, .str x => PyData.strOk x && decide (x.length ≤ m)
  | n + 1, .tup ds => decide (ds.length ≤ m) && okzL m n ds
  | n + 1, .lst ds => decide (ds.length ≤ m) && okzL m n ds
  | _, _ => false
def okzL (m : Nat) : Nat → List D → Bool
  | _, [] => true
  | n, d :: ds => okz m n d && okzL m n ds
end
section
variable {m n : Nat} {i : Int} {b : Bool} {x : Str} {d : D} {ds es : List D}
theorem okz_i (h : -10000000000000000000000000000000000000000000000000000000000000000 ≤ i) (h2 : i ≤ 10000000000000000000000000000000000000000000000000000000000000000) : okz m n (.int i) = true := by cases n <;> simp [okz, h, h2]
theorem okz_id (h : okz m n (.int i) = true) : -10000000000000000000000000000000000000000000000000000000000000000 ≤ i ∧ i ≤ 10000000000000000000000000000000000000000000000000000000000000000 := by cases n <;> simpa [okz] using h
theorem okz_n : okz m n .non = true := by cases n <;> simp [okz]
theorem okz_b : okz m n (.bl b) = true := by cases n <;> simp [okz]
theorem okz_s : okz m n (.str x) = (PyData.strOk x && decide (x.length ≤ m)) := by cases n <;> simp [okz]
theorem okz_t : okz m (n + 1) (.tup ds) = (decide (ds.length ≤ m) && okzL m n ds) := by simp [okz]
theorem okz_l : okz m (n + 1) (.lst ds) = (decide (ds.length ≤ m) && okzL m n ds) := by simp [okz]
theorem okz_tl (h : ds.length ≤ m) (h2 : okzL m n ds = true) : okz m (n + 1) (.tup ds) = true := by rw [okz_t, decide_eq_true h, h2]; rfl
theorem okz_ll (h : ds.length ≤ m) (h2 : okzL m n ds = true) : okz m (n + 1) (.lst ds) = true := by rw [okz_l, decide_eq_true h, h2]; rfl
theorem okzL_n : okzL m n [] = true := by simp [okzL]
theorem okzL_c : okzL m n (d :: ds) = (okz m n d && okzL m n ds) := by simp [okzL]
theorem okzL_cc (h : okz m n d = true) (h2 : okzL m n ds = true) : okzL m n (d :: ds) = true := by rw [okzL_c, h, h2]; rfl
end
mutual
theorem okz_okd {m : Nat} : ∀ {n : Nat} {d : D}, okz m n d = true → okd n d = true
  | n, .non, h => okd_n
  | n, .bl _, h => okd_b
  | n, .int _, h => okd_i
  | n, .str x, h => by rw [okz_s, Bool.and_eq_true] at h; exact okd_s h.1
  | 0, .tup ds, h => by simp [okz] at h
  | n + 1, .tup ds, h => by
    rw [okz_t, Bool.and_eq_true] at h
    rw [okd_t]; exact okzL_okd h.2
  | 0, .lst ds, h => by simp [okz] at h
  | n + 1, .lst ds, h => by
    rw [okz_l, Bool.and_eq_true] at h
    rw [okd_l]; exact okzL_okd h.2
  | n, .frl _, h => by cases n <;> simp [okz] at h
  | n, .ins _ _ _, h => by cases n <;> simp [okz] at h
  | n, .obj _, h => by cases n <;> simp [okz] at h
theorem okzL_okd {m : Nat} : ∀ {n : Nat} {ds : List D}, okzL m n ds = true → okdL n ds = true
  | n, [], h => okdL_n
  | n, d :: ds, h => by
    rw [okzL_c, Bool.and_eq_true] at h
    rw [okdL_c, okz_okd h.1, okzL_okd h.2]; rfl
end
mutual
theorem okz_mono {m k : Nat} (hm : m ≤ k) : ∀ {n : Nat} {d : D}, okz m n d = true → okz k (n + 1) d = true
  | n, .non, h => okz_n
  | n, .bl _, h => okz_b
  | n, .int _, h => okz_i (okz_id h).1 (okz_id h).2
  | n, .str x, h => by
    rw [okz_s, Bool.and_eq_true, decide_eq_true_eq] at h
    rw [okz_s, h.1, decide_eq_true (by omega)]; rfl
  | 0, .tup ds, h => by simp [okz] at h
  | n + 1, .tup ds, h => by
    rw [okz_t, Bool.and_eq_true, decide_eq_true_eq] at h
    exact okz_tl (by omega) (okzL_mono hm h.2)
  | 0, .lst ds, h => by simp [okz] at h
  | n + 1, .lst ds, h => by
    rw [okz_l, Bool.and_eq_true, decide_eq_true_eq] at h
    exact okz_ll (by omega) (okzL_mono hm h.2)
  | n, .frl _, h => by cases n <;> simp [okz] at h
  | n, .ins _ _ _, h => by cases n <;> simp [okz] at h
  | n, .obj _, h => by cases n <;> simp [okz] at h
theorem okzL_mono {m k : Nat} (hm : m ≤ k) : ∀ {n : Nat} {ds : List D}, okzL m n ds = true → okzL k (n + 1) ds = true
  | n, [], h => okzL_n
  | n, d :: ds, h => by
    rw [okzL_c, Bool.and_eq_true] at h
    exact okzL_cc (okz_mono hm h.1) (okzL_mono hm h.2)
end
mutual
theorem okz_len {m k : Nat} (hm : m ≤ k) : ∀ {n : Nat} {d : D}, okz m n d = true → okz k n d = true
  | n, .non, h => okz_n
  | n, .bl _, h => okz_b
  | n, .int _, h => okz_i (okz_id h).1 (okz_id h).2
  | n, .str x, h => by
    rw [okz_s, Bool.and_eq_true, decide_eq_true_eq] at h
    rw [okz_s, h.1, decide_eq_true (by omega)]; rfl
  | 0, .tup ds, h => by simp [okz] at h
  | n + 1, .tup ds, h => by
    rw [okz_t, Bool.and_eq_true, decide_eq_true_eq] at h
    exact okz_tl (by omega) (okzL_len hm h.2)
  | 0, .lst ds, h => by simp [okz] at h
  | n + 1, .lst ds, h => by
    rw [okz_l, Bool.and_eq_true, decide_eq_true_eq] at h
    exact okz_ll (by omega) (okzL_len hm h.2)
  | n, .frl _, h => by cases n <;> simp [okz] at h
  | n, .ins _ _ _, h => by cases n <;> simp [okz] at h
  | n, .obj _, h => by cases n <;> simp [okz] at h
theorem okzL_len {m k : Nat} (hm : m ≤ k) : ∀ {n : Nat} {ds : List D}, okzL m n ds = true → okzL k n ds = true
  | n, [], h => okzL_n
  | n, d :: ds, h => by
    rw [okzL_c, Bool.and_eq_true] at h
    exact okzL_cc (okz_len hm h.1) (okzL_len hm h.2)
end
theorem okz_up {m k n l : Nat} {d : D} (h : okz m n d = true) (hm : m ≤ k) (hn : n ≤ l) : okz k l d = true := by
  induction hn with
  | refl => exact okz_len hm h
  | step _ ih => exact okz_mono (Nat.le_refl _) ih
theorem okzL_up {m k n l : Nat} {d : List D} (h : okzL m n d = true) (hm : m ≤ k) (hn : n ≤ l) : okzL k l d = true := by
  induction hn with
  | refl => exact okzL_len hm h
  | step _ ih => exact okzL_mono (Nat.le_refl _) ih
theorem toString_len {i : Int} (h1 : -10000000000000000000000000000000000000000000000000000000000000000 ≤ i) (h2 : i ≤ 10000000000000000000000000000000000000000000000000000000000000000) : (Str.ofString (toString i)).length ≤ 70 := by
  have e : ∀ s : String, (Str.ofString s).length = s.length := fun s => by
    unfold Str.ofString Str.length
    rw [cpsOfBytes_string]
    simp [String.length_toList]
  have r : ∀ n : Nat, n < 10 ^ 69 → n.repr.length ≤ 69 := fun n h => by
    have := (Nat.length_toDigits_le_iff (b := 10) (n := n) (k := 69) (by decide) (by decide)).mpr h
    have e : n.repr.length = (Nat.toDigits 10 n).length := by simp [Nat.repr]
    omega
  rw [e]
  show (Int.repr i).length ≤ 70
  cases i with
  | ofNat n =>
    have := r n (by have : (10:Nat)^69 > 10000000000000000000000000000000000000000000000000000000000000000 := by decide
                    have : ((n : Nat) : Int) ≤ 10000000000000000000000000000000000000000000000000000000000000000 := h2
                    omega)
    show n.repr.length ≤ 70
    omega
  | negSucc n =>
    have := r (n + 1) (by have : (10:Nat)^69 > 10000000000000000000000000000000000000000000000000000000000000000 := by decide
                          have : -10000000000000000000000000000000000000000000000000000000000000000 ≤ Int.negSucc n := h1
                          rw [Int.negSucc_eq] at this
                          omega)
    show ("-" ++ (n + 1).repr).length ≤ 70
    rw [String.length_append]
    have : "-".length = 1 := rfl
    omega
theorem p_strZ {i : Int} {S : Sto} (h1 : -10000000000000000000000000000000000000000000000000000000000000000 ≤ i) (h2 : i ≤ 10000000000000000000000000000000000000000000000000000000000000000) : pStr [.int i] S = .ok (.str (toString i)) S := by
  show mk _ _ _ = _
  have : i.natAbs.log2 < 1920 := by
    by_cases hx : i.natAbs = 0
    · rw [hx]; decide
    · have : i.natAbs < 2 ^ 220 := by
        have : (2:Nat)^220 > 10000000000000000000000000000000000000000000000000000000000000000 := by decide
        omega
      have := (Nat.log2_lt hx).mpr this
      omega
  rw [decide_eq_true this]; rfl
section
variable {m n : Nat} {d : D} {ds es : List D}
theorem okzL_mem (h : okzL m n ds = true) : ∀ d ∈ ds, okz m n d = true := by
  induction ds with
  | nil => intro d m; cases m
  | cons d ds ih =>
    rw [okzL_c, Bool.and_eq_true] at h
    intro e m
    rcases List.mem_cons.mp m with rfl | m
    · exact h.1
    · exact ih h.2 e m
theorem okzL_of (h : ∀ d ∈ ds, okz m n d = true) : okzL m n ds = true := by
  induction ds with
  | nil => exact okzL_n
  | cons d ds ih => exact okzL_cc (h d List.mem_cons_self) (ih fun e he => h e (List.mem_cons_of_mem _ he))
theorem okzL_append (h : okzL m n ds = true) (h2 : okzL m n es = true) : okzL m n (ds ++ es) = true := okzL_of fun d hd => by
  rcases List.mem_append.mp hd with q | q
  · exact okzL_mem h d q
  · exact okzL_mem h2 d q
theorem okzL_sub (h : okzL m n ds = true) (hb : ∀ d ∈ es, d ∈ ds) : okzL m n es = true := okzL_of fun d m => okzL_mem h d (hb d m)
theorem okzL_take {k : Nat} (h : okzL m n ds = true) : okzL m n (ds.take k) = true := okzL_sub h fun d m => List.mem_of_mem_take m
theorem okzL_drop {k : Nat} (h : okzL m n ds = true) : okzL m n (ds.drop k) = true := okzL_sub h fun d m => List.mem_of_mem_drop m
theorem okzL_rev (h : okzL m n ds = true) : okzL m n ds.reverse = true := okzL_sub h fun d m => List.mem_reverse.mp m
theorem okzL_get {i : Nat} (h : okzL m n ds = true) (e : ds[i]? = some d) : okz m n d = true := okzL_mem h d (List.mem_of_getElem? e)
theorem okz_td (h : okz m (n + 1) (.tup ds) = true) : ds.length ≤ m ∧ okzL m n ds = true := by
  rwa [okz_t, Bool.and_eq_true, decide_eq_true_eq] at h
theorem okz_ld (h : okz m (n + 1) (.lst ds) = true) : ds.length ≤ m ∧ okzL m n ds = true := by
  rwa [okz_l, Bool.and_eq_true, decide_eq_true_eq] at h
theorem okz_tp (h : okz m n (.tup ds) = true) : ds.length ≤ m ∧ okzL m (n - 1) ds = true := by
  cases n with
  | zero => simp [okz] at h
  | succ n => exact okz_td h
end
theorem okz_lit {m n : Nat} (s : String) (h : s.length ≤ m) : okz m n (.str (Str.ofString s)) = true := by
  rw [okz_s, strOk_of]
  have : (Str.ofString s).length = s.length := by
    unfold Str.ofString Str.length
    rw [cpsOfBytes_string]
    simp [String.length_toList]
  rw [this, decide_eq_true h]; rfl
mutual
/-- .. without truths and lists, numbers small -/
def nob (m : Nat) : Nat → D → Bool
  | _, .non => true
  | _, .int i => decide (-1000000000 ≤ i ∧ i ≤ 1000000000)
  | _, .str x => PyData.strOk x && decide (x.length ≤ m)
  | n + 1, .tup ds => decide (ds.length ≤ m) && nobL m n ds
  | _, _ => false
def nobL (m : Nat) : Nat → List D → Bool
  | _, [] => true
  | n, d :: ds => nob m n d && nobL m n ds
end
section
variable {m n : Nat} {i : Int} {b : Bool} {x : Str} {d : D} {ds es : List D}
theorem nob_i (h : -1000000000 ≤ i) (h2 : i ≤ 1000000000) : nob m n (.int i) = true := by cases n <;> simp [nob, h, h2]
theorem nob_id (h : nob m n (.int i) = true) : -1000000000 ≤ i ∧ i ≤ 1000000000 := by cases n <;> simpa [nob] using h
theorem nob_n : nob m n .non = true := by cases n <;> simp [nob]
theorem nob_s : nob m n (.str x) = (PyData.strOk x && decide (x.length ≤ m)) := by cases n <;> simp [nob]
theorem nob_t : nob m (n + 1) (.tup ds) = (decide (ds.length ≤ m) && nobL m n ds) := by simp [nob]
theorem nob_tl (h : ds.length ≤ m) (h2 : nobL m n ds = true) : nob m (n + 1) (.tup ds) = true := by rw [nob_t, decide_eq_true h, h2]; rfl
theorem nob_td (h : nob m (n + 1) (.tup ds) = true) : ds.length ≤ m ∧ nobL m n ds = true := by
  rwa [nob_t, Bool.and_eq_true, decide_eq_true_eq] at h
theorem nobL_n : nobL m n [] = true := by simp [nobL]
theorem nobL_c : nobL m n (d :: ds) = (nob m n d && nobL m n ds) := by simp [nobL]
theorem nobL_cc (h : nob m n d = true) (h2 : nobL m n ds = true) : nobL m n (d :: ds) = true := by rw [nobL_c, h, h2]; rfl
theorem nob_lit (s : String) (h : s.length ≤ m) : nob m n (.str (Str.ofString s)) = true := by
  have := okz_lit (m := m) (n := n) s h
  rw [okz_s] at this
  rw [nob_s]; exact this
theorem nobL_mem (h : nobL m n ds = true) : ∀ d ∈ ds, nob m n d = true := by
  induction ds with
  | nil => intro d m; cases m
  | cons d ds ih =>
    rw [nobL_c, Bool.and_eq_true] at h
    intro e m
    rcases List.mem_cons.mp m with rfl | m
    · exact h.1
    · exact ih h.2 e m
theorem nobL_of (h : ∀ d ∈ ds, nob m n d = true) : nobL m n ds = true := by
  induction ds with
  | nil => exact nobL_n
  | cons d ds ih => exact nobL_cc (h d List.mem_cons_self) (ih fun e he => h e (List.mem_cons_of_mem _ he))
theorem nob_kinds (h : nob m n d = true) : (∃ k ds, n = k + 1 ∧ d = .tup ds ∧ ds.length ≤ m ∧ nobL m k ds = true) ∨ (∃ i, d = .int i ∧ -1000000000 ≤ i ∧ i ≤ 1000000000) ∨ (∃ x, d = .str x) ∨ d = .non := by
  cases d with
  | tup ds =>
    cases n with
    | zero => simp [nob] at h
    | succ n => exact .inl ⟨n, ds, rfl, rfl, nob_td h⟩
  | int i => exact .inr (.inl ⟨i, rfl, nob_id h⟩)
  | str i => exact .inr (.inr (.inl ⟨i, rfl⟩))
  | non => exact .inr (.inr (.inr rfl))
  | _ => cases n <;> simp [nob] at h
end
mutual
theorem nob_okz {m : Nat} : ∀ {n : Nat} {d : D}, nob m n d = true → okz m n d = true
  | n, .non, h => okz_n
  | n, .bl _, h => by cases n <;> simp [nob] at h
  | n, .int _, h => by have := nob_id h; exact okz_i (by omega) (by omega)
  | n, .str x, h => by rw [nob_s] at h; rw [okz_s]; exact h
  | 0, .tup ds, h => by simp [nob] at h
  | n + 1, .tup ds, h => okz_tl (nob_td h).1 (nobL_okz (nob_td h).2)
  | n, .lst ds, h => by cases n <;> simp [nob] at h
  | n, .frl _, h => by cases n <;> simp [nob] at h
  | n, .ins _ _ _, h => by cases n <;> simp [nob] at h
  | n, .obj _, h => by cases n <;> simp [nob] at h
theorem nobL_okz {m : Nat} : ∀ {n : Nat} {ds : List D}, nobL m n ds = true → okzL m n ds = true
  | n, [], h => okzL_n
  | n, d :: ds, h => by
    rw [nobL_c, Bool.and_eq_true] at h
    exact okzL_cc (nob_okz h.1) (nobL_okz h.2)
end
mutual
theorem okz_scp {m : Nat} : ∀ {n : Nat} {d : D}, okz m n d = true → scp 0 d = true
  | n, .non, h => rfl
  | n, .bl _, h => rfl
  | n, .int _, h => rfl
  | n, .str x, h => rfl
  | 0, .tup ds, h => by simp [okz] at h
  | n + 1, .tup ds, h => by simpa [scp] using okzL_scp (okz_td h).2
  | 0, .lst ds, h => by simp [okz] at h
  | n + 1, .lst ds, h => by simpa [scp] using okzL_scp (okz_ld h).2
  | n, .frl _, h => by cases n <;> simp [okz] at h
  | n, .ins _ _ _, h => by cases n <;> simp [okz] at h
  | n, .obj _, h => by cases n <;> simp [okz] at h
theorem okzL_scp {m : Nat} : ∀ {n : Nat} {ds : List D}, okzL m n ds = true → scpL 0 ds = true
  | n, [], h => rfl
  | n, d :: ds, h => by
    rw [okzL_c, Bool.and_eq_true] at h
    simp [scpL, okz_scp h.1, okzL_scp h.2]
end
theorem okz_scp2 {m n : Nat} {d : D} (h : okz m n d = true) : scpL 0 [d, d] = true := by simp [scpL, okz_scp h]
end G

namespace G
open PySem L2

section
variable {env : Env} {S : Sto} {E : EX} {K : KD} {KF' : KF} {fa fb fc : Ex} {d x y : D} {ds : List D} {fs gs : Sem1 (List D)} {c n : Nat} {m f : Str} {ms : List (Nat × FnSem)} {cs : List Nat} {sem : FnSem}
def fldOf (cs : List Nat) (f : Str) (S : Sto) (x : D) : Option D := match insOf S x with
  | some (c, fs) => if c ∈ cs then fs.lookup f else none
  | none => none
def kFld (cs : List Nat) (f : Str) (K : KD) : KD := fun x S => optK (fldOf cs f S x) id K S
theorem x_fld : Tx (eFld cs f fa env S) K E = Tx (fa env S) (kFld cs f K) E := by
  unfold eFld; rw [x_bind]; congr 1; funext x S; unfold kFld fldOf
  cases insOf S x with
  | none => with_unfolding_all rfl
  | some p =>
    obtain ⟨c, fs⟩ := p
    simp only []
    split
    · exact x_opt
    · with_unfolding_all rfl
theorem k_fld : kFld cs f K x S = optK (fldOf cs f S x) id K S := rfl
def lkF (f : Str) : List Str → List D → Option D
  | k :: ks, d :: ds => if f = k then some d else lkF f ks ds
  | _, _ => none
theorem lookup_lkF : ∀ {ks : List Str} {ds : List D}, (ks.zip ds).lookup f = lkF f ks ds
  | [], _ => by simp [lkF]
  | _ :: _, [] => by simp [lkF]
  | k :: ks, d :: ds => by
    rw [List.zip_cons_cons, List.lookup_cons, lkF, lookup_lkF]
    by_cases h : f = k
    · subst h; simp
    · rw [if_neg h, show (f == k) = false from by simpa using h]
theorem lkF_c {k : Str} {ks : List Str} : lkF f (k :: ks) (d :: ds) = if f = k then some d else lkF f ks ds := rfl
theorem lkF_n : lkF f [] ds = none := by cases ds <;> with_unfolding_all rfl
theorem fld_ins {ks : List Str} : fldOf cs f S (.ins c ks ds) = if c ∈ cs then lkF f ks ds else none := by
  unfold fldOf insOf
  simp only [lookup_lkF]
theorem k_optI {d : D} : optK (some d) id K S = K d S := rfl
def methOf (m : Str) (ms : List (Nat × FnSem)) (S : Sto) (x : D) : Option FnSem := match insOf S x with
  | some (c, at_) => (match lkM ms c, at_.lookup m with
    | some sem, none => some sem
    | _, _ => none)
  | none => none
def kMeth2 (n : Nat) (sem : FnSem) (x : D) (K : KD) (E : EX) : KL := fun ds S2 => ds.length + 1 = n ∧ Tx (sem (x :: ds) S2) K E
def kMethG (n : Nat) (fs : Sem1 (List D)) (env : Env) (x : D) (K : KD) (E : EX) (S : Sto) : Option FnSem → Prop
  | some sem => Tx (fs env S) (kMeth2 n sem x K E) E
  | none => False
def kMeth (m : Str) (ms : List (Nat × FnSem)) (n : Nat) (fs : Sem1 (List D)) (env : Env) (K : KD) (E : EX) : KD := fun x S => kMethG n fs env x K E S (methOf m ms S x)
theorem x_meth : Tx (eMeth m ms n fa fs env S) K E = Tx (fa env S) (kMeth m ms n fs env K E) E := by
  unfold eMeth; rw [x_bind]; congr 1; funext x S; unfold kMeth methOf
  cases insOf S x with
  | none => with_unfolding_all rfl
  | some p =>
    obtain ⟨c, at_⟩ := p
    cases hk : lkM ms c with
    | none => simp only [hk]; with_unfolding_all rfl
    | some sem =>
      cases hl : at_.lookup m with
      | some d => simp only [hk, hl]; with_unfolding_all rfl
      | none =>
        simp only [hk, hl, kMethG]
        rw [x_bind]; congr 1; funext ds S2; unfold kMeth2; split <;> simp_all [Tx]
theorem k_meth : kMeth m ms n fs env K E x S = kMethG n fs env x K E S (methOf m ms S x) := rfl
theorem k_methS : kMethG n fs env x K E S (some sem) = Tx (fs env S) (kMeth2 n sem x K E) E := by with_unfolding_all rfl
theorem k_meth2 (h : ds.length + 1 = n) : kMeth2 n sem x K E ds S = Tx (sem (x :: ds) S) K E := by
  unfold kMeth2; simp [h]
theorem meth_ins {ks : List Str} : methOf m ms S (.ins c ks ds) = (match lkF m ks ds with | none => lkM ms c | some _ => none) := by
  unfold methOf insOf
  simp only [lookup_lkF]
  cases lkM ms c <;> cases lkF m ks ds <;> with_unfolding_all rfl
theorem lkM_c {a : Nat} {s : FnSem} {r : List (Nat × FnSem)} : lkM ((a, s) :: r) c = if a = c then some s else lkM r c := by
  unfold lkM
  rw [List.find?_cons]
  by_cases h : a = c
  · simp [h]
  · simp [h]
theorem getElem_snoc {o : MO} : (S ++ [o])[S.length]? = some o := by simp
theorem setO_new {fl : List (Str × D)} : setO cs f (.obj S.length) y (S ++ [.ins c fl]) = if c ∈ cs then (if fl.length < 1000 then some (S ++ [.ins c (putFD f y fl)]) else none) else none := by
  unfold setO
  simp only [getElem_snoc]
  have e : (S ++ [MO.ins c fl]).set S.length (.ins c (putFD f y fl)) = S ++ [.ins c (putFD f y fl)] := by
    rw [List.set_append_right _ _ (Nat.le_refl _)]
    simp
  rw [e]
  by_cases h1 : c ∈ cs <;> by_cases h2 : fl.length < 1000 <;> simp [h1, h2]
theorem insOf_new {fl : List (Str × D)} : insOf (S ++ [.ins c fl]) (.obj S.length) = some (c, fl) := by
  unfold insOf
  simp only [getElem_snoc]
def lkP (f : Str) : List (Str × D) → Option D
  | (k, d) :: r => if f = k then some d else lkP f r
  | [] => none
theorem lookup_lkP : ∀ {fl : List (Str × D)}, fl.lookup f = lkP f fl
  | [] => rfl
  | (k, d) :: r => by
    rw [List.lookup_cons, lkP, lookup_lkP]
    by_cases h : f = k
    · subst h; simp
    · rw [if_neg h, show (f == k) = false from by simpa using h]
theorem lkP_c {k : Str} {r : List (Str × D)} : lkP f ((k, d) :: r) = if f = k then some d else lkP f r := rfl
theorem fld_new {fl : List (Str × D)} : fldOf cs f (S ++ [.ins c fl]) (.obj S.length) = if c ∈ cs then lkP f fl else none := by
  unfold fldOf
  rw [insOf_new]
  simp only [lookup_lkP]
def setK (env : Env) (K : KF) : Option Sto → Prop
  | some S4 => K (.nx env) S4
  | none => False
theorem k_setK {S4 : Sto} : setK env KF' (some S4) = KF' (.nx env) S4 := rfl
def kSFld1 (cs : List Nat) (f : Str) (fo : Ex) (env : Env) (K : KF) (E : EX) : KD := fun y S1 => Tx (fo env S1) (fun x S2 => setK env K (setO cs f x y S2)) (kX env K)
def kSFld2 (cs : List Nat) (f : Str) (y : D) (env : Env) (K : KF) : KD := fun x S2 => setK env K (setO cs f x y S2)
theorem x_sFld : Tx (sFld cs f fa fb env S) KF' E = Tx (fb env S) (kSFld1 cs f fa env KF' E) (kX env KF') := by
  unfold sFld; simp only [x_bs]; unfold kSFld1 kX; congr 1; funext v S; congr 1; funext o S
  cases setO cs f o v S <;> with_unfolding_all rfl
theorem k_sfld1 : kSFld1 cs f fa env KF' E y S = Tx (fa env S) (kSFld2 cs f y env KF') (kX env KF') := by with_unfolding_all rfl
theorem k_sfld2 : kSFld2 cs f y env KF' x S = setK env KF' (setO cs f x y S) := rfl
theorem frzO_new {fl : List (Str × D)} (h : scpL S.length (fl.map (·.2)) = true) : frzO S (S ++ [.ins c fl]) = .ok (.ins c (fl.map (·.1)) (fl.map (·.2))) S := by
  unfold frzO
  simp only [getElem_snoc]
  rw [if_pos ⟨trivial, h⟩]
/-- an instance is made that never changes -/
theorem x_makeF (c' : Nat) (fl : List (Str × D)) {K : KD} (hl : ds.length + 1 = n) (hs : Tri (sem (.obj S.length :: ds) (S ++ [.ins c []])) (fun d S2 => d = .non ∧ S2 = S ++ [.ins c fl])) (h : scpL S.length (fl.map (·.2)) = true) (k : K (.ins c (fl.map (·.1)) (fl.map (·.2))) S) :
    Tx (eMakeF c n sem (fun _ S => .ok ds S) env S) K E := by
  obtain ⟨d, S2, e, rfl, rfl⟩ := hs.eq
  show Tx ((R.ok ds S).bind _) K E
  unfold R.bind
  simp only []
  rw [if_pos hl, e]
  simp only []
  rw [frzO_new h, x_ok]
  exact k
def kMakeF (c n : Nat) (sem : FnSem) (K : KD) (E : EX) : KL := fun ds S1 => ds.length + 1 = n ∧ ∃ fl, Tri (sem (.obj S1.length :: ds) (S1 ++ [.ins c []])) (fun d S2 => d = .non ∧ S2 = S1 ++ [.ins c fl]) ∧ scpL S1.length (fl.map (·.2)) = true ∧ K (.ins c (fl.map (·.1)) (fl.map (·.2))) S1
theorem x_makeFI (h : Tx (fs env S) (kMakeF c n sem K E) E) : Tx (eMakeF c n sem fs env S) K E := by
  show Tx ((fs env S).bind _) K E
  rw [x_bind]
  refine h.use fun ds S1 ⟨hl, fl, hs, hsc, k⟩ => ?_
  obtain ⟨d, S2, e, rfl, rfl⟩ := hs.eq
  rw [if_pos hl, e]
  simp only []
  rw [frzO_new hsc, x_ok]
  exact k
end
end G

namespace G
open PySem L2 C
local macro_rules
  | `(tactic| simp_all_arith! only [$xs,*]) => `(tactic| simp -implicitDefEqProofs (disch := first | assumption | omega | (simp only [okd_i, okd_n, okd_b, okd_s, strOk_of, okd_t, okd_l, okdL_n, okdL_c, Bool.and_true, Bool.and_self, *]; done) | (simp only [List.length_cons, List.length_nil, List.length_append, List.length_map, List.length_set, List.length_take, List.length_drop, List.length_reverse, rangeD_len, zipD_len, enumD_len] <;> omega)) only [x_ok, at0, at1, at2, at3, at4, at5, x_dict, k_dict, x_pairsN, x_pairsC, k_p1, k_p2, k_p3i, k_p3s, cut_ns, cut_sn, cut_ss, sl_L, sl_F, sl_T, sl_S, x_exc, slotV_v, slotO_v, slotO_o, x_var, x_own, x_c, x_bin, k_bin1, k_bin2, x_neg, k_neg, x_tup, k_tup, x_lst, k_lst, x_nCat, k_cat1, k_cat2, x_nRep, k_rep1, k_rep2, x_frz, k_frz, x_nil, x_cons, k_cons1, k_cons2, x_val, k_val, tr_bl, tr_non, tr_int, tr_lst, tr_tup, tr_frl, tr_str, x_and, x_or, x_not, k_and, k_or, k_not, x_tT, x_ifE, k_ifE, x_andV, x_orV, x_notV, k_andV, k_orV, k_notV, x_chain, k_ch1, k_ch2, k_ch3, x_call, x_callN, k_call, x_opt, k_some, x_isi, k_isi, x_oNone, x_oSome, k_oSome, x_nSl, k_nsl1, k_nsl2, k_nsl3L, k_nsl3F, x_sl, k_sl1, k_sl2, k_sl3, x_rev, k_rev, k_revT, x_fn, k_fn, x_fnB, k_fnB, x_tStill, k_stB, x_eStill, envB_t, envB_f, envB_n, envB_e, frzB_u, frzB_o, frzB_v, frzB_i, frzB_b, frzB_s, frzB_non, frzB_t, frzB_l, k_nolB, k_nolI, k_nolS, k_nolN, x_seq, k_seqL, k_seqT, k_seqF, k_seqS, x_rng1, k_rng1, x_rng2, k_rng2a, k_rng2b, x_enum, k_enum, k_enumT, x_zip, k_zipL, k_zipT, k_zipM, k_zipN, x_lc, k_lc, x_sNil, x_sSeq, k_sqn, k_sqr, k_sqb, k_sqc, k_sqx, x_sExpr, k_expr, x_sRet, k_ret, x_sRetN, x_sRetO, k_retO, x_sRetL, k_retL, x_nFn, k_fnN, k_sqo, k_turnO, k_wtO, x_runN, k_runO, k_runOX, x_sBrk, x_sCnt, x_sSet, k_set, x_sOwn, k_own, tg_some, x_sTg, k_tg, gN_ok, gT_t, gTs_n, gTs_c, x_sIf, k_if, x_sFor, k_for, x_sWhile, x_sFrz, frzE_eq, frz_o, frz_v, frz_u, slotL_o, k_mod, x_modE, x_withO, x_sApp, k_appL, k_app, hApp_ok, x_sIns, k_insL, k_ins1, k_ins2, hIns_ok, x_sRevO, k_revO, x_sClrO, k_clrO, x_sExt, k_extL, k_ext, hExt_ok, x_sSetIx, k_setIxL, k_setIx1, k_setIx2, k_putK, x_sPut, k_put1, k_put2, k_put3, x_sPar, k_par, x_sPar3, k_par3, x_run, k_runN, k_runR, k_runX, k_x, q_add, q_sub, q_addBI, q_addIB, q_subBI, q_subIB, p_strB, p_strS, tI_t, tI_f, q_mul, q_rep, q_div, q_mod, q_lt, q_le, q_gt, q_ge, q_eq, q_ne, q_is, q_isn, q_isB, q_isnB, x_idx, k_idx1, k_idx2, q_catL, q_catT, q_catS, isNon_non, isNon_int, isNon_bl, isNon_str, isNon_tup, isNon_lst, p_divmod, p_lenL, p_lenT, p_lenF, p_lenS, p_intB, p_intI, p_max2, p_min2, p_tupL, p_tupT, p_lstL, p_lstT, p_lstF, is_intI, is_intB, is_intS, is_intN, is_intT, is_intL, is_blI, is_blB, is_blS, is_blN, is_blT, is_blL, is_strI, is_strB, is_strS, is_strN, is_strT, is_strL, is_tupI, is_tupB, is_tupS, is_tupN, is_tupT, is_tupL, is_lstI, is_lstB, is_lstS, is_lstN, is_lstT, is_lstL, opIx_lst, opIx_tup, opIx_frl, k_midN, k_midC, k_midB, k_midR, k_midO, k_midX, k_turnN, k_turnC, k_turnB, k_turnR, k_turnX, k_wtN, k_wtC, k_wtB, k_wtR, k_wtX, k_wc, k_le, frzE_eq, turn_eq, turnC_eq, k_le, forL_nil, lcL_nil, startE, decide_eq_true_eq, decide_eq_false_iff_not, decide_true, decide_false, Bool.not_eq_true', Bool.not_eq_eq_eq_not, Bool.not_true, Bool.not_false, Bool.true_eq_false, Bool.false_eq_true, Bool.not_not, Option.bind_some, Option.map_some, List.map_cons, List.map_nil, List.length_cons, List.length_nil, List.cons_append, List.nil_append, List.set_cons_zero, List.set_cons_succ, List.getElem?_cons_zero, List.getElem?_cons_succ, List.length_set, ↓reduceIte, if_true, if_false, ite_self, List.replicate, List.take_succ_cons, List.take_zero, List.drop_succ_cons, List.drop_zero, List.flatten_cons, List.flatten_nil, Int.reduceToNat, List.isEmpty_cons, List.isEmpty_nil, Nat.reduceAdd, Nat.reduceSub, Nat.reduceLT, Nat.reduceLeDiff, Nat.reduceEqDiff, Int.cast_ofNat_Int, not_true_eq_false, not_false_eq_true, Int.reduceAdd, Int.reduceSub, Int.reduceMul, Int.reduceLT, Int.reduceLE, Int.reduceEq, Int.reduceNe, Int.reduceNeg, Int.zero_add, ne_eq, id, wipeE, lcL_nil, eq_self, and_true, true_and, D.int.injEq, D.bl.injEq, ofS_eq, String.reduceEq, q_eqD, q_neD, q_inT, q_inL, q_ninT, q_ninL, beq_self_eq_true, List.any_cons, List.any_nil, Bool.or_false, Bool.false_or, Bool.or_true, Bool.true_or, deq_nb, deq_ni, deq_ns, deq_nt, deq_nl, deq_bn, deq_bs, deq_bt, deq_bl, deq_in, deq_is, deq_it, deq_il, deq_sn, deq_sb, deq_si, deq_st, deq_sl, deq_tn, deq_tb, deq_ti, deq_ts, deq_tl, deq_ln, deq_lb, deq_li, deq_ls, deq_lt, deq_nn, deq_bb, deq_ii, deq_ss, deq_tt, deq_ll, deqL_nn, deqL_cc, deqL_nc, deqL_cn, okd_i, okd_n, okd_b, okd_t, okd_l, okdL_n, okdL_c, Bool.and_true, Bool.true_and, Bool.and_false, Bool.false_and, olt_t, olt_f, ole_t, ole_f, oeq_t, oeq_lt, oeq_gt, x_fld, k_fld, fld_ins, fld_new, lkP_c, lkF_c, lkF_n, meth_ins, lkM_c, k_optI, x_meth, k_meth, k_methS, k_meth2, x_sFld, k_sfld1, k_sfld2, k_setK, setO_new, putFD, List.mem_cons, List.not_mem_nil, or_true, true_or, or_false, false_or, or_self, Nat.reduceEqDiff, Nat.reduceSucc, reduceCtorEq, List.mem_nil_iff, false_and, and_false, and_self, $xs,*])

inductive Fin where
  | none
  | times (c : Int)
  | untl (u : Int)
def wsD (ws : List Int) : D := .tup (ws.map D.int)
def hD : How → D
  | .once => .tup [.str "once"]
  | .days n => .tup [.str "days", .int n]
  | .weeks n ws => .tup [.str "weeks", .int n, wsD ws]
  | .dates n d => .tup [.str "months", .int n, .int d]
  | .wds n k o => .tup [.str "months", .int n, .int k, .int o]
def eD : Fin → D
  | .none => .non
  | .times c => .tup [.str "times", .int c]
  | .untl u => .tup [.str "until", .int u]
structure Rul where
  first : Int
  minute : Int
  length : Int
  how : How
  fin : Fin
def ruD (r : Rul) : D := .tup [.int r.first, .int r.minute, .int r.length, hD r.how, eD r.fin]
def FinOk (f : Int) : Fin → Prop
  | .none => True
  | .times c => 1 ≤ c ∧ c ≤ 1000
  | .untl u => f ≤ u ∧ u ≤ 99990
structure RulOk (r : Rul) : Prop where
  f0 : 2 ≤ r.first
  f1 : r.first ≤ 99990
  how : HowOk r.how
  fin : FinOk r.first r.fin
noncomputable def leftOut (f : Int) (ws : List Int) : Int := ((ws.filter fun w => decide (f - f % 7 + w < f)).length : Nat)
noncomputable def cmD : How → Int → D
  | .once, f => .ins 0 ["first"] [.int f]
  | .days n, f => .ins 1 ["first", "step"] [.int f, .int n]
  | .weeks n ws, f => .ins 2 ["first", "monday", "step", "weekdays", "left_out"] [.int f, .int (f - f % 7), .int (7 * n), wsD ws, .int (leftOut f ws)]
  | .dates n d, f => .ins 4 ["first", "month", "step", "date"] [.int f, .int (mo f), .int n, .int d]
  | .wds n k o, f => .ins 5 ["first", "month", "step", "which", "one"] [.int f, .int (mo f), .int n, .int k, .int o]
theorem s_mo {d : Int} {S : Sto} (h : 0 ≤ d) (h2 : d ≤ 110000) : M.month_of [.int d] S = .ok (.int (mo d)) S := by
  have := mo_spec h
  exact s_month_of this.1 (by have := mo_hi h h2; omega) this.2.1 this.2.2
theorem s_Once_init {f : Int} {c : Nat} {S : Sto} (hc : c ∈ [0, 1, 2, 3, 4, 5]) : M.Once_init [.obj S.length, .int f] (S ++ [.ins c []]) = .ok .non (S ++ [.ins c [("first", .int f)]]) := by
  refine tri_eq ?_
  simp_all_arith! only [M.Once_init, M.b_Once_init, hc]
theorem s_mk_once {f : Int} {S : Sto} {K : KD} {E : EX} (h : K (cmD .once f) S) : kMakeF 0 2 M.Once_init K E [.int f] S :=
  ⟨rfl, [("first", .int f)], by rw [s_Once_init (by decide)]; unfold Tri; rw [x_ok]; exact ⟨rfl, rfl⟩, by simp [scpL, scp], h⟩
theorem s_mk_days {f n : Int} {S : Sto} {K : KD} {E : EX} (h : K (cmD (.days n) f) S) : kMakeF 1 3 M.Days_init K E [.int f, .int n] S := by
  refine ⟨rfl, [("first", .int f), ("step", .int n)], ?_, by simp [scpL, scp], h⟩
  have o := fun S => s_Once_init (f := f) (c := 1) (S := S) (by decide)
  simp_all_arith! only [M.Days_init, M.b_Days_init, o]
theorem s_mk_weeks {f n : Int} {ws : List Int} {S : Sto} {K : KD} {E : EX} (hn : 0 ≤ n) (hn2 : n ≤ 1000) (hl : ws.length ≤ 1000) (h : K (cmD (.weeks n ws) f) S) : kMakeF 2 4 M.Weeks_init K E [.int f, .int n, wsD ws] S := by
  refine ⟨rfl, [("first", .int f), ("monday", .int (f - f % 7)), ("step", .int (7 * n)), ("weekdays", wsD ws), ("left_out", .int (leftOut f ws))], ?_, ?_, h⟩
  · have o := fun S => s_Once_init (f := f) (c := 2) (S := S) (by decide)
    simp_all_arith! only [M.Weeks_init, M.b_Weeks_init, o, s_weekday, wsD]
    refine lc_pure (fun d => match d with | .int w => decide (f - f % 7 + w < f) | _ => false) id ?_ ?_
    · intro d hd
      obtain ⟨w, _, rfl⟩ := List.mem_map.mp hd
      by_cases h : f - f % 7 + w < f
      · simp_all_arith! only [h]
      · simp_all_arith! only [h]
    · have e : List.map id (List.filter (fun d => match d with | .int w => decide (f - f % 7 + w < f) | _ => false) (List.map D.int ws)) = (ws.filter fun w => decide (f - f % 7 + w < f)).map D.int := by
        rw [List.filter_map, List.map_id]; rfl
      have hle : (ws.filter fun w => decide (f - f % 7 + w < f)).length ≤ 1000 := Nat.le_trans (List.length_filter_le _ _) hl
      rw [e]
      simp_all_arith! only [List.length_map]
      rfl
  · have : ∀ (m : Nat) (l : List Int), scpL m (l.map D.int) = true := fun m l => by
      induction l with
      | nil => rfl
      | cons a r ih => simp [scpL, scp, ih]
    simp [scpL, scp, wsD, this]
theorem s_Months_init {f n : Int} {c : Nat} {S : Sto} (hc : c ∈ [3, 4, 5]) (f0 : 0 ≤ f) (f1 : f ≤ 99999) : M.Months_init [.obj S.length, .int f, .int n] (S ++ [.ins c []]) = .ok .non (S ++ [.ins c [("first", .int f), ("month", .int (mo f)), ("step", .int n)]]) := by
  refine tri_eq ?_
  have h3 : c = 3 ∨ c = 4 ∨ c = 5 := by simpa using hc
  rcases h3 with rfl | rfl | rfl
  · have o := fun S => s_Once_init (f := f) (c := 3) (S := S) (by decide)
    simp_all_arith! only [M.Months_init, M.b_Months_init, o, s_mo]
  · have o := fun S => s_Once_init (f := f) (c := 4) (S := S) (by decide)
    simp_all_arith! only [M.Months_init, M.b_Months_init, o, s_mo]
  · have o := fun S => s_Once_init (f := f) (c := 5) (S := S) (by decide)
    simp_all_arith! only [M.Months_init, M.b_Months_init, o, s_mo]
theorem s_mk_dates {f n d : Int} {S : Sto} {K : KD} {E : EX} (f0 : 0 ≤ f) (f1 : f ≤ 99999) (h : K (cmD (.dates n d) f) S) : kMakeF 4 4 M.Dates_init K E [.int f, .int n, .int d] S := by
  refine ⟨rfl, [("first", .int f), ("month", .int (mo f)), ("step", .int n), ("date", .int d)], ?_, by simp [scpL, scp], h⟩
  have o := fun S => s_Months_init (f := f) (n := n) (c := 4) (S := S) (by decide) f0 f1
  simp_all_arith! only [M.Dates_init, M.b_Dates_init, o]
theorem s_mk_wds {f n k w : Int} {S : Sto} {K : KD} {E : EX} (f0 : 0 ≤ f) (f1 : f ≤ 99999) (h : K (cmD (.wds n k w) f) S) : kMakeF 5 5 M.Weekdays_init K E [.int f, .int n, .int k, .int w] S := by
  refine ⟨rfl, [("first", .int f), ("month", .int (mo f)), ("step", .int n), ("which", .int k), ("one", .int w)], ?_, by simp [scpL, scp], h⟩
  have o := fun S => s_Months_init (f := f) (n := n) (c := 5) (S := S) (by decide) f0 f1
  simp_all_arith! only [M.Weekdays_init, M.b_Weekdays_init, o]
theorem ws_len {n : Int} {ws : List Int} (h : HowOk (.weeks n ws)) : ws.length ≤ 7 := by
  obtain ⟨_, _, h1, h2⟩ := h
  have key : ∀ (l : List Int) (a : Int), (∀ w ∈ l, a ≤ w ∧ w ≤ 6) → l.Pairwise (· < ·) → (l.length : Int) ≤ 7 - a ∨ l = [] := by
    intro l
    induction l with
    | nil => intro a _ _; exact .inr rfl
    | cons x r ih =>
      intro a h hp
      rw [List.pairwise_cons] at hp
      have hx := h x List.mem_cons_self
      rcases ih (x + 1) (fun w hw => ⟨by have := hp.1 w hw; omega, (h w (List.mem_cons_of_mem _ hw)).2⟩) hp.2 with q | q
      · left; simp only [List.length_cons]; omega
      · subst q; left; simp only [List.length_cons, List.length_nil]; omega
  rcases key ws 0 h2 h1 with q | q
  · omega
  · subst q; simp
theorem s_coming_of {r : Rul} {S : Sto} (h : RulOk r) : M.coming_of [ruD r] S = .ok (cmD r.how r.first) S := by
  obtain ⟨f, m, l, hw, e⟩ := r
  have h1 := h.f0
  have h2 := h.f1
  have h3 := h.how
  simp only at h1 h2 h3
  refine tri_eq ?_
  cases hw with
  | once =>
    simp_all_arith! only [M.coming_of, M.b_coming_of, ruD, hD]
    refine x_makeFI ?_
    simp_all_arith! only []
    exact s_mk_once (by simp_all_arith! only [])
  | days n =>
    simp_all_arith! only [M.coming_of, M.b_coming_of, ruD, hD]
    refine x_makeFI ?_
    simp_all_arith! only []
    exact s_mk_days (by simp_all_arith! only [])
  | weeks n ws =>
    have := ws_len h3
    have := h3.1
    simp_all_arith! only [M.coming_of, M.b_coming_of, ruD, hD]
    refine x_makeFI ?_
    simp_all_arith! only []
    exact s_mk_weeks (by omega) (by omega) (by omega) (by simp_all_arith! only [])
  | dates n d =>
    simp_all_arith! only [M.coming_of, M.b_coming_of, ruD, hD]
    refine x_makeFI ?_
    simp_all_arith! only []
    exact s_mk_dates (by omega) (by omega) (by simp_all_arith! only [])
  | wds n k o =>
    simp_all_arith! only [M.coming_of, M.b_coming_of, ruD, hD]
    refine x_makeFI ?_
    simp_all_arith! only []
    exact s_mk_wds (by omega) (by omega) (by simp_all_arith! only [])
def dB : How → FnSem
  | .once => M.Once_begins
  | .days _ => M.Days_begins
  | .weeks _ _ => M.Weeks_begins
  | .dates _ _ => M.Months_begins
  | .wds _ _ _ => M.Months_begins
def dD : How → FnSem
  | .once => M.Once_days_in
  | .days _ => M.Days_days_in
  | .weeks _ _ => M.Weeks_days_in
  | .dates _ _ => M.Months_days_in
  | .wds _ _ _ => M.Months_days_in
def dS : How → FnSem
  | .once => M.Once_stretch_of
  | .days _ => M.Days_stretch_of
  | .weeks _ _ => M.Weeks_stretch_of
  | .dates _ _ => M.Months_stretch_of
  | .wds _ _ _ => M.Months_stretch_of
def dA : How → FnSem
  | .once => M.Once_ahead_of
  | .days _ => M.Days_ahead_of
  | .weeks _ _ => M.Weeks_ahead_of
  | .dates _ _ => M.Months_ahead_of
  | .wds _ _ _ => M.Months_ahead_of
def dP : How → FnSem
  | .once => M.Once_at_place
  | .days _ => M.Days_at_place
  | .weeks _ _ => M.Weeks_at_place
  | .dates _ _ => M.Months_at_place
  | .wds _ _ _ => M.Months_at_place
section
variable {h : How} {f : Int} {S : Sto}
theorem m_begins : methOf "begins" [(0, M.Once_begins), (1, M.Days_begins), (2, M.Weeks_begins), (3, M.Months_begins), (4, M.Months_begins), (5, M.Months_begins)] S (cmD h f) = some (dB h) := by
  cases h <;> simp [cmD, meth_ins, lkF, lkM_c, dB, ofS_eq]
theorem m_days_in : methOf "days_in" [(0, M.Once_days_in), (1, M.Days_days_in), (2, M.Weeks_days_in), (3, M.Months_days_in), (4, M.Months_days_in), (5, M.Months_days_in)] S (cmD h f) = some (dD h) := by
  cases h <;> simp [cmD, meth_ins, lkF, lkM_c, dD, ofS_eq]
theorem m_stretch_of : methOf "stretch_of" [(0, M.Once_stretch_of), (1, M.Days_stretch_of), (2, M.Weeks_stretch_of), (3, M.Months_stretch_of), (4, M.Months_stretch_of), (5, M.Months_stretch_of)] S (cmD h f) = some (dS h) := by
  cases h <;> simp [cmD, meth_ins, lkF, lkM_c, dS, ofS_eq]
theorem m_ahead_of : methOf "ahead_of" [(0, M.Once_ahead_of), (1, M.Days_ahead_of), (2, M.Weeks_ahead_of), (3, M.Months_ahead_of), (4, M.Months_ahead_of), (5, M.Months_ahead_of)] S (cmD h f) = some (dA h) := by
  cases h <;> simp [cmD, meth_ins, lkF, lkM_c, dA, ofS_eq]
theorem m_at_place : methOf "at_place" [(0, M.Once_at_place), (1, M.Days_at_place), (2, M.Weeks_at_place), (3, M.Months_at_place), (4, M.Months_at_place), (5, M.Months_at_place)] S (cmD h f) = some (dP h) := by
  cases h <;> simp [cmD, meth_ins, lkF, lkM_c, dP, ofS_eq]
end
theorem s_begins {h : How} {f s : Int} {S : Sto} (hok : HowOk h) (f0 : 0 ≤ f) (f1 : f ≤ 99999) (s0 : 0 ≤ s) (s1 : s ≤ 200000) (hm : ∀ n d, h = .dates n d → mo f + s * n ≤ 60000) (hm2 : ∀ n k o, h = .wds n k o → mo f + s * n ≤ 60000) : dB h [cmD h f, .int s] S = .ok (.int (begins h f s)) S := by
  refine tri_eq ?_
  cases h with
  | once => simp_all_arith! only [dB, M.Once_begins, M.b_Once_begins, cmD, begins, k_LAST_DAY]
  | days n =>
    have := hok.1; have := hok.2
    simp_all_arith! only [dB, M.Days_begins, M.b_Days_begins, cmD, begins]
  | weeks n ws =>
    have := hok.1
    simp_all_arith! only [dB, M.Weeks_begins, M.b_Weeks_begins, cmD, begins]
  | dates n d =>
    have := hok.1
    have := hm n d rfl
    have hmo := mo_spec f0
    have := mo_hi f0 (by omega)
    have hsn : 0 ≤ s * n := Int.mul_nonneg s0 (by omega)
    simp_all_arith! only [dB, M.Months_begins, M.b_Months_begins, cmD, begins, s_first_of]
  | wds n k o =>
    have := hok.1
    have := hm2 n k o rfl
    have hmo := mo_spec f0
    have := mo_hi f0 (by omega)
    have hsn : 0 ≤ s * n := Int.mul_nonneg s0 (by omega)
    simp_all_arith! only [dB, M.Months_begins, M.b_Months_begins, cmD, begins, s_first_of]
theorem s_stretch_of {h : How} {f d : Int} {S : Sto} (hok : HowOk h) (f0 : 0 ≤ f) (f1 : f ≤ 99999) (d0 : 0 ≤ d) (d1 : d ≤ 99999) : dS h [cmD h f, .int d] S = .ok (.int (stretchOf h f d)) S := by
  refine tri_eq ?_
  have mx : ∀ x : Int, (if 0 < x then x else 0) = max 0 x := fun x => by split <;> omega
  cases h with
  | once => simp_all_arith! only [dS, M.Once_stretch_of, M.b_Once_stretch_of, cmD, stretchOf]
  | days n =>
    have := hok.1; have := hok.2
    simp_all_arith! only [dS, M.Days_stretch_of, M.b_Days_stretch_of, cmD, stretchOf, mx]
  | weeks n ws =>
    have := hok.1
    simp_all_arith! only [dS, M.Weeks_stretch_of, M.b_Weeks_stretch_of, cmD, stretchOf, mx]
  | dates n d =>
    have := hok.1
    simp_all_arith! only [dS, M.Months_stretch_of, M.b_Months_stretch_of, cmD, stretchOf, s_mo, mx]
  | wds n k o =>
    have := hok.1
    simp_all_arith! only [dS, M.Months_stretch_of, M.b_Months_stretch_of, cmD, stretchOf, s_mo, mx]
def Near (h : How) (f s : Int) : Prop := s = 0 ∨ begins h f (s - 1) ≤ 99999
theorem begins0_nn {h : How} {f : Int} (f0 : 0 ≤ f) : 0 ≤ begins h f 0 := by
  cases h with
  | once => simp [begins]; omega
  | days n => simp [begins]; omega
  | weeks n ws => simp only [begins]; omega
  | dates n d => simp only [begins, Int.zero_mul, Int.add_zero]; have := FO_le (mo_spec f0).1; have := FO0; have := (mo_spec f0).1; omega
  | wds n k o => simp only [begins, Int.zero_mul, Int.add_zero]; have := FO_le (mo_spec f0).1; have := FO0; have := (mo_spec f0).1; omega
theorem near_idx {h : How} {f s : Int} (hok : HowOk h) (f0 : 0 ≤ f) (f1 : f ≤ 99999) (s0 : 0 ≤ s) (hn : Near h f s) : s ≤ 100001 ∧ (∀ n d, h = .dates n d → mo f + s * n ≤ 5000) ∧ (∀ n k o, h = .wds n k o → mo f + s * n ≤ 5000) := by
  have hmo := mo_hi f0 (by omega)
  have idx : ∀ x : Int, FO x ≤ 99999 → x ≤ 3300 := fun x hx => by
    by_cases q : x ≤ 3300
    · exact q
    · have := FO_le (a := 3285) (b := x) (by omega)
      rw [FO3285] at this; omega
  have ee : ∀ n : Int, (s - 1) * n = s * n - n := fun n => by rw [Int.sub_mul, Int.one_mul]
  rcases hn with rfl | hn
  · exact ⟨by decide, fun n d _ => by rw [Int.zero_mul]; omega, fun n k o _ => by rw [Int.zero_mul]; omega⟩
  · refine ⟨?_, ?_, ?_⟩
    · by_cases q : s = 0
      · omega
      · have := begins_mono (h := h) (f := f) (a := 0) (b := s - 1) hok (by omega)
        have := begins0_nn (h := h) f0
        omega
    · rintro n d rfl
      simp only [begins] at hn
      have := idx _ hn
      have := ee n
      have := hok.1
      omega
    · rintro n k o rfl
      simp only [begins] at hn
      have := idx _ hn
      have := ee n
      have := hok.1
      omega
theorem n_begins {h : How} {f s : Int} {S : Sto} (hok : HowOk h) (f0 : 0 ≤ f) (f1 : f ≤ 99999) (s0 : 0 ≤ s) (hn : Near h f s) : dB h [cmD h f, .int s] S = .ok (.int (begins h f s)) S := by
  obtain ⟨a, b, c⟩ := near_idx hok f0 f1 s0 hn
  exact s_begins hok f0 f1 s0 (by omega) (fun n d e => by have := b n d e; omega) (fun n k o e => by have := c n k o e; omega)
def dtD (x : Int) : D := if x = 0 then .non else .int x
theorem s_Dates_date_in {f n d m : Int} {S : Sto} (hok : HowOk (.dates n d)) (m0 : 0 ≤ m) (m1 : m ≤ 60000) : M.Dates_date_in [cmD (.dates n d) f, .int m] S = .ok (dtD (dateIn (.dates n d) m)) S := by
  refine tri_eq ?_
  obtain ⟨_, h1, h2⟩ := hok
  unfold dtD
  simp only [dateIn]
  by_cases h : d ≤ ml m
  · simp_all_arith! only [M.Dates_date_in, M.b_Dates_date_in, cmD, s_month_length, h]
  · simp_all_arith! only [M.Dates_date_in, M.b_Dates_date_in, cmD, s_month_length, h]
theorem s_Weekdays_date_in {f n k o m : Int} {S : Sto} (hok : HowOk (.wds n k o)) (m0 : 0 ≤ m) (m1 : m ≤ 60000) : M.Weekdays_date_in [cmD (.wds n k o) f, .int m] S = .ok (dtD (dateIn (.wds n k o) m)) S := by
  refine tri_eq ?_
  obtain ⟨_, h1, h2, h3, h4, h5⟩ := hok
  have hml := ml_pos m
  have hb0 : 0 ≤ (o - FO m % 7) % 7 := Int.emod_nonneg _ (by decide)
  have hb1 : (o - FO m % 7) % 7 < 7 := Int.emod_lt_of_pos _ (by decide)
  unfold dtD
  simp only [dateIn, lastW]
  obtain ⟨b, hb⟩ : ∃ b, (o - FO m % 7) % 7 = b := ⟨_, rfl⟩
  rw [hb] at hb0 hb1
  by_cases hk : 0 < k
  · by_cases h : 1 + b + 7 * (k - 1) ≤ ml m
    · simp_all_arith! only [M.Weekdays_date_in, M.b_Weekdays_date_in, cmD, s_month_length, s_first_of, s_weekday, h, hk, hb]
    · simp_all_arith! only [M.Weekdays_date_in, M.b_Weekdays_date_in, cmD, s_month_length, s_first_of, s_weekday, h, hk, hb]
  · simp_all_arith! only [M.Weekdays_date_in, M.b_Weekdays_date_in, cmD, s_month_length, s_first_of, s_weekday, hk, hb]
    refine while_inv (fun env S1 => S1 = S ∧ ∃ t, 0 ≤ t ∧ 1 + b + 7 * t ≤ ml m ∧ env = [.val (cmD (.wds n k o) f), .val (.int m), .val (.int (1 + b + 7 * t))]) (fun env S1 => match env with | [_, _, .val (.int x)] => (40 - x).toNat | _ => 0) ⟨rfl, 0, by omega, by omega, by rw [Int.mul_zero, Int.add_zero]; rfl⟩ (by show (40 - (1 + b)).toNat < 1000000; omega) ?_
    rintro env S1 ⟨rfl, t, t0, t1, rfl⟩
    by_cases h : 1 + b + 7 * t + 7 ≤ ml m
    · simp_all_arith! only [s_month_length, h]
      refine ⟨⟨t + 1, by omega, by omega, ?_⟩, ?_⟩
      · rw [show 1 + b + 7 * (t + 1) = 1 + b + 7 * t + 7 from by omega]
      · omega
    · have e : 1 + b + 7 * ((ml m - (1 + b)) / 7) = 1 + b + 7 * t := by omega
      simp_all_arith! only [s_month_length, h, e]
theorem Months_days (h : How) (hx : (∃ n d, h = .dates n d) ∨ ∃ n k o, h = .wds n k o) {f s : Int} {S : Sto} (hok : HowOk h) (f0 : 0 ≤ f) (f1 : f ≤ 99999) (s0 : 0 ≤ s) (hn : Near h f s) : M.Months_days_in [cmD h f, .int s] S = .ok (.lst ((daysIn h f s).map D.int)) S := by
  obtain ⟨a, b, c⟩ := near_idx hok f0 f1 s0 hn
  have hmo := mo_spec f0
  refine tri_eq ?_
  rcases hx with ⟨n, d, rfl⟩ | ⟨n, k, o, rfl⟩
  · have hi := b n d rfl
    have hn1 := hok.1
    have hsn : 0 ≤ s * n := Int.mul_nonneg s0 (by omega)
    have hd := fun S => s_Dates_date_in (f := f) (m := mo f + s * n) (S := S) hok (by omega) (by omega)
    have hF := FO_le (a := 0) (b := mo f + s * n) (by omega)
    have hm := ml_pos (mo f + s * n)
    simp only [daysIn]
    by_cases z : dateIn (.dates n d) (mo f + s * n) = 0
    · rw [z, show dtD 0 = .non from rfl] at hd
      simp only [cmD] at hd
      rw [if_pos (.inl z)]
      simp_all_arith! only [M.Months_days_in, M.b_Months_days_in, cmD, hd]
    · have hdi := dateIn_in (f := f) hok z
      have hd2 : ∀ S, M.Dates_date_in [cmD (.dates n d) f, .int (mo f + s * n)] S = .ok (.int (dateIn (.dates n d) (mo f + s * n))) S := fun S => by rw [hd, dtD, if_neg z]
      simp only [cmD] at hd2
      by_cases q : FO (mo f + s * n) + dateIn (.dates n d) (mo f + s * n) - 1 < f
      · rw [if_pos (.inr q)]
        simp_all_arith! only [M.Months_days_in, M.b_Months_days_in, cmD, hd2, s_first_of, q]
      · rw [if_neg (by omega)]
        simp_all_arith! only [M.Months_days_in, M.b_Months_days_in, cmD, hd2, s_first_of, q]
  · have hi := c n k o rfl
    have hn1 := hok.1
    have hsn : 0 ≤ s * n := Int.mul_nonneg s0 (by omega)
    have hd := fun S => s_Weekdays_date_in (f := f) (m := mo f + s * n) (S := S) hok (by omega) (by omega)
    have hF := FO_le (a := 0) (b := mo f + s * n) (by omega)
    have hm := ml_pos (mo f + s * n)
    simp only [daysIn]
    by_cases z : dateIn (.wds n k o) (mo f + s * n) = 0
    · rw [z, show dtD 0 = .non from rfl] at hd
      simp only [cmD] at hd
      rw [if_pos (.inl z)]
      simp_all_arith! only [M.Months_days_in, M.b_Months_days_in, cmD, hd]
    · have hdi := dateIn_in (f := f) hok z
      have hd2 : ∀ S, M.Weekdays_date_in [cmD (.wds n k o) f, .int (mo f + s * n)] S = .ok (.int (dateIn (.wds n k o) (mo f + s * n))) S := fun S => by rw [hd, dtD, if_neg z]
      simp only [cmD] at hd2
      by_cases q : FO (mo f + s * n) + dateIn (.wds n k o) (mo f + s * n) - 1 < f
      · rw [if_pos (.inr q)]
        simp_all_arith! only [M.Months_days_in, M.b_Months_days_in, cmD, hd2, s_first_of, q]
      · rw [if_neg (by omega)]
        simp_all_arith! only [M.Months_days_in, M.b_Months_days_in, cmD, hd2, s_first_of, q]
theorem n_days_in {h : How} {f s : Int} {S : Sto} (hok : HowOk h) (f0 : 0 ≤ f) (f1 : f ≤ 99999) (s0 : 0 ≤ s) (hn : Near h f s) : dD h [cmD h f, .int s] S = .ok (.lst ((daysIn h f s).map D.int)) S := by
  cases h with
  | once =>
    refine tri_eq ?_
    simp only [daysIn]
    by_cases hs : s = 0
    · simp_all_arith! only [dD, M.Once_days_in, M.b_Once_days_in, cmD, hs]
    · simp_all_arith! only [dD, M.Once_days_in, M.b_Once_days_in, cmD, hs]
  | days n =>
    refine tri_eq ?_
    have hb := fun S => n_begins (S := S) hok f0 f1 s0 hn
    simp only [dB, cmD, begins] at hb
    simp_all_arith! only [dD, M.Days_days_in, M.b_Days_days_in, cmD, hb, daysIn]
  | weeks n ws =>
    refine tri_eq ?_
    have hb := fun S => n_begins (S := S) hok f0 f1 s0 hn
    have hwl := ws_len hok
    generalize hB : begins (.weeks n ws) f s = B at hb
    simp only [dB, cmD, wsD] at hb
    simp_all_arith! only [dD, M.Weeks_days_in, M.b_Weeks_days_in, cmD, wsD]
    refine lc_map (fun d => match d with | .int w => .int (B + w) | _ => .non) ?_ ?_
    · intro d hd
      obtain ⟨w, _, rfl⟩ := List.mem_map.mp hd
      simp_all_arith! only [hb]
    · have e : List.map (fun d => match d with | .int w => D.int (B + w) | _ => .non) (ws.map D.int) = (ws.map fun w => B + w).map D.int := by rw [List.map_map, List.map_map]; rfl
      rw [e]
      simp_all_arith! only [List.length_map]
      refine lc_pure (fun d => match d with | .int x => decide (f ≤ x) | _ => false) id ?_ ?_
      · intro d hd
        obtain ⟨x, _, rfl⟩ := List.mem_map.mp hd
        by_cases q : f ≤ x
        · simp_all_arith! only [q]
        · simp_all_arith! only [q]
      · have e2 : List.map id (List.filter (fun d => match d with | .int x => decide (f ≤ x) | _ => false) ((ws.map fun w => B + w).map D.int)) = (daysIn (.weeks n ws) f s).map D.int := by
          rw [List.filter_map, List.map_id]
          simp only [daysIn, hB]
          rfl
        rw [e2]
        simp_all_arith! only []
  | dates n d => exact Months_days _ (.inl ⟨n, d, rfl⟩) hok f0 f1 s0 hn
  | wds n k o => exact Months_days _ (.inr ⟨n, k, o, rfl⟩) hok f0 f1 s0 hn
theorem near_stretch {h : How} {f d : Int} (hok : HowOk h) (f0 : 2 ≤ f) (d0 : 0 ≤ d) (d1 : d ≤ 99999) : Near h f (stretchOf h f d) := by
  by_cases hb : d < begins h f 0
  · exact .inl (stretch_lo hok f0 d0 hb)
  · by_cases ho : h = .once
    · subst ho; exact .inl rfl
    · have := stretch_in (d := d) hok f0 (by omega) (fun z => absurd z ho) d0
      have h2 := begins_lt (h := h) (f := f) (s := stretchOf h f d - 1) hok
      rw [show stretchOf h f d - 1 + 1 = stretchOf h f d from by omega] at h2
      exact .inr (by omega)
theorem near_next {h : How} {f s : Int} (h1 : begins h f s ≤ 99999) : Near h f (s + 1) := .inr (by rw [show s + 1 - 1 = s from by omega]; exact h1)
theorem days_step {p : Int → Bool} {low b b1 y : Int} (hb : b ≤ b1) (hy : b ≤ y) : rf p low (min b (y + 1)) ++ (rf p b b1).filter (fun d => decide (low ≤ d) && decide (d ≤ y)) = rf p low (min b1 (y + 1)) := by
  refine sorted_ext ?_ (rf_lt _ _ _) fun x => ?_
  · rw [List.pairwise_append]
    refine ⟨rf_lt _ _ _, (rf_lt _ _ _).filter _, fun x hx z hz => ?_⟩
    rw [mem_rf] at hx
    rw [List.mem_filter, mem_rf] at hz
    omega
  · rw [List.mem_append, List.mem_filter, mem_rf, mem_rf, mem_rf]
    simp only [Bool.and_eq_true, decide_eq_true_eq]
    constructor
    · rintro (⟨h, q⟩ | ⟨⟨h, q⟩, h2⟩) <;> exact ⟨by omega, q⟩
    · rintro ⟨h, q⟩
      by_cases z : x < b
      · exact .inl ⟨by omega, q⟩
      · exact .inr ⟨⟨by omega, q⟩, by omega⟩
theorem days_start {h : How} {f low y : Int} (hok : HowOk h) (f0 : 2 ≤ f) (d0 : 0 ≤ low) (hy : y ≤ 99990) : rf (fits h f) low (min (begins h f (stretchOf h f low)) (y + 1)) = [] := by
  by_cases hl : low ≤ 99990
  · by_cases hb : low < begins h f 0
    · rw [stretch_lo hok f0 d0 hb]
      refine rf_nil fun x h1 h2 => ?_
      rw [Bool.eq_false_iff]
      intro q
      have := fits_ge q
      have := begins0 (h := h) (f := f) (by omega)
      omega
    · have := stretch_in (d := low) hok f0 (by omega) (fun _ => hl) d0
      exact rf_empty (by omega)
  · exact rf_empty (by omega)
theorem rf_len (p : Int → Bool) (a b : Int) : (rf p a b).length ≤ (b - a).toNat := by
  refine Nat.le_trans (List.length_filter_le _ _) ?_
  simp [rg]
theorem daysIn_len {h : How} {f s : Int} (hok : HowOk h) : (daysIn h f s).length ≤ 7 := by
  cases h with
  | once => simp only [daysIn]; split <;> simp
  | days n => simp [daysIn]
  | weeks n ws =>
    have := ws_len hok
    simp only [daysIn]
    refine Nat.le_trans (List.length_filter_le _ _) ?_
    rw [List.length_map]; exact this
  | dates n d => simp only [daysIn]; split <;> simp
  | wds n k o => simp only [daysIn]; split <;> simp
set_option maxHeartbeats 1000000 in
theorem s_days_of {r : Rul} {low high lim : Int} {S : Sto} (h : RulOk r) (hlim : ∀ S, M.limit_of [ruD r, cmD r.how r.first] S = .ok (.int lim) S) (l1 : lim ≤ 99990) (a0 : 0 ≤ low) (a1 : low ≤ 99999) :
    M.days_of [ruD r, .int low, .int high] S = .ok ((rf (fits r.how r.first) low (min high lim + 1)).map D.int) S := by
  have hc := fun S => s_coming_of (S := S) h
  have hs := fun S => s_stretch_of (f := r.first) (d := low) (S := S) h.how (by have := h.f0; omega) (by have := h.f1; omega) a0 a1
  have f0 := h.f0
  have f1 := h.f1
  have hmin : (if lim < high then lim else high) = min high lim := by split <;> omega
  refine tri_eq ?_
  simp_all_arith! only [M.days_of, M.b_days_of, hc, hlim, m_stretch_of, hs, hmin]
  generalize hy : min high lim = y at *
  have y1 : y ≤ 99990 := by omega
  refine while_inv (fun env S1 => S1 = S ∧ ∃ s z, 0 ≤ s ∧ Near r.how r.first s ∧ env = [.val (ruD r), .val (.int low), .val (.int high), .val (cmD r.how r.first), .val (.int y), .val (.int s), .own ((rf (fits r.how r.first) low (min (begins r.how r.first s) (y + 1))).map D.int), z])
    (fun env S1 => match env with | [_, _, _, _, _, .val (.int s), _, _] => (100000 - begins r.how r.first s).toNat | _ => 0) ⟨rfl, _, _, stretch0, near_stretch h.how f0 a0 a1, by rw [days_start h.how f0 a0 y1]; rfl⟩ ?_ ?_
  · show (100000 - begins r.how r.first (stretchOf r.how r.first low)).toNat < 1000000
    have := begins_mono (h := r.how) (f := r.first) (a := 0) h.how (stretch0 (h := r.how) (f := r.first) (d := low))
    have := begins0_nn (h := r.how) (f := r.first) (by omega)
    have := stretch0 (h := r.how) (f := r.first) (d := low)
    omega
  · rintro env S1 ⟨rfl, s, z, s0, hn, rfl⟩
    have hb := fun S => n_begins (S := S) h.how (f := r.first) (by omega) (by omega) s0 hn
    have hd := fun S => n_days_in (S := S) h.how (f := r.first) (by omega) (by omega) s0 hn
    by_cases hc2 : begins r.how r.first s ≤ y
    · have hlt := begins_lt (h := r.how) (f := r.first) (s := s) h.how
      have hge := begins_mono (h := r.how) (f := r.first) (a := 0) (b := s) h.how (by omega)
      have hnn := begins0_nn (h := r.how) (f := r.first) (by omega)
      have hl7 : ((daysIn r.how r.first s).map D.int).length ≤ 7 := by rw [List.length_map]; exact daysIn_len h.how
      simp_all_arith! only [m_begins, hb, hc2, m_days_in, hd]
      refine lc_pure (fun d => match d with | .int x => decide (low ≤ x) && decide (x ≤ y) | _ => false) id ?_ ?_
      · intro d hd
        obtain ⟨x, _, rfl⟩ := List.mem_map.mp hd
        by_cases q1 : low ≤ x
        · by_cases q2 : x ≤ y
          · simp_all_arith! only [q1, q2]
          · simp_all_arith! only [q1, q2]
        · simp_all_arith! only [q1]
      · have e2 : List.map id (List.filter (fun d => match d with | .int x => decide (low ≤ x) && decide (x ≤ y) | _ => false) ((daysIn r.how r.first s).map D.int)) = ((daysIn r.how r.first s).filter fun x => decide (low ≤ x) && decide (x ≤ y)).map D.int := by
          rw [List.filter_map, List.map_id]; rfl
        have hl8 : ((daysIn r.how r.first s).filter fun x => decide (low ≤ x) && decide (x ≤ y)).length ≤ 7 := Nat.le_trans (List.length_filter_le _ _) (daysIn_len h.how)
        have hl9 := rf_len (fits r.how r.first) low (min (begins r.how r.first s) (y + 1))
        have hl9 : (rf (fits r.how r.first) low (min (begins r.how r.first s) (y + 1))).length ≤ 100000 := by omega
        rw [e2]
        simp_all_arith! only [List.length_map]
        refine ⟨⟨s + 1, z, by omega, near_next (by omega), ?_⟩, by omega⟩
        rw [← List.map_append, daysIn_eq h.how (by omega) s0, days_step (by omega) hc2]
    · have e : min (begins r.how r.first s) (y + 1) = y + 1 := by omega
      simp_all_arith! only [m_begins, hb, hc2, e]
end G

namespace G
open PySem L2 C
local macro_rules
  | `(tactic| simp_arith only [$xs,*]) => `(tactic| simp -implicitDefEqProofs (disch := first | assumption | omega | (simp only [List.length_cons, List.length_nil, List.length_append, List.length_map, List.length_set, List.length_take, List.length_drop, List.length_reverse, rangeD_len, zipD_len, enumD_len] <;> omega)) only [x_ok, at0, at1, at2, at3, at4, at5, x_dict, k_dict, x_pairsN, x_pairsC, k_p1, k_p2, k_p3i, k_p3s, cut_ns, cut_sn, cut_ss, sl_L, sl_F, sl_T, sl_S, x_exc, slotV_v, slotO_v, slotO_o, x_var, x_own, x_c, x_bin, k_bin1, k_bin2, x_neg, k_neg, x_tup, k_tup, x_lst, k_lst, x_nCat, k_cat1, k_cat2, x_nRep, k_rep1, k_rep2, x_frz, k_frz, x_nil, x_cons, k_cons1, k_cons2, x_val, k_val, tr_bl, tr_non, tr_int, tr_lst, tr_tup, tr_frl, tr_str, x_and, x_or, x_not, k_and, k_or, k_not, x_tT, x_ifE, k_ifE, x_andV, x_orV, x_notV, k_andV, k_orV, k_notV, x_chain, k_ch1, k_ch2, k_ch3, x_call, x_callN, k_call, x_opt, k_some, x_isi, k_isi, x_oNone, x_oSome, k_oSome, x_nSl, k_nsl1, k_nsl2, k_nsl3L, k_nsl3F, x_sl, k_sl1, k_sl2, k_sl3, x_rev, k_rev, k_revT, x_fn, k_fn, x_fnB, k_fnB, x_tStill, k_stB, x_eStill, envB_t, envB_f, envB_n, envB_e, frzB_u, frzB_o, frzB_v, frzB_i, frzB_b, frzB_s, frzB_non, frzB_t, frzB_l, k_nolB, k_nolI, k_nolS, k_nolN, x_seq, k_seqL, k_seqT, k_seqF, k_seqS, x_rng1, k_rng1, x_rng2, k_rng2a, k_rng2b, x_enum, k_enum, k_enumT, x_zip, k_zipL, k_zipT, k_zipM, k_zipN, x_lc, k_lc, x_sNil, x_sSeq, k_sqn, k_sqr, k_sqb, k_sqc, k_sqx, x_sExpr, k_expr, x_sRet, k_ret, x_sRetN, x_sRetO, k_retO, x_sRetL, k_retL, x_nFn, k_fnN, k_sqo, k_turnO, k_wtO, x_runN, k_runO, k_runOX, x_sBrk, x_sCnt, x_sSet, k_set, x_sOwn, k_own, tg_some, x_sTg, k_tg, gN_ok, gT_t, gTs_n, gTs_c, x_sIf, k_if, x_sFor, k_for, x_sWhile, x_sFrz, frzE_eq, frz_o, frz_v, frz_u, slotL_o, k_mod, x_modE, x_withO, x_sApp, k_appL, k_app, hApp_ok, x_sIns, k_insL, k_ins1, k_ins2, hIns_ok, x_sRevO, k_revO, x_sClrO, k_clrO, x_sExt, k_extL, k_ext, hExt_ok, x_sSetIx, k_setIxL, k_setIx1, k_setIx2, k_putK, x_sPut, k_put1, k_put2, k_put3, x_sPar, k_par, x_sPar3, k_par3, x_run, k_runN, k_runR, k_runX, k_x, q_add, q_sub, q_addBI, q_addIB, q_subBI, q_subIB, p_strB, p_strS, tI_t, tI_f, q_mul, q_rep, q_div, q_mod, q_lt, q_le, q_gt, q_ge, q_eq, q_ne, q_is, q_isn, q_isB, q_isnB, x_idx, k_idx1, k_idx2, q_catL, q_catT, q_catS, isNon_non, isNon_int, isNon_bl, isNon_str, isNon_tup, isNon_lst, p_divmod, p_lenL, p_lenT, p_lenF, p_lenS, p_intB, p_intI, p_max2, p_min2, p_tupL, p_tupT, p_lstL, p_lstT, p_lstF, is_intI, is_intB, is_intS, is_intN, is_intT, is_intL, is_blI, is_blB, is_blS, is_blN, is_blT, is_blL, is_strI, is_strB, is_strS, is_strN, is_strT, is_strL, is_tupI, is_tupB, is_tupS, is_tupN, is_tupT, is_tupL, is_lstI, is_lstB, is_lstS, is_lstN, is_lstT, is_lstL, opIx_lst, opIx_tup, opIx_frl, k_midN, k_midC, k_midB, k_midR, k_midO, k_midX, k_turnN, k_turnC, k_turnB, k_turnR, k_turnX, k_wtN, k_wtC, k_wtB, k_wtR, k_wtX, k_wc, k_le, frzE_eq, turn_eq, turnC_eq, k_le, forL_nil, lcL_nil, startE, decide_eq_true_eq, decide_eq_false_iff_not, decide_true, decide_false, Bool.not_eq_true', Bool.not_eq_eq_eq_not, Bool.not_true, Bool.not_false, Bool.true_eq_false, Bool.false_eq_true, Bool.not_not, Option.bind_some, Option.map_some, List.map_cons, List.map_nil, List.length_cons, List.length_nil, List.cons_append, List.nil_append, List.set_cons_zero, List.set_cons_succ, List.getElem?_cons_zero, List.getElem?_cons_succ, List.length_set, ↓reduceIte, if_true, if_false, ite_self, List.replicate, List.take_succ_cons, List.take_zero, List.drop_succ_cons, List.drop_zero, List.flatten_cons, List.flatten_nil, Int.reduceToNat, List.isEmpty_cons, List.isEmpty_nil, Nat.reduceAdd, Nat.reduceSub, Nat.reduceLT, Nat.reduceLeDiff, Nat.reduceEqDiff, Int.cast_ofNat_Int, not_true_eq_false, not_false_eq_true, Int.reduceAdd, Int.reduceSub, Int.reduceMul, Int.reduceLT, Int.reduceLE, Int.reduceEq, Int.reduceNe, Int.reduceNeg, Int.zero_add, ne_eq, id, wipeE, lcL_nil, eq_self, and_true, true_and, D.int.injEq, D.bl.injEq, ofS_eq, String.reduceEq, $xs,*])
local macro_rules
  | `(tactic| simp_all_arith only [$xs,*]) => `(tactic| simp -implicitDefEqProofs (disch := first | assumption | omega | (simp only [okd_i, okd_n, okd_b, okd_s, strOk_of, okd_t, okd_l, okdL_n, okdL_c, Bool.and_true, Bool.and_self, *]; done) | (simp only [List.length_cons, List.length_nil, List.length_append, List.length_map, List.length_set, List.length_take, List.length_drop, List.length_reverse, rangeD_len, zipD_len, enumD_len] <;> omega)) only [x_ok, at0, at1, at2, at3, at4, at5, x_dict, k_dict, x_pairsN, x_pairsC, k_p1, k_p2, k_p3i, k_p3s, cut_ns, cut_sn, cut_ss, sl_L, sl_F, sl_T, sl_S, x_exc, slotV_v, slotO_v, slotO_o, x_var, x_own, x_c, x_bin, k_bin1, k_bin2, x_neg, k_neg, x_tup, k_tup, x_lst, k_lst, x_nCat, k_cat1, k_cat2, x_nRep, k_rep1, k_rep2, x_frz, k_frz, x_nil, x_cons, k_cons1, k_cons2, x_val, k_val, tr_bl, tr_non, tr_int, tr_lst, tr_tup, tr_frl, tr_str, x_and, x_or, x_not, k_and, k_or, k_not, x_tT, x_ifE, k_ifE, x_andV, x_orV, x_notV, k_andV, k_orV, k_notV, x_chain, k_ch1, k_ch2, k_ch3, x_call, x_callN, k_call, x_opt, k_some, x_isi, k_isi, x_oNone, x_oSome, k_oSome, x_nSl, k_nsl1, k_nsl2, k_nsl3L, k_nsl3F, x_sl, k_sl1, k_sl2, k_sl3, x_rev, k_rev, k_revT, x_fn, k_fn, x_fnB, k_fnB, x_tStill, k_stB, x_eStill, envB_t, envB_f, envB_n, envB_e, frzB_u, frzB_o, frzB_v, frzB_i, frzB_b, frzB_s, frzB_non, frzB_t, frzB_l, k_nolB, k_nolI, k_nolS, k_nolN, x_seq, k_seqL, k_seqT, k_seqF, k_seqS, x_rng1, k_rng1, x_rng2, k_rng2a, k_rng2b, x_enum, k_enum, k_enumT, x_zip, k_zipL, k_zipT, k_zipM, k_zipN, x_lc, k_lc, x_sNil, x_sSeq, k_sqn, k_sqr, k_sqb, k_sqc, k_sqx, x_sExpr, k_expr, x_sRet, k_ret, x_sRetN, x_sRetO, k_retO, x_sRetL, k_retL, x_nFn, k_fnN, k_sqo, k_turnO, k_wtO, x_runN, k_runO, k_runOX, x_sBrk, x_sCnt, x_sSet, k_set, x_sOwn, k_own, tg_some, x_sTg, k_tg, gN_ok, gT_t, gTs_n, gTs_c, x_sIf, k_if, x_sFor, k_for, x_sWhile, x_sFrz, frzE_eq, frz_o, frz_v, frz_u, slotL_o, k_mod, x_modE, x_withO, x_sApp, k_appL, k_app, hApp_ok, x_sIns, k_insL, k_ins1, k_ins2, hIns_ok, x_sRevO, k_revO, x_sClrO, k_clrO, x_sExt, k_extL, k_ext, hExt_ok, x_sSetIx, k_setIxL, k_setIx1, k_setIx2, k_putK, x_sPut, k_put1, k_put2, k_put3, x_sPar, k_par, x_sPar3, k_par3, x_run, k_runN, k_runR, k_runX, k_x, q_add, q_sub, q_addBI, q_addIB, q_subBI, q_subIB, p_strB, p_strS, tI_t, tI_f, q_mul, q_rep, q_div, q_mod, q_lt, q_le, q_gt, q_ge, q_eq, q_ne, q_is, q_isn, q_isB, q_isnB, x_idx, k_idx1, k_idx2, q_catL, q_catT, q_catS, isNon_non, isNon_int, isNon_bl, isNon_str, isNon_tup, isNon_lst, p_divmod, p_lenL, p_lenT, p_lenF, p_lenS, p_intB, p_intI, p_max2, p_min2, p_tupL, p_tupT, p_lstL, p_lstT, p_lstF, is_intI, is_intB, is_intS, is_intN, is_intT, is_intL, is_blI, is_blB, is_blS, is_blN, is_blT, is_blL, is_strI, is_strB, is_strS, is_strN, is_strT, is_strL, is_tupI, is_tupB, is_tupS, is_tupN, is_tupT, is_tupL, is_lstI, is_lstB, is_lstS, is_lstN, is_lstT, is_lstL, opIx_lst, opIx_tup, opIx_frl, k_midN, k_midC, k_midB, k_midR, k_midO, k_midX, k_turnN, k_turnC, k_turnB, k_turnR, k_turnX, k_wtN, k_wtC, k_wtB, k_wtR, k_wtX, k_wc, k_le, frzE_eq, turn_eq, turnC_eq, k_le, forL_nil, lcL_nil, startE, decide_eq_true_eq, decide_eq_false_iff_not, decide_true, decide_false, Bool.not_eq_true', Bool.not_eq_eq_eq_not, Bool.not_true, Bool.not_false, Bool.true_eq_false, Bool.false_eq_true, Bool.not_not, Option.bind_some, Option.map_some, List.map_cons, List.map_nil, List.length_cons, List.length_nil, List.cons_append, List.nil_append, List.set_cons_zero, List.set_cons_succ, List.getElem?_cons_zero, List.getElem?_cons_succ, List.length_set, ↓reduceIte, if_true, if_false, ite_self, List.replicate, List.take_succ_cons, List.take_zero, List.drop_succ_cons, List.drop_zero, List.flatten_cons, List.flatten_nil, Int.reduceToNat, List.isEmpty_cons, List.isEmpty_nil, Nat.reduceAdd, Nat.reduceSub, Nat.reduceLT, Nat.reduceLeDiff, Nat.reduceEqDiff, Int.cast_ofNat_Int, not_true_eq_false, not_false_eq_true, Int.reduceAdd, Int.reduceSub, Int.reduceMul, Int.reduceLT, Int.reduceLE, Int.reduceEq, Int.reduceNe, Int.reduceNeg, Int.zero_add, ne_eq, id, wipeE, lcL_nil, eq_self, and_true, true_and, D.int.injEq, D.bl.injEq, ofS_eq, String.reduceEq, q_eqD, q_neD, q_inT, q_inL, q_ninT, q_ninL, beq_self_eq_true, List.any_cons, List.any_nil, Bool.or_false, Bool.false_or, Bool.or_true, Bool.true_or, deq_nb, deq_ni, deq_ns, deq_nt, deq_nl, deq_bn, deq_bs, deq_bt, deq_bl, deq_in, deq_is, deq_it, deq_il, deq_sn, deq_sb, deq_si, deq_st, deq_sl, deq_tn, deq_tb, deq_ti, deq_ts, deq_tl, deq_ln, deq_lb, deq_li, deq_ls, deq_lt, deq_nn, deq_bb, deq_ii, deq_ss, deq_tt, deq_ll, deqL_nn, deqL_cc, deqL_nc, deqL_cn, okd_i, okd_n, okd_b, okd_t, okd_l, okdL_n, okdL_c, Bool.and_true, Bool.true_and, Bool.and_false, Bool.false_and, olt_t, olt_f, ole_t, ole_f, oeq_t, oeq_lt, oeq_gt, $xs,*])
local macro_rules
  | `(tactic| simp_all_arith! only [$xs,*]) => `(tactic| simp -implicitDefEqProofs (disch := first | assumption | omega | (simp only [okd_i, okd_n, okd_b, okd_s, strOk_of, okd_t, okd_l, okdL_n, okdL_c, Bool.and_true, Bool.and_self, *]; done) | (simp only [List.length_cons, List.length_nil, List.length_append, List.length_map, List.length_set, List.length_take, List.length_drop, List.length_reverse, rangeD_len, zipD_len, enumD_len] <;> omega)) only [x_ok, at0, at1, at2, at3, at4, at5, x_dict, k_dict, x_pairsN, x_pairsC, k_p1, k_p2, k_p3i, k_p3s, cut_ns, cut_sn, cut_ss, sl_L, sl_F, sl_T, sl_S, x_exc, slotV_v, slotO_v, slotO_o, x_var, x_own, x_c, x_bin, k_bin1, k_bin2, x_neg, k_neg, x_tup, k_tup, x_lst, k_lst, x_nCat, k_cat1, k_cat2, x_nRep, k_rep1, k_rep2, x_frz, k_frz, x_nil, x_cons, k_cons1, k_cons2, x_val, k_val, tr_bl, tr_non, tr_int, tr_lst, tr_tup, tr_frl, tr_str, x_and, x_or, x_not, k_and, k_or, k_not, x_tT, x_ifE, k_ifE, x_andV, x_orV, x_notV, k_andV, k_orV, k_notV, x_chain, k_ch1, k_ch2, k_ch3, x_call, x_callN, k_call, x_opt, k_some, x_isi, k_isi, x_oNone, x_oSome, k_oSome, x_nSl, k_nsl1, k_nsl2, k_nsl3L, k_nsl3F, x_sl, k_sl1, k_sl2, k_sl3, x_rev, k_rev, k_revT, x_fn, k_fn, x_fnB, k_fnB, x_tStill, k_stB, x_eStill, envB_t, envB_f, envB_n, envB_e, frzB_u, frzB_o, frzB_v, frzB_i, frzB_b, frzB_s, frzB_non, frzB_t, frzB_l, k_nolB, k_nolI, k_nolS, k_nolN, x_seq, k_seqL, k_seqT, k_seqF, k_seqS, x_rng1, k_rng1, x_rng2, k_rng2a, k_rng2b, x_enum, k_enum, k_enumT, x_zip, k_zipL, k_zipT, k_zipM, k_zipN, x_lc, k_lc, x_sNil, x_sSeq, k_sqn, k_sqr, k_sqb, k_sqc, k_sqx, x_sExpr, k_expr, x_sRet, k_ret, x_sRetN, x_sRetO, k_retO, x_sRetL, k_retL, x_nFn, k_fnN, k_sqo, k_turnO, k_wtO, x_runN, k_runO, k_runOX, x_sBrk, x_sCnt, x_sSet, k_set, x_sOwn, k_own, tg_some, x_sTg, k_tg, gN_ok, gT_t, gTs_n, gTs_c, x_sIf, k_if, x_sFor, k_for, x_sWhile, x_sFrz, frzE_eq, frz_o, frz_v, frz_u, slotL_o, k_mod, x_modE, x_withO, x_sApp, k_appL, k_app, hApp_ok, x_sIns, k_insL, k_ins1, k_ins2, hIns_ok, x_sRevO, k_revO, x_sClrO, k_clrO, x_sExt, k_extL, k_ext, hExt_ok, x_sSetIx, k_setIxL, k_setIx1, k_setIx2, k_putK, x_sPut, k_put1, k_put2, k_put3, x_sPar, k_par, x_sPar3, k_par3, x_run, k_runN, k_runR, k_runX, k_x, q_add, q_sub, q_addBI, q_addIB, q_subBI, q_subIB, p_strB, p_strS, tI_t, tI_f, q_mul, q_rep, q_div, q_mod, q_lt, q_le, q_gt, q_ge, q_eq, q_ne, q_is, q_isn, q_isB, q_isnB, x_idx, k_idx1, k_idx2, q_catL, q_catT, q_catS, isNon_non, isNon_int, isNon_bl, isNon_str, isNon_tup, isNon_lst, p_divmod, p_lenL, p_lenT, p_lenF, p_lenS, p_intB, p_intI, p_max2, p_min2, p_tupL, p_tupT, p_lstL, p_lstT, p_lstF, is_intI, is_intB, is_intS, is_intN, is_intT, is_intL, is_blI, is_blB, is_blS, is_blN, is_blT, is_blL, is_strI, is_strB, is_strS, is_strN, is_strT, is_strL, is_tupI, is_tupB, is_tupS, is_tupN, is_tupT, is_tupL, is_lstI, is_lstB, is_lstS, is_lstN, is_lstT, is_lstL, opIx_lst, opIx_tup, opIx_frl, k_midN, k_midC, k_midB, k_midR, k_midO, k_midX, k_turnN, k_turnC, k_turnB, k_turnR, k_turnX, k_wtN, k_wtC, k_wtB, k_wtR, k_wtX, k_wc, k_le, frzE_eq, turn_eq, turnC_eq, k_le, forL_nil, lcL_nil, startE, decide_eq_true_eq, decide_eq_false_iff_not, decide_true, decide_false, Bool.not_eq_true', Bool.not_eq_eq_eq_not, Bool.not_true, Bool.not_false, Bool.true_eq_false, Bool.false_eq_true, Bool.not_not, Option.bind_some, Option.map_some, List.map_cons, List.map_nil, List.length_cons, List.length_nil, List.cons_append, List.nil_append, List.set_cons_zero, List.set_cons_succ, List.getElem?_cons_zero, List.getElem?_cons_succ, List.length_set, ↓reduceIte, if_true, if_false, ite_self, List.replicate, List.take_succ_cons, List.take_zero, List.drop_succ_cons, List.drop_zero, List.flatten_cons, List.flatten_nil, Int.reduceToNat, List.isEmpty_cons, List.isEmpty_nil, Nat.reduceAdd, Nat.reduceSub, Nat.reduceLT, Nat.reduceLeDiff, Nat.reduceEqDiff, Int.cast_ofNat_Int, not_true_eq_false, not_false_eq_true, Int.reduceAdd, Int.reduceSub, Int.reduceMul, Int.reduceLT, Int.reduceLE, Int.reduceEq, Int.reduceNe, Int.reduceNeg, Int.zero_add, ne_eq, id, wipeE, lcL_nil, eq_self, and_true, true_and, D.int.injEq, D.bl.injEq, ofS_eq, String.reduceEq, q_eqD, q_neD, q_inT, q_inL, q_ninT, q_ninL, beq_self_eq_true, List.any_cons, List.any_nil, Bool.or_false, Bool.false_or, Bool.or_true, Bool.true_or, deq_nb, deq_ni, deq_ns, deq_nt, deq_nl, deq_bn, deq_bs, deq_bt, deq_bl, deq_in, deq_is, deq_it, deq_il, deq_sn, deq_sb, deq_si, deq_st, deq_sl, deq_tn, deq_tb, deq_ti, deq_ts, deq_tl, deq_ln, deq_lb, deq_li, deq_ls, deq_lt, deq_nn, deq_bb, deq_ii, deq_ss, deq_tt, deq_ll, deqL_nn, deqL_cc, deqL_nc, deqL_cn, okd_i, okd_n, okd_b, okd_t, okd_l, okdL_n, okdL_c, Bool.and_true, Bool.true_and, Bool.and_false, Bool.false_and, olt_t, olt_f, ole_t, ole_f, oeq_t, oeq_lt, oeq_gt, x_fld, k_fld, fld_ins, fld_new, lkP_c, lkF_c, lkF_n, meth_ins, lkM_c, k_optI, x_meth, k_meth, k_methS, k_meth2, x_sFld, k_sfld1, k_sfld2, k_setK, setO_new, putFD, List.mem_cons, List.not_mem_nil, or_true, true_or, or_false, false_or, or_self, Nat.reduceEqDiff, Nat.reduceSucc, reduceCtorEq, List.mem_nil_iff, false_and, and_false, and_self, $xs,*])

structure RulIn (r : Rul) : Prop where
  ok : RulOk r
  m0 : 0 ≤ r.minute
  m1 : r.minute ≤ 1439
  l0 : 1 ≤ r.length
  l1 : r.length ≤ 1440
theorem ne_of_isEmpty {α : Type} {l : List α} (h : l.isEmpty = false) : l ≠ [] := fun z => by rw [z] at h; cases h
theorem s_lhow3 {n : Nat} {R S : Sto} (hT : Tp n R S) (hn : n ≤ 10000000000000) : Tri (M.law_how_v3 [.obj 0] S) fun d S' => ∃ h, d = hD h ∧ HowOk h ∧ Tp (n + 400) R S' := by
  simp_arith only [M.law_how_v3, M.b_law_how_v3]
  refine (dr hT (by omega) (by omega) (by omega)).to ?_
  rintro _ _ ⟨w, rfl, w0, w1, hT⟩
  simp_arith only []
  refine (dr hT (by omega) (by omega) (by omega)).to ?_
  rintro _ _ ⟨a, rfl, a0, a1, hT⟩
  simp_arith only []
  refine (dr hT (by omega) (by omega) (by omega)).to ?_
  rintro _ _ ⟨b, rfl, b0, b1, hT⟩
  simp_arith only []
  refine (dr hT (by omega) (by omega) (by omega)).to ?_
  rintro _ _ ⟨c, rfl, c0, c1, hT⟩
  simp_arith only []
  refine pickI 1 99 (by omega) (by simp only [List.length_cons, List.length_nil]; omega) (by repeat' (first | exact all_nil | refine all_cons ⟨_, rfl, by omega, by omega⟩ ?_)) fun m m0 m1 => ?_
  simp_arith only []
  by_cases h0 : w = 0
  · simp_all_arith only []
    exact ⟨.once, rfl, trivial, hT.mono (by omega)⟩
  by_cases h1 : w = 1
  · simp_all_arith only []
    exact ⟨.days m, rfl, ⟨by omega, by omega⟩, hT.mono (by omega)⟩
  by_cases h2 : w = 2
  · simp_all_arith only []
    refine lc_inv (fun i acc S => Tp (n + 20 + 20 + 20 + 20 + 20 * i) R S ∧ ∃ ws : List Int, acc = ws.map D.int ∧ ws.Pairwise (· < ·) ∧ ∀ j ∈ ws, 0 ≤ j ∧ j < (i : Int)) ⟨hT, [], rfl, .nil, by simp⟩ ?_ ?_
    · rintro i d acc S e ⟨hT, ws, rfl, hp, ha⟩
      obtain ⟨rfl, h7⟩ := rangeD_get e
      have hi : i < 7 := by omega
      simp_arith only []
      refine (dr hT (by omega) (by omega) (by omega)).to ?_
      rintro _ _ ⟨x, rfl, x0, x1, hT⟩
      simp_arith only []
      by_cases hx : x = 0
      · simp_all_arith only []
        refine ⟨hT.mono (by omega), ws ++ [(i : Int)], by simp, ?_, fun j hj => ?_⟩
        · rw [List.pairwise_append]
          refine ⟨hp, List.pairwise_singleton _ _, fun a h b hb => ?_⟩
          rw [List.mem_singleton] at hb
          have := ha a h
          omega
        · rcases List.mem_append.mp hj with q | q
          · have := ha j q; omega
          · rw [List.mem_singleton] at q; omega
      · simp_all_arith only []
        exact ⟨hT.mono (by omega), ws, rfl, hp, fun j hj => by have := ha j hj; omega⟩
    · rintro acc S ⟨hT, ws, rfl, hp, ha⟩
      rw [rangeD_len] at hT ha
      cases hne : (ws.map D.int).isEmpty with
      | false =>
        simp_all_arith only [hne]
        exact ⟨.weeks m ws, rfl, ⟨⟨by omega, by omega⟩, (fun z => by subst z; cases hne), hp, fun j hj => by have := ha j hj; omega⟩, hT.mono (by omega)⟩
      | true =>
        simp_all_arith only [hne]
        refine (dr hT (by omega) (by omega) (by omega)).to ?_
        rintro _ _ ⟨x, rfl, x0, x1, hT⟩
        simp_arith only []
        exact ⟨.weeks m [x], rfl, ⟨⟨by omega, by omega⟩, by simp, by simp, fun j hj => by simp at hj; omega⟩, hT.mono (by omega)⟩
  by_cases h3 : w = 3
  · simp_all_arith only []
    refine (dr hT (by omega) (by omega) (by omega)).to ?_
    rintro _ _ ⟨x, rfl, x0, x1, hT⟩
    simp_arith only []
    refine (dr hT (by omega) (by omega) (by omega)).to ?_
    rintro _ _ ⟨y, rfl, y0, y1, hT⟩
    simp_arith only []
    refine (dr hT (by omega) (by omega) (by omega)).to ?_
    rintro _ _ ⟨z, rfl, z0, z1, hT⟩
    simp_arith only []
    refine pickI 1 31 (by omega) (by simp only [List.length_cons, List.length_nil]; omega) (by repeat' (first | exact all_nil | refine all_cons ⟨_, rfl, by omega, by omega⟩ ?_)) fun v v0 v1 => ?_
    simp_arith only []
    exact ⟨.dates m v, rfl, ⟨⟨by omega, by omega⟩, by omega, by omega⟩, hT.mono (by omega)⟩
  simp_all_arith only []
  refine (dr hT (by omega) (by omega) (by omega)).to ?_
  rintro _ _ ⟨x, rfl, x0, x1, hT⟩
  simp_arith only []
  refine pick (fun d => ∃ v, d = .int v ∧ -1 ≤ v ∧ v ≤ 5 ∧ v ≠ 0) (by omega) (by simp only [List.length_cons, List.length_nil]; omega) (by repeat' (first | exact all_nil | refine all_cons ⟨_, rfl, by omega, by omega, by omega⟩ ?_)) ?_
  rintro _ ⟨v, rfl, v0, v1, v2⟩
  simp_arith only []
  refine (dr hT (by omega) (by omega) (by omega)).to ?_
  rintro _ _ ⟨y, rfl, y0, y1, hT⟩
  simp_arith only []
  exact ⟨.wds m v y, rfl, ⟨⟨by omega, by omega⟩, by omega, by omega, v2, by omega, by omega⟩, hT.mono (by omega)⟩
theorem s_lrule {n : Nat} {R S : Sto} (hT : Tp n R S) (hn : n ≤ 1000000000000) : Tri (M.law_rule_v3 [.obj 0] S) fun d S' => ∃ r, d = ruD r ∧ RulIn r ∧ Tp (n + 1000) R S' := by
  simp_arith only [M.law_rule_v3, M.b_law_rule_v3]
  refine (dr hT (by omega) (by omega) (by omega)).to ?_
  rintro _ _ ⟨a, rfl, a0, a1, hT⟩
  simp_arith only []
  refine (dr hT (by omega) (by omega) (by omega)).to ?_
  rintro _ _ ⟨b, rfl, b0, b1, hT⟩
  simp_arith only []
  refine (dr hT (by omega) (by omega) (by omega)).to ?_
  rintro _ _ ⟨c, rfl, c0, c1, hT⟩
  simp_arith only []
  refine (dr hT (by omega) (by omega) (by omega)).to ?_
  rintro _ _ ⟨d, rfl, d0, d1, hT⟩
  simp_arith only []
  refine pickI 2 99990 (by omega) (by simp only [List.length_cons, List.length_nil]; omega) (by repeat' (first | exact all_nil | refine all_cons ⟨_, rfl, by omega, by omega⟩ ?_)) fun f f0 f1 => ?_
  simp_arith only []
  refine (dr hT (by omega) (by omega) (by omega)).to ?_
  rintro _ _ ⟨w, rfl, w0, w1, hT⟩
  simp_arith only []
  by_cases h1 : w = 1
  · simp_all_arith only []
    refine (dr hT (by omega) (by omega) (by omega)).to ?_
    rintro _ _ ⟨x, rfl, x0, x1, hT⟩
    simp_arith only []
    refine (dr hT (by omega) (by omega) (by omega)).to ?_
    rintro _ _ ⟨y, rfl, y0, y1, hT⟩
    simp_arith only []
    refine (dr hT (by omega) (by omega) (by omega)).to ?_
    rintro _ _ ⟨z, rfl, z0, z1, hT⟩
    simp_arith only []
    refine pickI 1 1000 (by omega) (by simp only [List.length_cons, List.length_nil]; omega) (by repeat' (first | exact all_nil | refine all_cons ⟨_, rfl, by omega, by omega⟩ ?_)) fun u u0 u1 => ?_
    simp_arith only [h1]
    refine (dr hT (by omega) (by omega) (by omega)).to ?_
    rintro _ _ ⟨l, rfl, l0, l1, hT⟩
    simp_arith only []
    refine (dr hT (by omega) (by omega) (by omega)).to ?_
    rintro _ _ ⟨l2, rfl, l20, l21, hT⟩
    simp_arith only []
    refine pickI 1 1440 (by omega) (by simp only [List.length_cons, List.length_nil]; omega) (by repeat' (first | exact all_nil | refine all_cons ⟨_, rfl, by omega, by omega⟩ ?_)) fun len len0 len1 => ?_
    simp_arith only []
    refine (dr hT (by omega) (by omega) (by omega)).to ?_
    rintro _ _ ⟨m, rfl, m0, m1, hT⟩
    simp_arith only []
    refine (dr hT (by omega) (by omega) (by omega)).to ?_
    rintro _ _ ⟨m2, rfl, m20, m21, hT⟩
    simp_arith only []
    refine pickI 0 1439 (by omega) (by simp only [List.length_cons, List.length_nil]; omega) (by repeat' (first | exact all_nil | refine all_cons ⟨_, rfl, by omega, by omega⟩ ?_)) fun min min0 min1 => ?_
    simp_arith only []
    refine (s_lhow3 hT (by omega)).to ?_
    rintro _ S' ⟨hw, rfl, hok, hT⟩
    cases hw with
    | once =>
      simp_all_arith only [hD]
      exact ⟨⟨f, min, len, .once, .times u⟩, rfl, ⟨⟨f0, f1, hok, ⟨u0, u1⟩⟩, min0, min1, len0, len1⟩, hT.mono (by omega)⟩
    | days k =>
      simp_all_arith only [hD]
      exact ⟨⟨f, min, len, .days k, .times u⟩, rfl, ⟨⟨f0, f1, hok, ⟨u0, u1⟩⟩, min0, min1, len0, len1⟩, hT.mono (by omega)⟩
    | weeks k ws =>
      simp_all_arith only [hD]
      exact ⟨⟨f, min, len, .weeks k ws, .times u⟩, rfl, ⟨⟨f0, f1, hok, ⟨u0, u1⟩⟩, min0, min1, len0, len1⟩, hT.mono (by omega)⟩
    | dates k q =>
      simp_all_arith only [hD]
      exact ⟨⟨f, min, len, .dates k q, .times (1 + u % 120)⟩, rfl, ⟨⟨f0, f1, hok, ⟨by omega, by omega⟩⟩, min0, min1, len0, len1⟩, hT.mono (by omega)⟩
    | wds k q o =>
      simp_all_arith only [hD]
      exact ⟨⟨f, min, len, .wds k q o, .times (1 + u % 120)⟩, rfl, ⟨⟨f0, f1, hok, ⟨by omega, by omega⟩⟩, min0, min1, len0, len1⟩, hT.mono (by omega)⟩
  by_cases h2 : w = 2
  · simp_all_arith only []
    refine (dr hT (by omega) (by omega) (by omega)).to ?_
    rintro _ _ ⟨x, rfl, x0, x1, hT⟩
    simp_arith only []
    refine (dr hT (by omega) (by omega) (by omega)).to ?_
    rintro _ _ ⟨y, rfl, y0, y1, hT⟩
    simp_arith only []
    refine (dr hT (by omega) (by omega) (by omega)).to ?_
    rintro _ _ ⟨z, rfl, z0, z1, hT⟩
    simp_arith only []
    refine pickI 0 899 (by omega) (by simp only [List.length_cons, List.length_nil]; omega) (by repeat' (first | exact all_nil | refine all_cons ⟨_, rfl, by omega, by omega⟩ ?_)) fun u u0 u1 => ?_
    simp_arith only []
    have hmx : (if f + u < 99990 then f + u else 99990) = min (f + u) 99990 := by split <;> omega
    generalize hq : (if f + u < 99990 then f + u else 99990) = q
    have hq0 : f ≤ q ∧ q ≤ 99990 := by rw [← hq]; split <;> omega
    clear hmx
    refine (dr hT (by omega) (by omega) (by omega)).to ?_
    rintro _ _ ⟨l, rfl, l0, l1, hT⟩
    simp_arith only []
    refine (dr hT (by omega) (by omega) (by omega)).to ?_
    rintro _ _ ⟨l2, rfl, l20, l21, hT⟩
    simp_arith only []
    refine pickI 1 1440 (by omega) (by simp only [List.length_cons, List.length_nil]; omega) (by repeat' (first | exact all_nil | refine all_cons ⟨_, rfl, by omega, by omega⟩ ?_)) fun len len0 len1 => ?_
    simp_arith only []
    refine (dr hT (by omega) (by omega) (by omega)).to ?_
    rintro _ _ ⟨m, rfl, m0, m1, hT⟩
    simp_arith only []
    refine (dr hT (by omega) (by omega) (by omega)).to ?_
    rintro _ _ ⟨m2, rfl, m20, m21, hT⟩
    simp_arith only []
    refine pickI 0 1439 (by omega) (by simp only [List.length_cons, List.length_nil]; omega) (by repeat' (first | exact all_nil | refine all_cons ⟨_, rfl, by omega, by omega⟩ ?_)) fun min min0 min1 => ?_
    simp_arith only []
    refine (s_lhow3 hT (by omega)).to ?_
    rintro _ S' ⟨hw, rfl, hok, hT⟩
    have go : ∃ r, D.tup [.int f, .int min, .int len, hD hw, .tup [.str "until", .int q]] = ruD r ∧ RulIn r ∧ Tp (n + 1000) R S' := ⟨⟨f, min, len, hw, .untl q⟩, rfl, ⟨⟨f0, f1, hok, hq0⟩, min0, min1, len0, len1⟩, hT.mono (by omega)⟩
    cases hw <;>
    · simp_all_arith only [hD]
      exact go
  simp_all_arith only []
  refine (dr hT (by omega) (by omega) (by omega)).to ?_
  rintro _ _ ⟨l, rfl, l0, l1, hT⟩
  simp_arith only []
  refine (dr hT (by omega) (by omega) (by omega)).to ?_
  rintro _ _ ⟨l2, rfl, l20, l21, hT⟩
  simp_arith only []
  refine pickI 1 1440 (by omega) (by simp only [List.length_cons, List.length_nil]; omega) (by repeat' (first | exact all_nil | refine all_cons ⟨_, rfl, by omega, by omega⟩ ?_)) fun len len0 len1 => ?_
  simp_arith only []
  refine (dr hT (by omega) (by omega) (by omega)).to ?_
  rintro _ _ ⟨m, rfl, m0, m1, hT⟩
  simp_arith only []
  refine (dr hT (by omega) (by omega) (by omega)).to ?_
  rintro _ _ ⟨m2, rfl, m20, m21, hT⟩
  simp_arith only []
  refine pickI 0 1439 (by omega) (by simp only [List.length_cons, List.length_nil]; omega) (by repeat' (first | exact all_nil | refine all_cons ⟨_, rfl, by omega, by omega⟩ ?_)) fun min min0 min1 => ?_
  simp_arith only []
  refine (s_lhow3 hT (by omega)).to ?_
  rintro _ S' ⟨hw, rfl, hok, hT⟩
  have go : ∃ r, D.tup [.int f, .int min, .int len, hD hw, .non] = ruD r ∧ RulIn r ∧ Tp (n + 1000) R S' := ⟨⟨f, min, len, hw, .none⟩, rfl, ⟨⟨f0, f1, hok, trivial⟩, min0, min1, len0, len1⟩, hT.mono (by omega)⟩
  cases hw <;>
  · simp_all_arith only [hD]
    exact go
theorem okdL_ints {n : Nat} {ws : List Int} : okdL n (ws.map D.int) = true := okdL_of fun d m => by
  obtain ⟨i, _, rfl⟩ := List.mem_map.mp m
  exact okd_i
theorem any_ints {x : Int} {ws : List Int} : ((ws.map D.int).any fun y => deq y (.int x)) = decide (x ∈ ws) := by
  induction ws with
  | nil => rfl
  | cons w r ih =>
    simp only [List.map_cons, List.any_cons, ih, deq, List.mem_cons, Bool.decide_or]
    congr 1
    exact decide_eq_decide.mpr eq_comm
theorem q_inW {x : Int} {ws : List Int} {S : Sto} : cIn (.int x) (.tup (ws.map D.int)) S = .ok (.bl (decide (x ∈ ws))) S := by
  rw [q_inT okd_i okdL_ints, any_ints]
theorem q_inWL {x : Int} {ws : List Int} {S : Sto} : cIn (.int x) (.lst (ws.map D.int)) S = .ok (.bl (decide (x ∈ ws))) S := by
  rw [q_inL okd_i okdL_ints, any_ints]
theorem q_ninWL {x : Int} {ws : List Int} {S : Sto} : cNotIn (.int x) (.lst (ws.map D.int)) S = .ok (.bl (!decide (x ∈ ws))) S := by
  rw [q_ninL okd_i okdL_ints, any_ints]
theorem deqL_ints {l m : List Int} : deqL (l.map D.int) (m.map D.int) = decide (l = m) := by
  induction l generalizing m with
  | nil => cases m <;> simp [deqL]
  | cons a r ih =>
    cases m with
    | nil => simp [deqL]
    | cons b q => simp [deqL, deq, ih]; rfl
theorem q_eqWL {l m : List Int} {S : Sto} : cEq (.lst (l.map D.int)) (.lst (m.map D.int)) S = .ok (.bl (decide (l = m))) S := by
  rw [q_eqD (by rw [show (60:Nat) = 59 + 1 from rfl, okd_l]; exact okdL_ints) (by rw [show (60:Nat) = 59 + 1 from rfl, okd_l]; exact okdL_ints), ← deqL_ints]; rfl
theorem q_neWL {l m : List Int} {S : Sto} : cNe (.lst (l.map D.int)) (.lst (m.map D.int)) S = .ok (.bl (!decide (l = m))) S := by
  rw [q_neD (by rw [show (60:Nat) = 59 + 1 from rfl, okd_l]; exact okdL_ints) (by rw [show (60:Nat) = 59 + 1 from rfl, okd_l]; exact okdL_ints), ← deqL_ints]; rfl
theorem fits_dates {n q f d : Int} (hok : HowOk (.dates n q)) (d0 : 0 ≤ d) : fits (.dates n q) f d = decide (f ≤ d ∧ (mo d - mo f) % n = 0 ∧ d - FO (mo d) + 1 = q) := by
  obtain ⟨_, h1, h2⟩ := hok
  simp only [fits, dateIn]
  refine decide_eq_decide.mpr ?_
  constructor
  · rintro ⟨a, b, c, e⟩
    by_cases z : q ≤ ml (mo d)
    · simp only [z, if_true] at c e
      exact ⟨a, b, by omega⟩
    · simp only [z, if_false] at c e
      omega
  · rintro ⟨a, b, c⟩
    have hm := mo_spec (d := d) d0
    have z : q ≤ ml (mo d) := by omega
    simp only [z, if_true]
    exact ⟨a, b, by omega, by omega⟩
theorem fits_wds {n k o f d : Int} (hok : HowOk (.wds n k o)) (d0 : 0 ≤ d) : fits (.wds n k o) f d = decide (f ≤ d ∧ (mo d - mo f) % n = 0 ∧ d % 7 = o ∧ (if 0 < k then (d - FO (mo d) + 1 + 6) / 7 = k else ml (mo d) < d - FO (mo d) + 1 + 7)) := by
  obtain ⟨_, h1, h2, h3, h4, h5⟩ := hok
  have hm := mo_spec d0
  have hml := ml_pos (mo d)
  simp only [fits, dateIn, lastW]
  refine decide_eq_decide.mpr (and_congr Iff.rfl (and_congr Iff.rfl ?_))
  generalize FO (mo d) = F at *
  generalize ml (mo d) = L at *
  by_cases hk : 0 < k
  · simp only [hk, if_true]
    split <;> omega
  · simp only [hk, if_false]
    omega
theorem s_comes3 {r : Rul} {d : Int} {S : Sto} (h : RulOk r) (d0 : 0 ≤ d) : M.law_comes_v3 [ruD r, .int d] S = .ok (.bl (fits r.how r.first d && decide (d ≤ 99990))) S := by
  obtain ⟨f, m, l, hw, e⟩ := r
  have h1 := h.f0
  have h2 := h.f1
  have h3 := h.how
  simp only at h1 h2 h3
  show _ = R.ok (D.bl (fits hw f d && decide (d ≤ 99990))) S
  have sy : ∀ a b : Int, (a = b) = (b = a) := fun a b => propext ⟨Eq.symm, Eq.symm⟩
  refine tri_eq ?_
  by_cases q1 : d < f
  · have : fits hw f d = false := by
      rw [Bool.eq_false_iff]; intro q; have := fits_ge q; omega
    simp_all_arith! only [M.law_comes_v3, M.b_law_comes_v3, ruD, q1, this]
  by_cases q2 : 99990 < d
  · have : ¬ d ≤ 99990 := by omega
    simp_all_arith! only [M.law_comes_v3, M.b_law_comes_v3, ruD, q1, q2, this]
  have q3 : d ≤ 99990 := by omega
  have q4 : f ≤ d := by omega
  cases hw with
  | once =>
    simp_all_arith! only [M.law_comes_v3, M.b_law_comes_v3, ruD, hD, q1, q2, q3, fits]
  | days n =>
    have := h3.1; have := h3.2
    simp_all_arith! only [M.law_comes_v3, M.b_law_comes_v3, ruD, hD, q1, q2, q3, q4, fits]
  | weeks n ws =>
    have := h3.1
    have hl := ws_len h3
    by_cases q5 : d % 7 ∈ ws
    · simp_all_arith! only [M.law_comes_v3, M.b_law_comes_v3, ruD, hD, wsD, q1, q2, q3, q4, fits, q_inW, q5]
    · simp_all_arith! only [M.law_comes_v3, M.b_law_comes_v3, ruD, hD, wsD, q1, q2, q3, q4, fits, q_inW, q5]
  | dates n q =>
    have := h3.1
    have hd := mo_spec d0
    have hf := mo_spec (d := f) (by omega)
    have := mo_hi d0 (by omega)
    have := mo_hi (d := f) (by omega) (by omega)
    have f1 := fun S => s_date_of (S := S) hd.1 (by omega) hd.2.1 hd.2.2
    have f2 := fun S => s_date_of (S := S) hf.1 (by omega) hf.2.1 hf.2.2
    have e : 12 * (2001 + mo d / 12 - (2001 + mo f / 12)) + (mo d % 12 + 1) - (mo f % 12 + 1) = mo d - mo f := by omega
    by_cases q5 : (mo d - mo f) % n = 0
    · simp_all_arith! only [M.law_comes_v3, M.b_law_comes_v3, ruD, hD, q1, q2, q3, q4, f1, f2, e, q5, fits_dates h3 d0]
    · simp_all_arith! only [M.law_comes_v3, M.b_law_comes_v3, ruD, hD, q1, q2, q3, q4, f1, f2, e, q5, fits_dates h3 d0]
  | wds n k o =>
    have := h3.1
    have hd := mo_spec d0
    have hf := mo_spec (d := f) (by omega)
    have := mo_hi d0 (by omega)
    have := mo_hi (d := f) (by omega) (by omega)
    have f1 := fun S => s_date_of (S := S) hd.1 (by omega) hd.2.1 hd.2.2
    have f2 := fun S => s_date_of (S := S) hf.1 (by omega) hf.2.1 hf.2.2
    have e : 12 * (2001 + mo d / 12 - (2001 + mo f / 12)) + (mo d % 12 + 1) - (mo f % 12 + 1) = mo d - mo f := by omega
    have hfi := fits_wds (f := f) h3 d0
    by_cases q5 : (mo d - mo f) % n = 0
    · by_cases q6 : d % 7 = o
      · by_cases q7 : 0 < k
        · simp_all_arith! only [M.law_comes_v3, M.b_law_comes_v3, ruD, hD, q1, q2, q3, q4, f1, f2, e, q5, q6, q7, hfi]
        · have hst := FO_step (mo d)
          have hml2 := ml_pos (mo d + 1)
          by_cases q8 : d + 7 < FO (mo d) + ml (mo d)
          · have f3 := fun S => s_date_of (n := mo d) (d := d + 7) (S := S) hd.1 (by omega) (by omega) (by omega)
            have q9 : ¬ ml (mo d) < d - FO (mo d) + 1 + 7 := by omega
            simp_all_arith! only [M.law_comes_v3, M.b_law_comes_v3, ruD, hD, q1, q2, q3, q4, f1, f2, f3, e, q5, q6, q7, q9, hfi]
          · have f3 := fun S => s_date_of (n := mo d + 1) (d := d + 7) (S := S) (by omega) (by omega) (by omega) (by omega)
            have q9 : ml (mo d) < d - FO (mo d) + 1 + 7 := by omega
            have q10 : ¬ (mo d + 1) % 12 + 1 = mo d % 12 + 1 := by omega
            simp_all_arith! only [M.law_comes_v3, M.b_law_comes_v3, ruD, hD, q1, q2, q3, q4, f1, f2, f3, e, q5, q6, q7, q9, q10, hfi]
      · simp_all_arith! only [M.law_comes_v3, M.b_law_comes_v3, ruD, hD, q1, q2, q3, q4, f1, f2, e, q5, q6, hfi]
    · simp_all_arith! only [M.law_comes_v3, M.b_law_comes_v3, ruD, hD, q1, q2, q3, q4, f1, f2, e, q5, hfi]
end G

namespace G.C
theorem rf_filter_lt {p : Int → Bool} {a b x : Int} (h : x ≤ b) : (rf p a b).filter (fun d => decide (d < x)) = rf p a x := by
  refine sorted_ext ((rf_lt _ _ _).filter _) (rf_lt _ _ _) fun y => ?_
  rw [List.mem_filter, mem_rf, mem_rf]
  simp only [decide_eq_true_eq]
  constructor
  · rintro ⟨⟨h1, h2⟩, h3⟩; exact ⟨by omega, h2⟩
  · rintro ⟨h1, h2⟩; exact ⟨⟨by omega, h2⟩, by omega⟩
/-- in a rising list: how many are ahead -/
theorem idx_lt : ∀ {l : List Int} {j : Nat} {x : Int}, l.Pairwise (· < ·) → l[j]? = some x → (l.filter fun d => decide (d < x)).length = j
  | [], _, _, _, h => by simp at h
  | a :: r, 0, x, hp, h => by
    rw [List.getElem?_cons_zero] at h
    cases h
    rw [List.pairwise_cons] at hp
    have : (a :: r).filter (fun d => decide (d < a)) = [] := by
      rw [List.filter_eq_nil_iff]
      intro d hd
      rcases List.mem_cons.mp hd with rfl | hd
      · simp
      · have := hp.1 d hd; simp; omega
    rw [this]; rfl
  | a :: r, j + 1, x, hp, h => by
    rw [List.getElem?_cons_succ] at h
    rw [List.pairwise_cons] at hp
    have := hp.1 x (List.mem_of_getElem? h)
    rw [List.filter_cons, if_pos (by simpa using this), List.length_cons, idx_lt hp.2 h]
theorem idx_of : ∀ {l : List Int} {x : Int}, l.Pairwise (· < ·) → x ∈ l → l[(l.filter fun d => decide (d < x)).length]? = some x := fun {l x} hp hx => by
  obtain ⟨j, hj⟩ := List.mem_iff_getElem?.mp hx
  rw [idx_lt hp hj, hj]
noncomputable def cnt (h : How) (f d : Int) : Nat := (rf (fits h f) f d).length
theorem rf_low {h : How} {f a b : Int} (ha : a ≤ f) : rf (fits h f) a b = rf (fits h f) f b := by
  refine sorted_ext (rf_lt _ _ _) (rf_lt _ _ _) fun y => ?_
  rw [mem_rf, mem_rf]
  constructor
  · rintro ⟨h1, h2⟩; have := fits_ge h2; exact ⟨by omega, h2⟩
  · rintro ⟨h1, h2⟩; exact ⟨by omega, h2⟩
theorem cnt_add {h : How} {f a b : Int} (hf : f ≤ a) (hab : a ≤ b) : cnt h f b = cnt h f a + (rf (fits h f) a b).length := by
  unfold cnt
  rw [← rf_append hf hab, List.length_append]
theorem cnt_low {h : How} {f a : Int} (hf : a ≤ f) : cnt h f a = 0 := by
  unfold cnt
  rw [rf_empty hf]; rfl
theorem cnt_mono {h : How} {f a b : Int} (hab : a ≤ b) : cnt h f a ≤ cnt h f b := by
  by_cases ha : f ≤ a
  · have := cnt_add (h := h) ha hab; omega
  · rw [cnt_low (by omega)]; omega
theorem cnt_lt {h : How} {f a b : Int} (ha : fits h f a = true) (hab : a < b) : cnt h f a < cnt h f b := by
  have h1 := fits_ge ha
  have := cnt_add (h := h) (b := b) h1 (by omega)
  have h2 : a ∈ rf (fits h f) a b := mem_rf.mpr ⟨by omega, ha⟩
  have := List.length_pos_iff.mpr (List.ne_nil_of_mem h2)
  omega
theorem cnt_begins {h : How} {f b : Int} (f0 : 0 ≤ f) : cnt h f b = (rf (fits h f) (begins h f 0) b).length := by
  unfold cnt
  rw [rf_low (begins0 f0)]
theorem begins_le {h : How} {f s : Int} (hok : HowOk h) (s0 : 0 ≤ s) : begins h f 0 ≤ begins h f s := by
  have := begins_mono (h := h) (f := f) (a := 0) (b := s) hok s0
  omega
theorem cnt_next {h : How} {f s : Int} (hok : HowOk h) (f0 : 0 ≤ f) (s0 : 0 ≤ s) : cnt h f (begins h f (s + 1)) = cnt h f (begins h f s) + (daysIn h f s).length := by
  have h1 := begins_le (f := f) hok s0
  have h2 := begins_lt (f := f) (s := s) hok
  rw [cnt_begins f0, cnt_begins f0, daysIn_eq hok f0 s0, ← rf_append h1 (by omega), List.length_append]
/-- within a stretch -/
theorem cnt_in {h : How} {f s d : Int} (hok : HowOk h) (f0 : 0 ≤ f) (s0 : 0 ≤ s) (h1 : begins h f s ≤ d) (h2 : d ≤ begins h f (s + 1)) : cnt h f d = cnt h f (begins h f s) + ((daysIn h f s).filter fun x => decide (x < d)).length := by
  have h3 := begins_le (f := f) hok s0
  rw [cnt_begins f0, cnt_begins f0, daysIn_eq hok f0 s0, rf_filter_lt h2, ← rf_append h3 h1, List.length_append]
theorem mem_days {h : How} {f s d : Int} (hok : HowOk h) (f0 : 0 ≤ f) (s0 : 0 ≤ s) : d ∈ daysIn h f s ↔ (begins h f s ≤ d ∧ d < begins h f (s + 1)) ∧ fits h f d = true := by
  rw [daysIn_eq hok f0 s0, mem_rf]
theorem cnt_once {f d : Int} : cnt .once f d = if f < d then 1 else 0 := by
  by_cases h : f < d
  · rw [if_pos h]
    unfold cnt
    rw [← rf_one (p := fits .once f) (x := f) (a := f) (b := d) (by omega) h (by simp [fits]) (fun y _ _ q => by simpa [fits] using q)]; rfl
  · rw [if_neg h, cnt_low (by omega)]
theorem cnt_daysB {n f : Int} (hok : HowOk (.days n)) (f0 : 0 ≤ f) : ∀ k : Nat, cnt (.days n) f (f + (k : Int) * n) = k
  | 0 => by rw [cnt_low (by simp)]
  | k + 1 => by
    have := cnt_next (s := (k : Int)) hok f0 (by omega)
    simp only [begins, daysIn, List.length_cons, List.length_nil] at this
    rw [cnt_daysB hok f0 k] at this
    push_cast
    omega
theorem cnt_days {n f d : Int} (hok : HowOk (.days n)) (f0 : 0 ≤ f) : (cnt (.days n) f d : Int) = max 0 ((d - f + n - 1) / n) := by
  obtain ⟨h1, h2⟩ := hok
  by_cases h : d ≤ f
  · rw [cnt_low h]
    have : (d - f + n - 1) / n < 1 := Int.ediv_lt_of_lt_mul (by omega) (by omega)
    omega
  · obtain ⟨k, hk⟩ : ∃ k : Nat, (d - f + n - 1) / n = k + 1 := by
      have : 1 ≤ (d - f + n - 1) / n := (Int.le_ediv_iff_mul_le (by omega)).mpr (by omega)
      exact ⟨((d - f + n - 1) / n - 1).toNat, by omega⟩
    rw [hk]
    have e := Int.mul_ediv_add_emod (d - f + n - 1) n
    have m0 := Int.emod_nonneg (d - f + n - 1) (b := n) (by omega)
    have m1 := Int.emod_lt_of_pos (d - f + n - 1) (b := n) (by omega)
    rw [hk, Int.mul_add, Int.mul_one, Int.mul_comm] at e
    have hc := cnt_in (h := .days n) (s := (k : Int)) (d := d) ⟨h1, h2⟩ f0 (by omega) (by simp only [begins]; omega) (by simp only [begins, Int.add_mul, Int.one_mul]; omega)
    simp only [begins, daysIn] at hc
    rw [cnt_daysB ⟨h1, h2⟩ f0] at hc
    have : ((([f + (k : Int) * n] : List Int)).filter fun x => decide (x < d)).length = 1 := by
      rw [List.filter_cons, if_pos (by simp; omega)]; rfl
    omega
theorem filt_split {l : List Int} {p q : Int → Bool} (h : ∀ x ∈ l, p x = true → q x = true) : (l.filter q).length = (l.filter p).length + (l.filter fun x => !p x && q x).length := by
  induction l with
  | nil => rfl
  | cons a r ih =>
    have ih := ih fun x hx => h x (List.mem_cons_of_mem _ hx)
    have ha := h a List.mem_cons_self
    simp only [List.filter_cons]
    cases hp : p a <;> cases hq : q a <;> simp_all <;> omega
noncomputable def leftN (f : Int) (ws : List Int) : Nat := (ws.filter fun w => decide (f - f % 7 + w < f)).length
theorem begins_w {n f s : Int} {ws : List Int} : begins (.weeks n ws) f s = f - f % 7 + s * (7 * n) := rfl
theorem here_w {n f s d : Int} {ws : List Int} : ((daysIn (.weeks n ws) f s).filter fun x => decide (x < d)).length = (ws.filter fun w => decide (f ≤ f - f % 7 + s * (7 * n) + w) && decide (f - f % 7 + s * (7 * n) + w < d)).length := by
  simp only [daysIn, begins]
  rw [List.filter_map, List.filter_map, List.length_map, List.filter_filter]
  congr 1
  refine List.filter_congr fun w _ => ?_
  simp only [Function.comp]
  rw [Bool.and_comm]
theorem len_w {n f s : Int} {ws : List Int} : (daysIn (.weeks n ws) f s).length = (ws.filter fun w => decide (f ≤ f - f % 7 + s * (7 * n) + w)).length := by
  simp only [daysIn, begins]
  rw [List.filter_map, List.length_map]
  rfl
theorem all_w {n f s : Int} {ws : List Int} (hok : HowOk (.weeks n ws)) (s1 : 1 ≤ s) : ∀ w ∈ ws, f ≤ f - f % 7 + s * (7 * n) + w := fun w hw => by
  obtain ⟨⟨h1, _⟩, _, _, h2⟩ := hok
  have := h2 w hw
  have : 1 * (7 * n) ≤ s * (7 * n) := Int.mul_le_mul_of_nonneg_right s1 (by omega)
  omega
theorem left_le {f : Int} {ws : List Int} : leftN f ws ≤ ws.length := List.length_filter_le _ _
theorem cnt_weeksB {n f : Int} {ws : List Int} (hok : HowOk (.weeks n ws)) (f0 : 0 ≤ f) : ∀ k : Nat, cnt (.weeks n ws) f (begins (.weeks n ws) f ((k : Int) + 1)) + leftN f ws = (k + 1) * ws.length
  | 0 => by
    have := cnt_next (s := 0) hok f0 (by omega)
    rw [cnt_low (begins0 f0), len_w] at this
    have h2 := filt_split (l := ws) (p := fun w => decide (f - f % 7 + w < f)) (q := fun _ => true) (fun _ _ _ => rfl)
    rw [List.filter_eq_self.mpr (fun _ _ => rfl)] at h2
    have h3 : (ws.filter fun w => !decide (f - f % 7 + w < f) && true) = ws.filter fun w => decide (f ≤ f - f % 7 + 0 * (7 * n) + w) := by
      refine List.filter_congr fun w _ => ?_
      rw [Bool.and_true, ← decide_not, Int.zero_mul]
      exact decide_eq_decide.mpr (by omega)
    rw [h3] at h2
    unfold leftN
    have e : ((0 : Nat) : Int) + 1 = 0 + 1 := by omega
    rw [e, this]
    simp only [Nat.zero_add, Nat.one_mul]
    omega
  | k + 1 => by
    have := cnt_next (s := ((k : Nat) : Int) + 1) hok f0 (by omega)
    rw [len_w, List.filter_eq_self.mpr (fun w hw => decide_eq_true (all_w hok (by omega) w hw))] at this
    have ih := cnt_weeksB hok f0 k
    have e : ((k + 1 : Nat) : Int) + 1 = (k : Int) + 1 + 1 := by omega
    rw [e, this, Nat.add_mul (k + 1) 1, Nat.one_mul]
    omega
theorem cnt_weeks {n f d s : Int} {ws : List Int} (hok : HowOk (.weeks n ws)) (f0 : 0 ≤ f) (s0 : 0 ≤ s) (h1 : s = 0 ∨ begins (.weeks n ws) f s ≤ d) (h2 : d ≤ begins (.weeks n ws) f (s + 1)) :
    (cnt (.weeks n ws) f d : Int) = max 0 (s * (ws.length : Nat) + ((ws.filter fun w => decide (f - f % 7 + s * (7 * n) + w < d)).length : Nat) - (leftN f ws : Nat)) := by
  by_cases hs : s = 0
  · subst hs
    by_cases hd : d ≤ f
    · rw [cnt_low hd]
      have := filt_split (l := ws) (p := fun w => decide (f - f % 7 + 0 * (7 * n) + w < d)) (q := fun w => decide (f - f % 7 + w < f)) (fun w _ q => by simp only [decide_eq_true_eq] at q ⊢; omega)
      unfold leftN
      omega
    · have hb := begins0 (h := .weeks n ws) f0
      have hc := cnt_in (s := 0) (d := d) hok f0 (by omega) (by omega) h2
      rw [cnt_low hb, here_w] at hc
      have := filt_split (l := ws) (p := fun w => decide (f - f % 7 + w < f)) (q := fun w => decide (f - f % 7 + 0 * (7 * n) + w < d)) (fun w _ q => by simp only [decide_eq_true_eq] at q ⊢; omega)
      have e : (ws.filter fun w => !decide (f - f % 7 + w < f) && decide (f - f % 7 + 0 * (7 * n) + w < d)) = ws.filter fun w => decide (f ≤ f - f % 7 + 0 * (7 * n) + w) && decide (f - f % 7 + 0 * (7 * n) + w < d) := by
        refine List.filter_congr fun w _ => ?_
        congr 1
        rw [← decide_not]
        exact decide_eq_decide.mpr (by omega)
      rw [e] at this
      unfold leftN
      omega
  · have h1 : begins (.weeks n ws) f s ≤ d := by omega
    obtain ⟨k, hk⟩ : ∃ k : Nat, s = k + 1 := ⟨(s - 1).toNat, by omega⟩
    have hc := cnt_in (s := s) (d := d) hok f0 (by omega) h1 h2
    rw [here_w] at hc
    have e : (ws.filter fun w => decide (f ≤ f - f % 7 + s * (7 * n) + w) && decide (f - f % 7 + s * (7 * n) + w < d)) = ws.filter fun w => decide (f - f % 7 + s * (7 * n) + w < d) := by
      refine List.filter_congr fun w hw => ?_
      rw [decide_eq_true (all_w hok (by omega) w hw), Bool.true_and]
    rw [e] at hc
    have hB := cnt_weeksB hok f0 k
    rw [← hk] at hB
    have hl := left_le (f := f) (ws := ws)
    have : ws.length ≤ (k + 1) * ws.length := Nat.le_mul_of_pos_left _ (by omega)
    have e2 : s * (ws.length : Int) = (((k + 1) * ws.length : Nat) : Int) := by subst hk; push_cast; rfl
    rw [e2]
    omega
/-- the day with so many ahead -/
theorem at_weeks {n f p : Int} {ws : List Int} (hok : HowOk (.weeks n ws)) (f0 : 0 ≤ f) (p0 : 0 ≤ p) :
    ∃ w, ws[((p + (leftN f ws : Nat)) % (ws.length : Nat)).toNat]? = some w ∧ fits (.weeks n ws) f (f - f % 7 + (p + (leftN f ws : Nat)) / (ws.length : Nat) * (7 * n) + w) = true ∧
      (cnt (.weeks n ws) f (f - f % 7 + (p + (leftN f ws : Nat)) / (ws.length : Nat) * (7 * n) + w) : Int) = p := by
  have hok' := hok
  obtain ⟨⟨n1, n2⟩, hne, hp, hws⟩ := hok'
  have hlen : 0 < ws.length := List.length_pos_iff.mpr hne
  have e := Int.mul_ediv_add_emod (p + (leftN f ws : Nat)) (ws.length : Nat)
  have m0 := Int.emod_nonneg (p + (leftN f ws : Nat)) (b := (ws.length : Nat)) (by omega)
  have m1 := Int.emod_lt_of_pos (p + (leftN f ws : Nat)) (b := (ws.length : Nat)) (by omega)
  have s0 : 0 ≤ (p + (leftN f ws : Nat)) / (ws.length : Nat) := Int.ediv_nonneg (by omega) (by omega)
  generalize (p + (leftN f ws : Nat)) / (ws.length : Nat) = s at *
  obtain ⟨j, hj⟩ : ∃ j : Nat, (p + (leftN f ws : Nat)) % (ws.length : Nat) = j := ⟨_, (Int.toNat_of_nonneg m0).symm⟩
  rw [hj] at m0 m1 e ⊢
  have hjl : j < ws.length := by omega
  have hw : ws[j]? = some ws[j] := List.getElem?_eq_getElem hjl
  refine ⟨ws[j], hw, ?_⟩
  have hr := hws _ (List.mem_of_getElem? hw)
  have hi := idx_lt hp hw
  generalize ws[j] = w at *
  have hB : begins (.weeks n ws) f (s + 1) = begins (.weeks n ws) f s + 7 * n := by simp only [begins, Int.add_mul, Int.one_mul]; omega
  have hb : begins (.weeks n ws) f s = f - f % 7 + s * (7 * n) := rfl
  have hhere : (ws.filter fun v => decide (f - f % 7 + s * (7 * n) + v < f - f % 7 + s * (7 * n) + w)) = ws.filter fun v => decide (v < w) := by
    refine List.filter_congr fun v _ => decide_eq_decide.mpr (by omega)
  have hc := cnt_weeks (d := f - f % 7 + s * (7 * n) + w) (s := s) hok f0 s0 (.inr (by omega)) (by omega)
  rw [hhere, hi] at hc
  have e2 : s * (ws.length : Int) = (ws.length : Int) * s := Int.mul_comm _ _
  refine ⟨?_, by omega⟩
  have hmem : f - f % 7 + s * (7 * n) + w ∈ daysIn (.weeks n ws) f s := by
    simp only [daysIn, begins]
    rw [List.mem_filter]
    refine ⟨List.mem_map.mpr ⟨w, List.mem_of_getElem? hw, rfl⟩, decide_eq_true ?_⟩
    by_cases hs : 1 ≤ s
    · exact all_w hok hs w (List.mem_of_getElem? hw)
    · have hs : s = 0 := by omega
      subst hs
      have hz : (ws.length : Int) * 0 = 0 := Int.mul_zero _
      have hz2 : (0 : Int) * (7 * n) = 0 := Int.zero_mul _
      refine Decidable.byContradiction fun q => ?_
      have := filt_split (l := ws) (p := fun v => decide (v < w)) (q := fun v => decide (f - f % 7 + v < f)) (fun v _ q => by simp only [decide_eq_true_eq] at q ⊢; omega)
      have h3 : w ∈ ws.filter fun v => !decide (v < w) && decide (f - f % 7 + v < f) := List.mem_filter.mpr ⟨List.mem_of_getElem? hw, by simp; omega⟩
      have h4 := List.length_pos_iff.mpr (List.ne_nil_of_mem h3)
      have : leftN f ws = (ws.filter fun v => decide (f - f % 7 + v < f)).length := rfl
      omega
  exact ((mem_days hok f0 s0).mp hmem).2
end G.C

namespace G
open PySem L2 C
local macro_rules
  | `(tactic| simp_all_arith! only [$xs,*]) => `(tactic| simp -implicitDefEqProofs (disch := first | assumption | omega | (simp only [okd_i, okd_n, okd_b, okd_s, strOk_of, okd_t, okd_l, okdL_n, okdL_c, Bool.and_true, Bool.and_self, *]; done) | (simp only [List.length_cons, List.length_nil, List.length_append, List.length_map, List.length_set, List.length_take, List.length_drop, List.length_reverse, rangeD_len, zipD_len, enumD_len] <;> omega)) only [x_ok, at0, at1, at2, at3, at4, at5, x_dict, k_dict, x_pairsN, x_pairsC, k_p1, k_p2, k_p3i, k_p3s, cut_ns, cut_sn, cut_ss, sl_L, sl_F, sl_T, sl_S, x_exc, slotV_v, slotO_v, slotO_o, x_var, x_own, x_c, x_bin, k_bin1, k_bin2, x_neg, k_neg, x_tup, k_tup, x_lst, k_lst, x_nCat, k_cat1, k_cat2, x_nRep, k_rep1, k_rep2, x_frz, k_frz, x_nil, x_cons, k_cons1, k_cons2, x_val, k_val, tr_bl, tr_non, tr_int, tr_lst, tr_tup, tr_frl, tr_str, x_and, x_or, x_not, k_and, k_or, k_not, x_tT, x_ifE, k_ifE, x_andV, x_orV, x_notV, k_andV, k_orV, k_notV, x_chain, k_ch1, k_ch2, k_ch3, x_call, x_callN, k_call, x_opt, k_some, x_isi, k_isi, x_oNone, x_oSome, k_oSome, x_nSl, k_nsl1, k_nsl2, k_nsl3L, k_nsl3F, x_sl, k_sl1, k_sl2, k_sl3, x_rev, k_rev, k_revT, x_fn, k_fn, x_fnB, k_fnB, x_tStill, k_stB, x_eStill, envB_t, envB_f, envB_n, envB_e, frzB_u, frzB_o, frzB_v, frzB_i, frzB_b, frzB_s, frzB_non, frzB_t, frzB_l, k_nolB, k_nolI, k_nolS, k_nolN, x_seq, k_seqL, k_seqT, k_seqF, k_seqS, x_rng1, k_rng1, x_rng2, k_rng2a, k_rng2b, x_enum, k_enum, k_enumT, x_zip, k_zipL, k_zipT, k_zipM, k_zipN, x_lc, k_lc, x_sNil, x_sSeq, k_sqn, k_sqr, k_sqb, k_sqc, k_sqx, x_sExpr, k_expr, x_sRet, k_ret, x_sRetN, x_sRetO, k_retO, x_sRetL, k_retL, x_nFn, k_fnN, k_sqo, k_turnO, k_wtO, x_runN, k_runO, k_runOX, x_sBrk, x_sCnt, x_sSet, k_set, x_sOwn, k_own, tg_some, x_sTg, k_tg, gN_ok, gT_t, gTs_n, gTs_c, x_sIf, k_if, x_sFor, k_for, x_sWhile, x_sFrz, frzE_eq, frz_o, frz_v, frz_u, slotL_o, k_mod, x_modE, x_withO, x_sApp, k_appL, k_app, hApp_ok, x_sIns, k_insL, k_ins1, k_ins2, hIns_ok, x_sRevO, k_revO, x_sClrO, k_clrO, x_sExt, k_extL, k_ext, hExt_ok, x_sSetIx, k_setIxL, k_setIx1, k_setIx2, k_putK, x_sPut, k_put1, k_put2, k_put3, x_sPar, k_par, x_sPar3, k_par3, x_run, k_runN, k_runR, k_runX, k_x, q_add, q_sub, q_addBI, q_addIB, q_subBI, q_subIB, p_strB, p_strS, tI_t, tI_f, q_mul, q_rep, q_div, q_mod, q_lt, q_le, q_gt, q_ge, q_eq, q_ne, q_is, q_isn, q_isB, q_isnB, x_idx, k_idx1, k_idx2, q_catL, q_catT, q_catS, isNon_non, isNon_int, isNon_bl, isNon_str, isNon_tup, isNon_lst, p_divmod, p_lenL, p_lenT, p_lenF, p_lenS, p_intB, p_intI, p_max2, p_min2, p_tupL, p_tupT, p_lstL, p_lstT, p_lstF, is_intI, is_intB, is_intS, is_intN, is_intT, is_intL, is_blI, is_blB, is_blS, is_blN, is_blT, is_blL, is_strI, is_strB, is_strS, is_strN, is_strT, is_strL, is_tupI, is_tupB, is_tupS, is_tupN, is_tupT, is_tupL, is_lstI, is_lstB, is_lstS, is_lstN, is_lstT, is_lstL, opIx_lst, opIx_tup, opIx_frl, k_midN, k_midC, k_midB, k_midR, k_midO, k_midX, k_turnN, k_turnC, k_turnB, k_turnR, k_turnX, k_wtN, k_wtC, k_wtB, k_wtR, k_wtX, k_wc, k_le, frzE_eq, turn_eq, turnC_eq, k_le, forL_nil, lcL_nil, startE, decide_eq_true_eq, decide_eq_false_iff_not, decide_true, decide_false, Bool.not_eq_true', Bool.not_eq_eq_eq_not, Bool.not_true, Bool.not_false, Bool.true_eq_false, Bool.false_eq_true, Bool.not_not, Option.bind_some, Option.map_some, List.map_cons, List.map_nil, List.length_cons, List.length_nil, List.cons_append, List.nil_append, List.set_cons_zero, List.set_cons_succ, List.getElem?_cons_zero, List.getElem?_cons_succ, List.length_set, ↓reduceIte, if_true, if_false, ite_self, List.replicate, List.take_succ_cons, List.take_zero, List.drop_succ_cons, List.drop_zero, List.flatten_cons, List.flatten_nil, Int.reduceToNat, List.isEmpty_cons, List.isEmpty_nil, Nat.reduceAdd, Nat.reduceSub, Nat.reduceLT, Nat.reduceLeDiff, Nat.reduceEqDiff, Int.cast_ofNat_Int, not_true_eq_false, not_false_eq_true, Int.reduceAdd, Int.reduceSub, Int.reduceMul, Int.reduceLT, Int.reduceLE, Int.reduceEq, Int.reduceNe, Int.reduceNeg, Int.zero_add, ne_eq, id, wipeE, lcL_nil, eq_self, and_true, true_and, D.int.injEq, D.bl.injEq, ofS_eq, String.reduceEq, q_eqD, q_neD, q_inT, q_inL, q_ninT, q_ninL, beq_self_eq_true, List.any_cons, List.any_nil, Bool.or_false, Bool.false_or, Bool.or_true, Bool.true_or, deq_nb, deq_ni, deq_ns, deq_nt, deq_nl, deq_bn, deq_bs, deq_bt, deq_bl, deq_in, deq_is, deq_it, deq_il, deq_sn, deq_sb, deq_si, deq_st, deq_sl, deq_tn, deq_tb, deq_ti, deq_ts, deq_tl, deq_ln, deq_lb, deq_li, deq_ls, deq_lt, deq_nn, deq_bb, deq_ii, deq_ss, deq_tt, deq_ll, deqL_nn, deqL_cc, deqL_nc, deqL_cn, okd_i, okd_n, okd_b, okd_t, okd_l, okdL_n, okdL_c, Bool.and_true, Bool.true_and, Bool.and_false, Bool.false_and, olt_t, olt_f, ole_t, ole_f, oeq_t, oeq_lt, oeq_gt, x_fld, k_fld, fld_ins, fld_new, lkP_c, lkF_c, lkF_n, meth_ins, lkM_c, k_optI, x_meth, k_meth, k_methS, k_meth2, x_sFld, k_sfld1, k_sfld2, k_setK, setO_new, putFD, List.mem_cons, List.not_mem_nil, or_true, true_or, or_false, false_or, or_self, Nat.reduceEqDiff, Nat.reduceSucc, reduceCtorEq, List.mem_nil_iff, false_and, and_false, and_self, $xs,*])

theorem leftOut_eq {f : Int} {ws : List Int} : leftOut f ws = ((leftN f ws : Nat) : Int) := rfl
theorem count_step {h : How} {f b b1 d : Int} (hb : b ≤ b1) : rf (fits h f) f (min b d) ++ (rf (fits h f) b b1).filter (fun x => decide (x < d)) = rf (fits h f) f (min b1 d) := by
  refine sorted_ext ?_ (rf_lt _ _ _) fun x => ?_
  · rw [List.pairwise_append]
    refine ⟨rf_lt _ _ _, (rf_lt _ _ _).filter _, fun x hx z hz => ?_⟩
    rw [mem_rf] at hx
    rw [List.mem_filter, mem_rf] at hz
    omega
  · rw [List.mem_append, List.mem_filter, mem_rf, mem_rf, mem_rf]
    simp only [decide_eq_true_eq]
    constructor
    · rintro (⟨h, q⟩ | ⟨⟨h, q⟩, h2⟩)
      · exact ⟨by omega, q⟩
      · have := fits_ge q; exact ⟨by omega, q⟩
    · rintro ⟨h, q⟩
      by_cases z : x < b
      · exact .inl ⟨by omega, q⟩
      · exact .inr ⟨⟨by omega, q⟩, by omega⟩
theorem n_ahead_m (h : How) (hx : (∃ n d, h = .dates n d) ∨ ∃ n k o, h = .wds n k o) {f d : Int} {S : Sto} (hok : HowOk h) (f0 : 2 ≤ f) (f1 : f ≤ 99999) (d0 : 0 ≤ d) (d1 : d ≤ 99990) : M.Months_ahead_of [cmD h f, .int d] S = .ok (.int (cnt h f d : Nat)) S := by
  have hs := fun S => s_stretch_of (h := h) (f := f) (d := d) (S := S) hok (by omega) f1 d0 (by omega)
  have hs0 := stretch0 (h := h) (f := f) (d := d)
  have hns := near_stretch (h := h) (f := f) (d := d) hok f0 d0 (by omega)
  have hni := near_idx hok (by omega) f1 hs0 hns
  have hd := fun (s : Int) (S : Sto) (s0 : 0 ≤ s) (hn : Near h f s) => n_days_in (S := S) hok (by omega) f1 s0 hn
  have hnear : ∀ s, 0 ≤ s → s ≤ stretchOf h f d → Near h f s := fun s s0 s1 => by
    rcases hns with q | q
    · exact .inl (by omega)
    · by_cases z : s = 0
      · exact .inl z
      · have := begins_mono (h := h) (f := f) (a := s - 1) (b := stretchOf h f d - 1) hok (by omega)
        exact .inr (by omega)
  have hend : d ≤ begins h f (stretchOf h f d + 1) ∨ d < begins h f 0 := by
    by_cases hb : d < begins h f 0
    · exact .inr hb
    · have := stretch_in (d := d) hok f0 (by omega) (fun _ => d1) d0
      exact .inl (by omega)
  refine tri_eq ?_
  have mS : methOf "stretch_of" [(3, M.Months_stretch_of), (4, M.Months_stretch_of), (5, M.Months_stretch_of)] S (cmD h f) = some (dS h) := by
    rcases hx with ⟨n, e, rfl⟩ | ⟨n, k, o, rfl⟩ <;> simp [cmD, meth_ins, lkF, lkM_c, dS, ofS_eq]
  have mD : ∀ S, methOf "days_in" [(3, M.Months_days_in), (4, M.Months_days_in), (5, M.Months_days_in)] S (cmD h f) = some (dD h) := fun S => by
    rcases hx with ⟨n, e, rfl⟩ | ⟨n, k, o, rfl⟩ <;> simp [cmD, meth_ins, lkF, lkM_c, dD, ofS_eq]
  simp_all_arith! only [M.Months_ahead_of, M.b_Months_ahead_of, mS, hs]
  refine rng_inv (fun s env S1 => S1 = S ∧ ∃ a b, env = [.val (cmD h f), .val (.int d), .val (.int ((rf (fits h f) f (min (begins h f s) d)).length : Nat)), a, b]) ⟨rfl, _, _, by rw [rf_empty (by have := begins0 (h := h) (f := f) (by omega); omega)]; rfl⟩ ?_ (by omega) ?_
  · rintro s env S1 s0 s1 ⟨rfl, a, b, rfl⟩
    have hd := fun S => hd s S s0 (hnear s s0 (by omega))
    have hl7 : ((daysIn h f s).map D.int).length ≤ 7 := by rw [List.length_map]; exact daysIn_len hok
    have hlt := begins_lt (h := h) (f := f) (s := s) hok
    have hcs := count_step (h := h) (f := f) (b := begins h f s) (b1 := begins h f (s + 1)) (d := d) (by omega)
    rw [← daysIn_eq hok (by omega) s0] at hcs
    simp_all_arith! only [mD, hd]
    refine lc_pure (fun e => match e with | .int w => decide (w < d) | _ => false) id ?_ ?_
    · intro e he
      obtain ⟨w, _, rfl⟩ := List.mem_map.mp he
      by_cases q : w < d
      · simp_all_arith! only [q]
      · simp_all_arith! only [q]
    · have e : List.map id (List.filter (fun e => match e with | .int w => decide (w < d) | _ => false) ((daysIn h f s).map D.int)) = ((daysIn h f s).filter fun w => decide (w < d)).map D.int := by
        rw [List.filter_map, List.map_id]; rfl
      have hle : ((daysIn h f s).filter fun w => decide (w < d)).length ≤ 7 := Nat.le_trans (List.length_filter_le _ _) (daysIn_len hok)
      rw [e]
      simp_all_arith! only [List.length_map]
      rw [← hcs, List.length_append]
      push_cast
      exact ⟨_, _, rfl⟩
  · rintro env S1 ⟨rfl, a, b, rfl⟩
    simp_all_arith! only []
    have e : rf (fits h f) f (min (begins h f (stretchOf h f d + 1)) d) = rf (fits h f) f d := by
      rcases hend with q | q
      · rw [show min (begins h f (stretchOf h f d + 1)) d = d by omega]
      · have := begins0 (h := h) (f := f) (by omega)
        rw [rf_empty (by omega), rf_empty (by omega)]
    rw [e]; rfl
theorem n_ahead {h : How} {f d : Int} {S : Sto} (hok : HowOk h) (f0 : 2 ≤ f) (f1 : f ≤ 99999) (d0 : 0 ≤ d) (d1 : d ≤ 99990) : dA h [cmD h f, .int d] S = .ok (.int (cnt h f d : Nat)) S := by
  cases h with
  | once =>
    refine tri_eq ?_
    rw [cnt_once]
    by_cases q : f < d
    · simp_all_arith! only [dA, M.Once_ahead_of, M.b_Once_ahead_of, cmD, q]
    · simp_all_arith! only [dA, M.Once_ahead_of, M.b_Once_ahead_of, cmD, q]
  | days n =>
    refine tri_eq ?_
    have := hok.1; have := hok.2
    have mx : ∀ x : Int, (if 0 < x then x else 0) = max 0 x := fun x => by split <;> omega
    simp_all_arith! only [dA, M.Days_ahead_of, M.b_Days_ahead_of, cmD, mx]
    exact (cnt_days hok (by omega)).symm
  | weeks n ws =>
    refine tri_eq ?_
    have := hok.1
    have hwl := ws_len hok
    have mx : ∀ x : Int, (if 0 < x then x else 0) = max 0 x := fun x => by split <;> omega
    have hs := fun S => s_stretch_of (h := .weeks n ws) (f := f) (d := d) (S := S) hok (by omega) f1 d0 (by omega)
    have hs0 := stretch0 (h := .weeks n ws) (f := f) (d := d)
    have hns := near_stretch (h := .weeks n ws) (f := f) (d := d) hok f0 d0 (by omega)
    have hni := near_idx hok (by omega) f1 hs0 hns
    have hb := fun S => n_begins (S := S) hok (by omega) f1 hs0 hns
    have hc : (cnt (.weeks n ws) f d : Int) = max 0 (stretchOf (.weeks n ws) f d * (ws.length : Nat) + ((ws.filter fun w => decide (f - f % 7 + stretchOf (.weeks n ws) f d * (7 * n) + w < d)).length : Nat) - (leftN f ws : Nat)) := by
      by_cases hb : d < begins (.weeks n ws) f 0
      · have e := stretch_lo hok f0 d0 hb
        rw [e]
        have := begins_lt (h := .weeks n ws) (f := f) (s := 0) hok
        exact cnt_weeks hok (by omega) (by omega) (.inl rfl) (by omega)
      · have := stretch_in (h := .weeks n ws) (d := d) hok f0 (by omega) (fun _ => d1) d0
        exact cnt_weeks hok (by omega) hs0 (.inr this.1) (by omega)
    rw [hc]
    simp only [begins] at hb
    generalize stretchOf (.weeks n ws) f d = s at *
    simp only [dS, dB, cmD, wsD] at hs hb
    simp_all_arith! only [dA, M.Weeks_ahead_of, M.b_Weeks_ahead_of, cmD, wsD, hs]
    refine lc_pure (fun e => match e with | .int w => decide (f - f % 7 + s * (7 * n) + w < d) | _ => false) id ?_ ?_
    · intro e he
      obtain ⟨w, _, rfl⟩ := List.mem_map.mp he
      by_cases q : f - f % 7 + s * (7 * n) + w < d
      · simp_all_arith! only [hb, q]
      · simp_all_arith! only [hb, q]
    · have e : List.map id (List.filter (fun e => match e with | .int w => decide (f - f % 7 + s * (7 * n) + w < d) | _ => false) (ws.map D.int)) = (ws.filter fun w => decide (f - f % 7 + s * (7 * n) + w < d)).map D.int := by
        rw [List.filter_map, List.map_id]; rfl
      have hle : (ws.filter fun w => decide (f - f % 7 + s * (7 * n) + w < d)).length ≤ 7 := Nat.le_trans (List.length_filter_le _ _) hwl
      rw [e]
      simp_all_arith! only [List.length_map, mx, leftOut_eq]
  | dates n q => exact n_ahead_m _ (.inl ⟨n, q, rfl⟩) hok f0 f1 d0 d1
  | wds n k o => exact n_ahead_m _ (.inr ⟨n, k, o, rfl⟩) hok f0 f1 d0 d1

def oD : Option Int → D
  | some x => .int x
  | none => .non
def AtP (h : How) (f p : Int) : Option Int → Prop
  | some x => fits h f x = true ∧ (cnt h f x : Int) = p
  | none => (cnt h f 99991 : Int) ≤ p
theorem n_place_m (h : How) (hx : (∃ n d, h = .dates n d) ∨ ∃ n k o, h = .wds n k o) {f p : Int} {S : Sto} (hok : HowOk h) (f0 : 2 ≤ f) (f1 : f ≤ 99990) (p0 : 0 ≤ p) : Tri (M.Months_at_place [cmD h f, .int p] S) fun d S' => S' = S ∧ ∃ o, d = oD o ∧ AtP h f p o := by
  have mB : ∀ S, methOf "begins" [(3, M.Months_begins), (4, M.Months_begins), (5, M.Months_begins)] S (cmD h f) = some (dB h) := fun S => by
    rcases hx with ⟨n, e, rfl⟩ | ⟨n, k, o, rfl⟩ <;> simp [cmD, meth_ins, lkF, lkM_c, dB, ofS_eq]
  have mD : ∀ S, methOf "days_in" [(3, M.Months_days_in), (4, M.Months_days_in), (5, M.Months_days_in)] S (cmD h f) = some (dD h) := fun S => by
    rcases hx with ⟨n, e, rfl⟩ | ⟨n, k, o, rfl⟩ <;> simp [cmD, meth_ins, lkF, lkM_c, dD, ofS_eq]
  simp_all_arith! only [M.Months_at_place, M.b_Months_at_place]
  have hb0 := begins0_nn (h := h) (f := f) (by omega)
  refine while_inv (fun env S1 => S1 = S ∧ ∃ s z, 0 ≤ s ∧ Near h f s ∧ (cnt h f (begins h f s) : Int) ≤ p ∧ env = [.val (cmD h f), .val (.int p), .val (.int s), .val (.int (p - (cnt h f (begins h f s) : Nat))), z])
    (fun env S1 => match env with | [_, _, .val (.int s), _, _] => (100000 - begins h f s).toNat | _ => 0) ⟨rfl, 0, _, by omega, .inl rfl, by rw [cnt_low (begins0 (by omega))]; exact p0, by rw [cnt_low (begins0 (by omega)), show p - ((0 : Nat) : Int) = p by omega]⟩ ?_ ?_
  · show (100000 - begins h f 0).toNat < 1000000
    omega
  · rintro env S1 ⟨rfl, s, z, s0, hn, hp, rfl⟩
    have hb := fun S => n_begins (S := S) hok (f := f) (by omega) (by omega) s0 hn
    have hd := fun S => n_days_in (S := S) hok (f := f) (by omega) (by omega) s0 hn
    have hlt := begins_lt (h := h) (f := f) (s := s) hok
    have hle := begins_le (h := h) (f := f) (s := s) hok s0
    have hl7 : ((daysIn h f s).map D.int).length ≤ 7 := by rw [List.length_map]; exact daysIn_len hok
    have hnx := cnt_next hok (f := f) (by omega) s0
    by_cases q : begins h f s ≤ 99990
    · by_cases q2 : p - (cnt h f (begins h f s) : Nat) < (daysIn h f s).length
      · obtain ⟨j, hj⟩ : ∃ j : Nat, p - ((cnt h f (begins h f s) : Nat) : Int) = (j : Int) := ⟨(p - (cnt h f (begins h f s) : Nat)).toNat, by omega⟩
        have hjl : j < (daysIn h f s).length := by omega
        have hx : (daysIn h f s)[j]? = some (daysIn h f s)[j] := List.getElem?_eq_getElem hjl
        generalize (daysIn h f s)[j] = x at hx
        have ha : atI ((daysIn h f s).map D.int) (j : Int) = some (.int x) := atI_nat (by rw [List.getElem?_map, hx]; rfl)
        have hm := (mem_days hok (by omega) s0).mp (List.mem_of_getElem? hx)
        have hci := cnt_in hok (f := f) (by omega) s0 hm.1.1 (by omega)
        have hdp : (daysIn h f s).Pairwise (· < ·) := by rw [daysIn_eq hok (by omega) s0]; exact rf_lt _ _ _
        rw [idx_lt hdp hx] at hci
        have q2' : ((j : Nat) : Int) < ((daysIn h f s).length : Nat) := by omega
        simp_all_arith! only [mB, hb, q, k_LAST_DAY, mD, hd, List.length_map, hj, q2', ha]
        exact ⟨some x, rfl, hm.2, by omega⟩
      · simp_all_arith! only [mB, hb, q, k_LAST_DAY, mD, hd, List.length_map, q2]
        have e : p - ((cnt h f (begins h f s) : Nat) : Int) - (((daysIn h f s).length : Nat) : Int) = p - ((cnt h f (begins h f (s + 1)) : Nat) : Int) := by rw [hnx]; push_cast; omega
        rw [e]
        exact ⟨⟨s + 1, .val (.lst ((daysIn h f s).map D.int)), by omega, near_next (by omega), by omega, rfl⟩, by omega⟩
    · simp_all_arith! only [mB, hb, q, k_LAST_DAY]
      have := cnt_mono (h := h) (f := f) (a := 99991) (b := begins h f s) (by omega)
      exact ⟨none, rfl, show _ ≤ _ by omega⟩
theorem n_place {h : How} {f p : Int} {S : Sto} (hok : HowOk h) (f0 : 2 ≤ f) (f1 : f ≤ 99990) (p0 : 0 ≤ p) (p1 : p ≤ 100000) : Tri (dP h [cmD h f, .int p] S) fun d S' => S' = S ∧ ∃ o, d = oD o ∧ AtP h f p o := by
  cases h with
  | once =>
    by_cases q : p = 0
    · simp_all_arith! only [dP, M.Once_at_place, M.b_Once_at_place, cmD, q]
      exact ⟨some f, rfl, by simp [fits], by rw [cnt_low (by omega)]; omega⟩
    · simp_all_arith! only [dP, M.Once_at_place, M.b_Once_at_place, cmD, q]
      exact ⟨none, rfl, show _ ≤ _ by rw [cnt_once, if_pos (by omega)]; omega⟩
  | days n =>
    have := hok.1; have := hok.2
    simp_all_arith! only [dP, M.Days_at_place, M.b_Days_at_place, cmD]
    obtain ⟨k, rfl⟩ : ∃ k : Nat, p = k := ⟨p.toNat, by omega⟩
    have hk : 0 ≤ (k : Int) * n := Int.mul_nonneg (by omega) (by omega)
    refine ⟨some (f + k * n), rfl, ?_, by rw [cnt_daysB hok (by omega)]⟩
    simp only [fits]
    rw [decide_eq_true_eq]
    exact ⟨by omega, by rw [show f + (k : Int) * n - f = k * n by omega, Int.mul_emod_left]⟩
  | weeks n ws =>
    have := hok.1
    have hwl := ws_len hok
    have hne : 0 < ws.length := List.length_pos_iff.mpr hok.2.1
    obtain ⟨w, hw, h1, h2⟩ := at_weeks (f := f) hok (by omega) p0
    have hL := left_le (f := f) (ws := ws)
    have m0 := Int.emod_nonneg (p + (leftN f ws : Nat)) (b := (ws.length : Nat)) (by omega)
    have s0 : 0 ≤ (p + (leftN f ws : Nat)) / (ws.length : Nat) := Int.ediv_nonneg (by omega) (by omega)
    have s1 : (p + (leftN f ws : Nat)) / (ws.length : Nat) ≤ p + (leftN f ws : Nat) := Int.ediv_le_self _ (by omega)
    have ha : atI (ws.map D.int) ((p + (leftN f ws : Nat)) % (ws.length : Nat)) = some (.int w) := by
      have := atI_nat (xs := ws.map D.int) (j := ((p + (leftN f ws : Nat)) % (ws.length : Nat)).toNat) (v := D.int w) (by rw [List.getElem?_map, hw]; rfl)
      rwa [Int.toNat_of_nonneg m0] at this
    have hb := fun S => s_begins (h := .weeks n ws) (f := f) (s := (p + (leftN f ws : Nat)) / (ws.length : Nat)) (S := S) hok (by omega) (by omega) s0 (by omega) (fun _ _ e => nomatch e) (fun _ _ _ e => nomatch e)
    simp only [begins] at hb
    simp only [dB, cmD, wsD, leftOut_eq] at hb
    have hz : ¬ ((ws.length : Nat) : Int) = 0 := by omega
    have hpos : 0 < ((ws.length : Nat) : Int) := by omega
    simp_all_arith! only [dP, M.Weeks_at_place, M.b_Weeks_at_place, cmD, wsD, leftOut_eq, List.length_map, hb, ha]
    exact ⟨some _, rfl, h1, h2⟩
  | dates n q => exact n_place_m _ (.inl ⟨n, q, rfl⟩) hok f0 f1 p0
  | wds n k o => exact n_place_m _ (.inr ⟨n, k, o, rfl⟩) hok f0 f1 p0
end G

namespace G
open PySem L2 C
local macro_rules
  | `(tactic| simp_all_arith! only [$xs,*]) => `(tactic| simp -implicitDefEqProofs (disch := first | assumption | omega | (simp only [okd_i, okd_n, okd_b, okd_s, strOk_of, okd_t, okd_l, okdL_n, okdL_c, Bool.and_true, Bool.and_self, *]; done) | (simp only [List.length_cons, List.length_nil, List.length_append, List.length_map, List.length_set, List.length_take, List.length_drop, List.length_reverse, rangeD_len, zipD_len, enumD_len] <;> omega)) only [x_ok, at0, at1, at2, at3, at4, at5, x_dict, k_dict, x_pairsN, x_pairsC, k_p1, k_p2, k_p3i, k_p3s, cut_ns, cut_sn, cut_ss, sl_L, sl_F, sl_T, sl_S, x_exc, slotV_v, slotO_v, slotO_o, x_var, x_own, x_c, x_bin, k_bin1, k_bin2, x_neg, k_neg, x_tup, k_tup, x_lst, k_lst, x_nCat, k_cat1, k_cat2, x_nRep, k_rep1, k_rep2, x_frz, k_frz, x_nil, x_cons, k_cons1, k_cons2, x_val, k_val, tr_bl, tr_non, tr_int, tr_lst, tr_tup, tr_frl, tr_str, x_and, x_or, x_not, k_and, k_or, k_not, x_tT, x_ifE, k_ifE, x_andV, x_orV, x_notV, k_andV, k_orV, k_notV, x_chain, k_ch1, k_ch2, k_ch3, x_call, x_callN, k_call, x_opt, k_some, x_isi, k_isi, x_oNone, x_oSome, k_oSome, x_nSl, k_nsl1, k_nsl2, k_nsl3L, k_nsl3F, x_sl, k_sl1, k_sl2, k_sl3, x_rev, k_rev, k_revT, x_fn, k_fn, x_fnB, k_fnB, x_tStill, k_stB, x_eStill, envB_t, envB_f, envB_n, envB_e, frzB_u, frzB_o, frzB_v, frzB_i, frzB_b, frzB_s, frzB_non, frzB_t, frzB_l, k_nolB, k_nolI, k_nolS, k_nolN, x_seq, k_seqL, k_seqT, k_seqF, k_seqS, x_rng1, k_rng1, x_rng2, k_rng2a, k_rng2b, x_enum, k_enum, k_enumT, x_zip, k_zipL, k_zipT, k_zipM, k_zipN, x_lc, k_lc, x_sNil, x_sSeq, k_sqn, k_sqr, k_sqb, k_sqc, k_sqx, x_sExpr, k_expr, x_sRet, k_ret, x_sRetN, x_sRetO, k_retO, x_sRetL, k_retL, x_nFn, k_fnN, k_sqo, k_turnO, k_wtO, x_runN, k_runO, k_runOX, x_sBrk, x_sCnt, x_sSet, k_set, x_sOwn, k_own, tg_some, x_sTg, k_tg, gN_ok, gT_t, gTs_n, gTs_c, x_sIf, k_if, x_sFor, k_for, x_sWhile, x_sFrz, frzE_eq, frz_o, frz_v, frz_u, slotL_o, k_mod, x_modE, x_withO, x_sApp, k_appL, k_app, hApp_ok, x_sIns, k_insL, k_ins1, k_ins2, hIns_ok, x_sRevO, k_revO, x_sClrO, k_clrO, x_sExt, k_extL, k_ext, hExt_ok, x_sSetIx, k_setIxL, k_setIx1, k_setIx2, k_putK, x_sPut, k_put1, k_put2, k_put3, x_sPar, k_par, x_sPar3, k_par3, x_run, k_runN, k_runR, k_runX, k_x, q_add, q_sub, q_addBI, q_addIB, q_subBI, q_subIB, p_strB, p_strS, tI_t, tI_f, q_mul, q_rep, q_div, q_mod, q_lt, q_le, q_gt, q_ge, q_eq, q_ne, q_is, q_isn, q_isB, q_isnB, x_idx, k_idx1, k_idx2, q_catL, q_catT, q_catS, isNon_non, isNon_int, isNon_bl, isNon_str, isNon_tup, isNon_lst, p_divmod, p_lenL, p_lenT, p_lenF, p_lenS, p_intB, p_intI, p_max2, p_min2, p_tupL, p_tupT, p_lstL, p_lstT, p_lstF, is_intI, is_intB, is_intS, is_intN, is_intT, is_intL, is_blI, is_blB, is_blS, is_blN, is_blT, is_blL, is_strI, is_strB, is_strS, is_strN, is_strT, is_strL, is_tupI, is_tupB, is_tupS, is_tupN, is_tupT, is_tupL, is_lstI, is_lstB, is_lstS, is_lstN, is_lstT, is_lstL, opIx_lst, opIx_tup, opIx_frl, k_midN, k_midC, k_midB, k_midR, k_midO, k_midX, k_turnN, k_turnC, k_turnB, k_turnR, k_turnX, k_wtN, k_wtC, k_wtB, k_wtR, k_wtX, k_wc, k_le, frzE_eq, turn_eq, turnC_eq, k_le, forL_nil, lcL_nil, startE, decide_eq_true_eq, decide_eq_false_iff_not, decide_true, decide_false, Bool.not_eq_true', Bool.not_eq_eq_eq_not, Bool.not_true, Bool.not_false, Bool.true_eq_false, Bool.false_eq_true, Bool.not_not, Option.bind_some, Option.map_some, List.map_cons, List.map_nil, List.length_cons, List.length_nil, List.cons_append, List.nil_append, List.set_cons_zero, List.set_cons_succ, List.getElem?_cons_zero, List.getElem?_cons_succ, List.length_set, ↓reduceIte, if_true, if_false, ite_self, List.replicate, List.take_succ_cons, List.take_zero, List.drop_succ_cons, List.drop_zero, List.flatten_cons, List.flatten_nil, Int.reduceToNat, List.isEmpty_cons, List.isEmpty_nil, Nat.reduceAdd, Nat.reduceSub, Nat.reduceLT, Nat.reduceLeDiff, Nat.reduceEqDiff, Int.cast_ofNat_Int, not_true_eq_false, not_false_eq_true, Int.reduceAdd, Int.reduceSub, Int.reduceMul, Int.reduceLT, Int.reduceLE, Int.reduceEq, Int.reduceNe, Int.reduceNeg, Int.zero_add, ne_eq, id, wipeE, lcL_nil, eq_self, and_true, true_and, D.int.injEq, D.bl.injEq, ofS_eq, String.reduceEq, q_eqD, q_neD, q_inT, q_inL, q_ninT, q_ninL, beq_self_eq_true, List.any_cons, List.any_nil, Bool.or_false, Bool.false_or, Bool.or_true, Bool.true_or, deq_nb, deq_ni, deq_ns, deq_nt, deq_nl, deq_bn, deq_bs, deq_bt, deq_bl, deq_in, deq_is, deq_it, deq_il, deq_sn, deq_sb, deq_si, deq_st, deq_sl, deq_tn, deq_tb, deq_ti, deq_ts, deq_tl, deq_ln, deq_lb, deq_li, deq_ls, deq_lt, deq_nn, deq_bb, deq_ii, deq_ss, deq_tt, deq_ll, deqL_nn, deqL_cc, deqL_nc, deqL_cn, okd_i, okd_n, okd_b, okd_t, okd_l, okdL_n, okdL_c, Bool.and_true, Bool.true_and, Bool.and_false, Bool.false_and, olt_t, olt_f, ole_t, ole_f, oeq_t, oeq_lt, oeq_gt, x_fld, k_fld, fld_ins, fld_new, lkP_c, lkF_c, lkF_n, meth_ins, lkM_c, k_optI, x_meth, k_meth, k_methS, k_meth2, x_sFld, k_sfld1, k_sfld2, k_setK, setO_new, putFD, List.mem_cons, List.not_mem_nil, or_true, true_or, or_false, false_or, or_self, Nat.reduceEqDiff, Nat.reduceSucc, reduceCtorEq, List.mem_nil_iff, false_and, and_false, and_self, $xs,*])

def finB (r : Rul) (d : Int) : Prop := match r.fin with
  | .none => True
  | .untl u => d ≤ u
  | .times c => (cnt r.how r.first d : Int) < c
noncomputable def limOf (r : Rul) : Int := match r.fin with
  | .none => 99990
  | .untl u => u
  | .times c => open Classical in if h : ∃ x : Int, fits r.how r.first x = true ∧ (cnt r.how r.first x : Int) = c - 1 ∧ x ≤ 99990 then h.choose else 99990
theorem cnt_inj {h : How} {f a b : Int} (ha : fits h f a = true) (hb : fits h f b = true) (e : cnt h f a = cnt h f b) : a = b := by
  by_cases h1 : a < b
  · have := cnt_lt ha h1; omega
  · by_cases h2 : b < a
    · have := cnt_lt hb h2; omega
    · omega
theorem lim_times {r : Rul} {c : Int} (e : r.fin = .times c) {o : Option Int} (h : AtP r.how r.first (c - 1) o) : limOf r = (match o with | none => 99990 | some x => min x 99990) := by
  unfold limOf
  rw [e]
  simp only []
  cases o with
  | none =>
    have h : (cnt r.how r.first 99991 : Int) ≤ c - 1 := h
    rw [dif_neg]
    rintro ⟨x, h1, h2, h3⟩
    have := cnt_lt h1 (b := 99991) (by omega)
    omega
  | some x =>
    obtain ⟨h1, h2⟩ := h
    by_cases hx : x ≤ 99990
    · have hex : ∃ x : Int, fits r.how r.first x = true ∧ (cnt r.how r.first x : Int) = c - 1 ∧ x ≤ 99990 := ⟨x, h1, h2, hx⟩
      rw [dif_pos hex]
      have hc := hex.choose_spec
      have := cnt_inj hc.1 h1 (by omega)
      simp only []
      omega
    · rw [dif_neg]
      · simp only []; omega
      · rintro ⟨y, g1, g2, g3⟩
        have := cnt_lt g1 (b := x) (by omega)
        omega
theorem lim_le {r : Rul} (h : RulOk r) : r.first ≤ limOf r ∧ limOf r ≤ 99990 := by
  have h2 := h.f1
  have h3 := h.fin
  unfold limOf
  cases e : r.fin with
  | none => simp only []; omega
  | untl u => rw [e] at h3; exact h3
  | times c =>
    simp only []
    split
    · rename_i hex
      have := hex.choose_spec
      have := fits_ge this.1
      omega
    · omega
theorem lim_iff {r : Rul} (h : RulOk r) {d : Int} (hd : fits r.how r.first d = true) : d ≤ limOf r ↔ d ≤ 99990 ∧ finB r d := by
  have h3 := h.fin
  unfold limOf finB
  cases e : r.fin with
  | none => simp
  | untl u => rw [e] at h3; have : r.first ≤ u ∧ u ≤ 99990 := h3; simp only []; omega
  | times c =>
    simp only []
    split
    · rename_i hex
      have hs := hex.choose_spec
      generalize hex.choose = x at hs
      constructor
      · intro q
        have := cnt_mono (h := r.how) (f := r.first) q
        omega
      · rintro ⟨q1, q2⟩
        refine Decidable.byContradiction fun z => ?_
        have := cnt_lt hs.1 (b := d) (by omega)
        omega
    · rename_i hex
      refine ⟨fun q => ⟨q, ?_⟩, fun q => q.1⟩
      refine Decidable.byContradiction fun z => hex ?_
      -- some day before d has c - 1 ahead
      have hlen : (c - 1).toNat < (rf (fits r.how r.first) r.first d).length := by
        have : cnt r.how r.first d = (rf (fits r.how r.first) r.first d).length := rfl
        rw [e] at h3
        have : 1 ≤ c ∧ c ≤ 1000 := h3
        omega
      have hx := List.getElem?_eq_getElem hlen
      generalize (rf (fits r.how r.first) r.first d)[(c - 1).toNat] = x at hx
      have hm := mem_rf.mp (List.mem_of_getElem? hx)
      have := idx_lt (rf_lt _ _ _) hx
      rw [rf_filter_lt (by omega)] at this
      rw [e] at h3
      have : 1 ≤ c ∧ c ≤ 1000 := h3
      have : cnt r.how r.first x = (rf (fits r.how r.first) r.first x).length := rfl
      exact ⟨x, hm.2, by omega, by omega⟩
theorem s_limit {r : Rul} {S : Sto} (h : RulOk r) : M.limit_of [ruD r, cmD r.how r.first] S = .ok (.int (limOf r)) S := by
  obtain ⟨f, m, l, hw, e⟩ := r
  have h0 := h.f0
  have h1 := h.f1
  have h2 := h.how
  have h3 := h.fin
  simp only at h0 h1 h2 h3
  refine tri_eq ?_
  cases e with
  | none => simp_all_arith! only [M.limit_of, M.b_limit_of, ruD, eD, k_LAST_DAY, limOf]
  | untl u => simp_all_arith! only [M.limit_of, M.b_limit_of, ruD, eD, k_LAST_DAY, limOf]
  | times c =>
    have h3 : 1 ≤ c ∧ c ≤ 1000 := h3
    simp_all_arith! only [M.limit_of, M.b_limit_of, ruD, eD, k_LAST_DAY, m_at_place]
    refine (n_place (S := S) h2 h0 h1 (p := c - 1) (by omega) (by omega)).to ?_
    rintro _ _ ⟨rfl, o, rfl, ho⟩
    have hl := lim_times (r := ⟨f, m, l, hw, .times c⟩) rfl ho
    rw [hl]
    cases o with
    | none => simp_all_arith! only [oD, k_LAST_DAY]
    | some x =>
      have : (if 99990 < x then 99990 else x) = min x 99990 := by split <;> omega
      simp_all_arith! only [oD, k_LAST_DAY, this]
noncomputable def inR (r : Rul) (d : Int) : Bool := @decide (fits r.how r.first d = true ∧ d ≤ 99990 ∧ finB r d) (Classical.propDecidable _)
theorem inR_iff {r : Rul} {d : Int} : inR r d = true ↔ fits r.how r.first d = true ∧ d ≤ 99990 ∧ finB r d := by
  exact @decide_eq_true_iff _ (Classical.propDecidable _)
theorem inR_lim {r : Rul} (h : RulOk r) {d : Int} : inR r d = true ↔ fits r.how r.first d = true ∧ d ≤ limOf r := by
  rw [inR_iff]
  constructor
  · rintro ⟨a, b⟩; exact ⟨a, (lim_iff h a).mpr b⟩
  · rintro ⟨a, b⟩; exact ⟨a, (lim_iff h a).mp b⟩
theorem rf_inR {r : Rul} (h : RulOk r) {a b : Int} : rf (inR r) a b = rf (fits r.how r.first) a (min b (limOf r + 1)) := by
  refine sorted_ext (rf_lt _ _ _) (rf_lt _ _ _) fun x => ?_
  rw [mem_rf, mem_rf, inR_lim h]
  constructor
  · rintro ⟨h1, h2, h3⟩; exact ⟨by omega, h2⟩
  · rintro ⟨h1, h2⟩; exact ⟨by omega, h2, by omega⟩
theorem d_days_of {r : Rul} {low high : Int} {S : Sto} (h : RulOk r) (a0 : 0 ≤ low) (a1 : low ≤ 99999) : M.days_of [ruD r, .int low, .int high] S = .ok ((rf (inR r) low (high + 1)).map D.int) S := by
  have hl := lim_le h
  rw [s_days_of h (fun S => s_limit h) hl.2 a0 a1, rf_inR h]
  rw [show min high (limOf r) + 1 = min (high + 1) (limOf r + 1) by omega]
theorem near_of {h : How} {f d : Int} (hok : HowOk h) (f0 : 2 ≤ f) (d0 : 0 ≤ d) (d1 : d ≤ 99990) : d ∈ daysIn h f (stretchOf h f d) ↔ fits h f d = true := by
  rw [mem_days hok (by omega) stretch0]
  by_cases hb : d < begins h f 0
  · rw [stretch_lo hok f0 d0 hb]
    constructor
    · rintro ⟨q, _⟩; omega
    · intro q
      have := fits_ge q
      have := begins0 (h := h) (f := f) (by omega)
      omega
  · have := stretch_in (d := d) hok f0 (by omega) (fun _ => d1) d0
    exact ⟨fun q => q.2, fun q => ⟨this, q⟩⟩
theorem d_is_day {r : Rul} {d : Int} {S : Sto} (h : RulOk r) (d0 : 0 ≤ d) : M.is_day [ruD r, .int d] S = .ok (.bl (inR r d)) S := by
  have hc := fun S => s_coming_of (S := S) h
  obtain ⟨f, m, l, hw, e⟩ := r
  have h0 := h.f0
  have h1 := h.f1
  have h2 := h.how
  have h3 := h.fin
  simp only at h0 h1 h2 h3 hc
  refine tri_eq ?_
  by_cases q : 99990 < d
  · have : inR ⟨f, m, l, hw, e⟩ d = false := by
      rw [Bool.eq_false_iff]; intro z; have := (inR_iff.mp z).2.1; omega
    simp_all_arith! only [M.is_day, M.b_is_day, hc, k_LAST_DAY, q, this]
  · have hs := fun S => s_stretch_of (h := hw) (f := f) (d := d) (S := S) h2 (by omega) (by omega) d0 (by omega)
    have hns := near_stretch (h := hw) (f := f) (d := d) h2 h0 d0 (by omega)
    have hd := fun S => n_days_in (h := hw) (f := f) (S := S) h2 (by omega) (by omega) stretch0 hns
    have hno := near_of (h := hw) (f := f) h2 h0 d0 (by omega)
    have q' : d ≤ 99990 := by omega
    by_cases hm : d ∈ daysIn hw f (stretchOf hw f d)
    · have hf := hno.mp hm
      have hi : inR ⟨f, m, l, hw, e⟩ d = true ↔ finB ⟨f, m, l, hw, e⟩ d := by
        rw [inR_iff]; exact ⟨fun z => z.2.2, fun z => ⟨hf, q', z⟩⟩
      cases e with
      | none =>
        simp only [ruD, eD] at hc
        have : inR ⟨f, m, l, hw, .none⟩ d = true := hi.mpr trivial
        simp_all_arith! only [M.is_day, M.b_is_day, hc, k_LAST_DAY, q, q', m_stretch_of, hs, m_days_in, hd, q_ninWL, hm, ruD, eD, this]
      | untl u =>
        simp only [ruD, eD] at hc
        have : decide (d ≤ u) = inR ⟨f, m, l, hw, .untl u⟩ d := by
          rw [Bool.eq_iff_iff, hi, decide_eq_true_eq]; rfl
        by_cases z : d ≤ u
        · have : inR ⟨f, m, l, hw, .untl u⟩ d = true := by rw [← this, decide_eq_true z]
          simp_all_arith! only [M.is_day, M.b_is_day, hc, k_LAST_DAY, q, q', m_stretch_of, hs, m_days_in, hd, q_ninWL, hm, ruD, eD, this, z]
        · have : inR ⟨f, m, l, hw, .untl u⟩ d = false := by rw [← this, decide_eq_false z]
          simp_all_arith! only [M.is_day, M.b_is_day, hc, k_LAST_DAY, q, q', m_stretch_of, hs, m_days_in, hd, q_ninWL, hm, ruD, eD, this, z]
      | times c =>
        simp only [ruD, eD] at hc
        have ha := fun S => n_ahead (h := hw) (f := f) (d := d) (S := S) h2 h0 (by omega) d0 q'
        have : decide ((cnt hw f d : Int) < c) = inR ⟨f, m, l, hw, .times c⟩ d := by
          rw [Bool.eq_iff_iff, hi, decide_eq_true_eq]; rfl
        by_cases z : (cnt hw f d : Int) < c
        · have : inR ⟨f, m, l, hw, .times c⟩ d = true := by rw [← this, decide_eq_true z]
          simp_all_arith! only [M.is_day, M.b_is_day, hc, k_LAST_DAY, q, q', m_stretch_of, hs, m_days_in, hd, q_ninWL, hm, ruD, eD, this, z, m_ahead_of, ha]
        · have : inR ⟨f, m, l, hw, .times c⟩ d = false := by rw [← this, decide_eq_false z]
          simp_all_arith! only [M.is_day, M.b_is_day, hc, k_LAST_DAY, q, q', m_stretch_of, hs, m_days_in, hd, q_ninWL, hm, ruD, eD, this, z, m_ahead_of, ha]
    · have : inR ⟨f, m, l, hw, e⟩ d = false := by
        rw [Bool.eq_false_iff]; intro z; exact hm (hno.mpr (inR_iff.mp z).1)
      simp_all_arith! only [M.is_day, M.b_is_day, hc, k_LAST_DAY, q, q', m_stretch_of, hs, m_days_in, hd, q_ninWL, hm, this]

def wF (r : Rul) (e : Fin) : Rul := ⟨r.first, r.minute, r.length, r.how, e⟩
def ruH (r : Rul) : D := .tup [.int r.first, .int r.minute, .int r.length, hD r.how]
section
variable {r : Rul} {S : Sto} {c : Int}
theorem ru_0 : opIx (ruD r) (.int 0) S = .ok (.int r.first) S := by unfold ruD; rw [opIx_tup, at0]; rfl
theorem ru_1 : opIx (ruD r) (.int 1) S = .ok (.int r.minute) S := by unfold ruD; rw [opIx_tup, at1]; rfl
theorem ru_2 : opIx (ruD r) (.int 2) S = .ok (.int r.length) S := by unfold ruD; rw [opIx_tup, at2]; rfl
theorem ru_3 : opIx (ruD r) (.int 3) S = .ok (hD r.how) S := by unfold ruD; rw [opIx_tup, at3]; rfl
theorem ru_4 : opIx (ruD r) (.int 4) S = .ok (eD r.fin) S := by unfold ruD; rw [opIx_tup, at4]; rfl
theorem ru_sl : opSl (ruD r) none (some 4) S = .ok (ruH r) S := by
  unfold ruD ruH
  rw [sl_T, cut_ns (by decide)]; rfl
theorem ru_n : opAdd (ruH r) (.tup [.non]) S = .ok (ruD (wF r .none)) S := rfl
theorem ru_t : opAdd (ruH r) (.tup [.tup [.str "times", .int c]]) S = .ok (ruD (wF r (.times c))) S := rfl
theorem ru_u : opAdd (ruH r) (.tup [.tup [.str "until", .int c]]) S = .ok (ruD (wF r (.untl c))) S := rfl
theorem wF_fin {e : Fin} : (wF r e).fin = e := rfl
theorem wF_first {e : Fin} : (wF r e).first = r.first := rfl
theorem wF_how {e : Fin} : (wF r e).how = r.how := rfl
theorem wF_ok (h : RulOk r) {e : Fin} (he : FinOk r.first e) : RulOk (wF r e) := ⟨h.f0, h.f1, h.how, he⟩
theorem wF_in (h : RulIn r) {e : Fin} (he : FinOk r.first e) : RulIn (wF r e) := ⟨wF_ok h.ok he, h.m0, h.m1, h.l0, h.l1⟩
end
theorem cutA_len {α : Type} {xs : List α} {lo hi : Option Int} : (cutA xs lo hi).length ≤ xs.length := by
  unfold cutA
  rw [List.length_take, List.length_drop]
  omega
theorem mem_cutA {α : Type} {xs : List α} {lo hi : Option Int} {x : α} (h : x ∈ cutA xs lo hi) : x ∈ xs := List.mem_of_mem_drop (List.mem_of_mem_take h)
end G

set_option maxHeartbeats 4000000
namespace G
open PySem L2 C
local macro_rules
  | `(tactic| simp_arith only [$xs,*]) => `(tactic| simp -implicitDefEqProofs (disch := first | assumption | omega | (simp only [List.length_cons, List.length_nil, List.length_append, List.length_map, List.length_set, List.length_take, List.length_drop, List.length_reverse, rangeD_len, zipD_len, enumD_len] <;> omega)) only [x_ok, at0, at1, at2, at3, at4, at5, x_dict, k_dict, x_pairsN, x_pairsC, k_p1, k_p2, k_p3i, k_p3s, cut_ns, cut_sn, cut_ss, sl_L, sl_F, sl_T, sl_S, x_exc, slotV_v, slotO_v, slotO_o, x_var, x_own, x_c, x_bin, k_bin1, k_bin2, x_neg, k_neg, x_tup, k_tup, x_lst, k_lst, x_nCat, k_cat1, k_cat2, x_nRep, k_rep1, k_rep2, x_frz, k_frz, x_nil, x_cons, k_cons1, k_cons2, x_val, k_val, tr_bl, tr_non, tr_int, tr_lst, tr_tup, tr_frl, tr_str, x_and, x_or, x_not, k_and, k_or, k_not, x_tT, x_ifE, k_ifE, x_andV, x_orV, x_notV, k_andV, k_orV, k_notV, x_chain, k_ch1, k_ch2, k_ch3, x_call, x_callN, k_call, x_opt, k_some, x_isi, k_isi, x_oNone, x_oSome, k_oSome, x_nSl, k_nsl1, k_nsl2, k_nsl3L, k_nsl3F, x_sl, k_sl1, k_sl2, k_sl3, x_rev, k_rev, k_revT, x_fn, k_fn, x_fnB, k_fnB, x_tStill, k_stB, x_eStill, envB_t, envB_f, envB_n, envB_e, frzB_u, frzB_o, frzB_v, frzB_i, frzB_b, frzB_s, frzB_non, frzB_t, frzB_l, k_nolB, k_nolI, k_nolS, k_nolN, x_seq, k_seqL, k_seqT, k_seqF, k_seqS, x_rng1, k_rng1, x_rng2, k_rng2a, k_rng2b, x_enum, k_enum, k_enumT, x_zip, k_zipL, k_zipT, k_zipM, k_zipN, x_lc, k_lc, x_sNil, x_sSeq, k_sqn, k_sqr, k_sqb, k_sqc, k_sqx, x_sExpr, k_expr, x_sRet, k_ret, x_sRetN, x_sRetO, k_retO, x_sRetL, k_retL, x_nFn, k_fnN, k_sqo, k_turnO, k_wtO, x_runN, k_runO, k_runOX, x_sBrk, x_sCnt, x_sSet, k_set, x_sOwn, k_own, tg_some, x_sTg, k_tg, gN_ok, gT_t, gTs_n, gTs_c, x_sIf, k_if, x_sFor, k_for, x_sWhile, x_sFrz, frzE_eq, frz_o, frz_v, frz_u, slotL_o, k_mod, x_modE, x_withO, x_sApp, k_appL, k_app, hApp_ok, x_sIns, k_insL, k_ins1, k_ins2, hIns_ok, x_sRevO, k_revO, x_sClrO, k_clrO, x_sExt, k_extL, k_ext, hExt_ok, x_sSetIx, k_setIxL, k_setIx1, k_setIx2, k_putK, x_sPut, k_put1, k_put2, k_put3, x_sPar, k_par, x_sPar3, k_par3, x_run, k_runN, k_runR, k_runX, k_x, q_add, q_sub, q_addBI, q_addIB, q_subBI, q_subIB, p_strB, p_strS, tI_t, tI_f, q_mul, q_rep, q_div, q_mod, q_lt, q_le, q_gt, q_ge, q_eq, q_ne, q_is, q_isn, q_isB, q_isnB, x_idx, k_idx1, k_idx2, q_catL, q_catT, q_catS, isNon_non, isNon_int, isNon_bl, isNon_str, isNon_tup, isNon_lst, p_divmod, p_lenL, p_lenT, p_lenF, p_lenS, p_intB, p_intI, p_max2, p_min2, p_tupL, p_tupT, p_lstL, p_lstT, p_lstF, is_intI, is_intB, is_intS, is_intN, is_intT, is_intL, is_blI, is_blB, is_blS, is_blN, is_blT, is_blL, is_strI, is_strB, is_strS, is_strN, is_strT, is_strL, is_tupI, is_tupB, is_tupS, is_tupN, is_tupT, is_tupL, is_lstI, is_lstB, is_lstS, is_lstN, is_lstT, is_lstL, opIx_lst, opIx_tup, opIx_frl, k_midN, k_midC, k_midB, k_midR, k_midO, k_midX, k_turnN, k_turnC, k_turnB, k_turnR, k_turnX, k_wtN, k_wtC, k_wtB, k_wtR, k_wtX, k_wc, k_le, frzE_eq, turn_eq, turnC_eq, k_le, forL_nil, lcL_nil, startE, decide_eq_true_eq, decide_eq_false_iff_not, decide_true, decide_false, Bool.not_eq_true', Bool.not_eq_eq_eq_not, Bool.not_true, Bool.not_false, Bool.true_eq_false, Bool.false_eq_true, Bool.not_not, Option.bind_some, Option.map_some, List.map_cons, List.map_nil, List.length_cons, List.length_nil, List.cons_append, List.nil_append, List.set_cons_zero, List.set_cons_succ, List.getElem?_cons_zero, List.getElem?_cons_succ, List.length_set, ↓reduceIte, if_true, if_false, ite_self, List.replicate, List.take_succ_cons, List.take_zero, List.drop_succ_cons, List.drop_zero, List.flatten_cons, List.flatten_nil, Int.reduceToNat, List.isEmpty_cons, List.isEmpty_nil, Nat.reduceAdd, Nat.reduceSub, Nat.reduceLT, Nat.reduceLeDiff, Nat.reduceEqDiff, Int.cast_ofNat_Int, not_true_eq_false, not_false_eq_true, Int.reduceAdd, Int.reduceSub, Int.reduceMul, Int.reduceLT, Int.reduceLE, Int.reduceEq, Int.reduceNe, Int.reduceNeg, Int.zero_add, ne_eq, id, wipeE, lcL_nil, eq_self, and_true, true_and, D.int.injEq, D.bl.injEq, ofS_eq, String.reduceEq, $xs,*])
local macro_rules
  | `(tactic| simp_arith! only [$xs,*]) => `(tactic| simp -implicitDefEqProofs (disch := first | assumption | omega | (simp only [okd_i, okd_n, okd_b, okd_s, strOk_of, okd_t, okd_l, okdL_n, okdL_c, Bool.and_true, Bool.and_self, *]; done) | (simp only [List.length_cons, List.length_nil, List.length_append, List.length_map, List.length_set, List.length_take, List.length_drop, List.length_reverse, rangeD_len, zipD_len, enumD_len] <;> omega)) only [x_ok, at0, at1, at2, at3, at4, at5, x_dict, k_dict, x_pairsN, x_pairsC, k_p1, k_p2, k_p3i, k_p3s, cut_ns, cut_sn, cut_ss, sl_L, sl_F, sl_T, sl_S, x_exc, slotV_v, slotO_v, slotO_o, x_var, x_own, x_c, x_bin, k_bin1, k_bin2, x_neg, k_neg, x_tup, k_tup, x_lst, k_lst, x_nCat, k_cat1, k_cat2, x_nRep, k_rep1, k_rep2, x_frz, k_frz, x_nil, x_cons, k_cons1, k_cons2, x_val, k_val, tr_bl, tr_non, tr_int, tr_lst, tr_tup, tr_frl, tr_str, x_and, x_or, x_not, k_and, k_or, k_not, x_tT, x_ifE, k_ifE, x_andV, x_orV, x_notV, k_andV, k_orV, k_notV, x_chain, k_ch1, k_ch2, k_ch3, x_call, x_callN, k_call, x_opt, k_some, x_isi, k_isi, x_oNone, x_oSome, k_oSome, x_nSl, k_nsl1, k_nsl2, k_nsl3L, k_nsl3F, x_sl, k_sl1, k_sl2, k_sl3, x_rev, k_rev, k_revT, x_fn, k_fn, x_fnB, k_fnB, x_tStill, k_stB, x_eStill, envB_t, envB_f, envB_n, envB_e, frzB_u, frzB_o, frzB_v, frzB_i, frzB_b, frzB_s, frzB_non, frzB_t, frzB_l, k_nolB, k_nolI, k_nolS, k_nolN, x_seq, k_seqL, k_seqT, k_seqF, k_seqS, x_rng1, k_rng1, x_rng2, k_rng2a, k_rng2b, x_enum, k_enum, k_enumT, x_zip, k_zipL, k_zipT, k_zipM, k_zipN, x_lc, k_lc, x_sNil, x_sSeq, k_sqn, k_sqr, k_sqb, k_sqc, k_sqx, x_sExpr, k_expr, x_sRet, k_ret, x_sRetN, x_sRetO, k_retO, x_sRetL, k_retL, x_nFn, k_fnN, k_sqo, k_turnO, k_wtO, x_runN, k_runO, k_runOX, x_sBrk, x_sCnt, x_sSet, k_set, x_sOwn, k_own, tg_some, x_sTg, k_tg, gN_ok, gT_t, gTs_n, gTs_c, x_sIf, k_if, x_sFor, k_for, x_sWhile, x_sFrz, frzE_eq, frz_o, frz_v, frz_u, slotL_o, k_mod, x_modE, x_withO, x_sApp, k_appL, k_app, hApp_ok, x_sIns, k_insL, k_ins1, k_ins2, hIns_ok, x_sRevO, k_revO, x_sClrO, k_clrO, x_sExt, k_extL, k_ext, hExt_ok, x_sSetIx, k_setIxL, k_setIx1, k_setIx2, k_putK, x_sPut, k_put1, k_put2, k_put3, x_sPar, k_par, x_sPar3, k_par3, x_run, k_runN, k_runR, k_runX, k_x, q_add, q_sub, q_addBI, q_addIB, q_subBI, q_subIB, p_strB, p_strS, tI_t, tI_f, q_mul, q_rep, q_div, q_mod, q_lt, q_le, q_gt, q_ge, q_eq, q_ne, q_is, q_isn, q_isB, q_isnB, x_idx, k_idx1, k_idx2, q_catL, q_catT, q_catS, isNon_non, isNon_int, isNon_bl, isNon_str, isNon_tup, isNon_lst, p_divmod, p_lenL, p_lenT, p_lenF, p_lenS, p_intB, p_intI, p_max2, p_min2, p_tupL, p_tupT, p_lstL, p_lstT, p_lstF, is_intI, is_intB, is_intS, is_intN, is_intT, is_intL, is_blI, is_blB, is_blS, is_blN, is_blT, is_blL, is_strI, is_strB, is_strS, is_strN, is_strT, is_strL, is_tupI, is_tupB, is_tupS, is_tupN, is_tupT, is_tupL, is_lstI, is_lstB, is_lstS, is_lstN, is_lstT, is_lstL, opIx_lst, opIx_tup, opIx_frl, k_midN, k_midC, k_midB, k_midR, k_midO, k_midX, k_turnN, k_turnC, k_turnB, k_turnR, k_turnX, k_wtN, k_wtC, k_wtB, k_wtR, k_wtX, k_wc, k_le, frzE_eq, turn_eq, turnC_eq, k_le, forL_nil, lcL_nil, startE, decide_eq_true_eq, decide_eq_false_iff_not, decide_true, decide_false, Bool.not_eq_true', Bool.not_eq_eq_eq_not, Bool.not_true, Bool.not_false, Bool.true_eq_false, Bool.false_eq_true, Bool.not_not, Option.bind_some, Option.map_some, List.map_cons, List.map_nil, List.length_cons, List.length_nil, List.cons_append, List.nil_append, List.set_cons_zero, List.set_cons_succ, List.getElem?_cons_zero, List.getElem?_cons_succ, List.length_set, ↓reduceIte, if_true, if_false, ite_self, List.replicate, List.take_succ_cons, List.take_zero, List.drop_succ_cons, List.drop_zero, List.flatten_cons, List.flatten_nil, Int.reduceToNat, List.isEmpty_cons, List.isEmpty_nil, Nat.reduceAdd, Nat.reduceSub, Nat.reduceLT, Nat.reduceLeDiff, Nat.reduceEqDiff, Int.cast_ofNat_Int, not_true_eq_false, not_false_eq_true, Int.reduceAdd, Int.reduceSub, Int.reduceMul, Int.reduceLT, Int.reduceLE, Int.reduceEq, Int.reduceNe, Int.reduceNeg, Int.zero_add, ne_eq, id, wipeE, lcL_nil, eq_self, and_true, true_and, D.int.injEq, D.bl.injEq, ofS_eq, String.reduceEq, q_eqD, q_neD, q_inT, q_inL, q_ninT, q_ninL, beq_self_eq_true, List.any_cons, List.any_nil, Bool.or_false, Bool.false_or, Bool.or_true, Bool.true_or, deq_nb, deq_ni, deq_ns, deq_nt, deq_nl, deq_bn, deq_bs, deq_bt, deq_bl, deq_in, deq_is, deq_it, deq_il, deq_sn, deq_sb, deq_si, deq_st, deq_sl, deq_tn, deq_tb, deq_ti, deq_ts, deq_tl, deq_ln, deq_lb, deq_li, deq_ls, deq_lt, deq_nn, deq_bb, deq_ii, deq_ss, deq_tt, deq_ll, deqL_nn, deqL_cc, deqL_nc, deqL_cn, okd_i, okd_n, okd_b, okd_t, okd_l, okdL_n, okdL_c, Bool.and_true, Bool.true_and, Bool.and_false, Bool.false_and, $xs,*])

def tellD (ts : List (Int × Int)) (r : Rul) : D := .tup [clockD ts, ruD r, .str "hall", .tup []]
def bodyD (r : Rul) (d : Int) : D := .tup [.int d, .int r.minute, .int r.length, .str "hall"]
def meetD (r : Rul) (d : Int) : D := .tup [.int d, bodyD r d]
noncomputable def momI (ts : List (Int × Int)) (r : Rul) (d : Int) : Int := (momOf ts (1440 * d + r.minute)).getD 0
noncomputable def rowD (ts : List (Int × Int)) (r : Rul) (d : Int) : D := .tup [.int (momI ts r d), .int r.length, .str "hall", .int d]
section
variable {ts : List (Int × Int)} {r : Rul} {d low high : Int} {S : Sto}
theorem s_bare3 {p : D} : M.bare [ruD r, p, .int d] S = .ok (.tup [.str "is", .int d, .int r.minute, .int r.length, p]) S := by
  refine tri_eq ?_
  simp_arith! only [M.bare, M.b_bare, ru_1, ru_2]
theorem s_told3 : M.told_by [tellD ts r, .int d] S = .ok (bodyD r d) S := by
  refine tri_eq ?_
  simp_arith! only [M.told_by, M.b_told_by, tellD, s_bare3, bodyD]
theorem filter_true {α : Type} {l : List α} : l.filter (fun _ => true) = l := List.filter_eq_self.mpr fun _ _ => rfl
theorem s_meetings3 (h : RulOk r) (a0 : 0 ≤ low) (a1 : low ≤ 99999) : M.meetings [tellD ts r, .int low, .int high] S = .ok ((rf (inR r) low (high + 1)).map (meetD r)) S := by
  refine tri_eq ?_
  have hd := fun S => d_days_of (r := r) (low := low) (high := high) (S := S) h a0 a1
  have ht := fun d S => s_told3 (ts := ts) (r := r) (d := d) (S := S)
  have e1 : ∀ S, opIx (tellD ts r) (.int 1) S = .ok (ruD r) S := fun S => by unfold tellD; rw [opIx_tup, at1]; rfl
  have hl : (rf (inR r) low (high + 1)).length ≤ 16777216 := by
    rw [rf_inR h]
    refine Nat.le_trans (rf_len _ _ _) ?_
    have := (lim_le h).2
    omega
  simp_arith! only [M.meetings, M.b_meetings, hd, e1, List.length_map]
  refine lc_map (fun d => match d with | .int k => meetD r k | _ => .non) ?_ ?_
  · intro x hx
    obtain ⟨k, hk, rfl⟩ := List.mem_map.mp hx
    simp_arith! only [ht, meetD]
  · have e2 : ((rf (inR r) low (high + 1)).map D.int).map (fun d => match d with | .int k => meetD r k | _ => .non) = (rf (inR r) low (high + 1)).map (meetD r) := by rw [List.map_map]; rfl
    rw [e2]
    simp_arith! only [List.length_map]
    refine lc_pure (fun _ => true) (fun d => d) ?_ ?_
    · intro x hx
      obtain ⟨k, hk, rfl⟩ := List.mem_map.mp hx
      simp_arith! only [meetD, bodyD]
    · rw [filter_true, List.map_id']
      simp_arith! only []
end
theorem toPyL_map : ∀ {ds : List D}, toPyL ds = ds.map toPy
  | [] => rfl
  | d :: ds => by rw [toPyL, toPyL_map]; rfl
theorem p_sortX {ds : List D} {S : Sto} (h1 : intsD ds = none) (h2 : prsD ds = none) (h3 : okSrt ds = true) : pSorted [.lst ds] S = .ok (sortD ds) S := by
  unfold pSorted
  simp only [h1, h2, h3, if_true]
theorem sortD_perm (ds : List D) : (sortD ds).Perm ds := List.mergeSort_perm _ _
theorem sortD_idem {ds : List D} : sortD (sortD ds) = sortD ds := by
  have h : PySem.W.TotalLe (PySem.W.dataLe false toPy) := PySem.W.sortLe_total _ _ _
  exact List.mergeSort_of_pairwise (PySem.W.sort_pairwise h ds)
theorem okSrt_sub {ds es : List D} (h : okSrt ds = true) (hs : ∀ d ∈ es, d ∈ ds) : okSrt es = true := by
  unfold okSrt at h ⊢
  simp only [Bool.and_eq_true, Bool.or_eq_true, List.all_eq_true] at h ⊢
  exact ⟨fun d m => h.1 d (hs d m), fun d m e k => h.2.1 d (hs d m) e (hs e k), h.2.2.imp (fun g d m => g d (hs d m)) fun g d m => g d (hs d m)⟩
theorem p_sortI {ns : List Int} {S : Sto} : pSorted [.lst (ns.map D.int)] S = .ok ((sortI ns).map D.int) S := by
  unfold pSorted
  simp only [intsD_map]
theorem sortI_of {ns ms : List Int} (h : ns.Perm ms) (hm : ms.Pairwise (· < ·)) : sortI ns = ms :=
  sorted_uniq ((sortI_perm ns).trans h) (sortI_sorted ns) (hm.imp fun h => Int.le_of_lt h)
section
variable {ts : List (Int × Int)} {r : Rul} {d low high : Int} {S : Sto}
theorem okSrt_rows {L : List Int} : okSrt (L.map (rowD ts r)) = true := by
  unfold okSrt
  simp only [Bool.and_eq_true, Bool.or_eq_true, List.all_eq_true, decide_eq_true_eq]
  refine ⟨fun d hd => ?_, fun d hd e he => ?_, .inl fun d hd => ?_⟩
  · obtain ⟨x, _, rfl⟩ := List.mem_map.mp hd
    simp [rowD, G.pure, pureL, toPy, toPyL, PyData.depth, PyData.depthAll]
  · obtain ⟨x, _, rfl⟩ := List.mem_map.mp hd
    obtain ⟨y, _, rfl⟩ := List.mem_map.mp he
    simp [rowD, toPy, toPyL, PySem.W.alike, PySem.W.alikeAll]
  · obtain ⟨x, _, rfl⟩ := List.mem_map.mp hd
    rfl
theorem rows_sort {L : List Int} {S : Sto} : pSorted [.lst (L.map (rowD ts r))] S = .ok (sortD (L.map (rowD ts r))) S := by
  cases L with
  | nil =>
    have e1 : sortI [] = [] := by unfold sortI; exact List.mergeSort_nil
    have e2 : sortD [] = [] := by unfold sortD; exact List.mergeSort_nil
    show R.ok ((sortI []).map D.int) S = R.ok (sortD []) S
    rw [e1, e2]; rfl
  | cons x L => exact p_sortX rfl rfl okSrt_rows
def dayOf : D → Int
  | .tup [_, _, _, .int d] => d
  | _ => 0
theorem rows_perm {L : List Int} : ∃ L' : List Int, L'.Perm L ∧ sortD (L.map (rowD ts r)) = L'.map (rowD ts r) := by
  have hp := sortD_perm (L.map (rowD ts r))
  refine ⟨(sortD (L.map (rowD ts r))).map dayOf, ?_, ?_⟩
  · have := hp.map dayOf
    rw [List.map_map] at this
    have e : L.map (dayOf ∘ rowD ts r) = L := by
      rw [show (dayOf ∘ rowD ts r) = id from rfl, List.map_id]
    rw [e] at this
    exact this
  · rw [List.map_map]
    refine (List.map_id _).symm.trans (List.map_congr_left fun d hd => ?_)
    obtain ⟨x, _, rfl⟩ := List.mem_map.mp (hp.mem_iff.mp hd)
    rfl
theorem s_moments3 (hr : RulOk r) (m0 : 0 ≤ r.minute) (m1 : r.minute ≤ 1439) (h : Clk ts) (a0 : 0 ≤ low) (a1 : low ≤ 99999) : M.moments [tellD ts r, .int low, .int high] S = .ok (sortD ((rf (inR r) low (high + 1)).map (rowD ts r))) S := by
  refine tri_eq ?_
  have hm := fun S => s_meetings3 (ts := ts) (r := r) (low := low) (high := high) (S := S) hr a0 a1
  have hlen : ts.length ≤ 1000 := by have := h.len; omega
  have ho := fun t S => s_moment_of (ts := ts) (t := t) (S := S) hlen
  have e1 : ∀ S, opIx (tellD ts r) (.int 0) S = .ok (clockD ts) S := fun S => by unfold tellD; rw [opIx_tup, at0]; rfl
  obtain ⟨L, hL⟩ : ∃ L, rf (inR r) low (high + 1) = L := ⟨_, rfl⟩
  have hl : L.length ≤ 100000 := by
    rw [← hL, rf_inR hr]
    refine Nat.le_trans (rf_len _ _ _) ?_
    have := (lim_le hr).2
    omega
  have hLm : ∀ x ∈ L, 2 ≤ x ∧ x ≤ 99990 := fun x hx => by
    rw [← hL, mem_rf] at hx
    have h1 := inR_iff.mp hx.2
    have := fits_ge h1.1
    have := hr.f0
    omega
  rw [hL] at hm ⊢
  simp_arith! only [M.moments, M.b_moments, hm]
  refine for_inv (fun j env S1 => S1 = S ∧ ∃ a b c d e, env = [.val (tellD ts r), .val (.int low), .val (.int high), .own ((L.take j).map (rowD ts r)), a, b, c, d, e]) ⟨rfl, _, _, _, _, _, by rw [List.take_zero]; rfl⟩ ?_ ?_
  · rintro j d env S1 hj ⟨rfl, _, _, _, _, _, rfl⟩
    rw [List.getElem?_map] at hj
    obtain ⟨x, hx, rfl⟩ := Option.map_eq_some_iff.mp hj
    obtain ⟨x0, x1⟩ := hLm x (List.mem_of_getElem? hx)
    obtain ⟨y, hy, _⟩ := mom_ok (t := 1440 * x + r.minute) h (by omega) (by omega)
    have hlt : ((L.take j).map (rowD ts r)).length < 16777216 := by rw [List.length_map, List.length_take]; omega
    have e2 : momI ts r x = y := by unfold momI; rw [hy]; rfl
    simp_arith! only [meetD, bodyD, e1, ho, hy, optD, k_DAY_MINUTES, hlt]
    have e3 : (L.take (j + 1)).map (rowD ts r) = (L.take j).map (rowD ts r) ++ [.tup [.int y, .int r.length, .str "hall", .int x]] := by
      rw [List.take_add_one, hx, List.map_append]
      simp [rowD, e2]
    rw [← e3]
    exact ⟨_, _, _, _, _, rfl⟩
  · rintro env S1 ⟨rfl, _, _, _, _, _, rfl⟩
    rw [List.length_map, List.take_length]
    simp_arith! only [rows_sort]
end
theorem s_near_clock {n : Nat} {R S : Sto} {x : Int} (hT : Tp n R S) (hn : n ≤ 10000000000000) (x0 : 2 ≤ x) (x1 : x ≤ 99990) : Tri (M.law_near_clock [.obj 0, .int x] S) fun d S' => ∃ ts, d = clockD ts ∧ Clk ts ∧ Tp (n + 7000) R S' := by
  simp_arith only [M.law_near_clock, M.b_law_near_clock]
  refine (s_offset hT (by omega)).to ?_
  rintro _ _ ⟨o, rfl, o0, o1, hT⟩
  simp_arith only []
  obtain ⟨near, hnear, n0, n1⟩ : ∃ y, (if 2000 < 1440 * (x - 2) then 1440 * (x - 2) else 2000) = y ∧ 2000 ≤ y ∧ y ≤ 143982720 := ⟨_, rfl, by split <;> omega, by split <;> omega⟩
  rw [hnear]
  refine (dr hT (by omega) (by omega) (by omega)).to ?_
  rintro _ _ ⟨c, rfl, c0, c1, hT⟩
  simp_arith only []
  refine rng_inv (fun i env S => ∃ (k : Nat) (ts : List (Int × Int)) (mo : Int) (x' y : Slot), Tp k R S ∧ (k : Int) ≤ n + 120 + i * 160 ∧ Rise (-1) ts ∧ (∃ o r, ts = (0, o) :: r) ∧ (∀ t ∈ ts, t.1 ≤ mo) ∧ (ts.length : Int) ≤ i + 1 ∧ 2000 ≤ mo ∧ mo ≤ 143990000 + i * 300001 ∧
    env = [.val (.obj 0), .val (.int x), .own (ts.map turnD), .val (.int mo), x'])
    ⟨n + 120, [(0, o)], near, _, .val .non, hT.mono (by omega), by push_cast; omega, ⟨by show (-1 : Int) < 0; decide, by show (0 : Int) ≤ 143999999; decide, o0, o1, trivial⟩, ⟨o, [], rfl⟩, by simp; omega, by simp, by omega, by omega, rfl⟩ ?_ c0 ?_
  · rintro i env S i0 i1 ⟨k, ts, mo, _, _, hT, hk, hR, ⟨o', r, ht⟩, hm, hl, q0, q1, rfl⟩
    simp_arith only []
    refine (dr hT (by omega) (by omega) (by omega)).to ?_
    rintro _ _ ⟨d, rfl, d0, d1, hT⟩
    simp_arith only []
    refine (dr hT (by omega) (by omega) (by omega)).to ?_
    rintro _ _ ⟨e, rfl, e0, e1, hT⟩
    simp_arith only []
    refine (dr hT (by omega) (by omega) (by omega)).to ?_
    rintro _ _ ⟨f, rfl, f0, f1, hT⟩
    simp_arith only []
    refine (dr hT (by omega) (by omega) (by omega)).to ?_
    rintro _ _ ⟨g, rfl, g0, g1, hT⟩
    simp_arith only []
    refine pickI 0 300000 (by omega) (by simp only [List.length_cons, List.length_nil]; omega) (by repeat' (first | exact all_nil | refine all_cons ⟨_, rfl, by omega, by omega⟩ ?_)) fun h h0 h1 => ?_
    simp_arith only []
    obtain ⟨mo', e1, e2, e3⟩ : ∃ mo', mo + 1 + h = mo' ∧ mo < mo' ∧ mo' ≤ 143990000 + (i + 1) * 300001 := ⟨_, rfl, by omega, by omega⟩
    by_cases hc : mo' < 143990000
    · simp_arith only [e1, hc]
      refine (s_offset hT (by omega)).to ?_
      rintro _ _ ⟨o2, rfl, p0, p1, hT⟩
      have hlt : (ts.map turnD).length < 16777216 := by rw [List.length_map]; omega
      simp_arith only [hlt]
      exact ⟨_, ts ++ [(mo', o2)], mo', _, .val .non, hT, by push_cast; omega, hR.snoc (fun t ht => by have := hm t ht; omega) (by omega) (by omega) p0 p1, ⟨o', r ++ [(mo', o2)], by rw [ht]; rfl⟩,
        fun t ht => by
          rcases List.mem_append.mp ht with q | q
          · have := hm t q; omega
          · simp at q; subst q; exact Int.le_refl _,
        by simp; omega, by omega, by omega, by rw [List.map_append]; rfl⟩
    · simp_arith only [e1, hc]
      exact ⟨_, ts, mo', _, .val .non, hT, by push_cast; omega, hR, ⟨o', r, ht⟩, fun t ht => by have := hm t ht; omega, by omega, by omega, by omega, rfl⟩
  · rintro env S ⟨k, ts, mo, _, _, hT, hk, hR, ht, hm, hl, q0, q1, rfl⟩
    simp_arith only []
    exact ⟨ts, rfl, ⟨hR, ht, by omega⟩, hT.mono (by omega)⟩
end G

set_option maxHeartbeats 4000000
namespace G
open PySem L2 C
local macro_rules
  | `(tactic| simp_arith only [$xs,*]) => `(tactic| simp -implicitDefEqProofs (disch := first | assumption | omega | (simp only [List.length_cons, List.length_nil, List.length_append, List.length_map, List.length_set, List.length_take, List.length_drop, List.length_reverse, rangeD_len, zipD_len, enumD_len] <;> omega)) only [x_ok, at0, at1, at2, at3, at4, at5, x_dict, k_dict, x_pairsN, x_pairsC, k_p1, k_p2, k_p3i, k_p3s, cut_ns, cut_sn, cut_ss, sl_L, sl_F, sl_T, sl_S, x_exc, slotV_v, slotO_v, slotO_o, x_var, x_own, x_c, x_bin, k_bin1, k_bin2, x_neg, k_neg, x_tup, k_tup, x_lst, k_lst, x_nCat, k_cat1, k_cat2, x_nRep, k_rep1, k_rep2, x_frz, k_frz, x_nil, x_cons, k_cons1, k_cons2, x_val, k_val, tr_bl, tr_non, tr_int, tr_lst, tr_tup, tr_frl, tr_str, x_and, x_or, x_not, k_and, k_or, k_not, x_tT, x_ifE, k_ifE, x_andV, x_orV, x_notV, k_andV, k_orV, k_notV, x_chain, k_ch1, k_ch2, k_ch3, x_call, x_callN, k_call, x_opt, k_some, x_isi, k_isi, x_oNone, x_oSome, k_oSome, x_nSl, k_nsl1, k_nsl2, k_nsl3L, k_nsl3F, x_sl, k_sl1, k_sl2, k_sl3, x_rev, k_rev, k_revT, x_fn, k_fn, x_fnB, k_fnB, x_tStill, k_stB, x_eStill, envB_t, envB_f, envB_n, envB_e, frzB_u, frzB_o, frzB_v, frzB_i, frzB_b, frzB_s, frzB_non, frzB_t, frzB_l, k_nolB, k_nolI, k_nolS, k_nolN, x_seq, k_seqL, k_seqT, k_seqF, k_seqS, x_rng1, k_rng1, x_rng2, k_rng2a, k_rng2b, x_enum, k_enum, k_enumT, x_zip, k_zipL, k_zipT, k_zipM, k_zipN, x_lc, k_lc, x_sNil, x_sSeq, k_sqn, k_sqr, k_sqb, k_sqc, k_sqx, x_sExpr, k_expr, x_sRet, k_ret, x_sRetN, x_sRetO, k_retO, x_sRetL, k_retL, x_nFn, k_fnN, k_sqo, k_turnO, k_wtO, x_runN, k_runO, k_runOX, x_sBrk, x_sCnt, x_sSet, k_set, x_sOwn, k_own, tg_some, x_sTg, k_tg, gN_ok, gT_t, gTs_n, gTs_c, x_sIf, k_if, x_sFor, k_for, x_sWhile, x_sFrz, frzE_eq, frz_o, frz_v, frz_u, slotL_o, k_mod, x_modE, x_withO, x_sApp, k_appL, k_app, hApp_ok, x_sIns, k_insL, k_ins1, k_ins2, hIns_ok, x_sRevO, k_revO, x_sClrO, k_clrO, x_sExt, k_extL, k_ext, hExt_ok, x_sSetIx, k_setIxL, k_setIx1, k_setIx2, k_putK, x_sPut, k_put1, k_put2, k_put3, x_sPar, k_par, x_sPar3, k_par3, x_run, k_runN, k_runR, k_runX, k_x, q_add, q_sub, q_addBI, q_addIB, q_subBI, q_subIB, p_strB, p_strS, tI_t, tI_f, q_mul, q_rep, q_div, q_mod, q_lt, q_le, q_gt, q_ge, q_eq, q_ne, q_is, q_isn, q_isB, q_isnB, x_idx, k_idx1, k_idx2, q_catL, q_catT, q_catS, isNon_non, isNon_int, isNon_bl, isNon_str, isNon_tup, isNon_lst, p_divmod, p_lenL, p_lenT, p_lenF, p_lenS, p_intB, p_intI, p_max2, p_min2, p_tupL, p_tupT, p_lstL, p_lstT, p_lstF, is_intI, is_intB, is_intS, is_intN, is_intT, is_intL, is_blI, is_blB, is_blS, is_blN, is_blT, is_blL, is_strI, is_strB, is_strS, is_strN, is_strT, is_strL, is_tupI, is_tupB, is_tupS, is_tupN, is_tupT, is_tupL, is_lstI, is_lstB, is_lstS, is_lstN, is_lstT, is_lstL, opIx_lst, opIx_tup, opIx_frl, k_midN, k_midC, k_midB, k_midR, k_midO, k_midX, k_turnN, k_turnC, k_turnB, k_turnR, k_turnX, k_wtN, k_wtC, k_wtB, k_wtR, k_wtX, k_wc, k_le, frzE_eq, turn_eq, turnC_eq, k_le, forL_nil, lcL_nil, startE, decide_eq_true_eq, decide_eq_false_iff_not, decide_true, decide_false, Bool.not_eq_true', Bool.not_eq_eq_eq_not, Bool.not_true, Bool.not_false, Bool.true_eq_false, Bool.false_eq_true, Bool.not_not, Option.bind_some, Option.map_some, List.map_cons, List.map_nil, List.length_cons, List.length_nil, List.cons_append, List.nil_append, List.set_cons_zero, List.set_cons_succ, List.getElem?_cons_zero, List.getElem?_cons_succ, List.length_set, ↓reduceIte, if_true, if_false, ite_self, List.replicate, List.take_succ_cons, List.take_zero, List.drop_succ_cons, List.drop_zero, List.flatten_cons, List.flatten_nil, Int.reduceToNat, List.isEmpty_cons, List.isEmpty_nil, Nat.reduceAdd, Nat.reduceSub, Nat.reduceLT, Nat.reduceLeDiff, Nat.reduceEqDiff, Int.cast_ofNat_Int, not_true_eq_false, not_false_eq_true, Int.reduceAdd, Int.reduceSub, Int.reduceMul, Int.reduceLT, Int.reduceLE, Int.reduceEq, Int.reduceNe, Int.reduceNeg, Int.zero_add, ne_eq, id, wipeE, lcL_nil, eq_self, and_true, true_and, D.int.injEq, D.bl.injEq, ofS_eq, String.reduceEq, $xs,*])
local macro_rules
  | `(tactic| simp_all_arith! only [$xs,*]) => `(tactic| simp -implicitDefEqProofs (disch := first | assumption | omega | (simp only [okd_i, okd_n, okd_b, okd_s, strOk_of, okd_t, okd_l, okdL_n, okdL_c, Bool.and_true, Bool.and_self, *]; done) | (simp only [List.length_cons, List.length_nil, List.length_append, List.length_map, List.length_set, List.length_take, List.length_drop, List.length_reverse, rangeD_len, zipD_len, enumD_len] <;> omega)) only [x_ok, at0, at1, at2, at3, at4, at5, x_dict, k_dict, x_pairsN, x_pairsC, k_p1, k_p2, k_p3i, k_p3s, cut_ns, cut_sn, cut_ss, sl_L, sl_F, sl_T, sl_S, x_exc, slotV_v, slotO_v, slotO_o, x_var, x_own, x_c, x_bin, k_bin1, k_bin2, x_neg, k_neg, x_tup, k_tup, x_lst, k_lst, x_nCat, k_cat1, k_cat2, x_nRep, k_rep1, k_rep2, x_frz, k_frz, x_nil, x_cons, k_cons1, k_cons2, x_val, k_val, tr_bl, tr_non, tr_int, tr_lst, tr_tup, tr_frl, tr_str, x_and, x_or, x_not, k_and, k_or, k_not, x_tT, x_ifE, k_ifE, x_andV, x_orV, x_notV, k_andV, k_orV, k_notV, x_chain, k_ch1, k_ch2, k_ch3, x_call, x_callN, k_call, x_opt, k_some, x_isi, k_isi, x_oNone, x_oSome, k_oSome, x_nSl, k_nsl1, k_nsl2, k_nsl3L, k_nsl3F, x_sl, k_sl1, k_sl2, k_sl3, x_rev, k_rev, k_revT, x_fn, k_fn, x_fnB, k_fnB, x_tStill, k_stB, x_eStill, envB_t, envB_f, envB_n, envB_e, frzB_u, frzB_o, frzB_v, frzB_i, frzB_b, frzB_s, frzB_non, frzB_t, frzB_l, k_nolB, k_nolI, k_nolS, k_nolN, x_seq, k_seqL, k_seqT, k_seqF, k_seqS, x_rng1, k_rng1, x_rng2, k_rng2a, k_rng2b, x_enum, k_enum, k_enumT, x_zip, k_zipL, k_zipT, k_zipM, k_zipN, x_lc, k_lc, x_sNil, x_sSeq, k_sqn, k_sqr, k_sqb, k_sqc, k_sqx, x_sExpr, k_expr, x_sRet, k_ret, x_sRetN, x_sRetO, k_retO, x_sRetL, k_retL, x_nFn, k_fnN, k_sqo, k_turnO, k_wtO, x_runN, k_runO, k_runOX, x_sBrk, x_sCnt, x_sSet, k_set, x_sOwn, k_own, tg_some, x_sTg, k_tg, gN_ok, gT_t, gTs_n, gTs_c, x_sIf, k_if, x_sFor, k_for, x_sWhile, x_sFrz, frzE_eq, frz_o, frz_v, frz_u, slotL_o, k_mod, x_modE, x_withO, x_sApp, k_appL, k_app, hApp_ok, x_sIns, k_insL, k_ins1, k_ins2, hIns_ok, x_sRevO, k_revO, x_sClrO, k_clrO, x_sExt, k_extL, k_ext, hExt_ok, x_sSetIx, k_setIxL, k_setIx1, k_setIx2, k_putK, x_sPut, k_put1, k_put2, k_put3, x_sPar, k_par, x_sPar3, k_par3, x_run, k_runN, k_runR, k_runX, k_x, q_add, q_sub, q_addBI, q_addIB, q_subBI, q_subIB, p_strB, p_strS, tI_t, tI_f, q_mul, q_rep, q_div, q_mod, q_lt, q_le, q_gt, q_ge, q_eq, q_ne, q_is, q_isn, q_isB, q_isnB, x_idx, k_idx1, k_idx2, q_catL, q_catT, q_catS, isNon_non, isNon_int, isNon_bl, isNon_str, isNon_tup, isNon_lst, p_divmod, p_lenL, p_lenT, p_lenF, p_lenS, p_intB, p_intI, p_max2, p_min2, p_tupL, p_tupT, p_lstL, p_lstT, p_lstF, is_intI, is_intB, is_intS, is_intN, is_intT, is_intL, is_blI, is_blB, is_blS, is_blN, is_blT, is_blL, is_strI, is_strB, is_strS, is_strN, is_strT, is_strL, is_tupI, is_tupB, is_tupS, is_tupN, is_tupT, is_tupL, is_lstI, is_lstB, is_lstS, is_lstN, is_lstT, is_lstL, opIx_lst, opIx_tup, opIx_frl, k_midN, k_midC, k_midB, k_midR, k_midO, k_midX, k_turnN, k_turnC, k_turnB, k_turnR, k_turnX, k_wtN, k_wtC, k_wtB, k_wtR, k_wtX, k_wc, k_le, frzE_eq, turn_eq, turnC_eq, k_le, forL_nil, lcL_nil, startE, decide_eq_true_eq, decide_eq_false_iff_not, decide_true, decide_false, Bool.not_eq_true', Bool.not_eq_eq_eq_not, Bool.not_true, Bool.not_false, Bool.true_eq_false, Bool.false_eq_true, Bool.not_not, Option.bind_some, Option.map_some, List.map_cons, List.map_nil, List.length_cons, List.length_nil, List.cons_append, List.nil_append, List.set_cons_zero, List.set_cons_succ, List.getElem?_cons_zero, List.getElem?_cons_succ, List.length_set, ↓reduceIte, if_true, if_false, ite_self, List.replicate, List.take_succ_cons, List.take_zero, List.drop_succ_cons, List.drop_zero, List.flatten_cons, List.flatten_nil, Int.reduceToNat, List.isEmpty_cons, List.isEmpty_nil, Nat.reduceAdd, Nat.reduceSub, Nat.reduceLT, Nat.reduceLeDiff, Nat.reduceEqDiff, Int.cast_ofNat_Int, not_true_eq_false, not_false_eq_true, Int.reduceAdd, Int.reduceSub, Int.reduceMul, Int.reduceLT, Int.reduceLE, Int.reduceEq, Int.reduceNe, Int.reduceNeg, Int.zero_add, ne_eq, id, wipeE, lcL_nil, eq_self, and_true, true_and, D.int.injEq, D.bl.injEq, ofS_eq, String.reduceEq, q_eqD, q_neD, q_inT, q_inL, q_ninT, q_ninL, beq_self_eq_true, List.any_cons, List.any_nil, Bool.or_false, Bool.false_or, Bool.or_true, Bool.true_or, deq_nb, deq_ni, deq_ns, deq_nt, deq_nl, deq_bn, deq_bs, deq_bt, deq_bl, deq_in, deq_is, deq_it, deq_il, deq_sn, deq_sb, deq_si, deq_st, deq_sl, deq_tn, deq_tb, deq_ti, deq_ts, deq_tl, deq_ln, deq_lb, deq_li, deq_ls, deq_lt, deq_nn, deq_bb, deq_ii, deq_ss, deq_tt, deq_ll, deqL_nn, deqL_cc, deqL_nc, deqL_cn, okd_i, okd_n, okd_b, okd_t, okd_l, okdL_n, okdL_c, Bool.and_true, Bool.true_and, Bool.and_false, Bool.false_and, olt_t, olt_f, ole_t, ole_f, oeq_t, oeq_lt, oeq_gt, x_fld, k_fld, fld_ins, fld_new, lkP_c, lkF_c, lkF_n, meth_ins, lkM_c, k_optI, x_meth, k_meth, k_methS, k_meth2, x_sFld, k_sfld1, k_sfld2, k_setK, setO_new, putFD, List.mem_cons, List.not_mem_nil, or_true, true_or, or_false, false_or, or_self, Nat.reduceEqDiff, Nat.reduceSucc, reduceCtorEq, List.mem_nil_iff, false_and, and_false, and_self, $xs,*])

theorem okd_meets {L : List Int} {r : Rul} : okd 60 (.lst (L.map (meetD r))) = true := by
  rw [okd_l]
  refine okdL_of fun d hd => ?_
  obtain ⟨x, _, rfl⟩ := List.mem_map.mp hd
  simp [meetD, bodyD, okd_t, okdL_c, okdL_n, okd_i, okd_s, strOk_of]
theorem okd_rows {L : List Int} {ts : List (Int × Int)} {r : Rul} : okd 60 (.lst (L.map (rowD ts r))) = true := by
  rw [okd_l]
  refine okdL_of fun d hd => ?_
  obtain ⟨x, _, rfl⟩ := List.mem_map.mp hd
  simp [rowD, okd_t, okdL_c, okdL_n, okd_i, okd_s, strOk_of]
theorem s_law_k19 {ns : List Int} (hns : ns.length ≤ 63) : ∃ S, M.law_v19 [scr ns] [] = .ok (.bl true) S := by
  have h : Tri (M.law_v19 [scr ns] []) fun d _ => d = .bl true := by
    simp_all_arith! only [M.law_v19, M.b_law_v19]
    refine (s_tape hns).to ?_
    rintro _ S ⟨rfl, hT⟩
    simp_all_arith! only []
    refine rng_inv (fun i env S => ∃ n : Nat, (n : Int) ≤ i * 30000 ∧ Tp n [] S ∧ ∃ a b c d e f g h j k l m o, env = [.val (scr ns), .val (.obj 0), a, b, c, d, e, f, g, h, j, k, l, m, o]) ⟨0, by omega, hT, _, _, _, _, _, _, _, _, _, _, _, _, _, rfl⟩ ?_ (by omega) ?_
    · rintro i env S i0 i1 ⟨n, hn, hT, _, _, _, _, _, _, _, _, _, _, _, _, _, rfl⟩
      simp_all_arith! only []
      refine (s_lrule hT (by omega)).to ?_
      rintro _ S' ⟨r, rfl, hr, hT⟩
      have hok := hr.ok
      have f0 := hok.f0
      have f1 := hok.f1
      have m0 := hr.m0
      have m1 := hr.m1
      simp_all_arith! only [ru_0]
      refine (s_near_clock hT (by omega) f0 f1).to ?_
      rintro _ S' ⟨ts1, rfl, hC1, hT⟩
      simp_all_arith! only []
      refine (s_clock3 hT (by omega) (by omega) (by omega)).to ?_
      rintro _ S' ⟨ts2, rfl, hC2, _, hT⟩
      simp_all_arith! only []
      refine (dr hT (by omega) (by omega) (by omega)).to ?_
      rintro _ _ ⟨b, rfl, b0, b1, hT⟩
      simp_arith only []
      obtain ⟨ts, hts, hC⟩ : ∃ ts, atI [clockD ts1, clockD ts2] b = some (clockD ts) ∧ Clk ts := by
        rcases (by omega : b = 0 ∨ b = 1) with rfl | rfl
        · exact ⟨ts1, at0, hC1⟩
        · exact ⟨ts2, at1, hC2⟩
      obtain ⟨y, hy, y0, y1⟩ : ∃ y, (if r.first + 70 < 99990 then r.first + 70 else 99990) = y ∧ 0 ≤ y ∧ y ≤ 99990 := ⟨_, rfl, by split <;> omega, by split <;> omega⟩
      have hd := fun S => d_days_of (r := r) (low := 0) (high := y) (S := S) hok (by omega) (by omega)
      have htell : D.tup [clockD ts, ruD r, .str "hall", .tup []] = tellD ts r := rfl
      have hme := fun S => s_meetings3 (ts := ts) (r := r) (low := 0) (high := y) (S := S) hok (by omega) (by omega)
      have hmo := fun S => s_moments3 (ts := ts) (r := r) (low := 0) (high := y) (S := S) hok m0 m1 hC (by omega) (by omega)
      obtain ⟨L, hL⟩ : ∃ L, rf (inR r) 0 (y + 1) = L := ⟨_, rfl⟩
      have hLlt : L.Pairwise (· < ·) := hL ▸ rf_lt _ _ _
      have hLm : ∀ x ∈ L, 2 ≤ x ∧ x ≤ 99990 := fun x hx => by
        rw [← hL, mem_rf] at hx
        have h1 := inR_iff.mp hx.2
        have := fits_ge h1.1
        omega
      have hLl : L.length ≤ 100000 := by
        rw [← hL]
        refine Nat.le_trans (rf_len _ _ _) ?_
        omega
      rw [hL] at hd hme hmo
      obtain ⟨L', hp, hs⟩ := rows_perm (ts := ts) (r := r) (L := L)
      rw [hs] at hmo
      have hok1 := okd_meets (L := L) (r := r)
      have hok2 := okd_rows (L := L') (ts := ts) (r := r)
      have hpl := hp.length_eq
      simp_all_arith! only [hts, ru_0, hy, hd, htell, hme, List.length_map]
      refine lc_map (fun d => match d with | .int k => meetD r k | _ => .non) ?_ ?_
      · intro x hx
        obtain ⟨k, hk, rfl⟩ := List.mem_map.mp hx
        simp_all_arith! only [ru_1, ru_2, meetD, bodyD]
      have e2 : (L.map D.int).map (fun d => match d with | .int k => meetD r k | _ => .non) = L.map (meetD r) := by rw [List.map_map]; rfl
      have hss : ∀ S, pSorted [.lst (L'.map (rowD ts r))] S = .ok (L'.map (rowD ts r)) S := fun S => by
        rw [rows_sort, ← hs, sortD_idem]
      simp_all_arith! only [e2, deq_refl hok1, hmo, hss, deq_refl hok2, List.length_map]
      refine lc_map (fun d => .int (dayOf d)) ?_ ?_
      · intro x hx
        obtain ⟨k, hk, rfl⟩ := List.mem_map.mp hx
        simp_all_arith! only [rowD]
        rfl
      have e3 : (L'.map (rowD ts r)).map (fun d => D.int (dayOf d)) = L'.map D.int := by rw [List.map_map]; rfl
      have e4 : sortI L' = L := sortI_of hp hLlt
      simp_all_arith! only [e3, p_sortI, e4, q_neWL]
      have hlen : ts.length ≤ 1000 := by have := hC.len; omega
      refine for_inv (fun j env S1 => Tp (n + 1000 + 7000 + 7000 + 20) [] S1 ∧ ∃ a b c d e f, env = [.val (scr ns), .val (.obj 0), .val (.int i), .val (ruD r), .val (clockD ts), .val (tellD ts r), .val (.int y), .val (.lst (L.map D.int)), .val (.lst (L'.map (rowD ts r))), a, b, c, d, e, f]) ⟨hT, _, _, _, _, _, _, rfl⟩ ?_ ?_
      · rintro j d env S1 hj ⟨hT, _, _, _, _, _, _, rfl⟩
        rw [List.getElem?_map] at hj
        obtain ⟨x, hx, rfl⟩ := Option.map_eq_some_iff.mp hj
        obtain ⟨x0, x1⟩ := hLm x (hp.mem_iff.mp (List.mem_of_getElem? hx))
        obtain ⟨z, hz, z0, z1, hz2⟩ := mom_ok (t := 1440 * x + r.minute) hC (by omega) (by omega)
        have e5 : momI ts r x = z := by unfold momI; rw [hz]; rfl
        rcases hz2 with ⟨p1, _, p2, _⟩ | ⟨p1, _, p2, p3⟩
        · have q1 : ((comes ts (1440 * x + r.minute)).length : Int) ≠ 0 := fun q => p1 (List.length_eq_zero_iff.mp (by omega))
          have q2 : (0 : Int) < ((comes ts (1440 * x + r.minute)).length : Int) := by omega
          simp_all_arith! only [rowD, ru_1, ru_2, s_how_often hlen, s_local, e5, p2, q1, q2]
          exact ⟨hT, _, _, _, _, _, _, rfl⟩
        · simp_all_arith! only [rowD, ru_1, ru_2, s_how_often hlen, s_local, e5, p1, p2, p3]
          exact ⟨hT, _, _, _, _, _, _, rfl⟩
      · rintro env S1 ⟨hT, _, _, _, _, _, _, rfl⟩
        simp_all_arith! only []
        exact ⟨_, by omega, hT, _, _, _, _, _, _, _, _, _, _, _, _, _, rfl⟩
    · rintro env S ⟨n, hn, hT, _, _, _, _, _, _, _, _, _, _, _, _, _, rfl⟩
      simp_arith only []
  obtain ⟨_, S, e, rfl⟩ := h.eq
  exact ⟨S, e⟩
end G
section
set_option maxHeartbeats 4000000
namespace G
open PySem PySem.Spec PyProof.Rows L2
def topS (i : Nat) : Stmt := PySem.Challenge.pw_guestcopies_k19_whole_the_same_hour.main.body.getD i (.Pass ⟨0, 0, 0, 0⟩)
section
variable {P : Program} {w : World} {K : PySem.W.Frag} {mg : Str → Option Value} {base : Heap} {cl : Nat → Addr}
theorem sc_is_leap : FnScope ["year"] ["year"] (defScope (topS 4)) := ⟨rfl, rfl, rfl, by decide +kernel, rfl, by decide +kernel, by decide +kernel⟩
theorem fd_is_leap (F : FnAt K mg "is_leap" (topS 4)) : FD P w K mg base cl 1 "is_leap" 1 M.is_leap := by
  refine fd_of (k := 0) (N := ["year"]) (ps := ["year"]) (g := M.b_is_leap) F sc_is_leap (fun _ _ _ _ _ _ us hl => match us, hl with | [_], _ => rfl) (fun f cdv A outer s H E T hr tk hp => ?_)
  have hu := hr.units
  have hu65 := hu65_of hr
  have hu1 := hu_of hr
  have hN := sc_is_leap.nd
  exact (ss_one (s_ret (d_and (d_eq hu (d_mod (d_var 0) d_int) d_int) (d_one (d_or (d_ne hu (d_mod (d_var 0) d_int) d_int) (d_one (d_eq hu (d_mod (d_var 0) d_int) d_int)))))))
theorem sc_days_ahead : FnScope ["year", "many", "before", "leaps"] ["year"] (defScope (topS 5)) := ⟨rfl, rfl, rfl, by decide +kernel, rfl, by decide +kernel, by decide +kernel⟩
theorem fd_days_ahead (F : FnAt K mg "days_ahead" (topS 5)) (c_FIRST_YEAR : GConst K mg cl "FIRST_YEAR" k_FIRST_YEAR) : FD P w K mg base cl 1 "days_ahead" 1 M.days_ahead := by
  refine fd_of (k := 0) (N := ["year", "many", "before", "leaps"]) (ps := ["year"]) (g := M.b_days_ahead) F sc_days_ahead (fun _ _ _ _ _ _ us hl => match us, hl with | [_], _ => rfl) (fun f cdv A outer s H E T hr tk hp => ?_)
  have hu := hr.units
  have hu65 := hu65_of hr
  have hu1 := hu_of hr
  have hN := sc_days_ahead.nd
  exact (ss_cons (s_set 1 hN (d_sub (d_var 0) (d_glob c_FIRST_YEAR)))
  (ss_cons (s_set 2 hN (d_sub (d_var 0) d_int))
  (ss_cons (s_set 3 hN (d_sub (d_add (d_sub (d_fdiv (d_var 2) d_int) (d_fdiv (d_var 2) d_int)) (d_fdiv (d_var 2) d_int)) d_int))
  (ss_one (s_ret (d_add (d_mul d_int (d_var 1)) (d_var 3)))))))
theorem sc_month_length : FnScope ["month", "year", "place"] ["month"] (defScope (topS 6)) := ⟨rfl, rfl, rfl, by decide +kernel, rfl, by decide +kernel, by decide +kernel⟩
theorem fd_month_length (F : FnAt K mg "month_length" (topS 6)) (m_divmod : mg "divmod" = none) (c_FIRST_YEAR : GConst K mg cl "FIRST_YEAR" k_FIRST_YEAR) (c_LENGTHS : GConst K mg cl "LENGTHS" k_LENGTHS) (h_is_leap : FD P w K mg base cl 1 "is_leap" 1 M.is_leap) : FD P w K mg base cl 2 "month_length" 1 M.month_length := by
  refine fd_of (k := 1) (N := ["month", "year", "place"]) (ps := ["month"]) (g := M.b_month_length) F sc_month_length (fun _ _ _ _ _ _ us hl => match us, hl with | [_], _ => rfl) (fun f cdv A outer s H E T hr tk hp => ?_)
  have hu := hr.units
  have hu65 := hu65_of hr
  have hu1 := hu_of hr
  have hN := sc_month_length.nd
  exact (ss_cons (s_tg (d_divmod (a_cons (d_var 0) (a_cons d_int a_nil)) m_divmod) (g_tup (gs_cons (g_name 1 hN) (gs_cons (g_name 2 hN) gs_nil))))
  (ss_cons (s_if (t_of (w_and (t_eq hu (d_var 2) d_int) (w_and1 (t_val (d_call h_is_leap hr tk (a_cons (d_add (d_glob c_FIRST_YEAR) (d_var 1)) a_nil)))))) (ss_one (s_ret d_int)) ss_nil)
  (ss_one (s_ret (d_ix (d_glob c_LENGTHS) (d_var 2))))))
theorem sc_first_of : FnScope ["month", "year", "place", "day", "ahead"] ["month"] (defScope (topS 7)) := ⟨rfl, rfl, rfl, by decide +kernel, rfl, by decide +kernel, by decide +kernel⟩
theorem fd_first_of (F : FnAt K mg "first_of" (topS 7)) (m_divmod : mg "divmod" = none) (c_FIRST_YEAR : GConst K mg cl "FIRST_YEAR" k_FIRST_YEAR) (m_range : mg "range" = none) (h_days_ahead : FD P w K mg base cl 1 "days_ahead" 1 M.days_ahead) (h_month_length : FD P w K mg base cl 2 "month_length" 1 M.month_length) : FD P w K mg base cl 3 "first_of" 1 M.first_of := by
  refine fd_of (k := 2) (N := ["month", "year", "place", "day", "ahead"]) (ps := ["month"]) (g := M.b_first_of) F sc_first_of (fun _ _ _ _ _ _ us hl => match us, hl with | [_], _ => rfl) (fun f cdv A outer s H E T hr tk hp => ?_)
  have hu := hr.units
  have hu65 := hu65_of hr
  have hu1 := hu_of hr
  have hN := sc_first_of.nd
  exact (ss_cons (s_tg (d_divmod (a_cons (d_var 0) (a_cons d_int a_nil)) m_divmod) (g_tup (gs_cons (g_name 1 hN) (gs_cons (g_name 2 hN) gs_nil))))
  (ss_cons (s_set 3 hN (d_call h_days_ahead hr tk (a_cons (d_add (d_glob c_FIRST_YEAR) (d_var 1)) a_nil)))
  (ss_cons (s_for hp (i_range1 (d_var 2) m_range) (g_name 4 hN) fun _ => (ss_one (s_set 3 hN (d_add (d_var 3) (d_call h_month_length hr tk (a_cons (d_add (d_mul d_int (d_var 1)) (d_var 4)) a_nil))))))
  (ss_one (s_ret (d_var 3))))))
theorem sc_month_of : FnScope ["day", "year", "month", "rest"] ["day"] (defScope (topS 8)) := ⟨rfl, rfl, rfl, by decide +kernel, rfl, by decide +kernel, by decide +kernel⟩
theorem fd_month_of (F : FnAt K mg "month_of" (topS 8)) (c_FIRST_YEAR : GConst K mg cl "FIRST_YEAR" k_FIRST_YEAR) (h_days_ahead : FD P w K mg base cl 1 "days_ahead" 1 M.days_ahead) (h_month_length : FD P w K mg base cl 2 "month_length" 1 M.month_length) : FD P w K mg base cl 3 "month_of" 1 M.month_of := by
  refine fd_of (k := 2) (N := ["day", "year", "month", "rest"]) (ps := ["day"]) (g := M.b_month_of) F sc_month_of (fun _ _ _ _ _ _ us hl => match us, hl with | [_], _ => rfl) (fun f cdv A outer s H E T hr tk hp => ?_)
  have hu := hr.units
  have hu65 := hu65_of hr
  have hu1 := hu_of hr
  have hN := sc_month_of.nd
  exact (ss_cons (s_set 1 hN (d_add (d_glob c_FIRST_YEAR) (d_fdiv (d_var 0) d_int)))
  (ss_cons (s_while fuel hp (t_le (d_call h_days_ahead hr tk (a_cons (d_add (d_var 1) d_int) a_nil)) (d_var 0)) (ss_one (s_set 1 hN (d_add (d_var 1) d_int))))
  (ss_cons (s_set 2 hN (d_mul d_int (d_sub (d_var 1) (d_glob c_FIRST_YEAR))))
  (ss_cons (s_set 3 hN (d_sub (d_var 0) (d_call h_days_ahead hr tk (a_cons (d_var 1) a_nil))))
  (ss_cons (s_while fuel hp (t_ge (d_var 3) (d_call h_month_length hr tk (a_cons (d_var 2) a_nil))) (ss_cons (s_set 3 hN (d_sub (d_var 3) (d_call h_month_length hr tk (a_cons (d_var 2) a_nil))))
  (ss_one (s_set 2 hN (d_add (d_var 2) d_int)))))
  (ss_one (s_ret (d_var 2))))))))
theorem sc_weekday : FnScope ["day"] ["day"] (defScope (topS 9)) := ⟨rfl, rfl, rfl, by decide +kernel, rfl, by decide +kernel, by decide +kernel⟩
theorem fd_weekday (F : FnAt K mg "weekday" (topS 9)) : FD P w K mg base cl 1 "weekday" 1 M.weekday := by
  refine fd_of (k := 0) (N := ["day"]) (ps := ["day"]) (g := M.b_weekday) F sc_weekday (fun _ _ _ _ _ _ us hl => match us, hl with | [_], _ => rfl) (fun f cdv A outer s H E T hr tk hp => ?_)
  have hu := hr.units
  have hu65 := hu65_of hr
  have hu1 := hu_of hr
  have hN := sc_weekday.nd
  exact (ss_one (s_ret (d_mod (d_var 0) d_int)))
theorem sc_offset_at : FnScope ["clock", "moment", "found", "at", "offset"] ["clock", "moment"] (defScope (topS 12)) := ⟨rfl, rfl, rfl, by decide +kernel, rfl, by decide +kernel, by decide +kernel⟩
theorem fd_offset_at (F : FnAt K mg "offset_at" (topS 12)) : FD P w K mg base cl 1 "offset_at" 2 M.offset_at := by
  refine fd_of (k := 0) (N := ["clock", "moment", "found", "at", "offset"]) (ps := ["clock", "moment"]) (g := M.b_offset_at) F sc_offset_at (fun _ _ _ _ _ _ us hl => match us, hl with | [_, _], _ => rfl) (fun f cdv A outer s H E T hr tk hp => ?_)
  have hu := hr.units
  have hu65 := hu65_of hr
  have hu1 := hu_of hr
  have hN := sc_offset_at.nd
  exact (ss_cons (s_set 2 hN d_int)
  (ss_cons (s_for hp (i_seq (d_var 0)) (g_tup (gs_cons (g_name 3 hN) (gs_cons (g_name 4 hN) gs_nil))) fun _ => (ss_one (s_if (t_le (d_var 3) (d_var 1)) (ss_one (s_set 2 hN (d_var 4))) ss_nil)))
  (ss_one (s_ret (d_var 2)))))
theorem sc_local : FnScope ["clock", "moment"] ["clock", "moment"] (defScope (topS 13)) := ⟨rfl, rfl, rfl, by decide +kernel, rfl, by decide +kernel, by decide +kernel⟩
theorem fd_local (F : FnAt K mg "local" (topS 13)) (h_offset_at : FD P w K mg base cl 1 "offset_at" 2 M.offset_at) : FD P w K mg base cl 2 "local" 2 M.local := by
  refine fd_of (k := 1) (N := ["clock", "moment"]) (ps := ["clock", "moment"]) (g := M.b_local) F sc_local (fun _ _ _ _ _ _ us hl => match us, hl with | [_, _], _ => rfl) (fun f cdv A outer s H E T hr tk hp => ?_)
  have hu := hr.units
  have hu65 := hu65_of hr
  have hu1 := hu_of hr
  have hN := sc_local.nd
  exact (ss_one (s_ret (d_add (d_var 1) (d_call h_offset_at hr tk (a_cons (d_var 0) (a_cons (d_var 1) a_nil))))))
theorem sc_stretches : FnScope ["clock", "ends", "k", "turn"] ["clock"] (defScope (topS 14)) := ⟨rfl, rfl, rfl, by decide +kernel, rfl, by decide +kernel, by decide +kernel⟩
theorem fd_stretches (F : FnAt K mg "stretches" (topS 14)) (c_LAST_MOMENT : GConst K mg cl "LAST_MOMENT" k_LAST_MOMENT) (m_range : mg "range" = none) (m_len : mg "len" = none) : FD P w K mg base cl 1 "stretches" 1 M.stretches := by
  refine fd_of (k := 0) (N := ["clock", "ends", "k", "turn"]) (ps := ["clock"]) (g := M.b_stretches) F sc_stretches (fun _ _ _ _ _ _ us hl => match us, hl with | [_], _ => rfl) (fun f cdv A outer s H E T hr tk hp => ?_)
  have hu := hr.units
  have hu65 := hu65_of hr
  have hu1 := hu_of hr
  have hN := sc_stretches.nd
  exact (ss_cons (s_set 1 hN (d_add (d_frz (n_lc (own := [("turn", 3)]) hN (i_seq (d_sl (d_var 0) (o_some d_int) o_none)) (by show blkC ["clock", "ends", "k", "turn"] (defScope (topS 14)) _ _ = true; decide +kernel) (fun _ _ _ _ _ => (g_name 3 hN)) (fun _ _ _ _ _ => p_nil) (fun _ _ _ _ _ => (d_ix (d_var 3) d_int)))) (d_frz (n_lst (a_cons (d_add (d_glob c_LAST_MOMENT) d_int) a_nil)))))
  (ss_one (s_ret (d_frz (n_lc (own := [("k", 2)]) hN (i_range1 (d_len (a_cons (d_var 0) a_nil) m_len) m_range) (by show blkC ["clock", "ends", "k", "turn"] (defScope (topS 14)) _ _ = true; decide +kernel) (fun _ _ _ _ _ => (g_name 2 hN)) (fun _ _ _ _ _ => p_nil) (fun _ _ _ _ _ => (d_tup (a_cons (d_ix (d_ix (d_var 0) (d_var 2)) d_int) (a_cons (d_ix (d_var 1) (d_var 2)) (a_cons (d_ix (d_ix (d_var 0) (d_var 2)) d_int) a_nil))))))))))
theorem sc_comes_at : FnScope ["clock", "time", "begin", "end", "offset"] ["clock", "time"] (defScope (topS 15)) := ⟨rfl, rfl, rfl, by decide +kernel, rfl, by decide +kernel, by decide +kernel⟩
theorem fd_comes_at (F : FnAt K mg "comes_at" (topS 15)) (h_stretches : FD P w K mg base cl 1 "stretches" 1 M.stretches) : FD P w K mg base cl 2 "comes_at" 2 M.comes_at := by
  refine fd_of (k := 1) (N := ["clock", "time", "begin", "end", "offset"]) (ps := ["clock", "time"]) (g := M.b_comes_at) F sc_comes_at (fun _ _ _ _ _ _ us hl => match us, hl with | [_, _], _ => rfl) (fun f cdv A outer s H E T hr tk hp => ?_)
  have hu := hr.units
  have hu65 := hu65_of hr
  have hu1 := hu_of hr
  have hN := sc_comes_at.nd
  exact (ss_one (s_ret (d_frz (n_lc (own := [("begin", 2), ("end", 3), ("offset", 4)]) hN (i_seq (d_call h_stretches hr tk (a_cons (d_var 0) a_nil))) (by show blkC ["clock", "time", "begin", "end", "offset"] (defScope (topS 15)) _ _ = true; decide +kernel) (fun _ _ _ _ _ => (g_tup (gs_cons (g_name 2 hN) (gs_cons (g_name 3 hN) (gs_cons (g_name 4 hN) gs_nil))))) (fun _ _ _ _ _ => (p_one (t_lelt (d_var 2) (d_sub (d_var 1) (d_var 4)) (d_var 3)))) (fun _ _ _ _ _ => (d_sub (d_var 1) (d_var 4)))))))
theorem sc_how_often : FnScope ["clock", "time"] ["clock", "time"] (defScope (topS 16)) := ⟨rfl, rfl, rfl, by decide +kernel, rfl, by decide +kernel, by decide +kernel⟩
theorem fd_how_often (F : FnAt K mg "how_often" (topS 16)) (m_len : mg "len" = none) (h_comes_at : FD P w K mg base cl 2 "comes_at" 2 M.comes_at) : FD P w K mg base cl 3 "how_often" 2 M.how_often := by
  refine fd_of (k := 2) (N := ["clock", "time"]) (ps := ["clock", "time"]) (g := M.b_how_often) F sc_how_often (fun _ _ _ _ _ _ us hl => match us, hl with | [_, _], _ => rfl) (fun f cdv A outer s H E T hr tk hp => ?_)
  have hu := hr.units
  have hu65 := hu65_of hr
  have hu1 := hu_of hr
  have hN := sc_how_often.nd
  exact (ss_one (s_ret (d_len (a_cons (d_call h_comes_at hr tk (a_cons (d_var 0) (a_cons (d_var 1) a_nil))) a_nil) m_len)))
theorem sc_passed : FnScope ["clock", "time", "at", "offset"] ["clock", "time"] (defScope (topS 17)) := ⟨rfl, rfl, rfl, by decide +kernel, rfl, by decide +kernel, by decide +kernel⟩
theorem fd_passed (F : FnAt K mg "passed" (topS 17)) (h_local : FD P w K mg base cl 2 "local" 2 M.local) : FD P w K mg base cl 3 "passed" 2 M.passed := by
  refine fd_of (k := 2) (N := ["clock", "time", "at", "offset"]) (ps := ["clock", "time"]) (g := M.b_passed) F sc_passed (fun _ _ _ _ _ _ us hl => match us, hl with | [_, _], _ => rfl) (fun f cdv A outer s H E T hr tk hp => ?_)
  have hu := hr.units
  have hu65 := hu65_of hr
  have hu1 := hu_of hr
  have hN := sc_passed.nd
  exact (ss_cons (s_for hp (i_seq (d_sl (d_var 0) (o_some d_int) o_none)) (g_tup (gs_cons (g_name 2 hN) (gs_cons (g_name 3 hN) gs_nil))) fun _ => (ss_one (s_if (t_ltlt (d_call h_local hr tk (a_cons (d_var 0) (a_cons (d_sub (d_var 2) d_int) a_nil))) (d_var 1) (d_add (d_var 2) (d_var 3))) (ss_one (s_ret (d_var 2))) ss_nil)))
  (ss_one (s_ret d_non)))
theorem sc_moment_of : FnScope ["clock", "time", "found"] ["clock", "time"] (defScope (topS 18)) := ⟨rfl, rfl, rfl, by decide +kernel, rfl, by decide +kernel, by decide +kernel⟩
theorem fd_moment_of (F : FnAt K mg "moment_of" (topS 18)) (m_min : mg "min" = none) (h_comes_at : FD P w K mg base cl 2 "comes_at" 2 M.comes_at) (h_passed : FD P w K mg base cl 3 "passed" 2 M.passed) : FD P w K mg base cl 4 "moment_of" 2 M.moment_of := by
  refine fd_of (k := 3) (N := ["clock", "time", "found"]) (ps := ["clock", "time"]) (g := M.b_moment_of) F sc_moment_of (fun _ _ _ _ _ _ us hl => match us, hl with | [_, _], _ => rfl) (fun f cdv A outer s H E T hr tk hp => ?_)
  have hu := hr.units
  have hu65 := hu65_of hr
  have hu1 := hu_of hr
  have hN := sc_moment_of.nd
  exact (ss_cons (s_set 2 hN (d_call h_comes_at hr tk (a_cons (d_var 0) (a_cons (d_var 1) a_nil))))
  (ss_cons (s_if (t_ne hu (d_var 2) (d_frz (n_lst a_nil))) (ss_one (s_ret (d_min (a_cons (d_var 2) a_nil) m_min))) ss_nil)
  (ss_one (s_ret (d_call h_passed hr tk (a_cons (d_var 0) (a_cons (d_var 1) a_nil)))))))
theorem sc_Once__init : FnScope ["self", "first"] ["self", "first"] (defScope (inClass (topS 22) 0)) := ⟨rfl, rfl, rfl, by decide +kernel, rfl, by decide +kernel, by decide +kernel⟩
theorem md_Once__init {c : Nat} (F : MtAt K (cl c) "__init__" "Once.__init__" (inClass (topS 22) 0)) (hC : Cls K (cl c)) (nf_first_0_1_2_3_4_5 : ∀ c ∈ [0, 1, 2, 3, 4, 5], Cls K (cl c) ∧ NoAttr K (cl c) "first") : MD P w K mg base cl 1 c "__init__" 2 M.Once_init := by
  refine md_of (k := 0) (N := ["self", "first"]) (ps := ["self", "first"]) (g := M.b_Once_init) F hC sc_Once__init (fun _ _ _ _ _ _ us hl => match us, hl with | [_, _], _ => rfl) (fun f cdv A outer s H E T hr tk hp => ?_)
  have hu := hr.units
  have hu65 := hu65_of hr
  have hu1 := hu_of hr
  have hN := sc_Once__init.nd
  exact (ss_one (s_fld (d_var 0) (d_var 1) nf_first_0_1_2_3_4_5))
theorem kd_Once__init {c : Nat} {x : Str} (F : KdAt K mg x (cl c) "Once.__init__" (inClass (topS 22) 0)) (nf_first_0_1_2_3_4_5 : ∀ c ∈ [0, 1, 2, 3, 4, 5], Cls K (cl c) ∧ NoAttr K (cl c) "first") : KD' P w K mg base cl 1 c x 2 M.Once_init := by
  refine kd_of (k := 0) (N := ["self", "first"]) (ps := ["self", "first"]) (g := M.b_Once_init) F sc_Once__init (fun _ _ _ _ _ _ us hl => match us, hl with | [_, _], _ => rfl) (fun f cdv A outer s H E T hr tk hp => ?_)
  have hu := hr.units
  have hu65 := hu65_of hr
  have hu1 := hu_of hr
  have hN := sc_Once__init.nd
  exact (ss_one (s_fld (d_var 0) (d_var 1) nf_first_0_1_2_3_4_5))
theorem cd_Once__init {c : Nat} {x : Str} (F : CdAt K mg x (cl c) "__init__" "Once.__init__" (inClass (topS 22) 0)) (nf_first_0_1_2_3_4_5 : ∀ c ∈ [0, 1, 2, 3, 4, 5], Cls K (cl c) ∧ NoAttr K (cl c) "first") : CD P w K mg base cl 1 c x "__init__" 2 M.Once_init := by
  refine cd_of (k := 0) (N := ["self", "first"]) (ps := ["self", "first"]) (g := M.b_Once_init) F sc_Once__init (fun _ _ _ _ _ _ us hl => match us, hl with | [_, _], _ => rfl) (fun f cdv A outer s H E T hr tk hp => ?_)
  have hu := hr.units
  have hu65 := hu65_of hr
  have hu1 := hu_of hr
  have hN := sc_Once__init.nd
  exact (ss_one (s_fld (d_var 0) (d_var 1) nf_first_0_1_2_3_4_5))
theorem sc_Months__init : FnScope ["self", "first", "step"] ["self", "first", "step"] (defScope (inClass (topS 25) 0)) := ⟨rfl, rfl, rfl, by decide +kernel, rfl, by decide +kernel, by decide +kernel⟩
theorem md_Months__init {c : Nat} (F : MtAt K (cl c) "__init__" "Months.__init__" (inClass (topS 25) 0)) (hC : Cls K (cl c)) (nf_month_3_4_5 : ∀ c ∈ [3, 4, 5], Cls K (cl c) ∧ NoAttr K (cl c) "month") (nf_step_3_4_5 : ∀ c ∈ [3, 4, 5], Cls K (cl c) ∧ NoAttr K (cl c) "step") (cd_Once_Once__init : CD P w K mg base cl 1 0 "Once" "__init__" 2 M.Once_init) (h_month_of : FD P w K mg base cl 3 "month_of" 1 M.month_of) : MD P w K mg base cl 4 c "__init__" 3 M.Months_init := by
  refine md_of (k := 3) (N := ["self", "first", "step"]) (ps := ["self", "first", "step"]) (g := M.b_Months_init) F hC sc_Months__init (fun _ _ _ _ _ _ us hl => match us, hl with | [_, _, _], _ => rfl) (fun f cdv A outer s H E T hr tk hp => ?_)
  have hu := hr.units
  have hu65 := hu65_of hr
  have hu1 := hu_of hr
  have hN := sc_Months__init.nd
  exact (ss_cons (s_expr (d_clsFn cd_Once_Once__init hr tk (a_cons (d_var 0) (a_cons (d_var 1) a_nil))))
  (ss_cons (s_fld (d_var 0) (d_call h_month_of hr tk (a_cons (d_var 1) a_nil)) nf_month_3_4_5)
  (ss_one (s_fld (d_var 0) (d_var 2) nf_step_3_4_5))))
theorem kd_Months__init {c : Nat} {x : Str} (F : KdAt K mg x (cl c) "Months.__init__" (inClass (topS 25) 0)) (nf_month_3_4_5 : ∀ c ∈ [3, 4, 5], Cls K (cl c) ∧ NoAttr K (cl c) "month") (nf_step_3_4_5 : ∀ c ∈ [3, 4, 5], Cls K (cl c) ∧ NoAttr K (cl c) "step") (cd_Once_Once__init : CD P w K mg base cl 1 0 "Once" "__init__" 2 M.Once_init) (h_month_of : FD P w K mg base cl 3 "month_of" 1 M.month_of) : KD' P w K mg base cl 4 c x 3 M.Months_init := by
  refine kd_of (k := 3) (N := ["self", "first", "step"]) (ps := ["self", "first", "step"]) (g := M.b_Months_init) F sc_Months__init (fun _ _ _ _ _ _ us hl => match us, hl with | [_, _, _], _ => rfl) (fun f cdv A outer s H E T hr tk hp => ?_)
  have hu := hr.units
  have hu65 := hu65_of hr
  have hu1 := hu_of hr
  have hN := sc_Months__init.nd
  exact (ss_cons (s_expr (d_clsFn cd_Once_Once__init hr tk (a_cons (d_var 0) (a_cons (d_var 1) a_nil))))
  (ss_cons (s_fld (d_var 0) (d_call h_month_of hr tk (a_cons (d_var 1) a_nil)) nf_month_3_4_5)
  (ss_one (s_fld (d_var 0) (d_var 2) nf_step_3_4_5))))
theorem cd_Months__init {c : Nat} {x : Str} (F : CdAt K mg x (cl c) "__init__" "Months.__init__" (inClass (topS 25) 0)) (nf_month_3_4_5 : ∀ c ∈ [3, 4, 5], Cls K (cl c) ∧ NoAttr K (cl c) "month") (nf_step_3_4_5 : ∀ c ∈ [3, 4, 5], Cls K (cl c) ∧ NoAttr K (cl c) "step") (cd_Once_Once__init : CD P w K mg base cl 1 0 "Once" "__init__" 2 M.Once_init) (h_month_of : FD P w K mg base cl 3 "month_of" 1 M.month_of) : CD P w K mg base cl 4 c x "__init__" 3 M.Months_init := by
  refine cd_of (k := 3) (N := ["self", "first", "step"]) (ps := ["self", "first", "step"]) (g := M.b_Months_init) F sc_Months__init (fun _ _ _ _ _ _ us hl => match us, hl with | [_, _, _], _ => rfl) (fun f cdv A outer s H E T hr tk hp => ?_)
  have hu := hr.units
  have hu65 := hu65_of hr
  have hu1 := hu_of hr
  have hN := sc_Months__init.nd
  exact (ss_cons (s_expr (d_clsFn cd_Once_Once__init hr tk (a_cons (d_var 0) (a_cons (d_var 1) a_nil))))
  (ss_cons (s_fld (d_var 0) (d_call h_month_of hr tk (a_cons (d_var 1) a_nil)) nf_month_3_4_5)
  (ss_one (s_fld (d_var 0) (d_var 2) nf_step_3_4_5))))
theorem sc_Dates__init : FnScope ["self", "first", "step", "date"] ["self", "first", "step", "date"] (defScope (inClass (topS 26) 0)) := ⟨rfl, rfl, rfl, by decide +kernel, rfl, by decide +kernel, by decide +kernel⟩
theorem md_Dates__init {c : Nat} (F : MtAt K (cl c) "__init__" "Dates.__init__" (inClass (topS 26) 0)) (hC : Cls K (cl c)) (nf_date_4 : ∀ c ∈ [4], Cls K (cl c) ∧ NoAttr K (cl c) "date") (cd_Months_Months__init : CD P w K mg base cl 4 3 "Months" "__init__" 3 M.Months_init) : MD P w K mg base cl 5 c "__init__" 4 M.Dates_init := by
  refine md_of (k := 4) (N := ["self", "first", "step", "date"]) (ps := ["self", "first", "step", "date"]) (g := M.b_Dates_init) F hC sc_Dates__init (fun _ _ _ _ _ _ us hl => match us, hl with | [_, _, _, _], _ => rfl) (fun f cdv A outer s H E T hr tk hp => ?_)
  have hu := hr.units
  have hu65 := hu65_of hr
  have hu1 := hu_of hr
  have hN := sc_Dates__init.nd
  exact (ss_cons (s_expr (d_clsFn cd_Months_Months__init hr tk (a_cons (d_var 0) (a_cons (d_var 1) (a_cons (d_var 2) a_nil)))))
  (ss_one (s_fld (d_var 0) (d_var 3) nf_date_4)))
theorem kd_Dates__init {c : Nat} {x : Str} (F : KdAt K mg x (cl c) "Dates.__init__" (inClass (topS 26) 0)) (nf_date_4 : ∀ c ∈ [4], Cls K (cl c) ∧ NoAttr K (cl c) "date") (cd_Months_Months__init : CD P w K mg base cl 4 3 "Months" "__init__" 3 M.Months_init) : KD' P w K mg base cl 5 c x 4 M.Dates_init := by
  refine kd_of (k := 4) (N := ["self", "first", "step", "date"]) (ps := ["self", "first", "step", "date"]) (g := M.b_Dates_init) F sc_Dates__init (fun _ _ _ _ _ _ us hl => match us, hl with | [_, _, _, _], _ => rfl) (fun f cdv A outer s H E T hr tk hp => ?_)
  have hu := hr.units
  have hu65 := hu65_of hr
  have hu1 := hu_of hr
  have hN := sc_Dates__init.nd
  exact (ss_cons (s_expr (d_clsFn cd_Months_Months__init hr tk (a_cons (d_var 0) (a_cons (d_var 1) (a_cons (d_var 2) a_nil)))))
  (ss_one (s_fld (d_var 0) (d_var 3) nf_date_4)))
theorem cd_Dates__init {c : Nat} {x : Str} (F : CdAt K mg x (cl c) "__init__" "Dates.__init__" (inClass (topS 26) 0)) (nf_date_4 : ∀ c ∈ [4], Cls K (cl c) ∧ NoAttr K (cl c) "date") (cd_Months_Months__init : CD P w K mg base cl 4 3 "Months" "__init__" 3 M.Months_init) : CD P w K mg base cl 5 c x "__init__" 4 M.Dates_init := by
  refine cd_of (k := 4) (N := ["self", "first", "step", "date"]) (ps := ["self", "first", "step", "date"]) (g := M.b_Dates_init) F sc_Dates__init (fun _ _ _ _ _ _ us hl => match us, hl with | [_, _, _, _], _ => rfl) (fun f cdv A outer s H E T hr tk hp => ?_)
  have hu := hr.units
  have hu65 := hu65_of hr
  have hu1 := hu_of hr
  have hN := sc_Dates__init.nd
  exact (ss_cons (s_expr (d_clsFn cd_Months_Months__init hr tk (a_cons (d_var 0) (a_cons (d_var 1) (a_cons (d_var 2) a_nil)))))
  (ss_one (s_fld (d_var 0) (d_var 3) nf_date_4)))
theorem sc_Days__init : FnScope ["self", "first", "step"] ["self", "first", "step"] (defScope (inClass (topS 23) 0)) := ⟨rfl, rfl, rfl, by decide +kernel, rfl, by decide +kernel, by decide +kernel⟩
theorem md_Days__init {c : Nat} (F : MtAt K (cl c) "__init__" "Days.__init__" (inClass (topS 23) 0)) (hC : Cls K (cl c)) (nf_step_1 : ∀ c ∈ [1], Cls K (cl c) ∧ NoAttr K (cl c) "step") (cd_Once_Once__init : CD P w K mg base cl 1 0 "Once" "__init__" 2 M.Once_init) : MD P w K mg base cl 2 c "__init__" 3 M.Days_init := by
  refine md_of (k := 1) (N := ["self", "first", "step"]) (ps := ["self", "first", "step"]) (g := M.b_Days_init) F hC sc_Days__init (fun _ _ _ _ _ _ us hl => match us, hl with | [_, _, _], _ => rfl) (fun f cdv A outer s H E T hr tk hp => ?_)
  have hu := hr.units
  have hu65 := hu65_of hr
  have hu1 := hu_of hr
  have hN := sc_Days__init.nd
  exact (ss_cons (s_expr (d_clsFn cd_Once_Once__init hr tk (a_cons (d_var 0) (a_cons (d_var 1) a_nil))))
  (ss_one (s_fld (d_var 0) (d_var 2) nf_step_1)))
theorem kd_Days__init {c : Nat} {x : Str} (F : KdAt K mg x (cl c) "Days.__init__" (inClass (topS 23) 0)) (nf_step_1 : ∀ c ∈ [1], Cls K (cl c) ∧ NoAttr K (cl c) "step") (cd_Once_Once__init : CD P w K mg base cl 1 0 "Once" "__init__" 2 M.Once_init) : KD' P w K mg base cl 2 c x 3 M.Days_init := by
  refine kd_of (k := 1) (N := ["self", "first", "step"]) (ps := ["self", "first", "step"]) (g := M.b_Days_init) F sc_Days__init (fun _ _ _ _ _ _ us hl => match us, hl with | [_, _, _], _ => rfl) (fun f cdv A outer s H E T hr tk hp => ?_)
  have hu := hr.units
  have hu65 := hu65_of hr
  have hu1 := hu_of hr
  have hN := sc_Days__init.nd
  exact (ss_cons (s_expr (d_clsFn cd_Once_Once__init hr tk (a_cons (d_var 0) (a_cons (d_var 1) a_nil))))
  (ss_one (s_fld (d_var 0) (d_var 2) nf_step_1)))
theorem cd_Days__init {c : Nat} {x : Str} (F : CdAt K mg x (cl c) "__init__" "Days.__init__" (inClass (topS 23) 0)) (nf_step_1 : ∀ c ∈ [1], Cls K (cl c) ∧ NoAttr K (cl c) "step") (cd_Once_Once__init : CD P w K mg base cl 1 0 "Once" "__init__" 2 M.Once_init) : CD P w K mg base cl 2 c x "__init__" 3 M.Days_init := by
  refine cd_of (k := 1) (N := ["self", "first", "step"]) (ps := ["self", "first", "step"]) (g := M.b_Days_init) F sc_Days__init (fun _ _ _ _ _ _ us hl => match us, hl with | [_, _, _], _ => rfl) (fun f cdv A outer s H E T hr tk hp => ?_)
  have hu := hr.units
  have hu65 := hu65_of hr
  have hu1 := hu_of hr
  have hN := sc_Days__init.nd
  exact (ss_cons (s_expr (d_clsFn cd_Once_Once__init hr tk (a_cons (d_var 0) (a_cons (d_var 1) a_nil))))
  (ss_one (s_fld (d_var 0) (d_var 2) nf_step_1)))
theorem sc_Weekdays__init : FnScope ["self", "first", "step", "which", "one"] ["self", "first", "step", "which", "one"] (defScope (inClass (topS 27) 0)) := ⟨rfl, rfl, rfl, by decide +kernel, rfl, by decide +kernel, by decide +kernel⟩
theorem md_Weekdays__init {c : Nat} (F : MtAt K (cl c) "__init__" "Weekdays.__init__" (inClass (topS 27) 0)) (hC : Cls K (cl c)) (nf_which_5 : ∀ c ∈ [5], Cls K (cl c) ∧ NoAttr K (cl c) "which") (nf_one_5 : ∀ c ∈ [5], Cls K (cl c) ∧ NoAttr K (cl c) "one") (cd_Months_Months__init : CD P w K mg base cl 4 3 "Months" "__init__" 3 M.Months_init) : MD P w K mg base cl 5 c "__init__" 5 M.Weekdays_init := by
  refine md_of (k := 4) (N := ["self", "first", "step", "which", "one"]) (ps := ["self", "first", "step", "which", "one"]) (g := M.b_Weekdays_init) F hC sc_Weekdays__init (fun _ _ _ _ _ _ us hl => match us, hl with | [_, _, _, _, _], _ => rfl) (fun f cdv A outer s H E T hr tk hp => ?_)
  have hu := hr.units
  have hu65 := hu65_of hr
  have hu1 := hu_of hr
  have hN := sc_Weekdays__init.nd
  exact (ss_cons (s_expr (d_clsFn cd_Months_Months__init hr tk (a_cons (d_var 0) (a_cons (d_var 1) (a_cons (d_var 2) a_nil)))))
  (ss_cons (s_fld (d_var 0) (d_var 3) nf_which_5)
  (ss_one (s_fld (d_var 0) (d_var 4) nf_one_5))))
theorem kd_Weekdays__init {c : Nat} {x : Str} (F : KdAt K mg x (cl c) "Weekdays.__init__" (inClass (topS 27) 0)) (nf_which_5 : ∀ c ∈ [5], Cls K (cl c) ∧ NoAttr K (cl c) "which") (nf_one_5 : ∀ c ∈ [5], Cls K (cl c) ∧ NoAttr K (cl c) "one") (cd_Months_Months__init : CD P w K mg base cl 4 3 "Months" "__init__" 3 M.Months_init) : KD' P w K mg base cl 5 c x 5 M.Weekdays_init := by
  refine kd_of (k := 4) (N := ["self", "first", "step", "which", "one"]) (ps := ["self", "first", "step", "which", "one"]) (g := M.b_Weekdays_init) F sc_Weekdays__init (fun _ _ _ _ _ _ us hl => match us, hl with | [_, _, _, _, _], _ => rfl) (fun f cdv A outer s H E T hr tk hp => ?_)
  have hu := hr.units
  have hu65 := hu65_of hr
  have hu1 := hu_of hr
  have hN := sc_Weekdays__init.nd
  exact (ss_cons (s_expr (d_clsFn cd_Months_Months__init hr tk (a_cons (d_var 0) (a_cons (d_var 1) (a_cons (d_var 2) a_nil)))))
  (ss_cons (s_fld (d_var 0) (d_var 3) nf_which_5)
  (ss_one (s_fld (d_var 0) (d_var 4) nf_one_5))))
theorem cd_Weekdays__init {c : Nat} {x : Str} (F : CdAt K mg x (cl c) "__init__" "Weekdays.__init__" (inClass (topS 27) 0)) (nf_which_5 : ∀ c ∈ [5], Cls K (cl c) ∧ NoAttr K (cl c) "which") (nf_one_5 : ∀ c ∈ [5], Cls K (cl c) ∧ NoAttr K (cl c) "one") (cd_Months_Months__init : CD P w K mg base cl 4 3 "Months" "__init__" 3 M.Months_init) : CD P w K mg base cl 5 c x "__init__" 5 M.Weekdays_init := by
  refine cd_of (k := 4) (N := ["self", "first", "step", "which", "one"]) (ps := ["self", "first", "step", "which", "one"]) (g := M.b_Weekdays_init) F sc_Weekdays__init (fun _ _ _ _ _ _ us hl => match us, hl with | [_, _, _, _, _], _ => rfl) (fun f cdv A outer s H E T hr tk hp => ?_)
  have hu := hr.units
  have hu65 := hu65_of hr
  have hu1 := hu_of hr
  have hN := sc_Weekdays__init.nd
  exact (ss_cons (s_expr (d_clsFn cd_Months_Months__init hr tk (a_cons (d_var 0) (a_cons (d_var 1) (a_cons (d_var 2) a_nil)))))
  (ss_cons (s_fld (d_var 0) (d_var 3) nf_which_5)
  (ss_one (s_fld (d_var 0) (d_var 4) nf_one_5))))
theorem sc_Weeks__init : FnScope ["self", "first", "step", "weekdays", "one"] ["self", "first", "step", "weekdays"] (defScope (inClass (topS 24) 0)) := ⟨rfl, rfl, rfl, by decide +kernel, rfl, by decide +kernel, by decide +kernel⟩
theorem md_Weeks__init {c : Nat} (F : MtAt K (cl c) "__init__" "Weeks.__init__" (inClass (topS 24) 0)) (hC : Cls K (cl c)) (nf_monday_2 : ∀ c ∈ [2], Cls K (cl c) ∧ NoAttr K (cl c) "monday") (nf_step_2 : ∀ c ∈ [2], Cls K (cl c) ∧ NoAttr K (cl c) "step") (nf_weekdays_2 : ∀ c ∈ [2], Cls K (cl c) ∧ NoAttr K (cl c) "weekdays") (m_len : mg "len" = none) (nf_left_out_2 : ∀ c ∈ [2], Cls K (cl c) ∧ NoAttr K (cl c) "left_out") (cd_Once_Once__init : CD P w K mg base cl 1 0 "Once" "__init__" 2 M.Once_init) (h_weekday : FD P w K mg base cl 1 "weekday" 1 M.weekday) : MD P w K mg base cl 2 c "__init__" 4 M.Weeks_init := by
  refine md_of (k := 1) (N := ["self", "first", "step", "weekdays", "one"]) (ps := ["self", "first", "step", "weekdays"]) (g := M.b_Weeks_init) F hC sc_Weeks__init (fun _ _ _ _ _ _ us hl => match us, hl with | [_, _, _, _], _ => rfl) (fun f cdv A outer s H E T hr tk hp => ?_)
  have hu := hr.units
  have hu65 := hu65_of hr
  have hu1 := hu_of hr
  have hN := sc_Weeks__init.nd
  exact (ss_cons (s_expr (d_clsFn cd_Once_Once__init hr tk (a_cons (d_var 0) (a_cons (d_var 1) a_nil))))
  (ss_cons (s_fld (d_var 0) (d_sub (d_var 1) (d_call h_weekday hr tk (a_cons (d_var 1) a_nil))) nf_monday_2)
  (ss_cons (s_fld (d_var 0) (d_mul d_int (d_var 2)) nf_step_2)
  (ss_cons (s_fld (d_var 0) (d_var 3) nf_weekdays_2)
  (ss_one (s_fld (d_var 0) (d_len (a_cons (d_frz (n_lc (own := [("one", 4)]) hN (i_seq (d_var 3)) (by show blkC ["self", "first", "step", "weekdays", "one"] (defScope (inClass (topS 24) 0)) _ _ = true; decide +kernel) (fun _ _ _ _ _ => (g_name 4 hN)) (fun _ _ _ _ _ => (p_one (t_lt (d_add (d_fld (d_var 0) nf_monday_2) (d_var 4)) (d_var 1)))) (fun _ _ _ _ _ => (d_var 4)))) a_nil) m_len) nf_left_out_2))))))
theorem kd_Weeks__init {c : Nat} {x : Str} (F : KdAt K mg x (cl c) "Weeks.__init__" (inClass (topS 24) 0)) (nf_monday_2 : ∀ c ∈ [2], Cls K (cl c) ∧ NoAttr K (cl c) "monday") (nf_step_2 : ∀ c ∈ [2], Cls K (cl c) ∧ NoAttr K (cl c) "step") (nf_weekdays_2 : ∀ c ∈ [2], Cls K (cl c) ∧ NoAttr K (cl c) "weekdays") (m_len : mg "len" = none) (nf_left_out_2 : ∀ c ∈ [2], Cls K (cl c) ∧ NoAttr K (cl c) "left_out") (cd_Once_Once__init : CD P w K mg base cl 1 0 "Once" "__init__" 2 M.Once_init) (h_weekday : FD P w K mg base cl 1 "weekday" 1 M.weekday) : KD' P w K mg base cl 2 c x 4 M.Weeks_init := by
  refine kd_of (k := 1) (N := ["self", "first", "step", "weekdays", "one"]) (ps := ["self", "first", "step", "weekdays"]) (g := M.b_Weeks_init) F sc_Weeks__init (fun _ _ _ _ _ _ us hl => match us, hl with | [_, _, _, _], _ => rfl) (fun f cdv A outer s H E T hr tk hp => ?_)
  have hu := hr.units
  have hu65 := hu65_of hr
  have hu1 := hu_of hr
  have hN := sc_Weeks__init.nd
  exact (ss_cons (s_expr (d_clsFn cd_Once_Once__init hr tk (a_cons (d_var 0) (a_cons (d_var 1) a_nil))))
  (ss_cons (s_fld (d_var 0) (d_sub (d_var 1) (d_call h_weekday hr tk (a_cons (d_var 1) a_nil))) nf_monday_2)
  (ss_cons (s_fld (d_var 0) (d_mul d_int (d_var 2)) nf_step_2)
  (ss_cons (s_fld (d_var 0) (d_var 3) nf_weekdays_2)
  (ss_one (s_fld (d_var 0) (d_len (a_cons (d_frz (n_lc (own := [("one", 4)]) hN (i_seq (d_var 3)) (by show blkC ["self", "first", "step", "weekdays", "one"] (defScope (inClass (topS 24) 0)) _ _ = true; decide +kernel) (fun _ _ _ _ _ => (g_name 4 hN)) (fun _ _ _ _ _ => (p_one (t_lt (d_add (d_fld (d_var 0) nf_monday_2) (d_var 4)) (d_var 1)))) (fun _ _ _ _ _ => (d_var 4)))) a_nil) m_len) nf_left_out_2))))))
theorem cd_Weeks__init {c : Nat} {x : Str} (F : CdAt K mg x (cl c) "__init__" "Weeks.__init__" (inClass (topS 24) 0)) (nf_monday_2 : ∀ c ∈ [2], Cls K (cl c) ∧ NoAttr K (cl c) "monday") (nf_step_2 : ∀ c ∈ [2], Cls K (cl c) ∧ NoAttr K (cl c) "step") (nf_weekdays_2 : ∀ c ∈ [2], Cls K (cl c) ∧ NoAttr K (cl c) "weekdays") (m_len : mg "len" = none) (nf_left_out_2 : ∀ c ∈ [2], Cls K (cl c) ∧ NoAttr K (cl c) "left_out") (cd_Once_Once__init : CD P w K mg base cl 1 0 "Once" "__init__" 2 M.Once_init) (h_weekday : FD P w K mg base cl 1 "weekday" 1 M.weekday) : CD P w K mg base cl 2 c x "__init__" 4 M.Weeks_init := by
  refine cd_of (k := 1) (N := ["self", "first", "step", "weekdays", "one"]) (ps := ["self", "first", "step", "weekdays"]) (g := M.b_Weeks_init) F sc_Weeks__init (fun _ _ _ _ _ _ us hl => match us, hl with | [_, _, _, _], _ => rfl) (fun f cdv A outer s H E T hr tk hp => ?_)
  have hu := hr.units
  have hu65 := hu65_of hr
  have hu1 := hu_of hr
  have hN := sc_Weeks__init.nd
  exact (ss_cons (s_expr (d_clsFn cd_Once_Once__init hr tk (a_cons (d_var 0) (a_cons (d_var 1) a_nil))))
  (ss_cons (s_fld (d_var 0) (d_sub (d_var 1) (d_call h_weekday hr tk (a_cons (d_var 1) a_nil))) nf_monday_2)
  (ss_cons (s_fld (d_var 0) (d_mul d_int (d_var 2)) nf_step_2)
  (ss_cons (s_fld (d_var 0) (d_var 3) nf_weekdays_2)
  (ss_one (s_fld (d_var 0) (d_len (a_cons (d_frz (n_lc (own := [("one", 4)]) hN (i_seq (d_var 3)) (by show blkC ["self", "first", "step", "weekdays", "one"] (defScope (inClass (topS 24) 0)) _ _ = true; decide +kernel) (fun _ _ _ _ _ => (g_name 4 hN)) (fun _ _ _ _ _ => (p_one (t_lt (d_add (d_fld (d_var 0) nf_monday_2) (d_var 4)) (d_var 1)))) (fun _ _ _ _ _ => (d_var 4)))) a_nil) m_len) nf_left_out_2))))))
theorem sc_coming_of : FnScope ["rule", "first", "how"] ["rule"] (defScope (topS 28)) := ⟨rfl, rfl, rfl, by decide +kernel, rfl, by decide +kernel, by decide +kernel⟩
theorem fd_coming_of (F : FnAt K mg "coming_of" (topS 28)) (m_len : mg "len" = none) (kd_Dates_Dates__init : KD' P w K mg base cl 5 4 "Dates" 4 M.Dates_init) (kd_Days_Days__init : KD' P w K mg base cl 2 1 "Days" 3 M.Days_init) (kd_Once_Once__init : KD' P w K mg base cl 1 0 "Once" 2 M.Once_init) (kd_Weekdays_Weekdays__init : KD' P w K mg base cl 5 5 "Weekdays" 5 M.Weekdays_init) (kd_Weeks_Weeks__init : KD' P w K mg base cl 2 2 "Weeks" 4 M.Weeks_init) : FD P w K mg base cl 7 "coming_of" 1 M.coming_of := by
  refine fd_of (k := 6) (N := ["rule", "first", "how"]) (ps := ["rule"]) (g := M.b_coming_of) F sc_coming_of (fun _ _ _ _ _ _ us hl => match us, hl with | [_], _ => rfl) (fun f cdv A outer s H E T hr tk hp => ?_)
  have hu := hr.units
  have hu65 := hu65_of hr
  have hu1 := hu_of hr
  have hN := sc_coming_of.nd
  exact (ss_cons (s_par 1 2 hN (a_cons (d_ix (d_var 0) d_int) (a_cons (d_ix (d_var 0) d_int) a_nil)))
  (ss_cons (s_if (t_eq hu (d_ix (d_var 2) d_int) d_str) (ss_one (s_ret (d_makeF kd_Once_Once__init hr tk (a_cons (d_var 1) a_nil)))) ss_nil)
  (ss_cons (s_if (t_eq hu (d_ix (d_var 2) d_int) d_str) (ss_one (s_ret (d_makeF kd_Days_Days__init hr tk (a_cons (d_var 1) (a_cons (d_ix (d_var 2) d_int) a_nil))))) ss_nil)
  (ss_cons (s_if (t_eq hu (d_ix (d_var 2) d_int) d_str) (ss_one (s_ret (d_makeF kd_Weeks_Weeks__init hr tk (a_cons (d_var 1) (a_cons (d_ix (d_var 2) d_int) (a_cons (d_ix (d_var 2) d_int) a_nil)))))) ss_nil)
  (ss_cons (s_if (t_eq hu (d_len (a_cons (d_var 2) a_nil) m_len) d_int) (ss_one (s_ret (d_makeF kd_Dates_Dates__init hr tk (a_cons (d_var 1) (a_cons (d_ix (d_var 2) d_int) (a_cons (d_ix (d_var 2) d_int) a_nil)))))) ss_nil)
  (ss_one (s_ret (d_makeF kd_Weekdays_Weekdays__init hr tk (a_cons (d_var 1) (a_cons (d_ix (d_var 2) d_int) (a_cons (d_ix (d_var 2) d_int) (a_cons (d_ix (d_var 2) d_int) a_nil))))))))))))
theorem sc_Days_at_place : FnScope ["self", "place"] ["self", "place"] (defScope (inClass (topS 23) 5)) := ⟨rfl, rfl, rfl, by decide +kernel, rfl, by decide +kernel, by decide +kernel⟩
theorem md_Days_at_place {c : Nat} (F : MtAt K (cl c) "at_place" "Days.at_place" (inClass (topS 23) 5)) (hC : Cls K (cl c)) (nf_first_1 : ∀ c ∈ [1], Cls K (cl c) ∧ NoAttr K (cl c) "first") (nf_step_1 : ∀ c ∈ [1], Cls K (cl c) ∧ NoAttr K (cl c) "step") : MD P w K mg base cl 1 c "at_place" 2 M.Days_at_place := by
  refine md_of (k := 0) (N := ["self", "place"]) (ps := ["self", "place"]) (g := M.b_Days_at_place) F hC sc_Days_at_place (fun _ _ _ _ _ _ us hl => match us, hl with | [_, _], _ => rfl) (fun f cdv A outer s H E T hr tk hp => ?_)
  have hu := hr.units
  have hu65 := hu65_of hr
  have hu1 := hu_of hr
  have hN := sc_Days_at_place.nd
  exact (ss_one (s_ret (d_add (d_fld (d_var 0) nf_first_1) (d_mul (d_var 1) (d_fld (d_var 0) nf_step_1)))))
theorem cd_Days_at_place {c : Nat} {x : Str} (F : CdAt K mg x (cl c) "at_place" "Days.at_place" (inClass (topS 23) 5)) (nf_first_1 : ∀ c ∈ [1], Cls K (cl c) ∧ NoAttr K (cl c) "first") (nf_step_1 : ∀ c ∈ [1], Cls K (cl c) ∧ NoAttr K (cl c) "step") : CD P w K mg base cl 1 c x "at_place" 2 M.Days_at_place := by
  refine cd_of (k := 0) (N := ["self", "place"]) (ps := ["self", "place"]) (g := M.b_Days_at_place) F sc_Days_at_place (fun _ _ _ _ _ _ us hl => match us, hl with | [_, _], _ => rfl) (fun f cdv A outer s H E T hr tk hp => ?_)
  have hu := hr.units
  have hu65 := hu65_of hr
  have hu1 := hu_of hr
  have hN := sc_Days_at_place.nd
  exact (ss_one (s_ret (d_add (d_fld (d_var 0) nf_first_1) (d_mul (d_var 1) (d_fld (d_var 0) nf_step_1)))))
theorem sc_Months_begins : FnScope ["self", "stretch"] ["self", "stretch"] (defScope (inClass (topS 25) 2)) := ⟨rfl, rfl, rfl, by decide +kernel, rfl, by decide +kernel, by decide +kernel⟩
theorem md_Months_begins {c : Nat} (F : MtAt K (cl c) "begins" "Months.begins" (inClass (topS 25) 2)) (hC : Cls K (cl c)) (nf_month_3_4_5 : ∀ c ∈ [3, 4, 5], Cls K (cl c) ∧ NoAttr K (cl c) "month") (nf_step_3_4_5 : ∀ c ∈ [3, 4, 5], Cls K (cl c) ∧ NoAttr K (cl c) "step") (h_first_of : FD P w K mg base cl 3 "first_of" 1 M.first_of) : MD P w K mg base cl 4 c "begins" 2 M.Months_begins := by
  refine md_of (k := 3) (N := ["self", "stretch"]) (ps := ["self", "stretch"]) (g := M.b_Months_begins) F hC sc_Months_begins (fun _ _ _ _ _ _ us hl => match us, hl with | [_, _], _ => rfl) (fun f cdv A outer s H E T hr tk hp => ?_)
  have hu := hr.units
  have hu65 := hu65_of hr
  have hu1 := hu_of hr
  have hN := sc_Months_begins.nd
  exact (ss_one (s_ret (d_call h_first_of hr tk (a_cons (d_add (d_fld (d_var 0) nf_month_3_4_5) (d_mul (d_var 1) (d_fld (d_var 0) nf_step_3_4_5))) a_nil))))
theorem cd_Months_begins {c : Nat} {x : Str} (F : CdAt K mg x (cl c) "begins" "Months.begins" (inClass (topS 25) 2)) (nf_month_3_4_5 : ∀ c ∈ [3, 4, 5], Cls K (cl c) ∧ NoAttr K (cl c) "month") (nf_step_3_4_5 : ∀ c ∈ [3, 4, 5], Cls K (cl c) ∧ NoAttr K (cl c) "step") (h_first_of : FD P w K mg base cl 3 "first_of" 1 M.first_of) : CD P w K mg base cl 4 c x "begins" 2 M.Months_begins := by
  refine cd_of (k := 3) (N := ["self", "stretch"]) (ps := ["self", "stretch"]) (g := M.b_Months_begins) F sc_Months_begins (fun _ _ _ _ _ _ us hl => match us, hl with | [_, _], _ => rfl) (fun f cdv A outer s H E T hr tk hp => ?_)
  have hu := hr.units
  have hu65 := hu65_of hr
  have hu1 := hu_of hr
  have hN := sc_Months_begins.nd
  exact (ss_one (s_ret (d_call h_first_of hr tk (a_cons (d_add (d_fld (d_var 0) nf_month_3_4_5) (d_mul (d_var 1) (d_fld (d_var 0) nf_step_3_4_5))) a_nil))))
theorem sc_Dates_date_in : FnScope ["self", "month"] ["self", "month"] (defScope (inClass (topS 26) 1)) := ⟨rfl, rfl, rfl, by decide +kernel, rfl, by decide +kernel, by decide +kernel⟩
theorem md_Dates_date_in {c : Nat} (F : MtAt K (cl c) "date_in" "Dates.date_in" (inClass (topS 26) 1)) (hC : Cls K (cl c)) (nf_date_4 : ∀ c ∈ [4], Cls K (cl c) ∧ NoAttr K (cl c) "date") (h_month_length : FD P w K mg base cl 2 "month_length" 1 M.month_length) : MD P w K mg base cl 3 c "date_in" 2 M.Dates_date_in := by
  refine md_of (k := 2) (N := ["self", "month"]) (ps := ["self", "month"]) (g := M.b_Dates_date_in) F hC sc_Dates_date_in (fun _ _ _ _ _ _ us hl => match us, hl with | [_, _], _ => rfl) (fun f cdv A outer s H E T hr tk hp => ?_)
  have hu := hr.units
  have hu65 := hu65_of hr
  have hu1 := hu_of hr
  have hN := sc_Dates_date_in.nd
  exact (ss_one (s_ret (d_if (t_le (d_fld (d_var 0) nf_date_4) (d_call h_month_length hr tk (a_cons (d_var 1) a_nil))) (d_fld (d_var 0) nf_date_4) d_non)))
theorem cd_Dates_date_in {c : Nat} {x : Str} (F : CdAt K mg x (cl c) "date_in" "Dates.date_in" (inClass (topS 26) 1)) (nf_date_4 : ∀ c ∈ [4], Cls K (cl c) ∧ NoAttr K (cl c) "date") (h_month_length : FD P w K mg base cl 2 "month_length" 1 M.month_length) : CD P w K mg base cl 3 c x "date_in" 2 M.Dates_date_in := by
  refine cd_of (k := 2) (N := ["self", "month"]) (ps := ["self", "month"]) (g := M.b_Dates_date_in) F sc_Dates_date_in (fun _ _ _ _ _ _ us hl => match us, hl with | [_, _], _ => rfl) (fun f cdv A outer s H E T hr tk hp => ?_)
  have hu := hr.units
  have hu65 := hu65_of hr
  have hu1 := hu_of hr
  have hN := sc_Dates_date_in.nd
  exact (ss_one (s_ret (d_if (t_le (d_fld (d_var 0) nf_date_4) (d_call h_month_length hr tk (a_cons (d_var 1) a_nil))) (d_fld (d_var 0) nf_date_4) d_non)))
theorem sc_Months_date_in : FnScope ["self", "month"] ["self", "month"] (defScope (inClass (topS 25) 3)) := ⟨rfl, rfl, rfl, by decide +kernel, rfl, by decide +kernel, by decide +kernel⟩
theorem md_Months_date_in {c : Nat} (F : MtAt K (cl c) "date_in" "Months.date_in" (inClass (topS 25) 3)) (hC : Cls K (cl c))  : MD P w K mg base cl 1 c "date_in" 2 M.Months_date_in := by
  refine md_of (k := 0) (N := ["self", "month"]) (ps := ["self", "month"]) (g := M.b_Months_date_in) F hC sc_Months_date_in (fun _ _ _ _ _ _ us hl => match us, hl with | [_, _], _ => rfl) (fun f cdv A outer s H E T hr tk hp => ?_)
  have hu := hr.units
  have hu65 := hu65_of hr
  have hu1 := hu_of hr
  have hN := sc_Months_date_in.nd
  exact (ss_one (s_ret d_non))
theorem cd_Months_date_in {c : Nat} {x : Str} (F : CdAt K mg x (cl c) "date_in" "Months.date_in" (inClass (topS 25) 3))  : CD P w K mg base cl 1 c x "date_in" 2 M.Months_date_in := by
  refine cd_of (k := 0) (N := ["self", "month"]) (ps := ["self", "month"]) (g := M.b_Months_date_in) F sc_Months_date_in (fun _ _ _ _ _ _ us hl => match us, hl with | [_, _], _ => rfl) (fun f cdv A outer s H E T hr tk hp => ?_)
  have hu := hr.units
  have hu65 := hu65_of hr
  have hu1 := hu_of hr
  have hN := sc_Months_date_in.nd
  exact (ss_one (s_ret d_non))
theorem sc_Weekdays_date_in : FnScope ["self", "month", "date"] ["self", "month"] (defScope (inClass (topS 27) 1)) := ⟨rfl, rfl, rfl, by decide +kernel, rfl, by decide +kernel, by decide +kernel⟩
theorem md_Weekdays_date_in {c : Nat} (F : MtAt K (cl c) "date_in" "Weekdays.date_in" (inClass (topS 27) 1)) (hC : Cls K (cl c)) (nf_one_5 : ∀ c ∈ [5], Cls K (cl c) ∧ NoAttr K (cl c) "one") (nf_which_5 : ∀ c ∈ [5], Cls K (cl c) ∧ NoAttr K (cl c) "which") (h_first_of : FD P w K mg base cl 3 "first_of" 1 M.first_of) (h_month_length : FD P w K mg base cl 2 "month_length" 1 M.month_length) (h_weekday : FD P w K mg base cl 1 "weekday" 1 M.weekday) : MD P w K mg base cl 4 c "date_in" 2 M.Weekdays_date_in := by
  refine md_of (k := 3) (N := ["self", "month", "date"]) (ps := ["self", "month"]) (g := M.b_Weekdays_date_in) F hC sc_Weekdays_date_in (fun _ _ _ _ _ _ us hl => match us, hl with | [_, _], _ => rfl) (fun f cdv A outer s H E T hr tk hp => ?_)
  have hu := hr.units
  have hu65 := hu65_of hr
  have hu1 := hu_of hr
  have hN := sc_Weekdays_date_in.nd
  exact (ss_cons (s_set 2 hN (d_add d_int (d_mod (d_sub (d_fld (d_var 0) nf_one_5) (d_call h_weekday hr tk (a_cons (d_call h_first_of hr tk (a_cons (d_var 1) a_nil)) a_nil))) d_int)))
  (ss_cons (s_if (t_gt (d_fld (d_var 0) nf_which_5) d_int) (ss_cons (s_set 2 hN (d_add (d_var 2) (d_mul d_int (d_sub (d_fld (d_var 0) nf_which_5) d_int))))
  (ss_one (s_ret (d_if (t_le (d_var 2) (d_call h_month_length hr tk (a_cons (d_var 1) a_nil))) (d_var 2) d_non)))) ss_nil)
  (ss_cons (s_while fuel hp (t_le (d_add (d_var 2) d_int) (d_call h_month_length hr tk (a_cons (d_var 1) a_nil))) (ss_one (s_set 2 hN (d_add (d_var 2) d_int))))
  (ss_one (s_ret (d_var 2))))))
theorem cd_Weekdays_date_in {c : Nat} {x : Str} (F : CdAt K mg x (cl c) "date_in" "Weekdays.date_in" (inClass (topS 27) 1)) (nf_one_5 : ∀ c ∈ [5], Cls K (cl c) ∧ NoAttr K (cl c) "one") (nf_which_5 : ∀ c ∈ [5], Cls K (cl c) ∧ NoAttr K (cl c) "which") (h_first_of : FD P w K mg base cl 3 "first_of" 1 M.first_of) (h_month_length : FD P w K mg base cl 2 "month_length" 1 M.month_length) (h_weekday : FD P w K mg base cl 1 "weekday" 1 M.weekday) : CD P w K mg base cl 4 c x "date_in" 2 M.Weekdays_date_in := by
  refine cd_of (k := 3) (N := ["self", "month", "date"]) (ps := ["self", "month"]) (g := M.b_Weekdays_date_in) F sc_Weekdays_date_in (fun _ _ _ _ _ _ us hl => match us, hl with | [_, _], _ => rfl) (fun f cdv A outer s H E T hr tk hp => ?_)
  have hu := hr.units
  have hu65 := hu65_of hr
  have hu1 := hu_of hr
  have hN := sc_Weekdays_date_in.nd
  exact (ss_cons (s_set 2 hN (d_add d_int (d_mod (d_sub (d_fld (d_var 0) nf_one_5) (d_call h_weekday hr tk (a_cons (d_call h_first_of hr tk (a_cons (d_var 1) a_nil)) a_nil))) d_int)))
  (ss_cons (s_if (t_gt (d_fld (d_var 0) nf_which_5) d_int) (ss_cons (s_set 2 hN (d_add (d_var 2) (d_mul d_int (d_sub (d_fld (d_var 0) nf_which_5) d_int))))
  (ss_one (s_ret (d_if (t_le (d_var 2) (d_call h_month_length hr tk (a_cons (d_var 1) a_nil))) (d_var 2) d_non)))) ss_nil)
  (ss_cons (s_while fuel hp (t_le (d_add (d_var 2) d_int) (d_call h_month_length hr tk (a_cons (d_var 1) a_nil))) (ss_one (s_set 2 hN (d_add (d_var 2) d_int))))
  (ss_one (s_ret (d_var 2))))))
theorem sc_Months_days_in : FnScope ["self", "stretch", "month", "date"] ["self", "stretch"] (defScope (inClass (topS 25) 4)) := ⟨rfl, rfl, rfl, by decide +kernel, rfl, by decide +kernel, by decide +kernel⟩
theorem md_Months_days_in {c : Nat} (F : MtAt K (cl c) "days_in" "Months.days_in" (inClass (topS 25) 4)) (hC : Cls K (cl c)) (nf_month_3_4_5 : ∀ c ∈ [3, 4, 5], Cls K (cl c) ∧ NoAttr K (cl c) "month") (nf_step_3_4_5 : ∀ c ∈ [3, 4, 5], Cls K (cl c) ∧ NoAttr K (cl c) "step") (nf_first_3_4_5 : ∀ c ∈ [3, 4, 5], Cls K (cl c) ∧ NoAttr K (cl c) "first") (md_Dates_Dates_date_in : MD P w K mg base cl 3 4 "date_in" 2 M.Dates_date_in) (md_Months_Months_date_in : MD P w K mg base cl 1 3 "date_in" 2 M.Months_date_in) (md_Weekdays_Weekdays_date_in : MD P w K mg base cl 4 5 "date_in" 2 M.Weekdays_date_in) (h_first_of : FD P w K mg base cl 3 "first_of" 1 M.first_of) : MD P w K mg base cl 5 c "days_in" 2 M.Months_days_in := by
  refine md_of (k := 4) (N := ["self", "stretch", "month", "date"]) (ps := ["self", "stretch"]) (g := M.b_Months_days_in) F hC sc_Months_days_in (fun _ _ _ _ _ _ us hl => match us, hl with | [_, _], _ => rfl) (fun f cdv A outer s H E T hr tk hp => ?_)
  have hu := hr.units
  have hu65 := hu65_of hr
  have hu1 := hu_of hr
  have hN := sc_Months_days_in.nd
  exact (ss_cons (s_set 2 hN (d_add (d_fld (d_var 0) nf_month_3_4_5) (d_mul (d_var 1) (d_fld (d_var 0) nf_step_3_4_5))))
  (ss_cons (s_set 3 hN (d_meth (n := 2) (alls_cons (md_Months_Months_date_in.mono (by omega)) (alls_cons (md_Dates_Dates_date_in.mono (by omega)) (alls_cons (md_Weekdays_Weekdays_date_in.mono (by omega)) alls_nil))) hr tk (d_var 0) (a_cons (d_var 2) a_nil)))
  (ss_cons (s_if (t_of (w_or (t_is (d_var 3) d_non) (w_or1 (t_lt (d_sub (d_add (d_call h_first_of hr tk (a_cons (d_var 2) a_nil)) (d_var 3)) d_int) (d_fld (d_var 0) nf_first_3_4_5))))) (ss_one (s_ret (d_frz (n_lst a_nil)))) ss_nil)
  (ss_one (s_ret (d_frz (n_lst (a_cons (d_sub (d_add (d_call h_first_of hr tk (a_cons (d_var 2) a_nil)) (d_var 3)) d_int) a_nil))))))))
theorem cd_Months_days_in {c : Nat} {x : Str} (F : CdAt K mg x (cl c) "days_in" "Months.days_in" (inClass (topS 25) 4)) (nf_month_3_4_5 : ∀ c ∈ [3, 4, 5], Cls K (cl c) ∧ NoAttr K (cl c) "month") (nf_step_3_4_5 : ∀ c ∈ [3, 4, 5], Cls K (cl c) ∧ NoAttr K (cl c) "step") (nf_first_3_4_5 : ∀ c ∈ [3, 4, 5], Cls K (cl c) ∧ NoAttr K (cl c) "first") (md_Dates_Dates_date_in : MD P w K mg base cl 3 4 "date_in" 2 M.Dates_date_in) (md_Months_Months_date_in : MD P w K mg base cl 1 3 "date_in" 2 M.Months_date_in) (md_Weekdays_Weekdays_date_in : MD P w K mg base cl 4 5 "date_in" 2 M.Weekdays_date_in) (h_first_of : FD P w K mg base cl 3 "first_of" 1 M.first_of) : CD P w K mg base cl 5 c x "days_in" 2 M.Months_days_in := by
  refine cd_of (k := 4) (N := ["self", "stretch", "month", "date"]) (ps := ["self", "stretch"]) (g := M.b_Months_days_in) F sc_Months_days_in (fun _ _ _ _ _ _ us hl => match us, hl with | [_, _], _ => rfl) (fun f cdv A outer s H E T hr tk hp => ?_)
  have hu := hr.units
  have hu65 := hu65_of hr
  have hu1 := hu_of hr
  have hN := sc_Months_days_in.nd
  exact (ss_cons (s_set 2 hN (d_add (d_fld (d_var 0) nf_month_3_4_5) (d_mul (d_var 1) (d_fld (d_var 0) nf_step_3_4_5))))
  (ss_cons (s_set 3 hN (d_meth (n := 2) (alls_cons (md_Months_Months_date_in.mono (by omega)) (alls_cons (md_Dates_Dates_date_in.mono (by omega)) (alls_cons (md_Weekdays_Weekdays_date_in.mono (by omega)) alls_nil))) hr tk (d_var 0) (a_cons (d_var 2) a_nil)))
  (ss_cons (s_if (t_of (w_or (t_is (d_var 3) d_non) (w_or1 (t_lt (d_sub (d_add (d_call h_first_of hr tk (a_cons (d_var 2) a_nil)) (d_var 3)) d_int) (d_fld (d_var 0) nf_first_3_4_5))))) (ss_one (s_ret (d_frz (n_lst a_nil)))) ss_nil)
  (ss_one (s_ret (d_frz (n_lst (a_cons (d_sub (d_add (d_call h_first_of hr tk (a_cons (d_var 2) a_nil)) (d_var 3)) d_int) a_nil))))))))
theorem sc_Months_at_place : FnScope ["self", "place", "stretch", "left", "some"] ["self", "place"] (defScope (inClass (topS 25) 6)) := ⟨rfl, rfl, rfl, by decide +kernel, rfl, by decide +kernel, by decide +kernel⟩
theorem md_Months_at_place {c : Nat} (F : MtAt K (cl c) "at_place" "Months.at_place" (inClass (topS 25) 6)) (hC : Cls K (cl c)) (c_LAST_DAY : GConst K mg cl "LAST_DAY" k_LAST_DAY) (m_len : mg "len" = none) (md_Dates_Months_begins : MD P w K mg base cl 4 4 "begins" 2 M.Months_begins) (md_Dates_Months_days_in : MD P w K mg base cl 5 4 "days_in" 2 M.Months_days_in) (md_Months_Months_begins : MD P w K mg base cl 4 3 "begins" 2 M.Months_begins) (md_Months_Months_days_in : MD P w K mg base cl 5 3 "days_in" 2 M.Months_days_in) (md_Weekdays_Months_begins : MD P w K mg base cl 4 5 "begins" 2 M.Months_begins) (md_Weekdays_Months_days_in : MD P w K mg base cl 5 5 "days_in" 2 M.Months_days_in) : MD P w K mg base cl 6 c "at_place" 2 M.Months_at_place := by
  refine md_of (k := 5) (N := ["self", "place", "stretch", "left", "some"]) (ps := ["self", "place"]) (g := M.b_Months_at_place) F hC sc_Months_at_place (fun _ _ _ _ _ _ us hl => match us, hl with | [_, _], _ => rfl) (fun f cdv A outer s H E T hr tk hp => ?_)
  have hu := hr.units
  have hu65 := hu65_of hr
  have hu1 := hu_of hr
  have hN := sc_Months_at_place.nd
  exact (ss_cons (s_set 2 hN d_int)
  (ss_cons (s_set 3 hN (d_var 1))
  (ss_cons (s_while fuel hp (t_le (d_meth (n := 2) (alls_cons (md_Months_Months_begins.mono (by omega)) (alls_cons (md_Dates_Months_begins.mono (by omega)) (alls_cons (md_Weekdays_Months_begins.mono (by omega)) alls_nil))) hr tk (d_var 0) (a_cons (d_var 2) a_nil)) (d_glob c_LAST_DAY)) (ss_cons (s_set 4 hN (d_meth (n := 2) (alls_cons (md_Months_Months_days_in.mono (by omega)) (alls_cons (md_Dates_Months_days_in.mono (by omega)) (alls_cons (md_Weekdays_Months_days_in.mono (by omega)) alls_nil))) hr tk (d_var 0) (a_cons (d_var 2) a_nil)))
  (ss_cons (s_if (t_lt (d_var 3) (d_len (a_cons (d_var 4) a_nil) m_len)) (ss_one (s_ret (d_ix (d_var 4) (d_var 3)))) ss_nil)
  (ss_cons (s_set 3 hN (d_sub (d_var 3) (d_len (a_cons (d_var 4) a_nil) m_len)))
  (ss_one (s_set 2 hN (d_add (d_var 2) d_int)))))))
  (ss_one (s_ret d_non)))))
theorem cd_Months_at_place {c : Nat} {x : Str} (F : CdAt K mg x (cl c) "at_place" "Months.at_place" (inClass (topS 25) 6)) (c_LAST_DAY : GConst K mg cl "LAST_DAY" k_LAST_DAY) (m_len : mg "len" = none) (md_Dates_Months_begins : MD P w K mg base cl 4 4 "begins" 2 M.Months_begins) (md_Dates_Months_days_in : MD P w K mg base cl 5 4 "days_in" 2 M.Months_days_in) (md_Months_Months_begins : MD P w K mg base cl 4 3 "begins" 2 M.Months_begins) (md_Months_Months_days_in : MD P w K mg base cl 5 3 "days_in" 2 M.Months_days_in) (md_Weekdays_Months_begins : MD P w K mg base cl 4 5 "begins" 2 M.Months_begins) (md_Weekdays_Months_days_in : MD P w K mg base cl 5 5 "days_in" 2 M.Months_days_in) : CD P w K mg base cl 6 c x "at_place" 2 M.Months_at_place := by
  refine cd_of (k := 5) (N := ["self", "place", "stretch", "left", "some"]) (ps := ["self", "place"]) (g := M.b_Months_at_place) F sc_Months_at_place (fun _ _ _ _ _ _ us hl => match us, hl with | [_, _], _ => rfl) (fun f cdv A outer s H E T hr tk hp => ?_)
  have hu := hr.units
  have hu65 := hu65_of hr
  have hu1 := hu_of hr
  have hN := sc_Months_at_place.nd
  exact (ss_cons (s_set 2 hN d_int)
  (ss_cons (s_set 3 hN (d_var 1))
  (ss_cons (s_while fuel hp (t_le (d_meth (n := 2) (alls_cons (md_Months_Months_begins.mono (by omega)) (alls_cons (md_Dates_Months_begins.mono (by omega)) (alls_cons (md_Weekdays_Months_begins.mono (by omega)) alls_nil))) hr tk (d_var 0) (a_cons (d_var 2) a_nil)) (d_glob c_LAST_DAY)) (ss_cons (s_set 4 hN (d_meth (n := 2) (alls_cons (md_Months_Months_days_in.mono (by omega)) (alls_cons (md_Dates_Months_days_in.mono (by omega)) (alls_cons (md_Weekdays_Months_days_in.mono (by omega)) alls_nil))) hr tk (d_var 0) (a_cons (d_var 2) a_nil)))
  (ss_cons (s_if (t_lt (d_var 3) (d_len (a_cons (d_var 4) a_nil) m_len)) (ss_one (s_ret (d_ix (d_var 4) (d_var 3)))) ss_nil)
  (ss_cons (s_set 3 hN (d_sub (d_var 3) (d_len (a_cons (d_var 4) a_nil) m_len)))
  (ss_one (s_set 2 hN (d_add (d_var 2) d_int)))))))
  (ss_one (s_ret d_non)))))
theorem sc_Once_at_place : FnScope ["self", "place"] ["self", "place"] (defScope (inClass (topS 22) 5)) := ⟨rfl, rfl, rfl, by decide +kernel, rfl, by decide +kernel, by decide +kernel⟩
theorem md_Once_at_place {c : Nat} (F : MtAt K (cl c) "at_place" "Once.at_place" (inClass (topS 22) 5)) (hC : Cls K (cl c)) (nf_first_0_1_2_3_4_5 : ∀ c ∈ [0, 1, 2, 3, 4, 5], Cls K (cl c) ∧ NoAttr K (cl c) "first") : MD P w K mg base cl 1 c "at_place" 2 M.Once_at_place := by
  refine md_of (k := 0) (N := ["self", "place"]) (ps := ["self", "place"]) (g := M.b_Once_at_place) F hC sc_Once_at_place (fun _ _ _ _ _ _ us hl => match us, hl with | [_, _], _ => rfl) (fun f cdv A outer s H E T hr tk hp => ?_)
  have hu := hr.units
  have hu65 := hu65_of hr
  have hu1 := hu_of hr
  have hN := sc_Once_at_place.nd
  exact (ss_one (s_ret (d_if (t_eq hu (d_var 1) d_int) (d_fld (d_var 0) nf_first_0_1_2_3_4_5) d_non)))
theorem cd_Once_at_place {c : Nat} {x : Str} (F : CdAt K mg x (cl c) "at_place" "Once.at_place" (inClass (topS 22) 5)) (nf_first_0_1_2_3_4_5 : ∀ c ∈ [0, 1, 2, 3, 4, 5], Cls K (cl c) ∧ NoAttr K (cl c) "first") : CD P w K mg base cl 1 c x "at_place" 2 M.Once_at_place := by
  refine cd_of (k := 0) (N := ["self", "place"]) (ps := ["self", "place"]) (g := M.b_Once_at_place) F sc_Once_at_place (fun _ _ _ _ _ _ us hl => match us, hl with | [_, _], _ => rfl) (fun f cdv A outer s H E T hr tk hp => ?_)
  have hu := hr.units
  have hu65 := hu65_of hr
  have hu1 := hu_of hr
  have hN := sc_Once_at_place.nd
  exact (ss_one (s_ret (d_if (t_eq hu (d_var 1) d_int) (d_fld (d_var 0) nf_first_0_1_2_3_4_5) d_non)))
theorem sc_Weeks_begins : FnScope ["self", "stretch"] ["self", "stretch"] (defScope (inClass (topS 24) 2)) := ⟨rfl, rfl, rfl, by decide +kernel, rfl, by decide +kernel, by decide +kernel⟩
theorem md_Weeks_begins {c : Nat} (F : MtAt K (cl c) "begins" "Weeks.begins" (inClass (topS 24) 2)) (hC : Cls K (cl c)) (nf_monday_2 : ∀ c ∈ [2], Cls K (cl c) ∧ NoAttr K (cl c) "monday") (nf_step_2 : ∀ c ∈ [2], Cls K (cl c) ∧ NoAttr K (cl c) "step") : MD P w K mg base cl 1 c "begins" 2 M.Weeks_begins := by
  refine md_of (k := 0) (N := ["self", "stretch"]) (ps := ["self", "stretch"]) (g := M.b_Weeks_begins) F hC sc_Weeks_begins (fun _ _ _ _ _ _ us hl => match us, hl with | [_, _], _ => rfl) (fun f cdv A outer s H E T hr tk hp => ?_)
  have hu := hr.units
  have hu65 := hu65_of hr
  have hu1 := hu_of hr
  have hN := sc_Weeks_begins.nd
  exact (ss_one (s_ret (d_add (d_fld (d_var 0) nf_monday_2) (d_mul (d_var 1) (d_fld (d_var 0) nf_step_2)))))
theorem cd_Weeks_begins {c : Nat} {x : Str} (F : CdAt K mg x (cl c) "begins" "Weeks.begins" (inClass (topS 24) 2)) (nf_monday_2 : ∀ c ∈ [2], Cls K (cl c) ∧ NoAttr K (cl c) "monday") (nf_step_2 : ∀ c ∈ [2], Cls K (cl c) ∧ NoAttr K (cl c) "step") : CD P w K mg base cl 1 c x "begins" 2 M.Weeks_begins := by
  refine cd_of (k := 0) (N := ["self", "stretch"]) (ps := ["self", "stretch"]) (g := M.b_Weeks_begins) F sc_Weeks_begins (fun _ _ _ _ _ _ us hl => match us, hl with | [_, _], _ => rfl) (fun f cdv A outer s H E T hr tk hp => ?_)
  have hu := hr.units
  have hu65 := hu65_of hr
  have hu1 := hu_of hr
  have hN := sc_Weeks_begins.nd
  exact (ss_one (s_ret (d_add (d_fld (d_var 0) nf_monday_2) (d_mul (d_var 1) (d_fld (d_var 0) nf_step_2)))))
theorem sc_Weeks_at_place : FnScope ["self", "place", "stretch", "at"] ["self", "place"] (defScope (inClass (topS 24) 5)) := ⟨rfl, rfl, rfl, by decide +kernel, rfl, by decide +kernel, by decide +kernel⟩
theorem md_Weeks_at_place {c : Nat} (F : MtAt K (cl c) "at_place" "Weeks.at_place" (inClass (topS 24) 5)) (hC : Cls K (cl c)) (m_divmod : mg "divmod" = none) (nf_left_out_2 : ∀ c ∈ [2], Cls K (cl c) ∧ NoAttr K (cl c) "left_out") (m_len : mg "len" = none) (nf_weekdays_2 : ∀ c ∈ [2], Cls K (cl c) ∧ NoAttr K (cl c) "weekdays") (md_Weeks_Weeks_begins : MD P w K mg base cl 1 2 "begins" 2 M.Weeks_begins) : MD P w K mg base cl 2 c "at_place" 2 M.Weeks_at_place := by
  refine md_of (k := 1) (N := ["self", "place", "stretch", "at"]) (ps := ["self", "place"]) (g := M.b_Weeks_at_place) F hC sc_Weeks_at_place (fun _ _ _ _ _ _ us hl => match us, hl with | [_, _], _ => rfl) (fun f cdv A outer s H E T hr tk hp => ?_)
  have hu := hr.units
  have hu65 := hu65_of hr
  have hu1 := hu_of hr
  have hN := sc_Weeks_at_place.nd
  exact (ss_cons (s_tg (d_divmod (a_cons (d_add (d_var 1) (d_fld (d_var 0) nf_left_out_2)) (a_cons (d_len (a_cons (d_fld (d_var 0) nf_weekdays_2) a_nil) m_len) a_nil)) m_divmod) (g_tup (gs_cons (g_name 2 hN) (gs_cons (g_name 3 hN) gs_nil))))
  (ss_one (s_ret (d_add (d_meth (n := 2) (alls_cons (md_Weeks_Weeks_begins.mono (by omega)) alls_nil) hr tk (d_var 0) (a_cons (d_var 2) a_nil)) (d_ix (d_fld (d_var 0) nf_weekdays_2) (d_var 3))))))
theorem cd_Weeks_at_place {c : Nat} {x : Str} (F : CdAt K mg x (cl c) "at_place" "Weeks.at_place" (inClass (topS 24) 5)) (m_divmod : mg "divmod" = none) (nf_left_out_2 : ∀ c ∈ [2], Cls K (cl c) ∧ NoAttr K (cl c) "left_out") (m_len : mg "len" = none) (nf_weekdays_2 : ∀ c ∈ [2], Cls K (cl c) ∧ NoAttr K (cl c) "weekdays") (md_Weeks_Weeks_begins : MD P w K mg base cl 1 2 "begins" 2 M.Weeks_begins) : CD P w K mg base cl 2 c x "at_place" 2 M.Weeks_at_place := by
  refine cd_of (k := 1) (N := ["self", "place", "stretch", "at"]) (ps := ["self", "place"]) (g := M.b_Weeks_at_place) F sc_Weeks_at_place (fun _ _ _ _ _ _ us hl => match us, hl with | [_, _], _ => rfl) (fun f cdv A outer s H E T hr tk hp => ?_)
  have hu := hr.units
  have hu65 := hu65_of hr
  have hu1 := hu_of hr
  have hN := sc_Weeks_at_place.nd
  exact (ss_cons (s_tg (d_divmod (a_cons (d_add (d_var 1) (d_fld (d_var 0) nf_left_out_2)) (a_cons (d_len (a_cons (d_fld (d_var 0) nf_weekdays_2) a_nil) m_len) a_nil)) m_divmod) (g_tup (gs_cons (g_name 2 hN) (gs_cons (g_name 3 hN) gs_nil))))
  (ss_one (s_ret (d_add (d_meth (n := 2) (alls_cons (md_Weeks_Weeks_begins.mono (by omega)) alls_nil) hr tk (d_var 0) (a_cons (d_var 2) a_nil)) (d_ix (d_fld (d_var 0) nf_weekdays_2) (d_var 3))))))
theorem sc_limit_of : FnScope ["rule", "coming", "day"] ["rule", "coming"] (defScope (topS 29)) := ⟨rfl, rfl, rfl, by decide +kernel, rfl, by decide +kernel, by decide +kernel⟩
theorem fd_limit_of (F : FnAt K mg "limit_of" (topS 29)) (c_LAST_DAY : GConst K mg cl "LAST_DAY" k_LAST_DAY) (m_min : mg "min" = none) (md_Dates_Months_at_place : MD P w K mg base cl 6 4 "at_place" 2 M.Months_at_place) (md_Days_Days_at_place : MD P w K mg base cl 1 1 "at_place" 2 M.Days_at_place) (md_Months_Months_at_place : MD P w K mg base cl 6 3 "at_place" 2 M.Months_at_place) (md_Once_Once_at_place : MD P w K mg base cl 1 0 "at_place" 2 M.Once_at_place) (md_Weekdays_Months_at_place : MD P w K mg base cl 6 5 "at_place" 2 M.Months_at_place) (md_Weeks_Weeks_at_place : MD P w K mg base cl 2 2 "at_place" 2 M.Weeks_at_place) : FD P w K mg base cl 7 "limit_of" 2 M.limit_of := by
  refine fd_of (k := 6) (N := ["rule", "coming", "day"]) (ps := ["rule", "coming"]) (g := M.b_limit_of) F sc_limit_of (fun _ _ _ _ _ _ us hl => match us, hl with | [_, _], _ => rfl) (fun f cdv A outer s H E T hr tk hp => ?_)
  have hu := hr.units
  have hu65 := hu65_of hr
  have hu1 := hu_of hr
  have hN := sc_limit_of.nd
  exact (ss_cons (s_if (t_is (d_ix (d_var 0) d_int) d_non) (ss_one (s_ret (d_glob c_LAST_DAY))) ss_nil)
  (ss_cons (s_if (t_eq hu (d_ix (d_ix (d_var 0) d_int) d_int) d_str) (ss_one (s_ret (d_ix (d_ix (d_var 0) d_int) d_int))) ss_nil)
  (ss_cons (s_set 2 hN (d_meth (n := 2) (alls_cons (md_Once_Once_at_place.mono (by omega)) (alls_cons (md_Days_Days_at_place.mono (by omega)) (alls_cons (md_Weeks_Weeks_at_place.mono (by omega)) (alls_cons (md_Months_Months_at_place.mono (by omega)) (alls_cons (md_Dates_Months_at_place.mono (by omega)) (alls_cons (md_Weekdays_Months_at_place.mono (by omega)) alls_nil)))))) hr tk (d_var 1) (a_cons (d_sub (d_ix (d_ix (d_var 0) d_int) d_int) d_int) a_nil)))
  (ss_one (s_ret (d_if (t_is (d_var 2) d_non) (d_glob c_LAST_DAY) (d_min (a_cons (d_var 2) (a_cons (d_glob c_LAST_DAY) a_nil)) m_min)))))))
theorem sc_Days_begins : FnScope ["self", "stretch"] ["self", "stretch"] (defScope (inClass (topS 23) 2)) := ⟨rfl, rfl, rfl, by decide +kernel, rfl, by decide +kernel, by decide +kernel⟩
theorem md_Days_begins {c : Nat} (F : MtAt K (cl c) "begins" "Days.begins" (inClass (topS 23) 2)) (hC : Cls K (cl c)) (nf_first_1 : ∀ c ∈ [1], Cls K (cl c) ∧ NoAttr K (cl c) "first") (nf_step_1 : ∀ c ∈ [1], Cls K (cl c) ∧ NoAttr K (cl c) "step") : MD P w K mg base cl 1 c "begins" 2 M.Days_begins := by
  refine md_of (k := 0) (N := ["self", "stretch"]) (ps := ["self", "stretch"]) (g := M.b_Days_begins) F hC sc_Days_begins (fun _ _ _ _ _ _ us hl => match us, hl with | [_, _], _ => rfl) (fun f cdv A outer s H E T hr tk hp => ?_)
  have hu := hr.units
  have hu65 := hu65_of hr
  have hu1 := hu_of hr
  have hN := sc_Days_begins.nd
  exact (ss_one (s_ret (d_add (d_fld (d_var 0) nf_first_1) (d_mul (d_var 1) (d_fld (d_var 0) nf_step_1)))))
theorem cd_Days_begins {c : Nat} {x : Str} (F : CdAt K mg x (cl c) "begins" "Days.begins" (inClass (topS 23) 2)) (nf_first_1 : ∀ c ∈ [1], Cls K (cl c) ∧ NoAttr K (cl c) "first") (nf_step_1 : ∀ c ∈ [1], Cls K (cl c) ∧ NoAttr K (cl c) "step") : CD P w K mg base cl 1 c x "begins" 2 M.Days_begins := by
  refine cd_of (k := 0) (N := ["self", "stretch"]) (ps := ["self", "stretch"]) (g := M.b_Days_begins) F sc_Days_begins (fun _ _ _ _ _ _ us hl => match us, hl with | [_, _], _ => rfl) (fun f cdv A outer s H E T hr tk hp => ?_)
  have hu := hr.units
  have hu65 := hu65_of hr
  have hu1 := hu_of hr
  have hN := sc_Days_begins.nd
  exact (ss_one (s_ret (d_add (d_fld (d_var 0) nf_first_1) (d_mul (d_var 1) (d_fld (d_var 0) nf_step_1)))))
theorem sc_Days_days_in : FnScope ["self", "stretch"] ["self", "stretch"] (defScope (inClass (topS 23) 3)) := ⟨rfl, rfl, rfl, by decide +kernel, rfl, by decide +kernel, by decide +kernel⟩
theorem md_Days_days_in {c : Nat} (F : MtAt K (cl c) "days_in" "Days.days_in" (inClass (topS 23) 3)) (hC : Cls K (cl c)) (md_Days_Days_begins : MD P w K mg base cl 1 1 "begins" 2 M.Days_begins) : MD P w K mg base cl 2 c "days_in" 2 M.Days_days_in := by
  refine md_of (k := 1) (N := ["self", "stretch"]) (ps := ["self", "stretch"]) (g := M.b_Days_days_in) F hC sc_Days_days_in (fun _ _ _ _ _ _ us hl => match us, hl with | [_, _], _ => rfl) (fun f cdv A outer s H E T hr tk hp => ?_)
  have hu := hr.units
  have hu65 := hu65_of hr
  have hu1 := hu_of hr
  have hN := sc_Days_days_in.nd
  exact (ss_one (s_ret (d_frz (n_lst (a_cons (d_meth (n := 2) (alls_cons (md_Days_Days_begins.mono (by omega)) alls_nil) hr tk (d_var 0) (a_cons (d_var 1) a_nil)) a_nil)))))
theorem cd_Days_days_in {c : Nat} {x : Str} (F : CdAt K mg x (cl c) "days_in" "Days.days_in" (inClass (topS 23) 3)) (md_Days_Days_begins : MD P w K mg base cl 1 1 "begins" 2 M.Days_begins) : CD P w K mg base cl 2 c x "days_in" 2 M.Days_days_in := by
  refine cd_of (k := 1) (N := ["self", "stretch"]) (ps := ["self", "stretch"]) (g := M.b_Days_days_in) F sc_Days_days_in (fun _ _ _ _ _ _ us hl => match us, hl with | [_, _], _ => rfl) (fun f cdv A outer s H E T hr tk hp => ?_)
  have hu := hr.units
  have hu65 := hu65_of hr
  have hu1 := hu_of hr
  have hN := sc_Days_days_in.nd
  exact (ss_one (s_ret (d_frz (n_lst (a_cons (d_meth (n := 2) (alls_cons (md_Days_Days_begins.mono (by omega)) alls_nil) hr tk (d_var 0) (a_cons (d_var 1) a_nil)) a_nil)))))
theorem sc_Days_stretch_of : FnScope ["self", "day"] ["self", "day"] (defScope (inClass (topS 23) 1)) := ⟨rfl, rfl, rfl, by decide +kernel, rfl, by decide +kernel, by decide +kernel⟩
theorem md_Days_stretch_of {c : Nat} (F : MtAt K (cl c) "stretch_of" "Days.stretch_of" (inClass (topS 23) 1)) (hC : Cls K (cl c)) (m_max : mg "max" = none) (nf_first_1 : ∀ c ∈ [1], Cls K (cl c) ∧ NoAttr K (cl c) "first") (nf_step_1 : ∀ c ∈ [1], Cls K (cl c) ∧ NoAttr K (cl c) "step") : MD P w K mg base cl 1 c "stretch_of" 2 M.Days_stretch_of := by
  refine md_of (k := 0) (N := ["self", "day"]) (ps := ["self", "day"]) (g := M.b_Days_stretch_of) F hC sc_Days_stretch_of (fun _ _ _ _ _ _ us hl => match us, hl with | [_, _], _ => rfl) (fun f cdv A outer s H E T hr tk hp => ?_)
  have hu := hr.units
  have hu65 := hu65_of hr
  have hu1 := hu_of hr
  have hN := sc_Days_stretch_of.nd
  exact (ss_one (s_ret (d_max (a_cons d_int (a_cons (d_fdiv (d_sub (d_var 1) (d_fld (d_var 0) nf_first_1)) (d_fld (d_var 0) nf_step_1)) a_nil)) m_max)))
theorem cd_Days_stretch_of {c : Nat} {x : Str} (F : CdAt K mg x (cl c) "stretch_of" "Days.stretch_of" (inClass (topS 23) 1)) (m_max : mg "max" = none) (nf_first_1 : ∀ c ∈ [1], Cls K (cl c) ∧ NoAttr K (cl c) "first") (nf_step_1 : ∀ c ∈ [1], Cls K (cl c) ∧ NoAttr K (cl c) "step") : CD P w K mg base cl 1 c x "stretch_of" 2 M.Days_stretch_of := by
  refine cd_of (k := 0) (N := ["self", "day"]) (ps := ["self", "day"]) (g := M.b_Days_stretch_of) F sc_Days_stretch_of (fun _ _ _ _ _ _ us hl => match us, hl with | [_, _], _ => rfl) (fun f cdv A outer s H E T hr tk hp => ?_)
  have hu := hr.units
  have hu65 := hu65_of hr
  have hu1 := hu_of hr
  have hN := sc_Days_stretch_of.nd
  exact (ss_one (s_ret (d_max (a_cons d_int (a_cons (d_fdiv (d_sub (d_var 1) (d_fld (d_var 0) nf_first_1)) (d_fld (d_var 0) nf_step_1)) a_nil)) m_max)))
theorem sc_Months_stretch_of : FnScope ["self", "day"] ["self", "day"] (defScope (inClass (topS 25) 1)) := ⟨rfl, rfl, rfl, by decide +kernel, rfl, by decide +kernel, by decide +kernel⟩
theorem md_Months_stretch_of {c : Nat} (F : MtAt K (cl c) "stretch_of" "Months.stretch_of" (inClass (topS 25) 1)) (hC : Cls K (cl c)) (m_max : mg "max" = none) (nf_month_3_4_5 : ∀ c ∈ [3, 4, 5], Cls K (cl c) ∧ NoAttr K (cl c) "month") (nf_step_3_4_5 : ∀ c ∈ [3, 4, 5], Cls K (cl c) ∧ NoAttr K (cl c) "step") (h_month_of : FD P w K mg base cl 3 "month_of" 1 M.month_of) : MD P w K mg base cl 4 c "stretch_of" 2 M.Months_stretch_of := by
  refine md_of (k := 3) (N := ["self", "day"]) (ps := ["self", "day"]) (g := M.b_Months_stretch_of) F hC sc_Months_stretch_of (fun _ _ _ _ _ _ us hl => match us, hl with | [_, _], _ => rfl) (fun f cdv A outer s H E T hr tk hp => ?_)
  have hu := hr.units
  have hu65 := hu65_of hr
  have hu1 := hu_of hr
  have hN := sc_Months_stretch_of.nd
  exact (ss_one (s_ret (d_max (a_cons d_int (a_cons (d_fdiv (d_sub (d_call h_month_of hr tk (a_cons (d_var 1) a_nil)) (d_fld (d_var 0) nf_month_3_4_5)) (d_fld (d_var 0) nf_step_3_4_5)) a_nil)) m_max)))
theorem cd_Months_stretch_of {c : Nat} {x : Str} (F : CdAt K mg x (cl c) "stretch_of" "Months.stretch_of" (inClass (topS 25) 1)) (m_max : mg "max" = none) (nf_month_3_4_5 : ∀ c ∈ [3, 4, 5], Cls K (cl c) ∧ NoAttr K (cl c) "month") (nf_step_3_4_5 : ∀ c ∈ [3, 4, 5], Cls K (cl c) ∧ NoAttr K (cl c) "step") (h_month_of : FD P w K mg base cl 3 "month_of" 1 M.month_of) : CD P w K mg base cl 4 c x "stretch_of" 2 M.Months_stretch_of := by
  refine cd_of (k := 3) (N := ["self", "day"]) (ps := ["self", "day"]) (g := M.b_Months_stretch_of) F sc_Months_stretch_of (fun _ _ _ _ _ _ us hl => match us, hl with | [_, _], _ => rfl) (fun f cdv A outer s H E T hr tk hp => ?_)
  have hu := hr.units
  have hu65 := hu65_of hr
  have hu1 := hu_of hr
  have hN := sc_Months_stretch_of.nd
  exact (ss_one (s_ret (d_max (a_cons d_int (a_cons (d_fdiv (d_sub (d_call h_month_of hr tk (a_cons (d_var 1) a_nil)) (d_fld (d_var 0) nf_month_3_4_5)) (d_fld (d_var 0) nf_step_3_4_5)) a_nil)) m_max)))
theorem sc_Once_begins : FnScope ["self", "stretch"] ["self", "stretch"] (defScope (inClass (topS 22) 2)) := ⟨rfl, rfl, rfl, by decide +kernel, rfl, by decide +kernel, by decide +kernel⟩
theorem md_Once_begins {c : Nat} (F : MtAt K (cl c) "begins" "Once.begins" (inClass (topS 22) 2)) (hC : Cls K (cl c)) (nf_first_0_1_2_3_4_5 : ∀ c ∈ [0, 1, 2, 3, 4, 5], Cls K (cl c) ∧ NoAttr K (cl c) "first") (c_LAST_DAY : GConst K mg cl "LAST_DAY" k_LAST_DAY) : MD P w K mg base cl 1 c "begins" 2 M.Once_begins := by
  refine md_of (k := 0) (N := ["self", "stretch"]) (ps := ["self", "stretch"]) (g := M.b_Once_begins) F hC sc_Once_begins (fun _ _ _ _ _ _ us hl => match us, hl with | [_, _], _ => rfl) (fun f cdv A outer s H E T hr tk hp => ?_)
  have hu := hr.units
  have hu65 := hu65_of hr
  have hu1 := hu_of hr
  have hN := sc_Once_begins.nd
  exact (ss_one (s_ret (d_add (d_fld (d_var 0) nf_first_0_1_2_3_4_5) (d_mul (d_var 1) (d_glob c_LAST_DAY)))))
theorem cd_Once_begins {c : Nat} {x : Str} (F : CdAt K mg x (cl c) "begins" "Once.begins" (inClass (topS 22) 2)) (nf_first_0_1_2_3_4_5 : ∀ c ∈ [0, 1, 2, 3, 4, 5], Cls K (cl c) ∧ NoAttr K (cl c) "first") (c_LAST_DAY : GConst K mg cl "LAST_DAY" k_LAST_DAY) : CD P w K mg base cl 1 c x "begins" 2 M.Once_begins := by
  refine cd_of (k := 0) (N := ["self", "stretch"]) (ps := ["self", "stretch"]) (g := M.b_Once_begins) F sc_Once_begins (fun _ _ _ _ _ _ us hl => match us, hl with | [_, _], _ => rfl) (fun f cdv A outer s H E T hr tk hp => ?_)
  have hu := hr.units
  have hu65 := hu65_of hr
  have hu1 := hu_of hr
  have hN := sc_Once_begins.nd
  exact (ss_one (s_ret (d_add (d_fld (d_var 0) nf_first_0_1_2_3_4_5) (d_mul (d_var 1) (d_glob c_LAST_DAY)))))
theorem sc_Once_days_in : FnScope ["self", "stretch"] ["self", "stretch"] (defScope (inClass (topS 22) 3)) := ⟨rfl, rfl, rfl, by decide +kernel, rfl, by decide +kernel, by decide +kernel⟩
theorem md_Once_days_in {c : Nat} (F : MtAt K (cl c) "days_in" "Once.days_in" (inClass (topS 22) 3)) (hC : Cls K (cl c)) (nf_first_0_1_2_3_4_5 : ∀ c ∈ [0, 1, 2, 3, 4, 5], Cls K (cl c) ∧ NoAttr K (cl c) "first") : MD P w K mg base cl 1 c "days_in" 2 M.Once_days_in := by
  refine md_of (k := 0) (N := ["self", "stretch"]) (ps := ["self", "stretch"]) (g := M.b_Once_days_in) F hC sc_Once_days_in (fun _ _ _ _ _ _ us hl => match us, hl with | [_, _], _ => rfl) (fun f cdv A outer s H E T hr tk hp => ?_)
  have hu := hr.units
  have hu65 := hu65_of hr
  have hu1 := hu_of hr
  have hN := sc_Once_days_in.nd
  exact (ss_one (s_ret (d_if (t_eq hu (d_var 1) d_int) (d_frz (n_lst (a_cons (d_fld (d_var 0) nf_first_0_1_2_3_4_5) a_nil))) (d_frz (n_lst a_nil)))))
theorem cd_Once_days_in {c : Nat} {x : Str} (F : CdAt K mg x (cl c) "days_in" "Once.days_in" (inClass (topS 22) 3)) (nf_first_0_1_2_3_4_5 : ∀ c ∈ [0, 1, 2, 3, 4, 5], Cls K (cl c) ∧ NoAttr K (cl c) "first") : CD P w K mg base cl 1 c x "days_in" 2 M.Once_days_in := by
  refine cd_of (k := 0) (N := ["self", "stretch"]) (ps := ["self", "stretch"]) (g := M.b_Once_days_in) F sc_Once_days_in (fun _ _ _ _ _ _ us hl => match us, hl with | [_, _], _ => rfl) (fun f cdv A outer s H E T hr tk hp => ?_)
  have hu := hr.units
  have hu65 := hu65_of hr
  have hu1 := hu_of hr
  have hN := sc_Once_days_in.nd
  exact (ss_one (s_ret (d_if (t_eq hu (d_var 1) d_int) (d_frz (n_lst (a_cons (d_fld (d_var 0) nf_first_0_1_2_3_4_5) a_nil))) (d_frz (n_lst a_nil)))))
theorem sc_Once_stretch_of : FnScope ["self", "day"] ["self", "day"] (defScope (inClass (topS 22) 1)) := ⟨rfl, rfl, rfl, by decide +kernel, rfl, by decide +kernel, by decide +kernel⟩
theorem md_Once_stretch_of {c : Nat} (F : MtAt K (cl c) "stretch_of" "Once.stretch_of" (inClass (topS 22) 1)) (hC : Cls K (cl c))  : MD P w K mg base cl 1 c "stretch_of" 2 M.Once_stretch_of := by
  refine md_of (k := 0) (N := ["self", "day"]) (ps := ["self", "day"]) (g := M.b_Once_stretch_of) F hC sc_Once_stretch_of (fun _ _ _ _ _ _ us hl => match us, hl with | [_, _], _ => rfl) (fun f cdv A outer s H E T hr tk hp => ?_)
  have hu := hr.units
  have hu65 := hu65_of hr
  have hu1 := hu_of hr
  have hN := sc_Once_stretch_of.nd
  exact (ss_one (s_ret d_int))
theorem cd_Once_stretch_of {c : Nat} {x : Str} (F : CdAt K mg x (cl c) "stretch_of" "Once.stretch_of" (inClass (topS 22) 1))  : CD P w K mg base cl 1 c x "stretch_of" 2 M.Once_stretch_of := by
  refine cd_of (k := 0) (N := ["self", "day"]) (ps := ["self", "day"]) (g := M.b_Once_stretch_of) F sc_Once_stretch_of (fun _ _ _ _ _ _ us hl => match us, hl with | [_, _], _ => rfl) (fun f cdv A outer s H E T hr tk hp => ?_)
  have hu := hr.units
  have hu65 := hu65_of hr
  have hu1 := hu_of hr
  have hN := sc_Once_stretch_of.nd
  exact (ss_one (s_ret d_int))
theorem sc_Weeks_days_in : FnScope ["self", "stretch", "some", "one", "day"] ["self", "stretch"] (defScope (inClass (topS 24) 3)) := ⟨rfl, rfl, rfl, by decide +kernel, rfl, by decide +kernel, by decide +kernel⟩
theorem md_Weeks_days_in {c : Nat} (F : MtAt K (cl c) "days_in" "Weeks.days_in" (inClass (topS 24) 3)) (hC : Cls K (cl c)) (nf_weekdays_2 : ∀ c ∈ [2], Cls K (cl c) ∧ NoAttr K (cl c) "weekdays") (nf_first_2 : ∀ c ∈ [2], Cls K (cl c) ∧ NoAttr K (cl c) "first") (md_Weeks_Weeks_begins : MD P w K mg base cl 1 2 "begins" 2 M.Weeks_begins) : MD P w K mg base cl 2 c "days_in" 2 M.Weeks_days_in := by
  refine md_of (k := 1) (N := ["self", "stretch", "some", "one", "day"]) (ps := ["self", "stretch"]) (g := M.b_Weeks_days_in) F hC sc_Weeks_days_in (fun _ _ _ _ _ _ us hl => match us, hl with | [_, _], _ => rfl) (fun f cdv A outer s H E T hr tk hp => ?_)
  have hu := hr.units
  have hu65 := hu65_of hr
  have hu1 := hu_of hr
  have hN := sc_Weeks_days_in.nd
  exact (ss_cons (s_setLc (own := [("one", 3)]) 2 hN (i_seq (d_fld (d_var 0) nf_weekdays_2)) (by show blkC ["self", "stretch", "some", "one", "day"] (defScope (inClass (topS 24) 3)) _ _ = true; decide +kernel) (fun _ _ _ _ _ => (g_name 3 hN)) (fun _ _ _ _ _ => p_nil) (fun _ _ _ _ _ => (d_add (d_meth (n := 2) (alls_cons (md_Weeks_Weeks_begins.mono (by omega)) alls_nil) hr takes0 (d_var 0) (a_cons (d_var 1) a_nil)) (d_var 3))))
  (ss_one (s_ret (d_frz (n_lc (own := [("day", 4)]) hN (i_seq (d_var 2)) (by show blkC ["self", "stretch", "some", "one", "day"] (defScope (inClass (topS 24) 3)) _ _ = true; decide +kernel) (fun _ _ _ _ _ => (g_name 4 hN)) (fun _ _ _ _ _ => (p_one (t_ge (d_var 4) (d_fld (d_var 0) nf_first_2)))) (fun _ _ _ _ _ => (d_var 4)))))))
theorem cd_Weeks_days_in {c : Nat} {x : Str} (F : CdAt K mg x (cl c) "days_in" "Weeks.days_in" (inClass (topS 24) 3)) (nf_weekdays_2 : ∀ c ∈ [2], Cls K (cl c) ∧ NoAttr K (cl c) "weekdays") (nf_first_2 : ∀ c ∈ [2], Cls K (cl c) ∧ NoAttr K (cl c) "first") (md_Weeks_Weeks_begins : MD P w K mg base cl 1 2 "begins" 2 M.Weeks_begins) : CD P w K mg base cl 2 c x "days_in" 2 M.Weeks_days_in := by
  refine cd_of (k := 1) (N := ["self", "stretch", "some", "one", "day"]) (ps := ["self", "stretch"]) (g := M.b_Weeks_days_in) F sc_Weeks_days_in (fun _ _ _ _ _ _ us hl => match us, hl with | [_, _], _ => rfl) (fun f cdv A outer s H E T hr tk hp => ?_)
  have hu := hr.units
  have hu65 := hu65_of hr
  have hu1 := hu_of hr
  have hN := sc_Weeks_days_in.nd
  exact (ss_cons (s_setLc (own := [("one", 3)]) 2 hN (i_seq (d_fld (d_var 0) nf_weekdays_2)) (by show blkC ["self", "stretch", "some", "one", "day"] (defScope (inClass (topS 24) 3)) _ _ = true; decide +kernel) (fun _ _ _ _ _ => (g_name 3 hN)) (fun _ _ _ _ _ => p_nil) (fun _ _ _ _ _ => (d_add (d_meth (n := 2) (alls_cons (md_Weeks_Weeks_begins.mono (by omega)) alls_nil) hr takes0 (d_var 0) (a_cons (d_var 1) a_nil)) (d_var 3))))
  (ss_one (s_ret (d_frz (n_lc (own := [("day", 4)]) hN (i_seq (d_var 2)) (by show blkC ["self", "stretch", "some", "one", "day"] (defScope (inClass (topS 24) 3)) _ _ = true; decide +kernel) (fun _ _ _ _ _ => (g_name 4 hN)) (fun _ _ _ _ _ => (p_one (t_ge (d_var 4) (d_fld (d_var 0) nf_first_2)))) (fun _ _ _ _ _ => (d_var 4)))))))
theorem sc_Weeks_stretch_of : FnScope ["self", "day"] ["self", "day"] (defScope (inClass (topS 24) 1)) := ⟨rfl, rfl, rfl, by decide +kernel, rfl, by decide +kernel, by decide +kernel⟩
theorem md_Weeks_stretch_of {c : Nat} (F : MtAt K (cl c) "stretch_of" "Weeks.stretch_of" (inClass (topS 24) 1)) (hC : Cls K (cl c)) (m_max : mg "max" = none) (nf_monday_2 : ∀ c ∈ [2], Cls K (cl c) ∧ NoAttr K (cl c) "monday") (nf_step_2 : ∀ c ∈ [2], Cls K (cl c) ∧ NoAttr K (cl c) "step") : MD P w K mg base cl 1 c "stretch_of" 2 M.Weeks_stretch_of := by
  refine md_of (k := 0) (N := ["self", "day"]) (ps := ["self", "day"]) (g := M.b_Weeks_stretch_of) F hC sc_Weeks_stretch_of (fun _ _ _ _ _ _ us hl => match us, hl with | [_, _], _ => rfl) (fun f cdv A outer s H E T hr tk hp => ?_)
  have hu := hr.units
  have hu65 := hu65_of hr
  have hu1 := hu_of hr
  have hN := sc_Weeks_stretch_of.nd
  exact (ss_one (s_ret (d_max (a_cons d_int (a_cons (d_fdiv (d_sub (d_var 1) (d_fld (d_var 0) nf_monday_2)) (d_fld (d_var 0) nf_step_2)) a_nil)) m_max)))
theorem cd_Weeks_stretch_of {c : Nat} {x : Str} (F : CdAt K mg x (cl c) "stretch_of" "Weeks.stretch_of" (inClass (topS 24) 1)) (m_max : mg "max" = none) (nf_monday_2 : ∀ c ∈ [2], Cls K (cl c) ∧ NoAttr K (cl c) "monday") (nf_step_2 : ∀ c ∈ [2], Cls K (cl c) ∧ NoAttr K (cl c) "step") : CD P w K mg base cl 1 c x "stretch_of" 2 M.Weeks_stretch_of := by
  refine cd_of (k := 0) (N := ["self", "day"]) (ps := ["self", "day"]) (g := M.b_Weeks_stretch_of) F sc_Weeks_stretch_of (fun _ _ _ _ _ _ us hl => match us, hl with | [_, _], _ => rfl) (fun f cdv A outer s H E T hr tk hp => ?_)
  have hu := hr.units
  have hu65 := hu65_of hr
  have hu1 := hu_of hr
  have hN := sc_Weeks_stretch_of.nd
  exact (ss_one (s_ret (d_max (a_cons d_int (a_cons (d_fdiv (d_sub (d_var 1) (d_fld (d_var 0) nf_monday_2)) (d_fld (d_var 0) nf_step_2)) a_nil)) m_max)))
theorem sc_days_of : FnScope ["rule", "low", "high", "coming", "beyond", "stretch", "found", "day"] ["rule", "low", "high"] (defScope (topS 30)) := ⟨rfl, rfl, rfl, by decide +kernel, rfl, by decide +kernel, by decide +kernel⟩
theorem fd_days_of (F : FnAt K mg "days_of" (topS 30)) (m_min : mg "min" = none) (md_Dates_Months_begins : MD P w K mg base cl 4 4 "begins" 2 M.Months_begins) (md_Dates_Months_days_in : MD P w K mg base cl 5 4 "days_in" 2 M.Months_days_in) (md_Dates_Months_stretch_of : MD P w K mg base cl 4 4 "stretch_of" 2 M.Months_stretch_of) (md_Days_Days_begins : MD P w K mg base cl 1 1 "begins" 2 M.Days_begins) (md_Days_Days_days_in : MD P w K mg base cl 2 1 "days_in" 2 M.Days_days_in) (md_Days_Days_stretch_of : MD P w K mg base cl 1 1 "stretch_of" 2 M.Days_stretch_of) (md_Months_Months_begins : MD P w K mg base cl 4 3 "begins" 2 M.Months_begins) (md_Months_Months_days_in : MD P w K mg base cl 5 3 "days_in" 2 M.Months_days_in) (md_Months_Months_stretch_of : MD P w K mg base cl 4 3 "stretch_of" 2 M.Months_stretch_of) (md_Once_Once_begins : MD P w K mg base cl 1 0 "begins" 2 M.Once_begins) (md_Once_Once_days_in : MD P w K mg base cl 1 0 "days_in" 2 M.Once_days_in) (md_Once_Once_stretch_of : MD P w K mg base cl 1 0 "stretch_of" 2 M.Once_stretch_of) (md_Weekdays_Months_begins : MD P w K mg base cl 4 5 "begins" 2 M.Months_begins) (md_Weekdays_Months_days_in : MD P w K mg base cl 5 5 "days_in" 2 M.Months_days_in) (md_Weekdays_Months_stretch_of : MD P w K mg base cl 4 5 "stretch_of" 2 M.Months_stretch_of) (md_Weeks_Weeks_begins : MD P w K mg base cl 1 2 "begins" 2 M.Weeks_begins) (md_Weeks_Weeks_days_in : MD P w K mg base cl 2 2 "days_in" 2 M.Weeks_days_in) (md_Weeks_Weeks_stretch_of : MD P w K mg base cl 1 2 "stretch_of" 2 M.Weeks_stretch_of) (h_coming_of : FD P w K mg base cl 7 "coming_of" 1 M.coming_of) (h_limit_of : FD P w K mg base cl 7 "limit_of" 2 M.limit_of) : FDN P w K mg base cl 8 "days_of" 3 M.days_of := by
  refine fdN_of (k := 7) (N := ["rule", "low", "high", "coming", "beyond", "stretch", "found", "day"]) (ps := ["rule", "low", "high"]) (g := M.b_days_of) F sc_days_of (fun _ _ _ _ _ _ us hl => match us, hl with | [_, _, _], _ => rfl) (fun f cdv A outer s H E T hr tk hp => ?_)
  have hu := hr.units
  have hu65 := hu65_of hr
  have hu1 := hu_of hr
  have hN := sc_days_of.nd
  exact (ss_cons (s_set 3 hN (d_call h_coming_of hr tk (a_cons (d_var 0) a_nil)))
  (ss_cons (s_set 4 hN (d_min (a_cons (d_var 2) (a_cons (d_call h_limit_of hr tk (a_cons (d_var 0) (a_cons (d_var 3) a_nil))) a_nil)) m_min))
  (ss_cons (s_set 5 hN (d_meth (n := 2) (alls_cons (md_Once_Once_stretch_of.mono (by omega)) (alls_cons (md_Days_Days_stretch_of.mono (by omega)) (alls_cons (md_Weeks_Weeks_stretch_of.mono (by omega)) (alls_cons (md_Months_Months_stretch_of.mono (by omega)) (alls_cons (md_Dates_Months_stretch_of.mono (by omega)) (alls_cons (md_Weekdays_Months_stretch_of.mono (by omega)) alls_nil)))))) hr tk (d_var 3) (a_cons (d_var 1) a_nil)))
  (ss_cons (s_own 6 hN (n_lst a_nil))
  (ss_cons (s_while fuel hp (t_le (d_meth (n := 2) (alls_cons (md_Once_Once_begins.mono (by omega)) (alls_cons (md_Days_Days_begins.mono (by omega)) (alls_cons (md_Weeks_Weeks_begins.mono (by omega)) (alls_cons (md_Months_Months_begins.mono (by omega)) (alls_cons (md_Dates_Months_begins.mono (by omega)) (alls_cons (md_Weekdays_Months_begins.mono (by omega)) alls_nil)))))) hr tk (d_var 3) (a_cons (d_var 5) a_nil)) (d_var 4)) (ss_cons (s_ext 6 (d_frz (n_lc (own := [("day", 7)]) hN (i_seq (d_meth (n := 2) (alls_cons (md_Once_Once_days_in.mono (by omega)) (alls_cons (md_Days_Days_days_in.mono (by omega)) (alls_cons (md_Weeks_Weeks_days_in.mono (by omega)) (alls_cons (md_Months_Months_days_in.mono (by omega)) (alls_cons (md_Dates_Months_days_in.mono (by omega)) (alls_cons (md_Weekdays_Months_days_in.mono (by omega)) alls_nil)))))) hr tk (d_var 3) (a_cons (d_var 5) a_nil))) (by show blkC ["rule", "low", "high", "coming", "beyond", "stretch", "found", "day"] (defScope (topS 30)) _ _ = true; decide +kernel) (fun _ _ _ _ _ => (g_name 7 hN)) (fun _ _ _ _ _ => (p_one (t_lele (d_var 1) (d_var 7) (d_var 4)))) (fun _ _ _ _ _ => (d_var 7)))))
  (ss_one (s_set 5 hN (d_add (d_var 5) d_int)))))
  (ss_one (s_retO 6)))))))
theorem sc_bare : FnScope ["rule", "place", "day"] ["rule", "place", "day"] (defScope (topS 32)) := ⟨rfl, rfl, rfl, by decide +kernel, rfl, by decide +kernel, by decide +kernel⟩
theorem fd_bare (F : FnAt K mg "bare" (topS 32)) : FD P w K mg base cl 1 "bare" 3 M.bare := by
  refine fd_of (k := 0) (N := ["rule", "place", "day"]) (ps := ["rule", "place", "day"]) (g := M.b_bare) F sc_bare (fun _ _ _ _ _ _ us hl => match us, hl with | [_, _, _], _ => rfl) (fun f cdv A outer s H E T hr tk hp => ?_)
  have hu := hr.units
  have hu65 := hu65_of hr
  have hu1 := hu_of hr
  have hN := sc_bare.nd
  exact (ss_one (s_ret (d_tup (a_cons d_str (a_cons (d_var 2) (a_cons (d_ix (d_var 0) d_int) (a_cons (d_ix (d_var 0) d_int) (a_cons (d_var 1) a_nil))))))))
theorem sc_told_by : FnScope ["telling", "day", "clock", "rule", "place", "changes", "found", "other", "change"] ["telling", "day"] (defScope (topS 33)) := ⟨rfl, rfl, rfl, by decide +kernel, rfl, by decide +kernel, by decide +kernel⟩
theorem fd_told_by (F : FnAt K mg "told_by" (topS 33)) (h_bare : FD P w K mg base cl 1 "bare" 3 M.bare) : FD P w K mg base cl 2 "told_by" 2 M.told_by := by
  refine fd_of (k := 1) (N := ["telling", "day", "clock", "rule", "place", "changes", "found", "other", "change"]) (ps := ["telling", "day"]) (g := M.b_told_by) F sc_told_by (fun _ _ _ _ _ _ us hl => match us, hl with | [_, _], _ => rfl) (fun f cdv A outer s H E T hr tk hp => ?_)
  have hu := hr.units
  have hu65 := hu65_of hr
  have hu1 := hu_of hr
  have hN := sc_told_by.nd
  exact (ss_cons (s_tg (d_var 0) (g_tup (gs_cons (g_name 2 hN) (gs_cons (g_name 3 hN) (gs_cons (g_name 4 hN) (gs_cons (g_name 5 hN) gs_nil))))))
  (ss_cons (s_set 6 hN (d_call h_bare hr tk (a_cons (d_var 3) (a_cons (d_var 4) (a_cons (d_var 1) a_nil)))))
  (ss_cons (s_for hp (i_seq (d_var 5)) (g_tup (gs_cons (g_name 7 hN) (gs_cons (g_name 8 hN) gs_nil))) fun _ => (ss_one (s_if (t_eq hu (d_var 7) (d_var 1)) (ss_one (s_set 6 hN (d_var 8))) ss_nil)))
  (ss_one (s_ret (d_if (t_eq hu (d_ix (d_var 6) d_int) d_str) d_non (d_sl (d_var 6) (o_some d_int) o_none)))))))
theorem sc_meetings : FnScope ["telling", "low", "high", "found", "day", "one"] ["telling", "low", "high"] (defScope (topS 34)) := ⟨rfl, rfl, rfl, by decide +kernel, rfl, by decide +kernel, by decide +kernel⟩
theorem fd_meetings (F : FnAt K mg "meetings" (topS 34)) (h_days_of : FDN P w K mg base cl 8 "days_of" 3 M.days_of) (h_told_by : FD P w K mg base cl 2 "told_by" 2 M.told_by) : FDN P w K mg base cl 9 "meetings" 3 M.meetings := by
  refine fdN_of (k := 8) (N := ["telling", "low", "high", "found", "day", "one"]) (ps := ["telling", "low", "high"]) (g := M.b_meetings) F sc_meetings (fun _ _ _ _ _ _ us hl => match us, hl with | [_, _, _], _ => rfl) (fun f cdv A outer s H E T hr tk hp => ?_)
  have hu := hr.units
  have hu65 := hu65_of hr
  have hu1 := hu_of hr
  have hN := sc_meetings.nd
  exact (ss_cons (s_setLc (own := [("day", 4)]) 3 hN (i_seq (d_frz (n_fn h_days_of hr tk (a_cons (d_ix (d_var 0) d_int) (a_cons (d_var 1) (a_cons (d_var 2) a_nil)))))) (by show blkC ["telling", "low", "high", "found", "day", "one"] (defScope (topS 34)) _ _ = true; decide +kernel) (fun _ _ _ _ _ => (g_name 4 hN)) (fun _ _ _ _ _ => p_nil) (fun _ _ _ _ _ => (d_tup (a_cons (d_var 4) (a_cons (d_call h_told_by hr takes0 (a_cons (d_var 0) (a_cons (d_var 4) a_nil))) a_nil)))))
  (ss_one (s_retL (n_lc (own := [("one", 5)]) hN (i_seq (d_var 3)) (by show blkC ["telling", "low", "high", "found", "day", "one"] (defScope (topS 34)) _ _ = true; decide +kernel) (fun _ _ _ _ _ => (g_name 5 hN)) (fun _ _ _ _ _ => (p_one (t_isnot (d_ix (d_var 5) d_int) d_non))) (fun _ _ _ _ _ => (d_var 5))))))
theorem sc_moments : FnScope ["telling", "low", "high", "found", "day", "there", "minute", "length", "place"] ["telling", "low", "high"] (defScope (topS 35)) := ⟨rfl, rfl, rfl, by decide +kernel, rfl, by decide +kernel, by decide +kernel⟩
theorem fd_moments (F : FnAt K mg "moments" (topS 35)) (c_DAY_MINUTES : GConst K mg cl "DAY_MINUTES" k_DAY_MINUTES) (m_sorted : mg "sorted" = none) (h_meetings : FDN P w K mg base cl 9 "meetings" 3 M.meetings) (h_moment_of : FD P w K mg base cl 4 "moment_of" 2 M.moment_of) : FDN P w K mg base cl 10 "moments" 3 M.moments := by
  refine fdN_of (k := 9) (N := ["telling", "low", "high", "found", "day", "there", "minute", "length", "place"]) (ps := ["telling", "low", "high"]) (g := M.b_moments) F sc_moments (fun _ _ _ _ _ _ us hl => match us, hl with | [_, _, _], _ => rfl) (fun f cdv A outer s H E T hr tk hp => ?_)
  have hu := hr.units
  have hu65 := hu65_of hr
  have hu1 := hu_of hr
  have hN := sc_moments.nd
  exact (ss_cons (s_own 3 hN (n_lst a_nil))
  (ss_cons (s_for hp (i_seq (d_frz (n_fn h_meetings hr tk (a_cons (d_var 0) (a_cons (d_var 1) (a_cons (d_var 2) a_nil)))))) (g_tup (gs_cons (g_name 4 hN) (gs_cons (g_tup (gs_cons (g_name 5 hN) (gs_cons (g_name 6 hN) (gs_cons (g_name 7 hN) (gs_cons (g_name 8 hN) gs_nil))))) gs_nil))) fun _ => (ss_one (s_app 3 (d_tup (a_cons (d_call h_moment_of hr tk (a_cons (d_ix (d_var 0) d_int) (a_cons (d_add (d_mul (d_glob c_DAY_MINUTES) (d_var 5)) (d_var 6)) a_nil))) (a_cons (d_var 7) (a_cons (d_var 8) (a_cons (d_var 4) a_nil))))))))
  (ss_one (s_retL (n_sorted (a_cons (d_own 3) a_nil) hu m_sorted)))))
theorem sc_law_tape : FnScope ["_law_script"] ["_law_script"] (defScope (topS 37)) := ⟨rfl, rfl, rfl, by decide +kernel, rfl, by decide +kernel, by decide +kernel⟩
theorem fd_law_tape (F : FnAt K mg "_law_tape" (topS 37)) : FD P w K mg base cl 1 "_law_tape" 1 M.law_tape := by
  refine fd_of (k := 0) (N := ["_law_script"]) (ps := ["_law_script"]) (g := M.b_law_tape) F sc_law_tape (fun _ _ _ _ _ _ us hl => match us, hl with | [_], _ => rfl) (fun f cdv A outer s H E T hr tk hp => ?_)
  have hu := hr.units
  have hu65 := hu65_of hr
  have hu1 := hu_of hr
  have hN := sc_law_tape.nd
  exact (ss_one (s_ret (d_dict (PpD.cons d_str (d_sl (d_var 0) o_none (o_some d_int)) (PpD.cons d_str d_int (PpD.cons d_str d_int PpD.nil))))))
theorem sc_law_draw : FnScope ["_law_tape_here", "_law_many", "_law_spot", "_law_cells", "_law_cell", "_law_primes", "_law_prime", "_law_seed", "_law_found"] ["_law_tape_here", "_law_many"] (defScope (topS 38)) := ⟨rfl, rfl, rfl, by decide +kernel, rfl, by decide +kernel, by decide +kernel⟩
theorem fd_law_draw (F : FnAt K mg "_law_draw" (topS 38)) (m_len : mg "len" = none) : ∀ k, FD P w K mg base cl (0 + k) "_law_draw" 2 (M.law_draw k)
  | 0 => fd_bad (ps := ["_law_tape_here", "_law_many"]) F (fun _ _ _ _ _ _ us hl => match us, hl with | [_, _], _ => rfl)
  | k + 1 => by
    have h_law_draw : FD P w K mg base cl (0 + k) "_law_draw" 2 (M.law_draw k) := fd_law_draw F m_len k
    refine fd_of (k := 0 + k) (N := ["_law_tape_here", "_law_many", "_law_spot", "_law_cells", "_law_cell", "_law_primes", "_law_prime", "_law_seed", "_law_found"]) (ps := ["_law_tape_here", "_law_many"]) (g := M.b_law_draw (M.law_draw k)) F sc_law_draw (fun _ _ _ _ _ _ us hl => match us, hl with | [_, _], _ => rfl) (fun f cdv A outer s H E T hr tk hp => ?_)
    have hu := hr.units
    have hu65 := hu65_of hr
    have hu1 := hu_of hr
    have hN := sc_law_draw.nd
    exact (ss_cons (s_if (t_gt (d_get hu1 (d_var 0) d_str) d_int) (ss_cons (s_set 8 hN (d_mod (d_get hu1 (d_var 0) d_str) (d_var 1)))
  (ss_cons (s_put hu1 (d_var 0) d_str (d_fdiv (d_get hu1 (d_var 0) d_str) (d_var 1)))
  (ss_one (s_ret (d_var 8))))) ss_nil)
  (ss_cons (s_set 2 hN (d_get hu1 (d_var 0) d_str))
  (ss_cons (s_put hu1 (d_var 0) d_str (d_add (d_var 2) d_int))
  (ss_cons (s_set 3 hN (d_or (d_get hu1 (d_var 0) d_str) (d_one (d_frz (n_lst (a_cons d_int a_nil))))))
  (ss_cons (s_set 4 hN (d_ix (d_var 3) (d_mod (d_var 2) (d_len (a_cons (d_var 3) a_nil) m_len))))
  (ss_cons (s_if (t_of (w_and (t_ge (d_var 4) (d_pow d_int d_int)) (w_and1 (t_lt (d_var 2) (d_len (a_cons (d_var 3) a_nil) m_len))))) (ss_cons (s_put hu1 (d_var 0) d_str (d_fdiv (d_sub (d_var 4) (d_pow d_int d_int)) (d_var 1)))
  (ss_one (s_ret (d_mod (d_sub (d_var 4) (d_pow d_int d_int)) (d_var 1))))) ss_nil)
  (ss_cons (s_set 5 hN (d_frz (n_lst (a_cons d_int (a_cons d_int (a_cons d_int (a_cons d_int (a_cons d_int (a_cons d_int (a_cons d_int a_nil))))))))))
  (ss_cons (s_set 6 hN (d_ix (d_var 5) (d_mod (d_var 2) d_int)))
  (ss_cons (s_set 7 hN (d_mod (d_add (d_add (d_add (d_mul (d_mod (d_var 4) (d_var 6)) d_int) (d_mul (d_mul d_int (d_var 2)) (d_var 2))) (d_mul d_int (d_var 2))) d_int) (d_var 6)))
  (ss_cons (s_set 7 hN (d_mod (d_mul (d_var 7) (d_add (d_var 7) d_int)) (d_ix (d_var 5) (d_mod (d_add (d_var 2) d_int) d_int))))
  (ss_cons (s_set 8 hN (d_fdiv (d_mod (d_mul (d_var 7) (d_var 7)) (d_var 6)) d_int))
  (ss_cons (s_if (t_gt (d_var 1) (d_pow d_int d_int)) (ss_one (s_set 8 hN (d_add (d_mod (d_var 8) (d_pow d_int d_int)) (d_mul (d_pow d_int d_int) (d_call h_law_draw hr tk (a_cons (d_var 0) (a_cons (d_add (d_fdiv (d_var 1) (d_pow d_int d_int)) d_int) a_nil))))))) ss_nil)
  (ss_one (s_ret (d_mod (d_var 8) (d_var 1))))))))))))))))
theorem sc_law_offset : FnScope ["_law_tape_here", "_law_some"] ["_law_tape_here"] (defScope (topS 40)) := ⟨rfl, rfl, rfl, by decide +kernel, rfl, by decide +kernel, by decide +kernel⟩
theorem fd_law_offset (F : FnAt K mg "_law_offset" (topS 40)) (h_law_draw : FD P w K mg base cl 20 "_law_draw" 2 (M.law_draw 20)) : FD P w K mg base cl 21 "_law_offset" 1 M.law_offset := by
  refine fd_of (k := 20) (N := ["_law_tape_here", "_law_some"]) (ps := ["_law_tape_here"]) (g := M.b_law_offset) F sc_law_offset (fun _ _ _ _ _ _ us hl => match us, hl with | [_], _ => rfl) (fun f cdv A outer s H E T hr tk hp => ?_)
  have hu := hr.units
  have hu65 := hu65_of hr
  have hu1 := hu_of hr
  have hN := sc_law_offset.nd
  exact (ss_cons (s_set 1 hN (d_frz (n_lst (a_cons (d_mul d_int (d_sub (d_call h_law_draw hr tk (a_cons (d_var 0) (a_cons d_int a_nil))) d_int)) (a_cons (d_sub (d_call h_law_draw hr tk (a_cons (d_var 0) (a_cons d_int a_nil))) d_int) (a_cons d_int (a_cons (d_neg d_int) (a_cons d_int (a_cons d_int (a_cons d_int (a_cons d_int a_nil)))))))))))
  (ss_one (s_ret (d_ix (d_var 1) (d_call h_law_draw hr tk (a_cons (d_var 0) (a_cons d_int a_nil)))))))
theorem sc_law_clock : FnScope ["_law_tape_here", "_law_most", "_law_turns", "_law_moment", "_law_near", "_law_k", "_law_step"] ["_law_tape_here", "_law_most"] (defScope (topS 39)) := ⟨rfl, rfl, rfl, by decide +kernel, rfl, by decide +kernel, by decide +kernel⟩
theorem fd_law_clock (F : FnAt K mg "_law_clock" (topS 39)) (m_range : mg "range" = none) (m_tuple : mg "tuple" = none) (h_law_draw : FD P w K mg base cl 20 "_law_draw" 2 (M.law_draw 20)) (h_law_offset : FD P w K mg base cl 21 "_law_offset" 1 M.law_offset) : FD P w K mg base cl 22 "_law_clock" 2 M.law_clock_v3 := by
  refine fd_of (k := 21) (N := ["_law_tape_here", "_law_most", "_law_turns", "_law_moment", "_law_near", "_law_k", "_law_step"]) (ps := ["_law_tape_here", "_law_most"]) (g := M.b_law_clock_v3) F sc_law_clock (fun _ _ _ _ _ _ us hl => match us, hl with | [_, _], _ => rfl) (fun f cdv A outer s H E T hr tk hp => ?_)
  have hu := hr.units
  have hu65 := hu65_of hr
  have hu1 := hu_of hr
  have hN := sc_law_clock.nd
  exact (ss_cons (s_own 2 hN (n_lst (a_cons (d_tup (a_cons d_int (a_cons (d_call h_law_offset hr tk (a_cons (d_var 0) a_nil)) a_nil))) a_nil)))
  (ss_cons (s_set 3 hN d_int)
  (ss_cons (s_set 4 hN (d_add (d_add d_int (d_mul (d_call h_law_draw hr tk (a_cons (d_var 0) (a_cons d_int a_nil))) d_int)) (d_call h_law_draw hr tk (a_cons (d_var 0) (a_cons d_int a_nil)))))
  (ss_cons (s_for hp (i_range1 (d_call h_law_draw hr tk (a_cons (d_var 0) (a_cons (d_var 1) a_nil))) m_range) (g_name 5 hN) fun _ => (ss_cons (s_set 6 hN (d_ix (d_frz (n_lst (a_cons d_int (a_cons (d_add d_int (d_call h_law_draw hr tk (a_cons (d_var 0) (a_cons d_int a_nil)))) (a_cons (d_add d_int (d_call h_law_draw hr tk (a_cons (d_var 0) (a_cons d_int a_nil)))) (a_cons (d_add d_int (d_call h_law_draw hr tk (a_cons (d_var 0) (a_cons d_int a_nil)))) a_nil)))))) (d_call h_law_draw hr tk (a_cons (d_var 0) (a_cons d_int a_nil)))))
  (ss_cons (s_set 3 hN (d_add (d_if (t_eq hu (d_var 5) d_int) (d_var 4) (d_var 3)) (d_var 6)))
  (ss_one (s_if (t_lt (d_var 3) d_int) (ss_one (s_app 2 (d_tup (a_cons (d_var 3) (a_cons (d_call h_law_offset hr tk (a_cons (d_var 0) a_nil)) a_nil))))) ss_nil)))))
  (ss_one (s_ret (d_tupleOf (a_cons (d_own 2) a_nil) m_tuple)))))))
theorem sc_law_how : FnScope ["_law_tape_here", "_law_way", "_law_n", "_law_some", "_law_one"] ["_law_tape_here"] (defScope (topS 42)) := ⟨rfl, rfl, rfl, by decide +kernel, rfl, by decide +kernel, by decide +kernel⟩
theorem fd_law_how (F : FnAt K mg "_law_how" (topS 42)) (m_range : mg "range" = none) (m_tuple : mg "tuple" = none) (h_law_draw : FD P w K mg base cl 20 "_law_draw" 2 (M.law_draw 20)) : FD P w K mg base cl 21 "_law_how" 1 M.law_how_v3 := by
  refine fd_of (k := 20) (N := ["_law_tape_here", "_law_way", "_law_n", "_law_some", "_law_one"]) (ps := ["_law_tape_here"]) (g := M.b_law_how_v3) F sc_law_how (fun _ _ _ _ _ _ us hl => match us, hl with | [_], _ => rfl) (fun f cdv A outer s H E T hr tk hp => ?_)
  have hu := hr.units
  have hu65 := hu65_of hr
  have hu1 := hu_of hr
  have hN := sc_law_how.nd
  exact (ss_cons (s_set 1 hN (d_call h_law_draw hr tk (a_cons (d_var 0) (a_cons d_int a_nil))))
  (ss_cons (s_set 2 hN (d_ix (d_frz (n_lst (a_cons d_int (a_cons (d_add d_int (d_call h_law_draw hr tk (a_cons (d_var 0) (a_cons d_int a_nil)))) (a_cons (d_add d_int (d_call h_law_draw hr tk (a_cons (d_var 0) (a_cons d_int a_nil)))) a_nil))))) (d_call h_law_draw hr tk (a_cons (d_var 0) (a_cons d_int a_nil)))))
  (ss_cons (s_if (t_eq hu (d_var 1) d_int) (ss_one (s_ret (d_tup (a_cons d_str a_nil)))) ss_nil)
  (ss_cons (s_if (t_eq hu (d_var 1) d_int) (ss_one (s_ret (d_tup (a_cons d_str (a_cons (d_var 2) a_nil))))) ss_nil)
  (ss_cons (s_if (t_eq hu (d_var 1) d_int) (ss_cons (s_setLc (own := [("_law_one", 4)]) 3 hN (i_range1 d_int m_range) (by show blkC ["_law_tape_here", "_law_way", "_law_n", "_law_some", "_law_one"] (defScope (topS 42)) _ _ = true; decide +kernel) (fun _ _ _ _ _ => (g_name 4 hN)) (fun _ _ _ _ _ => (p_one (t_eq hu (d_call h_law_draw hr takes0 (a_cons (d_var 0) (a_cons d_int a_nil))) d_int))) (fun _ _ _ _ _ => (d_var 4)))
  (ss_one (s_ret (d_tup (a_cons d_str (a_cons (d_var 2) (a_cons (d_tupleOf (a_cons (d_or (d_var 3) (d_one (d_frz (n_lst (a_cons (d_call h_law_draw hr tk (a_cons (d_var 0) (a_cons d_int a_nil))) a_nil))))) a_nil) m_tuple) a_nil))))))) ss_nil)
  (ss_cons (s_if (t_eq hu (d_var 1) d_int) (ss_one (s_ret (d_tup (a_cons d_str (a_cons (d_var 2) (a_cons (d_ix (d_frz (n_lst (a_cons (d_add d_int (d_call h_law_draw hr tk (a_cons (d_var 0) (a_cons d_int a_nil)))) (a_cons (d_add d_int (d_call h_law_draw hr tk (a_cons (d_var 0) (a_cons d_int a_nil)))) a_nil)))) (d_call h_law_draw hr tk (a_cons (d_var 0) (a_cons d_int a_nil)))) a_nil)))))) ss_nil)
  (ss_one (s_ret (d_tup (a_cons d_str (a_cons (d_var 2) (a_cons (d_ix (d_frz (n_lst (a_cons d_int (a_cons d_int (a_cons d_int (a_cons d_int (a_cons d_int (a_cons (d_neg d_int) a_nil)))))))) (d_call h_law_draw hr tk (a_cons (d_var 0) (a_cons d_int a_nil)))) (a_cons (d_call h_law_draw hr tk (a_cons (d_var 0) (a_cons d_int a_nil))) a_nil)))))))))))))
theorem sc_law_rule : FnScope ["_law_tape_here", "_law_some", "_law_first", "_law_end", "_law_way", "_law_length", "_law_minute", "_law_how_here"] ["_law_tape_here"] (defScope (topS 43)) := ⟨rfl, rfl, rfl, by decide +kernel, rfl, by decide +kernel, by decide +kernel⟩
theorem fd_law_rule (F : FnAt K mg "_law_rule" (topS 43)) (m_min : mg "min" = none) (h_law_draw : FD P w K mg base cl 20 "_law_draw" 2 (M.law_draw 20)) (h_law_how : FD P w K mg base cl 21 "_law_how" 1 M.law_how_v3) : FD P w K mg base cl 22 "_law_rule" 1 M.law_rule_v3 := by
  refine fd_of (k := 21) (N := ["_law_tape_here", "_law_some", "_law_first", "_law_end", "_law_way", "_law_length", "_law_minute", "_law_how_here"]) (ps := ["_law_tape_here"]) (g := M.b_law_rule_v3) F sc_law_rule (fun _ _ _ _ _ _ us hl => match us, hl with | [_], _ => rfl) (fun f cdv A outer s H E T hr tk hp => ?_)
  have hu := hr.units
  have hu65 := hu65_of hr
  have hu1 := hu_of hr
  have hN := sc_law_rule.nd
  exact (ss_cons (s_set 1 hN (d_frz (n_lst (a_cons (d_add d_int (d_call h_law_draw hr tk (a_cons (d_var 0) (a_cons d_int a_nil)))) (a_cons (d_add d_int (d_call h_law_draw hr tk (a_cons (d_var 0) (a_cons d_int a_nil)))) (a_cons (d_sub d_int (d_call h_law_draw hr tk (a_cons (d_var 0) (a_cons d_int a_nil)))) a_nil))))))
  (ss_cons (s_set 2 hN (d_ix (d_var 1) (d_call h_law_draw hr tk (a_cons (d_var 0) (a_cons d_int a_nil)))))
  (ss_cons (s_set 3 hN d_non)
  (ss_cons (s_set 4 hN (d_call h_law_draw hr tk (a_cons (d_var 0) (a_cons d_int a_nil))))
  (ss_cons (s_if (t_eq hu (d_var 4) d_int) (ss_one (s_set 3 hN (d_tup (a_cons d_str (a_cons (d_ix (d_frz (n_lst (a_cons d_int (a_cons (d_add d_int (d_call h_law_draw hr tk (a_cons (d_var 0) (a_cons d_int a_nil)))) (a_cons (d_add d_int (d_call h_law_draw hr tk (a_cons (d_var 0) (a_cons d_int a_nil)))) a_nil))))) (d_call h_law_draw hr tk (a_cons (d_var 0) (a_cons d_int a_nil)))) a_nil))))) ss_nil)
  (ss_cons (s_if (t_eq hu (d_var 4) d_int) (ss_one (s_set 3 hN (d_tup (a_cons d_str (a_cons (d_min (a_cons d_int (a_cons (d_add (d_var 2) (d_ix (d_frz (n_lst (a_cons d_int (a_cons (d_call h_law_draw hr tk (a_cons (d_var 0) (a_cons d_int a_nil))) (a_cons (d_call h_law_draw hr tk (a_cons (d_var 0) (a_cons d_int a_nil))) a_nil))))) (d_call h_law_draw hr tk (a_cons (d_var 0) (a_cons d_int a_nil))))) a_nil)) m_min) a_nil))))) ss_nil)
  (ss_cons (s_set 5 hN (d_ix (d_frz (n_lst (a_cons d_int (a_cons d_int (a_cons d_int (a_cons (d_add d_int (d_call h_law_draw hr tk (a_cons (d_var 0) (a_cons d_int a_nil)))) a_nil)))))) (d_call h_law_draw hr tk (a_cons (d_var 0) (a_cons d_int a_nil)))))
  (ss_cons (s_set 6 hN (d_ix (d_frz (n_lst (a_cons (d_call h_law_draw hr tk (a_cons (d_var 0) (a_cons d_int a_nil))) (a_cons d_int (a_cons d_int a_nil))))) (d_call h_law_draw hr tk (a_cons (d_var 0) (a_cons d_int a_nil)))))
  (ss_cons (s_set 7 hN (d_call h_law_how hr tk (a_cons (d_var 0) a_nil)))
  (ss_cons (s_if (t_of (w_and (t_eq hu (d_ix (d_var 7) d_int) d_str) (w_and1 (t_eq hu (d_var 4) d_int)))) (ss_one (s_set 3 hN (d_tup (a_cons d_str (a_cons (d_add d_int (d_mod (d_ix (d_var 3) d_int) d_int)) a_nil))))) ss_nil)
  (ss_one (s_ret (d_tup (a_cons (d_var 2) (a_cons (d_var 6) (a_cons (d_var 5) (a_cons (d_var 7) (a_cons (d_var 3) a_nil))))))))))))))))))
theorem sc_law_near_clock : FnScope ["_law_tape_here", "_law_day", "_law_turns", "_law_moment", "_law_k"] ["_law_tape_here", "_law_day"] (defScope (topS 44)) := ⟨rfl, rfl, rfl, by decide +kernel, rfl, by decide +kernel, by decide +kernel⟩
theorem fd_law_near_clock (F : FnAt K mg "_law_near_clock" (topS 44)) (m_max : mg "max" = none) (m_range : mg "range" = none) (m_tuple : mg "tuple" = none) (h_law_draw : FD P w K mg base cl 20 "_law_draw" 2 (M.law_draw 20)) (h_law_offset : FD P w K mg base cl 21 "_law_offset" 1 M.law_offset) : FD P w K mg base cl 22 "_law_near_clock" 2 M.law_near_clock := by
  refine fd_of (k := 21) (N := ["_law_tape_here", "_law_day", "_law_turns", "_law_moment", "_law_k"]) (ps := ["_law_tape_here", "_law_day"]) (g := M.b_law_near_clock) F sc_law_near_clock (fun _ _ _ _ _ _ us hl => match us, hl with | [_, _], _ => rfl) (fun f cdv A outer s H E T hr tk hp => ?_)
  have hu := hr.units
  have hu65 := hu65_of hr
  have hu1 := hu_of hr
  have hN := sc_law_near_clock.nd
  exact (ss_cons (s_own 2 hN (n_lst (a_cons (d_tup (a_cons d_int (a_cons (d_call h_law_offset hr tk (a_cons (d_var 0) a_nil)) a_nil))) a_nil)))
  (ss_cons (s_set 3 hN (d_max (a_cons d_int (a_cons (d_mul d_int (d_sub (d_var 1) d_int)) a_nil)) m_max))
  (ss_cons (s_for hp (i_range1 (d_call h_law_draw hr tk (a_cons (d_var 0) (a_cons d_int a_nil))) m_range) (g_name 4 hN) fun _ => (ss_cons (s_set 3 hN (d_add (d_add (d_var 3) d_int) (d_ix (d_frz (n_lst (a_cons (d_call h_law_draw hr tk (a_cons (d_var 0) (a_cons d_int a_nil))) (a_cons (d_call h_law_draw hr tk (a_cons (d_var 0) (a_cons d_int a_nil))) (a_cons (d_call h_law_draw hr tk (a_cons (d_var 0) (a_cons d_int a_nil))) a_nil))))) (d_call h_law_draw hr tk (a_cons (d_var 0) (a_cons d_int a_nil))))))
  (ss_one (s_if (t_lt (d_var 3) d_int) (ss_one (s_app 2 (d_tup (a_cons (d_var 3) (a_cons (d_call h_law_offset hr tk (a_cons (d_var 0) a_nil)) a_nil))))) ss_nil))))
  (ss_one (s_ret (d_tupleOf (a_cons (d_own 2) a_nil) m_tuple))))))
theorem sc_law : FnScope ["_law_script", "_law_tape_here", "_law_turn", "_law_rule_here", "_law_clock_here", "_law_telling", "_law_high", "_law_days", "_law_found", "_law_moment", "_law_length", "_law_place", "_law_day", "_law_time", "_law_one"] ["_law_script"] (defScope (topS 45)) := ⟨rfl, rfl, rfl, by decide +kernel, rfl, by decide +kernel, by decide +kernel⟩
theorem fn_law {f : Addr} {fd : FuncData} (F : Fun K "law" "law" (topS 45) f fd) (m_range : mg "range" = none) (m_min : mg "min" = none) (m_sorted : mg "sorted" = none) (h_law_clock : FD P w K mg base cl 22 "_law_clock" 2 M.law_clock_v3) (h_law_draw : FD P w K mg base cl 20 "_law_draw" 2 (M.law_draw 20)) (h_law_near_clock : FD P w K mg base cl 22 "_law_near_clock" 2 M.law_near_clock) (h_law_rule : FD P w K mg base cl 22 "_law_rule" 1 M.law_rule_v3) (h_law_tape : FD P w K mg base cl 1 "_law_tape" 1 M.law_tape) (h_days_of : FDN P w K mg base cl 8 "days_of" 3 M.days_of) (h_how_often : FD P w K mg base cl 3 "how_often" 2 M.how_often) (h_local : FD P w K mg base cl 2 "local" 2 M.local) (h_meetings : FDN P w K mg base cl 9 "meetings" 3 M.meetings) (h_moments : FDN P w K mg base cl 10 "moments" 3 M.moments) : FnOk P w K mg base (L2.CX P w) 23 f fd ["_law_script"] (spD K cl 1 M.law_v19) := by
  refine fn_D (k := 22) (N := ["_law_script", "_law_tape_here", "_law_turn", "_law_rule_here", "_law_clock_here", "_law_telling", "_law_high", "_law_days", "_law_found", "_law_moment", "_law_length", "_law_place", "_law_day", "_law_time", "_law_one"]) (ps := ["_law_script"]) (g := M.b_law_v19) F sc_law (fun cdv A outer s H E T hr tk hp => ?_)
  have hu := hr.units
  have hu65 := hu65_of hr
  have hu1 := hu_of hr
  have hN := sc_law.nd
  exact (ss_cons (s_set 1 hN (d_call h_law_tape hr tk (a_cons (d_var 0) a_nil)))
  (ss_cons (s_for hp (i_range1 d_int m_range) (g_name 2 hN) fun _ => (ss_cons (s_set 3 hN (d_call h_law_rule hr tk (a_cons (d_var 1) a_nil)))
  (ss_cons (s_set 4 hN (d_ix (d_frz (n_lst (a_cons (d_call h_law_near_clock hr tk (a_cons (d_var 1) (a_cons (d_ix (d_var 3) d_int) a_nil))) (a_cons (d_call h_law_clock hr tk (a_cons (d_var 1) (a_cons d_int a_nil))) a_nil)))) (d_call h_law_draw hr tk (a_cons (d_var 1) (a_cons d_int a_nil)))))
  (ss_cons (s_set 5 hN (d_tup (a_cons (d_var 4) (a_cons (d_var 3) (a_cons d_str (a_cons (d_tup a_nil) a_nil))))))
  (ss_cons (s_set 6 hN (d_min (a_cons d_int (a_cons (d_add (d_ix (d_var 3) d_int) d_int) a_nil)) m_min))
  (ss_cons (s_set 7 hN (d_frz (n_fn h_days_of hr tk (a_cons (d_var 3) (a_cons d_int (a_cons (d_var 6) a_nil))))))
  (ss_cons (s_if (t_ne hu (d_frz (n_fn h_meetings hr tk (a_cons (d_var 5) (a_cons d_int (a_cons (d_var 6) a_nil))))) (d_frz (n_lc (own := [("_law_day", 12)]) hN (i_seq (d_var 7)) (by show blkC ["_law_script", "_law_tape_here", "_law_turn", "_law_rule_here", "_law_clock_here", "_law_telling", "_law_high", "_law_days", "_law_found", "_law_moment", "_law_length", "_law_place", "_law_day", "_law_time", "_law_one"] (defScope (topS 45)) _ _ = true; decide +kernel) (fun _ _ _ _ _ => (g_name 12 hN)) (fun _ _ _ _ _ => p_nil) (fun _ _ _ _ _ => (d_tup (a_cons (d_var 12) (a_cons (d_tup (a_cons (d_var 12) (a_cons (d_ix (d_var 3) d_int) (a_cons (d_ix (d_var 3) d_int) (a_cons d_str a_nil))))) a_nil))))))) (ss_one (s_ret d_bl)) ss_nil)
  (ss_cons (s_set 8 hN (d_frz (n_fn h_moments hr tk (a_cons (d_var 5) (a_cons d_int (a_cons (d_var 6) a_nil))))))
  (ss_cons (s_if (t_of (w_or (t_ne hu (d_var 8) (d_frz (n_sorted (a_cons (d_var 8) a_nil) hu m_sorted))) (w_or1 (t_ne hu (d_frz (n_sorted (a_cons (d_frz (n_lc (own := [("_law_one", 14)]) hN (i_seq (d_var 8)) (by show blkC ["_law_script", "_law_tape_here", "_law_turn", "_law_rule_here", "_law_clock_here", "_law_telling", "_law_high", "_law_days", "_law_found", "_law_moment", "_law_length", "_law_place", "_law_day", "_law_time", "_law_one"] (defScope (topS 45)) _ _ = true; decide +kernel) (fun _ _ _ _ _ => (g_name 14 hN)) (fun _ _ _ _ _ => p_nil) (fun _ _ _ _ _ => (d_ix (d_var 14) d_int)))) a_nil) hu m_sorted)) (d_var 7))))) (ss_one (s_ret d_bl)) ss_nil)
  (ss_one (s_for hp (i_seq (d_var 8)) (g_tup (gs_cons (g_name 9 hN) (gs_cons (g_name 10 hN) (gs_cons (g_name 11 hN) (gs_cons (g_name 12 hN) gs_nil))))) fun _ => (ss_cons (s_set 13 hN (d_add (d_mul d_int (d_var 12)) (d_ix (d_var 3) d_int)))
  (ss_cons (s_if (t_ne hu (d_tup (a_cons (d_var 10) (a_cons (d_var 11) a_nil))) (d_tup (a_cons (d_ix (d_var 3) d_int) (a_cons d_str a_nil)))) (ss_one (s_ret d_bl)) ss_nil)
  (ss_cons (s_if (t_of (w_and (t_eq hu (d_call h_how_often hr tk (a_cons (d_var 4) (a_cons (d_var 13) a_nil))) d_int) (w_and1 (t_not (t_ltlt (d_call h_local hr tk (a_cons (d_var 4) (a_cons (d_sub (d_var 9) d_int) a_nil))) (d_var 13) (d_call h_local hr tk (a_cons (d_var 4) (a_cons (d_var 9) a_nil)))))))) (ss_one (s_ret d_bl)) ss_nil)
  (ss_one (s_if (t_of (w_and (t_gt (d_call h_how_often hr tk (a_cons (d_var 4) (a_cons (d_var 13) a_nil))) d_int) (w_and1 (t_ne hu (d_call h_local hr tk (a_cons (d_var 4) (a_cons (d_var 9) a_nil))) (d_var 13))))) (ss_one (s_ret d_bl)) ss_nil))))))))))))))))
  (ss_one (s_ret d_bl))))
end
def clOf (l : List Addr) : Nat → Addr := fun n => l.getD n 0
structure Facts (a0 a1 a2 a3 a4 a5 : Addr) (K : PySem.W.Frag) (mg : Str → Option Value) (cl : Nat → Addr) : Prop where
  f_is_leap : FnAt K mg "is_leap" (topS 4)
  f_days_ahead : FnAt K mg "days_ahead" (topS 5)
  f_month_length : FnAt K mg "month_length" (topS 6)
  f_first_of : FnAt K mg "first_of" (topS 7)
  f_month_of : FnAt K mg "month_of" (topS 8)
  f_weekday : FnAt K mg "weekday" (topS 9)
  f_offset_at : FnAt K mg "offset_at" (topS 12)
  f_local : FnAt K mg "local" (topS 13)
  f_stretches : FnAt K mg "stretches" (topS 14)
  f_comes_at : FnAt K mg "comes_at" (topS 15)
  f_how_often : FnAt K mg "how_often" (topS 16)
  f_passed : FnAt K mg "passed" (topS 17)
  f_moment_of : FnAt K mg "moment_of" (topS 18)
  f_coming_of : FnAt K mg "coming_of" (topS 28)
  f_limit_of : FnAt K mg "limit_of" (topS 29)
  f_days_of : FnAt K mg "days_of" (topS 30)
  f_bare : FnAt K mg "bare" (topS 32)
  f_told_by : FnAt K mg "told_by" (topS 33)
  f_meetings : FnAt K mg "meetings" (topS 34)
  f_moments : FnAt K mg "moments" (topS 35)
  f_law_tape : FnAt K mg "_law_tape" (topS 37)
  f_law_draw : FnAt K mg "_law_draw" (topS 38)
  f_law_offset : FnAt K mg "_law_offset" (topS 40)
  f_law_clock : FnAt K mg "_law_clock" (topS 39)
  f_law_how : FnAt K mg "_law_how" (topS 42)
  f_law_rule : FnAt K mg "_law_rule" (topS 43)
  f_law_near_clock : FnAt K mg "_law_near_clock" (topS 44)
  f_law : FnAt K mg "law" (topS 45)
  c_FIRST_YEAR : GConst K mg cl "FIRST_YEAR" k_FIRST_YEAR
  c_LENGTHS : GConst K mg cl "LENGTHS" k_LENGTHS
  c_LAST_MOMENT : GConst K mg cl "LAST_MOMENT" k_LAST_MOMENT
  c_LAST_DAY : GConst K mg cl "LAST_DAY" k_LAST_DAY
  c_DAY_MINUTES : GConst K mg cl "DAY_MINUTES" k_DAY_MINUTES
  m_divmod : mg "divmod" = none
  m_range : mg "range" = none
  m_len : mg "len" = none
  m_min : mg "min" = none
  m_max : mg "max" = none
  m_sorted : mg "sorted" = none
  m_tuple : mg "tuple" = none
  cls_Once : Cls K a0
  cls_Days : Cls K a1
  cls_Weeks : Cls K a2
  cls_Months : Cls K a3
  cls_Dates : Cls K a4
  cls_Weekdays : Cls K a5
  na_Once_first : NoAttr K a0 "first"
  na_Days_first : NoAttr K a1 "first"
  na_Weeks_first : NoAttr K a2 "first"
  na_Months_first : NoAttr K a3 "first"
  na_Dates_first : NoAttr K a4 "first"
  na_Weekdays_first : NoAttr K a5 "first"
  na_Months_month : NoAttr K a3 "month"
  na_Dates_month : NoAttr K a4 "month"
  na_Weekdays_month : NoAttr K a5 "month"
  na_Months_step : NoAttr K a3 "step"
  na_Dates_step : NoAttr K a4 "step"
  na_Weekdays_step : NoAttr K a5 "step"
  na_Dates_date : NoAttr K a4 "date"
  na_Days_step : NoAttr K a1 "step"
  na_Weekdays_which : NoAttr K a5 "which"
  na_Weekdays_one : NoAttr K a5 "one"
  na_Weeks_monday : NoAttr K a2 "monday"
  na_Weeks_step : NoAttr K a2 "step"
  na_Weeks_weekdays : NoAttr K a2 "weekdays"
  na_Weeks_left_out : NoAttr K a2 "left_out"
  mt_Months_Months_date_in : MtAt K a3 "date_in" "Months.date_in" (inClass (topS 25) 3)
  mt_Weekdays_Weekdays_date_in : MtAt K a5 "date_in" "Weekdays.date_in" (inClass (topS 27) 1)
  mt_Dates_Dates_date_in : MtAt K a4 "date_in" "Dates.date_in" (inClass (topS 26) 1)
  mt_Weekdays_Months_days_in : MtAt K a5 "days_in" "Months.days_in" (inClass (topS 25) 4)
  mt_Dates_Months_days_in : MtAt K a4 "days_in" "Months.days_in" (inClass (topS 25) 4)
  mt_Months_Months_days_in : MtAt K a3 "days_in" "Months.days_in" (inClass (topS 25) 4)
  mt_Weekdays_Months_begins : MtAt K a5 "begins" "Months.begins" (inClass (topS 25) 2)
  mt_Dates_Months_begins : MtAt K a4 "begins" "Months.begins" (inClass (topS 25) 2)
  mt_Months_Months_begins : MtAt K a3 "begins" "Months.begins" (inClass (topS 25) 2)
  mt_Weeks_Weeks_begins : MtAt K a2 "begins" "Weeks.begins" (inClass (topS 24) 2)
  mt_Weekdays_Months_at_place : MtAt K a5 "at_place" "Months.at_place" (inClass (topS 25) 6)
  mt_Dates_Months_at_place : MtAt K a4 "at_place" "Months.at_place" (inClass (topS 25) 6)
  mt_Months_Months_at_place : MtAt K a3 "at_place" "Months.at_place" (inClass (topS 25) 6)
  mt_Once_Once_at_place : MtAt K a0 "at_place" "Once.at_place" (inClass (topS 22) 5)
  mt_Weeks_Weeks_at_place : MtAt K a2 "at_place" "Weeks.at_place" (inClass (topS 24) 5)
  mt_Days_Days_at_place : MtAt K a1 "at_place" "Days.at_place" (inClass (topS 23) 5)
  mt_Days_Days_begins : MtAt K a1 "begins" "Days.begins" (inClass (topS 23) 2)
  mt_Days_Days_days_in : MtAt K a1 "days_in" "Days.days_in" (inClass (topS 23) 3)
  mt_Dates_Months_stretch_of : MtAt K a4 "stretch_of" "Months.stretch_of" (inClass (topS 25) 1)
  mt_Weekdays_Months_stretch_of : MtAt K a5 "stretch_of" "Months.stretch_of" (inClass (topS 25) 1)
  mt_Months_Months_stretch_of : MtAt K a3 "stretch_of" "Months.stretch_of" (inClass (topS 25) 1)
  mt_Weeks_Weeks_stretch_of : MtAt K a2 "stretch_of" "Weeks.stretch_of" (inClass (topS 24) 1)
  mt_Days_Days_stretch_of : MtAt K a1 "stretch_of" "Days.stretch_of" (inClass (topS 23) 1)
  mt_Once_Once_days_in : MtAt K a0 "days_in" "Once.days_in" (inClass (topS 22) 3)
  mt_Once_Once_stretch_of : MtAt K a0 "stretch_of" "Once.stretch_of" (inClass (topS 22) 1)
  mt_Weeks_Weeks_days_in : MtAt K a2 "days_in" "Weeks.days_in" (inClass (topS 24) 3)
  mt_Once_Once_begins : MtAt K a0 "begins" "Once.begins" (inClass (topS 22) 2)
  kt_Once_Once__init : KdAt K mg "Once" a0 "Once.__init__" (inClass (topS 22) 0)
  kt_Dates_Dates__init : KdAt K mg "Dates" a4 "Dates.__init__" (inClass (topS 26) 0)
  kt_Days_Days__init : KdAt K mg "Days" a1 "Days.__init__" (inClass (topS 23) 0)
  kt_Weekdays_Weekdays__init : KdAt K mg "Weekdays" a5 "Weekdays.__init__" (inClass (topS 27) 0)
  kt_Weeks_Weeks__init : KdAt K mg "Weeks" a2 "Weeks.__init__" (inClass (topS 24) 0)
  ct_Once_Once__init : CdAt K mg "Once" a0 "__init__" "Once.__init__" (inClass (topS 22) 0)
  ct_Months_Months__init : CdAt K mg "Months" a3 "__init__" "Months.__init__" (inClass (topS 25) 0)
theorem all_law {P : Program} {w : World} {K : PySem.W.Frag} {mg : Str → Option Value} {base : Heap} {a0 a1 a2 a3 a4 a5 : Addr} {f : Addr} {fd : FuncData} (F : Fun K "law" "law" (topS 45) f fd) (X : Facts a0 a1 a2 a3 a4 a5 K mg (clOf [a0, a1, a2, a3, a4, a5])) : FnOk P w K mg base (L2.CX P w) 23 f fd ["_law_script"] (spD K (clOf [a0, a1, a2, a3, a4, a5]) 1 M.law_v19) := by
  let cl := (clOf [a0, a1, a2, a3, a4, a5])
  have h_is_leap := fd_is_leap (P := P) (w := w) (base := base) (cl := cl) X.f_is_leap 
  have h_days_ahead := fd_days_ahead (P := P) (w := w) (base := base) (cl := cl) X.f_days_ahead X.c_FIRST_YEAR
  have h_month_length := fd_month_length (P := P) (w := w) (base := base) (cl := cl) X.f_month_length X.m_divmod X.c_FIRST_YEAR X.c_LENGTHS h_is_leap
  have h_first_of := fd_first_of (P := P) (w := w) (base := base) (cl := cl) X.f_first_of X.m_divmod X.c_FIRST_YEAR X.m_range h_days_ahead h_month_length
  have h_month_of := fd_month_of (P := P) (w := w) (base := base) (cl := cl) X.f_month_of X.c_FIRST_YEAR h_days_ahead h_month_length
  have h_weekday := fd_weekday (P := P) (w := w) (base := base) (cl := cl) X.f_weekday 
  have h_offset_at := fd_offset_at (P := P) (w := w) (base := base) (cl := cl) X.f_offset_at 
  have h_local := fd_local (P := P) (w := w) (base := base) (cl := cl) X.f_local h_offset_at
  have h_stretches := fd_stretches (P := P) (w := w) (base := base) (cl := cl) X.f_stretches X.c_LAST_MOMENT X.m_range X.m_len
  have h_comes_at := fd_comes_at (P := P) (w := w) (base := base) (cl := cl) X.f_comes_at h_stretches
  have h_how_often := fd_how_often (P := P) (w := w) (base := base) (cl := cl) X.f_how_often X.m_len h_comes_at
  have h_passed := fd_passed (P := P) (w := w) (base := base) (cl := cl) X.f_passed h_local
  have h_moment_of := fd_moment_of (P := P) (w := w) (base := base) (cl := cl) X.f_moment_of X.m_min h_comes_at h_passed
  have cd_Once_Once__init := cd_Once__init (P := P) (w := w) (base := base) (cl := cl) (c := 0) (x := "Once") X.ct_Once_Once__init (alls_cons ⟨X.cls_Once, X.na_Once_first⟩ (alls_cons ⟨X.cls_Days, X.na_Days_first⟩ (alls_cons ⟨X.cls_Weeks, X.na_Weeks_first⟩ (alls_cons ⟨X.cls_Months, X.na_Months_first⟩ (alls_cons ⟨X.cls_Dates, X.na_Dates_first⟩ (alls_cons ⟨X.cls_Weekdays, X.na_Weekdays_first⟩ alls_nil))))))
  have kd_Once_Once__init := kd_Once__init (P := P) (w := w) (base := base) (cl := cl) (c := 0) (x := "Once") X.kt_Once_Once__init (alls_cons ⟨X.cls_Once, X.na_Once_first⟩ (alls_cons ⟨X.cls_Days, X.na_Days_first⟩ (alls_cons ⟨X.cls_Weeks, X.na_Weeks_first⟩ (alls_cons ⟨X.cls_Months, X.na_Months_first⟩ (alls_cons ⟨X.cls_Dates, X.na_Dates_first⟩ (alls_cons ⟨X.cls_Weekdays, X.na_Weekdays_first⟩ alls_nil))))))
  have cd_Months_Months__init := cd_Months__init (P := P) (w := w) (base := base) (cl := cl) (c := 3) (x := "Months") X.ct_Months_Months__init (alls_cons ⟨X.cls_Months, X.na_Months_month⟩ (alls_cons ⟨X.cls_Dates, X.na_Dates_month⟩ (alls_cons ⟨X.cls_Weekdays, X.na_Weekdays_month⟩ alls_nil))) (alls_cons ⟨X.cls_Months, X.na_Months_step⟩ (alls_cons ⟨X.cls_Dates, X.na_Dates_step⟩ (alls_cons ⟨X.cls_Weekdays, X.na_Weekdays_step⟩ alls_nil))) cd_Once_Once__init h_month_of
  have kd_Dates_Dates__init := kd_Dates__init (P := P) (w := w) (base := base) (cl := cl) (c := 4) (x := "Dates") X.kt_Dates_Dates__init (alls_cons ⟨X.cls_Dates, X.na_Dates_date⟩ alls_nil) cd_Months_Months__init
  have kd_Days_Days__init := kd_Days__init (P := P) (w := w) (base := base) (cl := cl) (c := 1) (x := "Days") X.kt_Days_Days__init (alls_cons ⟨X.cls_Days, X.na_Days_step⟩ alls_nil) cd_Once_Once__init
  have kd_Weekdays_Weekdays__init := kd_Weekdays__init (P := P) (w := w) (base := base) (cl := cl) (c := 5) (x := "Weekdays") X.kt_Weekdays_Weekdays__init (alls_cons ⟨X.cls_Weekdays, X.na_Weekdays_which⟩ alls_nil) (alls_cons ⟨X.cls_Weekdays, X.na_Weekdays_one⟩ alls_nil) cd_Months_Months__init
  have kd_Weeks_Weeks__init := kd_Weeks__init (P := P) (w := w) (base := base) (cl := cl) (c := 2) (x := "Weeks") X.kt_Weeks_Weeks__init (alls_cons ⟨X.cls_Weeks, X.na_Weeks_monday⟩ alls_nil) (alls_cons ⟨X.cls_Weeks, X.na_Weeks_step⟩ alls_nil) (alls_cons ⟨X.cls_Weeks, X.na_Weeks_weekdays⟩ alls_nil) X.m_len (alls_cons ⟨X.cls_Weeks, X.na_Weeks_left_out⟩ alls_nil) cd_Once_Once__init h_weekday
  have h_coming_of := fd_coming_of (P := P) (w := w) (base := base) (cl := cl) X.f_coming_of X.m_len kd_Dates_Dates__init kd_Days_Days__init kd_Once_Once__init kd_Weekdays_Weekdays__init kd_Weeks_Weeks__init
  have md_Days_Days_at_place := md_Days_at_place (P := P) (w := w) (base := base) (mg := mg) (cl := cl) (c := 1) X.mt_Days_Days_at_place X.cls_Days (alls_cons ⟨X.cls_Days, X.na_Days_first⟩ alls_nil) (alls_cons ⟨X.cls_Days, X.na_Days_step⟩ alls_nil)
  have md_Dates_Months_begins := md_Months_begins (P := P) (w := w) (base := base) (mg := mg) (cl := cl) (c := 4) X.mt_Dates_Months_begins X.cls_Dates (alls_cons ⟨X.cls_Months, X.na_Months_month⟩ (alls_cons ⟨X.cls_Dates, X.na_Dates_month⟩ (alls_cons ⟨X.cls_Weekdays, X.na_Weekdays_month⟩ alls_nil))) (alls_cons ⟨X.cls_Months, X.na_Months_step⟩ (alls_cons ⟨X.cls_Dates, X.na_Dates_step⟩ (alls_cons ⟨X.cls_Weekdays, X.na_Weekdays_step⟩ alls_nil))) h_first_of
  have md_Months_Months_begins := md_Months_begins (P := P) (w := w) (base := base) (mg := mg) (cl := cl) (c := 3) X.mt_Months_Months_begins X.cls_Months (alls_cons ⟨X.cls_Months, X.na_Months_month⟩ (alls_cons ⟨X.cls_Dates, X.na_Dates_month⟩ (alls_cons ⟨X.cls_Weekdays, X.na_Weekdays_month⟩ alls_nil))) (alls_cons ⟨X.cls_Months, X.na_Months_step⟩ (alls_cons ⟨X.cls_Dates, X.na_Dates_step⟩ (alls_cons ⟨X.cls_Weekdays, X.na_Weekdays_step⟩ alls_nil))) h_first_of
  have md_Weekdays_Months_begins := md_Months_begins (P := P) (w := w) (base := base) (mg := mg) (cl := cl) (c := 5) X.mt_Weekdays_Months_begins X.cls_Weekdays (alls_cons ⟨X.cls_Months, X.na_Months_month⟩ (alls_cons ⟨X.cls_Dates, X.na_Dates_month⟩ (alls_cons ⟨X.cls_Weekdays, X.na_Weekdays_month⟩ alls_nil))) (alls_cons ⟨X.cls_Months, X.na_Months_step⟩ (alls_cons ⟨X.cls_Dates, X.na_Dates_step⟩ (alls_cons ⟨X.cls_Weekdays, X.na_Weekdays_step⟩ alls_nil))) h_first_of
  have md_Dates_Dates_date_in := md_Dates_date_in (P := P) (w := w) (base := base) (mg := mg) (cl := cl) (c := 4) X.mt_Dates_Dates_date_in X.cls_Dates (alls_cons ⟨X.cls_Dates, X.na_Dates_date⟩ alls_nil) h_month_length
  have md_Months_Months_date_in := md_Months_date_in (P := P) (w := w) (base := base) (mg := mg) (cl := cl) (c := 3) X.mt_Months_Months_date_in X.cls_Months 
  have md_Weekdays_Weekdays_date_in := md_Weekdays_date_in (P := P) (w := w) (base := base) (mg := mg) (cl := cl) (c := 5) X.mt_Weekdays_Weekdays_date_in X.cls_Weekdays (alls_cons ⟨X.cls_Weekdays, X.na_Weekdays_one⟩ alls_nil) (alls_cons ⟨X.cls_Weekdays, X.na_Weekdays_which⟩ alls_nil) h_first_of h_month_length h_weekday
  have md_Dates_Months_days_in := md_Months_days_in (P := P) (w := w) (base := base) (mg := mg) (cl := cl) (c := 4) X.mt_Dates_Months_days_in X.cls_Dates (alls_cons ⟨X.cls_Months, X.na_Months_month⟩ (alls_cons ⟨X.cls_Dates, X.na_Dates_month⟩ (alls_cons ⟨X.cls_Weekdays, X.na_Weekdays_month⟩ alls_nil))) (alls_cons ⟨X.cls_Months, X.na_Months_step⟩ (alls_cons ⟨X.cls_Dates, X.na_Dates_step⟩ (alls_cons ⟨X.cls_Weekdays, X.na_Weekdays_step⟩ alls_nil))) (alls_cons ⟨X.cls_Months, X.na_Months_first⟩ (alls_cons ⟨X.cls_Dates, X.na_Dates_first⟩ (alls_cons ⟨X.cls_Weekdays, X.na_Weekdays_first⟩ alls_nil))) md_Dates_Dates_date_in md_Months_Months_date_in md_Weekdays_Weekdays_date_in h_first_of
  have md_Months_Months_days_in := md_Months_days_in (P := P) (w := w) (base := base) (mg := mg) (cl := cl) (c := 3) X.mt_Months_Months_days_in X.cls_Months (alls_cons ⟨X.cls_Months, X.na_Months_month⟩ (alls_cons ⟨X.cls_Dates, X.na_Dates_month⟩ (alls_cons ⟨X.cls_Weekdays, X.na_Weekdays_month⟩ alls_nil))) (alls_cons ⟨X.cls_Months, X.na_Months_step⟩ (alls_cons ⟨X.cls_Dates, X.na_Dates_step⟩ (alls_cons ⟨X.cls_Weekdays, X.na_Weekdays_step⟩ alls_nil))) (alls_cons ⟨X.cls_Months, X.na_Months_first⟩ (alls_cons ⟨X.cls_Dates, X.na_Dates_first⟩ (alls_cons ⟨X.cls_Weekdays, X.na_Weekdays_first⟩ alls_nil))) md_Dates_Dates_date_in md_Months_Months_date_in md_Weekdays_Weekdays_date_in h_first_of
  have md_Weekdays_Months_days_in := md_Months_days_in (P := P) (w := w) (base := base) (mg := mg) (cl := cl) (c := 5) X.mt_Weekdays_Months_days_in X.cls_Weekdays (alls_cons ⟨X.cls_Months, X.na_Months_month⟩ (alls_cons ⟨X.cls_Dates, X.na_Dates_month⟩ (alls_cons ⟨X.cls_Weekdays, X.na_Weekdays_month⟩ alls_nil))) (alls_cons ⟨X.cls_Months, X.na_Months_step⟩ (alls_cons ⟨X.cls_Dates, X.na_Dates_step⟩ (alls_cons ⟨X.cls_Weekdays, X.na_Weekdays_step⟩ alls_nil))) (alls_cons ⟨X.cls_Months, X.na_Months_first⟩ (alls_cons ⟨X.cls_Dates, X.na_Dates_first⟩ (alls_cons ⟨X.cls_Weekdays, X.na_Weekdays_first⟩ alls_nil))) md_Dates_Dates_date_in md_Months_Months_date_in md_Weekdays_Weekdays_date_in h_first_of
  have md_Dates_Months_at_place := md_Months_at_place (P := P) (w := w) (base := base) (mg := mg) (cl := cl) (c := 4) X.mt_Dates_Months_at_place X.cls_Dates X.c_LAST_DAY X.m_len md_Dates_Months_begins md_Dates_Months_days_in md_Months_Months_begins md_Months_Months_days_in md_Weekdays_Months_begins md_Weekdays_Months_days_in
  have md_Months_Months_at_place := md_Months_at_place (P := P) (w := w) (base := base) (mg := mg) (cl := cl) (c := 3) X.mt_Months_Months_at_place X.cls_Months X.c_LAST_DAY X.m_len md_Dates_Months_begins md_Dates_Months_days_in md_Months_Months_begins md_Months_Months_days_in md_Weekdays_Months_begins md_Weekdays_Months_days_in
  have md_Weekdays_Months_at_place := md_Months_at_place (P := P) (w := w) (base := base) (mg := mg) (cl := cl) (c := 5) X.mt_Weekdays_Months_at_place X.cls_Weekdays X.c_LAST_DAY X.m_len md_Dates_Months_begins md_Dates_Months_days_in md_Months_Months_begins md_Months_Months_days_in md_Weekdays_Months_begins md_Weekdays_Months_days_in
  have md_Once_Once_at_place := md_Once_at_place (P := P) (w := w) (base := base) (mg := mg) (cl := cl) (c := 0) X.mt_Once_Once_at_place X.cls_Once (alls_cons ⟨X.cls_Once, X.na_Once_first⟩ (alls_cons ⟨X.cls_Days, X.na_Days_first⟩ (alls_cons ⟨X.cls_Weeks, X.na_Weeks_first⟩ (alls_cons ⟨X.cls_Months, X.na_Months_first⟩ (alls_cons ⟨X.cls_Dates, X.na_Dates_first⟩ (alls_cons ⟨X.cls_Weekdays, X.na_Weekdays_first⟩ alls_nil))))))
  have md_Weeks_Weeks_begins := md_Weeks_begins (P := P) (w := w) (base := base) (mg := mg) (cl := cl) (c := 2) X.mt_Weeks_Weeks_begins X.cls_Weeks (alls_cons ⟨X.cls_Weeks, X.na_Weeks_monday⟩ alls_nil) (alls_cons ⟨X.cls_Weeks, X.na_Weeks_step⟩ alls_nil)
  have md_Weeks_Weeks_at_place := md_Weeks_at_place (P := P) (w := w) (base := base) (mg := mg) (cl := cl) (c := 2) X.mt_Weeks_Weeks_at_place X.cls_Weeks X.m_divmod (alls_cons ⟨X.cls_Weeks, X.na_Weeks_left_out⟩ alls_nil) X.m_len (alls_cons ⟨X.cls_Weeks, X.na_Weeks_weekdays⟩ alls_nil) md_Weeks_Weeks_begins
  have h_limit_of := fd_limit_of (P := P) (w := w) (base := base) (cl := cl) X.f_limit_of X.c_LAST_DAY X.m_min md_Dates_Months_at_place md_Days_Days_at_place md_Months_Months_at_place md_Once_Once_at_place md_Weekdays_Months_at_place md_Weeks_Weeks_at_place
  have md_Days_Days_begins := md_Days_begins (P := P) (w := w) (base := base) (mg := mg) (cl := cl) (c := 1) X.mt_Days_Days_begins X.cls_Days (alls_cons ⟨X.cls_Days, X.na_Days_first⟩ alls_nil) (alls_cons ⟨X.cls_Days, X.na_Days_step⟩ alls_nil)
  have md_Days_Days_days_in := md_Days_days_in (P := P) (w := w) (base := base) (mg := mg) (cl := cl) (c := 1) X.mt_Days_Days_days_in X.cls_Days md_Days_Days_begins
  have md_Days_Days_stretch_of := md_Days_stretch_of (P := P) (w := w) (base := base) (mg := mg) (cl := cl) (c := 1) X.mt_Days_Days_stretch_of X.cls_Days X.m_max (alls_cons ⟨X.cls_Days, X.na_Days_first⟩ alls_nil) (alls_cons ⟨X.cls_Days, X.na_Days_step⟩ alls_nil)
  have md_Dates_Months_stretch_of := md_Months_stretch_of (P := P) (w := w) (base := base) (mg := mg) (cl := cl) (c := 4) X.mt_Dates_Months_stretch_of X.cls_Dates X.m_max (alls_cons ⟨X.cls_Months, X.na_Months_month⟩ (alls_cons ⟨X.cls_Dates, X.na_Dates_month⟩ (alls_cons ⟨X.cls_Weekdays, X.na_Weekdays_month⟩ alls_nil))) (alls_cons ⟨X.cls_Months, X.na_Months_step⟩ (alls_cons ⟨X.cls_Dates, X.na_Dates_step⟩ (alls_cons ⟨X.cls_Weekdays, X.na_Weekdays_step⟩ alls_nil))) h_month_of
  have md_Months_Months_stretch_of := md_Months_stretch_of (P := P) (w := w) (base := base) (mg := mg) (cl := cl) (c := 3) X.mt_Months_Months_stretch_of X.cls_Months X.m_max (alls_cons ⟨X.cls_Months, X.na_Months_month⟩ (alls_cons ⟨X.cls_Dates, X.na_Dates_month⟩ (alls_cons ⟨X.cls_Weekdays, X.na_Weekdays_month⟩ alls_nil))) (alls_cons ⟨X.cls_Months, X.na_Months_step⟩ (alls_cons ⟨X.cls_Dates, X.na_Dates_step⟩ (alls_cons ⟨X.cls_Weekdays, X.na_Weekdays_step⟩ alls_nil))) h_month_of
  have md_Weekdays_Months_stretch_of := md_Months_stretch_of (P := P) (w := w) (base := base) (mg := mg) (cl := cl) (c := 5) X.mt_Weekdays_Months_stretch_of X.cls_Weekdays X.m_max (alls_cons ⟨X.cls_Months, X.na_Months_month⟩ (alls_cons ⟨X.cls_Dates, X.na_Dates_month⟩ (alls_cons ⟨X.cls_Weekdays, X.na_Weekdays_month⟩ alls_nil))) (alls_cons ⟨X.cls_Months, X.na_Months_step⟩ (alls_cons ⟨X.cls_Dates, X.na_Dates_step⟩ (alls_cons ⟨X.cls_Weekdays, X.na_Weekdays_step⟩ alls_nil))) h_month_of
  have md_Once_Once_begins := md_Once_begins (P := P) (w := w) (base := base) (mg := mg) (cl := cl) (c := 0) X.mt_Once_Once_begins X.cls_Once (alls_cons ⟨X.cls_Once, X.na_Once_first⟩ (alls_cons ⟨X.cls_Days, X.na_Days_first⟩ (alls_cons ⟨X.cls_Weeks, X.na_Weeks_first⟩ (alls_cons ⟨X.cls_Months, X.na_Months_first⟩ (alls_cons ⟨X.cls_Dates, X.na_Dates_first⟩ (alls_cons ⟨X.cls_Weekdays, X.na_Weekdays_first⟩ alls_nil)))))) X.c_LAST_DAY
  have md_Once_Once_days_in := md_Once_days_in (P := P) (w := w) (base := base) (mg := mg) (cl := cl) (c := 0) X.mt_Once_Once_days_in X.cls_Once (alls_cons ⟨X.cls_Once, X.na_Once_first⟩ (alls_cons ⟨X.cls_Days, X.na_Days_first⟩ (alls_cons ⟨X.cls_Weeks, X.na_Weeks_first⟩ (alls_cons ⟨X.cls_Months, X.na_Months_first⟩ (alls_cons ⟨X.cls_Dates, X.na_Dates_first⟩ (alls_cons ⟨X.cls_Weekdays, X.na_Weekdays_first⟩ alls_nil))))))
  have md_Once_Once_stretch_of := md_Once_stretch_of (P := P) (w := w) (base := base) (mg := mg) (cl := cl) (c := 0) X.mt_Once_Once_stretch_of X.cls_Once 
  have md_Weeks_Weeks_days_in := md_Weeks_days_in (P := P) (w := w) (base := base) (mg := mg) (cl := cl) (c := 2) X.mt_Weeks_Weeks_days_in X.cls_Weeks (alls_cons ⟨X.cls_Weeks, X.na_Weeks_weekdays⟩ alls_nil) (alls_cons ⟨X.cls_Weeks, X.na_Weeks_first⟩ alls_nil) md_Weeks_Weeks_begins
  have md_Weeks_Weeks_stretch_of := md_Weeks_stretch_of (P := P) (w := w) (base := base) (mg := mg) (cl := cl) (c := 2) X.mt_Weeks_Weeks_stretch_of X.cls_Weeks X.m_max (alls_cons ⟨X.cls_Weeks, X.na_Weeks_monday⟩ alls_nil) (alls_cons ⟨X.cls_Weeks, X.na_Weeks_step⟩ alls_nil)
  have h_days_of := fd_days_of (P := P) (w := w) (base := base) (cl := cl) X.f_days_of X.m_min md_Dates_Months_begins md_Dates_Months_days_in md_Dates_Months_stretch_of md_Days_Days_begins md_Days_Days_days_in md_Days_Days_stretch_of md_Months_Months_begins md_Months_Months_days_in md_Months_Months_stretch_of md_Once_Once_begins md_Once_Once_days_in md_Once_Once_stretch_of md_Weekdays_Months_begins md_Weekdays_Months_days_in md_Weekdays_Months_stretch_of md_Weeks_Weeks_begins md_Weeks_Weeks_days_in md_Weeks_Weeks_stretch_of h_coming_of h_limit_of
  have h_bare := fd_bare (P := P) (w := w) (base := base) (cl := cl) X.f_bare 
  have h_told_by := fd_told_by (P := P) (w := w) (base := base) (cl := cl) X.f_told_by h_bare
  have h_meetings := fd_meetings (P := P) (w := w) (base := base) (cl := cl) X.f_meetings h_days_of h_told_by
  have h_moments := fd_moments (P := P) (w := w) (base := base) (cl := cl) X.f_moments X.c_DAY_MINUTES X.m_sorted h_meetings h_moment_of
  have h_law_tape := fd_law_tape (P := P) (w := w) (base := base) (cl := cl) X.f_law_tape 
  have h_law_draw := fd_law_draw (P := P) (w := w) (base := base) (cl := cl) X.f_law_draw X.m_len 20
  have h_law_offset := fd_law_offset (P := P) (w := w) (base := base) (cl := cl) X.f_law_offset h_law_draw
  have h_law_clock := fd_law_clock (P := P) (w := w) (base := base) (cl := cl) X.f_law_clock X.m_range X.m_tuple h_law_draw h_law_offset
  have h_law_how := fd_law_how (P := P) (w := w) (base := base) (cl := cl) X.f_law_how X.m_range X.m_tuple h_law_draw
  have h_law_rule := fd_law_rule (P := P) (w := w) (base := base) (cl := cl) X.f_law_rule X.m_min h_law_draw h_law_how
  have h_law_near_clock := fd_law_near_clock (P := P) (w := w) (base := base) (cl := cl) X.f_law_near_clock X.m_max X.m_range X.m_tuple h_law_draw h_law_offset
  exact fn_law (cl := cl) F X.m_range X.m_min X.m_sorted h_law_clock h_law_draw h_law_near_clock h_law_rule h_law_tape h_days_of h_how_often h_local h_meetings h_moments
theorem law_end {P : Program} {w : World} {K : PySem.W.Frag} {h : Heap} {mg : Str → Option Value} {a0 a1 a2 a3 a4 a5 : Addr} {fa : Addr} (_ : PySem.W.nsIn K mainGlobals "Once" = some (some (.ref a0))) (_ : PySem.W.nsIn K mainGlobals "Days" = some (some (.ref a1))) (_ : PySem.W.nsIn K mainGlobals "Weeks" = some (some (.ref a2))) (_ : PySem.W.nsIn K mainGlobals "Months" = some (some (.ref a3))) (_ : PySem.W.nsIn K mainGlobals "Dates" = some (some (.ref a4))) (_ : PySem.W.nsIn K mainGlobals "Weekdays" = some (some (.ref a5))) (X : Facts a0 a1 a2 a3 a4 a5 K mg (clOf [a0, a1, a2, a3, a4, a5])) (hmg : mg "law" = some (.ref fa)) (hs : ∀ ns : List Int, ns.length ≤ 63 → ∃ S, M.law_v19 [scr ns] [] = .ok (.bl true) S) :
    ∃ fd : FuncData, (∀ (s : Shared) (u : Value), BindsTo s fd ⟨[u], []⟩ [("_law_script", u)]) ∧ ∀ base : Heap, K.In base → base.Ns mainGlobals mg → FnOk P w K mg base (L2.CX P w) 23 fa fd ["_law_script"] (spLaw K) := by
  obtain ⟨f, fd, hm, hk, F⟩ := X.f_law.ex
  rw [hmg] at hm
  cases hm
  obtain ⟨oc, od, kV, dc, pm, an, cdv, ct, osl, rfl, lk, hcd⟩ := F.ex
  exact ⟨_, fun s v => .of_eq rfl, fun base _ _ => law_fn (all_law F X) hs⟩
end G
end
open PySem PySem.W PyProof.Rows
set_option maxRecDepth 100000 in
set_option maxHeartbeats 0 in
theorem PySem.Challenge.cw_guestcopies_k19_whole_the_same_hour_holds : PySem.Challenge.rw_guestcopies_k19_whole_the_same_hour.Holds := by
  w_on; o_law; k_head; (case hw => w_witness2)
  k_fill
  refine G.walk (l := PySem.Challenge.rw_guestcopies_k19_whole_the_same_hour) (k := 23) (x := "_law_script") rfl rfl ⟨rfl, by decide, by decide⟩ (fun w h Y => PySem.W.kIn_of Y) ?F
  case F =>
    intro w mg fa h KX GS hmg
    refine' G.law_end (h := h) ?cA0 ?cA1 ?cA2 ?cA3 ?cA4 ?cA5 ?factsX hmg ?mathX
    case cA0 => k_is
    case cA1 => k_is
    case cA2 => k_is
    case cA3 => k_is
    case cA4 => k_is
    case cA5 => k_is
    case factsX =>
      constructor
      · exact G.fnAt_mk KX GS (by k_is) (by k_is) (by k_is) (by k_is)
      · exact G.fnAt_mk KX GS (by k_is) (by k_is) (by k_is) (by k_is)
      · exact G.fnAt_mk KX GS (by k_is) (by k_is) (by k_is) (by k_is)
      · exact G.fnAt_mk KX GS (by k_is) (by k_is) (by k_is) (by k_is)
      · exact G.fnAt_mk KX GS (by k_is) (by k_is) (by k_is) (by k_is)
      · exact G.fnAt_mk KX GS (by k_is) (by k_is) (by k_is) (by k_is)
      · exact G.fnAt_mk KX GS (by k_is) (by k_is) (by k_is) (by k_is)
      · exact G.fnAt_mk KX GS (by k_is) (by k_is) (by k_is) (by k_is)
      · exact G.fnAt_mk KX GS (by k_is) (by k_is) (by k_is) (by k_is)
      · exact G.fnAt_mk KX GS (by k_is) (by k_is) (by k_is) (by k_is)
      · exact G.fnAt_mk KX GS (by k_is) (by k_is) (by k_is) (by k_is)
      · exact G.fnAt_mk KX GS (by k_is) (by k_is) (by k_is) (by k_is)
      · exact G.fnAt_mk KX GS (by k_is) (by k_is) (by k_is) (by k_is)
      · exact G.fnAt_mk KX GS (by k_is) (by k_is) (by k_is) (by k_is)
      · exact G.fnAt_mk KX GS (by k_is) (by k_is) (by k_is) (by k_is)
      · exact G.fnAt_mk KX GS (by k_is) (by k_is) (by k_is) (by k_is)
      · exact G.fnAt_mk KX GS (by k_is) (by k_is) (by k_is) (by k_is)
      · exact G.fnAt_mk KX GS (by k_is) (by k_is) (by k_is) (by k_is)
      · exact G.fnAt_mk KX GS (by k_is) (by k_is) (by k_is) (by k_is)
      · exact G.fnAt_mk KX GS (by k_is) (by k_is) (by k_is) (by k_is)
      · exact G.fnAt_mk KX GS (by k_is) (by k_is) (by k_is) (by k_is)
      · exact G.fnAt_mk KX GS (by k_is) (by k_is) (by k_is) (by k_is)
      · exact G.fnAt_mk KX GS (by k_is) (by k_is) (by k_is) (by k_is)
      · exact G.fnAt_mk KX GS (by k_is) (by k_is) (by k_is) (by k_is)
      · exact G.fnAt_mk KX GS (by k_is) (by k_is) (by k_is) (by k_is)
      · exact G.fnAt_mk KX GS (by k_is) (by k_is) (by k_is) (by k_is)
      · exact G.fnAt_mk KX GS (by k_is) (by k_is) (by k_is) (by k_is)
      · exact G.fnAt_mk KX GS (by k_is) (by k_is) (by k_is) (by k_is)
      · exact G.gc_int KX GS (by k_is)
      · exact G.gc_tup (ds := [.int 31, .int 28, .int 31, .int 30, .int 31, .int 30, .int 31, .int 31, .int 30, .int 31, .int 30, .int 31]) (vs := [L2.V.int 31, L2.V.int 28, L2.V.int 31, L2.V.int 30, L2.V.int 31, L2.V.int 30, L2.V.int 31, L2.V.int 31, L2.V.int 30, L2.V.int 31, L2.V.int 30, L2.V.int 31]) KX GS (by k_is) (by k_is) (by decide) (.cons ⟨_, rfl⟩ (.cons ⟨_, rfl⟩ (.cons ⟨_, rfl⟩ (.cons ⟨_, rfl⟩ (.cons ⟨_, rfl⟩ (.cons ⟨_, rfl⟩ (.cons ⟨_, rfl⟩ (.cons ⟨_, rfl⟩ (.cons ⟨_, rfl⟩ (.cons ⟨_, rfl⟩ (.cons ⟨_, rfl⟩ (.cons ⟨_, rfl⟩ .nil)))))))))))) (G.RepL.cons rfl (G.RepL.cons rfl (G.RepL.cons rfl (G.RepL.cons rfl (G.RepL.cons rfl (G.RepL.cons rfl (G.RepL.cons rfl (G.RepL.cons rfl (G.RepL.cons rfl (G.RepL.cons rfl (G.RepL.cons rfl (G.RepL.cons rfl G.RepL.nil))))))))))))
      · exact G.gc_int KX GS (by k_is)
      · exact G.gc_int KX GS (by k_is)
      · exact G.gc_int KX GS (by k_is)
      · exact G.no_of KX GS (by k_is)
      · exact G.no_of KX GS (by k_is)
      · exact G.no_of KX GS (by k_is)
      · exact G.no_of KX GS (by k_is)
      · exact G.no_of KX GS (by k_is)
      · exact G.no_of KX GS (by k_is)
      · exact G.no_of KX GS (by k_is)
      · exact G.cls_mk (by k_is) (by k_is) (by k_is) (by k_is)
      · exact G.cls_mk (by k_is) (by k_is) (by k_is) (by k_is)
      · exact G.cls_mk (by k_is) (by k_is) (by k_is) (by k_is)
      · exact G.cls_mk (by k_is) (by k_is) (by k_is) (by k_is)
      · exact G.cls_mk (by k_is) (by k_is) (by k_is) (by k_is)
      · exact G.cls_mk (by k_is) (by k_is) (by k_is) (by k_is)
      · exact G.na_mk (by k_is)
      · exact G.na_mk (by k_is)
      · exact G.na_mk (by k_is)
      · exact G.na_mk (by k_is)
      · exact G.na_mk (by k_is)
      · exact G.na_mk (by k_is)
      · exact G.na_mk (by k_is)
      · exact G.na_mk (by k_is)
      · exact G.na_mk (by k_is)
      · exact G.na_mk (by k_is)
      · exact G.na_mk (by k_is)
      · exact G.na_mk (by k_is)
      · exact G.na_mk (by k_is)
      · exact G.na_mk (by k_is)
      · exact G.na_mk (by k_is)
      · exact G.na_mk (by k_is)
      · exact G.na_mk (by k_is)
      · exact G.na_mk (by k_is)
      · exact G.na_mk (by k_is)
      · exact G.na_mk (by k_is)
      · exact G.mtAt_mk (by k_is) (by k_is) (by k_is) (by k_is) (by k_is)
      · exact G.mtAt_mk (by k_is) (by k_is) (by k_is) (by k_is) (by k_is)
      · exact G.mtAt_mk (by k_is) (by k_is) (by k_is) (by k_is) (by k_is)
      · exact G.mtAt_mk (by k_is) (by k_is) (by k_is) (by k_is) (by k_is)
      · exact G.mtAt_mk (by k_is) (by k_is) (by k_is) (by k_is) (by k_is)
      · exact G.mtAt_mk (by k_is) (by k_is) (by k_is) (by k_is) (by k_is)
      · exact G.mtAt_mk (by k_is) (by k_is) (by k_is) (by k_is) (by k_is)
      · exact G.mtAt_mk (by k_is) (by k_is) (by k_is) (by k_is) (by k_is)
      · exact G.mtAt_mk (by k_is) (by k_is) (by k_is) (by k_is) (by k_is)
      · exact G.mtAt_mk (by k_is) (by k_is) (by k_is) (by k_is) (by k_is)
      · exact G.mtAt_mk (by k_is) (by k_is) (by k_is) (by k_is) (by k_is)
      · exact G.mtAt_mk (by k_is) (by k_is) (by k_is) (by k_is) (by k_is)
      · exact G.mtAt_mk (by k_is) (by k_is) (by k_is) (by k_is) (by k_is)
      · exact G.mtAt_mk (by k_is) (by k_is) (by k_is) (by k_is) (by k_is)
      · exact G.mtAt_mk (by k_is) (by k_is) (by k_is) (by k_is) (by k_is)
      · exact G.mtAt_mk (by k_is) (by k_is) (by k_is) (by k_is) (by k_is)
      · exact G.mtAt_mk (by k_is) (by k_is) (by k_is) (by k_is) (by k_is)
      · exact G.mtAt_mk (by k_is) (by k_is) (by k_is) (by k_is) (by k_is)
      · exact G.mtAt_mk (by k_is) (by k_is) (by k_is) (by k_is) (by k_is)
      · exact G.mtAt_mk (by k_is) (by k_is) (by k_is) (by k_is) (by k_is)
      · exact G.mtAt_mk (by k_is) (by k_is) (by k_is) (by k_is) (by k_is)
      · exact G.mtAt_mk (by k_is) (by k_is) (by k_is) (by k_is) (by k_is)
      · exact G.mtAt_mk (by k_is) (by k_is) (by k_is) (by k_is) (by k_is)
      · exact G.mtAt_mk (by k_is) (by k_is) (by k_is) (by k_is) (by k_is)
      · exact G.mtAt_mk (by k_is) (by k_is) (by k_is) (by k_is) (by k_is)
      · exact G.mtAt_mk (by k_is) (by k_is) (by k_is) (by k_is) (by k_is)
      · exact G.mtAt_mk (by k_is) (by k_is) (by k_is) (by k_is) (by k_is)
      · exact G.kdAt_mk KX GS (by k_is) (by k_is) (by k_is) (by k_is) (by k_is) (by k_is) (by k_is) (by k_is)
      · exact G.kdAt_mk KX GS (by k_is) (by k_is) (by k_is) (by k_is) (by k_is) (by k_is) (by k_is) (by k_is)
      · exact G.kdAt_mk KX GS (by k_is) (by k_is) (by k_is) (by k_is) (by k_is) (by k_is) (by k_is) (by k_is)
      · exact G.kdAt_mk KX GS (by k_is) (by k_is) (by k_is) (by k_is) (by k_is) (by k_is) (by k_is) (by k_is)
      · exact G.kdAt_mk KX GS (by k_is) (by k_is) (by k_is) (by k_is) (by k_is) (by k_is) (by k_is) (by k_is)
      · exact G.cdAt_mk KX GS (by k_is) (by k_is) (by k_is) (by k_is) (by k_is) (by k_is) (by k_is)
      · exact G.cdAt_mk KX GS (by k_is) (by k_is) (by k_is) (by k_is) (by k_is) (by k_is) (by k_is)
    case mathX => intro ns hns; exact G.s_law_k19 hns
