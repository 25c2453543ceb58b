import PyProof.Rows.All
import Wide.All
import OpenK.AllK
import Wide.FinOn
import HandS.ForMost
import HandS.Wide
import HandS.Exc
import HandS.ExcOwn
import HandS.WordsExc
import HandS.TryOnly
import HandS.IsInst
import HandS.Style
import HandS.TupMul
import HandS.SortOrd
import HandS.SortRule
import HandS.Flow
import HandS.Zip
import HandS.Rev
import HandS.TupAny
import HandS.SortInts
import HandS.EndBits
import HandS.ClsMeth
import HandS.ExcInit
import HandS.ExcIs
import HandS.ExcField
import HandS.TryMany
import HandS.Deep
import HandS.StrMore
import HandS.StrSplit
import HandS.Replace
import HandS.Conv
import HandS.SetKeys
import HandS.ListItems
import HandS.DictTup
import PyProof.StrOps2
import PyProof.Rows.IntBool
import HandS.RaiseMore
import KE.SortData
import KE.GoesEnum
import PyProof.ReprRoads
import PyProof.CallFns
import KE.SortKeyHeap
import HandS.SortKw
import PyProof.Rows.StrRev
import KE.KExcIs
import HandS.ExcValue
import HandS.Strs
import HandS.Codes
import PyProof.ReprLen
import PySem.Challenge.RW_guestcopies_k04_times_as_texts
set_option Elab.async false
set_option linter.all false
set_option maxRecDepth 100000
namespace G
open PySem PySem.Spec PyProof.Rows L2

/-- data: trees; frl: a list that is locked (the script); ins: a frozen instance; obj: a thing of the store; exc: an exception that was caught -/
inductive D where
  | non | bl (b : Bool) | int (i : Int) | str (x : Str)
  | tup (ds : List D) | lst (ds : List D)
  | frl (ds : List D)
  | ins (c : Nat) (ks : List Str) (ds : List D)
  | obj (n : Nat)
  | exc (c : Nat) (ks : List Str) (ds : List D)

/-- what changes: a dict with text and int keys, a list, an instance -/
inductive MO where
  | dict (ks : List (Key × D))
  | lst (ds : List D)
  | ins (c : Nat) (ks : List (Str × D))

abbrev Sto := List MO
/-- an exception: its class, its field (where it has one) -/
structure XV where
  c : Nat
  fs : List (Str × D)

/-- what running gives -/
inductive R (α : Type) where
  | ok (a : α) (S : Sto)
  | exc (e : XV) (S : Sto)
  | bad
def R.bind {α β : Type} (r : R α) (f : α → Sto → R β) : R β := match r with
  | .ok a S => f a S
  | .exc e S => .exc e S
  | .bad => .bad

/-- a slot of a def: not bound, a value, an own list (it may grow) -/
inductive Slot where
  | un
  | val (d : D)
  | own (ds : List D)
abbrev Env := List Slot

/-- at a: an exception of the class C, its dict at dd (if it has one) -/
def exr (C : Addr) (dd : Option Addr) (a : Addr) : HO := .ext fun h => ∃ (oe : Obj) (vs : Array Value), h.get? a = some oe ∧ Zc (.ref C) dd oe ∧ oe.data = .fields vs
mutual
def Rep (K : PySem.W.Frag) (cl : Nat → Addr) (io : List Addr) (H : Hp) : D → V → Prop
  | .non, v => v = .non
  | .bl b, v => v = .bl b
  | .int i, v => v = .int i
  | .str x, v => v = .str x
  | .tup ds, v => ∃ a vs, v = .ref a ∧ SqT K H a vs ∧ RepL K cl io H ds vs
  | .lst ds, v => ∃ a vs, v = .ref a ∧ H a = some (.lst vs) ∧ RepL K cl io H ds vs
  | .frl ds, v => ∃ a vs, v = .ref a ∧ SqL K H a vs ∧ RepL K cl io H ds vs
  | .ins c ks ds, v => ∃ a dx vs, v = .ref a ∧ H a = some (.ins (cl c) dx (ks.zip vs)) ∧ ks.length = vs.length ∧ RepL K cl io H ds vs
  | .obj n, v => ∃ a, v = .ref a ∧ io[n]? = some a
  | .exc c ks ds, v => ∃ a dd vs, v = .ref a ∧ H a = some (exr (cl c) dd a) ∧ ks.length = vs.length ∧ RepL K cl io H ds vs ∧ ((ks = [] ∧ dd = none) ∨ ∃ d, dd = some d ∧ H d = some (.xd (ks.zip vs)))
def RepL (K : PySem.W.Frag) (cl : Nat → Addr) (io : List Addr) (H : Hp) : List D → List V → Prop
  | [], vs => vs = []
  | d :: ds, vs => ∃ v r, vs = v :: r ∧ Rep K cl io H d v ∧ RepL K cl io H ds r
end

section
variable {K : PySem.W.Frag} {cl : Nat → Addr}
theorem Same.seqT {H H' : Hp} {a : Addr} {xs : List V} (e : Same H H') (h : SqT K H a xs) : SqT K H' a xs := by
  rcases h with (h | ⟨o, h⟩) | h
  · exact .inl (.inl (e _ _ h))
  · exact .inl (.inr ⟨o, e _ _ h⟩)
  · exact .inr h
/-- the store's addresses only grow -/
def Pre (io io' : List Addr) : Prop := ∀ (n : Nat) (a : Addr), io[n]? = some a → io'[n]? = some a
theorem Pre.refl (io : List Addr) : Pre io io := fun _ _ h => h
theorem Pre.trans {a b c : List Addr} (h : Pre a b) (h' : Pre b c) : Pre a c := fun n x e => h' n x (h n x e)
mutual
theorem Rep.mono {io io' : List Addr} {H H' : Hp} (hp : Pre io io') (hs : Same H H') : ∀ (d : D) (v : V), Rep K cl io H d v → Rep K cl io' H' d v
  | .non, _, h => h
  | .bl _, _, h => h
  | .int _, _, h => h
  | .str _, _, h => h
  | .tup ds, _, h => by
    obtain ⟨a, vs, e, q, r⟩ := h
    exact ⟨a, vs, e, Same.seqT hs q, RepL.mono hp hs ds vs r⟩
  | .lst ds, _, h => by
    obtain ⟨a, vs, e, q, r⟩ := h
    exact ⟨a, vs, e, hs _ _ q, RepL.mono hp hs ds vs r⟩
  | .frl ds, _, h => by
    obtain ⟨a, vs, e, q, r⟩ := h
    exact ⟨a, vs, e, hs.seq q, RepL.mono hp hs ds vs r⟩
  | .ins c ks ds, _, h => by
    obtain ⟨a, dx, vs, e, q, l, r⟩ := h
    exact ⟨a, dx, vs, e, hs _ _ q, l, RepL.mono hp hs ds vs r⟩
  | .obj n, _, h => by
    obtain ⟨a, e, q⟩ := h
    exact ⟨a, e, hp n a q⟩
  | .exc c ks ds, _, h => by
    obtain ⟨a, dd, vs, e, q, l, r, x⟩ := h
    exact ⟨a, dd, vs, e, hs _ _ q, l, RepL.mono hp hs ds vs r, x.imp_right fun ⟨d, e1, e2⟩ => ⟨d, e1, hs _ _ e2⟩⟩
theorem RepL.mono {io io' : List Addr} {H H' : Hp} (hp : Pre io io') (hs : Same H H') : ∀ (ds : List D) (vs : List V), RepL K cl io H ds vs → RepL K cl io' H' ds vs
  | [], _, h => h
  | d :: ds, _, h => by
    obtain ⟨v, r, e, h1, h2⟩ := h
    exact ⟨v, r, e, Rep.mono hp hs d v h1, RepL.mono hp hs ds r h2⟩
end
theorem RepL.length {io : List Addr} {H : Hp} : ∀ {ds : List D} {vs : List V}, RepL K cl io H ds vs → ds.length = vs.length
  | [], _, h => by cases h; rfl
  | _ :: _, _, h => by
    obtain ⟨v, r, e, _, h2⟩ := h
    subst e
    simp [RepL.length h2]
theorem RepL.get {io : List Addr} {H : Hp} : ∀ {ds : List D} {vs : List V} {i : Nat} {d : D}, RepL K cl io H ds vs → ds[i]? = some d → ∃ v, vs[i]? = some v ∧ Rep K cl io H d v
  | [], _, _, _, _, e => by simp at e
  | _ :: _, _, 0, _, h, e => by
    obtain ⟨v, r, e1, h1, h2⟩ := h
    subst e1
    simp at e; subst e
    exact ⟨v, by simp, h1⟩
  | _ :: _, _, i + 1, _, h, e => by
    obtain ⟨v, r, e1, h1, h2⟩ := h
    subst e1
    obtain ⟨w, h3, h4⟩ := RepL.get (i := i) h2 (by simpa using e)
    exact ⟨w, by simpa using h3, h4⟩
theorem RepL.nil {io : List Addr} {H : Hp} : RepL K cl io H [] [] := rfl
theorem RepL.cons {io : List Addr} {H : Hp} {d : D} {v : V} {ds : List D} {vs : List V} (h : Rep K cl io H d v) (t : RepL K cl io H ds vs) : RepL K cl io H (d :: ds) (v :: vs) := ⟨v, vs, rfl, h, t⟩
theorem RepL.append {io : List Addr} {H : Hp} : ∀ {ds es : List D} {vs ws : List V}, RepL K cl io H ds vs → RepL K cl io H es ws → RepL K cl io H (ds ++ es) (vs ++ ws)
  | [], _, _, _, h, t => by cases h; exact t
  | d :: ds, _, _, _, h, t => by
    obtain ⟨v, r, e, h1, h2⟩ := h
    subst e
    exact .cons h1 (RepL.append h2 t)
theorem RepL.take {io : List Addr} {H : Hp} : ∀ {ds : List D} {vs : List V} (n : Nat), RepL K cl io H ds vs → RepL K cl io H (ds.take n) (vs.take n)
  | _, _, 0, _ => by simp; exact .nil
  | [], _, _ + 1, h => by cases h; exact .nil
  | d :: ds, _, n + 1, h => by
    obtain ⟨v, r, e, h1, h2⟩ := h
    subst e
    exact .cons h1 (RepL.take n h2)
theorem RepL.drop {io : List Addr} {H : Hp} : ∀ {ds : List D} {vs : List V} (n : Nat), RepL K cl io H ds vs → RepL K cl io H (ds.drop n) (vs.drop n)
  | _, _, 0, h => h
  | [], _, _ + 1, h => by cases h; exact .nil
  | d :: ds, _, n + 1, h => by
    obtain ⟨v, r, e, h1, h2⟩ := h
    subst e
    exact RepL.drop n h2
theorem RepL.reverse {io : List Addr} {H : Hp} : ∀ {ds : List D} {vs : List V}, RepL K cl io H ds vs → RepL K cl io H ds.reverse vs.reverse
  | [], _, h => by cases h; exact .nil
  | d :: ds, _, h => by
    obtain ⟨v, r, e, h1, h2⟩ := h
    subst e
    simp only [List.reverse_cons]
    exact (RepL.reverse h2).append (.cons h1 .nil)
theorem RepL.set {io : List Addr} {H : Hp} {d : D} {v : V} (hd : Rep K cl io H d v) : ∀ {ds : List D} {vs : List V} (i : Nat), RepL K cl io H ds vs → RepL K cl io H (ds.set i d) (vs.set i v)
  | [], _, _, h => by cases h; exact .nil
  | _ :: _, _, 0, h => by
    obtain ⟨w, r, e, h1, h2⟩ := h
    subst e
    exact .cons hd h2
  | _ :: _, _, i + 1, h => by
    obtain ⟨w, r, e, h1, h2⟩ := h
    subst e
    exact .cons h1 (RepL.set hd i h2)

/-- an object of the store as it stands at a -/
def RepO (K : PySem.W.Frag) (cl : Nat → Addr) (io : List Addr) (H0 H : Hp) (a : Addr) : MO → Prop
  | .dict kvs => ∃ vs, H a = some (.dK ((kvs.map (·.1)).zip vs)) ∧ RepL K cl io H0 (kvs.map (·.2)) vs
  | .lst ds => ∃ vs, H a = some (.lst vs) ∧ RepL K cl io H0 ds vs
  | .ins c fs => ∃ dx vs, H a = some (.ins (cl c) dx ((fs.map (·.1)).zip vs)) ∧ RepL K cl io H0 (fs.map (·.2)) vs

/-- the store and what never changes: H0 within H, the store's objects apart -/
structure StR (K : PySem.W.Frag) (cl : Nat → Addr) (io : List Addr) (H0 H : Hp) (S : Sto) : Prop where
  sub : Same H0 H
  len : io.length = S.length
  out : ∀ (n : Nat) a, io[n]? = some a → H0 a = none
  inj : ∀ (n m : Nat) a, io[n]? = some a → io[m]? = some a → n = m
  ob : ∀ (n : Nat) a o, io[n]? = some a → S[n]? = some o → RepO K cl io H0 H a o

/-- from one place to a later one: all that was tracked stays but the store's objects; what is new was free -/
structure Ev (io : List Addr) (H0 H : Hp) (io' : List Addr) (H0' H' : Hp) : Prop where
  pre : Pre io io'
  new : ∀ a, a ∈ io' → a ∈ io ∨ H a = none
  h0 : Same H0 H0'
  h0n : ∀ a o, H0' a = some o → H0 a = some o ∨ H a = none
  keep : ∀ a o, H a = some o → a ∉ io → H' a = some o
  dom : ∀ a, H a ≠ none → H' a ≠ none

theorem Ev.refl {io : List Addr} {H0 H : Hp} : Ev io H0 H io H0 H :=
  ⟨.refl _, fun _ h => .inl h, .refl _, fun _ _ h => .inl h, fun _ _ h _ => h, fun _ h => h⟩
theorem Pre.mem {io io' : List Addr} (h : Pre io io') {a : Addr} (m : a ∈ io) : a ∈ io' := by
  obtain ⟨n, e⟩ := List.mem_iff_getElem?.mp m
  exact List.mem_iff_getElem?.mpr ⟨n, h n a e⟩
theorem Ev.trans {io io' io'' : List Addr} {H0 H H0' H' H0'' H'' : Hp} (x : Ev io H0 H io' H0' H') (y : Ev io' H0' H' io'' H0'' H'') : Ev io H0 H io'' H0'' H'' where
  pre := x.pre.trans y.pre
  new := fun a m => by
    rcases y.new a m with h | h
    · exact x.new a h
    · refine .inr ?_
      cases q : H a with
      | none => rfl
      | some o => exact absurd h (x.dom a (by simp [q]))
  h0 := x.h0.trans y.h0
  h0n := fun a o e => by
    rcases y.h0n a o e with h | h
    · exact x.h0n a o h
    · refine .inr ?_
      cases q : H a with
      | none => rfl
      | some o => exact absurd h (x.dom a (by simp [q]))
  keep := fun a o e n => y.keep a o (x.keep a o e n) fun m => by
    rcases x.new a m with h | h
    · exact n h
    · rw [e] at h; cases h
  dom := fun a h => y.dom a (x.dom a h)

/-- an own slot's address -/
abbrev Own := List (Option Addr)
def SlotR (K : PySem.W.Frag) (cl : Nat → Addr) (io : List Addr) (H0 H : Hp) (sv : Option V) (ow : Option Addr) : Slot → Prop
  | .un => ow = none
  | .val d => ow = none ∧ ∃ v, sv = some v ∧ Rep K cl io H0 d v
  | .own ds => ∃ a vs, ow = some a ∧ sv = some (.ref a) ∧ H a = some (.lst vs) ∧ H0 a = none ∧ a ∉ io ∧ RepL K cl io H0 ds vs

structure EnvR (K : PySem.W.Frag) (cl : Nat → Addr) (io : List Addr) (om : Own) (H0 H : Hp) (env : Env) (σ : L2.St) : Prop where
  len : env.length = σ.length
  lenO : om.length = σ.length
  slot : ∀ (i : Nat) s sv ow, env[i]? = some s → σ[i]? = some sv → om[i]? = some ow → SlotR K cl io H0 H sv ow s
  inj : ∀ (i j : Nat) a, om[i]? = some (some a) → om[j]? = some (some a) → i = j

structure Rel (K : PySem.W.Frag) (cl : Nat → Addr) (io : List Addr) (om : Own) (H0 H : Hp) (env : Env) (S : Sto) (σ : L2.St) : Prop where
  st : StR K cl io H0 H S
  en : EnvR K cl io om H0 H env σ

theorem SlotR.ev {io io' : List Addr} {H0 H H0' H' : Hp} {sv : Option V} {ow : Option Addr} (x : Ev io H0 H io' H0' H') {s : Slot} (h : SlotR K cl io H0 H sv ow s) : SlotR K cl io' H0' H' sv ow s := by
  cases s with
  | un => exact h
  | val d =>
    obtain ⟨e, v, e2, r⟩ := h
    exact ⟨e, v, e2, Rep.mono x.pre x.h0 d v r⟩
  | own ds =>
    obtain ⟨a, vs, e, e2, e3, e4, e5, r⟩ := h
    refine ⟨a, vs, e, e2, x.keep a _ e3 e5, ?_, ?_, RepL.mono x.pre x.h0 ds vs r⟩
    · cases q : H0' a with
      | none => rfl
      | some o =>
        rcases x.h0n a o q with z | z
        · rw [e4] at z; cases z
        · rw [e3] at z; cases z
    · intro m
      rcases x.new a m with z | z
      · exact e5 z
      · rw [e3] at z; cases z
theorem EnvR.ev {io io' : List Addr} {om : Own} {H0 H H0' H' : Hp} {env : Env} {σ : L2.St} (x : Ev io H0 H io' H0' H') (h : EnvR K cl io om H0 H env σ) : EnvR K cl io' om H0' H' env σ :=
  ⟨h.len, h.lenO, fun i s sv ow e1 e2 e3 => (h.slot i s sv ow e1 e2 e3).ev x, h.inj⟩
theorem Rel.ev {io io' : List Addr} {om : Own} {H0 H H0' H' : Hp} {env : Env} {S S' : Sto} {σ : L2.St} (x : Ev io H0 H io' H0' H') (h : Rel K cl io om H0 H env S σ) (st : StR K cl io' H0' H' S') : Rel K cl io' om H0' H' env S' σ :=
  ⟨st, h.en.ev x⟩

end
end G

namespace G
open PySem PySem.Spec PyProof.Rows L2
section
variable {prog : Program} {w : World} {A : Around} {E : Value → Shared → Prop} {s : Shared}
end
section
variable {X : Cx}
def tRevT (K : PySem.W.Frag) (te : TE) : TE := fun σ H Q => te σ H fun x H1 => ∃ a xs, x = .ref a ∧ SqT K H1 a xs ∧ ∀ p, H1 p = none → Q (.ref p) (upd H1 p (.tup xs.reverse))
end
end G

namespace G
open PySem PySem.Spec PyProof.Rows L2
def repS (z : Str) (k : Int) : Str := ⟨(List.replicate k.toNat z.cps.toList).flatten.toArray⟩
theorem foldl_repA (its : List Nat) : ∀ (k : Nat) (acc : List Nat),
    List.foldl (fun x1 x2 => x1 ++ x2) acc.toArray (List.replicate k its.toArray) = (acc ++ (List.replicate k its).flatten).toArray
  | 0, acc => by simp
  | k + 1, acc => by
    have e : acc.toArray ++ its.toArray = (acc ++ its).toArray := by simp
    have e2 : (acc ++ its) ++ (List.replicate k its).flatten = acc ++ (List.replicate (k + 1) its).flatten := by
      rw [List.replicate_succ, List.flatten_cons, List.append_assoc]
    rw [← e2, ← foldl_repA its k (acc ++ its), ← e, List.replicate_succ, List.foldl_cons]
def rRepS : R2 := fun x y H Q => ∃ z k, x = .str z ∧ y = .int k ∧ 0 ≤ k ∧ k ≤ 10000 ∧ z.length ≤ 10000 ∧ z.length * k.toNat ≤ 16000000 ∧ Q (.str (repS z k)) H
theorem op_repS {X : Cx} : OpR X (binaryOp .Mult) rRepS := by
  intro pins s σ H x y v u Q I rx ry h
  obtain ⟨z, k, rfl, rfl, h1, h2, hz, hzz, q⟩ := h
  obtain ⟨t, rfl⟩ := rx
  obtain ⟨t', rfl⟩ := ry
  refine PySem.P.mul_str (by rw [decide_eq_false (by omega), decide_eq_false (by omega)]; rfl) (fun g1 g2 g3 => ?_) (fun g1 g2 => ?_) ?_
  · have a1 : (z.length : Int) * k ≤ 10000 * k := Int.mul_le_mul_of_nonneg_right (by omega) (by omega)
    have : (z.length : Int) ≤ (2 ^ 63 - 1) / k := Int.le_ediv_of_mul_le (by omega) (by omega)
    omega
  · exact decide_eq_false (by rw [PySem.sizeLine_eq]; omega)
  · have hS : (⟨(List.replicate k.toNat z.cps).foldl (· ++ ·) #[]⟩ : Str) = repS z k := by
      have := foldl_repA z.cps.toList k.toNat []
      rw [List.nil_append] at this
      unfold repS
      rw [← this]
    have hL : (repS z k).length = z.length * k.toNat := by
      unfold repS Str.length
      simp only [List.size_toArray]
      induction k.toNat with
      | zero => rfl
      | succ n ih => rw [List.replicate_succ, List.flatten_cons, List.length_append, ih, Nat.mul_succ, Array.length_toList]; omega
    split
    · rename_i g
      have : k = 0 := by omega
      subst this
      exact ⟨by rw [show Str.empty.length = 0 from rfl]; omega, .str (repS z 0), H, I.tok _, ⟨_, by unfold repS; rfl⟩, q⟩
    · split
      · rename_i g g2
        have e : repS z k = z := by
          rcases Bool.or_eq_true_iff.mp g2 with g2 | g2
          · have : k = 1 := by simpa using g2
            subst this
            unfold repS; simp
          · have : z.length = 0 := by simpa using g2
            have h0 : z.cps.toList = [] := by
              have : z.cps.toList.length = 0 := by rw [Array.length_toList]; exact this
              exact List.eq_nil_of_length_eq_zero this
            have hz : z = ⟨#[]⟩ := by
              cases z with
              | mk c => simp only [Array.toList_eq_nil_iff] at h0; rw [h0]
            unfold repS
            rw [h0, hz]
            simp
        rw [e] at q
        exact ⟨.str z, H, I, ⟨_, rfl⟩, q⟩
      · rw [hS]
        exact ⟨by rw [hL, PySem.sizeLine_eq]; omega, .str (repS z k), H, I.tok _, ⟨_, rfl⟩, q⟩
def tI (k : Bool) : Int := if k = true then 1 else 0
def rAddB : R2 := fun x y H Q => (∃ k i, x = .bl k ∧ y = .int i ∧ Q (.int (tI k + i)) H) ∨ ∃ i k, x = .int i ∧ y = .bl k ∧ Q (.int (i + tI k)) H
def rSubB : R2 := fun x y H Q => (∃ k i, x = .bl k ∧ y = .int i ∧ Q (.int (tI k - i)) H) ∨ ∃ i k, x = .int i ∧ y = .bl k ∧ Q (.int (i - tI k)) H
theorem op_addB {X : Cx} : OpR X (binaryOp .Add) rAddB := by
  intro pins s σ H x y v u Q I rx ry h
  rcases h with ⟨k, i, rfl, rfl, q⟩ | ⟨i, k, rfl, rfl, q⟩
  · obtain ⟨t, rfl⟩ := ry
    cases rx
    exact PySem.IntBool.add_bool_int ⟨.int (tI k + i), H, I.tok _, ⟨_, rfl⟩, q⟩
  · obtain ⟨t, rfl⟩ := rx
    cases ry
    exact add_int_bool ⟨.int (i + tI k), H, I.tok _, ⟨_, rfl⟩, q⟩
theorem op_subB {X : Cx} : OpR X (binaryOp .Sub) rSubB := by
  intro pins s σ H x y v u Q I rx ry h
  rcases h with ⟨k, i, rfl, rfl, q⟩ | ⟨i, k, rfl, rfl, q⟩
  · obtain ⟨t, rfl⟩ := ry
    cases rx
    exact PySem.IntBool.sub_bool_int ⟨.int (tI k - i), H, I.tok _, ⟨_, rfl⟩, q⟩
  · obtain ⟨t, rfl⟩ := rx
    cases ry
    exact PySem.IntBool.sub_int_bool ⟨.int (i - tI k), H, I.tok _, ⟨_, rfl⟩, q⟩
/-- str of a number, a truth, a text -/
def rStrA : List V → Hp → VK → Prop := fun xs H Q => (∃ i : Int, xs = [.int i] ∧ i.natAbs.log2 < 1920 ∧ Q (.str (toString i)) H) ∨ (∃ k : Bool, xs = [.bl k] ∧ Q (.str (if k then "True" else "False")) H) ∨ ∃ a, xs = [.str a] ∧ Q (.str a) H
theorem call_strA {X : Cx} : CallR X (.type "str") rStrA := by
  intro pins s σ H xs us Q I r h
  rcases h with h | ⟨k, rfl, q⟩ | h
  · exact call_str_int pins s σ H xs us Q I r h
  · obtain ⟨u, rfl, ru⟩ := vals1 r
    cases ru
    exact PySem.P.str_of_bool ⟨.str (if k then "True" else "False"), H, I.tok _, ⟨_, rfl⟩, q⟩
  · exact SkE.call_str_str pins s σ H xs us Q I r h
end G

set_option maxHeartbeats 4000000
namespace G
open PySem PySem.Spec PyProof.Rows L2
theorem tuple_mul_1 (l : Addr) (items : Array Value) (n : Nat) (dd : Option Addr) (sl : Array (Option Value)) (u : Tok) :
    Meets (Builtin.«tuple.__mul__» ⟨[.ref l, .int 1 u], []⟩) (fun _ R s => s.heap.get? l = some { cls := .type "tuple", dict := dd, data := .seq items n, slots := sl } ∧
      R (.ok (.ret (Value.ref l))) s) :=
  .of_wp fun prog w A R s h => by
    obtain ⟨hp, g, d, tk, os⟩ := s
    obtain ⟨hl, h⟩ := h
    have f1 := AutoSeq1.idx_int
    wp_walk using wpAny_loadPart' hl
    repeat (first
      | (refine wpAny_ite_false (decide_eq_false (by simp)) ?_; wp_walk using wpAny_loadPart' hl)
      | (refine wpAny_ite_true (by simp) ?_; wp_walk using wpAny_loadPart' hl))
    exact ⟨_, rfl, h⟩
theorem tuple_mul_0 (l : Addr) (items : Array Value) (n : Nat) (dd : Option Addr) (sl : Array (Option Value)) (u : Tok) (hi : items.isEmpty = false) :
    Meets (Builtin.«tuple.__mul__» ⟨[.ref l, .int 0 u], []⟩) (fun _ R s => s.heap.get? l = some { cls := .type "tuple", dict := dd, data := .seq items n, slots := sl } ∧
      R (.ok (.ret (Value.ref s.heap.objs.size))) { s with heap := s.heap.push { cls := Value.type "tuple", data := Data.seq #[] }, toks := s.toks }) :=
  .of_wp fun prog w A R s h => by
    obtain ⟨hp, g, d, tk, os⟩ := s
    obtain ⟨hl, h⟩ := h
    have f1 := AutoSeq1.idx_int
    wp_walk using wpAny_loadPart' hl
    repeat (first
      | (refine wpAny_ite_false (decide_eq_false (by simp [hi])) ?_; wp_walk using wpAny_loadPart' hl)
      | (refine wpAny_ite_true (by simp) ?_; wp_walk using wpAny_loadPart' hl))
    exact ⟨_, rfl, h⟩
def rRepT01 (K : PySem.W.Frag) : R2 := fun x y H Q => ∃ l k xs, x = .ref l ∧ y = .int k ∧ SqT K H l xs ∧ xs ≠ [] ∧ ((k = 1 ∧ Q (.ref l) H) ∨ (k = 0 ∧ ∀ p, H p = none → Q (.ref p) (upd H p (.tup []))))
theorem op_repT01 {X : Cx} : OpR X (binaryOp .Mult) (rRepT01 X.K) := by
  intro pins s σ H x y v u Q I rx ry h
  obtain ⟨l, k, xs, rfl, rfl, hT, hne, q⟩ := h
  cases rx
  obtain ⟨t, rfl⟩ := ry
  obtain ⟨its, r, ⟨⟨cls, dd, data, sl⟩, ho, hc, n, hd⟩, hs⟩ := I.tuple hT
  simp only at hc hd
  subst hc hd
  have hle : its.length = xs.length := r.length.symm
  have hi : its.toArray.isEmpty = false := by
    cases its with
    | nil => exact absurd (List.eq_nil_of_length_eq_zero hle.symm) hne
    | cons a b => rfl
  refine wpAny_binaryOp_repeat_ref (T := "tuple") (U := "int") (by decide) ⟨_, ho, rfl⟩ (fun s' => typeIs_int s' k t) noFill_tuple_mul F.fills_int_mul F.slot_int_rmul repeat_tuple F.slot_int_index.lookup
    (call_meets F.slot_int_rmul (typeIs_int s k t) F.entry_int_rmul (F.args_int_rmul_2 _ _) (int_rmul_tuple k t l its.toArray n dd sl)
      ⟨ho, rfl, ⟨_, ho, rfl⟩, ?_⟩)
  rcases q with ⟨rfl, q⟩ | ⟨rfl, q⟩
  · refine call_meets F.slot_tuple_mul ⟨_, ho, rfl⟩ F.entry_tuple_mul (F.args_tuple_mul_2 _ _) (tuple_mul_1 l its.toArray n dd sl t) ⟨ho, ?_⟩
    exact ⟨.ref l, H, I, rfl, q⟩
  · refine call_meets F.slot_tuple_mul ⟨_, ho, rfl⟩ F.entry_tuple_mul (F.args_tuple_mul_2 _ _) (tuple_mul_0 l its.toArray n dd sl t hi) ⟨ho, ?_⟩
    refine ⟨.ref s.heap.objs.size, _, I.laid (t' := s.toks) (o := .tup []) (fun b ob q => Heap.get?_push_of_some _ q) (Nat.le_refl _) ?_, rfl, q _ (I.hok.fresh (Nat.le_refl _))⟩
    exact ⟨Nat.zero_le _, [], .nil, IsTup.new _ _⟩
end G

namespace G
open PySem PySem.Spec PyProof.Rows L2

abbrev FnSem := List D → Sto → R D
abbrev Sem1 (α : Type) := Env → Sto → R α
abbrev Ex := Sem1 D
/-- what is wanted of an exception -/
abbrev WX := Value → Option Addr → L2.St → Hp → Prop

section
variable (K : PySem.W.Frag) (cl : Nat → Addr)
/-- how a result is borne: a value for good, or (p false) an own list that is borrowed -/
def rD (p : Bool) : List Addr → Hp → Hp → D → V → Prop := fun io H0 H d v => Rep K cl io H0 d v ∨
  (p = false ∧ ∃ ds a vs, d = .lst ds ∧ v = .ref a ∧ H a = some (.lst vs) ∧ a ∉ io ∧ RepL K cl io H0 ds vs)
def rL (p : Bool) (io : List Addr) (H0 H : Hp) : List D → List V → Prop
  | [], vs => vs = []
  | d :: ds, vs => ∃ v r, vs = v :: r ∧ rD K cl p io H0 H d v ∧ rL p io H0 H ds r
def rB : List Addr → Hp → Hp → Bool → Bool → Prop := fun _ _ _ b c => b = c
/-- a new list (of what was at Hs): nothing else knows it -/
def rN (Hs : Hp) : List Addr → Hp → Hp → List D → V → Prop := fun io H0 H ds v => ∃ a vs, v = .ref a ∧ H a = some (.lst vs) ∧ H0 a = none ∧ a ∉ io ∧ Hs a = none ∧ RepL K cl io H0 ds vs
/-- an exception as it lies: its class, its own dict -/
def RepX (io : List Addr) (H0 H : Hp) (e : XV) (c : Value) (dd : Option Addr) : Prop :=
  c = .ref (cl e.c) ∧ (match e.fs with
    | [] => dd = none
    | fs => ∃ d vs, dd = some d ∧ H0 d = some (.xd ((fs.map (·.1)).zip vs)) ∧ RepL K cl io H0 (fs.map (·.2)) vs)

def Post {α β : Type} (rp : List Addr → Hp → Hp → α → β → Prop) (W : WX) (io : List Addr) (H0 H : Hp) (σ : L2.St) (Q : β → Hp → Prop) : R α → Prop
  | .ok d S' => ∀ io' H0' H' v, Ev io H0 H io' H0' H' → StR K cl io' H0' H' S' → rp io' H0' H' d v → Q v H'
  | .exc e S' => ∀ io' H0' H' c dd, Ev io H0 H io' H0' H' → StR K cl io' H0' H' S' → RepX K cl io' H0' H' e c dd → W c dd σ H'
  | .bad => False
def tG {α β : Type} (rp : List Addr → Hp → Hp → α → β → Prop) (W : WX) (f : Sem1 α) : L2.St → Hp → (β → Hp → Prop) → Prop := fun σ H Q =>
  ∃ io om H0 env S, Rel K cl io om H0 H env S σ ∧ Post K cl rp W io H0 H σ Q (f env S)
def tN (W : WX) (f : Sem1 (List D)) : TE := fun σ H Q =>
  ∃ io om H0 env S, Rel K cl io om H0 H env S σ ∧ Post K cl (rN K cl H) W io H0 H σ Q (f env S)
end

section
variable {K : PySem.W.Frag} {cl : Nat → Addr} {W : WX} {io io' : List Addr} {om : Own} {H0 H H0' H' : Hp} {env : Env} {S S' : Sto} {σ : L2.St}
theorem Post.ev {α β : Type} {rp : List Addr → Hp → Hp → α → β → Prop} {Q : β → Hp → Prop} (x : Ev io H0 H io' H0' H') : ∀ {r : R α}, Post K cl rp W io H0 H σ Q r → Post K cl rp W io' H0' H' σ Q r
  | .ok _ _, h => fun a b c v e => h a b c v (x.trans e)
  | .exc _ _, h => fun a b c v d e => h a b c v d (x.trans e)
  | .bad, h => h
theorem Post.mono {α β : Type} {rp : List Addr → Hp → Hp → α → β → Prop} {Q Q' : β → Hp → Prop} (hq : ∀ v H, Q v H → Q' v H) : ∀ {r : R α}, Post K cl rp W io H0 H σ Q r → Post K cl rp W io H0 H σ Q' r
  | .ok _ _, h => fun a b c v e s r => hq _ _ (h a b c v e s r)
  | .exc _ _, h => h
  | .bad, h => h
/-- a step: the first part runs, the rest goes on from where it ends -/
theorem Post.bind {α β γ δ : Type} {rp : List Addr → Hp → Hp → α → β → Prop} {rp' : List Addr → Hp → Hp → γ → δ → Prop} {Q : δ → Hp → Prop} {r : R α} {k : α → Sto → R γ}
    (R0 : Rel K cl io om H0 H env S σ) (h : Post K cl rp' W io H0 H σ Q (r.bind k)) :
    Post K cl rp W io H0 H σ (fun v H1 => ∃ io1 H01 S1 d, Ev io H0 H io1 H01 H1 ∧ Rel K cl io1 om H01 H1 env S1 σ ∧ rp io1 H01 H1 d v ∧ Post K cl rp' W io1 H01 H1 σ Q (k d S1)) r := by
  cases r with
  | ok d S1 => exact fun io1 H01 H1 v e st q => ⟨io1, H01, S1, d, e, R0.ev e st, q, Post.ev e h⟩
  | exc e S1 => exact h
  | bad => exact h
theorem Post.bindE {α β γ δ : Type} {rp : List Addr → Hp → Hp → α → β → Prop} {rp' : List Addr → Hp → Hp → γ → δ → Prop} {Q : δ → Hp → Prop} {r : R α} {k : α → Sto → R γ}
    (R0 : Rel K cl io om H0 H env S σ) (h : Post K cl rp' W io H0 H σ Q (r.bind k)) :
    Post K cl rp W io H0 H σ (fun v H1 => ∃ io1 H01 S1 d, Ev io H0 H io1 H01 H1 ∧ Rel K cl io1 om H01 H1 env S1 σ ∧ rp io1 H01 H1 d v ∧ Post K cl rp' W io1 H01 H1 σ Q (k d S1) ∧ r = .ok d S1) r := by
  cases r with
  | ok d S1 => exact fun io1 H01 H1 v e st q => ⟨io1, H01, S1, d, e, R0.ev e st, q, Post.ev e h, rfl⟩
  | exc e S1 => exact h
  | bad => exact h
/-- the answer is there -/
theorem Post.done {α β : Type} {rp : List Addr → Hp → Hp → α → β → Prop} {Q : β → Hp → Prop} {d : α} {v : β} (R0 : Rel K cl io om H0 H env S σ) (h : Post K cl rp W io H0 H σ Q (.ok d S)) (q : rp io H0 H d v) : Q v H := h io H0 H v .refl R0.st q
theorem Post.done_bl {p : Bool} {Q : VK} {k : Bool} (R0 : Rel K cl io om H0 H env S σ) (h : Post K cl (rD K cl p) W io H0 H σ Q (.ok (.bl k) S)) : Q (.bl k) H := h io H0 H (.bl k) .refl R0.st (.inl rfl)
theorem Post.done_ev {α β : Type} {rp : List Addr → Hp → Hp → α → β → Prop} {Q : β → Hp → Prop} {d : α} {v : β} (h : Post K cl rp W io H0 H σ Q (.ok d S')) (x : Ev io H0 H io' H0' H') (st : StR K cl io' H0' H' S') (q : rp io' H0' H' d v) : Q v H' := h io' H0' H' v x st q
theorem rD.ev {p : Bool} (x : Ev io H0 H io' H0' H') {d : D} {v : V} (h : rD K cl p io H0 H d v) : rD K cl p io' H0' H' d v := by
  rcases h with h | ⟨e, ds, a, vs, rfl, rfl, h1, h2, h3⟩
  · exact .inl (Rep.mono x.pre x.h0 d v h)
  · refine .inr ⟨e, ds, a, vs, rfl, rfl, x.keep a _ h1 h2, fun m => ?_, RepL.mono x.pre x.h0 ds vs h3⟩
    rcases x.new a m with z | z
    · exact h2 z
    · rw [h1] at z; cases z
theorem rL.ev {p : Bool} (x : Ev io H0 H io' H0' H') : ∀ {ds : List D} {vs : List V}, rL K cl p io H0 H ds vs → rL K cl p io' H0' H' ds vs
  | [], _, h => h
  | _ :: _, _, ⟨v, r, e, h1, h2⟩ => ⟨v, r, e, h1.ev x, rL.ev x h2⟩
theorem rD.perm {d : D} {v : V} (h : rD K cl true io H0 H d v) : Rep K cl io H0 d v := by
  rcases h with h | ⟨e, _⟩
  · exact h
  · cases e
theorem rL.perm : ∀ {ds : List D} {vs : List V}, rL K cl true io H0 H ds vs → RepL K cl io H0 ds vs
  | [], _, h => h
  | _ :: _, _, ⟨v, r, e, h1, h2⟩ => ⟨v, r, e, h1.perm, rL.perm h2⟩
theorem rD.lst (st : StR K cl io H0 H S) {p : Bool} {ds : List D} {v : V} (h : rD K cl p io H0 H (.lst ds) v) : ∃ a vs, v = .ref a ∧ H a = some (.lst vs) ∧ RepL K cl io H0 ds vs := by
  rcases h with ⟨a, vs, e, h1, h2⟩ | ⟨_, es, a, vs, e, e2, h1, _, h3⟩
  · exact ⟨a, vs, e, st.sub _ _ h1, h2⟩
  · cases e
    exact ⟨a, vs, e2, h1, h3⟩
theorem rD.tup (st : StR K cl io H0 H S) {p : Bool} {ds : List D} {v : V} (h : rD K cl p io H0 H (.tup ds) v) : ∃ a vs, v = .ref a ∧ SqT K H a vs ∧ RepL K cl io H0 ds vs := by
  rcases h with ⟨a, vs, e, h1, h2⟩ | ⟨_, es, a, vs, e, _⟩
  · exact ⟨a, vs, e, Same.seqT st.sub h1, h2⟩
  · cases e
theorem rD.frl (st : StR K cl io H0 H S) {p : Bool} {ds : List D} {v : V} (h : rD K cl p io H0 H (.frl ds) v) : ∃ a vs, v = .ref a ∧ SqL K H a vs ∧ RepL K cl io H0 ds vs := by
  rcases h with ⟨a, vs, e, h1, h2⟩ | ⟨_, es, a, vs, e, _⟩
  · exact ⟨a, vs, e, st.sub.seq h1, h2⟩
  · cases e
theorem rD.int {p : Bool} {i : Int} {v : V} (h : rD K cl p io H0 H (.int i) v) : v = .int i := by
  rcases h with h | ⟨_, _, _, _, e, _⟩
  · exact h
  · cases e
theorem rD.str {p : Bool} {i : Str} {v : V} (h : rD K cl p io H0 H (.str i) v) : v = .str i := by
  rcases h with h | ⟨_, _, _, _, e, _⟩
  · exact h
  · cases e
theorem rD.bl {p : Bool} {i : Bool} {v : V} (h : rD K cl p io H0 H (.bl i) v) : v = .bl i := by
  rcases h with h | ⟨_, _, _, _, e, _⟩
  · exact h
  · cases e
theorem rD.non {p : Bool} {v : V} (h : rD K cl p io H0 H .non v) : v = .non := by
  rcases h with h | ⟨_, _, _, _, e, _⟩
  · exact h
  · cases e
theorem rD.obj {p : Bool} {n : Nat} {v : V} (h : rD K cl p io H0 H (.obj n) v) : ∃ a, v = .ref a ∧ io[n]? = some a := by
  rcases h with h | ⟨_, _, _, _, e, _⟩
  · exact h
  · cases e
theorem rD.ins (st : StR K cl io H0 H S) {p : Bool} {c : Nat} {ks : List Str} {ds : List D} {v : V} (h : rD K cl p io H0 H (.ins c ks ds) v) : ∃ a dx vs, v = .ref a ∧ H a = some (.ins (cl c) dx (ks.zip vs)) ∧ ks.length = vs.length ∧ RepL K cl io H0 ds vs := by
  rcases h with ⟨a, dx, vs, e, h1, h2, h3⟩ | ⟨_, es, a, vs, e, _⟩
  · exact ⟨a, dx, vs, e, st.sub _ _ h1, h2, h3⟩
  · cases e

theorem RepO.at {K : PySem.W.Frag} {cl : Nat → Addr} {a : Addr} (hp : Pre io io') (h0 : Same H0 H0') (e : H' a = H a) : ∀ {o : MO}, RepO K cl io H0 H a o → RepO K cl io' H0' H' a o
  | .dict kvs, ⟨vs, h1, h2⟩ => ⟨vs, by rw [e]; exact h1, RepL.mono hp h0 _ _ h2⟩
  | .lst ds, ⟨vs, h1, h2⟩ => ⟨vs, by rw [e]; exact h1, RepL.mono hp h0 _ _ h2⟩
  | .ins c fs, ⟨dx, vs, h1, h2⟩ => ⟨dx, vs, by rw [e]; exact h1, RepL.mono hp h0 _ _ h2⟩
theorem RepO.there {a : Addr} : ∀ {o : MO}, RepO K cl io H0 H a o → H a ≠ none
  | .dict _, ⟨_, h1, _⟩ => by rw [h1]; simp
  | .lst _, ⟨_, h1, _⟩ => by rw [h1]; simp
  | .ins _ _, ⟨_, _, h1, _⟩ => by rw [h1]; simp
theorem StR.there (st : StR K cl io H0 H S) {a : Addr} (h : a ∈ io) : H a ≠ none := by
  obtain ⟨n, e⟩ := List.mem_iff_getElem?.mp h
  have hn : n < S.length := by rw [← st.len]; exact (List.getElem?_eq_some_iff.mp e).1
  exact (st.ob n a _ e (List.getElem?_eq_getElem hn)).there
theorem StR.free0 (st : StR K cl io H0 H S) {a : Addr} (h : H a = none) : H0 a = none := st.sub.free h
theorem same_upd {H : Hp} {a : Addr} {o : HO} (h : H a = none) : Same H (upd H a o) := fun b u e => by rw [upd_ne (ne_of_none e h)]; exact e
/-- a new object that never changes -/
theorem StR.new0 (st : StR K cl io H0 H S) {a : Addr} (h : H a = none) (o : HO) : StR K cl io (upd H0 a o) (upd H a o) S ∧ Ev io H0 H io (upd H0 a o) (upd H a o) := by
  have h0 := st.free0 h
  have ne : ∀ b, b ∈ io → b ≠ a := fun b m z => st.there m (z ▸ h)
  refine ⟨⟨fun b u e => ?_, st.len, fun n b e => ?_, st.inj, fun n b u e e2 => ?_⟩, ⟨.refl _, fun b m => .inl m, same_upd h0, fun b u e => ?_, fun b u e _ => same_upd h b u e, fun b hb => ?_⟩⟩
  · by_cases hb : b = a
    · subst hb; rw [upd_same] at e ⊢; exact e
    · rw [upd_ne hb] at e ⊢; exact st.sub b u e
  · rw [upd_ne (ne b (List.mem_of_getElem? e))]; exact st.out n b e
  · exact (st.ob n b u e e2).at (.refl _) (same_upd h0) (upd_ne (ne b (List.mem_of_getElem? e)))
  · by_cases hb : b = a
    · subst hb; exact .inr h
    · rw [upd_ne hb] at e; exact .inl e
  · by_cases he : b = a
    · subst he; rw [upd_same]; simp
    · rw [upd_ne he]; exact hb
/-- a new object -/
theorem StR.new (st : StR K cl io H0 H S) {a : Addr} (h : H a = none) (o : HO) : StR K cl io H0 (upd H a o) S ∧ Ev io H0 H io H0 (upd H a o) := by
  have ne : ∀ b, b ∈ io → b ≠ a := fun b m z => st.there m (z ▸ h)
  refine ⟨⟨fun b u e => same_upd h b u (st.sub b u e), st.len, st.out, st.inj, fun n b u e e2 => ?_⟩, ⟨.refl _, fun b m => .inl m, .refl _, fun b u e => .inl e, fun b u e _ => same_upd h b u e, fun b hb => ?_⟩⟩
  · exact (st.ob n b u e e2).at (.refl _) (.refl _) (upd_ne (ne b (List.mem_of_getElem? e)))
  · by_cases he : b = a
    · subst he; rw [upd_same]; simp
    · rw [upd_ne he]; exact hb
end

section
variable (X : Cx) (cl : Nat → Addr) (W : WX)
abbrev ED (p : Bool) (e : Expr) (f : Ex) : Prop := PE X e (tG X.K cl (rD X.K cl p) W f)
abbrev TD (e : Expr) (f : Sem1 Bool) : Prop := PT X e (tG X.K cl rB W f)
abbrev AD (p : Bool) (es : List Expr) (f : Sem1 (List D)) : Prop := PA X es (tG X.K cl (rL X.K cl p) W f)
abbrev ND (e : Expr) (f : Sem1 (List D)) : Prop := PE X e (tN X.K cl W f)
end
section
variable {X : Cx} {cl : Nat → Addr} {W : WX} {e a b : Expr} {pos : Pos}
theorem weakE {t t' : TE} (h : PE X e t) (q : ∀ σ H Q, t' σ H Q → t σ H Q) : PE X e t' := ⟨fun pins s σ H Q I w => h.run pins s σ H Q I (q σ H Q w)⟩
theorem weakT {t t' : TT} (h : PT X e t) (q : ∀ σ H Q, t' σ H Q → t σ H Q) : PT X e t' := ⟨fun pins s σ H Q I w => h.run pins s σ H Q I (q σ H Q w)⟩
theorem weakA {es : List Expr} {t t' : TA} (h : PA X es t) (q : ∀ σ H Q, t' σ H Q → t σ H Q) : PA X es t' := ⟨fun pos pins s σ H Q I w => h.run pos pins s σ H Q I (q σ H Q w)⟩
theorem weakS {st : Stmt} {t t' : TS} (h : PS X st t) (q : ∀ D σ H, t' D σ H → t D σ H) : PS X st t' := ⟨fun pins s σ H D I w => h.run pins s σ H D I (q D σ H w)⟩
theorem weakSs {st : List Stmt} {t t' : TS} (h : PSs X st t) (q : ∀ D σ H, t' D σ H → t D σ H) : PSs X st t' := ⟨fun pins s σ H D I w => h.run pins s σ H D I (q D σ H w)⟩

def eVar (i : Nat) : Ex := fun env S => match env[i]? with
  | some (.val d) => .ok d S
  | _ => .bad
def eOwn (i : Nat) : Ex := fun env S => match env[i]? with
  | some (.own ds) => .ok (.lst ds) S
  | some (.val d) => .ok d S
  | _ => .bad
def eC (d : D) : Ex := fun _ S => .ok d S
theorem d_var (i : Nat) {x : Str} (hN : X.N[i]? = some x := by rfl) (hv : Vis X.env.scope x := by first | exact Or.inl rfl | exact Or.inr (Or.inl rfl) | exact Or.inr (Or.inr rfl)) (hd : (x == ("__debug__" : Str)) = false := by decide)
    (hcd : (x == ("__classdict__" : Str)) = false := by decide) : ED X cl W true (.Name x pos) (eVar i) := by
  refine weakE (pe_var hN hv hd hcd) fun σ H Q ⟨io, om, H0, env, S, R0, h⟩ => ?_
  unfold eVar at h
  split at h
  · rename_i d he
    have hi : i < σ.length := by rw [← R0.en.len]; exact (List.getElem?_eq_some_iff.mp he).1
    obtain ⟨_, v, hv, r⟩ := R0.en.slot i _ σ[i] (om[i]'(by rw [R0.en.lenO]; exact hi)) he (by simp) (by simp)
    exact ⟨v, by rw [List.getElem?_eq_getElem hi, hv], h.done R0 (.inl r)⟩
  · exact h.elim
end
end G

namespace G
open PySem PySem.Spec PyProof.Rows L2

def okL (n : Nat) : Bool := decide (n ≤ sizeLine)
def mk (b : Bool) (d : D) (S : Sto) : R D := if b then .ok d S else .bad
def opAdd : D → D → Sto → R D
  | .int i, .int j, S => .ok (.int (i + j)) S
  | .str i, .str j, S => mk (okL (i.length + j.length)) (.str (i ++ j)) S
  | .lst a, .lst b, S => mk (okL (a.length + b.length)) (.lst (a ++ b)) S
  | .tup a, .tup b, S => mk (okL (a.length + b.length)) (.tup (a ++ b)) S
  | .bl k, .int j, S => .ok (.int (tI k + j)) S
  | .int i, .bl k, S => .ok (.int (i + tI k)) S
  | _, _, _ => .bad
def opSub : D → D → Sto → R D
  | .int i, .int j, S => .ok (.int (i - j)) S
  | .bl k, .int j, S => .ok (.int (tI k - j)) S
  | .int i, .bl k, S => .ok (.int (i - tI k)) S
  | _, _, _ => .bad
/-- factors of together less than a million bits -/
def okMul (i j : Int) : Bool := decide (i.natAbs.log2 + j.natAbs.log2 < 1000000)
def opMul : D → D → Sto → R D
  | .int i, .int j, S => mk (okMul i j) (.int (i * j)) S
  | .lst a, .int k, S => mk (decide (-(2 ^ 63) ≤ k ∧ k < 2 ^ 63 ∧ a.length * k.toNat ≤ sizeLine)) (.lst (List.replicate k.toNat a).flatten) S
  | .tup a, .int k, S => mk (decide (0 < a.length ∧ 0 ≤ k ∧ k ≤ 1000 ∧ a.length ≤ 1000)) (.tup (List.replicate k.toNat a).flatten) S
  | .str z, .int k, S => mk (decide (0 ≤ k ∧ k ≤ 10000 ∧ z.length ≤ 10000 ∧ z.length * k.toNat ≤ 16000000)) (.str (repS z k)) S
  | _, _, _ => .bad
def okDiv (j : Int) : Bool := decide (0 < j) && decide (j.natAbs.log2 < 9000)
def opFdiv : D → D → Sto → R D
  | .int i, .int j, S => mk (okDiv j) (.int (i / j)) S
  | _, _, _ => .bad
def opMod : D → D → Sto → R D
  | .int i, .int j, S => mk (decide (0 < j)) (.int (i % j)) S
  | _, _, _ => .bad
def opPow : D → D → Sto → R D
  | .int i, .int j, S => mk (decide (0 ≤ j ∧ j ≤ 1000000 ∧ i.natAbs < 2 ^ 64)) (.int (i ^ j.toNat)) S
  | _, _, _ => .bad
def cLt : D → D → Sto → R D
  | .int i, .int j, S => .ok (.bl (decide (i < j))) S
  | .str i, .str j, S => .ok (.bl (decide (i.cps.toList < j.cps.toList))) S
  | _, _, _ => .bad
def cLe : D → D → Sto → R D
  | .int i, .int j, S => .ok (.bl (decide (i ≤ j))) S
  | _, _, _ => .bad
def cGt : D → D → Sto → R D
  | .int i, .int j, S => .ok (.bl (decide (j < i))) S
  | _, _, _ => .bad
def cGe : D → D → Sto → R D
  | .int i, .int j, S => .ok (.bl (decide (j ≤ i))) S
  | _, _, _ => .bad
mutual
def toPy : D → PyData
  | .non => .none
  | .bl b => .bool b
  | .int i => .int i
  | .str x => .str x
  | .tup ds => .tuple (toPyL ds)
  | .lst ds => .list (toPyL ds)
  | .frl ds => .list (toPyL ds)
  | .ins _ _ _ => .none
  | .obj _ => .none
  | .exc _ _ _ => .none
def toPyL : List D → List PyData
  | [] => []
  | d :: ds => toPy d :: toPyL ds
end
mutual
/-- data alone -/
def pure : D → Bool
  | .non => true
  | .bl _ => true
  | .int _ => true
  | .str _ => true
  | .tup ds => pureL ds
  | .lst ds => pureL ds
  | .frl _ => false
  | .ins _ _ _ => false
  | .obj _ => false
  | .exc _ _ _ => false
def pureL : List D → Bool
  | [] => true
  | d :: ds => pure d && pureL ds
end
def okEq (d : D) : Bool := pure d && SeqAt.shaped (toPy d)
def eqv (x y : D) : Bool := PyData.eqv (toPy x) (toPy y)
def eqD : D → D → Option Bool
  | .int i, .int j => some (decide (i = j))
  | .str i, .str j => some (decide (i = j))
  | x, y => if okEq x && okEq y then some (eqv x y) else none
def opt {α : Type} (o : Option α) (f : α → D) (S : Sto) : R D := match o with
  | some a => .ok (f a) S
  | none => .bad
def cEq (x y : D) (S : Sto) : R D := opt (eqD x y) .bl S
def cNe (x y : D) (S : Sto) : R D := opt (eqD x y) (fun b => .bl (!b)) S
def isNon : D → Bool
  | .non => true
  | _ => false
def cIs (x y : D) (S : Sto) : R D := match y with
  | .non => .ok (.bl (isNon x)) S
  | .bl b => match x with
    | .bl a => .ok (.bl (decide (a = b))) S
    | _ => .bad
  | _ => .bad
def cIsNot (x y : D) (S : Sto) : R D := match y with
  | .non => .ok (.bl (!isNon x)) S
  | .bl b => match x with
    | .bl a => .ok (.bl (!decide (a = b))) S
    | .int _ => .ok (.bl true) S
    | _ => .bad
  | _ => .bad
def flat : D → Bool
  | .non => true
  | .bl _ => true
  | .int _ => true
  | .str _ => true
  | _ => false
/-- == of flat ones -/
def feq : D → D → Bool
  | .non, .non => true
  | .bl a, .bl b => a == b
  | .bl a, .int b => (if a then 1 else 0) == b
  | .int a, .bl b => a == (if b then 1 else 0)
  | .int a, .int b => a == b
  | .str a, .str b => a == b
  | _, _ => false
def inL (x : D) (ds : List D) : Bool := ds.any fun y => feq y x
def inGen (x : D) (ds : List D) : Option Bool := if flat x && ds.all flat then some (inL x ds) else if okEq x && okEq (.lst ds) then some ((toPyL ds).any fun z => PyData.eqv z (toPy x)) else none
def inD : D → D → Option Bool
  | x, .lst ds => inGen x ds
  | x, .tup ds => inGen x ds
  | .str x, .str y => some (!(Builtin.Str.occurrences y x 0 y.length 1).isEmpty)
  | _, _ => none
def cIn (x y : D) (S : Sto) : R D := opt (inD x y) .bl S
def cNotIn (x y : D) (S : Sto) : R D := opt (inD x y) (fun b => .bl (!b)) S
def truth : D → Option Bool
  | .non => some false
  | .bl b => some b
  | .int i => some (i != 0)
  | .str y => if y.length ≤ sizeLine then some ((y.length : Int) != 0) else none
  | .lst ds => some (!ds.isEmpty)
  | .frl ds => some (!ds.isEmpty)
  | .tup ds => some (!ds.isEmpty)
  | _ => none

def eBin (f : D → D → Sto → R D) (fa fb : Ex) : Ex := fun env S => (fa env S).bind fun x S1 => (fb env S1).bind fun y S2 => f x y S2
def eNeg (fa : Ex) : Ex := fun env S => (fa env S).bind fun x S1 => match x with
  | .int i => .ok (.int (-i)) S1
  | _ => .bad
def eTup (f : Sem1 (List D)) : Ex := fun env S => (f env S).bind fun ds S1 => mk (okL ds.length) (.tup ds) S1
def nLst (f : Sem1 (List D)) : Sem1 (List D) := fun env S => (f env S).bind fun ds S1 => if okL ds.length then .ok ds S1 else .bad
def eLst (f : Sem1 (List D)) : Ex := fun env S => (f env S).bind fun ds S1 => .ok (.lst ds) S1
def aNil : Sem1 (List D) := fun _ S => .ok [] S
def aCons (f : Ex) (g : Sem1 (List D)) : Sem1 (List D) := fun env S => (f env S).bind fun d S1 => (g env S1).bind fun ds S2 => .ok (d :: ds) S2
def tVal (f : Ex) : Sem1 Bool := fun env S => (f env S).bind fun x S1 => match truth x with
  | some b => .ok b S1
  | none => .bad
def tAnd (f g : Sem1 Bool) : Sem1 Bool := fun env S => (f env S).bind fun b S1 => if b then g env S1 else .ok false S1
def tOr (f g : Sem1 Bool) : Sem1 Bool := fun env S => (f env S).bind fun b S1 => if b then .ok true S1 else g env S1
def tNot (f : Sem1 Bool) : Sem1 Bool := fun env S => (f env S).bind fun b S1 => .ok (!b) S1
def eIf (c : Sem1 Bool) (f g : Ex) : Ex := fun env S => (c env S).bind fun b S1 => if b then f env S1 else g env S1
def eAnd (f g : Ex) : Ex := fun env S => (f env S).bind fun x S1 => match truth x with
  | some b => if b then g env S1 else .ok x S1
  | none => .bad
def eOr (f g : Ex) : Ex := fun env S => (f env S).bind fun x S1 => match truth x with
  | some b => if b then .ok x S1 else g env S1
  | none => .bad
def eNot (f : Ex) : Ex := fun env S => (f env S).bind fun x S1 => match truth x with
  | some b => .ok (.bl (!b)) S1
  | none => .bad
/-- a f b g c -/
def eChain (f g : D → D → Sto → R D) (fa fb fc : Ex) : Ex := fun env S => (fa env S).bind fun x S1 => (fb env S1).bind fun y S2 => (f x y S2).bind fun z S3 => match z with
  | .bl true => (fc env S3).bind fun w S4 => g y w S4
  | .bl false => .ok (.bl false) S3
  | _ => .bad

section
variable (X : Cx) (cl : Nat → Addr)
def Op2 (r : R2) (f : D → D → Sto → R D) : Prop := ∀ (W : WX) (io : List Addr) (om : Own) (H0 H : Hp) (env : Env) (S : Sto) (σ : L2.St) (Q : VK) (p1 p2 : Bool) (x y : D) (vx vy : V), Rel X.K cl io om H0 H env S σ → rD X.K cl p1 io H0 H x vx → rD X.K cl p2 io H0 H y vy →
  Post X.K cl (rD X.K cl true) W io H0 H σ Q (f x y S) → r vx vy H Q
end
section
variable {X : Cx} {cl : Nat → Addr} {W : WX} {e a b c : Expr} {pos : Pos} {K : PySem.W.Frag} {io : List Addr} {om : Own} {H0 H : Hp} {env : Env} {S : Sto} {σ : L2.St} {Q : VK}
theorem mk_post {α : Type} {rp : List Addr → Hp → Hp → D → α → Prop} {Q : α → Hp → Prop} {k : Bool} {d : D} (h : Post K cl rp W io H0 H σ Q (mk k d S)) : k = true ∧ Post K cl rp W io H0 H σ Q (.ok d S) := by
  unfold mk at h
  cases k with
  | true => exact ⟨rfl, h⟩
  | false => exact h.elim
theorem opt_post {α β : Type} {rp : List Addr → Hp → Hp → D → α → Prop} {Q : α → Hp → Prop} {k : Option β} {d : β → D} (h : Post K cl rp W io H0 H σ Q (opt k d S)) : ∃ x, k = some x ∧ Post K cl rp W io H0 H σ Q (.ok (d x) S) := by
  unfold opt at h
  cases k with
  | some x => exact ⟨x, rfl, h⟩
  | none => exact h.elim
/-- a new tuple, a new list as a value -/
theorem Post.newT (R0 : Rel K cl io om H0 H env S σ) {ds : List D} {vs : List V} (r : RepL K cl io H0 ds vs) (h : Post K cl (rD K cl true) W io H0 H σ Q (.ok (.tup ds) S)) : ∀ p, H p = none → Q (.ref p) (upd H p (.tup vs)) := fun p hp => by
  obtain ⟨st, ev⟩ := R0.st.new0 hp (.tup vs)
  exact h.done_ev ev st (.inl ⟨p, vs, rfl, SqT.of upd_same, RepL.mono ev.pre ev.h0 _ _ r⟩)
theorem Post.newL (R0 : Rel K cl io om H0 H env S σ) {ds : List D} {vs : List V} (r : RepL K cl io H0 ds vs) (h : Post K cl (rD K cl true) W io H0 H σ Q (.ok (.lst ds) S)) : ∀ p, H p = none → Q (.ref p) (upd H p (.lst vs)) := fun p hp => by
  obtain ⟨st, ev⟩ := R0.st.new0 hp (.lst vs)
  exact h.done_ev ev st (.inl ⟨p, vs, rfl, upd_same, RepL.mono ev.pre ev.h0 _ _ r⟩)
theorem okL_le {n : Nat} (h : okL n = true) : n ≤ sizeLine := of_decide_eq_true h

theorem o_add : Op2 X cl (fun x y H Q => (∃ i j, x = .int i ∧ y = .int j ∧ Q (.int (i + j)) H) ∨ (∃ i j, x = .str i ∧ y = .str j ∧ i.length + j.length ≤ sizeLine ∧ Q (.str (i ++ j)) H) ∨ rCat x y H Q ∨ rCatA X.K x y H Q ∨ rAddB x y H Q) opAdd := by
  intro W io om H0 H env S σ Q p1 p2 x y vx vy R0 hx hy h
  unfold opAdd at h
  split at h
  · rw [hx.int, hy.int]
    exact .inl ⟨_, _, rfl, rfl, h.done R0 (.inl rfl)⟩
  · obtain ⟨hl, h⟩ := mk_post h
    rw [hx.str, hy.str]
    exact .inr (.inl ⟨_, _, rfl, rfl, okL_le hl, h.done R0 (.inl rfl)⟩)
  · obtain ⟨hl, h⟩ := mk_post h
    obtain ⟨a, vs, rfl, ha, ra⟩ := hx.lst R0.st
    obtain ⟨b, ws, rfl, hb, rb⟩ := hy.lst R0.st
    refine .inr (.inr (.inl ⟨a, b, vs, ws, rfl, rfl, ha, hb, by rw [← ra.length, ← rb.length]; exact okL_le hl, Post.newL R0 (ra.append rb) h⟩))
  · obtain ⟨hl, h⟩ := mk_post h
    obtain ⟨a, vs, rfl, ha, ra⟩ := hx.tup R0.st
    obtain ⟨b, ws, rfl, hb, rb⟩ := hy.tup R0.st
    refine .inr (.inr (.inr (.inl ⟨a, b, vs, ws, rfl, rfl, ha, hb, by rw [← ra.length, ← rb.length]; exact okL_le hl, fun e => ?_, fun _ e => ?_, fun _ _ => Post.newT R0 (ra.append rb) h⟩)))
    · subst e
      have := ra.length
      simp at this; subst this
      exact h.done R0 (.inl (by
        rcases hy with hy | ⟨_, _, _, _, e, _⟩
        · exact hy
        · cases e))
    · subst e
      have := rb.length
      simp at this; subst this
      rw [List.append_nil] at h
      exact h.done R0 (.inl (by
        rcases hx with hx | ⟨_, _, _, _, e, _⟩
        · exact hx
        · cases e))
  · rw [hx.bl, hy.int]
    exact .inr (.inr (.inr (.inr (.inl ⟨_, _, rfl, rfl, h.done R0 (.inl rfl)⟩))))
  · rw [hx.int, hy.bl]
    exact .inr (.inr (.inr (.inr (.inr ⟨_, _, rfl, rfl, h.done R0 (.inl rfl)⟩))))
  · exact h.elim
theorem o_sub : Op2 X cl (fun x y H Q => (∃ i j, x = .int i ∧ y = .int j ∧ Q (.int (i - j)) H) ∨ rSubB x y H Q) opSub := by
  intro W io om H0 H env S σ Q p1 p2 x y vx vy R0 hx hy h
  unfold opSub at h
  split at h
  · rw [hx.int, hy.int]
    exact .inl ⟨_, _, rfl, rfl, h.done R0 (.inl rfl)⟩
  · rw [hx.bl, hy.int]
    exact .inr (.inl ⟨_, _, rfl, rfl, h.done R0 (.inl rfl)⟩)
  · rw [hx.int, hy.bl]
    exact .inr (.inr ⟨_, _, rfl, rfl, h.done R0 (.inl rfl)⟩)
  · exact h.elim
theorem o_mul : Op2 X cl (fun x y H Q => rI CMulW (fun i j => .int (i * j)) x y H Q ∨ (rRep x y H Q ∨ (rRepT X.K x y H Q ∨ (rRepS x y H Q ∨ rRepT01 X.K x y H Q)))) opMul := by
  intro W io om H0 H env S σ Q p1 p2 x y vx vy R0 hx hy h
  unfold opMul at h
  split at h
  · obtain ⟨hl, h⟩ := mk_post h
    rw [hx.int, hy.int]
    have hm : CMulW _ _ := of_decide_eq_true (p := _ < _) hl
    exact .inl ⟨_, _, rfl, rfl, hm, h.done R0 (.inl rfl)⟩
  · obtain ⟨hl, h⟩ := mk_post h
    obtain ⟨h1, h2, h3⟩ := of_decide_eq_true hl
    obtain ⟨a, vs, rfl, ha, ra⟩ := hx.lst R0.st
    rw [hy.int]
    refine .inr (.inl ⟨a, _, vs, rfl, rfl, ha, h1, h2, by rw [← ra.length]; exact h3, Post.newL R0 ?_ h⟩)
    have rep : ∀ n : Nat, RepL X.K cl io H0 (List.replicate n _).flatten (List.replicate n vs).flatten := fun n => by
      induction n with
      | zero => exact .nil
      | succ n ih =>
        rw [List.replicate_succ, List.replicate_succ, List.flatten_cons, List.flatten_cons]
        exact ra.append ih
    exact rep _
  · obtain ⟨hl, h⟩ := mk_post h
    rename_i k0 S0
    obtain ⟨h1, h2, h3, h4⟩ := of_decide_eq_true hl
    obtain ⟨a, vs, rfl, ha, ra⟩ := hx.tup R0.st
    rw [hy.int]
    have rep : ∀ n : Nat, RepL X.K cl io H0 (List.replicate n _).flatten (List.replicate n vs).flatten := fun n => by
      induction n with
      | zero => exact .nil
      | succ n ih =>
        rw [List.replicate_succ, List.replicate_succ, List.flatten_cons, List.flatten_cons]
        exact ra.append ih
    have hne : vs ≠ [] := fun e => by rw [ra.length, e] at h1; exact absurd h1 (by decide)
    rcases (by omega : k0 = 1 ∨ k0 = 0 ∨ 2 ≤ k0) with rfl | rfl | h5
    · refine .inr (.inr (.inr (.inr ⟨a, _, vs, rfl, rfl, ha, hne, .inl ⟨rfl, ?_⟩⟩)))
      have e1 : ∀ l : List D, (List.replicate (1 : Int).toNat l).flatten = l := fun l => List.append_nil l
      rw [e1] at h
      rcases hx with hx | ⟨_, es, a', vs', e, _⟩
      · exact h.done R0 (.inl hx)
      · cases e
    · exact .inr (.inr (.inr (.inr ⟨a, _, vs, rfl, rfl, ha, hne, .inr ⟨rfl, Post.newT R0 (ds := []) .nil h⟩⟩)))
    · exact .inr (.inr (.inl ⟨a, _, vs, rfl, rfl, ha, hne, h5, h3, by rw [← ra.length]; exact h4, Post.newT R0 (rep _) h⟩))
  · obtain ⟨hl, h⟩ := mk_post h
    obtain ⟨h1, h2, h3⟩ := of_decide_eq_true hl
    rw [hx.str, hy.int]
    exact .inr (.inr (.inr (.inl ⟨_, _, rfl, rfl, h1, h2, h3.1, h3.2, h.done R0 (.inl rfl)⟩)))
  · exact h.elim
theorem o_fdiv : Op2 X cl (rI CDivW fun i j => .int (i / j)) opFdiv := by
  intro W io om H0 H env S σ Q p1 p2 x y vx vy R0 hx hy h
  unfold opFdiv at h
  split at h
  · obtain ⟨hl, h⟩ := mk_post h
    unfold okDiv at hl
    rw [Bool.and_eq_true] at hl
    rw [hx.int, hy.int]
    exact ⟨_, _, rfl, rfl, ⟨of_decide_eq_true hl.1, of_decide_eq_true hl.2⟩, h.done R0 (.inl rfl)⟩
  · exact h.elim
theorem o_mod : Op2 X cl (rI (fun _ j => 0 < j) fun i j => .int (i % j)) opMod := by
  intro W io om H0 H env S σ Q p1 p2 x y vx vy R0 hx hy h
  unfold opMod at h
  split at h
  · obtain ⟨hl, h⟩ := mk_post h
    rw [hx.int, hy.int]
    exact ⟨_, _, rfl, rfl, of_decide_eq_true hl, h.done R0 (.inl rfl)⟩
  · exact h.elim
theorem o_pow : Op2 X cl (rI CPow fun i j => .int (i ^ j.toNat)) opPow := by
  intro W io om H0 H env S σ Q p1 p2 x y vx vy R0 hx hy h
  unfold opPow at h
  split at h
  · obtain ⟨hl, h⟩ := mk_post h
    rw [hx.int, hy.int]
    exact ⟨_, _, rfl, rfl, (by unfold CPow; simpa only [decide_eq_true_eq] using hl), h.done R0 (.inl rfl)⟩
  · exact h.elim
theorem o_lt : Op2 X cl (fun x y H Q => rI0 (fun i j => .bl (decide (i < j))) x y H Q ∨ (∃ i j, x = .str i ∧ y = .str j ∧ Q (.bl (decide (i.cps.toList < j.cps.toList))) H)) cLt := by
  intro W io om H0 H env S σ Q p1 p2 x y vx vy R0 hx hy h
  unfold cLt at h
  split at h
  · rw [hx.int, hy.int]
    exact .inl ⟨_, _, rfl, rfl, h.done R0 (.inl rfl)⟩
  · rw [hx.str, hy.str]
    exact .inr ⟨_, _, rfl, rfl, h.done R0 (.inl rfl)⟩
  · exact h.elim
theorem o_le : Op2 X cl (rI0 fun i j => .bl (decide (i ≤ j))) cLe := by
  intro W io om H0 H env S σ Q p1 p2 x y vx vy R0 hx hy h
  unfold cLe at h
  split at h
  · rw [hx.int, hy.int]
    exact ⟨_, _, rfl, rfl, h.done R0 (.inl rfl)⟩
  · exact h.elim
theorem o_gt : Op2 X cl (rI0 fun i j => .bl (decide (j < i))) cGt := by
  intro W io om H0 H env S σ Q p1 p2 x y vx vy R0 hx hy h
  unfold cGt at h
  split at h
  · rw [hx.int, hy.int]
    exact ⟨_, _, rfl, rfl, h.done R0 (.inl rfl)⟩
  · exact h.elim
theorem o_ge : Op2 X cl (rI0 fun i j => .bl (decide (j ≤ i))) cGe := by
  intro W io om H0 H env S σ Q p1 p2 x y vx vy R0 hx hy h
  unfold cGe at h
  split at h
  · rw [hx.int, hy.int]
    exact ⟨_, _, rfl, rfl, h.done R0 (.inl rfl)⟩
  · exact h.elim
mutual
theorem dp_of {K : PySem.W.Frag} {cl : Nat → Addr} {io : List Addr} {H : Hp} : ∀ (d : D) (v : V), Rep K cl io H d v → pure d = true → Dp K H v (toPy d)
  | .non, _, h, _ => by cases h; exact .non
  | .bl b, _, h, _ => by cases h; exact .bl b
  | .int b, _, h, _ => by cases h; exact .int b
  | .str b, _, h, _ => by cases h; exact .str b
  | .tup ds, _, h, p => by
    obtain ⟨a, vs, rfl, q, r⟩ := h
    exact .tup q (dps_of ds vs r p)
  | .lst ds, _, h, p => by
    obtain ⟨a, vs, rfl, q, r⟩ := h
    exact .lst (SqL.of q) (dps_of ds vs r p)
  | .frl _, _, _, p => by cases p
  | .ins _ _ _, _, _, p => by cases p
  | .obj _, _, _, p => by cases p
  | .exc _ _ _, _, _, p => by cases p
theorem dps_of {K : PySem.W.Frag} {cl : Nat → Addr} {io : List Addr} {H : Hp} : ∀ (ds : List D) (vs : List V), RepL K cl io H ds vs → pureL ds = true → DpAll K H vs (toPyL ds)
  | [], _, h, _ => by cases h; exact .nil
  | d :: ds, _, h, p => by
    obtain ⟨v, r, rfl, h1, h2⟩ := h
    rw [pureL, Bool.and_eq_true] at p
    exact .cons (dp_of d v h1 p.1) (dps_of ds r h2 p.2)
end
theorem dp_rD (st : StR K cl io H0 H S) {p : Bool} {d : D} {v : V} (h : rD K cl p io H0 H d v) (q : pure d = true) : Dp K H v (toPy d) := by
  rcases h with h | ⟨_, ds, a, vs, rfl, rfl, h1, _, h3⟩
  · exact dp_of d v (Rep.mono (.refl _) st.sub d v h) q
  · exact .lst (SqL.of h1) (dps_of ds vs (RepL.mono (.refl _) st.sub _ _ h3) q)
theorem eqD_post {p1 p2 : Bool} {x y : D} {vx vy : V} (st : StR K cl io H0 H S) (hx : rD K cl p1 io H0 H x vx) (hy : rD K cl p2 io H0 H y vy) {k : Bool} (h : eqD x y = some k) :
    (scal vx vy = true ∧ k = decide (vx = vy)) ∨ ∃ d e, Dp K H vx d ∧ Dp K H vy e ∧ SeqAt.shaped d = true ∧ SeqAt.shaped e = true ∧ k = PyData.eqv d e := by
  unfold eqD at h
  split at h
  · rw [hx.int, hy.int]
    refine .inl ⟨rfl, ?_⟩
    cases h
    rw [dec_int]
    exact (Bool.beq_eq_decide_eq _ _).symm
  · rw [hx.str, hy.str]
    refine .inl ⟨rfl, ?_⟩
    cases h
    rw [dec_str]
    exact (Bool.beq_eq_decide_eq _ _).symm
  · split at h
    · rename_i q
      rw [Bool.and_eq_true] at q
      obtain ⟨q1, q2⟩ := q
      unfold okEq at q1 q2
      rw [Bool.and_eq_true] at q1 q2
      cases h
      exact .inr ⟨_, _, dp_rD st hx q1.1, dp_rD st hy q2.1, q1.2, q2.2, rfl⟩
    · cases h
theorem o_eq : Op2 X cl (fun x y H Q => rEq x y H Q ∨ rEqD X.K x y H Q) cEq := by
  intro W io om H0 H env S σ Q p1 p2 x y vx vy R0 hx hy h
  obtain ⟨k, e, h⟩ := opt_post h
  have q := h.done_bl R0
  rcases eqD_post R0.st hx hy e with ⟨e1, rfl⟩ | ⟨d, e', h1, h2, h3, h4, rfl⟩
  · exact .inl ⟨e1, q⟩
  · exact .inr ⟨d, e', h1, h2, h3, h4, q⟩
theorem o_ne : Op2 X cl (fun x y H Q => rNe x y H Q ∨ rNeD X.K x y H Q) cNe := by
  intro W io om H0 H env S σ Q p1 p2 x y vx vy R0 hx hy h
  obtain ⟨k, e, h⟩ := opt_post h
  have q := h.done_bl R0
  rcases eqD_post R0.st hx hy e with ⟨e1, rfl⟩ | ⟨d, e', h1, h2, h3, h4, rfl⟩
  · exact .inl ⟨e1, q⟩
  · exact .inr ⟨d, e', h1, h2, h3, h4, q⟩
theorem isNon_v {p : Bool} {d : D} {v : V} (h : rD K cl p io H0 H d v) : decide (v = .non) = isNon d := by
  cases d with
  | non => rw [h.non]; rfl
  | bl b => rw [h.bl]; rfl
  | int b => rw [h.int]; rfl
  | str b => rw [h.str]; rfl
  | tup ds => rcases h with ⟨a, vs, rfl, _⟩ | ⟨_, _, _, _, e, _⟩; rfl; cases e
  | lst ds => rcases h with ⟨a, vs, rfl, _⟩ | ⟨_, _, _, _, _, rfl, _⟩ <;> rfl
  | frl ds => rcases h with ⟨a, vs, rfl, _⟩ | ⟨_, _, _, _, e, _⟩; rfl; cases e
  | ins c ks ds => rcases h with ⟨a, dx, vs, rfl, _⟩ | ⟨_, _, _, _, e, _⟩; rfl; cases e
  | obj n => rcases h with ⟨a, rfl, _⟩ | ⟨_, _, _, _, e, _⟩; rfl; cases e
  | exc c ks ds => rcases h with ⟨a, dx, vs, rfl, _⟩ | ⟨_, _, _, _, e, _⟩; rfl; cases e
theorem o_is : Op2 X cl (fun x y H Q => (y = .non ∧ Q (.bl (decide (x = .non))) H) ∨ rIsB x y H Q) cIs := by
  intro W io om H0 H env S σ Q p1 p2 x y vx vy R0 hx hy h
  unfold cIs at h
  split at h
  · exact .inl ⟨hy.non, h.done R0 (.inl (by rw [isNon_v hx]; rfl))⟩
  · split at h
    · exact .inr ⟨_, _, hx.bl, hy.bl, h.done R0 (.inl rfl)⟩
    · exact h.elim
  · exact h.elim
def rNotI : R2 := fun x y H Q => ∃ (i : Int) (b : Bool), x = .int i ∧ y = .bl b ∧ Q (.bl true) H
theorem op_notI : OpR X (compareOp .IsNot) rNotI := by
  intro pins s σ H x y v u Q I rx ry h
  obtain ⟨i, b, rfl, rfl, q⟩ := h
  obtain ⟨t, rfl⟩ := rx
  cases (show u = Value.bool b from ry)
  exact wpAny_isNot_other rfl (fun z => nomatch z) ⟨.bl true, H, I, rfl, q⟩
theorem o_isnot : Op2 X cl (fun x y H Q => (y = .non ∧ Q (.bl (!decide (x = .non))) H) ∨ (rNotB x y H Q ∨ rNotI x y H Q)) cIsNot := by
  intro W io om H0 H env S σ Q p1 p2 x y vx vy R0 hx hy h
  unfold cIsNot at h
  split at h
  · exact .inl ⟨hy.non, h.done R0 (.inl (by rw [isNon_v hx]; rfl))⟩
  · split at h
    · exact .inr (.inl ⟨_, _, hx.bl, hy.bl, h.done R0 (.inl rfl)⟩)
    · exact .inr (.inr ⟨_, _, hx.int, hy.bl, h.done R0 (.inl rfl)⟩)
    · exact h.elim
  · exact h.elim
theorem flat_v {d : D} {v : V} (h : Rep K cl io H d v) (f : flat d = true) : flatV v = true ∧ ∀ {e : D} {w : V}, Rep K cl io H e w → flat e = true → eqV v w = feq d e := by
  cases d with
  | non => cases h; refine ⟨rfl, fun {e w} he fe => ?_⟩; cases e <;> first | (cases fe; done) | (cases he; rfl)
  | bl b => cases h; refine ⟨rfl, fun {e w} he fe => ?_⟩; cases e <;> first | (cases fe; done) | (cases he; rfl)
  | int b => cases h; refine ⟨rfl, fun {e w} he fe => ?_⟩; cases e <;> first | (cases fe; done) | (cases he; rfl)
  | str b => cases h; refine ⟨rfl, fun {e w} he fe => ?_⟩; cases e <;> first | (cases fe; done) | (cases he; rfl)
  | _ => cases f
theorem flat_all {x : D} {vx : V} (hx : Rep K cl io H x vx) (fx : flat x = true) : ∀ {ds : List D} {vs : List V}, RepL K cl io H ds vs → ds.all flat = true → vs.all flatV = true ∧ inV vx vs = inL x ds
  | [], _, h, _ => by cases h; exact ⟨rfl, rfl⟩
  | d :: ds, _, h, f => by
    obtain ⟨v, r, rfl, h1, h2⟩ := h
    rw [List.all_cons, Bool.and_eq_true] at f
    obtain ⟨i1, i2⟩ := flat_all hx fx h2 f.2
    obtain ⟨j1, j2⟩ := flat_v h1 f.1
    refine ⟨by rw [List.all_cons, j1, i1]; rfl, ?_⟩
    show (v :: r).any (fun y => eqV y vx) = (d :: ds).any (fun y => feq y x)
    rw [List.any_cons, List.any_cons, j2 hx fx]
    congr 1
def rInDS (K : PySem.W.Frag) (neg : Bool) : R2 := fun x y H Q => ∃ d ds, Dp K H x d ∧ (Dp K H y (.list ds) ∨ Dp K H y (.tuple ds)) ∧ SeqAt.shaped d = true ∧ SeqAt.shaped (.list ds) = true ∧ Q (.bl (if neg then !(ds.any fun z => PyData.eqv z d) else ds.any fun z => PyData.eqv z d)) H
def rInA (K : PySem.W.Frag) (neg : Bool) : R2 := fun x y H Q => rIn K neg x y H Q ∨ (∃ i j, x = .str i ∧ y = .str j ∧ Q (.bl (if neg then !(!(Builtin.Str.occurrences j i 0 j.length 1).isEmpty) else !(Builtin.Str.occurrences j i 0 j.length 1).isEmpty)) H) ∨ rInDS K neg x y H Q
theorem op_inDS (hu : X.A.units + 65 < cLine) : OpR X (compareOp .In) (rInDS X.K false) := by
  intro pins s σ H x y v u Q I rx ry h
  obtain ⟨d, ds, hd, he, sd, se, q⟩ := h
  obtain ⟨as, r1⟩ := Dp.reads I d x v hd rx
  rcases he with he | he
  · obtain ⟨bs, r2⟩ := Dp.reads I (.list ds) y u he ry
    exact SeqAt.in_list_reads r2 r1 (SeqAt.canLay_of_shaped se) (SeqAt.canLay_of_shaped sd) (room_in_shaped sd hu) ⟨.bl _, H, I, rfl, q⟩
  · obtain ⟨bs, r2⟩ := Dp.reads I (.tuple ds) y u he ry
    exact SeqAt.in_tuple_reads r2 r1 (SeqAt.canLay_of_shaped se) (SeqAt.canLay_of_shaped sd) (room_in_shaped sd hu) ⟨.bl _, H, I, rfl, q⟩
theorem flat_rep {p : Bool} {d : D} {v : V} (h : rD K cl p io H0 H d v) (f : flat d = true) : Rep K cl io H0 d v := by
  rcases h with h | ⟨_, _, _, _, e, _⟩
  · exact h
  · subst e; cases f
theorem okEq_iff {d : D} (h : okEq d = true) : pure d = true ∧ SeqAt.shaped (toPy d) = true := Bool.and_eq_true_iff.mp h
theorem inD_post {p1 p2 : Bool} {x y : D} {vx vy : V} (st : StR K cl io H0 H S) (hx : rD K cl p1 io H0 H x vx) (hy : rD K cl p2 io H0 H y vy) {k neg : Bool} (h : inD x y = some k) (q : Q (.bl (if neg then !k else k)) H) : rInA K neg vx vy H Q := by
  unfold inD at h
  split at h
  · rename_i ds
    unfold inGen at h
    split at h
    · rename_i f
      rw [Bool.and_eq_true] at f
      obtain ⟨a, vs, rfl, ha, ra⟩ := hy.lst st
      have rx := flat_rep hx f.1
      obtain ⟨i1, i2⟩ := flat_all rx f.1 ra f.2
      cases h
      exact .inl ⟨a, vs, rfl, .inl (SqL.of ha), (flat_v rx f.1).1, i1, by rw [i2]; exact q⟩
    · split at h
      · rename_i f
        rw [Bool.and_eq_true] at f
        cases h
        obtain ⟨x1, x2⟩ := okEq_iff f.1
        obtain ⟨y1, y2⟩ := okEq_iff f.2
        refine .inr (.inr ⟨_, _, dp_rD st hx x1, .inl ?_, x2, ?_, q⟩)
        · have := dp_rD st hy y1; simpa [toPy] using this
        · simpa [toPy] using y2
      · cases h
  · rename_i ds
    unfold inGen at h
    split at h
    · rename_i f
      rw [Bool.and_eq_true] at f
      obtain ⟨a, vs, rfl, ha, ra⟩ := hy.tup st
      have rx := flat_rep hx f.1
      obtain ⟨i1, i2⟩ := flat_all rx f.1 ra f.2
      cases h
      exact .inl ⟨a, vs, rfl, .inr ha, (flat_v rx f.1).1, i1, by rw [i2]; exact q⟩
    · split at h
      · rename_i f
        rw [Bool.and_eq_true] at f
        cases h
        obtain ⟨x1, x2⟩ := okEq_iff f.1
        obtain ⟨y1, y2⟩ := okEq_iff f.2
        have y1' : pure (.tup ds) = true := by simpa [pure] using y1
        refine .inr (.inr ⟨_, _, dp_rD st hx x1, .inr ?_, x2, ?_, q⟩)
        · have := dp_rD st hy y1'; simpa [toPy] using this
        · simpa [toPy] using y2
      · cases h
  · cases h
    rw [hx.str, hy.str]
    exact .inr (.inl ⟨_, _, rfl, rfl, q⟩)
  · cases h
theorem o_in : Op2 X cl (rInA X.K false) cIn := by
  intro W io om H0 H env S σ Q p1 p2 x y vx vy R0 hx hy h
  obtain ⟨k, e, h⟩ := opt_post h
  exact inD_post R0.st hx hy e (h.done_bl R0)
theorem op_inA (hu : X.A.units + 65 < cLine) : OpR X (compareOp .In) (rInA X.K false) := op_in_seq.or (op_in_str.or (op_inDS hu))
theorem tOp_of {r : R2} {f : D → D → Sto → R D} (hf : Op2 X cl r f) {p1 p2 : Bool} {fa fb : Ex} {σ : L2.St} {H : Hp} {Q : VK} (h : tG X.K cl (rD X.K cl true) W (eBin f fa fb) σ H Q) :
    tOp r (tG X.K cl (rD X.K cl p1) W fa) (tG X.K cl (rD X.K cl p2) W fb) σ H Q := by
  obtain ⟨io, om, H0, env, S, R0, h⟩ := h
  refine ⟨io, om, H0, env, S, R0, (Post.bind (rp := rD X.K cl p1) R0 h).mono fun vx H1 ⟨io1, H01, S1, x, e1, R1, q1, h1⟩ => ?_⟩
  refine ⟨io1, om, H01, env, S1, R1, (Post.bind (rp := rD X.K cl p2) R1 h1).mono fun vy H2 ⟨io2, H02, S2, y, e2, R2, q2, h2⟩ => ?_⟩
  exact hf W io2 om H02 H2 env S2 σ Q p1 p2 x y vx vy R2 (q1.ev e2) q2 h2
theorem d_bin {op : Operator} {r : R2} {f : D → D → Sto → R D} (ho : OpR X (binaryOp op) r) (hf : Op2 X cl r f) {p1 p2 : Bool} {fa fb : Ex} (ha : ED X cl W p1 a fa) (hb : ED X cl W p2 b fb) : ED X cl W true (.BinOp a op b pos) (eBin f fa fb) :=
  weakE (pe_op ho ha hb) fun _ _ _ h => tOp_of hf h
variable {p1 p2 : Bool} {fa fb fc : Ex}
theorem d_add (ha : ED X cl W p1 a fa) (hb : ED X cl W p2 b fb) : ED X cl W true (.BinOp a .Add b pos) (eBin opAdd fa fb) := d_bin (op_add.or (op_add_str.or (op_cat.or (op_catA.or op_addB)))) o_add ha hb
theorem d_sub (ha : ED X cl W p1 a fa) (hb : ED X cl W p2 b fb) : ED X cl W true (.BinOp a .Sub b pos) (eBin opSub fa fb) := d_bin (op_sub.or op_subB) o_sub ha hb
theorem d_mul (ha : ED X cl W p1 a fa) (hb : ED X cl W p2 b fb) : ED X cl W true (.BinOp a .Mult b pos) (eBin opMul fa fb) := d_bin (op_mulW.or (op_rep.or (op_repT.or (op_repS.or op_repT01)))) o_mul ha hb
theorem d_fdiv (ha : ED X cl W p1 a fa) (hb : ED X cl W p2 b fb) : ED X cl W true (.BinOp a .FloorDiv b pos) (eBin opFdiv fa fb) := d_bin op_fdivW o_fdiv ha hb
theorem d_mod (ha : ED X cl W p1 a fa) (hb : ED X cl W p2 b fb) : ED X cl W true (.BinOp a .Mod b pos) (eBin opMod fa fb) := d_bin op_mod o_mod ha hb
theorem d_pow (ha : ED X cl W p1 a fa) (hb : ED X cl W p2 b fb) : ED X cl W true (.BinOp a .Pow b pos) (eBin opPow fa fb) := d_bin op_pow o_pow ha hb
theorem d_cmp {op : CmpOp} {r : R2} {f : D → D → Sto → R D} (ho : OpR X (compareOp op) r) (hf : Op2 X cl r f) (ha : ED X cl W p1 a fa) (hb : ED X cl W p2 b fb) (hm : behindInMarks op b = false) : ED X cl W true (.Compare a [op] [b] pos) (eBin f fa fb) :=
  weakE (pe_cmpR ho ha hb hm) fun _ _ _ h => tOp_of hf h
/-- only truths come -/
def BoolF (f : D → D → Sto → R D) : Prop := ∀ x y S d S', f x y S = .ok d S' → ∃ k, d = .bl k
theorem eBin_ok {f : D → D → Sto → R D} {env : Env} {S S' : Sto} {d : D} (h : eBin f fa fb env S = .ok d S') : ∃ x y S2, f x y S2 = .ok d S' := by
  unfold eBin at h
  cases q : fa env S with
  | ok x S1 =>
    rw [q] at h
    cases q2 : fb env S1 with
    | ok y S2 =>
      simp only [R.bind, q2] at h
      exact ⟨x, y, S2, h⟩
    | exc e S2 => simp only [R.bind, q2] at h; cases h
    | bad => simp only [R.bind, q2] at h; cases h
  | exc e S2 => rw [q] at h; cases h
  | bad => rw [q] at h; cases h
theorem test_of {F : Ex} (hB : ∀ env S d S', F env S = .ok d S' → ∃ k, d = .bl k) {σ : L2.St} {H : Hp} {Q : Bool → Hp → Prop} (h : tG X.K cl rB W (tVal F) σ H Q) : tG X.K cl (rD X.K cl true) W F σ H fun x H' => ∃ k, x = .bl k ∧ Q k H' := by
  obtain ⟨io, om, H0, env, S, R0, h⟩ := h
  refine ⟨io, om, H0, env, S, R0, (Post.bindE R0 h).mono fun v H1 ⟨io1, H01, S1, x, e1, R1, q1, h1, eq⟩ => ?_⟩
  obtain ⟨k, rfl⟩ := hB _ _ _ _ eq
  exact ⟨k, q1.bl, h1.done R1 rfl⟩
theorem t_cmp {op : CmpOp} {r : R2} {f : D → D → Sto → R D} (ho : OpR X (compareOp op) r) (hf : Op2 X cl r f) (hB : BoolF f) (ha : ED X cl W p1 a fa) (hb : ED X cl W p2 b fb) (hm : behindInMarks op b = false) :
    TD X cl W (.Compare a [op] [b] pos) (tVal (eBin f fa fb)) :=
  weakT (pt_cmpR ho ha hb hm) fun σ H Q h => tOp_of hf (test_of (fun env S d S' q => by
    obtain ⟨_, _, _, q⟩ := eBin_ok q
    exact hB _ _ _ _ _ q) h)
theorem b_lt : BoolF cLt := fun x y S d S' h => by
  unfold cLt at h
  split at h <;> first | (cases h; exact ⟨_, rfl⟩) | cases h
theorem b_le : BoolF cLe := fun x y S d S' h => by
  unfold cLe at h
  split at h <;> first | (cases h; exact ⟨_, rfl⟩) | cases h
theorem b_gt : BoolF cGt := fun x y S d S' h => by
  unfold cGt at h
  split at h <;> first | (cases h; exact ⟨_, rfl⟩) | cases h
theorem b_ge : BoolF cGe := fun x y S d S' h => by
  unfold cGe at h
  split at h <;> first | (cases h; exact ⟨_, rfl⟩) | cases h
theorem b_opt {o : Option Bool} {f : Bool → Bool} {S S' : Sto} {d : D} (h : opt o (fun b => .bl (f b)) S = .ok d S') : ∃ k, d = .bl k := by
  unfold opt at h
  cases o with
  | some b => cases h; exact ⟨_, rfl⟩
  | none => cases h
theorem b_eq : BoolF cEq := fun x y S d S' h => b_opt (f := id) h
theorem b_ne : BoolF cNe := fun x y S d S' h => b_opt h
theorem b_is : BoolF cIs := fun x y S d S' h => by
  unfold cIs at h
  split at h <;> first | (cases h; exact ⟨_, rfl⟩) | (split at h <;> first | (cases h; exact ⟨_, rfl⟩) | cases h) | cases h
theorem b_isnot : BoolF cIsNot := fun x y S d S' h => by
  unfold cIsNot at h
  split at h <;> first | (cases h; exact ⟨_, rfl⟩) | (split at h <;> first | (cases h; exact ⟨_, rfl⟩) | cases h) | cases h
/-- comparisons as values, as tests -/
theorem d_lt (ha : ED X cl W p1 a fa) (hb : ED X cl W p2 b fb) : ED X cl W true (.Compare a [.Lt] [b] pos) (eBin cLt fa fb) := d_cmp (op_lt.or op_lt_str) o_lt ha hb (nomark _)
theorem d_gt (ha : ED X cl W p1 a fa) (hb : ED X cl W p2 b fb) : ED X cl W true (.Compare a [.Gt] [b] pos) (eBin cGt fa fb) := d_cmp op_gt o_gt ha hb (nomark _)
theorem d_eq (hu : X.A.units + 64 < cLine) (ha : ED X cl W p1 a fa) (hb : ED X cl W p2 b fb) : ED X cl W true (.Compare a [.Eq] [b] pos) (eBin cEq fa fb) := d_cmp (op_eq.or (op_eqD hu)) o_eq ha hb (nomark _)
theorem d_ne (hu : X.A.units + 64 < cLine) (ha : ED X cl W p1 a fa) (hb : ED X cl W p2 b fb) : ED X cl W true (.Compare a [.NotEq] [b] pos) (eBin cNe fa fb) := d_cmp (op_ne.or (op_neD hu)) o_ne ha hb (nomark _)
theorem d_in (hu : X.A.units + 65 < cLine) (ha : ED X cl W p1 a fa) (hb : ED X cl W p2 b fb) (hm : behindInMarks .In b = false := by rfl) : ED X cl W true (.Compare a [.In] [b] pos) (eBin cIn fa fb) := d_cmp (op_inA hu) o_in ha hb hm
theorem t_lt (ha : ED X cl W p1 a fa) (hb : ED X cl W p2 b fb) : TD X cl W (.Compare a [.Lt] [b] pos) (tVal (eBin cLt fa fb)) := t_cmp (op_lt.or op_lt_str) o_lt b_lt ha hb (nomark _)
theorem t_le (ha : ED X cl W p1 a fa) (hb : ED X cl W p2 b fb) : TD X cl W (.Compare a [.LtE] [b] pos) (tVal (eBin cLe fa fb)) := t_cmp op_le o_le b_le ha hb (nomark _)
theorem t_gt (ha : ED X cl W p1 a fa) (hb : ED X cl W p2 b fb) : TD X cl W (.Compare a [.Gt] [b] pos) (tVal (eBin cGt fa fb)) := t_cmp op_gt o_gt b_gt ha hb (nomark _)
theorem t_ge (ha : ED X cl W p1 a fa) (hb : ED X cl W p2 b fb) : TD X cl W (.Compare a [.GtE] [b] pos) (tVal (eBin cGe fa fb)) := t_cmp op_ge o_ge b_ge ha hb (nomark _)
theorem t_eq (hu : X.A.units + 64 < cLine) (ha : ED X cl W p1 a fa) (hb : ED X cl W p2 b fb) : TD X cl W (.Compare a [.Eq] [b] pos) (tVal (eBin cEq fa fb)) := t_cmp (op_eq.or (op_eqD hu)) o_eq b_eq ha hb (nomark _)
theorem t_ne (hu : X.A.units + 64 < cLine) (ha : ED X cl W p1 a fa) (hb : ED X cl W p2 b fb) : TD X cl W (.Compare a [.NotEq] [b] pos) (tVal (eBin cNe fa fb)) := t_cmp (op_ne.or (op_neD hu)) o_ne b_ne ha hb (nomark _)
theorem t_is (ha : ED X cl W p1 a fa) (hb : ED X cl W p2 b fb) : TD X cl W (.Compare a [.Is] [b] pos) (tVal (eBin cIs fa fb)) := t_cmp (op_isN.or op_isBl) o_is b_is ha hb (nomark _)
theorem t_isnot (ha : ED X cl W p1 a fa) (hb : ED X cl W p2 b fb) : TD X cl W (.Compare a [.IsNot] [b] pos) (tVal (eBin cIsNot fa fb)) := t_cmp (op_notN.or (op_notBl.or op_notI)) o_isnot b_isnot ha hb (nomark _)
/-- a chain -/
theorem tChain_of {r r' : R2} {f f' : D → D → Sto → R D} (hf : Op2 X cl r f) (hf' : Op2 X cl r' f') (hB : BoolF f) {σ : L2.St} {H : Hp} {Q : VK} (h : tG X.K cl (rD X.K cl true) W (eChain f f' fa fb fc) σ H Q) :
    tChain r r' (tG X.K cl (rD X.K cl true) W fa) (tG X.K cl (rD X.K cl true) W fb) (tG X.K cl (rD X.K cl true) W fc) σ H Q := by
  obtain ⟨io, om, H0, env, S, R0, h⟩ := h
  refine ⟨io, om, H0, env, S, R0, (Post.bind (rp := rD X.K cl true) R0 h).mono fun vx H1 ⟨io1, H01, S1, x, e1, R1, q1, h1⟩ => ?_⟩
  refine ⟨io1, om, H01, env, S1, R1, (Post.bind (rp := rD X.K cl true) R1 h1).mono fun vy H2 ⟨io2, H02, S2, y, e2, R2, q2, h2⟩ => ?_⟩
  refine hf W io2 om H02 H2 env S2 σ _ true true x y vx vy R2 (q1.ev e2) q2 ((Post.bindE R2 h2).mono fun v H3 ⟨io3, H03, S3, z, e3, R3, q3, h3, eq⟩ => ?_)
  obtain ⟨k, rfl⟩ := hB _ _ _ _ _ eq
  refine ⟨k, q3.bl, ?_⟩
  cases k with
  | true =>
    refine iteT ⟨io3, om, H03, env, S3, R3, (Post.bind (rp := rD X.K cl true) R3 h3).mono fun vw H4 ⟨io4, H04, S4, w, e4, R4, q4, h4⟩ => ?_⟩
    exact hf' W io4 om H04 H4 env S4 σ Q true true y w vy vw R4 ((q2.ev e3).ev e4) q4 h4
  | false => exact iteF (h3.done_bl R3)
theorem bind_ok {α β : Type} {r : R α} {k : α → Sto → R β} {d : β} {S : Sto} (h : r.bind k = .ok d S) : ∃ x S1, r = .ok x S1 ∧ k x S1 = .ok d S := by
  cases r with
  | ok x S1 => exact ⟨x, S1, rfl, h⟩
  | exc _ _ => cases h
  | bad => cases h
theorem eChain_ok {f f' : D → D → Sto → R D} (hB' : BoolF f') {env : Env} {S S' : Sto} {d : D} (h : eChain f f' fa fb fc env S = .ok d S') : ∃ k, d = .bl k := by
  obtain ⟨x, S1, _, h⟩ := bind_ok h
  obtain ⟨y, S2, _, h⟩ := bind_ok h
  obtain ⟨z, S3, _, h⟩ := bind_ok h
  split at h
  · obtain ⟨w, S4, _, h⟩ := bind_ok h
    exact hB' _ _ _ _ _ h
  · cases h
    exact ⟨_, rfl⟩
  · cases h
section
variable (ha : ED X cl W true a fa) (hb : ED X cl W true b fb) (hc : ED X cl W true c fc)
include ha hb hc
theorem d_lele (hm : lastMarks [.LtE, .LtE] [b, c] = false := by with_unfolding_all rfl) : ED X cl W true (.Compare a [.LtE, .LtE] [b, c] pos) (eChain cLe cLe fa fb fc) := weakE (pe_chain op_le op_le ha hb hc hm) fun _ _ _ h => tChain_of o_le o_le b_le h
theorem t_lele (hm : lastMarks [.LtE, .LtE] [b, c] = false := by with_unfolding_all rfl) : TD X cl W (.Compare a [.LtE, .LtE] [b, c] pos) (tVal (eChain cLe cLe fa fb fc)) := weakT (pt_chain op_le op_le ha hb hc hm) fun _ _ _ h => tChain_of o_le o_le b_le (test_of (fun _ _ _ _ => eChain_ok b_le) h)
end

theorem isEmpty_len {α β : Type} {xs : List α} {ys : List β} (h : xs.length = ys.length) : (!xs.isEmpty) = !ys.isEmpty := by
  cases xs <;> cases ys <;> simp_all
theorem truth_v {p : Bool} {d : D} {v : V} {k : Bool} (st : StR K cl io H0 H S) (h : rD K cl p io H0 H d v) (e : truth d = some k) : TruV K v H k := by
  unfold truth at e
  split at e
  · cases e; rw [h.non]; rfl
  · cases e; rw [h.bl]; rfl
  · cases e; rw [h.int]; rfl
  · split at e
    · cases e
      rw [h.str]
      exact ⟨by assumption, rfl⟩
    · cases e
  · cases e
    obtain ⟨a, vs, rfl, ha, ra⟩ := h.lst st
    refine .inl ⟨vs, SqL.of ha, ?_⟩
    exact isEmpty_len ra.length
  · cases e
    obtain ⟨a, vs, rfl, ha, ra⟩ := h.frl st
    refine .inl ⟨vs, ha, ?_⟩
    exact isEmpty_len ra.length
  · cases e
    obtain ⟨a, vs, rfl, ha, ra⟩ := h.tup st
    refine .inr (.inl ⟨vs, ha, ?_⟩)
    exact isEmpty_len ra.length
  · cases e
theorem t_val (ha : ED X cl W p1 a fa) (he : ∀ whole, isTrue a X.env whole = (do let v ← whole; standAt a.pos; holding [v] (truthy v)) := by intro _; rfl) : TD X cl W a (tVal fa) := by
  refine weakT (pt_truth ha he) fun σ H Q ⟨io, om, H0, env, S, R0, h⟩ => ?_
  refine ⟨io, om, H0, env, S, R0, (Post.bind R0 h).mono fun vx H1 ⟨io1, H01, S1, x, e1, R1, q1, h1⟩ => ?_⟩
  split at h1
  · exact ⟨_, truth_v R1.st q1 (by assumption), h1.done R1 rfl⟩
  · exact h1.elim
variable {ta tb : Sem1 Bool} {rest : List Expr}
theorem w_and1 (ha : TD X cl W a ta) : PW X (.BoolOp .And [a] pos) (tG X.K cl rB W ta) := pw_and1 ha
theorem w_or1 (ha : TD X cl W a ta) : PW X (.BoolOp .Or [a] pos) (tG X.K cl rB W ta) := pw_or1 ha
theorem weakW {t t' : TT} (h : PW X e t) (q : ∀ σ H Q, t' σ H Q → t σ H Q) : PW X e t' := ⟨fun w pins s σ H Q I z => h.run w pins s σ H Q I (q σ H Q z)⟩
theorem w_and (ha : TD X cl W a ta) (hb : PW X (.BoolOp .And (b :: rest) pos) (tG X.K cl rB W tb)) : PW X (.BoolOp .And (a :: b :: rest) pos) (tG X.K cl rB W (tAnd ta tb)) := by
  refine weakW (pw_and ha hb) fun σ H Q ⟨io, om, H0, env, S, R0, h⟩ => ?_
  refine ⟨io, om, H0, env, S, R0, (Post.bind R0 h).mono fun k H1 ⟨io1, H01, S1, x, e1, R1, q1, h1⟩ => ?_⟩
  cases q1
  cases k with
  | true => exact iteT ⟨io1, om, H01, env, S1, R1, h1⟩
  | false => exact iteF (h1.done R1 rfl)
theorem w_or (ha : TD X cl W a ta) (hb : PW X (.BoolOp .Or (b :: rest) pos) (tG X.K cl rB W tb)) : PW X (.BoolOp .Or (a :: b :: rest) pos) (tG X.K cl rB W (tOr ta tb)) := by
  refine weakW (pw_or ha hb) fun σ H Q ⟨io, om, H0, env, S, R0, h⟩ => ?_
  refine ⟨io, om, H0, env, S, R0, (Post.bind R0 h).mono fun k H1 ⟨io1, H01, S1, x, e1, R1, q1, h1⟩ => ?_⟩
  cases q1
  cases k with
  | true => exact iteT (h1.done R1 rfl)
  | false => exact iteF ⟨io1, om, H01, env, S1, R1, h1⟩
theorem t_of {e : Expr} (h : PW X e (tG X.K cl rB W ta)) : TD X cl W e ta := h.pt
theorem t_not (ha : TD X cl W a ta) : TD X cl W (.UnaryOp .Not a pos) (tNot ta) := by
  refine weakT (pt_not ha) fun σ H Q ⟨io, om, H0, env, S, R0, h⟩ => ?_
  refine ⟨io, om, H0, env, S, R0, (Post.bind R0 h).mono fun k H1 ⟨io1, H01, S1, x, e1, R1, q1, h1⟩ => ?_⟩
  cases q1
  exact h1.done R1 rfl
theorem d_if (hc : TD X cl W c ta) (ha : ED X cl W p1 a fa) (hb : ED X cl W p1 b fb) : ED X cl W p1 (.IfExp c a b pos) (eIf ta fa fb) := by
  refine weakE (pe_ifExp hc ha hb) fun σ H Q ⟨io, om, H0, env, S, R0, h⟩ => ?_
  refine ⟨io, om, H0, env, S, R0, (Post.bind R0 h).mono fun k H1 ⟨io1, H01, S1, x, e1, R1, q1, h1⟩ => ?_⟩
  cases q1
  cases k with
  | true => exact iteT ⟨io1, om, H01, env, S1, R1, h1⟩
  | false => exact iteF ⟨io1, om, H01, env, S1, R1, h1⟩
theorem d_one {op : BoolOp} (ha : ED X cl W p1 a fa) : ED X cl W p1 (.BoolOp op [a] pos) fa := pe_one ha
theorem d_and (ha : ED X cl W p1 a fa) (hb : ED X cl W p1 (.BoolOp .And (b :: rest) pos) fb) : ED X cl W p1 (.BoolOp .And (a :: b :: rest) pos) (eAnd fa fb) := by
  refine weakE (pe_andT ha hb) fun σ H Q ⟨io, om, H0, env, S, R0, h⟩ => ?_
  refine ⟨io, om, H0, env, S, R0, (Post.bind R0 h).mono fun v H1 ⟨io1, H01, S1, x, e1, R1, q1, h1⟩ => ?_⟩
  cases ht : truth x with
  | some k =>
    simp only [ht] at h1
    refine ⟨k, truth_v R1.st q1 ht, ?_⟩
    cases k with
    | true => exact iteT ⟨io1, om, H01, env, S1, R1, h1⟩
    | false => exact iteF (h1.done R1 q1)
  | none => simp only [ht] at h1; exact h1.elim
theorem d_or (ha : ED X cl W p1 a fa) (hb : ED X cl W p1 (.BoolOp .Or (b :: rest) pos) fb) : ED X cl W p1 (.BoolOp .Or (a :: b :: rest) pos) (eOr fa fb) := by
  refine weakE (pe_orT ha hb) fun σ H Q ⟨io, om, H0, env, S, R0, h⟩ => ?_
  refine ⟨io, om, H0, env, S, R0, (Post.bind R0 h).mono fun v H1 ⟨io1, H01, S1, x, e1, R1, q1, h1⟩ => ?_⟩
  cases ht : truth x with
  | some k =>
    simp only [ht] at h1
    refine ⟨k, truth_v R1.st q1 ht, ?_⟩
    cases k with
    | true => exact iteT (h1.done R1 q1)
    | false => exact iteF ⟨io1, om, H01, env, S1, R1, h1⟩
  | none => simp only [ht] at h1; exact h1.elim
theorem d_not (ha : ED X cl W p1 a fa) : ED X cl W true (.UnaryOp .Not a pos) (eNot fa) := by
  refine weakE (pe_notT ha) fun σ H Q ⟨io, om, H0, env, S, R0, h⟩ => ?_
  refine ⟨io, om, H0, env, S, R0, (Post.bind R0 h).mono fun v H1 ⟨io1, H01, S1, x, e1, R1, q1, h1⟩ => ?_⟩
  cases ht : truth x with
  | some k =>
    simp only [ht] at h1
    exact ⟨k, truth_v R1.st q1 ht, h1.done_bl R1⟩
  | none => simp only [ht] at h1; exact h1.elim

theorem d_c {v : V} {d : D} (h : PE X e (tC v)) (r : Rep X.K cl [] (fun _ => none) d v) : ED X cl W true e (eC d) := by
  refine weakE h fun σ H Q ⟨io, om, H0, env, S, R0, h⟩ => ?_
  exact h.done R0 (.inl (Rep.mono (fun _ _ e => by simp at e) (fun _ _ e => by cases e) _ _ r))
theorem d_int {i : Int} {j : Nat} : ED X cl W true (.Constant (.int i) j pos) (eC (.int i)) := d_c pe_int rfl
theorem d_bl {i : Bool} {j : Nat} : ED X cl W true (.Constant (.bool i) j pos) (eC (.bl i)) := d_c pe_bl rfl
theorem d_non {j : Nat} : ED X cl W true (.Constant .none j pos) (eC .non) := d_c pe_non rfl
theorem d_str {i : Str} {j : Nat} : ED X cl W true (.Constant (.str i) j pos) (eC (.str i)) := d_c pe_str rfl
/-- a constant of the module -/
def GConst (K : PySem.W.Frag) (mg : Str → Option Value) (cl : Nat → Addr) (x : Str) (d : D) : Prop := ∃ u v, mg x = some u ∧ RelV v u ∧ Rep K cl [] (fun _ => none) d v
theorem d_glob {x : Str} {d : D} (h : GConst X.K X.mg cl x d) (hg : Gl X x := by rfl) (hd : (x == ("__debug__" : Str)) = false := by decide) : ED X cl W true (.Name x pos) (eC d) := by
  obtain ⟨u, v, h1, h2, h3⟩ := h
  exact d_c (pe_glob hg h1 h2 hd) h3
variable {es : List Expr} {fs : Sem1 (List D)}
theorem a_nil : AD X cl W p1 [] aNil := weakA pa_nil fun σ H Q ⟨io, om, H0, env, S, R0, h⟩ => h.done R0 rfl
theorem a_cons (ha : ED X cl W p1 a fa) (hr : AD X cl W p1 es fs) (hs : starEach (a :: es) X.env = (false, eval a X.env) :: starEach es X.env := by rfl) : AD X cl W p1 (a :: es) (aCons fa fs) := by
  refine weakA (pa_cons ha hr hs) fun σ H Q ⟨io, om, H0, env, S, R0, h⟩ => ?_
  refine ⟨io, om, H0, env, S, R0, (Post.bind R0 h).mono fun vx H1 ⟨io1, H01, S1, x, e1, R1, q1, h1⟩ => ?_⟩
  refine ⟨io1, om, H01, env, S1, R1, (Post.bind R1 h1).mono fun vy H2 ⟨io2, H02, S2, y, e2, R2, q2, h2⟩ => ?_⟩
  exact h2.done R2 ⟨_, _, rfl, q1.ev e2, q2⟩
theorem d_tup {k : Nat} (h : AD X cl W true es fs) : ED X cl W true (.Tuple es k pos) (eTup fs) := by
  refine weakE (pe_tup h) fun σ H Q ⟨io, om, H0, env, S, R0, h⟩ => ?_
  refine ⟨io, om, H0, env, S, R0, (Post.bind R0 h).mono fun vx H1 ⟨io1, H01, S1, x, e1, R1, q1, h1⟩ => ?_⟩
  obtain ⟨hl, h1⟩ := mk_post h1
  exact ⟨by rw [← q1.perm.length]; exact okL_le hl, Post.newT R1 q1.perm h1⟩
/-- a new list -/
theorem Post.newN {Hs : Hp} (hs : ∀ a, Hs a ≠ none → H a ≠ none) (R0 : Rel K cl io om H0 H env S σ) {ds : List D} {vs : List V} (r : RepL K cl io H0 ds vs) (h : Post K cl (rN K cl Hs) W io H0 H σ Q (.ok ds S)) : ∀ p, H p = none → Q (.ref p) (upd H p (.lst vs)) := fun p hp => by
  obtain ⟨st, ev⟩ := R0.st.new hp (.lst vs)
  refine h.done_ev ev st ⟨p, vs, rfl, upd_same, R0.st.free0 hp, fun m => R0.st.there m hp, ?_, r⟩
  cases q : Hs p with
  | none => rfl
  | some o => exact absurd hp (hs p (by simp [q]))
theorem n_lst (h : AD X cl W true es fs) : ND X cl W (.List es pos) (nLst fs) := by
  refine weakE (pe_lst h) fun σ H Q ⟨io, om, H0, env, S, R0, h⟩ => ?_
  refine ⟨io, om, H0, env, S, R0, (Post.bind R0 h).mono fun vx H1 ⟨io1, H01, S1, x, e1, R1, q1, h1⟩ => ?_⟩
  cases ho : okL x.length with
  | true =>
    simp only [ho] at h1
    exact ⟨by rw [← q1.perm.length]; exact okL_le ho, Post.newN e1.dom R1 q1.perm h1⟩
  | false => simp only [ho] at h1; exact h1.elim
/-- two lists, one behind the other, as a new list -/
def catD : D → D → Option (List D)
  | .lst a, .lst b => if okL (a.length + b.length) then some (a ++ b) else none
  | _, _ => none
def nCat (fa fb : Ex) : Sem1 (List D) := fun env S => (fa env S).bind fun x S1 => (fb env S1).bind fun y S2 => match catD x y with
  | some ds => .ok ds S2
  | none => .bad
/-- a list so many times, as a new list -/
def repD : D → D → Option (List D)
  | .lst a, .int k => if decide (-(2 ^ 63) ≤ k ∧ k < 2 ^ 63 ∧ a.length * k.toNat ≤ sizeLine) then some (List.replicate k.toNat a).flatten else none
  | _, _ => none
def nRep (fa fb : Ex) : Sem1 (List D) := fun env S => (fa env S).bind fun x S1 => (fb env S1).bind fun y S2 => match repD x y with
  | some ds => .ok ds S2
  | none => .bad
/-- the store with a new object that never changes, which stood already -/
theorem StR.freeze (st : StR K cl io H0 H S) {a : Addr} {o : HO} (h : H a = some o) (h0 : H0 a = none) (ho : a ∉ io) : StR K cl io (upd H0 a o) H S := by
  refine ⟨fun b u e => ?_, st.len, fun n b e => ?_, st.inj, fun n b u e e2 => (st.ob n b u e e2).at (.refl _) (same_upd h0) rfl⟩
  · by_cases hb : b = a
    · subst hb; rw [upd_same] at e; rw [h]; exact e
    · rw [upd_ne hb] at e; exact st.sub b u e
  · have hb : b ≠ a := fun z => ho (z ▸ List.mem_of_getElem? e)
    rw [upd_ne hb]; exact st.out n b e
theorem StR.freezeN {io' : List Addr} {H0' H' : Hp} {S' : Sto} (x : Ev io H0 H io' H0' H') (st : StR K cl io' H0' H' S') {a : Addr} {o : HO} (h : H' a = some o) (h0 : H0' a = none) (ho : a ∉ io') (hn : H a = none) :
    StR K cl io' (upd H0' a o) H' S' ∧ Ev io H0 H io' (upd H0' a o) H' :=
  ⟨st.freeze h h0 ho, ⟨x.pre, x.new, x.h0.trans (same_upd h0), fun b u e => by
    by_cases hb : b = a
    · subst hb; exact .inr hn
    · rw [upd_ne hb] at e; exact x.h0n b u e, x.keep, x.dom⟩⟩
end
end G

namespace G
open PySem PySem.Spec PyProof.Rows L2

def keyD : D → Option Key
  | .int i => some (.inl i)
  | .str x => some (.inr x)
  | _ => none
def look (kvs : List (Key × D)) (k : Key) : Option D := (kvs.find? fun kv => decide (kv.1 = k)).map (·.2)
def putD (kvs : List (Key × D)) (k : Key) (v : D) : List (Key × D) :=
  if (kvs.any fun kv => decide (kv.1 = k)) = true then kvs.map (fun kv => if kv.1 = k then (kv.1, v) else kv) else kvs ++ [(k, v)]
def opIx : D → D → Sto → R D
  | .lst ds, .int i, S => opt (atI ds i) id S
  | .tup ds, .int i, S => opt (atI ds i) id S
  | .frl ds, .int i, S => opt (atI ds i) id S
  | .str x, .int i, S => if x.length ≤ sizeLine then opt (atI x.cps.toList i) (fun c => .str ⟨#[c]⟩) S else .bad
  | _, _, _ => .bad
def opGet : D → D → Sto → R D
  | .obj n, k, S => match S[n]?, keyD k with
    | some (.dict kvs), some k => opt (look kvs k) id S
    | _, _ => .bad
  | _, _, _ => .bad
def cutA {α : Type} (xs : List α) (lo hi : Option Int) : List α := (xs.drop (HT.sIx xs.length 0 lo)).take (HT.sIx xs.length xs.length hi - HT.sIx xs.length 0 lo)
def opSl : D → Option Int → Option Int → Sto → R D
  | .lst ds, lo, hi, S => .ok (.lst (cutA ds lo hi)) S
  | .frl ds, lo, hi, S => .ok (.lst (cutA ds lo hi)) S
  | .tup ds, lo, hi, S => .ok (.tup (cutA ds lo hi)) S
  | .str x, lo, hi, S => if x.length ≤ sizeLine then .ok (.str (cutS x lo hi)) S else .bad
  | _, _, _, _ => .bad
def pLen : List D → Sto → R D
  | [.str y], S => if y.length ≤ sizeLine then .ok (.int (y.length : Nat)) S else .bad
  | [.lst ds], S => .ok (.int (ds.length : Nat)) S
  | [.frl ds], S => .ok (.int (ds.length : Nat)) S
  | [.tup ds], S => .ok (.int (ds.length : Nat)) S
  | _, _ => .bad
def pAbs : List D → Sto → R D
  | [.int i], S => .ok (.int (if i < 0 then -i else i)) S
  | _, _ => .bad
/-- the ints of a list -/
def intsD : List D → Option (List Int)
  | [] => some []
  | .int i :: r => (intsD r).map (i :: ·)
  | _ :: _ => none
def strsD : List D → Option (List Str)
  | [] => some []
  | .str i :: r => (strsD r).map (i :: ·)
  | _ :: _ => none
def blsD : List D → Option (List Bool)
  | [] => some []
  | .bl i :: r => (blsD r).map (i :: ·)
  | _ :: _ => none
def maxL : List Int → Option Int
  | [] => none
  | x :: r => some (r.foldl (fun m y => if y > m then y else m) x)
def minL : List Int → Option Int
  | [] => none
  | x :: r => some (r.foldl (fun m y => if y < m then y else m) x)
def pMax : List D → Sto → R D
  | [.int i, .int j], S => .ok (.int (if j > i then j else i)) S
  | [.lst ds], S => opt ((intsD ds).bind maxL) .int S
  | _, _ => .bad
def pMin : List D → Sto → R D
  | [.int i, .int j], S => .ok (.int (if j < i then j else i)) S
  | [.int i, .int j, .int k], S => .ok (.int (if j < i then (if k < j then k else j) else (if k < i then k else i))) S
  | [.lst ds], S => opt ((intsD ds).bind minL) .int S
  | _, _ => .bad
def pDivmod : List D → Sto → R D
  | [.int i, .int j], S => mk (decide (0 < j ∧ j < 1073741824)) (.tup [.int (i / j), .int (i % j)]) S
  | _, _ => .bad
def pInt : List D → Sto → R D
  | [.int i], S => .ok (.int i) S
  | [.bl k], S => .ok (.int (if k then 1 else 0)) S
  | _, _ => .bad
def pStr : List D → Sto → R D
  | [.int i], S => mk (decide (i.natAbs.log2 < 1920)) (.str (toString i)) S
  | [.bl k], S => .ok (.str (if k then "True" else "False")) S
  | [.str z], S => .ok (.str z) S
  | _, _ => .bad
def pTuple : List D → Sto → R D
  | [.lst ds], S => .ok (.tup ds) S
  | [.tup ds], S => .ok (.tup ds) S
  | _, _ => .bad
def pList : List D → Sto → R (List D)
  | [.lst ds], S => .ok ds S
  | [.tup ds], S => .ok ds S
  | [.frl ds], S => .ok ds S
  | _, _ => .bad
def pAll : List D → Sto → R D
  | [.lst ds], S => opt ((blsD ds).map (·.all id)) .bl S
  | _, _ => .bad
def pAny : List D → Sto → R D
  | [.lst ds], S => opt ((blsD ds).map (·.any id)) .bl S
  | _, _ => .bad
def pSum : List D → Sto → R D
  | [.lst ds], S => opt ((intsD ds).map List.sum) .int S
  | _, _ => .bad
def sortI (ns : List Int) : List Int := ns.mergeSort (fun a b => decide (a ≤ b))
/-- pairs of ints -/
def prsD : List D → Option (List (Int × Int))
  | [] => some []
  | .tup [.int i, .int j] :: r => (prsD r).map ((i, j) :: ·)
  | _ => none
def leP (p q : Int × Int) : Bool := decide (p.1 < q.1 ∨ (p.1 = q.1 ∧ p.2 ≤ q.2))
def sortP (ps : List (Int × Int)) : List (Int × Int) := ps.mergeSort leP
def prD (p : Int × Int) : D := .tup [.int p.1, .int p.2]
/-- data whose sorting is known: alike in all, tuples that aren't empty, or no tuples and no None -/
def neTup : D → Bool
  | .tup (_ :: _) => true
  | _ => false
def noTN : D → Bool
  | .non => false
  | .tup _ => false
  | _ => true
def okSrt (ds : List D) : Bool := (ds.all fun d => pure d && decide ((toPy d).depth ≤ 40)) && ((ds.all fun d => ds.all fun e => PySem.W.alike (toPy d) (toPy e)) && (ds.all neTup || ds.all noTN))
def sortD (ds : List D) : List D := ds.mergeSort (PySem.W.dataLe false toPy)
def pSorted : List D → Sto → R (List D)
  | [.lst ds], S => match intsD ds with
    | some ns => .ok ((sortI ns).map D.int) S
    | none => match prsD ds with
      | some ps => .ok ((sortP ps).map prD) S
      | none => if okSrt ds = true then .ok (sortD ds) S else .bad
  | _, _ => .bad
/-- sep.join of a list or a tuple of texts -/
def joinD (z : Str) (ds : List D) (S : Sto) : R D := match strsD ds with
  | some ys => mk (decide ((ys.map (·.length)).sum + ys.length * z.length ≤ 16777216)) (.str (Txt.join z ys)) S
  | none => .bad
def pJoin (z : Str) : List D → Sto → R D
  | [.lst ds], S => joinD z ds S
  | [.tup ds], S => joinD z ds S
  | _, _ => .bad
/-- the first place of an equal one, flat ones -/
def pIdx (ds : List D) : List D → Sto → R D
  | [y], S => if flat y && ds.all flat then opt (ds.findIdx? fun z => feq z y) (fun j => .int (j : Nat)) S else .bad
  | _, _ => .bad
def eIdx (fo : Ex) (fs : Sem1 (List D)) : Ex := fun env S => (fo env S).bind fun x S1 => match x with
  | .lst ds => (fs env S1).bind fun ys S2 => pIdx ds ys S2
  | _ => .bad
/-- the built-in kinds that are asked for -/
inductive Ty where
  | int | bool | str | tuple | list
def Ty.name : Ty → String
  | .int => "int" | .bool => "bool" | .str => "str" | .tuple => "tuple" | .list => "list"
def isT : Ty → D → Option Bool
  | _, .ins _ _ _ => none
  | _, .obj _ => none
  | _, .exc _ _ _ => none
  | .int, .int _ => some true
  | .int, .bl _ => some true
  | .bool, .bl _ => some true
  | .str, .str _ => some true
  | .tuple, .tup _ => some true
  | .list, .lst _ => some true
  | .list, .frl _ => some true
  | _, _ => some false

def eCall (f : List D → Sto → R D) (fs : Sem1 (List D)) : Ex := fun env S => (fs env S).bind f
def nCall (f : List D → Sto → R (List D)) (fs : Sem1 (List D)) : Sem1 (List D) := fun env S => (fs env S).bind f
def eFrz (f : Sem1 (List D)) : Ex := fun env S => (f env S).bind fun ds S1 => .ok (.lst ds) S1
def eIsi (T : Ty) (f : Ex) : Ex := fun env S => (f env S).bind fun d S1 => opt (isT T d) .bl S1
/-- a slice's part -/
def oNone : Sem1 (Option Int) := fun _ S => .ok none S
def oSome (f : Ex) : Sem1 (Option Int) := fun env S => (f env S).bind fun d S1 => match d with
  | .int i => .ok (some i) S1
  | _ => .bad
def eSl (f : Ex) (lo hi : Sem1 (Option Int)) : Ex := fun env S => (f env S).bind fun x S1 => (lo env S1).bind fun l S2 => (hi env S2).bind fun h S3 => opSl x l h S3
def eRev (f : Ex) : Ex := fun env S => (f env S).bind fun x S1 => match x with
  | .lst ds => .ok (.lst ds.reverse) S1
  | .tup ds => .ok (.tup ds.reverse) S1
  | _ => .bad

section
variable (X : Cx) (cl : Nat → Addr)
def Cal (r : List V → Hp → VK → Prop) (f : List D → Sto → R D) : Prop := ∀ (W : WX) (io : List Addr) (om : Own) (H0 H : Hp) (env : Env) (S : Sto) (σ : L2.St) (Q : VK) (p : Bool) (ds : List D) (vs : List V), Rel X.K cl io om H0 H env S σ → rL X.K cl p io H0 H ds vs →
  Post X.K cl (rD X.K cl true) W io H0 H σ Q (f ds S) → r vs H Q
def CalN (r : List V → Hp → VK → Prop) (f : List D → Sto → R (List D)) : Prop := ∀ (W : WX) (Hs : Hp) (io : List Addr) (om : Own) (H0 H : Hp) (env : Env) (S : Sto) (σ : L2.St) (Q : VK) (p : Bool) (ds : List D) (vs : List V), (∀ a, Hs a ≠ none → H a ≠ none) → Rel X.K cl io om H0 H env S σ → rL X.K cl p io H0 H ds vs →
  Post X.K cl (rN X.K cl Hs) W io H0 H σ Q (f ds S) → r vs H Q
end
section
variable {X : Cx} {cl : Nat → Addr} {W : WX} {e a b c : Expr} {pos : Pos} {K : PySem.W.Frag} {io : List Addr} {om : Own} {H0 H : Hp} {env : Env} {S : Sto} {σ : L2.St} {Q : VK} {p1 p2 : Bool} {fa fb fc : Ex}
theorem CallR.or {f : Value} {r r' : List V → Hp → VK → Prop} (h : CallR X f r) (h' : CallR X f r') : CallR X f (fun x H Q => r x H Q ∨ r' x H Q) := fun pins s σ H xs us Q I r q => q.elim (h pins s σ H xs us Q I r) (h' pins s σ H xs us Q I r)
theorem atI_rep {ds : List D} {vs : List V} {i : Int} {d : D} (r : RepL K cl io H ds vs) (e : atI ds i = some d) : ∃ v, atI vs i = some v ∧ Rep K cl io H d v := by
  unfold atI at e ⊢
  rw [← r.length]
  cases q : ixN ds.length i with
  | none => rw [q] at e; cases e
  | some j =>
    rw [q] at e
    exact r.get (i := j) e
theorem o_ix : Op2 X cl (fun x y H Q => rIxL X.K x y H Q ∨ rIxT X.K x y H Q ∨ rIxS x y H Q) opIx := by
  intro W io om H0 H env S σ Q p1 p2 x y vx vy R0 hx hy h
  unfold opIx at h
  split at h
  · obtain ⟨d, e, h⟩ := opt_post h
    obtain ⟨a, vs, rfl, ha, ra⟩ := hx.lst R0.st
    obtain ⟨v, e2, r⟩ := atI_rep ra e
    exact .inl ⟨a, vs, _, v, rfl, hy.int, SqL.of ha, e2, h.done R0 (.inl r)⟩
  · obtain ⟨d, e, h⟩ := opt_post h
    obtain ⟨a, vs, rfl, ha, ra⟩ := hx.tup R0.st
    obtain ⟨v, e2, r⟩ := atI_rep ra e
    exact .inr (.inl ⟨a, vs, _, v, rfl, hy.int, ha, e2, h.done R0 (.inl r)⟩)
  · obtain ⟨d, e, h⟩ := opt_post h
    obtain ⟨a, vs, rfl, ha, ra⟩ := hx.frl R0.st
    obtain ⟨v, e2, r⟩ := atI_rep ra e
    exact .inl ⟨a, vs, _, v, rfl, hy.int, ha, e2, h.done R0 (.inl r)⟩
  · split at h
    · obtain ⟨d, e, h⟩ := opt_post h
      exact .inr (.inr ⟨_, _, d, hx.str, hy.int, by assumption, e, h.done R0 (.inl rfl)⟩)
    · exact h.elim
  · exact h.elim
theorem d_ix (ha : ED X cl W p1 a fa) (hb : ED X cl W p2 b fb) (hs : PlainIx b := by exact fun _ _ => rfl) : ED X cl W true (.Subscript a b pos) (eBin opIx fa fb) :=
  weakE (pe_ix (ix_list.or (ix_tup.or ix_str)) ha hb hs) fun _ _ _ h => tOp_of o_ix h
theorem keyD_rep {d : D} {k : Key} {v : V} {p : Bool} (e : keyD d = some k) (h : rD K cl p io H0 H d v) : v = kV k := by
  cases d with
  | int i => cases e; exact h.int
  | str i => cases e; exact h.str
  | _ => cases e
theorem look_zip {io : List Addr} {H0 : Hp} {k : Key} {d : D} : ∀ {kvs : List (Key × D)} {vs : List V}, RepL K cl io H0 (kvs.map (·.2)) vs → look kvs k = some d → ∃ v, valV ((kvs.map (·.1)).zip vs) k = some v ∧ Rep K cl io H0 d v
  | [], _, _, e => by simp [look] at e
  | (k1, d1) :: r, _, h, e => by
    obtain ⟨v, t, rfl, h1, h2⟩ := h
    unfold look at e
    rw [List.find?_cons] at e
    by_cases hk : k1 = k
    · simp only [hk, decide_true] at e
      cases e
      exact ⟨v, by simp [valV, hk], h1⟩
    · simp only [hk, decide_false] at e
      obtain ⟨w, e1, e2⟩ := look_zip (k := k) (d := d) h2 e
      refine ⟨w, ?_, e2⟩
      rw [List.map_cons, List.zip_cons_cons, valV_neg hk]
      exact e1
theorem opGet_post {rp : List Addr → Hp → Hp → D → V → Prop} {x y : D} (h : Post K cl rp W io H0 H σ Q (opGet x y S)) : ∃ n kvs k d, x = .obj n ∧ S[n]? = some (.dict kvs) ∧ keyD y = some k ∧ look kvs k = some d ∧ Post K cl rp W io H0 H σ Q (.ok d S) := by
  cases x with
  | obj n =>
    unfold opGet at h
    cases hS : S[n]? with
    | none => simp only [hS] at h; exact h.elim
    | some o =>
      cases o with
      | dict kvs =>
        cases hk : keyD y with
        | none => simp only [hS, hk] at h; exact h.elim
        | some k =>
          simp only [hS, hk] at h
          obtain ⟨d, e, h⟩ := opt_post h
          exact ⟨n, kvs, k, d, rfl, hS, rfl, e, h⟩
      | lst ds => simp only [hS] at h; exact h.elim
      | ins c ks => simp only [hS] at h; exact h.elim
  | _ => exact h.elim
theorem d_get (hu : X.A.units + 1 < cLine) (ha : ED X cl W p1 a fa) (hb : ED X cl W p2 b fb) (hs : NoSl b := by exact fun _ _ => rfl) : ED X cl W true (.Subscript a b pos) (eBin opGet fa fb) := by
  refine weakE (pe_dget hu ha hb hs) fun σ H Q ⟨io, om, H0, env, S, R0, h⟩ => ?_
  refine ⟨io, om, H0, env, S, R0, (Post.bind (rp := rD X.K cl p1) R0 h).mono fun vx H1 ⟨io1, H01, S1, x, e1, R1, q1, h1⟩ => ?_⟩
  refine ⟨io1, om, H01, env, S1, R1, (Post.bind (rp := rD X.K cl p2) R1 h1).mono fun vy H2 ⟨io2, H02, S2, y, e2, R2, q2, h2⟩ => ?_⟩
  obtain ⟨n, kvs, key, d, rfl, hS, hk, e, h2⟩ := opGet_post h2
  obtain ⟨ad, rfl, hio⟩ := (q1.ev e2).obj
  obtain ⟨vs, hH, rv⟩ := R2.st.ob n ad _ hio hS
  obtain ⟨v, ev, rd⟩ := look_zip rv e
  rw [keyD_rep hk q2]
  exact ⟨ad, v, rfl, by rw [← ev]; exact DGet.k hH, h2.done R2 (.inl rd)⟩
abbrev OD (X : Cx) (cl : Nat → Addr) (W : WX) (e : Option Expr) (f : Sem1 (Option Int)) : Prop := PO X e (tG X.K cl (fun _ _ _ (a b : Option Int) => a = b) W f)
theorem weakO {e : Option Expr} {t t' : TO} (h : PO X e t) (q : ∀ σ H Q, t' σ H Q → t σ H Q) : PO X e t' := ⟨fun pins s σ H Q I w => h.run pins s σ H Q I (q σ H Q w)⟩
theorem o_none : OD X cl W none oNone := weakO po_none fun σ H Q ⟨io, om, H0, env, S, R0, h⟩ => h.done R0 rfl
theorem o_some (ha : ED X cl W p1 a fa) : OD X cl W (some a) (oSome fa) := by
  refine weakO (po_some ha) fun σ H Q ⟨io, om, H0, env, S, R0, h⟩ => ?_
  refine ⟨io, om, H0, env, S, R0, (Post.bind R0 h).mono fun vx H1 ⟨io1, H01, S1, x, e1, R1, q1, h1⟩ => ?_⟩
  split at h1
  · exact ⟨_, q1.int, h1.done R1 rfl⟩
  · exact h1.elim
theorem cutA_rep {ds : List D} {vs : List V} (r : RepL K cl io H ds vs) (lo hi : Option Int) : RepL K cl io H (cutA ds lo hi) (cutV vs lo hi) := by
  unfold cutA cutV
  rw [← r.length]
  exact (r.drop _).take _
theorem cut_whole {α : Type} {xs : List α} {lo hi : Option Int} (h : HT.sIx xs.length 0 lo = 0 ∧ HT.sIx xs.length xs.length hi = xs.length) : cutA xs lo hi = xs := by
  unfold cutA
  rw [h.1, h.2]
  simp
variable {lo hi : Option Expr} {fl fh : Sem1 (Option Int)} {q2 : Pos}
theorem d_sl (ha : ED X cl W p1 a fa) (hl : OD X cl W lo fl) (hh : OD X cl W hi fh) : ED X cl W true (.Subscript a (.Slice lo hi none q2) pos) (eSl fa fl fh) := by
  refine weakE (pe_slice (sl_list.or (sl_tupA.or sl_str)) ha hl hh) fun σ H Q ⟨io, om, H0, env, S, R0, h⟩ => ?_
  refine ⟨io, om, H0, env, S, R0, (Post.bind (rp := rD X.K cl p1) R0 h).mono fun vx H1 ⟨io1, H01, S1, x, e1, R1, q1, h1⟩ => ?_⟩
  refine ⟨io1, om, H01, env, S1, R1, (Post.bind R1 h1).mono fun vl H2 ⟨io2, H02, S2, l, e2, R2, q2, h2⟩ => ?_⟩
  refine ⟨io2, om, H02, env, S2, R2, (Post.bind R2 h2).mono fun vh H3 ⟨io3, H03, S3, u, e3, R3, q3, h3⟩ => ?_⟩
  subst q2 q3
  have q1 := (q1.ev e2).ev e3
  unfold opSl at h3
  split at h3
  · obtain ⟨p, vs, rfl, hp, rp⟩ := q1.lst R3.st
    exact .inl ⟨p, vs, rfl, SqL.of hp, Post.newL R3 (cutA_rep rp _ _) h3⟩
  · obtain ⟨p, vs, rfl, hp, rp⟩ := q1.frl R3.st
    exact .inl ⟨p, vs, rfl, hp, Post.newL R3 (cutA_rep rp _ _) h3⟩
  · obtain ⟨p, vs, rfl, hp, rp⟩ := q1.tup R3.st
    refine .inr (.inl ⟨p, vs, rfl, hp, fun w => ?_, fun _ => Post.newT R3 (cutA_rep rp _ _) h3⟩)
    rw [← rp.length] at w
    rw [cut_whole w] at h3
    refine h3.done R3 (.inl ?_)
    rcases q1 with q1 | ⟨_, _, _, _, e, _⟩
    · exact q1
    · cases e
  · split at h3
    · exact .inr (.inr ⟨_, q1.str, by assumption, h3.done R3 (.inl rfl)⟩)
    · exact h3.elim
  · exact h3.elim
/-- a new list cut out of one -/
def nSl (f : Ex) (lo hi : Sem1 (Option Int)) : Sem1 (List D) := fun env S => (f env S).bind fun x S1 => (lo env S1).bind fun l S2 => (hi env S2).bind fun h S3 => match x with
  | .lst ds => .ok (cutA ds l h) S3
  | .frl ds => .ok (cutA ds l h) S3
  | _ => .bad
variable {es : List Expr} {fs : Sem1 (List D)} {x : Str} {q : Pos}
theorem d_callB {id : String} {r : List V → Hp → VK → Prop} {f : List D → Sto → R D} (hc : CallR X (.builtin id) r) (hf : Cal X cl r f) (ha : AD X cl W p1 (e :: es) fs) (hm : X.mg x = none) (hg : Gl X x := by rfl) (hv : bootBuiltins x = some (.builtin id) := by decide +kernel)
    (hn : x ≠ "__name__" := by decide) (hdb : (x == ("__debug__" : Str)) = false := by decide) (he : starEach (e :: es) X.env = (false, eval e X.env) :: starEach es X.env := by rfl) (hpl : (backTo pos (starEach es X.env)).any (·.1) = false := by rfl) :
    ED X cl W true (.Call (.Name x q) (e :: es) [] pos) (eCall f fs) := by
  refine weakE (pe_callB hc hg hm hv ha hn hdb he hpl) fun σ H Q ⟨io, om, H0, env, S, R0, h⟩ => ?_
  refine ⟨io, om, H0, env, S, R0, (Post.bind R0 h).mono fun vx H1 ⟨io1, H01, S1, ds, e1, R1, q1, h1⟩ => ?_⟩
  exact hf W io1 om H01 H1 env S1 σ Q p1 ds vx R1 q1 h1
theorem d_callTy {T : String} {r : List V → Hp → VK → Prop} {f : List D → Sto → R D} (hc : CallR X (.type T) r) (hf : Cal X cl r f) (ha : AD X cl W p1 (e :: es) fs) (hm : X.mg x = none) (hg : Gl X x := by rfl) (hv : bootBuiltins x = some (.type T) := by decide +kernel)
    (hn : x ≠ "__name__" := by decide) (hdb : (x == ("__debug__" : Str)) = false := by decide) (he : starEach (e :: es) X.env = (false, eval e X.env) :: starEach es X.env := by rfl) (hpl : (backTo pos (starEach es X.env)).any (·.1) = false := by rfl) :
    ED X cl W true (.Call (.Name x q) (e :: es) [] pos) (eCall f fs) := by
  refine weakE (pe_callTy hc hg hm hv ha hn hdb he hpl) fun σ H Q ⟨io, om, H0, env, S, R0, h⟩ => ?_
  refine ⟨io, om, H0, env, S, R0, (Post.bind R0 h).mono fun vx H1 ⟨io1, H01, S1, ds, e1, R1, q1, h1⟩ => ?_⟩
  exact hf W io1 om H01 H1 env S1 σ Q p1 ds vx R1 q1 h1
/-- a new list as a value -/
theorem d_frz {f : Sem1 (List D)} (h : ND X cl W e f) : ED X cl W true e (eFrz f) := by
  refine weakE h fun σ H Q ⟨io, om, H0, env, S, R0, h⟩ => ⟨io, om, H0, env, S, R0, ?_⟩
  have h : Post X.K cl (rD X.K cl true) W io H0 H σ Q ((f env S).bind fun ds S1 => .ok (.lst ds) S1) := h
  cases q : f env S with
  | ok ds S' =>
    rw [q] at h
    rintro io' H0' H' v x st ⟨a, vs, ev, e1, e2, e3, e4, r⟩
    obtain ⟨st2, x2⟩ := StR.freezeN x st e1 e2 e3 e4
    exact h io' _ H' v x2 st2 (.inl ⟨a, vs, ev, upd_same, RepL.mono (.refl _) (same_upd e2) _ _ r⟩)
  | exc e' S' => rw [q] at h; exact h
  | bad => rw [q] at h; exact h
theorem rL_one {p : Bool} {d : D} {vs : List V} (h : rL K cl p io H0 H [d] vs) : ∃ v, vs = [v] ∧ rD K cl p io H0 H d v := by
  obtain ⟨v, r, rfl, h1, h2⟩ := h
  cases h2
  exact ⟨v, rfl, h1⟩
theorem rL_two {p : Bool} {d e : D} {vs : List V} (h : rL K cl p io H0 H [d, e] vs) : ∃ v w, vs = [v, w] ∧ rD K cl p io H0 H d v ∧ rD K cl p io H0 H e w := by
  obtain ⟨v, r, rfl, h1, h2⟩ := h
  obtain ⟨w, rfl, h3⟩ := rL_one h2
  exact ⟨v, w, rfl, h1, h3⟩
theorem blsD_rep {io : List Addr} {H : Hp} : ∀ {ds : List D} {ns : List Bool} {vs : List V}, blsD ds = some ns → RepL K cl io H ds vs → vs = ns.map V.bl
  | [], ns, _, e, h => by cases e; exact h
  | d :: ds, ns, _, e, h => by
    obtain ⟨v, r, rfl, h1, h2⟩ := h
    cases d with
    | bl i =>
      unfold blsD at e
      cases q : blsD ds with
      | none => rw [q] at e; cases e
      | some ms =>
        rw [q] at e; cases e
        cases h1
        rw [blsD_rep q h2]; rfl
    | _ => cases e
theorem c_len : Cal X cl (fun xs H Q => ∃ x n, xs = [x] ∧ LenV X.K x H n ∧ Q (.int n) H) pLen := by
  intro W io om H0 H env S σ Q p ds vs R0 r h
  unfold pLen at h
  split at h
  · split at h
    · obtain ⟨v, rfl, q⟩ := rL_one r
      rw [q.str]
      exact ⟨_, _, rfl, ⟨by assumption, rfl⟩, h.done R0 (.inl rfl)⟩
    · exact h.elim
  · obtain ⟨v, rfl, q⟩ := rL_one r
    obtain ⟨a, ws, rfl, ha, ra⟩ := q.lst R0.st
    exact ⟨_, _, rfl, .inl ⟨ws, SqL.of ha, rfl⟩, h.done R0 (.inl (by rw [ra.length]; rfl))⟩
  · obtain ⟨v, rfl, q⟩ := rL_one r
    obtain ⟨a, ws, rfl, ha, ra⟩ := q.frl R0.st
    exact ⟨_, _, rfl, .inl ⟨ws, ha, rfl⟩, h.done R0 (.inl (by rw [ra.length]; rfl))⟩
  · obtain ⟨v, rfl, q⟩ := rL_one r
    obtain ⟨a, ws, rfl, ha, ra⟩ := q.tup R0.st
    exact ⟨_, _, rfl, .inr ⟨ws, ha, rfl⟩, h.done R0 (.inl (by rw [ra.length]; rfl))⟩
  · exact h.elim
theorem c_divmod : Cal X cl (fun xs H Q => ∃ i j, xs = [.int i, .int j] ∧ CDiv i j ∧ ∀ p, H p = none → Q (.ref p) (upd H p (.tup [.int (i / j), .int (i % j)]))) pDivmod := by
  intro W io om H0 H env S σ Q p ds vs R0 r h
  unfold pDivmod at h
  split at h
  · obtain ⟨hl, h⟩ := mk_post h
    obtain ⟨v, w, rfl, q1, q2⟩ := rL_two r
    rw [q1.int, q2.int]
    exact ⟨_, _, rfl, (by unfold CDiv; simpa only [decide_eq_true_eq] using hl), Post.newT R0 (RepL.cons (d := .int _) rfl (RepL.cons (d := .int _) rfl RepL.nil)) h⟩
  · exact h.elim
theorem c_int : Cal X cl (fun xs H Q => (∃ i, xs = [.int i] ∧ Q (.int i) H) ∨ ∃ k, xs = [.bl k] ∧ Q (.int (if k then 1 else 0)) H) pInt := by
  intro W io om H0 H env S σ Q p ds vs R0 r h
  unfold pInt at h
  split at h
  · obtain ⟨v, rfl, q⟩ := rL_one r
    rw [q.int]
    exact .inl ⟨_, rfl, h.done R0 (.inl rfl)⟩
  · obtain ⟨v, rfl, q⟩ := rL_one r
    rw [q.bl]
    exact .inr ⟨_, rfl, h.done R0 (.inl rfl)⟩
  · exact h.elim
theorem c_str : Cal X cl rStrA pStr := by
  intro W io om H0 H env S σ Q p ds vs R0 r h
  unfold pStr at h
  split at h
  · obtain ⟨hl, h⟩ := mk_post h
    obtain ⟨v, rfl, q⟩ := rL_one r
    rw [q.int]
    exact .inl ⟨_, rfl, of_decide_eq_true hl, h.done R0 (.inl rfl)⟩
  · obtain ⟨v, rfl, q⟩ := rL_one r
    rw [q.bl]
    exact .inr (.inl ⟨_, rfl, h.done R0 (.inl rfl)⟩)
  · obtain ⟨v, rfl, q⟩ := rL_one r
    rw [q.str]
    exact .inr (.inr ⟨_, rfl, h.done R0 (.inl rfl)⟩)
  · exact h.elim
theorem c_all : Cal X cl (rAll X.K) pAll := by
  intro W io om H0 H env S σ Q p ds vs R0 r h
  unfold pAll at h
  split at h
  · obtain ⟨m, e, h⟩ := opt_post h
    obtain ⟨v, rfl, q⟩ := rL_one r
    obtain ⟨a, ws, rfl, ha, ra⟩ := q.lst R0.st
    obtain ⟨ns, e1, e2⟩ := Option.map_eq_some_iff.mp e
    have e3 := blsD_rep e1 ra
    subst e3 e2
    exact ⟨a, ns, rfl, SqL.of ha, h.done R0 (.inl rfl)⟩
  · exact h.elim
theorem RepL_ints {io : List Addr} {H : Hp} : ∀ ns : List Int, RepL K cl io H (ns.map D.int) (ns.map V.int)
  | [] => .nil
  | _ :: r => .cons rfl (RepL_ints r)
/-- sorted(xs), xs a list of pairs of ints -/
def rSortedPT (K : PySem.W.Frag) : List V → Hp → VK → Prop := fun vs H Q => ∃ (a : Addr) (zs : List (V × (Int × Int))), vs = [V.ref a] ∧ SqL K H a (zs.map Prod.fst) ∧ (∀ z ∈ zs, ∃ t, z.1 = V.ref t ∧ SqT K H t [.int z.2.1, .int z.2.2]) ∧
  ∀ (ys : List (V × (Int × Int))) (p : Addr), ys.Perm zs → (ys.map Prod.snd).Pairwise (fun p q => leP p q = true) → H p = none → Q (.ref p) (upd H p (.lst (ys.map Prod.fst)))
/-- sorted(xs), xs a list of data alike in all -/
def rSortedX (K : PySem.W.Frag) : List V → Hp → VK → Prop := fun vs H Q => ∃ (a : Addr) (zs : List (V × D)), vs = [V.ref a] ∧ SqL K H a (zs.map Prod.fst) ∧ (∀ z ∈ zs, Dp K H z.1 (toPy z.2)) ∧ PySem.W.AllAlike (zs.map fun z => toPy z.2) ∧ PySem.W.Sortable (zs.map fun z => toPy z.2) ∧ (∀ z ∈ zs, (toPy z.2).depth ≤ 40) ∧
  ∀ p : Addr, H p = none → Q (.ref p) (upd H p (.lst ((zs.mergeSort (PySem.W.dataLe false fun z => toPy z.2)).map Prod.fst)))
section
variable {es : List Expr} {fs : Sem1 (List D)} {apos : Pos} {p1 : Bool} {W : WX} {e o : Expr} {fo : Ex} {p2 : Bool}
end
section
variable (ha : AD X cl W p1 (e :: es) fs)
include ha
theorem d_len (hm : X.mg "len" = none) (hg : Gl X "len" := by rfl) (he : starEach (e :: es) X.env = (false, eval e X.env) :: starEach es X.env := by rfl) (hpl : (backTo pos (starEach es X.env)).any (·.1) = false := by rfl) : ED X cl W true (.Call (.Name "len" q) (e :: es) [] pos) (eCall pLen fs) := d_callB call_len c_len ha hm hg (by decide +kernel) (by decide) (by decide) he hpl
theorem d_divmod (hm : X.mg "divmod" = none) (hg : Gl X "divmod" := by rfl) (he : starEach (e :: es) X.env = (false, eval e X.env) :: starEach es X.env := by rfl) (hpl : (backTo pos (starEach es X.env)).any (·.1) = false := by rfl) : ED X cl W true (.Call (.Name "divmod" q) (e :: es) [] pos) (eCall pDivmod fs) := d_callB call_divmod c_divmod ha hm hg (by decide +kernel) (by decide) (by decide) he hpl
theorem d_all (hm : X.mg "all" = none) (hc : X.calm = true := by rfl) (hg : Gl X "all" := by rfl) (he : starEach (e :: es) X.env = (false, eval e X.env) :: starEach es X.env := by rfl) (hpl : (backTo pos (starEach es X.env)).any (·.1) = false := by rfl) : ED X cl W true (.Call (.Name "all" q) (e :: es) [] pos) (eCall pAll fs) := d_callB (cr_all hc) c_all ha hm hg (by decide +kernel) (by decide) (by decide) he hpl
theorem d_intOf (hm : X.mg "int" = none) (hg : Gl X "int" := by rfl) (he : starEach (e :: es) X.env = (false, eval e X.env) :: starEach es X.env := by rfl) (hpl : (backTo pos (starEach es X.env)).any (·.1) = false := by rfl) : ED X cl W true (.Call (.Name "int" q) (e :: es) [] pos) (eCall pInt fs) := d_callTy call_int1 c_int ha hm hg (by decide +kernel) (by decide) (by decide) he hpl
theorem d_strOf (hm : X.mg "str" = none) (hg : Gl X "str" := by rfl) (he : starEach (e :: es) X.env = (false, eval e X.env) :: starEach es X.env := by rfl) (hpl : (backTo pos (starEach es X.env)).any (·.1) = false := by rfl) : ED X cl W true (.Call (.Name "str" q) (e :: es) [] pos) (eCall pStr fs) := d_callTy call_strA c_str ha hm hg (by decide +kernel) (by decide) (by decide) he hpl
end
theorem isT_ty {K : PySem.W.Frag} {p : Bool} {T : Ty} {d : D} {v : V} {b : Bool} (st : StR K cl io H0 H S) (h : rD K cl p io H0 H d v) (e : isT T d = some b) : ∃ t : String, TyX K H v (.type t) ∧ kitB t T.name = some b := by
  cases d with
  | non =>
    rw [h.non]
    refine ⟨_, .base .non, ?_⟩
    cases T <;> (cases e; decide +kernel)
  | bl x =>
    rw [h.bl]
    refine ⟨_, .base (.bl x), ?_⟩
    cases T <;> (cases e; decide +kernel)
  | int x =>
    rw [h.int]
    refine ⟨_, .base (.int x), ?_⟩
    cases T <;> (cases e; decide +kernel)
  | str x =>
    rw [h.str]
    refine ⟨_, .base (.str x), ?_⟩
    cases T <;> (cases e; decide +kernel)
  | tup ds =>
    obtain ⟨a, vs, rfl, ha, ra⟩ := h.tup st
    refine ⟨"tuple", ?_, ?_⟩
    · rcases ha with (ha | ⟨o, ha⟩) | ⟨o, _, _, ha, hc, _⟩
      · exact .base (.tup ha)
      · exact .fTuple ha
      · exact .kTuple ha hc
    · cases T <;> (cases e; decide +kernel)
  | lst ds =>
    obtain ⟨a, vs, rfl, ha, ra⟩ := h.lst st
    refine ⟨"list", .base (.lst ha), ?_⟩
    cases T <;> (cases e; decide +kernel)
  | frl ds =>
    obtain ⟨a, vs, rfl, ha, ra⟩ := h.frl st
    refine ⟨"list", ?_, ?_⟩
    · rcases ha with (ha | ⟨o, ha⟩) | ⟨o, _, _, ha, hc, _⟩
      · exact .base (.lst ha)
      · exact .base (.frz ha)
      · exact .kList ha hc
    · cases T <;> (cases e; decide +kernel)
  | ins c ks ds => cases T <;> cases e
  | obj n => cases T <;> cases e
  | exc c ks ds => cases T <;> cases e
theorem d_isi {T : Ty} {x : Str} {q' : Pos} (ha : ED X cl W p1 a fa) (hm : X.mg "isinstance" = none) (hT : X.mg x = none) (hx : bootBuiltins x = some (.type T.name) := by decide +kernel) (hg : Gl X "isinstance" := by rfl) (hgT : Gl X x := by rfl)
    (hn : x ≠ "__name__" := by decide) (hd : (x == ("__debug__" : Str)) = false := by decide)
    (hs1 : starEach [a, .Name x q'] X.env = (false, eval a X.env) :: starEach [.Name x q'] X.env := by rfl) (hs2 : starEach [.Name x q'] X.env = (false, eval (.Name x q') X.env) :: starEach [] X.env := by rfl)
    (hpl : (backTo pos (starEach [.Name x q'] X.env)).any (·.1) = false := by rfl) :
    ED X cl W true (.Call (.Name "isinstance" q) [a, .Name x q'] [] pos) (eIsi T fa) := by
  refine weakE (pe_callB call_isi hg hm (by decide +kernel) (pa_cons ha (pa_cons (pe_bltn (v := .ty T.name) hgT hT hx rfl hn hd) pa_nil hs2) hs1) (by decide) (by decide) hs1 hpl) fun σ H Q ⟨io, om, H0, env, S, R0, h⟩ => ?_
  refine ⟨io, om, H0, env, S, R0, (Post.bind R0 h).mono fun vx H1 ⟨io1, H01, S1, x, e1, R1, q1, h1⟩ => ?_⟩
  obtain ⟨b, e, h1⟩ := opt_post h1
  obtain ⟨t, ht, hk⟩ := isT_ty R1.st q1 e
  exact ⟨vx, .ty T.name, _, _, b, rfl, .ty _, ht, kit_ty hk, h1.done_bl R1⟩
end
end G

namespace PySem
open Sem (wp)
open Builtin Builtin.Str PySem.Calls
section
variable {prog : Program} {w : World} {A : Around} {E : Value → Shared → Prop} {s : Shared}
end
end PySem
namespace G
open PySem PySem.Spec PyProof.Rows L2
/-- the tuple at a, each item in a new pair -/
def IteT (K : PySem.W.Frag) (a : Addr) : It :=
  ⟨fun i H => ∃ (xs : List V) (x : V), SqT K H a xs ∧ xs[i]? = some x, fun i H v H' => ∃ T x, v = .ref T ∧ H T = none ∧ H' = upd H T (.tup [.int (i : Nat), x]) ∧ ∀ xs, SqT K H a xs → xs[i]? = some x, fun i H => ∃ xs : List V, SqT K H a xs ∧ xs.length ≤ i⟩
def iEnumTu (K : PySem.W.Frag) (ta : TA) : TI := fun σ H R => ta σ H fun vs H1 => ∃ a xs, vs = [.ref a] ∧ SqT K H1 a xs ∧ R (IteT K a) H1
end G

set_option maxHeartbeats 1000000
namespace GZ
open PySem PySem.Spec PyProof.Rows L2
/-- the iterator at it walks the values xs, that stand at l -/
structure Row (prog : Program) (w : World) (it l : Addr) (Is : Heap → Nat → Prop) (At : Heap → Array Value → Prop) : Prop where
  item : ∀ {A : Around} {E : Value → Shared → Prop} {s : Shared} {i : Nat} {xs : Array Value} {x : Value} {Q : Value → Shared → Prop}, Is s.heap i → At s.heap xs → xs[i]? = some x →
    (∀ h', Is h' (i + 1) → Heap.SameBut it s.heap h' → Q x { s with heap := h' }) → wpAny (model prog w) A (Builtin.SmallTypes.nextOf (.ref it)) Q E s
  fin : ∀ {A : Around} {E : Value → Shared → Prop} {s : Shared} {i : Nat} {xs : Array Value} {Q : Value → Shared → Prop}, A.handled = none → Is s.heap i → At s.heap xs → xs[i]? = none →
    (∀ h' e, Heap.ExtBut it s.heap h' → (∃ o, h'.get? e = some o ∧ o.cls = .type "StopIteration") → E (.ref e) { s with heap := h' }) → wpAny (model prog w) A (Builtin.SmallTypes.nextOf (.ref it)) Q E s
  keep : ∀ {h h' : Heap} {i : Nat}, Is h i → (∀ o, h.get? it = some o → h'.get? it = some o) → Is h' i
  keepA : ∀ {h h' : Heap} {xs : Array Value}, At h xs → (∀ o, h.get? l = some o → h'.get? l = some o) → At h' xs
  obj : ∀ {h : Heap} {i : Nat}, Is h i → ∃ o, h.get? it = some o ∧ ∃ fs, o.data = .fields fs
section
variable {prog : Program} {w : World} {it l : Addr}
theorem rowT : Row prog w it l (fun h i => h.IsTupleIter it l i) (fun h xs => h.IsTuple l xs) where
  item := fun a b c d => RZ.nextOf_tuple_item a b c d
  fin := fun a b c d e => RZ.nextOf_tuple_end a b c d e
  keep := fun a e => Heap.IsTupleIter.at a e
  keepA := fun ⟨o, ho, r⟩ e => ⟨o, e o ho, r⟩
  obj := fun ⟨o, ho, _, hd⟩ => ⟨o, ho, _, hd⟩
end
section
variable {prog : Program} {w : World} {A : Around} {E : Value → Shared → Prop} {s : Shared} {z TI TO i1 i2 l1 l2 : Addr} {I1 I2 : Heap → Nat → Prop} {A1 A2 : Heap → Array Value → Prop} {k1 k2 : Nat} {xs ys : Array Value} {x y a b : Value}
end
/-- a row of the tracked heap: how it stands there -/
abbrev SqX := Hp → List V → Prop
/-- rows p and q as they stand at each turn, the items in new pairs -/
def Itm (P Q : SqX) : It :=
  ⟨fun i H => ∃ (xs ys : List V) (x y : V), P H xs ∧ Q H ys ∧ xs[i]? = some x ∧ ys[i]? = some y,
    fun i H v H' => ∃ T x y, v = .ref T ∧ H T = none ∧ H' = upd H T (.tup [x, y]) ∧ (∀ xs, P H xs → xs[i]? = some x) ∧ ∀ ys, Q H ys → ys[i]? = some y,
    fun i H => ∃ xs ys : List V, P H xs ∧ Q H ys ∧ (xs.length ≤ i ∨ ys.length ≤ i)⟩
/-- how a tracked row is read off the heap -/
def Rd (prog : Program) (w : World) (K : PySem.W.Frag) (P : SqX) (At : Heap → Array Value → Prop) : Prop := ∀ {X : Cx} {pins : List (Addr × Obj)} {s : Shared} {σ : L2.St} {H : Hp} {xs : List V}, X.prog = prog → X.w = w → X.K = K → Inv X pins σ H s → P H xs →
  ∃ its, Vals xs its ∧ At s.heap its.toArray ∧ ∀ ys, P H ys → ys = xs
abbrev zTL1 (h : Heap) (l1 : Addr) : Heap := h.push { cls := .type "tuple_iterator", data := .fields #[.ref l1, .int 0 0] }
abbrev zTL2 (h : Heap) (l1 l2 : Addr) : Heap := (zTL1 h l1).push { cls := .type "list_iterator", data := .fields #[.ref l2, .int 0 0] }
abbrev zTL3 (h : Heap) (l1 l2 : Addr) : Heap := (zTL2 h l1 l2).push { cls := .type "tuple", data := .seq #[.ref h.objs.size, .ref (zTL1 h l1).objs.size] }
abbrev zTL4 (h : Heap) (l1 l2 : Addr) : Heap := (zTL3 h l1 l2).push { cls := .type "tuple", data := .seq #[.none, .none] }
abbrev zTL5 (h : Heap) (l1 l2 : Addr) : Heap := (zTL4 h l1 l2).push { cls := .type "zip", data := .fields #[.none, .bool false, .bool false, .ref (zTL2 h l1 l2).objs.size, .ref (zTL3 h l1 l2).objs.size] }
section
variable {prog : Program} {w : World} {A : Around} {E : Value → Shared → Prop} {s : Shared}
end

abbrev zLT1 (h : Heap) (l1 : Addr) : Heap := h.push { cls := .type "list_iterator", data := .fields #[.ref l1, .int 0 0] }
abbrev zLT2 (h : Heap) (l1 l2 : Addr) : Heap := (zLT1 h l1).push { cls := .type "tuple_iterator", data := .fields #[.ref l2, .int 0 0] }
abbrev zLT3 (h : Heap) (l1 l2 : Addr) : Heap := (zLT2 h l1 l2).push { cls := .type "tuple", data := .seq #[.ref h.objs.size, .ref (zLT1 h l1).objs.size] }
abbrev zLT4 (h : Heap) (l1 l2 : Addr) : Heap := (zLT3 h l1 l2).push { cls := .type "tuple", data := .seq #[.none, .none] }
abbrev zLT5 (h : Heap) (l1 l2 : Addr) : Heap := (zLT4 h l1 l2).push { cls := .type "zip", data := .fields #[.none, .bool false, .bool false, .ref (zLT2 h l1 l2).objs.size, .ref (zLT3 h l1 l2).objs.size] }
section
variable {prog : Program} {w : World} {A : Around} {E : Value → Shared → Prop} {s : Shared}
end

abbrev tqT (K : PySem.W.Frag) (a : Addr) : SqX := fun H xs => SqT K H a xs
abbrev tqL (K : PySem.W.Frag) (a : Addr) : SqX := fun H xs => SqL K H a xs
def iZipM (K : PySem.W.Frag) (ta : TA) : TI := fun σ H R => ta σ H fun vs H1 => ∃ a b xs ys, vs = [.ref a, .ref b] ∧ ((SqT K H1 a xs ∧ SqL K H1 b ys ∧ R (Itm (tqT K a) (tqL K b)) H1) ∨ (SqL K H1 a xs ∧ SqT K H1 b ys ∧ R (Itm (tqL K a) (tqT K b)) H1))
end GZ

namespace G
open PySem PySem.Spec PyProof.Rows L2

/-- the iterator J gives out ds -/
def Walks (K : PySem.W.Frag) (cl : Nat → Addr) (J : It) (ds : List D) (io : List Addr) (H0 : Hp) : Prop := ∀ io2 H02 H2 S2, Pre io io2 → Same H0 H02 → StR K cl io2 H02 H2 S2 →
  (∀ (i : Nat) d, ds[i]? = some d → J.go i H2 ∧ ∀ x H', J.yld i H2 x H' → ∃ H0', StR K cl io2 H0' H' S2 ∧ Ev io2 H02 H2 io2 H0' H' ∧ Rep K cl io2 H0' d x) ∧ J.stop ds.length H2
def rW (K : PySem.W.Frag) (cl : Nat → Addr) : List Addr → Hp → Hp → List D → It → Prop := fun io H0 _ ds J => Walks K cl J ds io H0
abbrev ID (X : Cx) (cl : Nat → Addr) (W : WX) (tg iter : Expr) (f : Sem1 (List D)) : Prop := PI X tg iter (tG X.K cl (rW X.K cl) W f)
def signs (x : Str) : List D := x.cps.toList.map fun c => D.str ⟨#[c]⟩
def seqD : D → Option (List D)
  | .lst ds => some ds
  | .tup ds => some ds
  | .frl ds => some ds
  | .str x => some (signs x)
  | _ => none
def iSeq (f : Ex) : Sem1 (List D) := fun env S => (f env S).bind fun d S1 => match seqD d with
  | some ds => .ok ds S1
  | none => .bad
def ok62 (i : Int) : Bool := decide (-(2 ^ 62) ≤ i ∧ i < 2 ^ 62)
def rangeD (lo hi : Int) : List D := (List.range (hi - lo).toNat).map fun i => D.int (lo + (i : Nat))
def iRng1 (f : Ex) : Sem1 (List D) := fun env S => (f env S).bind fun d S1 => match d with
  | .int j => if ok62 j then .ok (rangeD 0 j) S1 else .bad
  | _ => .bad
def iRng2 (f g : Ex) : Sem1 (List D) := fun env S => (f env S).bind fun d S1 => (g env S1).bind fun e S2 => match d, e with
  | .int i, .int j => if ok62 i && ok62 j then .ok (rangeD i j) S2 else .bad
  | _, _ => .bad
def iRng3 (f g h : Ex) : Sem1 (List D) := fun env S => (f env S).bind fun d S1 => (g env S1).bind fun e S2 => (h env S2).bind fun c S3 => match d, e, c with
  | .int i, .int j, .int c => if ok62 i && ok62 j && decide (c ≠ 0 ∧ c.natAbs < 1073741824) && Builtin.Range.small i j c then .ok ((List.range (Builtin.Range.rangeSize i j c).toNat).map fun k => D.int (i + (k : Nat) * c)) S3 else .bad
  | _, _, _ => .bad
def enumD (ds : List D) : List D := ds.zipIdx.map fun p => D.tup [.int (p.2 : Nat), p.1]
def iEnumD (f : Sem1 (List D)) : Sem1 (List D) := fun env S => (f env S).bind fun ds S1 => match ds with
  | [.lst ds] => .ok (enumD ds) S1
  | [.tup ds] => .ok (enumD ds) S1
  | _ => .bad
def zipD (a b : List D) : List D := (a.zip b).map fun p => D.tup [p.1, p.2]
def iZipD (f : Sem1 (List D)) : Sem1 (List D) := fun env S => (f env S).bind fun ds S1 => match ds with
  | [.lst a, .lst b] => .ok (zipD a b) S1
  | [.tup a, .tup b] => .ok (zipD a b) S1
  | [.tup a, .lst b] => .ok (zipD a b) S1
  | [.lst a, .tup b] => .ok (zipD a b) S1
  | _ => .bad

section
variable {X : Cx} {cl : Nat → Addr} {W : WX} {e a b c tg : Expr} {pos : Pos} {K : PySem.W.Frag} {io io' : List Addr} {om : Own} {H0 H H0' H' : Hp} {env : Env} {S S' : Sto} {σ : L2.St} {Q : VK} {p1 p2 : Bool} {fa fb fc : Ex}
theorem Walks.ev {J : It} {ds : List D} (x : Ev io H0 H io' H0' H') (h : Walks K cl J ds io H0) : Walks K cl J ds io' H0' := fun io2 H02 H2 S2 p s st => h io2 H02 H2 S2 (x.pre.trans p) (x.h0.trans s) st
theorem weakI {t t' : TI} (h : PI X tg e t) (q : ∀ σ H R, t' σ H R → t σ H R) : PI X tg e t' := ⟨fun pins s σ H R I w => h.run pins s σ H R I (q σ H R w)⟩
theorem piOr {t t' : TI} (h : PI X tg e t) (h' : PI X tg e t') : PI X tg e (fun σ H R => t σ H R ∨ t' σ H R) := ⟨fun pins s σ H R I w => w.elim (h.run pins s σ H R I) (h'.run pins s σ H R I)⟩
theorem walks_list {a : Addr} {vs : List V} {ds : List D} (h : H0 a = some (.lst vs)) (r : RepL K cl io H0 ds vs) : Walks K cl (Itl K a) ds io H0 := fun io2 H02 H2 S2 p s st => by
  have hh : H2 a = some (.lst vs) := st.sub _ _ (s _ _ h)
  refine ⟨fun i d hd => ?_, ⟨vs, SqL.of hh, Nat.le_of_eq r.length.symm⟩⟩
  obtain ⟨v, hv, rv⟩ := r.get hd
  refine ⟨⟨vs, v, SqL.of hh, hv⟩, ?_⟩
  rintro x H' ⟨rfl, q⟩
  have e := q vs (SqL.of hh)
  rw [hv] at e; cases e
  exact ⟨H02, st, .refl, Rep.mono p s d v rv⟩
theorem walks_frl {a : Addr} {vs : List V} {ds : List D} (h : SqL K H0 a vs) (r : RepL K cl io H0 ds vs) : Walks K cl (Itl K a) ds io H0 := fun io2 H02 H2 S2 p s st => by
  have hh : SqL K H2 a vs := st.sub.seq (s.seq h)
  refine ⟨fun i d hd => ?_, ⟨vs, hh, Nat.le_of_eq r.length.symm⟩⟩
  obtain ⟨v, hv, rv⟩ := r.get hd
  refine ⟨⟨vs, v, hh, hv⟩, ?_⟩
  rintro x H' ⟨rfl, q⟩
  have e := q vs hh
  rw [hv] at e; cases e
  exact ⟨H02, st, .refl, Rep.mono p s d v rv⟩
theorem walks_tup {a : Addr} {vs : List V} {ds : List D} (h : SqT K H0 a vs) (r : RepL K cl io H0 ds vs) : Walks K cl (Itt K a) ds io H0 := fun io2 H02 H2 S2 p s st => by
  have hh : SqT K H2 a vs := Same.seqT st.sub (Same.seqT s h)
  refine ⟨fun i d hd => ?_, ⟨vs, hh, Nat.le_of_eq r.length.symm⟩⟩
  obtain ⟨v, hv, rv⟩ := r.get hd
  refine ⟨⟨vs, v, hh, hv⟩, ?_⟩
  rintro x H' ⟨rfl, q⟩
  have e := q vs hh
  rw [hv] at e; cases e
  exact ⟨H02, st, .refl, Rep.mono p s d v rv⟩
theorem walks_range {lo : Int} {n : Nat} : Walks K cl (Itr lo n) ((List.range n).map fun i => D.int (lo + (i : Nat))) io H0 := fun io2 H02 H2 S2 p s st => by
  refine ⟨fun i d hd => ?_, by show n ≤ _; simp⟩
  rw [List.getElem?_map] at hd
  have hi : i < n := by
    cases q : (List.range n)[i]? with
    | none => rw [q] at hd; cases hd
    | some j => simpa using (List.getElem?_eq_some_iff.mp q).1
  have hd : d = D.int (lo + (i : Nat)) := by
    rw [List.getElem?_range hi] at hd
    cases hd; rfl
  subst hd
  refine ⟨hi, ?_⟩
  rintro x H' ⟨rfl, rfl⟩
  exact ⟨H02, st, .refl, rfl⟩
theorem walks_str {x : Str} : Walks K cl (Its x) (signs x) io H0 := fun io2 H02 H2 S2 p s st => by
  have hl : (signs x).length = x.cps.size := by simp [signs]
  refine ⟨fun i d hd => ?_, by show x.cps.size ≤ _; omega⟩
  unfold signs at hd
  rw [List.getElem?_map] at hd
  cases q : x.cps.toList[i]? with
  | none => rw [q] at hd; cases hd
  | some j =>
    rw [q] at hd
    cases hd
    have hi : i < x.cps.size := by simpa using (List.getElem?_eq_some_iff.mp q).1
    refine ⟨hi, ?_⟩
    rintro x H' ⟨rfl, c, hc, rfl⟩
    have e : c = j := by
      rw [← Array.getElem?_toList] at hc
      rw [q] at hc; cases hc; rfl
    rw [e]
    exact ⟨H02, st, .refl, rfl⟩
/-- a permanent list or tuple -/
theorem rD.lst0 {ds : List D} {v : V} (h : rD K cl true io H0 H (.lst ds) v) : ∃ a vs, v = .ref a ∧ H0 a = some (.lst vs) ∧ RepL K cl io H0 ds vs := h.perm
theorem rD.tup0 {ds : List D} {v : V} (h : rD K cl true io H0 H (.tup ds) v) : ∃ a vs, v = .ref a ∧ SqT K H0 a vs ∧ RepL K cl io H0 ds vs := h.perm
theorem rD.frl0 {ds : List D} {v : V} (h : rD K cl true io H0 H (.frl ds) v) : ∃ a vs, v = .ref a ∧ SqL K H0 a vs ∧ RepL K cl io H0 ds vs := h.perm
theorem i_seq (ha : ED X cl W true a fa) : ID X cl W tg a (iSeq fa) := by
  refine weakI (piOr (pi_list ha) (piOr (pi_tup ha) (pi_str ha))) fun σ H R ⟨io, om, H0, env, S, R0, h⟩ => ?_
  have h1 := Post.bindE (rp := rD X.K cl true) R0 h
  have go : ∀ {t : L2.TE} , True := fun {_} => trivial
  cases q : fa env S with
  | ok d S1 =>
    cases d with
    | lst ds =>
      refine .inl ⟨io, om, H0, env, S, R0, h1.mono fun vx H1 ⟨io1, H01, S1', x, e1, R1, q1, h2, eq⟩ => ?_⟩
      rw [q] at eq; cases eq
      obtain ⟨a, vs, rfl, ha, ra⟩ := q1.lst0
      exact ⟨a, rfl, ⟨vs, SqL.of (R1.st.sub _ _ ha)⟩, h2.done R1 (walks_list ha ra)⟩
    | frl ds =>
      refine .inl ⟨io, om, H0, env, S, R0, h1.mono fun vx H1 ⟨io1, H01, S1', x, e1, R1, q1, h2, eq⟩ => ?_⟩
      rw [q] at eq; cases eq
      obtain ⟨a, vs, rfl, ha, ra⟩ := q1.frl0
      exact ⟨a, rfl, ⟨vs, R1.st.sub.seq ha⟩, h2.done R1 (walks_frl ha ra)⟩
    | tup ds =>
      refine .inr (.inl ⟨io, om, H0, env, S, R0, h1.mono fun vx H1 ⟨io1, H01, S1', x, e1, R1, q1, h2, eq⟩ => ?_⟩)
      rw [q] at eq; cases eq
      obtain ⟨a, vs, rfl, ha, ra⟩ := q1.tup0
      exact ⟨a, rfl, ⟨vs, Same.seqT R1.st.sub ha⟩, h2.done R1 (walks_tup ha ra)⟩
    | str x =>
      refine .inr (.inr ⟨io, om, H0, env, S, R0, h1.mono fun vx H1 ⟨io1, H01, S1', x', e1, R1, q1, h2, eq⟩ => ?_⟩)
      rw [q] at eq; cases eq
      exact ⟨x, q1.str, h2.done R1 walks_str⟩
    | non => unfold iSeq at h; rw [q] at h; exact h.elim
    | bl _ => unfold iSeq at h; rw [q] at h; exact h.elim
    | int _ => unfold iSeq at h; rw [q] at h; exact h.elim
    | ins _ _ _ => unfold iSeq at h; rw [q] at h; exact h.elim
    | obj _ => unfold iSeq at h; rw [q] at h; exact h.elim
    | exc _ _ _ => unfold iSeq at h; rw [q] at h; exact h.elim
  | exc e' S1 =>
    refine .inl ⟨io, om, H0, env, S, R0, ?_⟩
    unfold iSeq at h
    rw [q] at h ⊢
    exact h
  | bad => unfold iSeq at h; rw [q] at h; exact h.elim
theorem ok62_iff {i : Int} (h : ok62 i = true) : -(2 ^ 62) ≤ i ∧ i < 2 ^ 62 := of_decide_eq_true h
variable {es : List Expr} {fs : Sem1 (List D)} {q : Pos}
theorem i_range1 (ha : ED X cl W p1 a fa) (hm : X.mg "range" = none) (hg : Gl X "range" := by rfl) (hs : starEach [a] X.env = [(false, eval a X.env)] := by rfl) : ID X cl W tg (.Call (.Name "range" q) [a] [] pos) (iRng1 fa) := by
  refine weakI (pi_range1 hg hm (pa_cons ha pa_nil (by rw [hs]; rfl)) hs) fun σ H R ⟨io, om, H0, env, S, R0, h⟩ => ?_
  refine ⟨io, om, H0, env, S, R0, (Post.bind R0 h).mono fun vx H1 ⟨io1, H01, S1, d, e1, R1, q1, h1⟩ => ?_⟩
  cases d with
  | int j =>
    cases ho : ok62 j with
    | true =>
      simp only [ho] at h1
      obtain ⟨b1, b2⟩ := ok62_iff ho
      have w := h1.done R1 (v := Itr 0 _) (walks_range (K := X.K) (cl := cl) (lo := 0))
      rw [Int.sub_zero] at w
      rw [q1.int]
      exact ⟨_, rfl, b1, b2, w⟩
    | false => simp only [ho] at h1; exact h1.elim
  | _ => exact h1.elim
variable {elts : List Expr} {kk : Nat} {tpos : Pos}
end

abbrev Tg := D → Env → Option Env
def gN (i : Nat) : Tg := fun d env => if i < env.length then some (env.set i (.val d)) else none
def gTs : List Tg → List D → Env → Option Env
  | [], [], env => some env
  | t :: ts, d :: ds, env => (t d env).bind fun env1 => gTs ts ds env1
  | _, _, _ => none
def gT (ts : List Tg) : Tg := fun d env => match d with
  | .tup ds => gTs ts ds env
  | _ => none
/-- the slots at ix alone are written -/
def TgOk (K : PySem.W.Frag) (cl : Nat → Addr) (ix : List Nat) (tg : Tg) : D → V → L2.St → Hp → (L2.St → Hp → Prop) → Prop := fun d v σ H Q =>
  ∃ io om H0 env S env', Rel K cl io om H0 H env S σ ∧ Rep K cl io H0 d v ∧ tg d env = some env' ∧
    ∀ om' σ', (∀ (i : Nat) a, om'[i]? = some (some a) → om[i]? = some (some a)) → (∀ ws : List Nat, (∀ i ∈ ix, i ∈ ws) → wipe σ' ws = wipe σ ws) → Rel K cl io om' H0 H env' S σ' → Q σ' H
def gG (K : PySem.W.Frag) (cl : Nat → Addr) (ix : List Nat) (tg : Tg) : TG := fun v σ H Q => ∃ d, TgOk K cl ix tg d v σ H Q
abbrev GD (X : Cx) (cl : Nat → Addr) (target : Expr) (ix : List Nat) (tg : Tg) : Prop := PG X target (gG X.K cl ix tg)
def gsG (K : PySem.W.Frag) (cl : Nat → Addr) (ix : List Nat) (tgs : List Tg) : TGs := fun vs σ H Q => ∃ ds io om H0 env S env', Rel K cl io om H0 H env S σ ∧ RepL K cl io H0 ds vs ∧ gTs tgs ds env = some env' ∧
    ∀ om' σ', (∀ (i : Nat) a, om'[i]? = some (some a) → om[i]? = some (some a)) → (∀ ws : List Nat, (∀ i ∈ ix, i ∈ ws) → wipe σ' ws = wipe σ ws) → Rel K cl io om' H0 H env' S σ' → Q σ' H
abbrev GsD (X : Cx) (cl : Nat → Addr) (targets : List Expr) (ix : List Nat) (tgs : List Tg) : Prop := PGs X targets (gsG X.K cl ix tgs)
section
variable {X : Cx} {cl : Nat → Addr} {W : WX} {e a b c tg : Expr} {pos : Pos} {K : PySem.W.Frag} {io io' : List Addr} {om : Own} {H0 H H0' H' : Hp} {env : Env} {S S' : Sto} {σ : L2.St} {Q : VK} {p1 p2 : Bool} {fa fb fc : Ex}
theorem weakG {t t' : TG} (h : PG X tg t) (q : ∀ v σ H Q, t' v σ H Q → t v σ H Q) : PG X tg t' := ⟨fun pins s σ H v u Q I r w => h.run pins s σ H v u Q I r (q v σ H Q w)⟩
theorem weakGs {ts : List Expr} {t t' : TGs} (h : PGs X ts t) (q : ∀ v σ H Q, t' v σ H Q → t v σ H Q) : PGs X ts t' := ⟨fun pins s σ H v u Q I r w => h.run pins s σ H v u Q I r (q v σ H Q w)⟩
theorem wipe_get {σ : L2.St} {j : Nat} : ∀ {ws : List Nat}, (wipe σ ws)[j]? = if j < σ.length then (if j ∈ ws then some none else σ[j]?) else none
  | [] => by
    simp only [wipe]
    split
    · simp
    · rename_i h
      exact List.getElem?_eq_none (by omega)
  | w :: ws => by
    simp only [wipe]
    rw [List.getElem?_set, wipe_length, wipe_get]
    by_cases hw : w = j
    · subst hw
      simp
    · have : ¬ j = w := fun e => hw e.symm
      simp [hw, this]
theorem wipe_set {σ : L2.St} {i : Nat} {x : Option V} {ws : List Nat} (h : i ∈ ws) : wipe (σ.set i x) ws = wipe σ ws := by
  apply List.ext_getElem?
  intro j
  rw [wipe_get, wipe_get]
  simp only [List.length_set]
  by_cases hj : j ∈ ws
  · simp [hj]
  · have : i ≠ j := fun e => hj (e ▸ h)
    simp [hj, List.getElem?_set_ne this]
/-- a slot is written -/
theorem Rel.set (R0 : Rel K cl io om H0 H env S σ) {i : Nat} {d : D} {v : V} (hi : i < env.length) (r : Rep K cl io H0 d v) : Rel K cl io (om.set i none) H0 H (env.set i (.val d)) S (σ.set i (some v)) := by
  refine ⟨R0.st, ⟨by simp [R0.en.len], by simp [R0.en.lenO], fun j s sv ow e1 e2 e3 => ?_, fun j k a e1 e2 => ?_⟩⟩
  · by_cases hj : i = j
    · subst hj
      rw [List.getElem?_set_self hi] at e1
      rw [List.getElem?_set_self (by rw [← R0.en.len]; exact hi)] at e2
      rw [List.getElem?_set_self (by rw [R0.en.lenO, ← R0.en.len]; exact hi)] at e3
      cases e1; cases e2; cases e3
      exact ⟨rfl, v, rfl, r⟩
    · rw [List.getElem?_set_ne hj] at e1 e2 e3
      exact R0.en.slot j s sv ow e1 e2 e3
  · by_cases hj : i = j
    · subst hj
      rw [List.getElem?_set_self (by rw [R0.en.lenO, ← R0.en.len]; exact hi)] at e1
      cases e1
    · by_cases hk : i = k
      · subst hk
        rw [List.getElem?_set_self (by rw [R0.en.lenO, ← R0.en.len]; exact hi)] at e2
        cases e2
      · rw [List.getElem?_set_ne hj] at e1
        rw [List.getElem?_set_ne hk] at e2
        exact R0.en.inj j k a e1 e2
theorem om_set {i : Nat} : ∀ (j : Nat) a, (om.set i none)[j]? = some (some a) → om[j]? = some (some a) := fun j a e => by
  by_cases hj : i = j
  · subst hj
    by_cases hl : i < om.length
    · rw [List.getElem?_set_self hl] at e; cases e
    · rw [List.getElem?_eq_none (by simp; omega)] at e; cases e
  · rw [List.getElem?_set_ne hj] at e; exact e
theorem g_name (i : Nat) {x : Str} (hN : X.N.Nodup) (hi : X.N[i]? = some x := by rfl) (hx : Loc X.env.scope x := by first | exact Or.inl rfl | exact Or.inr rfl) (hf : X.fn x = true ∨ X.env.scope.names.lookup x = some .local := by first | exact .inl rfl | exact .inr rfl) : GD X cl (.Name x pos) [i] (gN i) := by
  refine weakG (pg_name hN hi hx hf) fun v σ H Q ⟨d, io, om, H0, env, S, env', R0, r, ht, k⟩ => ?_
  unfold gN at ht
  split at ht
  · rename_i hl
    cases ht
    exact k _ _ om_set (fun ws hw => wipe_set (hw i (by simp))) (R0.set hl r)
  · cases ht
theorem gs_nil : GsD X cl [] [] [] := by
  refine weakGs pgs_nil fun vs σ H Q ⟨ds, io, om, H0, env, S, env', R0, r, ht, k⟩ => ?_
  cases ds with
  | nil =>
    cases ht
    exact ⟨r, k om σ (fun _ _ h => h) (fun _ _ => rfl) R0⟩
  | cons d ds => cases ht
theorem gs_cons {t : Expr} {ts : List Expr} {ix ix' : List Nat} {g : Tg} {gs : List Tg} (h1 : GD X cl t ix g) (h2 : GsD X cl ts ix' gs) (hs : (assignEach (t :: ts) X.env).map (·.2) = assign t X.env :: (assignEach ts X.env).map (·.2) := by rfl) : GsD X cl (t :: ts) (ix ++ ix') (g :: gs) := by
  refine weakGs (pgs_cons h1 h2 hs) fun vs σ H Q ⟨ds, io, om, H0, env, S, env', R0, r, ht, k⟩ => ?_
  cases ds with
  | nil => cases ht
  | cons d ds =>
    obtain ⟨v, vr, rfl, r1, r2⟩ := r
    obtain ⟨env1, t1, t2⟩ := Option.bind_eq_some_iff.mp ht
    refine ⟨v, vr, rfl, d, io, om, H0, env, S, env1, R0, r1, t1, fun om1 σ1 w1 w2 R1 => ?_⟩
    exact ⟨ds, io, om1, H0, env1, S, env', R1, r2, t2, fun om2 σ2 w3 w4 R2 => k om2 σ2 (fun i a e => w1 i a (w3 i a e)) (fun ws hw => (w4 ws fun i hi => hw i (List.mem_append_right _ hi)).trans (w2 ws fun i hi => hw i (List.mem_append_left _ hi))) R2⟩
theorem gTs_len : ∀ {gs : List Tg} {ds : List D} {env env' : Env}, gTs gs ds env = some env' → ds.length = gs.length
  | [], [], _, _, _ => rfl
  | [], _ :: _, _, _, h => by cases h
  | _ :: _, [], _, _, h => by cases h
  | g :: gs, d :: ds, _, _, h => by
    obtain ⟨_, _, h2⟩ := Option.bind_eq_some_iff.mp h
    rw [List.length_cons, List.length_cons, gTs_len h2]
theorem g_tup {ts : List Expr} {k : Nat} {ix : List Nat} {gs : List Tg} (h : GsD X cl ts ix gs) (hn : (assignEach ts X.env).length = gs.length := by rfl) (hc : X.calm = true := by rfl) (hst : (assignEach ts X.env).findIdx? (·.1) = none := by rfl) : GD X cl (.Tuple ts k pos) ix (gT gs) := by
  refine weakG (pg_tup (n := gs.length) hc h hn hst) fun v σ H Q ⟨d, io, om, H0, env, S, env', R0, r, ht, kk⟩ => ?_
  cases d with
  | tup ds =>
    obtain ⟨a, vs, rfl, q, rv⟩ := r
    exact ⟨a, vs, rfl, Same.seqT R0.st.sub q, by rw [← rv.length]; exact gTs_len ht, ds, io, om, H0, env, S, env', R0, rv, ht, kk⟩
  | _ => cases ht
end

def noX {α : Type} : R α → R α
  | .exc _ _ => .bad
  | r => r
def wipeE (env : Env) : List Nat → Env
  | [] => env
  | v :: vs => (wipeE env vs).set v .un
def wipeO (om : Own) : List Nat → Own
  | [] => om
  | v :: vs => (wipeO om vs).set v none
/-- the turns of [elt for tg in .. if c] -/
def lcL (tg : Tg) (c : Sem1 Bool) (elt : Ex) (env : Env) : List D → Sto → R (List D)
  | [], S => .ok [] S
  | d :: ds, S => match tg d env with
    | none => .bad
    | some env2 => (noX (c env2 S)).bind fun b S1 => if b then (noX (elt env2 S1)).bind fun y S2 => (lcL tg c elt env ds S2).bind fun ys S3 => .ok (y :: ys) S3 else lcL tg c elt env ds S1
def nLc (f : Sem1 (List D)) (tg : Tg) (c : Sem1 Bool) (elt : Ex) (vs : List Nat) : Sem1 (List D) := fun env S => (f env S).bind fun ds S1 => if okL ds.length then lcL tg c elt (wipeE env vs) ds S1 else .bad
def tT : Sem1 Bool := fun _ S => .ok true S
def WF : WX := fun _ _ _ _ => False
theorem wipeE_get {env : Env} {j : Nat} : ∀ {ws : List Nat}, (wipeE env ws)[j]? = if j < env.length then (if j ∈ ws then some .un else env[j]?) else none
  | [] => by
    simp only [wipeE]
    split
    · simp
    · rename_i h
      exact List.getElem?_eq_none (by omega)
  | w :: ws => by
    have hl : (wipeE env ws).length = env.length := by
      clear wipeE_get
      induction ws with
      | nil => rfl
      | cons w ws ih => simp [wipeE, ih]
    simp only [wipeE]
    rw [List.getElem?_set, hl, wipeE_get]
    by_cases hw : w = j
    · subst hw
      simp
    · have : ¬ j = w := fun e => hw e.symm
      simp [hw, this]
theorem wipeO_get {om : Own} {j : Nat} : ∀ {ws : List Nat}, (wipeO om ws)[j]? = if j < om.length then (if j ∈ ws then some none else om[j]?) else none
  | [] => by
    simp only [wipeO]
    split
    · simp
    · rename_i h
      exact List.getElem?_eq_none (by omega)
  | w :: ws => by
    have hl : (wipeO om ws).length = om.length := by
      clear wipeO_get
      induction ws with
      | nil => rfl
      | cons w ws ih => simp [wipeO, ih]
    simp only [wipeO]
    rw [List.getElem?_set, hl, wipeO_get]
    by_cases hw : w = j
    · subst hw
      simp
    · have : ¬ j = w := fun e => hw e.symm
      simp [hw, this]
theorem wipeE_len {env : Env} : ∀ {ws : List Nat}, (wipeE env ws).length = env.length
  | [] => rfl
  | w :: ws => by simp [wipeE, wipeE_len]
theorem wipeO_len {om : Own} : ∀ {ws : List Nat}, (wipeO om ws).length = om.length
  | [] => rfl
  | w :: ws => by simp [wipeO, wipeO_len]
section
variable {X : Cx} {cl : Nat → Addr} {W : WX} {e a b c tg : Expr} {pos : Pos} {K : PySem.W.Frag} {io io' : List Addr} {om : Own} {H0 H H0' H' : Hp} {env : Env} {S S' : Sto} {σ : L2.St} {Q : VK} {p1 p2 : Bool} {fa fb fc : Ex}
theorem Rel.wipe (R0 : Rel K cl io om H0 H env S σ) (ws : List Nat) : Rel K cl io (wipeO om ws) H0 H (wipeE env ws) S (L2.wipe σ ws) := by
  refine ⟨R0.st, ⟨by rw [wipeE_len, wipe_length, R0.en.len], by rw [wipeO_len, wipe_length, R0.en.lenO], fun j s sv ow e1 e2 e3 => ?_, fun j k a e1 e2 => ?_⟩⟩
  · rw [wipeE_get] at e1
    rw [wipe_get] at e2
    rw [wipeO_get] at e3
    split at e1
    · rename_i hl
      rw [if_pos (by rw [← R0.en.len]; exact hl)] at e2
      rw [if_pos (by rw [R0.en.lenO, ← R0.en.len]; exact hl)] at e3
      split at e1
      · rename_i hw
        rw [if_pos hw] at e3
        cases e1; cases e3
        rfl
      · rename_i hw
        rw [if_neg hw] at e2 e3
        exact R0.en.slot j s sv ow e1 e2 e3
    · cases e1
  · rw [wipeO_get] at e1 e2
    split at e1
    · split at e1
      · cases e1
      · split at e2
        · split at e2
          · cases e2
          · exact R0.en.inj j k a e1 e2
        · cases e2
    · cases e1
abbrev PtD (X : Cx) (cl : Nat → Addr) (ifs : List Expr) (f : Sem1 Bool) : Prop := PTs X ifs (tG X.K cl rB WF f)
theorem weakP {ifs : List Expr} {t t' : TT} (h : PTs X ifs t) (q : ∀ σ H Q, t' σ H Q → t σ H Q) : PTs X ifs t' := ⟨fun pins s σ H Q I w => h.run pins s σ H Q I (q σ H Q w)⟩
theorem p_nil : PtD X cl [] tT := weakP pts_nil fun σ H Q ⟨io, om, H0, env, S, R0, h⟩ => h.done R0 rfl
/-- a first part that ends well, wherever it is asked -/
theorem Post.runX {α β γ δ : Type} {rp : List Addr → Hp → Hp → α → β → Prop} {rp' : List Addr → Hp → Hp → γ → δ → Prop} {Q : δ → Hp → Prop} {r : R α} {k : α → Sto → R γ} {σ' : L2.St} {ioB : List Addr} {H0B HB : Hp}
    (R0 : Rel K cl io om H0 H env S σ') (h : Post K cl rp' W ioB H0B HB σ Q ((noX r).bind k)) :
    Post K cl rp WF io H0 H σ' (fun v H1 => ∃ io1 H01 S1 d, Ev io H0 H io1 H01 H1 ∧ Rel K cl io1 om H01 H1 env S1 σ' ∧ rp io1 H01 H1 d v ∧ r = .ok d S1) r := by
  cases r with
  | ok d S1 => exact fun io1 H01 H1 v e st q => ⟨io1, H01, S1, d, e, R0.ev e st, q, rfl⟩
  | exc e S1 => exact h.elim
  | bad => exact h
theorem Ev.upd {io1 io2 : List Addr} {H01 H1 H02 H2 : Hp} (x : Ev io1 H01 H1 io2 H02 H2) {a : Addr} (o : HO) (h : H1 a = none) : Ev io1 H01 H1 io2 H02 (upd H2 a o) :=
  ⟨x.pre, x.new, x.h0, x.h0n, fun b u e n => by rw [upd_ne (ne_of_none e h)]; exact x.keep b u e n, fun b hb => by
    by_cases e : b = a
    · subst e; rw [upd_same]; simp
    · rw [upd_ne e]; exact x.dom b hb⟩
theorem StR.upd {a : Addr} (st : StR K cl io H0 H S) (o : HO) (h0 : H0 a = none) (hi : a ∉ io) : StR K cl io H0 (upd H a o) S :=
  ⟨fun b u e => by rw [upd_ne (ne_of_none e h0)]; exact st.sub b u e, st.len, st.out, st.inj, fun n b u e e2 => (st.ob n b u e e2).at (.refl _) (.refl _) (upd_ne (by rintro rfl; exact hi (List.mem_of_getElem? e)))⟩
theorem bind_assoc {α β γ : Type} {r : R α} {f : α → Sto → R β} {k : β → Sto → R γ} : (r.bind f).bind k = r.bind fun a S => (f a S).bind k := by cases r <;> rfl
def LcI (K : PySem.W.Frag) (cl : Nat → Addr) (W : WX) (io1 : List Addr) (H01 H1 : Hp) (σ : L2.St) (Q : VK) (Hs : Hp) (D0 : Addr) (tl : Sto → R (List D)) (i : Nat) (H2 : Hp) : Prop :=
  ∃ io2 H02 S2 acc vs, acc.length ≤ i ∧ Ev io1 H01 H1 io2 H02 H2 ∧ StR K cl io2 H02 H2 S2 ∧ H2 D0 = some (.lst vs) ∧ RepL K cl io2 H02 acc vs ∧ H02 D0 = none ∧ D0 ∉ io2 ∧
    Post K cl (rN K cl Hs) W io1 H01 H1 σ Q ((tl S2).bind fun ys S3 => .ok (acc ++ ys) S3)
/-- a comprehension's turns, behind what is walked -/
theorem lc_rest {own : List (Str × Nat)} {ix : List Nat} {g : Tg} {fc : Sem1 Bool} {fe : Ex} (hix : ∀ i ∈ ix, i ∈ own.map (·.2)) {σ : L2.St} {H H1 : Hp} {Q : VK} {J : It} {io1 : List Addr} {H01 : Hp} {S1 : Sto} {ds : List D} (hdom : ∀ a, H a ≠ none → H1 a ≠ none) (R1 : Rel X.K cl io1 om H01 H1 env S1 σ) (wk : Walks X.K cl J ds io1 H01)
    (ho : okL ds.length = true) (h1 : Post X.K cl (rN X.K cl H) W io1 H01 H1 σ Q (lcL g fc fe (wipeE env (own.map (·.2))) ds S1)) : tLc (fun _ _ R => R J H1) (gG X.K cl ix g) (tG X.K cl rB WF fc) (tG X.K cl (rD X.K cl true) WF fe) (own.map (·.2)) σ H Q := by
  intro D0 hD
  have hsz := okL_le ho
  -- the list at D0 stands apart
  obtain ⟨st0, ev0⟩ := R1.st.new hD (.lst [])
  have D00 : H01 D0 = none := R1.st.free0 hD
  have Dio : D0 ∉ io1 := fun m => R1.st.there m hD
  have DH : H D0 = none := by
    cases q : H D0 with
    | none => rfl
    | some o => exact absurd hD (hdom D0 (by simp [q]))
  refine ⟨fun i m H2 => m = ds.length - i ∧ i ≤ ds.length ∧ LcI X.K cl W io1 H01 H1 σ Q H D0 (lcL g fc fe (wipeE env (own.map (·.2))) (ds.drop i)) i H2, ⟨ds.length, by simp, Nat.zero_le _, io1, H01, S1, [], [], Nat.zero_le _, ev0, st0, upd_same, .nil, D00, Dio, ?_⟩, ?_⟩
  · have e : ∀ r : R (List D), (r.bind fun ys S3 => G.R.ok ([] ++ ys) S3) = r := fun r => by cases r <;> rfl
    rw [List.drop_zero, e]
    exact h1
  · rintro i m H2 ⟨rfl, hi, io2, H02, S2, acc, vs, ha, ev, st, hv, ra, n0, nio, hp⟩
    obtain ⟨wi, ws⟩ := wk io2 H02 H2 S2 ev.pre ev.h0 st
    by_cases hlt : i < ds.length
    · have hd : ds[i]? = some ds[i] := List.getElem?_eq_getElem hlt
      have hdr : ds.drop i = ds[i] :: ds.drop (i + 1) := List.drop_eq_getElem_cons hlt
      obtain ⟨go, yl⟩ := wi i _ hd
      refine .inr ⟨go, fun H' => LcI X.K cl W io1 H01 H1 σ Q H D0 (lcL g fc fe (wipeE env (own.map (·.2))) (ds.drop (i + 1))) (i + 1) H', fun H' l => ⟨ds.length - (i + 1), by omega, rfl, hlt, l⟩, fun x H3 y => ?_⟩
      obtain ⟨H03, st3, ev3, rd⟩ := yl x H3 y
      have R3 := (R1.wipe (own.map (·.2))).ev (ev.trans ev3) st3
      rw [hdr] at hp
      unfold lcL at hp
      cases hgd : g ds[i] (wipeE env (own.map (·.2))) with
      | none => simp only [hgd] at hp; exact hp.elim
      | some env2 =>
        simp only [hgd] at hp
        rw [bind_assoc] at hp
        refine ⟨_, io2, _, H03, _, S2, env2, R3, rd, hgd, fun om2 σ2 w1 w2 R4 => ⟨?_, ?_⟩⟩
        · rw [w2 (own.map (·.2)) hix]
          apply List.ext_getElem?
          intro j
          rw [wipe_get, wipe_get, wipe_length]
          by_cases hj : j ∈ own.map (·.2)
          · simp [hj]
          · by_cases hl : j < σ.length
            · simp only [hj, hl, if_true, if_false]
            · simp [hl]
        refine ⟨io2, om2, H03, env2, S2, R4, (Post.runX R4 hp).mono fun b H4 ⟨io4, H04, S4, b', e4, R5, rb, eq4⟩ => ?_⟩
        cases rb
        rw [eq4] at hp
        have far : ∀ {io4 : List Addr} {H04 H4 : Hp}, Ev io2 H03 H3 io4 H04 H4 → H4 D0 = some (.lst vs) ∧ H04 D0 = none ∧ D0 ∉ io4 := fun {io4 H04 H4} e4 => by
          refine ⟨e4.keep _ _ (ev3.keep _ _ hv nio) nio, ?_, fun m => ?_⟩
          · cases q : H04 D0 with
            | none => rfl
            | some o =>
              rcases (ev3.trans e4).h0n _ _ q with z | z
              · rw [n0] at z; cases z
              · rw [hv] at z; cases z
          · rcases (ev3.trans e4).new _ m with z | z
            · exact nio z
            · rw [hv] at z; cases z
        cases b with
        | false =>
          obtain ⟨f1, f2, f3⟩ := far e4
          exact iteF ⟨io4, H04, S4, acc, vs, Nat.le_succ_of_le ha, (ev.trans ev3).trans e4, R5.st, f1, RepL.mono (ev3.trans e4).pre (ev3.trans e4).h0 _ _ ra, f2, f3, hp⟩
        | true =>
          refine iteT ?_
          have hp : Post X.K cl (rN X.K cl H) W io1 H01 H1 σ Q (((noX (fe env2 S4)).bind fun y S2 => (lcL g fc fe (wipeE env (own.map (·.2))) (ds.drop (i + 1)) S2).bind fun ys S3 => G.R.ok (y :: ys) S3).bind fun ys S3 => G.R.ok (acc ++ ys) S3) := hp
          rw [bind_assoc] at hp
          refine ⟨io4, om2, H04, env2, S4, R5, (Post.runX R5 hp).mono fun y H5 ⟨io5, H05, S5, dy, e5, R6, ry, eq5⟩ => ?_⟩
          rw [eq5] at hp
          obtain ⟨f1, f2, f3⟩ := far (e4.trans e5)
          have ra5 := RepL.mono (ev3.trans (e4.trans e5)).pre (ev3.trans (e4.trans e5)).h0 _ _ ra
          refine ⟨vs, f1, by rw [← ra.length]; omega, io5, H05, S5, acc ++ [dy], vs ++ [y], by rw [List.length_append, List.length_singleton]; omega, ((ev.trans ev3).trans (e4.trans e5)).upd _ hD, R6.st.upd _ f2 f3, upd_same, ra5.append (.cons ry.perm .nil), f2, f3, ?_⟩
          have hp : Post X.K cl (rN X.K cl H) W io1 H01 H1 σ Q (((lcL g fc fe (wipeE env (own.map (·.2))) (ds.drop (i + 1)) S5).bind fun ys S3 => G.R.ok (dy :: ys) S3).bind fun ys S3 => G.R.ok (acc ++ ys) S3) := hp
          rw [bind_assoc] at hp
          have e : (fun (a : List D) S => ((G.R.ok (dy :: a) S).bind fun ys S3 => G.R.ok (acc ++ ys) S3)) = fun ys S3 => G.R.ok (acc ++ [dy] ++ ys) S3 := by
            funext a S
            show G.R.ok (acc ++ (dy :: a)) S = _
            simp
          rw [e] at hp
          exact hp
    · have e : i = ds.length := by omega
      subst e
      rw [List.drop_length] at hp
      have hp : Post X.K cl (rN X.K cl H) W io1 H01 H1 σ Q (.ok (acc ++ []) S2) := hp
      rw [List.append_nil] at hp
      exact .inl ⟨ws, hp.done_ev ev st ⟨D0, vs, rfl, hv, n0, nio, DH, ra⟩⟩
theorem lc_of {own : List (Str × Nat)} {f : Sem1 (List D)} {ix : List Nat} {g : Tg} {fc : Sem1 Bool} {fe : Ex} (hix : ∀ i ∈ ix, i ∈ own.map (·.2)) {σ : L2.St} {H : Hp} {Q : VK} (h : tN X.K cl W (nLc f g fc fe (own.map (·.2))) σ H Q) :
    tLc (tG X.K cl (rW X.K cl) W f) (gG X.K cl ix g) (tG X.K cl rB WF fc) (tG X.K cl (rD X.K cl true) WF fe) (own.map (·.2)) σ H Q := by
  obtain ⟨io, om, H0, env, S, R0, h⟩ := h
  refine ⟨io, om, H0, env, S, R0, (Post.bind R0 h).mono fun J H1 ⟨io1, H01, S1, ds, e1, R1, wk, h1⟩ => ?_⟩
  cases ho : okL ds.length with
  | false => simp only [ho] at h1; exact h1.elim
  | true =>
  simp only [ho, if_true] at h1
  exact lc_rest hix e1.dom R1 wk ho h1
theorem n_lc {elt iter : Expr} {ifs : List Expr} {scope : Scope} {own : List (Str × Nat)} {f : Sem1 (List D)} {ix : List Nat} {g : Tg} {fc : Sem1 Bool} {fe : Ex} (hN : X.N.Nodup) (hi : ID X cl W tg iter f) (hk : blkC X.N X.env.scope scope own = true)
    (hg : ∀ (s : Shared) (H : Hp) (C : Addr) (cz : List (Str × Addr)) (fp : List Addr), GD (X.blk s H scope (compEnvC scope cz C X.env) fp) cl tg ix g)
    (ht : ∀ (s : Shared) (H : Hp) (C : Addr) (cz : List (Str × Addr)) (fp : List Addr), PtD (X.blk s H scope (compEnvC scope cz C X.env) fp) cl ifs fc)
    (he : ∀ (s : Shared) (H : Hp) (C : Addr) (cz : List (Str × Addr)) (fp : List Addr), ED (X.blk s H scope (compEnvC scope cz C X.env) fp) cl WF true elt fe)
    (hix : ∀ i ∈ ix, i ∈ own.map (·.2) := by decide) (hc : X.calm = true := by rfl) (hs : ∀ x, foldedSetIterable iter X.env x = Pure.pure x := by intro _; rfl) :
    ND X cl W (.ListComp elt [⟨tg, iter, ifs, 0⟩] scope pos) (nLc f g fc fe (own.map (·.2))) :=
  weakE (pe_lc (g := gG X.K cl ix g) (tt := tG X.K cl rB WF fc) (te := tG X.K cl (rD X.K cl true) WF fe) hc hN hi (blkOk_by hk) hg ht he hs) fun σ H Q h => lc_of hix h
end
end G

namespace G
open PySem PySem.Spec PyProof.Rows L2

structure Ent where
  io : List Addr
  H0 : Hp
  H : Hp
inductive Fl where
  | nx (env : Env)
  | rt (d : D)
  | bk (env : Env)
  | ct (env : Env)
  | xc (e : XV) (env : Env)
  | ro (ds : List D)
abbrev Sm := Sem1 Fl
structure RelF (K : PySem.W.Frag) (cl : Nat → Addr) (T : Ent) (io : List Addr) (om : Own) (H0 H : Hp) (env : Env) (S : Sto) (σ : L2.St) : Prop where
  rel : Rel K cl io om H0 H env S σ
  ev : Ev T.io T.H0 T.H io H0 H
  fresh : ∀ (i : Nat) a, om[i]? = some (some a) → T.H a = none
def PostS (K : PySem.W.Frag) (cl : Nat → Addr) (T : Ent) (W : WX) (D : Ends) : R Fl → Prop
  | .ok (.nx env) S => ∀ io om H0 H σ, RelF K cl T io om H0 H env S σ → D.nx σ H
  | .ok (.rt d) S => ∀ io H0 H v, Ev T.io T.H0 T.H io H0 H → StR K cl io H0 H S → Rep K cl io H0 d v → D.rt v H
  | .ok (.bk env) S => ∀ io om H0 H σ, RelF K cl T io om H0 H env S σ → D.bk σ H
  | .ok (.ct env) S => ∀ io om H0 H σ, RelF K cl T io om H0 H env S σ → D.ct σ H
  | .ok (.xc e env) S => ∀ io om H0 H c dd σ, RelF K cl T io om H0 H env S σ → RepX K cl io H0 H e c dd → W c dd σ H
  | .ok (.ro ds) S => ∀ io H0 H v, Ev T.io T.H0 T.H io H0 H → StR K cl io H0 H S → rN K cl T.H io H0 H ds v → D.rt v H
  | .exc _ _ => False
  | .bad => False
def tS (K : PySem.W.Frag) (cl : Nat → Addr) (T : Ent) (W : WX) (g : Sm) : TS := fun D σ H => ∃ io om H0 env S, RelF K cl T io om H0 H env S σ ∧ PostS K cl T W D (g env S)
abbrev SD (X : Cx) (cl : Nat → Addr) (T : Ent) (W : WX) (st : Stmt) (g : Sm) : Prop := PS X st (tS X.K cl T W g)
abbrev SsD (X : Cx) (cl : Nat → Addr) (T : Ent) (W : WX) (st : List Stmt) (g : Sm) : Prop := PSs X st (tS X.K cl T W g)

/-- a statement's expression: what it raises is raised at the slots as they are -/
def R.bs {α : Type} (r : R α) (env : Env) (k : α → Sto → R Fl) : R Fl := match r with
  | .ok a S => k a S
  | .exc e S => .ok (.xc e env) S
  | .bad => .bad
def sNil : Sm := fun env S => .ok (.nx env) S
def sSeq (f g : Sm) : Sm := fun env S => (f env S).bind fun fl S1 => match fl with
  | .nx env1 => g env1 S1
  | fl => .ok fl S1
def sBad : Sm := fun _ _ => .bad
def sExpr (f : Ex) : Sm := fun env S => (f env S).bs env fun _ S1 => .ok (.nx env) S1
def sRet (f : Ex) : Sm := fun env S => (f env S).bs env fun d S1 => .ok (.rt d) S1
def sRetN : Sm := fun _ S => .ok (.rt .non) S
def sBrk : Sm := fun env S => .ok (.bk env) S
def sCnt : Sm := fun env S => .ok (.ct env) S
def setE (i : Nat) (s : Slot) (env : Env) (S : Sto) : R Fl := if i < env.length then .ok (.nx (env.set i s)) S else .bad
def sSet (i : Nat) (f : Ex) : Sm := fun env S => (f env S).bs env fun d S1 => setE i (.val d) env S1
def sOwn (i : Nat) (f : Sem1 (List D)) : Sm := fun env S => (f env S).bs env fun ds S1 => setE i (.own ds) env S1
def sTg (f : Ex) (g : Tg) : Sm := fun env S => (f env S).bs env fun d S1 => match g d env with
  | some env1 => .ok (.nx env1) S1
  | none => .bad
def sIf (c : Sem1 Bool) (f g : Sm) : Sm := fun env S => (c env S).bs env fun b S1 => if b then f env S1 else g env S1
def forL (tg : Tg) (body : Sm) : List D → Env → Sto → R Fl
  | [], env, S => .ok (.nx env) S
  | d :: ds, env, S => match tg d env with
    | none => .bad
    | some env1 => (body env1 S).bind fun fl S1 => match fl with
      | .nx env2 => forL tg body ds env2 S1
      | .ct env2 => forL tg body ds env2 S1
      | .bk env2 => .ok (.nx env2) S1
      | .rt d => .ok (.rt d) S1
      | .xc e env2 => .ok (.xc e env2) S1
      | .ro ds => .ok (.ro ds) S1
def sFor (f : Sem1 (List D)) (tg : Tg) (body : Sm) : Sm := fun env S => (f env S).bs env fun ds S1 => forL tg body ds env S1
def whileL (c : Sem1 Bool) (body : Sm) : Nat → Env → Sto → R Fl
  | 0, _, _ => .bad
  | n + 1, env, S => (c env S).bs env fun b S1 => if b then (body env S1).bind fun fl S2 => (match fl with
      | .nx env2 => whileL c body n env2 S2
      | .ct env2 => whileL c body n env2 S2
      | .bk env2 => .ok (.nx env2) S2
      | .rt d => .ok (.rt d) S2
      | .xc e env2 => .ok (.xc e env2) S2
      | .ro ds => .ok (.ro ds) S2) else .ok (.nx env) S1
def sWhile (n : Nat) (c : Sem1 Bool) (body : Sm) : Sm := fun env S => whileL c body n env S
def frzE (i : Nat) (env : Env) : Env := match env[i]? with
  | some (.own ds) => env.set i (.val (.lst ds))
  | _ => env
def sFrz (i : Nat) (g : Sm) : Sm := fun env S => g (frzE i env) S
/-- a change of an own list -/
def modE (i : Nat) (o : Option (List D)) (env : Env) (S : Sto) : R Fl := match o with
  | some es => .ok (.nx (env.set i (.own es))) S
  | none => .bad
def withO (i : Nat) (f : List D → Env → Sto → R Fl) : Sm := fun env S => match env[i]? with
  | some (.own ds) => f ds env S
  | _ => .bad
def hApp (d : D) (ds : List D) : Option (List D) := if ds.length < sizeLine then some (ds ++ [d]) else none
def hExt (d : D) (ds : List D) : Option (List D) := match d with
  | .lst es => if ds.length + es.length ≤ sizeLine then some (ds ++ es) else none
  | _ => none
def hSet (k v : D) (ds : List D) : Option (List D) := match k with
  | .int k => (ixN ds.length k).map fun j => ds.set j v
  | _ => none
def hIns (d y : D) (ds : List D) : Option (List D) := match d with
  | .int k => if ds.length < sizeLine ∧ 0 ≤ k ∧ k < 2 ^ 63 then some (ds.take k.toNat ++ [y] ++ ds.drop k.toNat) else none
  | _ => none
def sIns (i : Nat) (f g : Ex) : Sm := withO i fun ds env S => (f env S).bs env fun d S1 => (g env S1).bs env fun y S2 => modE i (hIns d y ds) env S2
def sRevO (i : Nat) : Sm := withO i fun ds env S => modE i (some ds.reverse) env S
def sClrO (i : Nat) : Sm := withO i fun ds env S => modE i (some []) env S
def sApp (i : Nat) (f : Ex) : Sm := withO i fun ds env S => (f env S).bs env fun d S1 => modE i (hApp d ds) env S1
def sExt (i : Nat) (f : Ex) : Sm := withO i fun ds env S => (f env S).bs env fun d S1 => modE i (hExt d ds) env S1
def sSetIx (i : Nat) (fi fv : Ex) : Sm := withO i fun ds env S => (fv env S).bs env fun v S1 => (fi env S1).bs env fun k S2 => modE i (hSet k v ds) env S2
/-- a store into a dict of the store -/
def putO (o k v : D) (S : Sto) : Option Sto := match o with
  | .obj n => (match S[n]?, keyD k with
    | some (.dict kvs), some k => if kvs.length < sizeLine then some (S.set n (.dict (putD kvs k v))) else none
    | _, _ => none)
  | _ => none
def sPut (fo fk fv : Ex) : Sm := fun env S => (fv env S).bs env fun v S1 => (fo env S1).bs env fun o S2 => (fk env S2).bs env fun k S3 => match putO o k v S3 with
  | some S4 => .ok (.nx env) S4
  | none => .bad

section
variable {X : Cx} {cl : Nat → Addr} {W : WX} {T : Ent} {e a b c tg : Expr} {st : Stmt} {sts : List Stmt} {pos : Pos} {K : PySem.W.Frag} {io io' : List Addr} {om : Own} {H0 H H0' H' : Hp} {env : Env} {S S' : Sto} {σ : L2.St} {D : Ends} {p1 p2 : Bool} {fa fb fc : Ex} {g h : Sm}
theorem RelF.step (R0 : RelF K cl T io om H0 H env S σ) (x : Ev io H0 H io' H0' H') (st : StR K cl io' H0' H' S') : RelF K cl T io' om H0' H' env S' σ := ⟨R0.rel.ev x st, R0.ev.trans x, R0.fresh⟩
theorem PostS.bindE {α β : Type} {rp : List Addr → Hp → Hp → α → β → Prop} {r : R α} {k : α → Sto → R Fl} (R0 : RelF K cl T io om H0 H env S σ) (h : PostS K cl T W D (r.bs env k)) :
    Post K cl rp W io H0 H σ (fun v H1 => ∃ io1 H01 S1 d, Ev io H0 H io1 H01 H1 ∧ RelF K cl T io1 om H01 H1 env S1 σ ∧ rp io1 H01 H1 d v ∧ PostS K cl T W D (k d S1) ∧ r = .ok d S1) r := by
  cases r with
  | ok d S1 => exact fun io1 H01 H1 v x st q => ⟨io1, H01, S1, d, x, R0.step x st, q, h, rfl⟩
  | exc e S1 => exact fun io1 H01 H1 c dd x st q => h io1 om H01 H1 c dd σ (R0.step x st) q
  | bad => exact h
theorem PostS.bind {α β : Type} {rp : List Addr → Hp → Hp → α → β → Prop} {r : R α} {k : α → Sto → R Fl} (R0 : RelF K cl T io om H0 H env S σ) (h : PostS K cl T W D (r.bs env k)) :
    Post K cl rp W io H0 H σ (fun v H1 => ∃ io1 H01 S1 d, Ev io H0 H io1 H01 H1 ∧ RelF K cl T io1 om H01 H1 env S1 σ ∧ rp io1 H01 H1 d v ∧ PostS K cl T W D (k d S1)) r :=
  (PostS.bindE R0 h).mono fun _ _ ⟨a, b, c, d, e, f, g, h, _⟩ => ⟨a, b, c, d, e, f, g, h⟩
theorem ss_nil : SsD X cl T W [] sNil := weakSs pss_nil fun D σ H ⟨io, om, H0, env, S, R0, h⟩ => h io om H0 H σ R0
/-- the first statement's end leads to the rest -/
theorem PostS.seq {r : R Fl} {k : Env → Sto → R Fl} (h : PostS K cl T W D (r.bind fun fl S1 => match fl with | .nx env1 => k env1 S1 | fl => .ok fl S1)) :
    PostS K cl T W { D with nx := tS K cl T W k D } r := by
  cases r with
  | ok fl S1 =>
    cases fl with
    | nx env1 => exact fun io om H0 H σ R1 => ⟨io, om, H0, env1, S1, R1, h⟩
    | rt d => exact h
    | bk e => exact h
    | ct e => exact h
    | xc e e1 => exact h
    | ro d => exact h
  | exc e S1 => exact h
  | bad => exact h
theorem ss_cons (h1 : SD X cl T W st g) (h2 : SsD X cl T W sts h) : SsD X cl T W (st :: sts) (sSeq g h) :=
  weakSs (pss_cons h1 h2) fun D σ H ⟨io, om, H0, env, S, R0, hp⟩ => ⟨io, om, H0, env, S, R0, PostS.seq hp⟩
theorem ss_one (h1 : SD X cl T W st g) : SsD X cl T W [st] g := pss_one h1
theorem s_ret (ha : ED X cl W true a fa) : SD X cl T W (.Return (some a) pos) (sRet fa) :=
  weakS (ps_ret ha) fun D σ H ⟨io, om, H0, env, S, R0, h⟩ => ⟨io, om, H0, env, S, R0.rel, (PostS.bind R0 h).mono fun v H1 ⟨io1, H01, S1, d, x, R1, q, h1⟩ => h1 io1 H01 H1 v R1.ev R1.rel.st q.perm⟩
/-- return x, x's list given away -/
def sRetO (i : Nat) : Sm := fun env S => match env[i]? with
  | some (.own ds) => .ok (.ro ds) S
  | _ => .bad
/-- return of a new list -/
def sRetL (f : Sem1 (List G.D)) : Sm := fun env S => (f env S).bs env fun ds S1 => .ok (.ro ds) S1
theorem RelF.set (R0 : RelF K cl T io om H0 H env S σ) {i : Nat} {d : G.D} {v : V} (hi : i < env.length) (r : Rep K cl io H0 d v) : RelF K cl T io (om.set i none) H0 H (env.set i (.val d)) S (σ.set i (some v)) :=
  ⟨R0.rel.set hi r, R0.ev, fun j a e => R0.fresh j a (om_set j a e)⟩
theorem setE_post {i : Nat} {s : Slot} (h : PostS K cl T W D (setE i s env S)) : i < env.length ∧ PostS K cl T W D (.ok (.nx (env.set i s)) S) := by
  unfold setE at h
  split at h
  · exact ⟨by assumption, h⟩
  · exact h.elim
theorem asg_set {i : Nat} {σ : L2.St} {H : Hp} (h : tS K cl T W (sSet i fa) D σ H) : tAsg (tG K cl (rD K cl true) W fa) (gName i) D σ H := by
  obtain ⟨io, om, H0, env, S, R0, h⟩ := h
  refine ⟨io, om, H0, env, S, R0.rel, (PostS.bind R0 h).mono fun v H1 ⟨io1, H01, S1, d, x, R1, q, h1⟩ => ?_⟩
  obtain ⟨hi, h1⟩ := setE_post h1
  exact h1 _ _ _ _ _ (R1.set hi q.perm)
theorem s_set (i : Nat) {x : Str} {pos' : Pos} (hN : X.N.Nodup) (ha : ED X cl W true a fa) (hi : X.N[i]? = some x := by rfl) (hx : Loc X.env.scope x := by first | exact Or.inl rfl | exact Or.inr rfl) (hs : swapsWith a (some (.Name x pos')) pos.line X.env = Pure.pure false := by rfl)
    (hf : X.fn x = true ∨ X.env.scope.names.lookup x = some .local := by first | exact .inl rfl | exact .inr rfl) : SD X cl T W (.Assign [.Name x pos'] a pos) (sSet i fa) :=
  weakS (ps_set hN hi hx ha hs hf) fun _ _ _ h => asg_set h
section
variable {elt iter : Expr} {ifs : List Expr} {scope : Scope} {own : List (Str × Nat)} {f : Sem1 (List G.D)} {ix : List Nat} {gt : Tg} {fc : Sem1 Bool} {fe : Ex} {y : Str} {py spos : Pos}
end
theorem s_tg {ix : List Nat} {gt : Tg} (ha : ED X cl W true a fa) (hg : GD X cl tg ix gt) (hs : swapsWithSole [tg] a pos.line X.env = Pure.pure false := by rfl) (hw : swappedStores [tg] a X.env = Pure.pure none := by rfl)
    (h1 : (assignEach [tg] X.env).map (·.2) = [assign tg X.env] := by rfl) : SD X cl T W (.Assign [tg] a pos) (sTg fa gt) := by
  refine weakS (ps_asg ha hg hs hw h1) fun D σ H ⟨io, om, H0, env, S, R0, h⟩ => ?_
  refine ⟨io, om, H0, env, S, R0.rel, (PostS.bind R0 h).mono fun v H1 ⟨io1, H01, S1, d, x, R1, q, h1⟩ => ?_⟩
  cases ht : gt d env with
  | none => simp only [ht] at h1; exact h1.elim
  | some env1 =>
    simp only [ht] at h1
    exact ⟨d, io1, om, H01, env, S1, env1, R1.rel, q.perm, ht, fun om2 σ2 w1 w2 R2 => h1 _ _ _ _ _ ⟨R2, R1.ev, fun i b e => R1.fresh i b (w1 i b e)⟩⟩
theorem s_if {tc : Sem1 Bool} {sa sb : List Stmt} (hc : TD X cl W c tc) (ha : SsD X cl T W sa g) (hb : SsD X cl T W sb h) : SD X cl T W (.If c sa sb pos) (sIf tc g h) := by
  refine weakS (ps_if hc ha hb) fun D σ H ⟨io, om, H0, env, S, R0, h⟩ => ?_
  refine ⟨io, om, H0, env, S, R0.rel, (PostS.bind R0 h).mono fun v H1 ⟨io1, H01, S1, d, x, R1, q, h1⟩ => ?_⟩
  cases q
  cases v with
  | true => exact iteT ⟨io1, om, H01, env, S1, R1, h1⟩
  | false => exact iteF ⟨io1, om, H01, env, S1, R1, h1⟩
/-- the entry moved on: what never changes is what it is here -/
abbrev Ent.on (T : Ent) (io : List Addr) (H0 : Hp) : Ent := ⟨io, H0, T.H⟩
theorem RelF.on (R1 : RelF K cl T io om H0 H env S σ) : RelF K cl (T.on io H0) io om H0 H env S σ :=
  ⟨R1.rel, ⟨.refl _, fun a m => .inl m, .refl _, fun a o e => .inl e, fun a o e n => R1.ev.keep a o e fun m => n (R1.ev.pre.mem m), R1.ev.dom⟩, R1.fresh⟩
theorem RelF.off {io1 : List Addr} {H01 H1 : Hp} (x : Ev T.io T.H0 T.H io1 H01 H1) (R : RelF K cl (T.on io1 H01) io om H0 H env S σ) : RelF K cl T io om H0 H env S σ := by
  refine ⟨R.rel, ⟨x.pre.trans R.ev.pre, fun a m => ?_, x.h0.trans R.ev.h0, fun a o e => ?_, fun a o e n => R.ev.keep a o e fun m => ?_, R.ev.dom⟩, R.fresh⟩
  · rcases R.ev.new a m with z | z
    · exact x.new a z
    · exact .inr z
  · rcases R.ev.h0n a o e with z | z
    · exact x.h0n a o z
    · exact .inr z
  · rcases x.new a m with z | z
    · exact n z
    · rw [e] at z; cases z
theorem ev_off {io1 : List Addr} {H01 H1 : Hp} (x : Ev T.io T.H0 T.H io1 H01 H1) (y : Ev io1 H01 T.H io H0 H) : Ev T.io T.H0 T.H io H0 H := by
  refine ⟨x.pre.trans y.pre, fun a m => ?_, x.h0.trans y.h0, fun a o e => ?_, fun a o e n => y.keep a o e fun m => ?_, y.dom⟩
  · rcases y.new a m with z | z
    · exact x.new a z
    · exact .inr z
  · rcases y.h0n a o e with z | z
    · exact x.h0n a o z
    · exact .inr z
  · rcases x.new a m with z | z
    · exact n z
    · rw [e] at z; cases z
theorem PostS.on {io1 : List Addr} {H01 H1 : Hp} (x : Ev T.io T.H0 T.H io1 H01 H1) : ∀ {r : R Fl}, PostS K cl T W D r → PostS K cl (T.on io1 H01) W D r
  | .ok (.nx _) _, h => fun io om H0 H σ R => h io om H0 H σ (R.off x)
  | .ok (.bk _) _, h => fun io om H0 H σ R => h io om H0 H σ (R.off x)
  | .ok (.ct _) _, h => fun io om H0 H σ R => h io om H0 H σ (R.off x)
  | .ok (.rt _) _, h => fun io H0 H v y st r => h io H0 H v (ev_off x y) st r
  | .ok (.xc _ _) _, h => fun io om H0 H c dd σ R q => h io om H0 H c dd σ (R.off x) q
  | .ok (.ro _) _, h => fun io H0 H v y st r => h io H0 H v (ev_off x y) st r
  | .exc _ _, h => h
  | .bad, h => h
/-- where a turn's end leads -/
theorem PostS.turn {r : R Fl} {k : Env → Sto → R Fl} {N : L2.St → Hp → Prop} (hN : ∀ env1 S1, PostS K cl T W D (k env1 S1) → ∀ io om H0 H σ, RelF K cl T io om H0 H env1 S1 σ → N σ H)
    (h : PostS K cl T W D (r.bind fun fl S1 => match fl with | .nx env2 => k env2 S1 | .ct env2 => k env2 S1 | .bk env2 => .ok (.nx env2) S1 | .rt d => .ok (.rt d) S1 | .xc e env2 => .ok (.xc e env2) S1 | .ro ds => .ok (.ro ds) S1)) :
    PostS K cl T W { D with nx := N, ct := N, bk := D.nx } r := by
  cases r with
  | ok fl S1 =>
    cases fl with
    | nx env1 => exact hN env1 S1 h
    | ct env1 => exact hN env1 S1 h
    | bk env1 => exact h
    | rt d => exact h
    | xc e e1 => exact h
    | ro d => exact h
  | exc e S1 => exact h
  | bad => exact h
theorem s_for {iter : Expr} {body : List Stmt} {f : Sem1 (List G.D)} {ix : List Nat} {gt : Tg} (hp : PassesOwn (model X.prog X.w) X.A X.env X.xe) (hi : ID X cl W tg iter f) (hg : GD X cl tg ix gt) (hb : ∀ T, SsD X cl T W body g)
    (hc : X.calm = true := by rfl) (hs : ∀ x, foldedSetIterable iter X.env x = Pure.pure x := by intro _; rfl) : SD X cl T W (.For tg iter body [] pos) (sFor f gt g) := by
  -- the body runs with an entry of its own: any
  have hb' : PSs X body (fun D σ H => ∃ T, tS X.K cl T W g D σ H) := ⟨fun pins s σ H D I ⟨T, w⟩ => (hb T).run pins s σ H D I w⟩
  refine weakS (ps_for hp hc hi hg hb' hs) fun D σ H ⟨io, om, H0, env, S, R0, h⟩ => ?_
  refine ⟨io, om, H0, env, S, R0.rel, (PostS.bind R0 h).mono fun J H1 ⟨io1, H01, S1, ds, x, R1, wk, h1⟩ => ?_⟩
  have h1 := h1.on R1.ev
  refine ⟨fun i m σ H => m = ds.length - i ∧ i ≤ ds.length ∧ ∃ io2 om2 H02 env2 S2, RelF X.K cl (T.on io1 H01) io2 om2 H02 H env2 S2 σ ∧ PostS X.K cl (T.on io1 H01) W D (forL gt g (ds.drop i) env2 S2), ⟨ds.length, by simp, Nat.zero_le _, io1, om, H01, env, S1, R1.on, by rw [List.drop_zero]; exact h1⟩, ?_⟩
  rintro i m σ2 H2 ⟨rfl, hi, io2, om2, H02, env2, S2, R2, h2⟩
  obtain ⟨wi, ws⟩ := wk io2 H02 H2 S2 R2.ev.pre R2.ev.h0 R2.rel.st
  by_cases hlt : i < ds.length
  · have hd : ds[i]? = some ds[i] := List.getElem?_eq_getElem hlt
    have hdr : ds.drop i = ds[i] :: ds.drop (i + 1) := List.drop_eq_getElem_cons hlt
    obtain ⟨go, yl⟩ := wi i _ hd
    rw [hdr] at h2
    unfold forL at h2
    refine .inr ⟨go, fun σ' H' => ∃ io2 om2 H02 env2 S2, RelF X.K cl (T.on io1 H01) io2 om2 H02 H' env2 S2 σ' ∧ PostS X.K cl (T.on io1 H01) W D (forL gt g (ds.drop (i + 1)) env2 S2), fun σ' H' l => ⟨ds.length - (i + 1), by omega, rfl, hlt, l⟩, fun v H3 y => ?_⟩
    obtain ⟨H03, st3, ev3, rd⟩ := yl v H3 y
    have R3 := R2.step ev3 st3
    cases ht : gt ds[i] env2 with
    | none => simp only [ht] at h2; exact h2.elim
    | some env3 =>
      simp only [ht] at h2
      refine ⟨_, io2, om2, H03, env2, S2, env3, R3.rel, rd, ht, fun om4 σ4 w1 w2 R4 => ?_⟩
      exact ⟨T.on io1 H01, io2, om4, H03, env3, S2, ⟨R4, R3.ev, fun i b e => R3.fresh i b (w1 i b e)⟩, PostS.turn (fun env5 S5 h5 io5 om5 H05 H5 σ5 R5 => ⟨io5, om5, H05, env5, S5, R5, h5⟩) h2⟩
  · have e : i = ds.length := by omega
    subst e
    rw [List.drop_length] at h2
    exact .inl ⟨ws, h2 _ _ _ _ _ R2⟩
theorem s_while (n : Nat) {body : List Stmt} {tc : Sem1 Bool} (hp : PassesOwn (model X.prog X.w) X.A X.env X.xe) (hc : TD X cl W c tc) (hb : SsD X cl T W body g) : SD X cl T W (.While c body [] pos) (sWhile n tc g) := by
  refine weakS (ps_while hp hc hb) fun D σ H ⟨io, om, H0, env, S, R0, h⟩ => ?_
  refine ⟨fun m σ H => ∃ io om H0 env S, RelF X.K cl T io om H0 H env S σ ∧ PostS X.K cl T W D (whileL tc g m env S), ⟨n, io, om, H0, env, S, R0, h⟩, ?_⟩
  rintro m σ H ⟨io, om, H0, env, S, R0, h⟩
  cases m with
  | zero => exact h.elim
  | succ m =>
    refine ⟨io, om, H0, env, S, R0.rel, (PostS.bind R0 h).mono fun v H1 ⟨io1, H01, S1, d, x, R1, q, h1⟩ => ?_⟩
    cases q
    cases v with
    | true =>
      refine iteT ⟨fun σ' H' => ∃ io om H0 env S, RelF X.K cl T io om H0 H' env S σ' ∧ PostS X.K cl T W D (whileL tc g m env S), fun σ' H' w => ⟨m, Nat.lt_succ_self m, w⟩, ?_⟩
      exact ⟨io1, om, H01, env, S1, R1, PostS.turn (fun env5 S5 h5 io5 om5 H05 H5 σ5 R5 => ⟨io5, om5, H05, env5, S5, R5, h5⟩) h1⟩
    | false => exact iteF (h1 _ _ _ _ _ R1)
/-- an own list is a value from here on -/
theorem RelF.frz (R0 : RelF K cl T io om H0 H env S σ) (i : Nat) : ∃ om' H0', RelF K cl T io om' H0' H (frzE i env) S σ := by
  unfold frzE
  split
  · rename_i ds he
    have hi : i < env.length := (List.getElem?_eq_some_iff.mp he).1
    have hiσ : i < σ.length := by rw [← R0.rel.en.len]; exact hi
    have hio' : i < om.length := by rw [R0.rel.en.lenO]; exact hiσ
    obtain ⟨a, vs, ea, ev, hH, h0, no, r⟩ := R0.rel.en.slot i _ _ _ he (List.getElem?_eq_getElem hiσ) (List.getElem?_eq_getElem hio')
    have st := R0.rel.st.freeze hH h0 no
    have hf : T.H a = none := R0.fresh i a (by rw [List.getElem?_eq_getElem hio', ea])
    refine ⟨om.set i none, upd H0 a (.lst vs), ⟨st, ⟨by simp [R0.rel.en.len], by simp [R0.rel.en.lenO], fun j s sv ow e1 e2 e3 => ?_, fun j k b e1 e2 => R0.rel.en.inj j k b (om_set j b e1) (om_set k b e2)⟩⟩, ⟨R0.ev.pre, R0.ev.new, R0.ev.h0.trans (same_upd h0), fun b u e => ?_, R0.ev.keep, R0.ev.dom⟩, fun j b e => R0.fresh j b (om_set j b e)⟩
    · by_cases hj : i = j
      · subst hj
        rw [List.getElem?_set_self hi] at e1
        rw [List.getElem?_set_self hio'] at e3
        cases e1; cases e3
        rw [List.getElem?_eq_getElem hiσ, ev] at e2
        cases e2
        exact ⟨rfl, .ref a, rfl, a, vs, rfl, upd_same, RepL.mono (.refl _) (same_upd h0) _ _ r⟩
      · rw [List.getElem?_set_ne hj] at e1 e3
        have sl := R0.rel.en.slot j s sv ow e1 e2 e3
        cases s with
        | un => exact sl
        | val d =>
          obtain ⟨z1, v, z2, z3⟩ := sl
          exact ⟨z1, v, z2, Rep.mono (.refl _) (same_upd h0) _ _ z3⟩
        | own es =>
          obtain ⟨b, ws, z1, z2, z3, z4, z5, z6⟩ := sl
          refine ⟨b, ws, z1, z2, z3, ?_, z5, RepL.mono (.refl _) (same_upd h0) _ _ z6⟩
          rw [upd_ne]
          · exact z4
          · rintro rfl
            exact hj (R0.rel.en.inj i j b (by rw [List.getElem?_eq_getElem hio', ea]) (by rw [e3, z1]))
    · by_cases hb : b = a
      · subst hb; exact .inr hf
      · rw [upd_ne hb] at e; exact R0.ev.h0n b u e
  · exact ⟨om, H0, R0⟩
variable {x : Str} {q1 apos cpos : Pos}
section
variable (i : Nat) 
end
theorem any_zip {k : Key} : ∀ {kvs : List (Key × G.D)} {vs : List V}, (kvs.map (·.2)).length = vs.length → (((kvs.map (·.1)).zip vs).any fun kv => decide (kv.1 = k)) = kvs.any fun kv => decide (kv.1 = k)
  | [], vs, h => by simp
  | p :: r, [], h => by simp at h
  | p :: r, v :: vs, h => by
    simp only [List.map_cons, List.zip_cons_cons, List.any_cons]
    rw [any_zip (kvs := r) (vs := vs) (by simpa using h)]
theorem map_zip {io : List Addr} {H0 : Hp} {k : Key} {d : G.D} {v : V} (hd : Rep K cl io H0 d v) : ∀ {kvs : List (Key × G.D)} {vs : List V}, RepL K cl io H0 (kvs.map (·.2)) vs →
    ∃ ws, ((kvs.map (·.1)).zip vs).map (fun kv => if kv.1 = k then (kv.1, v) else kv) = ((kvs.map fun kv => if kv.1 = k then (kv.1, d) else kv).map (·.1)).zip ws ∧ RepL K cl io H0 ((kvs.map fun kv => if kv.1 = k then (kv.1, d) else kv).map (·.2)) ws
  | [], _, h => ⟨[], by simp, .nil⟩
  | (k1, d1) :: r, _, h => by
    obtain ⟨v1, t, rfl, h1, h2⟩ := h
    obtain ⟨ws, e, rw'⟩ := map_zip hd h2
    by_cases hk : k1 = k
    · refine ⟨v :: ws, ?_, ?_⟩
      · simp only [List.map_cons, List.zip_cons_cons, hk, if_true]
        rw [e]
      · simp only [List.map_cons, hk, if_true]
        exact .cons hd rw'
    · refine ⟨v1 :: ws, ?_, ?_⟩
      · simp only [List.map_cons, List.zip_cons_cons, hk, if_false]
        rw [e]
      · simp only [List.map_cons, hk, if_false]
        exact .cons h1 rw'
theorem put_zip {io : List Addr} {H0 : Hp} {k : Key} {d : G.D} {v : V} (hd : Rep K cl io H0 d v) {kvs : List (Key × G.D)} {vs : List V} (h : RepL K cl io H0 (kvs.map (·.2)) vs) :
    ∃ ws, putK ((kvs.map (·.1)).zip vs) k v = ((putD kvs k d).map (·.1)).zip ws ∧ RepL K cl io H0 ((putD kvs k d).map (·.2)) ws := by
  unfold putK putD
  rw [any_zip h.length]
  split
  · exact map_zip hd h
  · refine ⟨vs ++ [v], ?_, ?_⟩
    · rw [List.map_append, List.zip_append (by simpa using h.length)]
      rfl
    · rw [List.map_append]
      exact h.append (.cons hd .nil)
/-- an object of the store is written -/
theorem RelF.putO {n : Nat} {ad : Addr} {o : HO} {mo : MO} (R0 : RelF K cl T io om H0 H env S σ) (hio : io[n]? = some ad) (ho : RepO K cl io H0 (upd H ad o) ad mo) : RelF K cl T io om H0 (upd H ad o) env (S.set n mo) σ := by
  have mem : ad ∈ io := List.mem_of_getElem? hio
  have hn : n < S.length := by rw [← R0.rel.st.len]; exact (List.getElem?_eq_some_iff.mp hio).1
  have h0 : H0 ad = none := R0.rel.st.out n ad hio
  refine ⟨⟨⟨fun b u e => by rw [upd_ne (ne_of_none e h0)]; exact R0.rel.st.sub b u e, by simp [R0.rel.st.len], R0.rel.st.out, R0.rel.st.inj, fun m b u e1 e2 => ?_⟩, ⟨R0.rel.en.len, R0.rel.en.lenO, fun j s sv ow e1 e2 e3 => ?_, R0.rel.en.inj⟩⟩, ⟨R0.ev.pre, R0.ev.new, R0.ev.h0, R0.ev.h0n, fun b u e nb => ?_, fun b hb => ?_⟩, R0.fresh⟩
  · by_cases hm : n = m
    · subst hm
      rw [hio] at e1
      cases e1
      rw [List.getElem?_set_self hn] at e2
      cases e2
      exact ho
    · rw [List.getElem?_set_ne hm] at e2
      exact (R0.rel.st.ob m b u e1 e2).at (.refl _) (.refl _) (upd_ne (by rintro rfl; exact hm (R0.rel.st.inj n m b hio e1)))
  · have sl := R0.rel.en.slot j s sv ow e1 e2 e3
    cases s with
    | un => exact sl
    | val d => exact sl
    | own es =>
      obtain ⟨b, ws, z1, z2, z3, z4, z5, z6⟩ := sl
      exact ⟨b, ws, z1, z2, by rw [upd_ne (by rintro rfl; exact z5 mem)]; exact z3, z4, z5, z6⟩
  · rw [upd_ne]
    · exact R0.ev.keep b u e nb
    · rintro rfl
      rcases R0.ev.new b mem with z | z
      · exact nb z
      · rw [e] at z; cases z
  · by_cases e : b = ad
    · subst e; rw [upd_same]; simp
    · rw [upd_ne e]; exact R0.ev.dom b hb
theorem putO_post {o k v : G.D} (h : PostS K cl T W D (match putO o k v S with | some S4 => .ok (.nx env) S4 | none => .bad)) : ∃ n kvs key, o = .obj n ∧ S[n]? = some (.dict kvs) ∧ keyD k = some key ∧ kvs.length < sizeLine ∧ PostS K cl T W D (.ok (.nx env) (S.set n (.dict (putD kvs key v)))) := by
  cases o with
  | obj n =>
    unfold putO at h
    cases hS : S[n]? with
    | none => simp only [hS] at h; exact h.elim
    | some o =>
      cases o with
      | dict kvs =>
        cases hk : keyD k with
        | none => simp only [hS, hk] at h; exact h.elim
        | some key =>
          simp only [hS, hk] at h
          by_cases hl : kvs.length < sizeLine
          · simp only [hl, if_true] at h
            exact ⟨n, kvs, key, rfl, hS, rfl, hl, h⟩
          · simp only [hl, if_false] at h
            exact h.elim
      | lst ds => simp only [hS] at h; exact h.elim
      | ins c ks => simp only [hS] at h; exact h.elim
  | _ => exact h.elim
theorem s_put {spos : Pos} (hu : X.A.units + 1 < cLine) (ho : ED X cl W p1 a fa) (hi : ED X cl W p2 b fb) (hv : ED X cl W true c fc) (hs : swapsWith c (some (.Subscript a b spos)) pos.line X.env = Pure.pure false := by rfl) :
    SD X cl T W (.Assign [.Subscript a b spos] c pos) (sPut fa fb fc) := by
  refine weakS (ps_dput hu ho hi hv hs) fun D σ H ⟨io, om, H0, env, S, R0, q⟩ => ?_
  refine ⟨io, om, H0, env, S, R0.rel, (PostS.bind R0 q).mono fun v H1 ⟨io1, H01, S1, d, x1, R1, q1, h1⟩ => ?_⟩
  refine ⟨io1, om, H01, env, S1, R1.rel, (PostS.bind R1 h1).mono fun o H2 ⟨io2, H02, S2, od, x2, R2, q2, h2⟩ => ?_⟩
  refine ⟨io2, om, H02, env, S2, R2.rel, (PostS.bind R2 h2).mono fun w H3 ⟨io3, H03, S3, k, x3, R3, q3, h3⟩ => ?_⟩
  obtain ⟨n, kvs, key, rfl, hS, hk, hl, h3⟩ := putO_post h3
  obtain ⟨ad, rfl, hio⟩ := (q2.ev x3).obj
  obtain ⟨vs, hH, rv⟩ := R3.rel.st.ob n ad _ hio hS
  rw [keyD_rep hk q3]
  obtain ⟨ws, e, rw'⟩ := put_zip (k := key) ((q1.ev x2).ev x3).perm rv
  refine ⟨ad, _, rfl, DPut.k hH (by rw [List.length_zip, List.length_map]; omega), ?_⟩
  exact h3 _ _ _ _ _ (R3.putO hio ⟨ws, by rw [upd_same, e], rw'⟩)
def sPar (i j : Nat) (f : Sem1 (List G.D)) : Sm := fun env S => (f env S).bs env fun ds S1 => match ds with
  | [d, e] => if i < env.length ∧ j < env.length then .ok (.nx ((env.set i (.val d)).set j (.val e))) S1 else .bad
  | _ => .bad
def sPar3 (i j l : Nat) (f : Sem1 (List G.D)) : Sm := fun env S => (f env S).bs env fun ds S1 => match ds with
  | [d, e, c] => if i < env.length ∧ j < env.length ∧ l < env.length then .ok (.nx (((env.set i (.val d)).set j (.val e)).set l (.val c))) S1 else .bad
  | _ => .bad
theorem s_par3 (i j l : Nat) {x y z : Str} {px py pz pt : Pos} {kt k2 : Nat} {pt2 : Pos} {fs : Sem1 (List G.D)} (hN : X.N.Nodup) (ha : AD X cl W true [a, b, c] fs) (hi : X.N[i]? = some x := by rfl) (hj : X.N[j]? = some y := by rfl) (hl : X.N[l]? = some z := by rfl) (hij : i ≠ j := by decide) (hil : i ≠ l := by decide) (hjl : j ≠ l := by decide)
    (hx : X.env.scope.names.lookup x = some .local := by rfl) (hy : X.env.scope.names.lookup y = some .local := by rfl) (hz : X.env.scope.names.lookup z = some .local := by rfl)
    (t : ∀ {ta : TA}, PA X [a, b, c] ta → PS X (.Assign [.Tuple [.Name x px, .Name y py, .Name z pz] kt pt] (.Tuple [a, b, c] k2 pt2) pos) (tPar3 i j l ta)) :
    SD X cl T W (.Assign [.Tuple [.Name x px, .Name y py, .Name z pz] kt pt] (.Tuple [a, b, c] k2 pt2) pos) (sPar3 i j l fs) := by
  refine weakS (t ha) fun D σ H ⟨io, om, H0, env, S, R0, q⟩ => ?_
  refine ⟨io, om, H0, env, S, R0.rel, (PostS.bind R0 q).mono fun v H1 ⟨io1, H01, S1, ds, x1, R1, q1, h1⟩ => ?_⟩
  split at h1
  · split at h1
    · rename_i hl
      obtain ⟨v, r, rfl, r1, r2⟩ := q1
      obtain ⟨w, u, rfl, r3, r4⟩ := rL_two r2
      exact ⟨v, w, u, rfl, h1 _ _ _ _ _ (((R1.set hl.1 r1.perm).set (by simpa using hl.2.1) r3.perm).set (by simpa using hl.2.2) r4.perm)⟩
    · exact h1.elim
  · exact h1.elim
end
end G

set_option maxHeartbeats 1000000
namespace GY
open PySem PySem.Spec PyProof.Rows L2
section
variable {prog : Program} {w : World} {A : Around} {E : Value → Shared → Prop} {s : Shared}
end
section
variable {X : Cx}
def gAll (to : TE) : TG := fun v σ H Q => to σ H fun o H1 => ∃ l b xs ys, o = .ref l ∧ v = .ref b ∧ H1 l = some (.lst xs) ∧ H1 b = some (.lst ys) ∧ l ≠ b ∧ xs.length + ys.length ≤ sizeLine ∧ Q σ (upd H1 l (.lst ys))
end
end GY
namespace G
open PySem PySem.Spec PyProof.Rows L2
def hAll (d : D) (ds : List D) : Option (List D) := match d with
  | .lst es => if ds.length + es.length ≤ sizeLine then some es else none
  | _ => none
def sSlA (i : Nat) (f : Ex) : Sm := withO i fun ds env S => (f env S).bs env fun d S1 => modE i (hAll d ds) env S1
section
variable {X : Cx} {cl : Nat → Addr} {W : WX} {T : Ent} {a : Expr} {fa : Ex} {pos : Pos} {x : Str} {q1 p2 : Pos}
end
end G

namespace G
open PySem PySem.Spec PyProof.Rows L2
/-- room for k calls, and no repr under way -/
structure Room (k : Nat) (A : Around) : Prop extends L2.Room k A where
  gd : A.guards = some []
theorem Room.mono {j k : Nat} {A : Around} (r : Room k A) (h : j ≤ k) : Room j A := ⟨r.toRoom.mono h, r.gd⟩
theorem Room.deeper {k : Nat} {A : Around} (r : Room (k + 1) A) (env : PySem.Env) : Room k (A.deeper env) := ⟨r.toRoom.deeper env, r.gd⟩
theorem hu_of {k : Nat} {A : Around} (r : Room k A) : A.units + 1 < cLine := by have := r.un; omega
/-- what a def promises where there is such room -/
structure FnOk (P : Program) (w : World) (K : PySem.W.Frag) (mg : Str → Option Value) (base : Heap) (CX : CXT) (k : Nat) (f : Addr) (fd : FuncData) (ps : List Str) (sp : Sp) : Prop where
  len : ∀ vs H Q E, sp vs H Q E → vs.length = ps.length
  run : ∀ (A : Around) (outer : List PySem.Env) (s : Shared) (H : Hp) (args : Args) (us : List Value) (vs : List V) (Q : VK) (E : XK), Room k A → Env0 P w K mg base A outer s H → BindsTo s fd args (ps.zip us) → Vals vs us → sp vs H Q E →
    codeAny (model P w) A (.call (.ref f) args) (CR CX outer P w H s Q E) s
section
variable {P : Program} {w : World} {K : PySem.W.Frag} {mg : Str → Option Value} {base : Heap} {CX : CXT} {j k : Nat} {f : Addr} {fd : FuncData} {ps : List Str} {sp sp' : Sp}
theorem FnOk.mono (F : FnOk P w K mg base CX j f fd ps sp) (h : j ≤ k) : FnOk P w K mg base CX k f fd ps sp := ⟨F.len, fun A outer s H args us vs Q E hr => F.run A outer s H args us vs Q E (hr.mono h)⟩
theorem FnOk.imp (F : FnOk P w K mg base CX k f fd ps sp) (h : ∀ vs H Q E, sp' vs H Q E → sp vs H Q E) : FnOk P w K mg base CX k f fd ps sp' :=
  ⟨fun vs H Q E q => F.len vs H Q E (h _ _ _ _ q), fun A outer s H args us vs Q E hr he hb hv hs => F.run A outer s H args us vs Q E hr he hb hv (h _ _ _ _ hs)⟩
/-- a def by its body, read where no repr is under way -/
theorem okX {x qual : Str} {st : Stmt} {N : List Str} (F : Fun K x qual st f fd) (Sc : FnScope N ps (defScope st)) (len : ∀ vs H Q E, sp vs H Q E → vs.length = ps.length)
    (hbody : ∀ (cdv : Value) (A : Around) (outer : List PySem.Env) (s : Shared) (H : Hp) (vs : List V) (Q : VK) (E : XK), Room k (A.deeper (envOfC qual (defScope st) s.heap.objs.size f cdv)) → sp vs H Q E →
      ∃ t, PSs (cxOf (L2.CX P w) P w K mg base N qual (defScope st) f cdv A outer s H E) (defBody st) t ∧ t { nx := fun _ H' => Q .non H', rt := Q } (L2.start N vs) H) : FnOk P w K mg base (L2.CX P w) (k + 1) f fd ps sp := by
  obtain ⟨oc, od, kV, doc, pm, an, cdv, ct, osl, rfl, lk, hcd⟩ := F.ex
  refine ⟨len, fun A outer s H args us vs Q E hr e0 hb rv hsp => ?_⟩
  obtain ⟨t, ht, hq⟩ := hbody cdv A outer s H vs Q E (hr.deeper _) hsp
  have kin : K.In s.heap := e0.mod.kin.keeps fun b o e => (e0.bs b o e).1
  have nol : s.heap.NoLimit := e0.mod.nolimit.keeps fun b o e => (e0.bs b o e).1
  have kinds : ∀ y ∈ ps.zip us, (defScope st).names.lookup y.1 = some .local ∨ ((defScope st).names.lookup y.1 = some .cell ∧ ((cellsFrom (s.heap.objs.size + 1) (defScope st).names []).lookup y.1).isSome = true) := by
    rintro ⟨n, v⟩ hy
    exact (Sc.par n (List.of_mem_zip hy).1).imp id fun q => ⟨q, PySem.W.cellsFrom_some _ _ _ (.inl q)⟩
  refine codeAny_call_function hr.depth (kin _ _ lk) rfl Sc.co Sc.gen rfl (PySem.W.codeRec_of kin hcd) (hb _ _ _ _ (wpAny_newFunctionEnv_cells Sc.kind kinds fun env he s1 x => ?_))
  subst he
  have I : Inv (cxOf (L2.CX P w) P w K mg base N qual (defScope st) f cdv A outer s H E) [] (L2.start N vs) H s1 := inv_start Sc hr.hd e0 (len _ _ _ _ hsp) rv x
  refine ⟨nol.keeps x.toInCall.keep, codeAny_func (wpAny_mono (ht.run [] s1 (L2.start N vs) H _ I hq) (fun fl s' hs => ?_) fun e s' hs => hs)⟩
  cases fl with
  | ret u => obtain ⟨v, σ', H', J, rv, q⟩ := hs; exact ⟨v, H', J.os, J.bare, J.base, J.hok, rv, q⟩
  | next => obtain ⟨σ', H', J, q⟩ := hs; exact ⟨.non, H', J.os, J.bare, J.base, J.hok, rfl, q⟩
  | brk => obtain ⟨_, _, _, q⟩ := hs; exact q.elim
  | cont => obtain ⟨_, _, _, q⟩ := hs; exact q.elim
end
section
variable {X : Cx} {CX : CXT} {k : Nat} {f : Addr} {fd : FuncData} {ps : List Str} {sp : Sp} {E : L2.St → XK} {x : Str} {p pos : Pos} {e : Expr} {es : List Expr} {t : TA}
theorem run_fnS {pins : List (Addr × Obj)} {σ : L2.St} {H : Hp} {s : Shared} {Q : VK} {us : List Value} {vs : List V} (F : FnOk X.prog X.w X.K X.mg X.base CX k f fd ps sp) (hr : Room k X.A) (hb : Binds X.K fd ps []) (hx : PassesAt CX X σ (E σ))
    (I : Inv X pins σ H s) (r : Vals vs us) (h : sp vs H Q (E σ)) : wpAny (model X.prog X.w) X.A (call (.ref f) us) (EP X pins σ Q) X.xe s := by
  have b := hb s us I.kIn (by rw [List.append_nil, ← r.length]; exact F.len _ _ _ _ h)
  rw [List.append_nil] at b
  refine wpAny_call (codeAny_mono (F.run X.A X.stack s H ⟨us, []⟩ us vs Q (E σ) hr I.env0 b r h) fun r s' hq => ?_)
  rcases r with e | fl
  · exact hx pins H s e s' I hq
  · cases fl with
    | ret u => exact I.after hq
    | _ => exact hq.elim
theorem pe_callS (F : FnOk X.prog X.w X.K X.mg X.base CX k f fd ps sp) (hr : Room k X.A) (hg : Gl X x) (hm : X.mg x = some (.ref f)) (hk : PySem.W.keepIn X.K (.ref f) = true) (hb : Binds X.K fd ps []) (hx : ∀ σ, PassesAt CX X σ (E σ))
    (ha : PA X (e :: es) t) (hdb : (x == ("__debug__" : Str)) = false := by decide) (he : starEach (e :: es) X.env = (false, eval e X.env) :: starEach es X.env := by rfl) (hpl : (backTo pos (starEach es X.env)).any (·.1) = false := by rfl) :
    PE X (.Call (.Name x p) (e :: es) [] pos) (tCallS sp E t) :=
  ⟨fun pins s σ H Q I h => wpAny_Call_Name_kw (ld_glob I hg hm (PySem.W.callWith_K (h₀ := X.base) I.ok.mod.kin hk (thn (ha.run pos pins s σ H _ I h) fun us s1 ⟨vs, H1, I1, r, q⟩ => ⟨I1.kIn, run_fnS F hr hb (hx σ) I1 r q⟩) he hpl) hdb)⟩
end
/-- the law's promise, kept behind the top: a def that is run by the claim's caller, where no repr is under way -/
theorem run_end {P : Program} {w : World} {K : PySem.W.Frag} {mg mb : PySem.Str → Option Value} {CX : CXT} {k : Nat} {fa a : Addr} {fd : FuncData} {x : PySem.Str} {sp : Sp} {s1 : Shared} {vs : List Value} {ns : List Int}
    (kx : K.In s1.heap) (hns : s1.heap.Ns mainGlobals mg) (hb : s1.heap.Ns builtinsNs mb) (hbb : ∀ x : PySem.Str, x ≠ "__name__" → mb x = bootBuiltins x) (hlim : s1.heap.NoLimit) (hg : s1.gens = #[])
    (ha : s1.heap.get? a = some { cls := .type "list", data := .seq vs.toArray }) (hi : IntsAre vs ns) (hl : ns.length ≤ sizeLine) (hr : Room k callerA)
    (F : ∀ base : Heap, K.In base → base.Ns mainGlobals mg → FnOk P w K mg base CX k fa fd [x] sp) (hbind : ∀ (s : Shared) (u : Value), BindsTo s fd ⟨[u], []⟩ [(x, u)])
    (hsp : ∀ H : Hp, Only H → SqL K H a (ns.map V.int) → sp [.ref a] H (fun v _ => v = .bl true) fun _ _ _ => False)
    (hCX : ∀ H e s', CX [] H s1 (fun _ _ _ => False) e s' → False) :
    codeAny (model P w) callerA (.call (.ref fa) ⟨[.ref a], []⟩) (fun r s' => r = .ok (.ret (.bool true)) ∧ OldK s1.heap s'.heap ∧ s'.os = s1.os ∧ AllBare s'.gens) s1 := by
  have rv := vals_ints hi
  have len := hi.length
  -- H tracks the script at most
  have go : ∀ H : Hp, Only H → SqL K H a (ns.map V.int) → HOk P w H s1.heap → (∀ b, H b ≠ none → b = a ∧ K.lookup a = none) →
      codeAny (model P w) callerA (.call (.ref fa) ⟨[.ref a], []⟩) (fun r s' => r = .ok (.ret (.bool true)) ∧ OldK s1.heap s'.heap ∧ s'.os = s1.os ∧ AllBare s'.gens) s1 := fun H only sq hok one => by
    have plain : ∀ {b : Addr} {o : Obj} {es : Array DictEntry} {ep : Nat}, s1.heap.get? b = some o → o.data = .dict es ep → H b = none := fun {b o es ep} e d => by
      cases q : H b with
      | none => rfl
      | some u =>
        obtain ⟨rfl, _⟩ := one b (by rw [q]; simp)
        rw [ha] at e
        cases e
        exact absurd (show Data.seq vs.toArray _ = Data.dict es ep from d) nofun
    have ns' : ∀ {b : Addr} {m : PySem.Str → Option Value}, s1.heap.Ns b m → (hidT s1.heap H).Ns b m := fun ⟨o, es, ep, e, d, r⟩ => ⟨o, es, ep, hidT_get e (plain e d), d, r⟩
    have kin : K.In (hidT s1.heap H) := fun b o e => hidT_get (kx b o e) (by
      cases q : H b with
      | none => rfl
      | some u =>
        obtain ⟨rfl, z⟩ := one b (by rw [q]; simp)
        rw [z] at e; cases e)
    have mod : Mod K mg (hidT s1.heap H) := ⟨kin, ns' hns, ⟨mb, ns' hb, hbb⟩, let ⟨mc, h1, h2⟩ := hlim; ⟨mc, ns' h1, h2⟩⟩
    have e0 : Env0 P w K mg (hidT s1.heap H) callerA [] s1 H := ⟨rfl, mod, fun b o e => of_hidT e, Nat.le_of_eq (hidT_size _ _), trivial, fun b hb => absurd (show b ∈ ([] : List Addr) from hb) (by simp), hok, .of_eq hg⟩
    refine codeAny_mono ((F _ kin (ns' hns)).run callerA [] s1 H ⟨[.ref a], []⟩ [.ref a] [.ref a] _ _ hr e0 (hbind s1 (.ref a)) (.cons rfl .nil) (hsp H only sq)) fun r s' h => ?_
    rcases r with e | fl
    · exact (hCX H e s' h).elim
    · cases fl with
      | ret u =>
        obtain ⟨v, H', os, bare, un, hok', r', q⟩ := h
        obtain rfl : v = .bl true := q
        obtain rfl : u = Value.bool true := r'
        refine ⟨rfl, OldK.of_keep fun b o e => ?_, os, bare⟩
        cases q : H b with
        | none => exact un.keep b o e q (by intro z; exact absurd (show b ∈ ([] : List Addr) from z) (by simp)) (by simp)
        | some u =>
          rcases only b with z | ⟨ob, xs, z⟩
          · rw [q] at z; cases z
          · have e1 := (hok b _ z).1
            have e2 := (hok' b _ (un.frzs b ob _ z)).1
            rw [e] at e1; cases e1
            exact e2
      | _ => exact h.elim
  cases hk : K.lookup a with
  | some o =>
    have e := kx a o hk
    rw [ha] at e
    cases e
    exact go (fun _ => none) (fun _ => .inl rfl) (.inr ⟨_, vs.toArray, _, hk, rfl, rfl, rfl, by rw [List.size_toArray, len]; exact hl, by simpa using rv⟩) (fun b u z => by cases (show (none : Option HO) = some u from z)) fun b z => absurd rfl z
  | none =>
    have at_ : ∀ {b : Addr} {u : HO}, (if b = a then some (HO.frz { cls := .type "list", data := .seq vs.toArray } (.lst (ns.map V.int))) else none) = some u → b = a ∧ u = .frz { cls := .type "list", data := .seq vs.toArray } (.lst (ns.map V.int)) := fun {b u} z => by
      split at z
      · rename_i h; cases z; exact ⟨h, rfl⟩
      · cases z
    refine go (fun b => if b = a then some (.frz { cls := .type "list", data := .seq vs.toArray } (.lst (ns.map V.int))) else none) (fun b => ?_) (.inl (.inr ⟨_, if_pos rfl⟩)) (fun b u z => ?_) fun b z => ?_
    · by_cases hb : b = a
      · exact .inr ⟨_, _, if_pos hb⟩
      · exact .inl (if_neg hb)
    · obtain ⟨rfl, rfl⟩ := at_ z
      exact ⟨ha, by rw [List.length_map]; exact hl, vs, _, rv, ha⟩
    · by_cases hb : b = a
      · exact ⟨hb, hk⟩
      · exact absurd (if_neg hb) z
theorem law_walk {l : PySem.W.OpenLaw} {n k : Nat} {q : Program} {loose : List PySem.Str} {XP : (PySem.Str → Option Value) → Heap → Prop} {YP : World → Heap → Prop} {d : DefRec} {K : Params → PySem.W.Frag} {CX : World → CXT} {sp : World → Sp} {x : PySem.Str}
    (hn : l.most = some n) (hn2 : n ≤ sizeLine) (hdf : d.params.defaults = []) (hr : Room k callerA)
    (hY : ∀ (w : World) (h : Heap), YP w h → (K w.params).In h)
    (F : ∀ (w : World) (mg : PySem.Str → Option Value) (fa : Addr) (h : Heap), (K w.params).In h → h.Ns mainGlobals mg → mg d.name = some (.ref fa) →
      ∃ fd : FuncData, (∀ (s : Shared) (u : Value), BindsTo s fd ⟨[u], []⟩ [(x, u)]) ∧
        ∀ base : Heap, (K w.params).In base → base.Ns mainGlobals mg → FnOk l.prog w (K w.params) mg base (CX w) k fa fd [x] (sp w))
    (hsp : ∀ (w : World) (H : Hp) (a : Addr) (ns : List Int), ns.length ≤ n → Only H → SqL (K w.params) H a (ns.map V.int) → sp w [.ref a] H (fun v _ => v = .bl true) fun _ _ _ => False)
    (hCX : ∀ (w : World) (H : Hp) (s : Shared) (e : Value) (s' : Shared), CX w [] H s (fun _ _ _ => False) e s' → False) :
    PySem.W.WalkO q loose XP YP l.row.toRowW d [] (fun f vs => PySem.call f vs) :=
  Att.attach_call hn hdf fun w s₀ s₁ mg mb fa o pm cd doc a vs ns G Y ho hd hcd hmg hobj hints hlen hg => by
    have kx := hY w _ Y
    obtain ⟨fd, hb, hF⟩ := F w mg fa _ kx G.T.g hmg
    exact run_end kx G.T.g G.T.b G.T.builtins G.T.nolimit hg hobj hints (Nat.le_trans hlen hn2) hr hF hb (fun H only sq => hsp w H a ns hlen only sq) fun H e s' => hCX w H s₁ e s'
end G

namespace G
open PySem PySem.Spec PyProof.Rows L2

theorem hu65_of {A : Around} {k : Nat} (hr : Room k A) : A.units + 65 < cLine := by have := hr.un; omega
abbrev wOf (E : XK) : WX := fun c dd _ H => E c dd H
def spD (K : PySem.W.Frag) (cl : Nat → Addr) (n : Nat) (sem : FnSem) : Sp := fun vs H Q E => vs.length = n ∧ ∃ io H0 S ds, StR K cl io H0 H S ∧ RepL K cl io H0 ds vs ∧ Post K cl (rD K cl true) (wOf E) io H0 H [] Q (sem ds S)
/-- a def of the module, worth sem, by at most k calls, one in another -/
structure FD (P : Program) (w : World) (K : PySem.W.Frag) (mg : Str → Option Value) (base : Heap) (cl : Nat → Addr) (k : Nat) (x : Str) (n : Nat) (sem : FnSem) : Prop where
  ex : ∃ f fd ps, mg x = some (.ref f) ∧ PySem.W.keepIn K (.ref f) = true ∧ Binds K fd ps [] ∧ FnOk P w K mg base (L2.CX P w) k f fd ps (spD K cl n sem)
theorem FD.mono {P : Program} {w : World} {K : PySem.W.Frag} {mg : Str → Option Value} {base : Heap} {cl : Nat → Addr} {j k : Nat} {x : Str} {n : Nat} {sem : FnSem} (h : FD P w K mg base cl j x n sem) (l : j ≤ k) : FD P w K mg base cl k x n sem := by
  obtain ⟨f, fd, ps, a, b, c, d⟩ := h.ex
  exact ⟨f, fd, ps, a, b, c, d.mono l⟩

def eFn (n : Nat) (sem : FnSem) (fs : Sem1 (List D)) : Ex := fun env S => (fs env S).bind fun ds S1 => if ds.length = n then sem ds S1 else .bad
def startE (n : Nat) (ds : List D) : Env := ds.map Slot.val ++ List.replicate (n - ds.length) .un
def runF (n : Nat) (g : Sm) : FnSem := fun ds S => match g (startE n ds) S with
  | .ok (.nx _) S1 => .ok .non S1
  | .ok (.rt d) S1 => .ok d S1
  | .ok (.xc e _) S1 => .exc e S1
  | _ => .bad

section
variable {X : Cx} {cl : Nat → Addr} {W : WX} {T : Ent} {e a b c tg : Expr} {es : List Expr} {pos q : Pos} {K : PySem.W.Frag} {io io' : List Addr} {om : Own} {H0 H H0' H' : Hp} {env : Env} {S S' : Sto} {σ : L2.St} {p1 p2 : Bool} {fa fb fc : Ex} {fs : Sem1 (List D)}
theorem d_call {j k n : Nat} {x : Str} {sem : FnSem} (F : FD X.prog X.w X.K X.mg X.base cl j x n sem) (hr : Room k X.A) (tk : Takes X W) (ha : AD X cl W true (e :: es) fs) (hj : j ≤ k := by omega) (hg : Gl X x := by rfl)
    (hdb : (x == ("__debug__" : Str)) = false := by decide) (he : starEach (e :: es) X.env = (false, eval e X.env) :: starEach es X.env := by rfl) (hpl : (backTo pos (starEach es X.env)).any (·.1) = false := by rfl) :
    ED X cl W true (.Call (.Name x q) (e :: es) [] pos) (eFn n sem fs) := by
  obtain ⟨f, fd, ps, hm, hk, hb, hF⟩ := F.ex
  refine weakE (pe_callS hF (hr.mono hj) hg hm hk hb (fun σ => passAt tk σ) ha hdb he hpl) fun σ H Q ⟨io, om, H0, env, S, R0, h⟩ => ?_
  refine ⟨io, om, H0, env, S, R0, (Post.bind R0 h).mono fun vs H1 ⟨io1, H01, S1, ds, x1, R1, q1, h1⟩ => ?_⟩
  by_cases hl : ds.length = n
  · rw [if_pos hl] at h1
    refine ⟨by rw [← q1.perm.length]; exact hl, io1, H01, S1, ds, R1.st, q1.perm, ?_⟩
    cases r : sem ds S1 with
    | ok d S2 => rw [r] at h1; exact h1
    | exc e' S2 => rw [r] at h1; exact h1
    | bad => rw [r] at h1; exact h1
  · rw [if_neg hl] at h1
    exact h1.elim
theorem startE_get {n : Nat} {ds : List D} {j : Nat} : (startE n ds)[j]? = if j < ds.length then (ds[j]?).map Slot.val else if j < n then some .un else none := by
  unfold startE
  by_cases h : j < ds.length
  · rw [List.getElem?_append_left (by simpa using h), List.getElem?_map, if_pos h]
  · rw [List.getElem?_append_right (by simpa using h), if_neg h, List.length_map, List.getElem?_replicate]
    by_cases h2 : j < n
    · rw [if_pos h2, if_pos (by omega)]
    · rw [if_neg h2, if_neg (by omega)]
theorem start_get {N : List Str} {vs : List V} {j : Nat} : (L2.start N vs)[j]? = if j < vs.length then (vs[j]?).map some else if j < N.length then some none else none := by
  unfold L2.start
  by_cases h : j < vs.length
  · rw [List.getElem?_append_left (by simpa using h), List.getElem?_map, if_pos h]
  · rw [List.getElem?_append_right (by simpa using h), if_neg h, List.length_map, List.getElem?_replicate]
    by_cases h2 : j < N.length
    · rw [if_pos h2, if_pos (by omega)]
    · rw [if_neg h2, if_neg (by omega)]
theorem relF_start {N : List Str} {vs : List V} {ds : List D} (st : StR K cl io H0 H S) (r : RepL K cl io H0 ds vs) : RelF K cl ⟨io, H0, H⟩ io (List.replicate (L2.start N vs).length none) H0 H (startE N.length ds) S (L2.start N vs) := by
  have hl := r.length
  refine ⟨⟨st, ⟨by simp [startE, L2.start, hl], by simp, fun j s sv ow e1 e2 e3 => ?_, fun i j a e1 e2 => ?_⟩⟩, .refl, fun i a e => ?_⟩
  · have hw : ow = none := by
      rw [List.getElem?_replicate] at e3
      split at e3
      · exact (Option.some.inj e3).symm
      · cases e3
    subst hw
    rw [startE_get] at e1
    rw [start_get] at e2
    by_cases hj : j < ds.length
    · rw [if_pos hj] at e1
      rw [if_pos (by omega)] at e2
      obtain ⟨d, e4, rfl⟩ := Option.map_eq_some_iff.mp e1
      obtain ⟨v, e5, rfl⟩ := Option.map_eq_some_iff.mp e2
      obtain ⟨w, e6, rw'⟩ := r.get e4
      rw [e5] at e6; cases e6
      exact ⟨rfl, v, rfl, rw'⟩
    · rw [if_neg hj] at e1
      split at e1
      · cases e1
        rfl
      · cases e1
  · rw [List.getElem?_replicate] at e1
    split at e1 <;> cases e1
  · rw [List.getElem?_replicate] at e
    split at e <;> cases e
section
variable {P : Program} {w : World} {mg : Str → Option Value} {base : Heap}
theorem fn_D {x qual : Str} {st : Stmt} {f : Addr} {fd : FuncData} {N ps : List Str} {k : Nat} {g : Sm} (F : Fun K x qual st f fd) (Sc : FnScope N ps (defScope st))
    (hb : ∀ (cdv : Value) (A : Around) (outer : List PySem.Env) (s : Shared) (H : Hp) (E : XK) (T : Ent), Room k (A.deeper (envOfC qual (defScope st) s.heap.objs.size f cdv)) →
      Takes (cxOf (L2.CX P w) P w K mg base N qual (defScope st) f cdv A outer s H E) (wOf E) → PassesOwn (model P w) (A.deeper (envOfC qual (defScope st) s.heap.objs.size f cdv)) (envOfC qual (defScope st) s.heap.objs.size f cdv) (cxOf (L2.CX P w) P w K mg base N qual (defScope st) f cdv A outer s H E).xe →
      SsD (cxOf (L2.CX P w) P w K mg base N qual (defScope st) f cdv A outer s H E) cl T (wOf E) (defBody st) g) :
    FnOk P w K mg base (L2.CX P w) (k + 1) f fd ps (spD K cl ps.length (runF N.length g)) := by
  refine okX F Sc (fun vs H Q E h => h.1) fun cdv A outer s H vs Q E hr hsp => ?_
  obtain ⟨hl, io, H0, S, ds, st, r, h⟩ := hsp
  refine ⟨_, hb cdv A outer s H E ⟨io, H0, H⟩ hr (takes_of rfl rfl rfl rfl) (passes_of rfl), io, _, H0, startE N.length ds, S, relF_start st r, ?_⟩
  unfold runF at h
  cases q : g (startE N.length ds) S with
  | ok fl S1 =>
    rw [q] at h
    cases fl with
    | nx env1 => exact fun io om H0 H σ R => h io H0 H .non R.ev R.rel.st (.inl rfl)
    | rt d => exact fun io H0 H v x st r => h io H0 H v x st (.inl r)
    | bk _ => exact h.elim
    | ct _ => exact h.elim
    | xc e env1 => exact fun io om H0 H c dd σ R r => h io H0 H c dd R.ev R.rel.st r
    | ro _ => exact h.elim
  | exc e S1 =>
    rw [q] at h
    exact h.elim
  | bad => rw [q] at h; exact h.elim
/-- a def that stands in the module -/
structure FnAt (K : PySem.W.Frag) (mg : Str → Option Value) (x : Str) (st : Stmt) : Prop where
  ex : ∃ f fd, mg x = some (.ref f) ∧ PySem.W.keepIn K (.ref f) = true ∧ Fun K x x st f fd
theorem fd_of {x : Str} {st : Stmt} {N ps : List Str} {k n : Nat} {g : Sm} (F : FnAt K mg x st) (Sc : FnScope N ps (defScope st))
    (hbind : ∀ (kV doc pm : Value) (an : Option Addr) (cdv ct : Value) (us : List Value), us.length = ps.length → bindArgs (PySem.W.fnOf x x (defArgs st) (defBody st) (defScope st) .none kV doc pm an cdv ct) ⟨us, []⟩ = Pure.pure (ps.zip us))
    (hb : ∀ (f : Addr) (cdv : Value) (A : Around) (outer : List PySem.Env) (s : Shared) (H : Hp) (E : XK) (T : Ent), Room k (A.deeper (envOfC x (defScope st) s.heap.objs.size f cdv)) →
      Takes (cxOf (L2.CX P w) P w K mg base N x (defScope st) f cdv A outer s H E) (wOf E) → PassesOwn (model P w) (A.deeper (envOfC x (defScope st) s.heap.objs.size f cdv)) (envOfC x (defScope st) s.heap.objs.size f cdv) (cxOf (L2.CX P w) P w K mg base N x (defScope st) f cdv A outer s H E).xe →
      SsD (cxOf (L2.CX P w) P w K mg base N x (defScope st) f cdv A outer s H E) cl T (wOf E) (defBody st) g) (hn : ps.length = n := by rfl) :
    FD P w K mg base cl (k + 1) x n (runF N.length g) := by
  obtain ⟨f, fd, hm, hk, hF⟩ := F.ex
  subst hn
  exact ⟨f, fd, ps, hm, hk, hF.binds hbind, fn_D hF Sc (hb f)⟩
abbrev FnSemN := List D → Sto → R (List D)
def spN (K : PySem.W.Frag) (cl : Nat → Addr) (n : Nat) (sem : FnSemN) : Sp := fun vs H Q E => vs.length = n ∧ ∃ io H0 S ds, StR K cl io H0 H S ∧ RepL K cl io H0 ds vs ∧ Post K cl (rN K cl H) (wOf E) io H0 H [] Q (sem ds S)
structure FDN (P : Program) (w : World) (K : PySem.W.Frag) (mg : Str → Option Value) (base : Heap) (cl : Nat → Addr) (k : Nat) (x : Str) (n : Nat) (sem : FnSemN) : Prop where
  ex : ∃ f fd ps, mg x = some (.ref f) ∧ PySem.W.keepIn K (.ref f) = true ∧ Binds K fd ps [] ∧ FnOk P w K mg base (L2.CX P w) k f fd ps (spN K cl n sem)
def runN (n : Nat) (g : Sm) : FnSemN := fun ds S => match g (startE n ds) S with
  | .ok (.ro ds) S1 => .ok ds S1
  | .ok (.xc e _) S1 => .exc e S1
  | _ => .bad
/-- nothing is promised -/
theorem fd_bad {x : Str} {st : Stmt} {ps : List Str} {k n : Nat} (F : FnAt K mg x st)
    (hbind : ∀ (kV doc pm : Value) (an : Option Addr) (cdv ct : Value) (us : List Value), us.length = ps.length → bindArgs (PySem.W.fnOf x x (defArgs st) (defBody st) (defScope st) .none kV doc pm an cdv ct) ⟨us, []⟩ = Pure.pure (ps.zip us)) :
    FD P w K mg base cl k x n (fun _ _ => .bad) := by
  obtain ⟨f, fd, hm, hk, hF⟩ := F.ex
  refine ⟨f, fd, ps, hm, hk, hF.binds hbind, ⟨fun vs H Q E h => ?_, fun A outer s H args us vs Q E _ _ _ _ h => ?_⟩⟩
  · obtain ⟨_, _, _, _, _, _, _, h⟩ := h
    exact h.elim
  · obtain ⟨_, _, _, _, _, _, _, h⟩ := h
    exact h.elim
end
theorem StR.newO (st : StR K cl io H0 H S) {a : Addr} {mo : MO} (hi : a ∉ io) (h0 : H0 a = none) (ho : RepO K cl io H0 H a mo) : StR K cl (io ++ [a]) H0 H (S ++ [mo]) := by
  refine ⟨st.sub, by simp [st.len], fun n b e => ?_, fun n m b e1 e2 => ?_, fun n b u e1 e2 => ?_⟩
  all_goals have hlen := st.len
  · by_cases hn : n < io.length
    · rw [List.getElem?_append_left hn] at e
      exact st.out n b e
    · rw [List.getElem?_append_right (by omega)] at e
      have : n - io.length = 0 := by
        have := (List.getElem?_eq_some_iff.mp e).1
        simp at this; omega
      rw [this] at e; simp at e; subst e
      exact h0
  · have key : ∀ n, (io ++ [a])[n]? = some b → (n < io.length ∧ io[n]? = some b) ∨ (n = io.length ∧ b = a) := fun n e => by
      by_cases hn : n < io.length
      · rw [List.getElem?_append_left hn] at e
        exact .inl ⟨hn, e⟩
      · rw [List.getElem?_append_right (by omega)] at e
        have h1 : n - io.length = 0 := by
          have := (List.getElem?_eq_some_iff.mp e).1
          simp at this; omega
        rw [h1] at e; simp at e
        exact .inr ⟨by omega, e.symm⟩
    rcases key n e1 with ⟨_, z1⟩ | ⟨z1, z2⟩ <;> rcases key m e2 with ⟨_, z3⟩ | ⟨z3, z4⟩
    · exact st.inj n m b z1 z3
    · subst z4; exact absurd (List.mem_of_getElem? z1) hi
    · subst z2; exact absurd (List.mem_of_getElem? z3) hi
    · omega
  · have pre : Pre io (io ++ [a]) := fun n b e => by rw [List.getElem?_append_left (List.getElem?_eq_some_iff.mp e).1]; exact e
    by_cases hn : n < io.length
    · rw [List.getElem?_append_left hn] at e1
      rw [List.getElem?_append_left (by omega)] at e2
      exact (st.ob n b u e1 e2).at pre (.refl _) rfl
    · rw [List.getElem?_append_right (by omega)] at e1
      rw [List.getElem?_append_right (by omega)] at e2
      have h1 : n - io.length = 0 := by
        have := (List.getElem?_eq_some_iff.mp e1).1
        simp at this; omega
      have h2 : n - S.length = 0 := by omega
      rw [h1] at e1; rw [h2] at e2
      simp at e1 e2; subst e1 e2
      exact ho.at pre (.refl _) rfl
theorem Ev.newO (x : Ev io H0 H io' H0' H') {a : Addr} (h : H a = none) : Ev io H0 H (io' ++ [a]) H0' H' :=
  ⟨fun n b e => by
    have e1 := x.pre n b e
    rw [List.getElem?_append_left (List.getElem?_eq_some_iff.mp e1).1]; exact e1,
   fun b m => by
    rcases List.mem_append.mp m with m | m
    · exact x.new b m
    · simp at m; subst m; exact .inr h, x.h0, x.h0n, x.keep, x.dom⟩
/-- the pairs of a display -/
abbrev PairD := List (Ex × Ex)
def pairsF : PairD → Sem1 (List (Key × D))
  | [], _, S => .ok [] S
  | (fk, fv) :: r, env, S => (fk env S).bind fun k S1 => (fv env S1).bind fun v S2 => (pairsF r env S2).bind fun ps S3 => match keyD k with
    | some key => .ok ((key, v) :: ps) S3
    | none => .bad
def eDict (ps : PairD) : Ex := fun env S => (pairsF ps env S).bind fun kvs S1 => if kvs.length ≤ 15 then .ok (.obj S1.length) (S1 ++ [.dict (kvs.foldl (fun acc kv => putD acc kv.1 kv.2) [])]) else .bad
theorem merge_zip {io : List Addr} {H0 : Hp} : ∀ {more : List (Key × D)} {vs : List V} {kvs : List (Key × D)} {ws : List V}, RepL K cl io H0 (more.map (·.2)) vs → RepL K cl io H0 (kvs.map (·.2)) ws →
    ∃ zs, mergeK ((kvs.map (·.1)).zip ws) ((more.map (·.1)).zip vs) = ((more.foldl (fun acc kv => putD acc kv.1 kv.2) kvs).map (·.1)).zip zs ∧ RepL K cl io H0 ((more.foldl (fun acc kv => putD acc kv.1 kv.2) kvs).map (·.2)) zs
  | [], vs, kvs, ws, h, h' => ⟨ws, by simp [mergeK], h'⟩
  | (k, d) :: r, _, kvs, ws, h, h' => by
    obtain ⟨v, t, rfl, h1, h2⟩ := h
    obtain ⟨zs, e1, r1⟩ := put_zip (k := k) h1 h'
    obtain ⟨ys, e2, r2⟩ := merge_zip h2 r1
    refine ⟨ys, ?_, r2⟩
    show mergeK (putK ((kvs.map (·.1)).zip ws) k v) ((r.map (·.1)).zip t) = _
    rw [e1]
    exact e2
inductive PpD (X : Cx) (cl : Nat → Addr) (W : WX) : List (Option Expr) → List Expr → PairD → Prop where
  | nil : PpD X cl W [] [] []
  | cons {k v : Expr} {ks : List (Option Expr)} {vs : List Expr} {fk fv : Ex} {ps : PairD} (hk : ED X cl W true k fk) (hv : ED X cl W true v fv) (h : PpD X cl W ks vs ps) : PpD X cl W (some k :: ks) (v :: vs) ((fk, fv) :: ps)
/-- what the pairs' readings come to -/
def trsOf (K : PySem.W.Frag) (cl : Nat → Addr) (W : WX) (ps : PairD) : List (TE × TE) := ps.map fun p => (tG K cl (rD K cl true) W p.1, tG K cl (rD K cl true) W p.2)
theorem PpD.pps {ks : List (Option Expr)} {vs : List Expr} {ps : PairD} (h : PpD X cl W ks vs ps) : PPs X pos ks vs (trsOf X.K cl W ps) := by
  induction h with
  | nil => exact pps_nil
  | cons hk hv _ ih => exact pps_cons hk hv ih
def rK (K : PySem.W.Frag) (cl : Nat → Addr) : List Addr → Hp → Hp → List (Key × D) → List (V × V) → Prop := fun io H0 H kvs ps => ∃ vs, RepL K cl io H0 (kvs.map (·.2)) vs ∧ ps = ((kvs.map (·.1)).zip vs).map fun kv => (kV kv.1, kv.2)
theorem pairs_of : ∀ {ps : PairD} {σ : L2.St} {H : Hp} {Q : List (V × V) → Hp → Prop}, tG K cl (rK K cl) W (pairsF ps) σ H Q → tPairs (trsOf K cl W ps) σ H Q
  | [], σ, H, Q, ⟨io, om, H0, env, S, R0, h⟩ => h.done R0 ⟨[], .nil, rfl⟩
  | (fk, fv) :: r, σ, H, Q, ⟨io, om, H0, env, S, R0, h⟩ => by
    refine ⟨io, om, H0, env, S, R0, (Post.bind R0 h).mono fun vk H1 ⟨io1, H01, S1, k, x1, R1, q1, h1⟩ => ?_⟩
    refine ⟨io1, om, H01, env, S1, R1, (Post.bind R1 h1).mono fun vv H2 ⟨io2, H02, S2, d, x2, R2, q2, h2⟩ => ?_⟩
    refine pairs_of ⟨io2, om, H02, env, S2, R2, (Post.bind (rp := rK K cl) R2 h2).mono fun ps H3 ⟨io3, H03, S3, kvs, x3, R3, ⟨vs, rv, ep⟩, h3⟩ => ?_⟩
    cases hk : keyD k with
    | none => simp only [hk] at h3; exact h3.elim
    | some key =>
      simp only [hk] at h3
      subst ep
      exact h3.done R3 ⟨vv :: vs, .cons (q2.ev x3).perm rv, by rw [keyD_rep hk q1]; rfl⟩
theorem d_dict {ks : List (Option Expr)} {vs : List Expr} {ps : PairD} (h : PpD X cl W ks vs ps) (hall : ks.all (·.isSome) = true := by rfl) (hl : ks.length = vs.length := by rfl) (h0 : ks ≠ [] := by exact fun z => by cases z) (h15 : ks.length ≤ 15 := by decide) : ED X cl W true (.Dict ks vs pos) (eDict ps) := by
  refine weakE (pe_disp h.pps hall hl h0 h15) fun σ H Q ⟨io, om, H0, env, S, R0, h⟩ => ?_
  intro p hp
  obtain ⟨st, ev⟩ := R0.st.new hp (.dK [])
  have R1 := R0.ev ev st
  have h1 := Post.ev ev h
  refine pairs_of ⟨io, om, H0, env, S, R1, (Post.bindE (rp := rK X.K cl) R1 h1).mono fun zs H2 ⟨io2, H02, S2, kvs, x2, R2, ⟨vs, rv, ep⟩, h2, eq⟩ => ?_⟩
  have pio : p ∉ io := fun m => R0.st.there m hp
  have hp0 : H0 p = none := R0.st.free0 hp
  have hv : H2 p = some (.dK []) := x2.keep _ _ upd_same pio
  have p02 : H02 p = none := by
    cases q : H02 p with
    | none => rfl
    | some o =>
      rcases x2.h0n _ _ q with z | z
      · rw [hp0] at z; cases z
      · rw [upd_same] at z; cases z
  have pio2 : p ∉ io2 := fun m => by
    rcases x2.new _ m with z | z
    · exact pio z
    · rw [upd_same] at z; cases z
  refine ⟨hv, _, ep, ?_, ?_⟩
  · have hlen := rv.length
    by_cases hk : kvs.length ≤ 15
    · simp only [List.length_zip, List.length_map]; omega
    · simp only [hk, if_false] at h2
      exact h2.elim
  · by_cases hk : kvs.length ≤ 15
    · rw [if_pos hk] at h2
      obtain ⟨ws, e, rw'⟩ := merge_zip (kvs := []) (ws := []) rv .nil
      -- back to the start
      have hE : eDict ps env S = .ok (.obj S2.length) (S2 ++ [.dict (kvs.foldl (fun acc kv => putD acc kv.1 kv.2) [])]) := by
        unfold eDict
        rw [eq]
        simp only [R.bind, hk, if_true]
      rw [hE] at h
      have st3 := (R2.st.upd (a := p) (.dK (mergeK [] ((kvs.map (·.1)).zip vs))) p02 pio2).newO (mo := .dict (kvs.foldl (fun acc kv => putD acc kv.1 kv.2) [])) pio2 p02 ⟨ws, by rw [upd_same]; exact congrArg (fun z => some (HO.dK z)) e, rw'⟩
      refine h _ _ _ _ (((ev.trans x2).upd _ hp).newO hp) st3 (.inl ⟨p, rfl, ?_⟩)
      rw [R2.st.len.symm]
      simp
    · simp only [hk, if_false] at h2
      exact h2.elim
end
def nFn (n : Nat) (sem : FnSemN) (fs : Sem1 (List D)) : Sem1 (List D) := fun env S => (fs env S).bind fun ds S1 => if ds.length = n then sem ds S1 else .bad
section
variable {X : Cx} {cl : Nat → Addr} {W : WX} {e : Expr} {es : List Expr} {pos q : Pos} {fs : Sem1 (List D)}
end
end G

namespace G
open PySem PySem.Spec PyProof.Rows L2
section
variable {K : PySem.W.Frag} {h : Heap} {mg : Str → Option Value} {cl : Nat → Addr}
theorem fnAt_mk {x : Str} {st : Stmt} {f : Addr} {oc kV dc pm cd ct : Value} {od an : Option Addr} {sl : Array (Option Value)} (X : K.In h) (G : h.Ns mainGlobals mg)
    (a : PySem.W.nsIn K mainGlobals x = some (some (.ref f))) (l : K.lookup f = some ⟨oc, od, .func (PySem.W.fnOf x x (defArgs st) (defBody st) (defScope st) .none kV dc pm an cd ct), sl⟩)
    (c : PySem.W.codeIn K cd x = true) (k : PySem.W.keepIn K (.ref f) = true) : FnAt K mg x st := ⟨f, _, PySem.W.mg_of X G a, k, fun_mk l c k⟩
theorem gc_int {x : Str} {i : Int} {t : Tok} (X : K.In h) (G : h.Ns mainGlobals mg) (a : PySem.W.nsIn K mainGlobals x = some (some (.int i t))) : GConst K mg cl x (.int i) :=
  ⟨_, .int i, PySem.W.mg_of X G a, ⟨t, rfl⟩, rfl⟩
theorem gc_str {x : Str} {i : Str} {t : Tok} (X : K.In h) (G : h.Ns mainGlobals mg) (a : PySem.W.nsIn K mainGlobals x = some (some (.str i t))) : GConst K mg cl x (.str i) :=
  ⟨_, .str i, PySem.W.mg_of X G a, ⟨t, rfl⟩, rfl⟩
theorem gc_tup {x : Str} {ds : List D} {vs : List V} {its : Array Value} {f : Addr} {n : Nat} {od : Option Addr} {sl : Array (Option Value)} (X : K.In h) (G : h.Ns mainGlobals mg) (a : PySem.W.nsIn K mainGlobals x = some (some (.ref f)))
    (l : K.lookup f = some ⟨.type "tuple", od, .seq its n, sl⟩) (hs : its.size ≤ sizeLine) (hv : Vals vs its.toList) (r : RepL K cl [] (fun _ => none) ds vs) : GConst K mg cl x (.tup ds) :=
  ⟨_, .ref f, PySem.W.mg_of X G a, rfl, f, vs, rfl, .inr ⟨_, its, n, l, rfl, rfl, hs, hv⟩, r⟩
theorem no_of {x : Str} (X : K.In h) (G : h.Ns mainGlobals mg) (a : PySem.W.nsIn K mainGlobals x = some none) : mg x = none := PySem.W.mg_none_of X G a
end
/-- the law's promise -/
def spLaw (K : PySem.W.Frag) : Sp := fun vs H Q _ => ∃ (a : Addr) (ns : List Int), vs = [.ref a] ∧ SqL K H a (ns.map V.int) ∧ ns.length ≤ 63 ∧ ∀ H', Q (.bl true) H'
/-- the script as data -/
def scr (ns : List Int) : D := .frl (ns.map D.int)
theorem Only.stR {K : PySem.W.Frag} {cl : Nat → Addr} {H : Hp} : StR K cl [] H H [] :=
  ⟨.refl _, rfl, fun _ _ h => by simp at h, fun _ _ _ h => by simp at h, fun _ _ _ h => by simp at h⟩
/-- a law that is worth True at every script -/
theorem law_fn {P : Program} {w : World} {K : PySem.W.Frag} {mg : Str → Option Value} {base : Heap} {cl : Nat → Addr} {k : Nat} {f : Addr} {fd : FuncData} {ps : List Str} {sem : FnSem} (F : FnOk P w K mg base (L2.CX P w) k f fd ps (spD K cl 1 sem))
    (hs : ∀ ns : List Int, ns.length ≤ 63 → ∃ S, sem [scr ns] [] = .ok (.bl true) S) : FnOk P w K mg base (L2.CX P w) k f fd ps (spLaw K) := by
  refine F.imp fun vs H Q E ⟨a, ns, e, hS, hl, q⟩ => ?_
  subst e
  obtain ⟨S, e⟩ := hs ns hl
  refine ⟨rfl, [], H, [], [scr ns], Only.stR, .cons ⟨a, ns.map V.int, rfl, hS, RepL_ints ns⟩ .nil, ?_⟩
  rw [e]
  exact fun io' H0' H' v x st r => by
    rw [r.bl]
    exact q H'
theorem walk {l : PySem.W.OpenLaw} {q : Program} {loose : List Str} {XP : (Str → Option Value) → Heap → Prop} {YP : World → Heap → Prop} {d : DefRec} {K : Params → PySem.W.Frag} {k : Nat} {x : Str} (hn : l.most = some 63) (hdf : d.params.defaults = []) (hr : Room k callerA)
    (hY : ∀ (w : World) (h : Heap), YP w h → (K w.params).In h)
    (F : ∀ (w : World) (mg : Str → Option Value) (fa : Addr) (h : Heap), (K w.params).In h → h.Ns mainGlobals mg → mg d.name = some (.ref fa) →
      ∃ fd : FuncData, (∀ (s : Shared) (u : Value), BindsTo s fd ⟨[u], []⟩ [(x, u)]) ∧ ∀ base : Heap, (K w.params).In base → base.Ns mainGlobals mg → FnOk l.prog w (K w.params) mg base (L2.CX l.prog w) k fa fd [x] (spLaw (K w.params))) :
    PySem.W.WalkO q loose XP YP l.row.toRowW d [] (fun f vs => PySem.call f vs) :=
  law_walk (n := 63) (k := k) (x := x) (CX := fun w => L2.CX l.prog w) (sp := fun w => spLaw (K w.params)) hn (by decide) hdf hr hY F (fun _ _ a ns hl _ hS => ⟨a, ns, rfl, hS, hl, fun _ => rfl⟩)
    fun w H s e s' c => by
      obtain ⟨_, _, _, _, _, _, _, _, _, _, _, _, z⟩ := c
      exact z
end G

namespace G
open PySem PySem.Spec PyProof.Rows L2
section
variable {X : Cx} {CX : CXT} {k : Nat} {f C : Addr} {fd : FuncData} {ps : List Str} {sp : Sp} {E : L2.St → XK} {x m : Str} {p pos apos : Pos} {e o : Expr} {es : List Expr} {ta : TE} {t : TA} {mc : Value} {pl : Sem Bool}
def tMethS (C : Addr) (m : Str) (sp : Sp) (E : L2.St → XK) (ta : TE) (t : TA) : TE := fun σ H Q => ta σ H fun x H1 => ∃ a dx fs, x = .ref a ∧ H1 a = some (.ins C dx fs) ∧ fs.lookup m = none ∧
  t σ H1 fun vs H2 => sp (x :: vs) H2 Q (E σ)
/-- C.m(..), m a def of the class, called by the class -/
def tClsFn (C : Addr) (sp : Sp) (E : L2.St → XK) (ta : TE) (t : TA) : TE := fun σ H Q => ta σ H fun x H1 => x = .ref C ∧ t σ H1 fun vs H2 => sp vs H2 Q (E σ)
def tMakeS (C : Addr) (sp : Sp) (E : L2.St → XK) (t : TA) : TE := fun σ H Q => t σ H fun vs H1 => ∀ x dx, H1 x = none → H1 dx = none → dx ≠ x →
  sp (.ref x :: vs) (upd (upd H1 dx (.own x)) x (.ins C dx [])) (fun v H2 => v = .non ∧ Q (.ref x) H2) (E σ)
end
end G

namespace G
open PySem PySem.Spec PyProof.Rows L2
/-- an instance: its class, its attributes -/
def insOf (S : Sto) : D → Option (Nat × List (Str × D))
  | .obj n => match S[n]? with
    | some (.ins c fs) => some (c, fs)
    | _ => none
  | .ins c ks ds => some (c, ks.zip ds)
  | _ => none
def eFld (cs : List Nat) (f : Str) (fa : Ex) : Ex := fun env S => (fa env S).bind fun x S1 => match insOf S1 x with
  | some (c, fs) => if c ∈ cs then opt (fs.lookup f) id S1 else .bad
  | none => .bad
def putFD (f : Str) (v : D) : List (Str × D) → List (Str × D)
  | [] => [(f, v)]
  | (g, x) :: r => if g = f then (g, v) :: r else (g, x) :: putFD f v r
/-- a store into an instance of the store -/
def setO (cs : List Nat) (f : Str) (x y : D) (S : Sto) : Option Sto := match x with
  | .obj n => (match S[n]? with
    | some (.ins c fs) => if c ∈ cs ∧ fs.length < 1000 then some (S.set n (.ins c (putFD f y fs))) else none
    | _ => none)
  | _ => none
def sFld (cs : List Nat) (f : Str) (fo fv : Ex) : Sm := fun env S => (fv env S).bs env fun y S1 => (fo env S1).bs env fun x S2 => match setO cs f x y S2 with
  | some S3 => .ok (.nx env) S3
  | none => .bad
def lkM (ms : List (Nat × FnSem)) (c : Nat) : Option FnSem := (ms.find? fun p => decide (p.1 = c)).map (·.2)
def eMeth (m : Str) (ms : List (Nat × FnSem)) (n : Nat) (fo : Ex) (fs : Sem1 (List D)) : Ex := fun env S => (fo env S).bind fun x S1 => match insOf S1 x with
  | some (c, at_) => (match lkM ms c, at_.lookup m with
    | some sem, none => (fs env S1).bind fun ds S2 => if ds.length + 1 = n then sem (x :: ds) S2 else .bad
    | _, _ => .bad)
  | none => .bad
def eMake (c n : Nat) (sem : FnSem) (fs : Sem1 (List D)) : Ex := fun env S => (fs env S).bind fun ds S1 => if ds.length + 1 = n then (sem (.obj S1.length :: ds) (S1 ++ [.ins c []])).bind fun r S2 => (match r with
  | .non => .ok (.obj S1.length) S2
  | _ => .bad) else .bad
section
variable {K : PySem.W.Frag} {cl : Nat → Addr} {io : List Addr} {H0 H : Hp} {S : Sto}
end
section
variable {X : Cx} {cl : Nat → Addr} {W : WX} {T : Ent} {e a b c tg : Expr} {es : List Expr} {pos q : Pos} {K : PySem.W.Frag} {io io' : List Addr} {om : Own} {H0 H H0' H' : Hp} {env : Env} {S S' : Sto} {σ : L2.St} {p1 p2 : Bool} {fa fb fc : Ex} {fs : Sem1 (List D)} {f : Str} {cs : List Nat}
/-- a method of a class, worth sem -/
structure MD (P : Program) (w : World) (K : PySem.W.Frag) (mg : Str → Option Value) (base : Heap) (cl : Nat → Addr) (k c : Nat) (m : Str) (n : Nat) (sem : FnSem) : Prop where
  cls : Cls K (cl c)
  ex : ∃ f fd ps, Meth K (cl c) m f ∧ Binds K fd ps [] ∧ FnOk P w K mg base (L2.CX P w) k f fd ps (spD K cl n sem)
theorem MD.mono {P : Program} {w : World} {K : PySem.W.Frag} {mg : Str → Option Value} {base : Heap} {cl : Nat → Addr} {j k c n : Nat} {m : Str} {sem : FnSem} (h : MD P w K mg base cl j c m n sem) (l : j ≤ k) : MD P w K mg base cl k c m n sem := by
  obtain ⟨f, fd, ps, a, b, d⟩ := h.ex
  exact ⟨h.cls, f, fd, ps, a, b, d.mono l⟩
/-- a class that is made by its own __init__, worth sem -/
structure KD' (P : Program) (w : World) (K : PySem.W.Frag) (mg : Str → Option Value) (base : Heap) (cl : Nat → Addr) (k c : Nat) (x : Str) (n : Nat) (sem : FnSem) : Prop where
  ex : ∃ f fd ps, mg x = some (.ref (cl c)) ∧ Mk K (cl c) f ∧ Binds K fd ps [] ∧ FnOk P w K mg base (L2.CX P w) k f fd ps (spD K cl n sem)
/-- C.m(..), m a def of the class C, called by the class -/
structure CD (P : Program) (w : World) (K : PySem.W.Frag) (mg : Str → Option Value) (base : Heap) (cl : Nat → Addr) (k c : Nat) (x m : Str) (n : Nat) (sem : FnSem) : Prop where
  ex : ∃ f fd ps mc, mg x = some (.ref (cl c)) ∧ ClX.CRead K (cl c) mc ∧ ClX.CVal K (cl c) mc m (.ref f) (.ref f) ∧ PySem.W.keepIn K (.ref f) = true ∧ Binds K fd ps [] ∧ FnOk P w K mg base (L2.CX P w) k f fd ps (spD K cl n sem)
end
mutual
/-- only objects below n are named -/
def scp (n : Nat) : D → Bool
  | .non => true
  | .bl _ => true
  | .int _ => true
  | .str _ => true
  | .tup ds => scpL n ds
  | .lst ds => scpL n ds
  | .frl ds => scpL n ds
  | .ins _ _ ds => scpL n ds
  | .obj m => decide (m < n)
  | .exc _ _ ds => scpL n ds
def scpL (n : Nat) : List D → Bool
  | [] => true
  | d :: ds => scp n d && scpL n ds
end
def scpO (n : Nat) : MO → Bool
  | .dict kvs => scpL n (kvs.map (·.2))
  | .lst ds => scpL n ds
  | .ins _ fs => scpL n (fs.map (·.2))
open Classical in
noncomputable def frzO (S1 S2 : Sto) : R D := match S2[S1.length]? with
  | some (.ins c fs) => if S2 = S1 ++ [.ins c fs] ∧ scpL S1.length (fs.map (·.2)) = true then .ok (.ins c (fs.map (·.1)) (fs.map (·.2))) S1 else .bad
  | _ => .bad
noncomputable def eMakeF (c n : Nat) (sem : FnSem) (fs : Sem1 (List D)) : Ex := fun env S => (fs env S).bind fun ds S1 => if ds.length + 1 = n then (match sem (.obj S1.length :: ds) (S1 ++ [.ins c []]) with
  | .ok .non S2 => frzO S1 S2
  | _ => .bad) else .bad
section
variable {K : PySem.W.Frag} {cl : Nat → Addr} {H : Hp}
mutual
theorem Rep.scp {io : List Addr} : ∀ {d : D} {v : V}, Rep K cl io H d v → scp io.length d = true
  | .non, _, _ => rfl
  | .bl _, _, _ => rfl
  | .int _, _, _ => rfl
  | .str _, _, _ => rfl
  | .tup ds, _, h => by
    obtain ⟨a, vs, _, _, r⟩ := h
    simpa [G.scp] using RepL.scp r
  | .lst ds, _, h => by
    obtain ⟨a, vs, _, _, r⟩ := h
    simpa [G.scp] using RepL.scp r
  | .frl ds, _, h => by
    obtain ⟨a, vs, _, _, r⟩ := h
    simpa [G.scp] using RepL.scp r
  | .ins c ks ds, _, h => by
    obtain ⟨a, dx, vs, _, _, _, r⟩ := h
    simpa [G.scp] using RepL.scp r
  | .obj n, _, h => by
    obtain ⟨a, _, e⟩ := h
    simpa [G.scp] using (List.getElem?_eq_some_iff.mp e).1
  | .exc c ks ds, _, h => by
    obtain ⟨a, dd, vs, _, _, _, r, _⟩ := h
    simpa [G.scp] using RepL.scp r
theorem RepL.scp {io : List Addr} : ∀ {ds : List D} {vs : List V}, RepL K cl io H ds vs → scpL io.length ds = true
  | [], _, _ => by simp [scpL]
  | d :: ds, _, h => by
    obtain ⟨v, r, _, h1, h2⟩ := h
    simp [scpL, Rep.scp h1, RepL.scp h2]
end
mutual
theorem Rep.narrow {io io' : List Addr} (hp : Pre io io') : ∀ {d : D} {v : V}, G.scp io.length d = true → Rep K cl io' H d v → Rep K cl io H d v
  | .non, _, _, h => h
  | .bl _, _, _, h => h
  | .int _, _, _, h => h
  | .str _, _, _, h => h
  | .tup ds, _, s, h => by
    obtain ⟨a, vs, e, q, r⟩ := h
    exact ⟨a, vs, e, q, RepL.narrow hp (by simpa [G.scp] using s) r⟩
  | .lst ds, _, s, h => by
    obtain ⟨a, vs, e, q, r⟩ := h
    exact ⟨a, vs, e, q, RepL.narrow hp (by simpa [G.scp] using s) r⟩
  | .frl ds, _, s, h => by
    obtain ⟨a, vs, e, q, r⟩ := h
    exact ⟨a, vs, e, q, RepL.narrow hp (by simpa [G.scp] using s) r⟩
  | .ins c ks ds, _, s, h => by
    obtain ⟨a, dx, vs, e, q, l, r⟩ := h
    exact ⟨a, dx, vs, e, q, l, RepL.narrow hp (by simpa [G.scp] using s) r⟩
  | .obj n, _, s, h => by
    obtain ⟨a, e, q⟩ := h
    have hn : n < io.length := by simpa [G.scp] using s
    have := hp n _ (List.getElem?_eq_getElem hn)
    rw [this] at q
    cases q
    exact ⟨_, e, List.getElem?_eq_getElem hn⟩
  | .exc c ks ds, _, s, h => by
    obtain ⟨a, dd, vs, e, q, l, r, x⟩ := h
    exact ⟨a, dd, vs, e, q, l, RepL.narrow hp (by simpa [G.scp] using s) r, x⟩
theorem RepL.narrow {io io' : List Addr} (hp : Pre io io') : ∀ {ds : List D} {vs : List V}, scpL io.length ds = true → RepL K cl io' H ds vs → RepL K cl io H ds vs
  | [], _, _, h => h
  | d :: ds, _, s, h => by
    obtain ⟨v, r, e, h1, h2⟩ := h
    simp only [scpL, Bool.and_eq_true] at s
    exact ⟨v, r, e, Rep.narrow hp s.1 h1, RepL.narrow hp s.2 h2⟩
end
theorem RepO.scpO {io : List Addr} {H0 : Hp} {a : Addr} : ∀ {o : MO}, RepO K cl io H0 H a o → G.scpO io.length o = true
  | .dict _, ⟨_, _, r⟩ => RepL.scp r
  | .lst _, ⟨_, _, r⟩ => RepL.scp r
  | .ins _ _, ⟨_, _, _, r⟩ => RepL.scp r
theorem RepO.narrow {io io' : List Addr} {H0 H0' : Hp} {a : Addr} (hp : Pre io io') (hs : Same H0 H0') : ∀ {o : MO}, G.scpO io.length o = true → RepO K cl io' H0 H a o → RepO K cl io H0' H a o
  | .dict _, s, ⟨vs, h, r⟩ => ⟨vs, h, RepL.mono (.refl _) hs _ _ (RepL.narrow hp s r)⟩
  | .lst _, s, ⟨vs, h, r⟩ => ⟨vs, h, RepL.mono (.refl _) hs _ _ (RepL.narrow hp s r)⟩
  | .ins _ _, s, ⟨dx, vs, h, r⟩ => ⟨dx, vs, h, RepL.mono (.refl _) hs _ _ (RepL.narrow hp s r)⟩
end
section
variable {X : Cx} {cl : Nat → Addr} {W : WX} {T : Ent} {e a b c tg : Expr} {es : List Expr} {pos q : Pos} {io io' : List Addr} {om : Own} {H0 H H0' H' : Hp} {env : Env} {S S' : Sto} {σ : L2.St} {fs : Sem1 (List D)}
end
end G

namespace G
open PySem PySem.Spec PyProof.Rows L2
structure MtAt (K : PySem.W.Frag) (C : Addr) (m qual : Str) (st : Stmt) : Prop where
  ex : ∃ f fd, Meth K C m f ∧ Fun K m qual st f fd
structure KdAt (K : PySem.W.Frag) (mg : Str → Option Value) (x : Str) (C : Addr) (qual : Str) (st : Stmt) : Prop where
  ex : ∃ f fd, mg x = some (.ref C) ∧ Mk K C f ∧ Fun K "__init__" qual st f fd
structure CdAt (K : PySem.W.Frag) (mg : Str → Option Value) (x : Str) (C : Addr) (m qual : Str) (st : Stmt) : Prop where
  ex : ∃ f fd mc, mg x = some (.ref C) ∧ ClX.CRead K C mc ∧ ClX.CVal K C mc m (.ref f) (.ref f) ∧ PySem.W.keepIn K (.ref f) = true ∧ Fun K m qual st f fd
theorem alls_nil {α : Type} {P : α → Prop} : ∀ d ∈ ([] : List α), P d := fun _ h => nomatch h
theorem alls_cons {α : Type} {P : α → Prop} {a : α} {l : List α} (h : P a) (t : ∀ d ∈ l, P d) : ∀ d ∈ a :: l, P d := fun d m => by
  rcases List.mem_cons.mp m with rfl | m
  · exact h
  · exact t d m
section
variable {P : Program} {w : World} {K : PySem.W.Frag} {mg : Str → Option Value} {base : Heap} {cl : Nat → Addr}
end
section
variable {K : PySem.W.Frag} {h : Heap} {mg : Str → Option Value} {cl : Nat → Addr}
end
end G

namespace G
open PySem PySem.Spec PyProof.Rows L2
mutual
/-- no list within -/
def nol : D → Bool
  | .non => true
  | .bl _ => true
  | .int _ => true
  | .str _ => true
  | .tup ds => nolL ds
  | _ => false
def nolL : List D → Bool
  | [] => true
  | d :: ds => nol d && nolL ds
end
def eFnB (n : Nat) (sem : FnSem) (fs : Sem1 (List D)) : Ex := fun env S => (fs env S).bind fun ds S1 => if ds.length = n ∧ scpL 0 ds = true then (match sem ds [] with
  | .ok d _ => if nol d = true then .ok d S1 else .bad
  | _ => .bad) else .bad
section
variable {K : PySem.W.Frag} {cl : Nat → Addr} {H H' : Hp}
theorem SqT.but (h : ∀ a o, H a = some o → (∃ vs, o = .lst vs) ∨ H' a = some o) {a : Addr} {vs : List V} (q : SqT K H a vs) : SqT K H' a vs := by
  rcases q with (q | ⟨o, q⟩) | q
  · rcases h _ _ q with ⟨_, e⟩ | e
    · cases e
    · exact .inl (.inl e)
  · rcases h _ _ q with ⟨_, e⟩ | e
    · cases e
    · exact .inl (.inr ⟨o, e⟩)
  · exact .inr q
mutual
theorem Rep.nol (h : ∀ a o, H a = some o → (∃ vs, o = .lst vs) ∨ H' a = some o) {io io' : List Addr} : ∀ {d : D} {v : V}, nol d = true → Rep K cl io H d v → Rep K cl io' H' d v
  | .non, _, _, q => q
  | .bl _, _, _, q => q
  | .int _, _, _, q => q
  | .str _, _, _, q => q
  | .tup ds, _, n, q => by
    obtain ⟨a, vs, e, z, r⟩ := q
    exact ⟨a, vs, e, SqT.but h z, RepL.nol h (by simpa [G.nol] using n) r⟩
  | .lst _, _, n, _ => by simp [G.nol] at n
  | .frl _, _, n, _ => by simp [G.nol] at n
  | .ins _ _ _, _, n, _ => by simp [G.nol] at n
  | .obj _, _, n, _ => by simp [G.nol] at n
  | .exc _ _ _, _, n, _ => by simp [G.nol] at n
theorem RepL.nol (h : ∀ a o, H a = some o → (∃ vs, o = .lst vs) ∨ H' a = some o) {io io' : List Addr} : ∀ {ds : List D} {vs : List V}, nolL ds = true → RepL K cl io H ds vs → RepL K cl io' H' ds vs
  | [], _, _, q => q
  | d :: ds, _, n, q => by
    obtain ⟨v, r, e, h1, h2⟩ := q
    simp only [G.nolL, Bool.and_eq_true] at n
    exact ⟨v, r, e, Rep.nol h n.1 h1, RepL.nol h n.2 h2⟩
end
mutual
theorem Rep.scp0 {io : List Addr} (hs : Same H H') : ∀ {d : D} {v : V}, scp 0 d = true → Rep K cl io H d v → Rep K cl [] H' d v
  | .non, _, _, q => q
  | .bl _, _, _, q => q
  | .int _, _, _, q => q
  | .str _, _, _, q => q
  | .tup ds, _, n, q => by
    obtain ⟨a, vs, e, z, r⟩ := q
    exact ⟨a, vs, e, Same.seqT hs z, RepL.scp0 hs (by simpa [scp] using n) r⟩
  | .lst ds, _, n, q => by
    obtain ⟨a, vs, e, z, r⟩ := q
    exact ⟨a, vs, e, hs _ _ z, RepL.scp0 hs (by simpa [scp] using n) r⟩
  | .frl ds, _, n, q => by
    obtain ⟨a, vs, e, z, r⟩ := q
    exact ⟨a, vs, e, hs.seq z, RepL.scp0 hs (by simpa [scp] using n) r⟩
  | .ins c ks ds, _, n, q => by
    obtain ⟨a, dx, vs, e, z, l, r⟩ := q
    exact ⟨a, dx, vs, e, hs _ _ z, l, RepL.scp0 hs (by simpa [scp] using n) r⟩
  | .obj m, _, n, _ => by simp [scp] at n
  | .exc c ks ds, _, n, q => by
    obtain ⟨a, dd, vs, e, z, l, r, x⟩ := q
    exact ⟨a, dd, vs, e, hs _ _ z, l, RepL.scp0 hs (by simpa [scp] using n) r, x.imp_right fun ⟨d, e1, e2⟩ => ⟨d, e1, hs _ _ e2⟩⟩
theorem RepL.scp0 {io : List Addr} (hs : Same H H') : ∀ {ds : List D} {vs : List V}, scpL 0 ds = true → RepL K cl io H ds vs → RepL K cl [] H' ds vs
  | [], _, _, q => q
  | d :: ds, _, n, q => by
    obtain ⟨v, r, e, h1, h2⟩ := q
    simp only [scpL, Bool.and_eq_true] at n
    exact ⟨v, r, e, Rep.scp0 hs n.1 h1, RepL.scp0 hs n.2 h2⟩
end
open Classical in
/-- all lists that aren't the store's are held still -/
noncomputable def still (io : List Addr) (H0 H : Hp) : Hp := fun b => match H0 b with
  | some o => some o
  | none => if b ∈ io then none else match H b with
    | some (.lst vs) => some (.lst vs)
    | _ => none
/-- what is new is for good -/
def grown (H0 H H1 : Hp) : Hp := fun b => match H0 b with
  | some o => some o
  | none => match H b with
    | some _ => none
    | none => H1 b
end
section
variable {X : Cx} {cl : Nat → Addr} {W : WX} {e : Expr} {es : List Expr} {pos q : Pos} {fs : Sem1 (List D)}
end
open Classical in
noncomputable def frzB : Slot → Slot
  | .own ds => if scpL 0 ds = true then .val (.lst ds) else .un
  | .val d => if scp 0 d = true then .val d else .un
  | .un => .un
noncomputable def envB : List Bool → Env → Env
  | true :: bs, s :: env => frzB s :: envB bs env
  | false :: bs, _ :: env => .un :: envB bs env
  | [], _ :: env => .un :: envB [] env
  | _, [] => []
noncomputable def tStill (bs : List Bool) (t : Sem1 Bool) : Sem1 Bool := fun env S => match t (envB bs env) [] with
  | .ok b _ => .ok b S
  | _ => .bad
noncomputable def eStill (bs : List Bool) (f : Ex) : Ex := fun env S => match f (envB bs env) [] with
  | .ok d _ => if nol d = true then .ok d S else .bad
  | _ => .bad
section
variable {K : PySem.W.Frag} {cl : Nat → Addr} {io : List Addr} {om : Own} {H0 H : Hp} {env : Env} {S : Sto} {σ : L2.St}
end
section
variable {X : Cx} {cl : Nat → Addr} {W : WX} {e : Expr}
end
end G

namespace G
open PySem PySem.Spec PyProof.Rows L2
def rReprD (K : PySem.W.Frag) : List V → Hp → VK → Prop := fun vs H Q => ∃ (x : V) (d : PyData), vs = [x] ∧ Dp K H x d ∧ d.showable = true ∧ d.hasDict = false ∧ d.depth ≤ 60 ∧ d.shown.length ≤ sizeLine ∧ Q (.str d.shown) H
/-- data whose repr is known -/
def okRep (d : D) : Bool := pure d && ((toPy d).showable && (!(toPy d).hasDict && (decide ((toPy d).depth ≤ 60) && decide ((toPy d).shown.length ≤ sizeLine))))
def pRepr : List D → Sto → R D
  | [d], S => if okRep d = true then .ok (.str (toPy d).shown) S else .bad
  | _, _ => .bad
section
variable {X : Cx} {cl : Nat → Addr} {W : WX} {e : Expr} {es : List Expr} {pos q : Pos} {p1 : Bool} {fs : Sem1 (List D)}
end
end G

namespace G
open PySem PySem.Spec PyProof.Rows L2
def eUpper (f : Ex) : Ex := fun env S => (f env S).bind fun d S1 => match d with
  | .str x => mk (decide (x.length ≤ 5592405)) (.str (Txt.upper x)) S1
  | _ => .bad
def nSplit (f g : Ex) : Sem1 (List D) := fun env S => (f env S).bind fun d S1 => match d with
  | .str x => (g env S1).bind fun e S2 => match e with
    | .str y => if (y.length == 0) = false ∧ x.length + 2 ≤ sizeLine then .ok ((Txt.split x y).map D.str) S2 else .bad
    | _ => .bad
  | _ => .bad
theorem RepL_strs {K : PySem.W.Frag} {cl : Nat → Addr} {io : List Addr} {H : Hp} : ∀ ns : List Str, RepL K cl io H (ns.map D.str) (ns.map V.str)
  | [] => .nil
  | _ :: r => .cons rfl (RepL_strs r)
section
variable {X : Cx} {cl : Nat → Addr} {W : WX} {o e : Expr} {apos pos : Pos} {p1 p2 : Bool} {fo fe : Ex}
theorem n_split (ho : ED X cl W p1 o fo) (he : ED X cl W p2 e fe) (hs : starEach [e] X.env = [(false, eval e X.env)] := by rfl) (hbase : attributeBase o "split" X.env (eval o X.env) = eval o X.env := by rfl) (hline : (apos.endLine == pos.line) = true := by rfl) :
    ND X cl W (.Call (.Attribute o "split" apos) [e] [] pos) (nSplit fo fe) := by
  refine weakE (pe_split ho he hs hbase hline) fun σ H Q ⟨io, om, H0, env, S, R0, h⟩ => ?_
  refine ⟨io, om, H0, env, S, R0, (Post.bind (rp := rD X.K cl p1) R0 h).mono fun vx H1 ⟨io1, H01, S1, x, e1, R1, q1, h1⟩ => ?_⟩
  cases x with
  | str x =>
    rw [q1.str]
    refine ⟨⟨x, rfl⟩, io1, om, H01, env, S1, R1, (Post.bind (rp := rD X.K cl p2) R1 h1).mono fun vy H2 ⟨io2, H02, S2, y, e2, R2, q2, h2⟩ => ?_⟩
    cases y with
    | str y =>
      rw [q2.str]
      simp only at h2
      split at h2
      · rename_i g
        exact ⟨x, y, rfl, rfl, g.1, g.2, Post.newN (fun a q => e2.dom _ (e1.dom _ q)) R2 (RepL_strs _) h2⟩
      · exact h2.elim
    | _ => exact h2.elim
  | _ => exact h1.elim
end
end G

namespace G
open PySem PySem.Spec PyProof.Rows L2
/-- a def that tells the first of a tuple, an int, and leaves all that was there -/
def KeyF (P : Program) (w : World) (K : PySem.W.Frag) (mg : Str → Option Value) (x : Str) (g : Int → Int) : Prop :=
  ∃ f, mg x = some (.ref f) ∧ ∀ (A : Around) (s : Shared) (t : Addr) (its : List Value) (i : Int) (u : Tok) (r : List Value), Room 1 A → K.In s.heap → s.heap.NoLimit → IsTup s.heap t its.toArray → its = .int i u :: r → its.length ≤ sizeLine →
    wpAny (model P w) A (call (.ref f) [.ref t]) (PySem.W.KeyPure (.int (g i)) s) (fun _ _ => False) s
def keyI : D → Option Int
  | .tup (.int i :: _) => some i
  | _ => none
def keyZ (d : D) : Int := (keyI d).getD 0
def okKey (ds : List D) : Bool := ds.all fun d => (keyI d).isSome
def sortK (ds : List D) : List D := ds.mergeSort fun x y => decide (keyZ x ≤ keyZ y)
def pSortK : List D → Sto → R (List D)
  | [.lst ds], S => if okKey ds = true then .ok (sortK ds) S else .bad
  | _, _ => .bad
/-- by a key made of the first of each -/
def sortG (g : Int → Int) (ds : List D) : List D := ds.mergeSort fun x y => decide (g (keyZ x) ≤ g (keyZ y))
def pSortG (g : Int → Int) : List D → Sto → R (List D)
  | [.lst ds], S => if okKey ds = true then .ok (sortG g ds) S else .bad
  | _, _ => .bad
section
variable {X : Cx} {cl : Nat → Addr} {W : WX} {e : Expr} {pos q kp kp2 : Pos} {fs : Sem1 (List D)} {p1 : Bool} {g : Int → Int}
def rSortedKey (g : Int → Int) (K : PySem.W.Frag) (f : Addr) : List V → List V → Hp → VK → Prop := fun vs zs H Q => ∃ (a : Addr) (ys : List (V × D)), vs = [V.ref a] ∧ zs = [V.ref f] ∧ SqL K H a (ys.map Prod.fst) ∧ (∀ z ∈ ys, ∃ t ws, z.1 = V.ref t ∧ SqT K H t (V.int (keyZ z.2) :: ws)) ∧
  ∀ p : Addr, H p = none → Q (.ref p) (upd H p (.lst ((ys.mergeSort fun x y => decide (g (keyZ x.2) ≤ g (keyZ y.2))).map Prod.fst)))
variable {a b : Expr} {fa fb : Ex} {p2 : Bool} {lp rp : Pos}
instance {i j : Int} : Decidable (RgOk i j) := by unfold RgOk; infer_instance
def nLstRg (fa fb : Ex) : Sem1 (List D) := fun env S => (fa env S).bind fun x S1 => (fb env S1).bind fun y S2 => match x, y with
  | .int i, .int j => if RgOk i j then .ok (rangeD i j) S2 else .bad
  | _, _ => .bad
end
end G

namespace G
open PySem PySem.Spec PyProof.Rows L2
def revS (x : Str) : Str := ⟨x.cps.toList.reverse.toArray⟩
section
variable {X : Cx} {cl : Nat → Addr} {W : WX} {a : Expr} {pos : Pos} {fa : Ex} {p1 : Bool}
def tRevS (te : TE) : TE := fun σ H Q => te σ H fun x H1 => ∃ z, x = .str z ∧ z.length ≤ sizeLine ∧ Q (.str (revS z)) H1
def eRevA (f : Ex) : Ex := fun env S => (f env S).bind fun x S1 => match x with
  | .lst ds => .ok (.lst ds.reverse) S1
  | .tup ds => .ok (.tup ds.reverse) S1
  | .str z => if z.length ≤ sizeLine then .ok (.str (revS z)) S1 else .bad
  | _ => .bad
end
end G

namespace L2
open PySem PySem.Spec PyProof.Rows
section
variable {X : Cx} {pins : List (Addr × Obj)} {σ : St} {H : Hp} {s : Shared}
/-- an object that wasn't there at the entry is tracked from here on -/
theorem Inv.track {a : Addr} {o : HO} (I : Inv X pins σ H s) (n0 : X.s_0.heap.get? a = none) (na : H a = none) (nL : a ≠ X.env.locals) (nC : ∀ x c, X.env.cells.lookup x = some c → c ≠ a) (nP : ∀ p ∈ X.pn ++ pins, p.1 ≠ a) (new : ObjOk X.prog X.w (upd H a o) s.heap a o) :
    Inv X pins σ (upd H a o) s := by
  have ne0 : ∀ {b : Addr} {u : Obj}, X.s_0.heap.get? b = some u → b ≠ a := fun {b u} e z => by rw [z, n0] at e; cases e
  have neH : ∀ {b : Addr} {u : HO}, H b = some u → b ≠ a := fun {b u} e => ne_of_none e na
  refine ⟨I.ok, I.os, I.bare, ⟨I.base.keep, I.base.slot, fun b u q n hx => ?_, I.base.there, fun b xs q => ?_, fun b u xs q => ?_, fun b ps q => ?_⟩, I.loc, I.cell, ?_, fun x c e => ?_, fun p hp => ?_, fun b u e => ?_, I.len⟩
  · rw [upd_ne (ne0 q)]; exact I.base.free b u q n hx
  · have z := I.base.tups b xs q
    rw [upd_ne (neH z)]; exact z
  · have z := I.base.frzs b u xs q
    rw [upd_ne (neH z)]; exact z
  · obtain ⟨m, z⟩ := I.base.tbls b ps q
    exact ⟨m, by rw [upd_ne (neH z)]; exact z⟩
  · rw [upd_ne (Ne.symm nL)]; exact I.free
  · rw [upd_ne (nC x c e)]; exact I.freeC x c e
  · obtain ⟨e, n, z⟩ := I.pin p hp
    exact ⟨e, by rw [upd_ne (nP p hp)]; exact n, z⟩
  · by_cases hb : b = a
    · subst hb
      rw [upd_same] at e
      cases e
      exact new
    · rw [upd_ne hb] at e
      exact (I.hok b u e).stay (fun c v _ q => q) (fun c q => by rw [upd_ne (neH q)]; exact q) fun c xs q => by rw [upd_ne (neH q)]; exact q
/-- an except suite whose exception is tracked -/
theorem Inv.suite0 {a : Addr} (I : Inv X pins σ H s) : Inv (X.suite a (X.pn ++ pins)) [] σ H s :=
  ⟨I.ok.suite _ _, I.os, I.bare, I.base, I.loc, I.cell, I.free, I.freeC, fun p hp => I.pin p (by rw [List.append_nil] at hp; exact hp), I.hok, I.len⟩
theorem Inv.unsuite0 {a : Addr} {pn' : List (Addr × Obj)} (I : Inv (X.suite a (X.pn ++ pins)) pn' σ H s) (ok : X.Ok) : Inv X pins σ H s :=
  ⟨ok, I.os, I.bare, I.base, I.loc, I.cell, I.free, I.freeC, fun p hp => I.pin p (List.mem_append_left _ hp), I.hok, I.len⟩
end
theorem exr_ok {P : Program} {w : World} {H : Hp} {h : Heap} {a C : Addr} {dd : Option Addr} {oe : Obj} {vs : Array Value} (e : h.get? a = some oe) (z : Zc (.ref C) dd oe) (d : oe.data = .fields vs) : ObjOk P w H h a (G.exr C dd a) :=
  ⟨⟨oe, vs, e, z, d⟩, ⟨oe, e⟩, fun _ _ ⟨o, v, q, r⟩ k => ⟨o, v, k o q, r⟩⟩
/-- what 'except x as n' wishes of an exception: the suite runs with the exception tracked -/
def wAsD (K : PySem.W.Frag) (c : Value) (i : Nat) (ts : Addr → TS) (Wout : WX) (D : Ends) : WX := fun cls d σ H =>
  ∃ b, PySem.W.exmOne K cls c = some b ∧ (b = true → ∃ C, cls = .ref C ∧ ∀ a, H a = none → ts a { nx := fun σ' H' => D.nx (σ'.set i none) H', rt := D.rt, bk := fun σ' H' => D.bk (σ'.set i none) H', ct := fun σ' H' => D.ct (σ'.set i none) H' } (σ.set i (some (.ref a))) (upd H a (G.exr C d a))) ∧
    (b = false → Wout cls d σ H)
section
variable {X : Cx} {x n : Str} {c : Value} {i : Nat} {body suite : List Stmt} {b₀ : Stmt} {np pos pos' : Pos} {tb : WX → TS} {ts : Addr → TS} {Wout : WX}
theorem ps_try_asD (hs : X.stack = X.env :: X.outer) (hx : X.ex = []) (hf : X.env.frame = some X.env.locals) (hN : X.N.Nodup) (hi : X.N[i]? = some n) (hln : X.env.kindOf n = some .local) (hc : Names X x c) (tk : Takes X Wout)
    (hb : ∀ (W : WX) (pn : List (Addr × Obj)) (xe : Value → Shared → Prop), Takes (X.tr pn xe) W → PassesOwn (model X.prog X.w) X.A X.env xe → PSs (X.tr pn xe) body (tb W))
    (hsu : ∀ (a : Addr) (pn : List (Addr × Obj)), PSs (X.suite a pn) (b₀ :: suite) (ts a)) :
    PS X (.Try body [.ExceptHandler (some (.Name x np)) (some n) (b₀ :: suite) pos'] [] [] pos) (fun D σ H => tb (wAsD X.K c i ts Wout D) D σ H) := by
  refine ⟨fun pins s σ H D I h => ?_⟩
  have ok := I.ok
  have hfr : X.A.frames = some (X.env :: X.outer) := by rw [ok.frames, hs]
  have hloc : Loc X.env.scope n := .inl hln
  refine wpAny_Try_except ?_
  refine wpAny_mono ((hb (wAsD X.K c i ts Wout D) (X.pn ++ pins) (fun e s₁ => wpAny (model X.prog X.w) X.A (noteFrame e X.env) (fun _ s₂ => wpAny (model X.prog X.w) X.A (setFlight e none) (fun _ s₃ =>
    wpAny (model X.prog X.w) X.A (handleBy e X.env [.ExceptHandler (some (.Name x np)) (some n) (b₀ :: suite) pos']) (SP X pins D) X.xe s₃) X.xe s₂) X.xe s₁) (fun u s' xx => ?_) PassesOwn.looking).run [] s σ H D (I.toTry _) h) (fun f s1 hsp => ?_) (fun e s1 he => he)
  · -- the catch
    obtain ⟨a, B, sI, pins', σ', H', cls, d, rfl, J', nb, up, sky, na, os, ag, b, hb1, hyes, hno⟩ := xx
    have J : Inv X pins σ' H' sI := J'.ofTry ok
    have sky' : Sky B (X.env :: X.outer) a (Zc cls d) X.env.locals s'.heap := by rw [← hs]; exact sky
    show wpAny (model X.prog X.w) X.A (noteFrame (.ref a) X.env) _ _ _
    refine Sky.land Zc.steady hfr hf sky' fun h3 fl3 up3 => ?_
    have J3 : Inv X pins σ' H' { s' with heap := h3 } := J.landed nb fl3.1 (up.trans up3) os ag
    obtain ⟨oe3, vs3, he3, hz3, hd3⟩ := fl3.there
    have notFr : ∀ {h : Heap} {o : Obj} {vs : Array Value}, h.FunFrames B (X.env :: X.outer) → h.get? a = some o → o.data = .fields vs → a ∉ frs (X.env :: X.outer) := fun {h o vs} ff e dd hm => by
      obtain ⟨_, o', e', hnf⟩ := ff.mem hm
      rw [e] at e'; cases e'
      exact hnf _ dd
    have nfr := notFr fl3.2.2.1 he3 hd3
    have nL : a ≠ X.env.locals := fun z => nfr (List.mem_filterMap.mpr ⟨X.env, List.mem_cons_self, by rw [hf, z]⟩)
    have nF : a ∉ X.fs := fun hm => by
      obtain ⟨e, he, q⟩ := List.mem_filterMap.mp hm
      exact nfr (List.mem_filterMap.mpr ⟨e, List.mem_cons_of_mem _ he, q⟩)
    have S3 := J3.suite he3 hd3 na nL nF
    have nI : sI.heap.get? a = none := by
      cases q : sI.heap.get? a with
      | none => rfl
      | some o =>
        have z := nb a o q (by rw [hs]; exact nfr)
        rw [fl3.2.1] at z; cases z
    have n0 : X.s_0.heap.get? a = none := by
      cases q : X.s_0.heap.get? a with
      | none => rfl
      | some o =>
        obtain ⟨o', z⟩ := J.base.there a o q (by rw [hx]; simp)
        rw [nI] at z; cases z
    have nP : ∀ p ∈ X.pn ++ pins, p.1 ≠ a := fun p hp z => by
      have e := (J.pin p hp).1
      rw [z, nI] at e; cases e
    refine wpAny_handleBy_cons (codeAny_handlers_test ?_) (by intro q; cases q)
    have LT : PySem.W.Looks (model X.prog X.w) h3 (typeOf (.ref a)) cls := fun A Q E s k q => wpAny_typeOf_ref (k _ _ he3) (by rw [hz3.1]; exact q)
    have LM := PySem.W.exm_one (M := model X.prog X.w) (J3.kIn) LT hb1
    have test : ∀ {Q : Value → Shared → Prop} {E : Value → Shared → Prop}, Q c { s' with heap := h3 } → wpAny (model X.prog X.w) (X.A.mark (some (.ref a))) (eval (.Name x np) X.env) Q E { s' with heap := h3 } := fun {Q E} q => by
      obtain ⟨hg, hdbg, hm | ⟨hm, hv, hnn⟩⟩ := hc
      · exact ld_glob (X := X.suite a ((a, oe3) :: (X.pn ++ pins))) S3 hg hm q hdbg
      · exact ld_blt (X := X.suite a ((a, oe3) :: (X.pn ++ pins))) S3 hg hm hv q hnn hdbg
    refine test (LM.here ?_)
    cases b with
    | true =>
      obtain ⟨C, rfl, hyes2⟩ := hyes rfl
      refine codeAny_handlers_suite_as ?_
      refine HandSPX.lands_againZ fl3 fun h4 fl4 up4 => ?_
      have J4 : Inv X pins σ' H' { s' with heap := h4 } := J.landed nb fl4.1 ((up.trans up3).trans up4) os ag
      obtain ⟨oe4, vs4, he4, hz4, hd4⟩ := fl4.there
      have nC : ∀ x c, X.env.cells.lookup x = some c → c ≠ a := fun x c e z => by
        obtain ⟨v, o, ho, hd⟩ := J4.cell x c e
        have z1 : h4.get? a = some o := by rw [← z]; exact ho
        rw [he4] at z1; cases z1
        rw [hd4] at hd; cases hd
      have S4 := (J4.track n0 na nL nC nP (exr_ok he4 hz4 hd4)).suite0 (a := a)
      refine store_ok (X := X.suite a (X.pn ++ pins)) (v := .ref a) S4 hN hi hloc rfl (fun s5 S5 => ?_) (.inr hln)
      refine wpAny_mono ((hsu a (X.pn ++ pins)).run [] s5 _ _ _ S5 (hyes2 a na)) (fun f s6 hsp => ?_) (fun _ _ z => False.elim z)
      have end_ : ∀ {σ6 : St} {H6 : Hp} {Q : Shared → Prop}, Inv (X.suite a (X.pn ++ pins)) [] σ6 H6 s6 → (∀ s7, Inv X pins (σ6.set i none) H6 s7 → Q s7) →
          wpAny (model X.prog X.w) X.A (do bindName X.env n .none; unbindBehindTheSuite X.env n pos') (fun _ s7 => Q s7) X.xe s6 := fun {σ6 H6 Q} S6 hq => gone_ok (S6.unsuite0 ok) hN hi hln hq
      cases f with
      | next =>
        obtain ⟨σ6, H6, S6, q6⟩ := hsp
        exact end_ S6 fun s7 J7 => ⟨_, _, J7, q6⟩
      | brk =>
        obtain ⟨σ6, H6, S6, q6⟩ := hsp
        exact end_ S6 fun s7 J7 => ⟨_, _, J7, q6⟩
      | cont =>
        obtain ⟨σ6, H6, S6, q6⟩ := hsp
        exact end_ S6 fun s7 J7 => ⟨_, _, J7, q6⟩
      | ret u =>
        obtain ⟨v6, σ6, H6, S6, r6, q6⟩ := hsp
        exact end_ S6 fun s7 J7 => ⟨_, _, _, J7, r6, q6⟩
    | false =>
      show wpAny _ X.A (handleBy (.ref a) X.env []) _ _ _
      refine wpAny_handleBy_nil ?_
      obtain ⟨k1, k2, k3, oe, vs, T, oT, ts', he, hz, hd, h1, hr⟩ := id fl3
      unfold PySem.passOn
      refine wpAny_bind (wpAny_field he hd h1 ?_)
      rw [if_neg (show ¬ ((Value.ref T == Value.none) = true) from by simp)]
      have fin : wpAny (model X.prog X.w) X.A (setFlight (.ref a) X.env.frame) (fun _ s4 => wpAny (model X.prog X.w) X.A (throw (.ref a) : Sem Flow) (SP X pins D) X.xe s4) X.xe { s' with heap := h3 } := by
        rw [hf]
        refine HandSPX.setFlight_upZ fl3 fun h4 hh4 up4 => wpAny_throw (tk _ _ ?_)
        exact ⟨a, B, sI, pins, σ', H', cls, d, rfl, J, nb, (up.trans up3).trans up4, .inr (.inr (by rw [hs]; exact hh4)), na, os, ag, hno rfl⟩
      first
        | exact wpAny_bind (wpAny_pure (wpAny_bind fin))
        | exact wpAny_bind fin
  · cases f with
    | next =>
      obtain ⟨σ', H', J', q⟩ := hsp
      exact wpAny_execs_nil ⟨σ', H', J'.ofTry ok, q⟩
    | brk =>
      obtain ⟨σ', H', J', q⟩ := hsp
      exact ⟨σ', H', J'.ofTry ok, q⟩
    | cont =>
      obtain ⟨σ', H', J', q⟩ := hsp
      exact ⟨σ', H', J'.ofTry ok, q⟩
    | ret u =>
      obtain ⟨v, σ', H', J', r, q⟩ := hsp
      exact ⟨v, σ', H', J'.ofTry ok, r, q⟩
end
end L2
namespace G
open PySem PySem.Spec PyProof.Rows L2
/-- an own exception class -/
structure ExcAt (K : PySem.W.Frag) (mg : Str → Option Value) (x : Str) (C : Addr) : Prop where
  g : mg x = some (.ref C)
  kp : PySem.W.keepIn K (.ref C) = true
  sb : PySem.W.subIn K (.ref C) (.type "BaseException") = some true
  ty : PySem.W.typeIn K (.ref C) = some (.type "type")
/-- .. without own __init__ -/
abbrev ExcNew (K : PySem.W.Frag) (C : Addr) : Prop := PySem.W.excIn K C [.type "ValueError", .type "Exception", .type "BaseException", .type "object"] "ValueError.__new__" = true
def sRaise (c : Nat) : Sm := fun env S => .ok (.xc ⟨c, []⟩ env) S
def catchD (l : List (Nat × Bool)) (c : Nat) : Option Bool := (l.find? fun p => decide (p.1 = c)).map (·.2)
theorem catchD_mem {l : List (Nat × Bool)} {c : Nat} {b : Bool} (h : catchD l c = some b) : (c, b) ∈ l := by
  unfold catchD at h
  obtain ⟨p, e, rfl⟩ := Option.map_eq_some_iff.mp h
  have h1 := List.find?_some e
  have h2 := List.mem_of_find?_eq_some e
  have : p.1 = c := of_decide_eq_true h1
  subst this
  exact h2
def sTryAs (l : List (Nat × Bool)) (i : Nat) (body suite : Sm) : Sm := fun env S => (body env S).bind fun fl S1 => match fl with
  | .xc e env1 => (match catchD l e.c with
    | some true => if i < env1.length then (suite (env1.set i (.val (.exc e.c (e.fs.map (·.1)) (e.fs.map (·.2))))) S1).bind fun fl2 S2 => (match fl2 with
      | .nx env2 => .ok (.nx (wipeE env2 [i])) S2
      | .bk env2 => .ok (.bk (wipeE env2 [i])) S2
      | .ct env2 => .ok (.ct (wipeE env2 [i])) S2
      | .rt d => .ok (.rt d) S2
      | .ro ds => .ok (.ro ds) S2
      | .xc _ _ => .bad) else .bad
    | some false => .ok (.xc e env1) S1
    | none => .bad)
  | fl => .ok fl S1
section
variable {X : Cx} {cl : Nat → Addr} {W : WX} {T : Ent} {K : PySem.W.Frag} {io : List Addr} {om : Own} {H0 H : Hp} {env : Env} {S : Sto} {σ : L2.St} {g h : Sm} {q pos pos' : Pos}
theorem s_raise {x m : Str} {c j : Nat} {p p2 : Pos} (F : ExcAt X.K X.mg x (cl c)) (N : ExcNew X.K (cl c)) (tk : Takes X W) (hc : X.calm = true := by rfl) (hg : Gl X x := by rfl) (hdb : (x == ("__debug__" : Str)) = false := by decide) :
    SD X cl T W (.Raise (some (.Call (.Name x p) [.Constant (.str m) j p2] [] pos)) none pos') (sRaise c) :=
  weakS (ps_raise hc tk (pmk_own PySem.F.excBase_ValueError N F.g F.kp (raises_own F.sb F.ty) hg hdb)) fun D σ H ⟨io, om, H0, env, S, R0, h⟩ => h io om H0 H (.ref (cl c)) none σ R0 ⟨rfl, rfl⟩
theorem RelF.gone (R0 : RelF K cl T io om H0 H env S σ) (i : Nat) : RelF K cl T io (wipeO om [i]) H0 H (wipeE env [i]) S (σ.set i none) :=
  ⟨R0.rel.wipe [i], R0.ev, fun j a e => by
    have e' : (om.set i none)[j]? = some (some a) := e
    by_cases hj : j = i
    · subst hj
      rw [List.getElem?_set] at e'
      split at e' <;> (try split at e') <;> simp_all
    · rw [List.getElem?_set_ne (Ne.symm hj)] at e'
      exact R0.fresh j a e'⟩
theorem RelF.caught {e : XV} {i : Nat} {a : Addr} {dd : Option Addr} (R0 : RelF K cl T io om H0 H env S σ) (hi : i < env.length) (na : H a = none) (rx : RepX K cl io H0 H e (.ref (cl e.c)) dd) :
    ∃ om' H0', RelF K cl T io om' H0' (upd H a (exr (cl e.c) dd a)) (env.set i (.val (.exc e.c (e.fs.map (·.1)) (e.fs.map (·.2))))) S (σ.set i (some (.ref a))) := by
  obtain ⟨st, x⟩ := R0.rel.st.new0 na (exr (cl e.c) dd a)
  refine ⟨_, _, (R0.step x st).set hi ?_⟩
  obtain ⟨_, rx⟩ := rx
  obtain ⟨c, fs⟩ := e
  cases fs with
  | nil => exact ⟨a, dd, [], rfl, upd_same, rfl, rfl, .inl ⟨rfl, rx⟩⟩
  | cons p fs =>
    obtain ⟨d, vs, e1, e2, r⟩ := rx
    have hl := r.length
    refine ⟨a, dd, vs, rfl, upd_same, by rw [List.length_map] at hl ⊢; exact hl, RepL.mono (.refl _) x.h0 _ _ r, .inr ⟨d, e1, ?_⟩⟩
    exact x.h0 _ _ e2
theorem s_tryAs {l : List (Nat × Bool)} {x n : Str} {C : Addr} {i : Nat} {body suite : List Stmt} {b₀ : Stmt} {np : Pos} (i0 : i = i) (hm : X.mg x = some (.ref C)) (hl : ∀ p ∈ l, PySem.W.exmOne X.K (.ref (cl p.1)) (.ref C) = some p.2) (hN : X.N.Nodup) (tk : Takes X W)
    (hb : ∀ (W : WX) (pn : List (Addr × Obj)) (xe : Value → Shared → Prop), Takes (X.tr pn xe) W → PassesOwn (model X.prog X.w) X.A X.env xe → SsD (X.tr pn xe) cl T W body g)
    (hsu : ∀ (a : Addr) (pn : List (Addr × Obj)), SsD (X.suite a pn) cl T WF (b₀ :: suite) h)
    (hi : X.N[i]? = some n := by rfl) (hs : X.stack = X.env :: X.outer := by rfl) (hx : X.ex = [] := by rfl) (hf : X.env.frame = some X.env.locals := by rfl) (hln : X.env.kindOf n = some .local := by rfl) (hg : Gl X x := by rfl) (hdb : (x == ("__debug__" : Str)) = false := by decide) :
    SD X cl T W (.Try body [.ExceptHandler (some (.Name x np)) (some n) (b₀ :: suite) pos'] [] [] pos) (sTryAs l i g h) := by
  refine weakS (ps_try_asD hs hx hf hN hi hln ⟨hg, hdb, .inl hm⟩ tk (tb := fun W => tS X.K cl T W g) hb (ts := fun _ => tS X.K cl T WF h) hsu) fun D σ H ⟨io, om, H0, env, S, R0, hp⟩ => ⟨io, om, H0, env, S, R0, ?_⟩
  unfold sTryAs at hp
  cases e1 : g env S with
  | bad => rw [e1] at hp; exact hp
  | exc e S1 => rw [e1] at hp; exact hp
  | ok fl S1 =>
    rw [e1] at hp
    cases fl with
    | nx _ => exact hp
    | rt _ => exact hp
    | bk _ => exact hp
    | ct _ => exact hp
    | ro _ => exact hp
    | xc e env1 =>
      intro io1 om1 H01 H1 c dd σ1 R1 rx
      have ec := rx.1
      subst ec
      have hp : PostS X.K cl T W D (match catchD l e.c with
        | some true => if i < env1.length then (h (env1.set i (.val (.exc e.c (e.fs.map (·.1)) (e.fs.map (·.2))))) S1).bind fun fl2 S2 => (match fl2 with
          | .nx env2 => .ok (.nx (wipeE env2 [i])) S2
          | .bk env2 => .ok (.bk (wipeE env2 [i])) S2
          | .ct env2 => .ok (.ct (wipeE env2 [i])) S2
          | .rt d => .ok (.rt d) S2
          | .ro ds => .ok (.ro ds) S2
          | .xc _ _ => .bad) else .bad
        | some false => .ok (.xc e env1) S1
        | none => .bad) := hp
      cases ec : catchD l e.c with
      | none => rw [ec] at hp; exact hp.elim
      | some b =>
        rw [ec] at hp
        refine ⟨b, hl _ (catchD_mem ec), fun hb => ?_, fun hb => ?_⟩
        · subst hb
          refine ⟨cl e.c, rfl, fun a na => ?_⟩
          by_cases hi1 : i < env1.length
          · have hp : PostS X.K cl T W D ((h (env1.set i (.val (.exc e.c (e.fs.map (·.1)) (e.fs.map (·.2))))) S1).bind fun fl2 S2 => (match fl2 with
              | .nx env2 => .ok (.nx (wipeE env2 [i])) S2
              | .bk env2 => .ok (.bk (wipeE env2 [i])) S2
              | .ct env2 => .ok (.ct (wipeE env2 [i])) S2
              | .rt d => .ok (.rt d) S2
              | .ro ds => .ok (.ro ds) S2
              | .xc _ _ => .bad)) := by
              have z := hp
              simp only [hi1, if_true] at z
              exact z
            obtain ⟨om', H0', R2⟩ := R1.caught hi1 na rx
            refine ⟨io1, om', H0', _, S1, R2, ?_⟩
            cases e2 : h (env1.set i (.val (.exc e.c (e.fs.map (·.1)) (e.fs.map (·.2))))) S1 with
            | bad => rw [e2] at hp; exact hp
            | exc e S1 => rw [e2] at hp; exact hp
            | ok fl2 S2 =>
              rw [e2] at hp
              cases fl2 with
              | nx env2 => exact fun io om H0 H σ R => hp io _ H0 H _ (R.gone i)
              | bk env2 => exact fun io om H0 H σ R => hp io _ H0 H _ (R.gone i)
              | ct env2 => exact fun io om H0 H σ R => hp io _ H0 H _ (R.gone i)
              | rt d => exact hp
              | ro d => exact hp
              | xc _ _ => exact hp.elim
          · have z := hp
            simp only [hi1, if_false] at z
            exact z.elim
        · subst hb
          exact hp io1 om1 H01 H1 _ dd σ1 R1 rx
end
end G

namespace G
open PySem PySem.Spec PyProof.Rows L2
def dOk (H : Hp) (dd : Option Addr) : Prop := dd = none ∨ ∃ d fs, dd = some d ∧ H d = some (.xd fs)
theorem exr_inst {X : Cx} {pins : List (Addr × Obj)} {σ : L2.St} {H : Hp} {s : Shared} {a D : Addr} {dd : Option Addr} (I : Inv X pins σ H s) (ha : H a = some (exr D dd a)) (hd : dOk H dd) : ∃ oe od, PySem.W.InstAt s.heap a oe D od := by
  obtain ⟨⟨oe, vs, ho, hz, hdt⟩, _, _⟩ : ObjOk X.prog X.w H s.heap a (.ext fun h => ∃ (oe : Obj) (vs : Array Value), h.get? a = some oe ∧ Zc (.ref D) dd oe ∧ oe.data = .fields vs) := I.hok a _ ha
  rcases hd with rfl | ⟨d, fs, rfl, hx⟩
  · exact ⟨oe, none, ho, hz.1, by unfold PySem.W.notCls; rw [hdt] <;> rfl, by rw [hz.2]; trivial⟩
  · obtain ⟨mA, hns, _⟩ : ObjOk X.prog X.w H s.heap d (.xd fs) := I.hok d _ hx
    obtain ⟨od, ho2, _⟩ := lookIn_ns hns
    exact ⟨oe, some od, ho, hz.1, by unfold PySem.W.notCls; rw [hdt] <;> rfl, by rw [hz.2]; exact ho2⟩
def rIsX (K : PySem.W.Frag) : List V → Hp → VK → Prop := fun xs H Q => ∃ (a D C : Addr) (dd : Option Addr) (b : Bool), xs = [.ref a, .ref C] ∧ H a = some (exr D dd a) ∧ dOk H dd ∧ ExcC K D ∧ PySem.W.kitOne K (.ref D) (.ref C) = some b ∧ Q (.bl b) H
theorem call_isX {X : Cx} : CallR X (.builtin "isinstance") (rIsX X.K) := by
  intro pins s σ H xs us Q I r h
  obtain ⟨a, D, C, dd, b, rfl, ha, hd, F, e, q⟩ := h
  obtain ⟨u1, u2, rfl, r1, r2⟩ := vals2 r
  cases (show u1 = Value.ref a from r1)
  cases (show u2 = Value.ref C from r2)
  obtain ⟨oe, od, J⟩ := exr_inst I ha hd
  obtain ⟨cd, hc, _⟩ := PySem.W.any_some F.hd
  exact PySem.W.kia_one (PySem.W.kitx_exc (by rw [hc]; rfl) F.hg F.hk F.hs F.ha F.hn F.ht F.hm) I.kIn J e (fun z => nomatch z) fun tk => ⟨.bl b, H, I.tok tk, rfl, q⟩
def eIsE (l : List (Nat × Bool)) (fa : Ex) : Ex := fun env S => (fa env S).bind fun d S1 => match d with
  | .exc c _ _ => (match catchD l c with
    | some b => .ok (.bl b) S1
    | none => .bad)
  | _ => .bad
theorem rD.exc {K : PySem.W.Frag} {cl : Nat → Addr} {io : List Addr} {H0 H : Hp} {S : Sto} (st : StR K cl io H0 H S) {p : Bool} {c : Nat} {ks : List Str} {ds : List D} {v : V} (h : rD K cl p io H0 H (.exc c ks ds) v) :
    ∃ a dd vs, v = .ref a ∧ H a = some (exr (cl c) dd a) ∧ ks.length = vs.length ∧ RepL K cl io H0 ds vs ∧ ((ks = [] ∧ dd = none) ∨ ∃ d, dd = some d ∧ H d = some (.xd (ks.zip vs))) := by
  rcases h with ⟨a, dd, vs, e, h1, h2, h3, h4⟩ | ⟨_, es, a, vs, e, _⟩
  · exact ⟨a, dd, vs, e, st.sub _ _ h1, h2, h3, h4.imp_right fun ⟨d, z1, z2⟩ => ⟨d, z1, st.sub _ _ z2⟩⟩
  · cases e
section
variable {X : Cx} {cl : Nat → Addr} {W : WX} {T : Ent} {K : PySem.W.Frag} {io : List Addr} {om : Own} {H0 H : Hp} {env : Env} {S : Sto} {σ : L2.St} {g h : Sm} {a e : Expr} {fa : Ex} {p1 : Bool} {q pos pos' : Pos}
theorem d_isE {l : List (Nat × Bool)} {C : Addr} {x : Str} {q' : Pos} (ha : ED X cl W p1 a fa) (hm : X.mg "isinstance" = none) (hC : X.mg x = some (.ref C)) (hl : ∀ p ∈ l, ExcC X.K (cl p.1) ∧ PySem.W.kitOne X.K (.ref (cl p.1)) (.ref C) = some p.2) (hg : Gl X "isinstance" := by rfl) (hgT : Gl X x := by rfl)
    (hd : (x == ("__debug__" : Str)) = false := by decide)
    (hs1 : starEach [a, .Name x q'] X.env = (false, eval a X.env) :: starEach [.Name x q'] X.env := by rfl) (hs2 : starEach [.Name x q'] X.env = (false, eval (.Name x q') X.env) :: starEach [] X.env := by rfl)
    (hpl : (backTo pos (starEach [.Name x q'] X.env)).any (·.1) = false := by rfl) :
    ED X cl W true (.Call (.Name "isinstance" q) [a, .Name x q'] [] pos) (eIsE l fa) := by
  refine weakE (pe_callB call_isX hg hm (by decide +kernel) (pa_cons ha (pa_cons (pe_glob (v := .ref C) hgT hC rfl hd) pa_nil hs2) hs1) (by decide) (by decide) hs1 hpl) fun σ H Q ⟨io, om, H0, env, S, R0, h⟩ => ?_
  refine ⟨io, om, H0, env, S, R0, (Post.bind R0 h).mono fun vx H1 ⟨io1, H01, S1, x, e1, R1, q1, h1⟩ => ?_⟩
  cases x with
  | exc c ks ds =>
    obtain ⟨a, dd, vs, rfl, ha, hl1, _, hx⟩ := q1.exc R1.st
    have h1 : Post X.K cl (rD X.K cl true) W io1 H01 H1 σ Q (match catchD l c with | some b => .ok (.bl b) S1 | none => .bad) := h1
    cases ec : catchD l c with
    | none => rw [ec] at h1; exact h1.elim
    | some b =>
      rw [ec] at h1
      obtain ⟨z1, z2⟩ := hl _ (catchD_mem ec)
      exact ⟨a, cl c, C, dd, b, rfl, ha, hx.elim (fun z => .inl z.2) fun ⟨d, z, z'⟩ => .inr ⟨d, _, z, z'⟩, z1, z2, h1.done_bl R1⟩
  | _ => exact h1.elim
def tXfD (K : PySem.W.Frag) (f : Str) (te : TE) : TE := fun σ H Q => te σ H fun x H1 => ∃ (a C dd : Addr) (fs : List (Str × V)) (v : V), x = .ref a ∧ H1 a = some (exr C (some dd) a) ∧ XfC K C ∧ PySem.W.findIn K (.ref C) f = some none ∧ H1 dd = some (.xd fs) ∧ fs.lookup f = some v ∧ Q v H1
theorem pe_xfD {e : Expr} {te : TE} {f : Str} (he : PE X e te) (hb : attributeBase e f X.env (eval e X.env) = eval e X.env := by rfl) : PE X (.Attribute e f pos) (tXfD X.K f te) := by
  refine ⟨fun pins s σ H Q I h => ?_⟩
  refine attr_of hb (thn (he.run pins s σ H _ I h) fun u s1 hh => ?_)
  obtain ⟨x, H1, I1, rx, a, C, dd, fs, v, ex, ha, T, hno, ea, l, q⟩ := hh
  subst ex
  obtain rfl : u = Value.ref a := rx
  obtain ⟨⟨oe, vs, ho1, hz, hdt⟩, _, _⟩ : ObjOk X.prog X.w H1 s1.heap a (.ext fun h => ∃ (oe : Obj) (vs : Array Value), h.get? a = some oe ∧ Zc (.ref C) (some dd) oe ∧ oe.data = .fields vs) := I1.hok a _ ha
  have hx : ObjOk X.prog X.w H1 s1.heap dd (.xd fs) := I1.hok dd _ ea
  obtain ⟨mA, hns, hr⟩ := hx
  obtain ⟨od, ho, hl⟩ := lookIn_ns hns
  obtain ⟨u, hu, ru⟩ := RelO.some_of (v := v) (o := mA f) (by rw [← l]; exact hr f)
  have J : PySem.W.InstAt s1.heap a oe C (some od) := ⟨ho1, hz.1, by unfold PySem.W.notCls; rw [hdt] <;> rfl, by rw [hz.2]; exact ho⟩
  exact HandSPX.exc_get I1.kIn J T.ga T.gg T.exC (PySem.W.findObj_own T.hdC hno rfl (by rw [hl, hu])) (handed_of ru) ⟨v, H1, I1.tok _, ru, q⟩
def eXf (cs : List Nat) (f : Str) (fa : Ex) : Ex := fun env S => (fa env S).bind fun d S1 => match d with
  | .exc c ks ds => if c ∈ cs then (match (ks.zip ds).lookup f with
    | some d => .ok d S1
    | none => .bad) else .bad
  | _ => .bad
theorem lookup_zip2 {f : Str} {d : D} : ∀ {ks : List Str} {ds : List D} {vs : List V}, RepL K cl io H0 ds vs → (ks.zip ds).lookup f = some d → ∃ v, (ks.zip vs).lookup f = some v ∧ Rep K cl io H0 d v
  | [], _, _, _, e => by cases e
  | _ :: _, [], _, _, e => by cases e
  | k :: ks, x :: ds, _, h, e => by
    obtain ⟨v, t, rfl, h1, h2⟩ := h
    rw [List.zip_cons_cons] at e ⊢
    rw [List.lookup_cons] at e ⊢
    cases hb : f == k with
    | true => rw [hb] at e; cases e; exact ⟨v, rfl, h1⟩
    | false => rw [hb] at e; exact lookup_zip2 h2 e
theorem d_xf {cs : List Nat} {f : Str} (ha : ED X cl W p1 a fa) (hc : ∀ c ∈ cs, XfC X.K (cl c) ∧ PySem.W.findIn X.K (.ref (cl c)) f = some none) (hb : attributeBase a f X.env (eval a X.env) = eval a X.env := by rfl) : ED X cl W true (.Attribute a f pos) (eXf cs f fa) := by
  refine weakE (pe_xfD ha hb) fun σ H Q ⟨io, om, H0, env, S, R0, h⟩ => ?_
  refine ⟨io, om, H0, env, S, R0, (Post.bind (rp := rD X.K cl p1) R0 h).mono fun vx H1 ⟨io1, H01, S1, x, e1, R1, q1, h1⟩ => ?_⟩
  cases x with
  | exc c ks ds =>
    obtain ⟨a, dd, vs, rfl, ha, hl1, r, hx⟩ := q1.exc R1.st
    have h1 : Post X.K cl (rD X.K cl true) W io1 H01 H1 σ Q (if c ∈ cs then (match (ks.zip ds).lookup f with | some d => .ok d S1 | none => .bad) else .bad) := h1
    by_cases hm : c ∈ cs
    · rw [if_pos hm] at h1
      cases el : (ks.zip ds).lookup f with
      | none => rw [el] at h1; exact h1.elim
      | some d =>
        rw [el] at h1
        obtain ⟨v, hv, rv⟩ := lookup_zip2 (ks := ks) r el
        rcases hx with ⟨rfl, _⟩ | ⟨d', rfl, hd'⟩
        · cases el
        · exact ⟨a, cl c, d', _, v, rfl, ha, (hc _ hm).1, (hc _ hm).2, hd', hv, h1.done R1 (.inl rv)⟩
    · rw [if_neg hm] at h1
      exact h1.elim
  | _ => exact h1.elim
def spXI (C : Addr) (f : Str) : Sp := fun vs H Q _ => ∃ (a : Addr) (y : V), vs = [.ref a, y] ∧ H a = some (exo a C none) ∧ ∀ dx, H dx = none → dx ≠ a → Q .non (upd (upd H dx (exd dx [(f, y)])) a (exo a C (some dx)))
structure XInit (P : Program) (w : World) (K : PySem.W.Frag) (mg : Str → Option Value) (base : Heap) (x f : Str) (C : Addr) : Prop where
  ex : ∃ fI fd ps, OexC K C ∧ PySem.W.findIn K (.ref C) "__init__" = some (some (.ref fI)) ∧ PySem.W.typeIn K (.ref fI) = some (.type "function") ∧ mg x = some (.ref C) ∧ Binds K fd ps [] ∧ L2.FnOk P w K mg base (L2.CX P w) 1 fI fd ps (spXI C f)
def sRaise1 (c : Nat) (f : Str) (fa : Ex) : Sm := fun env S => (fa env S).bs env fun d S1 => .ok (.xc ⟨c, [(f, d)]⟩ env) S1
theorem s_raise1 {x f : Str} {c k : Nat} {p : Pos} (F : XInit X.prog X.w X.K X.mg X.base x f (cl c)) (hr : Room k X.A) (tk : Takes X W) (ha : ED X cl W true e fa) (hk : 2 ≤ k := by omega) (hc : X.calm = true := by rfl) (hg : Gl X x := by rfl) (hdb : (x == ("__debug__" : Str)) = false := by decide)
    (he : starEach [e] X.env = (false, eval e X.env) :: starEach [] X.env := by rfl) (hpl : (backTo pos (starEach [] X.env)).any (·.1) = false := by rfl) :
    SD X cl T W (.Raise (some (.Call (.Name x p) [e] [] pos)) none pos') (sRaise1 c f fa) := by
  obtain ⟨fI, fd, ps, T1, iC, tI, hm, hb, hF⟩ := F.ex
  refine weakS (ps_raise hc tk (pmk_oex T1 iC tI hF (hr.mono hk).toRoom hb .nil passL hg hm (pa_cons ha pa_nil he) hdb he hpl)) fun D σ H ⟨io, om, H0, env, S, R0, hp⟩ => ?_
  refine ⟨io, om, H0, env, S, R0.rel, (PostS.bind R0 hp).mono fun v H1 ⟨io1, H01, S1, d, x1, R1, q, h1⟩ => ?_⟩
  refine ⟨by simp, fun a na => ⟨a, v, rfl, upd_same, fun dx ndx ne => ⟨rfl, dx, [(f, v)], upd_same, ?_, ?_, ?_⟩⟩⟩
  · rw [upd_ne ne, upd_same]
  · rw [upd_ne ne] at ndx; exact ndx
  · have nd1 : H1 dx = none := by rw [upd_ne ne] at ndx; exact ndx
    have eq : upd (del (upd (upd (upd H1 a (exo a (cl c) none)) dx (exd dx [(f, v)])) a (exo a (cl c) (some dx))) a) dx (.xd [(f, v)]) = upd H1 dx (.xd [(f, v)]) := by
      funext b
      by_cases hb : b = dx
      · rw [hb, upd_same, upd_same]
      · rw [upd_ne hb, upd_ne hb]
        by_cases hba : b = a
        · rw [hba, del_same, na]
        · rw [del_ne hba, upd_ne hba, upd_ne hb, upd_ne hba]
    rw [eq]
    obtain ⟨st, x2⟩ := R1.rel.st.new0 nd1 (.xd [(f, v)])
    exact h1 io1 om _ _ _ (some dx) σ (R1.step x2 st) ⟨rfl, dx, [v], rfl, upd_same, RepL.cons (Rep.mono x2.pre x2.h0 _ _ q.perm) .nil⟩
end
/-- B.__init__(self, ..), B an own class over ValueError -/
theorem pe_xinit {X : Cx} {e : Expr} {es : List Expr} {B : Str} {CB : Addr} {mc : Value} {ta : TA} {p1 p2 pos : Pos} {pl : Sem Bool} (hg : Gl X B) (hm : X.mg B = some (.ref CB)) (r : ClX.CRead X.K CB mc) (fv : PySem.W.findCls X.K (.ref CB) mc "__init__" = some (.val (.builtin "ValueError.__init__"))) (ha : PA X (e :: es) ta)
    (hdb : (B == ("__debug__" : Str)) = false := by decide)
    (hc : eval (.Call (.Attribute (.Name B p1) "__init__" p2) (e :: es) [] pos) X.env = (do
      let ov ← eval (.Name B p1) X.env
      standAt p2.atName
      let (f, first) ← holding [ov] (getMethod ov "__init__" pl)
      callWith pos f first (backTo pos (starEach (e :: es) X.env)) (backToKw pos (keywordEach [] X.env))) := by rfl)
    (he : starEach (e :: es) X.env = (false, eval e X.env) :: starEach es X.env := by rfl) (hpl : (backTo pos (starEach es X.env)).any (·.1) = false := by rfl) :
    PE X (.Call (.Attribute (.Name B p1) "__init__" p2) (e :: es) [] pos) (tVeI X.K ta) := by
  refine ⟨fun pins s σ H Q I h => ?_⟩
  refine PySem.W.methodCall_KW (ld_glob I hg hm ?_ hdb) hc
  refine PySem.W.method_cls I.kIn r.ga ?_
  refine PySem.W.cls_value I.kIn r.rd fv (by rfl) ?_
  show wpAny _ _ (callWith pos (Value.builtin "ValueError.__init__") [] (backTo pos (starEach (e :: es) X.env)) []) _ _ _
  refine PyProof.Rows.callWith_method1 (thn (ha.run pos pins _ σ H _ (I.tok _) h) fun us s1 ⟨vs, H1, I1, r1, a, C, ws, ev, hl, T, ea, q⟩ => ?_) he hpl
  subst ev
  cases r1 with
  | @cons _ u0 _ ur ra rw' =>
    obtain rfl : u0 = Value.ref a := ra
    have hlen : ur.length ≤ sizeLine := by
      rw [← Paired.length rw', sizeLine_eq]
      omega
    exact oinit_ok T I1 ea hlen fun s' J => ⟨.non, H1, J, rfl, q⟩
/-- what the top has left of such a class -/
structure XiAt (K : PySem.W.Frag) (mg : Str → Option Value) (x B f : Str) (C : Addr) (qual : Str) (st : Stmt) : Prop where
  ex : ∃ fI fd CB, OexC K C ∧ PySem.W.findIn K (.ref C) "__init__" = some (some (.ref fI)) ∧ PySem.W.typeIn K (.ref fI) = some (.type "function") ∧ PySem.W.findIn K (.ref C) f = some none ∧ mg x = some (.ref C) ∧ Fun K "__init__" qual st fI fd ∧
    mg B = some (.ref CB) ∧ ClX.CRead K CB (.type "type") ∧ PySem.W.findCls K (.ref CB) (.type "type") "__init__" = some (.val (.builtin "ValueError.__init__"))
theorem xinit_of {P : Program} {w : World} {K : PySem.W.Frag} {mg : Str → Option Value} {base : Heap} {x B f a0 m qual : Str} {C : Addr} {st : Stmt} {j : Nat} {p1 p2 p3 p4 p5 p6 p7 p8 p9 p10 : Pos} (F : XiAt K mg x B f C qual st) (Sc : FnScope [a0, f] [a0, f] (defScope st))
    (hbind : ∀ (kV doc pm : Value) (an : Option Addr) (cdv ct : Value) (us : List Value), us.length = [a0, f].length → bindArgs (PySem.W.fnOf "__init__" qual (defArgs st) (defBody st) (defScope st) .none kV doc pm an cdv ct) ⟨us, []⟩ = Pure.pure ([a0, f].zip us))
    (hbd : defBody st = [.Expr (.Call (.Attribute (.Name B p1) "__init__" p2) [.Name a0 p3, .Constant (.str m) j p4] [] p5) p6, .Assign [.Attribute (.Name a0 p7) f p8] (.Name f p9) p10])
    (hpe : ∀ (fI : Addr) (cdv : Value) (A : Around) (outer : List PySem.Env) (s : Shared) (H : Hp) (E : XK) (CB : Addr), mg B = some (.ref CB) → ClX.CRead K CB (.type "type") → PySem.W.findCls K (.ref CB) (.type "type") "__init__" = some (.val (.builtin "ValueError.__init__")) →
      PSs (cxOf (L2.CX P w) P w K mg base [a0, f] qual (defScope st) fI cdv A outer s H E) (defBody st) (tSeq (tDrop (tVeI K (tCons (tVar 0) (tCons (tC (.str m)) tNil)))) (tOst K f (tVar 0) (tVar 1)))) :
    XInit P w K mg base x f C := by
  obtain ⟨fI, fd, CB, T, iC, tI, hno, hm, hF, mB, rB, fv⟩ := F.ex
  refine ⟨fI, fd, [a0, f], T, iC, tI, hm, hF.binds hbind, Fun.okX hF Sc (fun vs H Q E ⟨a, y, e, _⟩ => by rw [e]; rfl) fun cdv A outer s H vs Q E hr hsp => ⟨_, hpe fI cdv A outer s H E CB mB rB fv, ?_⟩⟩
  obtain ⟨a, y, rfl, ha, k⟩ := hsp
  refine ⟨_, rfl, a, C, _, rfl, by simp, T, ha, ?_⟩
  refine ⟨_, rfl, _, rfl, a, C, rfl, T, hno, .inl ⟨ha, fun dx nd ne => k dx nd ne⟩⟩
section
variable {K : PySem.W.Frag} {h : Heap} {mg : Str → Option Value}
theorem _root_.L2.ExcC.xf {C : Addr} (h : ExcC K C) : XfC K C := ⟨h.hg, h.hk, h.hs, h.hd⟩
theorem excAt_mk {x : Str} {C : Addr} (X : K.In h) (G : h.Ns mainGlobals mg) (a : PySem.W.nsIn K mainGlobals x = some (some (.ref C))) (kp : PySem.W.keepIn K (.ref C) = true) (sb : PySem.W.subIn K (.ref C) (.type "BaseException") = some true) (ty : PySem.W.typeIn K (.ref C) = some (.type "type")) : ExcAt K mg x C := ⟨PySem.W.mg_of X G a, kp, sb, ty⟩
theorem exm_mk {D C : Addr} {b : Bool} (h1 : PySem.W.subIn K (.ref C) (.type "BaseException") = some true) (hd : PySem.W.hasDictIn K C = true) (ty : PySem.W.typeIn K (.ref C) = some (.type "type")) (h4 : PySem.W.subIn K (.ref D) (.ref C) = some b) : PySem.W.exmOne K (.ref D) (.ref C) = some b := PySem.W.exm_ref h1 hd ty h4
theorem excC_mk {D : Addr} (hg : PySem.W.findIn K (.ref D) "__getattribute__" = some (some (.builtin "BaseException.__getattribute__"))) (hk : PySem.W.findIn K (.ref D) "__getattr__" = some none) (hs : PySem.W.subIn K (.ref D) (.type "BaseException") = some true) (hd : PySem.W.hasDictIn K D = true)
    (ha : PySem.W.findIn K (.ref D) "__class__" = some (some (.builtin "object.__class__"))) (hn : PySem.W.specialIn K (.builtin "object.__class__") "__get__" = some (some (.builtin "getset_descriptor.__get__"))) (ht : PySem.W.takesIn K (.builtin "object.__class__") = some true) (hm : PySem.W.mroIn K D (.type "object") = some true) : ExcC K D := ⟨hg, hk, hs, hd, ha, hn, ht, hm⟩
theorem xiAt_mk {x B f qual nm qn : Str} {C N CB fI : Addr} {st : Stmt} {bs bm sub : List Value} {sn : List Str} {ab : Bool} {col : Option Bool} {dd : Option Addr} {k0 k1 k2 k3 k5 : Option Value} {oc kV dc pm cd ct : Value} {od an : Option Addr} {sl : Array (Option Value)}
    (X : K.In h) (G : h.Ns mainGlobals mg) (hC : K.lookup C = some (excClassObj nm qn C N bs bm true sn sub ab col dd k0 k1 k2 k3 k5 "ValueError.__new__")) (hb : PySem.HandSPX.refsVE bm = true)
    (sa : PySem.W.findIn K (.ref C) "__setattr__" = some (some (.builtin "object.__setattr__"))) (exC : PySem.W.subIn K (.ref C) (.type "BaseException") = some true) (tyC : PySem.W.typeIn K (.ref C) = some (.type "type")) (kC : PySem.W.keepIn K (.ref C) = true)
    (iC : PySem.W.findIn K (.ref C) "__init__" = some (some (.ref fI))) (tI : PySem.W.typeIn K (.ref fI) = some (.type "function")) (hno : PySem.W.findIn K (.ref C) f = some none) (aC : PySem.W.nsIn K mainGlobals x = some (some (.ref C)))
    (l : K.lookup fI = some ⟨oc, od, .func (PySem.W.fnOf "__init__" qual (defArgs st) (defBody st) (defScope st) .none kV dc pm an cd ct), sl⟩) (c : PySem.W.codeIn K cd qual = true) (k : PySem.W.keepIn K (.ref fI) = true)
    (aB : PySem.W.nsIn K mainGlobals B = some (some (.ref CB))) (rd : PySem.W.readsIn K CB (.type "type") = true) (ga : PySem.W.specialIn K (.ref CB) "__getattribute__" = some (some (.builtin "type.__getattribute__"))) (fv : PySem.W.findCls K (.ref CB) (.type "type") "__init__" = some (.val (.builtin "ValueError.__init__"))) :
    XiAt K mg x B f C qual st :=
  ⟨fI, _, CB, ⟨⟨nm, qn, N, bs, bm, sn, sub, ab, col, dd, k0, k1, k2, k3, k5, hC, hb⟩, sa, exC, tyC, kC⟩, iC, tI, hno, PySem.W.mg_of X G aC, fun_mk l c k, PySem.W.mg_of X G aB, ⟨rd, ga⟩, fv⟩
end
end G

namespace G
open PySem PySem.Spec PyProof.Rows L2
section
variable {X : Cx} {pins : List (Addr × Obj)} {σ : L2.St} {H : Hp} {s : Shared}
end
def eExc0 (c : Nat) (fa : Ex) : Ex := fun env S => (fa env S).bind fun _ S1 => .ok (.exc c [] []) S1
def eExc1 (c : Nat) (f : Str) (fa : Ex) : Ex := fun env S => (fa env S).bind fun d S1 => .ok (.exc c [f] [d]) S1
section
variable {X : Cx} {cl : Nat → Addr} {W : WX} {e a : Expr} {fa : Ex} {p1 : Bool} {q pos : Pos}
def tXV (C : Addr) (f : Str) (te : TE) : TE := fun σ H Q => te σ H fun y H1 => ∀ a d, H1 a = none → H1 d = none → d ≠ a → Q (.ref a) (upd (upd H1 d (.xd [(f, y)])) a (exr C (some d) a))
def rIsV (K : PySem.W.Frag) : List V → Hp → VK → Prop := fun xs H Q => ∃ (a D : Addr) (T : String) (dd : Option Addr) (b : Bool), xs = [.ref a, .ty T] ∧ H a = some (exr D dd a) ∧ dOk H dd ∧ ExcC K D ∧ PySem.W.kitOne K (.ref D) (.type T) = some b ∧ Q (.bl b) H
end
end G

namespace G
open PySem PySem.Spec PyProof.Rows L2
def inDc (neg : Bool) (x y : D) (S : Sto) : R D := match y with
  | .obj n => (match S[n]?, keyD x with
    | some (.dict kvs), some k => .ok (.bl (neg ^^ (look kvs k).isSome)) S
    | _, _ => .bad)
  | _ => .bad
section
variable {X : Cx} {cl : Nat → Addr} {W : WX} {e a b : Expr} {es : List Expr} {fa fb : Ex} {fs : Sem1 (List D)} {p1 p2 : Bool} {q pos : Pos} {K : PySem.W.Frag} {io : List Addr} {H0 H : Hp} {S : Sto} {σ : L2.St} {Q : VK}
open Classical in
noncomputable def scopeR (S1 : Sto) (r : R D) : R D := match r with
  | .ok d S2 => if S2.take S1.length = S1 ∧ scp S1.length d = true then .ok d S1 else .bad
  | _ => .bad
noncomputable def eFnS (n : Nat) (sem : FnSem) (fs : Sem1 (List D)) : Ex := fun env S => (fs env S).bind fun ds S1 => if ds.length = n then scopeR S1 (sem ds S1) else .bad
theorem StR.scope {io2 : List Addr} {H02 H2 : Hp} {S2 : Sto} (st : StR K cl io H0 H S) (hp : Pre io io2) (h0 : Same H0 H02) (st2 : StR K cl io2 H02 H2 S2) (ht : S2.take S.length = S) : StR K cl io H02 H2 S :=
  ⟨st2.sub, st.len, fun n a e => st2.out n a (hp n a e), fun n m a e1 e2 => st.inj n m a e1 e2, fun n a o e1 e2 => by
    have hn : n < S.length := (List.getElem?_eq_some_iff.mp e2).1
    have e3 : S2[n]? = some o := by rw [← ht, List.getElem?_take_of_lt hn] at e2; exact e2
    exact RepO.narrow hp (.refl _) (by have := (st.ob n a o e1 e2).scpO; exact this) (st2.ob n a o (hp n a e1) e3)⟩
theorem Post.scope {d : D} {S2 : Sto} (st : StR K cl io H0 H S) (ht : S2.take S.length = S) (hd : scp S.length d = true) (h : Post K cl (rD K cl true) W io H0 H σ Q (.ok d S)) : Post K cl (rD K cl true) W io H0 H σ Q (.ok d S2) :=
  fun io2 H02 H2 v x st2 r => h io H02 H2 v ⟨.refl _, fun _ m => .inl m, x.h0, x.h0n, x.keep, x.dom⟩ (st.scope x.pre x.h0 st2 ht) (.inl (Rep.narrow x.pre (by rw [st.len]; exact hd) r.perm))
end
end G

namespace G
open PySem PySem.Spec PyProof.Rows L2
def eObj (f : Sem1 (List D)) : Ex := fun env S => (f env S).bind fun ds S1 => .ok (.obj S1.length) (S1 ++ [.lst ds])
/-- what a list of the store holds -/
def lstO (o : D) (S : Sto) : Option (Nat × List D) := match o with
  | .obj n => (match S[n]? with
    | some (.lst ds) => some (n, ds)
    | _ => none)
  | _ => none
def eLenO (fo : Ex) : Ex := fun env S => (fo env S).bind fun o S1 => match lstO o S1 with
  | some (_, ds) => .ok (.int ds.length) S1
  | none => .bad
def eIxO (fo fi : Ex) : Ex := fun env S => (fo env S).bind fun o S1 => (fi env S1).bind fun i S2 => match lstO o S2, i with
  | some (_, ds), .int i => opt (atI ds i) id S2
  | _, _ => .bad
def sAppO (fo fa : Ex) : Sm := fun env S => (fo env S).bs env fun o S1 => match lstO o S1 with
  | some _ => (fa env S1).bs env fun d S2 => (match lstO o S2 with
    | some (n, ds) => if ds.length < sizeLine then .ok (.nx env) (S2.set n (.lst (ds ++ [d]))) else .bad
    | none => .bad)
  | none => .bad
def sPutL (fo fi fv : Ex) : Sm := fun env S => (fv env S).bs env fun v S1 => (fo env S1).bs env fun o S2 => (fi env S2).bs env fun i S3 => match lstO o S3 with
  | some (n, ds) => (match hSet i v ds with
    | some es => .ok (.nx env) (S3.set n (.lst es))
    | none => .bad)
  | none => .bad
/-- a comprehension over a list of the store, that is held still -/
noncomputable def nLcO (bs : List Bool) (f : Sem1 (List D)) (tg : Tg) (c : Sem1 Bool) (elt : Ex) (vs : List Nat) : Sem1 (List D) := fun env S => (f env S).bind fun os S1 => match os with
  | [o] => (match lstO o S1 with
    | some (n, ds) => if okL ds.length = true ∧ scpL 0 ds = true then (match lcL tg c elt (wipeE (envB bs env) vs) (enumD ds) [] with
      | .ok ys _ => if nolL ys = true then .ok ys S1 else .bad
      | _ => .bad) else .bad
    | none => .bad)
  | _ => .bad
section
variable {X : Cx} {cl : Nat → Addr} {W : WX} {T : Ent} {e a b c : Expr} {pos q : Pos} {fa fb fc : Ex} {p1 p2 : Bool}
end
def rangeDn (hi lo : Int) : List D := (List.range (hi - lo).toNat).map fun k => D.int (hi - (k : Nat))
def iRngD (f g h : Ex) : Sem1 (List D) := fun env S => (f env S).bind fun d S1 => (g env S1).bind fun e S2 => (h env S2).bind fun c S3 => match d, e, c with
  | .int i, .int j, .int c => if c = -1 ∧ ok62 i = true ∧ ok62 j = true then .ok (rangeDn i j) S3 else .bad
  | _, _, _ => .bad
section
variable {X : Cx} {cl : Nat → Addr} {W : WX} {a b c tg : Expr} {pos q : Pos} {fa fb fc : Ex} {p1 p2 p3 : Bool} {K : PySem.W.Frag} {io : List Addr} {H0 : Hp}
end
def rCountF (K : PySem.W.Frag) : V → List V → Hp → VK → Prop := fun x xs H Q => ∃ (p : Addr) (ys : List V) (y : V), x = .ref p ∧ xs = [y] ∧ SqL K H p ys ∧ flatV y = true ∧ ys.all flatV = true ∧ Q (.int ((ys.countP fun v => eqV v y : Nat))) H
def eCnt (fo : Ex) (fs : Sem1 (List D)) : Ex := fun env S => (fo env S).bind fun x S1 => match x with
  | .lst ds => (fs env S1).bind fun ys S2 => (match ys with
    | [y] => if flat y && ds.all flat then .ok (.int ((ds.countP fun d => feq d y : Nat))) S2 else .bad
    | _ => .bad)
  | _ => .bad
section
variable {X : Cx} {cl : Nat → Addr} {W : WX} {o e : Expr} {apos pos : Pos} {fo : Ex} {fs : Sem1 (List D)} {p1 p2 : Bool}
end
end G

namespace G
open PySem PySem.Spec PyProof.Rows L2
def sTry (l : List (Nat × Bool)) (body suite : Sm) : Sm := fun env S => (body env S).bind fun fl S1 => match fl with
  | .xc e env1 => (match catchD l e.c with
    | some true => (suite env1 S1).bind fun fl2 S2 => (match fl2 with
      | .xc _ _ => .bad
      | fl2 => .ok fl2 S2)
    | some false => .ok (.xc e env1) S1
    | none => .bad)
  | fl => .ok fl S1
def pIntS : List D → Sto → R D
  | [.str x], S => if x.length ≤ 640 then opt (PySem.intText? x) .int S else .bad
  | _, _ => .bad
def eZfill (fo : Ex) (fs : Sem1 (List D)) : Ex := fun env S => (fo env S).bind fun x S1 => match x with
  | .str x => (fs env S1).bind fun ys S2 => (match ys with
    | [.int i] => if PadOk i = true then .ok (.str (Txt.zfill x i)) S2 else .bad
    | _ => .bad)
  | _ => .bad
section
variable {X : Cx} {cl : Nat → Addr} {W : WX} {T : Ent} {K : PySem.W.Frag} {io : List Addr} {om : Own} {H0 H : Hp} {env : Env} {S : Sto} {σ : L2.St} {g h : Sm} {q apos pos pos' : Pos} {o e : Expr} {es : List Expr} {fo : Ex} {fs : Sem1 (List D)} {p1 p2 : Bool}
theorem s_try {l : List (Nat × Bool)} {x : Str} {C : Addr} {body suite : List Stmt} {b₀ : Stmt} {np : Pos} (hm : X.mg x = some (.ref C)) (hl : ∀ p ∈ l, PySem.W.exmOne X.K (.ref (cl p.1)) (.ref C) = some p.2) (tk : Takes X W)
    (hb : ∀ (W : WX) (pn : List (Addr × Obj)) (xe : Value → Shared → Prop), Takes (X.tr pn xe) W → PassesOwn (model X.prog X.w) X.A X.env xe → SsD (X.tr pn xe) cl T W body g)
    (hsu : ∀ (a : Addr) (pn : List (Addr × Obj)), SsD (X.suite a pn) cl T WF (b₀ :: suite) h)
    (hs : X.stack = X.env :: X.outer := by rfl) (hf : X.env.frame = some X.env.locals := by rfl) (hg : Gl X x := by rfl) (hdb : (x == ("__debug__" : Str)) = false := by decide) :
    SD X cl T W (.Try body [.ExceptHandler (some (.Name x np)) none (b₀ :: suite) pos'] [] [] pos) (sTry l g h) := by
  refine weakS (ps_try_only hs hf ⟨hg, hdb, .inl hm⟩ tk (tb := fun W => tS X.K cl T W g) hb (ts := fun _ _ _ => tS X.K cl T WF h) (fun a oe cls d pn _ _ => hsu a _)) fun D σ H ⟨io, om, H0, env, S, R0, hp⟩ => ⟨io, om, H0, env, S, R0, ?_⟩
  unfold sTry at hp
  cases e1 : g env S with
  | bad => rw [e1] at hp; exact hp
  | exc e S1 => rw [e1] at hp; exact hp
  | ok fl S1 =>
    rw [e1] at hp
    cases fl with
    | nx _ => exact hp
    | rt _ => exact hp
    | bk _ => exact hp
    | ct _ => exact hp
    | ro _ => exact hp
    | xc e env1 =>
      intro io1 om1 H01 H1 c dd σ1 R1 rx
      have ec := rx.1
      subst ec
      have hp : PostS X.K cl T W D (match catchD l e.c with
        | some true => (h env1 S1).bind fun fl2 S2 => (match fl2 with
          | .xc _ _ => .bad
          | fl2 => .ok fl2 S2)
        | some false => .ok (.xc e env1) S1
        | none => .bad) := hp
      cases ec : catchD l e.c with
      | none => rw [ec] at hp; exact hp.elim
      | some b =>
        rw [ec] at hp
        refine ⟨b, hl _ (catchD_mem ec), fun hb => ?_, fun hb => ?_⟩
        · subst hb
          refine fun a na => ⟨io1, om1, H01, env1, S1, R1, ?_⟩
          cases e2 : h env1 S1 with
          | bad => rw [e2] at hp; exact hp
          | exc e S1 => rw [e2] at hp; exact hp
          | ok fl2 S2 =>
            rw [e2] at hp
            cases fl2 with
            | xc _ _ => exact hp.elim
            | _ => exact hp
        · subst hb
          exact hp io1 om1 H01 H1 _ dd σ1 R1 rx
theorem c_intS : Cal X cl (fun xs H Q => ∃ a n, xs = [V.str a] ∧ PySem.intText? a = some n ∧ a.length ≤ 640 ∧ Q (.int n) H) pIntS := by
  intro W io om H0 H env S σ Q p ds vs R0 r h
  unfold pIntS at h
  split at h
  · split at h
    · obtain ⟨v, rfl, q⟩ := rL_one r
      obtain ⟨n, e, h⟩ := opt_post h
      exact ⟨_, n, by rw [q.str], e, by assumption, h.done R0 (.inl rfl)⟩
    · exact h.elim
  · exact h.elim
theorem d_intS (ha : AD X cl W p1 (e :: es) fs) (hm : X.mg "int" = none) (hg : Gl X "int" := by rfl) (he : starEach (e :: es) X.env = (false, eval e X.env) :: starEach es X.env := by rfl) (hpl : (backTo pos (starEach es X.env)).any (·.1) = false := by rfl) : ED X cl W true (.Call (.Name "int" q) (e :: es) [] pos) (eCall pIntS fs) := d_callTy call_int_str c_intS ha hm hg (by decide +kernel) (by decide) (by decide) he hpl
theorem d_zfill (ho : ED X cl W p2 o fo) (ha : AD X cl W p1 [e] fs) (hs : starEach [e] X.env = [(false, eval e X.env)] := by rfl)
    (hbase : attributeBase o "zfill" X.env (eval o X.env) = eval o X.env := by rfl)
    (hfew : ((backTo pos (starEach [e] X.env)).all (fun x => !x.1) && (backToKw pos (keywordEach [] X.env)).all (fun x => x.1.isSome)
      && decide ((e :: []).length + ([] : List Keyword).length + (if ([] : List Keyword).isEmpty then 0 else 1) < 30)) = true := by rfl)
    (hline : (apos.endLine == pos.line) = true := by rfl) :
    ED X cl W true (.Call (.Attribute o "zfill" apos) [e] [] pos) (eZfill fo fs) := by
  refine weakE (pe_bm PySem.F.plainAttrs_str PySem.F.slot_str_zfill PySem.F.type_str_zfill mt_zfill ho ha hbase hfew hline hs (by rfl)) fun σ H Q ⟨io, om, H0, env, S, R0, h⟩ => ?_
  refine ⟨io, om, H0, env, S, R0, (Post.bind (rp := rD X.K cl p2) R0 h).mono fun vx H1 ⟨io1, H01, S1, x, e1, R1, q1, h1⟩ => ?_⟩
  cases x with
  | str x =>
    rw [q1.str]
    refine ⟨?_, io1, om, H01, env, S1, R1, (Post.bind (rp := rL X.K cl p1) R1 h1).mono fun vy H2 ⟨io2, H02, S2, ys, e2, R2, q2, h2⟩ => ?_⟩
    · first | exact .inr ⟨rfl, _, rfl⟩ | exact .inr (.inl ⟨rfl, _, rfl⟩) | exact .inr (.inr ⟨rfl, _, rfl⟩) | simp [tyV]
    · split at h2
      · rename_i i
        obtain ⟨v, rfl, q⟩ := rL_one q2
        split at h2
        · exact ⟨x, i, rfl, by rw [q.int], by assumption, h2.done R2 (.inl rfl)⟩
        · exact h2.elim
      · exact h2.elim
  | _ => exact h1.elim
end
def KTup (K : PySem.W.Frag) (mg : Str → Option Value) (x : Str) (ys : List Str) : Prop := ∃ (p : Addr) (o : Obj) (its : Array Value) (n : Nat), mg x = some (.ref p) ∧ K.lookup p = some o ∧ o.cls = .type "tuple" ∧ o.dict = none ∧ o.data = .seq its n ∧ its.size ≤ sizeLine ∧ Vals (ys.map V.str) its.toList
def eIdxC (ys : List Str) (fa : Ex) : Ex := fun env S => (fa env S).bind fun d S1 => match d with
  | .str z => opt (ys.findIdx? fun y => y == z) (fun j => .int (j : Nat)) S1
  | _ => .bad
section
variable {X : Cx} {cl : Nat → Addr} {W : WX} {e : Expr} {q apos pos : Pos} {fa : Ex} {p1 : Bool} {x : Str} {ys : List Str}
end
end G
noncomputable section
namespace G
open PySem PySem.Spec PyProof.Rows L2
def fuel : Nat := 1000000
def k_FIRST_YEAR : D := .int 2001
def k_LENGTHS : D := .tup [.int 31, .int 28, .int 31, .int 30, .int 31, .int 30, .int 31, .int 31, .int 30, .int 31, .int 30, .int 31]
def k_LAST_DAY_v2 : D := .int 99999
def k_FIGURES : D := .str "0123456789"
def k_DAY_MINUTES : D := .int 1440
def k_MOST_TURNS : D := .int 40
def k_LAST_MOMENT : D := .int 143999999
def k_FAR : D := .int 840
def k_LAST_DAY : D := .int 99990
def k_FIRST_DAY : D := .int 2
def k_LONGEST : D := .int 1440
def k_LONGEST_WORD : D := .int 8
def k_LETTERS : D := .str "abcdefghijklmnopqrstuvwxyz"
def k_MOST_CHANGES : D := .int 100
def M.b_is_whole : Sm :=
  (sRet (eAnd (eIsi .int (eVar 0)) (eAnd (eNot (eIsi .bool (eVar 0))) (eChain cLe cLe (eVar 1) (eVar 0) (eVar 2)))))
def M.is_whole : FnSem := runF 3 M.b_is_whole
def M.b_is_leap : Sm :=
  (sRet (eAnd (eBin cEq (eBin opMod (eVar 0) (eC (.int 4))) (eC (.int 0))) (eOr (eBin cNe (eBin opMod (eVar 0) (eC (.int 100))) (eC (.int 0))) (eBin cEq (eBin opMod (eVar 0) (eC (.int 400))) (eC (.int 0))))))
def M.is_leap : FnSem := runF 1 M.b_is_leap
def M.b_days_ahead : Sm :=
  (sSeq (sSet 1 (eBin opSub (eVar 0) (eC k_FIRST_YEAR)))
  (sSeq (sSet 2 (eBin opSub (eVar 0) (eC (.int 1))))
  (sSeq (sSet 3 (eBin opSub (eBin opAdd (eBin opSub (eBin opFdiv (eVar 2) (eC (.int 4))) (eBin opFdiv (eVar 2) (eC (.int 100)))) (eBin opFdiv (eVar 2) (eC (.int 400)))) (eC (.int 485))))
  (sRet (eBin opAdd (eBin opMul (eC (.int 365)) (eVar 1)) (eVar 3))))))
def M.days_ahead : FnSem := runF 4 M.b_days_ahead
def M.b_month_length : Sm :=
  (sSeq (sTg (eCall pDivmod (aCons (eVar 0) (aCons (eC (.int 12)) aNil))) (gT [(gN 1), (gN 2)]))
  (sSeq (sIf (tAnd (tVal (eBin cEq (eVar 2) (eC (.int 1)))) (tVal (eFn 1 M.is_leap (aCons (eBin opAdd (eC k_FIRST_YEAR) (eVar 1)) aNil)))) (sRet (eC (.int 29))) sNil)
  (sRet (eBin opIx (eC k_LENGTHS) (eVar 2)))))
def M.month_length : FnSem := runF 3 M.b_month_length
def M.b_first_of : Sm :=
  (sSeq (sTg (eCall pDivmod (aCons (eVar 0) (aCons (eC (.int 12)) aNil))) (gT [(gN 1), (gN 2)]))
  (sSeq (sSet 3 (eFn 1 M.days_ahead (aCons (eBin opAdd (eC k_FIRST_YEAR) (eVar 1)) aNil)))
  (sSeq (sFor (iRng1 (eVar 2)) (gN 4) (sSet 3 (eBin opAdd (eVar 3) (eFn 1 M.month_length (aCons (eBin opAdd (eBin opMul (eC (.int 12)) (eVar 1)) (eVar 4)) aNil)))))
  (sRet (eVar 3)))))
def M.first_of : FnSem := runF 5 M.b_first_of
def M.b_month_of : Sm :=
  (sSeq (sSet 1 (eBin opAdd (eC k_FIRST_YEAR) (eBin opFdiv (eVar 0) (eC (.int 366)))))
  (sSeq (sWhile fuel (tVal (eBin cLe (eFn 1 M.days_ahead (aCons (eBin opAdd (eVar 1) (eC (.int 1))) aNil)) (eVar 0))) (sSet 1 (eBin opAdd (eVar 1) (eC (.int 1)))))
  (sSeq (sSet 2 (eBin opMul (eC (.int 12)) (eBin opSub (eVar 1) (eC k_FIRST_YEAR))))
  (sSeq (sSet 3 (eBin opSub (eVar 0) (eFn 1 M.days_ahead (aCons (eVar 1) aNil))))
  (sSeq (sWhile fuel (tVal (eBin cGe (eVar 3) (eFn 1 M.month_length (aCons (eVar 2) aNil)))) (sSeq (sSet 3 (eBin opSub (eVar 3) (eFn 1 M.month_length (aCons (eVar 2) aNil))))
  (sSet 2 (eBin opAdd (eVar 2) (eC (.int 1))))))
  (sRet (eVar 2)))))))
def M.month_of : FnSem := runF 4 M.b_month_of
def M.b_date_of : Sm :=
  (sSeq (sSet 1 (eFn 1 M.month_of (aCons (eVar 0) aNil)))
  (sRet (eTup (aCons (eBin opAdd (eC k_FIRST_YEAR) (eBin opFdiv (eVar 1) (eC (.int 12)))) (aCons (eBin opAdd (eBin opMod (eVar 1) (eC (.int 12))) (eC (.int 1))) (aCons (eBin opAdd (eBin opSub (eVar 0) (eFn 1 M.first_of (aCons (eVar 1) aNil))) (eC (.int 1))) aNil))))))
def M.date_of : FnSem := runF 2 M.b_date_of
def M.b_day_of : Sm :=
  (sSeq (sIf (tOr (tNot (tVal (eIsi .tuple (eVar 0)))) (tVal (eBin cNe (eCall pLen (aCons (eVar 0) aNil)) (eC (.int 3))))) (sRaise 21) sNil)
  (sSeq (sTg (eVar 0) (gT [(gN 1), (gN 2), (gN 3)]))
  (sSeq (sIf (tOr (tNot (tVal (eFn 3 M.is_whole (aCons (eVar 1) (aCons (eC k_FIRST_YEAR) (aCons (eC (.int 2274)) aNil)))))) (tOr (tNot (tVal (eFn 3 M.is_whole (aCons (eVar 2) (aCons (eC (.int 1)) (aCons (eC (.int 12)) aNil)))))) (tNot (tVal (eFn 3 M.is_whole (aCons (eVar 3) (aCons (eC (.int 1)) (aCons (eC (.int 31)) aNil)))))))) (sRaise 21) sNil)
  (sSeq (sSet 4 (eBin opSub (eBin opAdd (eBin opMul (eC (.int 12)) (eBin opSub (eVar 1) (eC k_FIRST_YEAR))) (eVar 2)) (eC (.int 1))))
  (sSeq (sSet 5 (eBin opSub (eBin opAdd (eFn 1 M.first_of (aCons (eVar 4) aNil)) (eVar 3)) (eC (.int 1))))
  (sSeq (sIf (tOr (tVal (eBin cGt (eVar 3) (eFn 1 M.month_length (aCons (eVar 4) aNil)))) (tVal (eBin cGt (eVar 5) (eC k_LAST_DAY_v2)))) (sRaise 21) sNil)
  (sRet (eVar 5))))))))
def M.day_of : FnSem := runF 6 M.b_day_of
def M.b_weekday : Sm :=
  (sRet (eBin opMod (eVar 0) (eC (.int 7))))
def M.weekday : FnSem := runF 1 M.b_weekday
def M.b_law_tape : Sm :=
  (sRet (eDict [((eC (.str "cells")), (eSl (eVar 0) oNone (oSome (eC (.int 63))))), ((eC (.str "spot")), (eC (.int 0))), ((eC (.str "left")), (eC (.int 0)))]))
def M.law_tape : FnSem := runF 1 M.b_law_tape
def M.b_law_draw (self : FnSem) : Sm :=
  (sSeq (sIf (tVal (eBin cGt (eBin opGet (eVar 0) (eC (.str "left"))) (eC (.int 0)))) (sSeq (sSet 8 (eBin opMod (eBin opGet (eVar 0) (eC (.str "left"))) (eVar 1)))
  (sSeq (sPut (eVar 0) (eC (.str "left")) (eBin opFdiv (eBin opGet (eVar 0) (eC (.str "left"))) (eVar 1)))
  (sRet (eVar 8)))) sNil)
  (sSeq (sSet 2 (eBin opGet (eVar 0) (eC (.str "spot"))))
  (sSeq (sPut (eVar 0) (eC (.str "spot")) (eBin opAdd (eVar 2) (eC (.int 1))))
  (sSeq (sSet 3 (eOr (eBin opGet (eVar 0) (eC (.str "cells"))) (eFrz (nLst (aCons (eC (.int 0)) aNil)))))
  (sSeq (sSet 4 (eBin opIx (eVar 3) (eBin opMod (eVar 2) (eCall pLen (aCons (eVar 3) aNil)))))
  (sSeq (sIf (tAnd (tVal (eBin cGe (eVar 4) (eBin opPow (eC (.int 10)) (eC (.int 18))))) (tVal (eBin cLt (eVar 2) (eCall pLen (aCons (eVar 3) aNil))))) (sSeq (sPut (eVar 0) (eC (.str "left")) (eBin opFdiv (eBin opSub (eVar 4) (eBin opPow (eC (.int 10)) (eC (.int 18)))) (eVar 1)))
  (sRet (eBin opMod (eBin opSub (eVar 4) (eBin opPow (eC (.int 10)) (eC (.int 18)))) (eVar 1)))) sNil)
  (sSeq (sSet 5 (eFrz (nLst (aCons (eC (.int 2147483647)) (aCons (eC (.int 2147483629)) (aCons (eC (.int 2147483587)) (aCons (eC (.int 2147483579)) (aCons (eC (.int 2147483563)) (aCons (eC (.int 2147483549)) (aCons (eC (.int 2147483543)) aNil))))))))))
  (sSeq (sSet 6 (eBin opIx (eVar 5) (eBin opMod (eVar 2) (eC (.int 7)))))
  (sSeq (sSet 7 (eBin opMod (eBin opAdd (eBin opAdd (eBin opAdd (eBin opMul (eBin opMod (eVar 4) (eVar 6)) (eC (.int 48271))) (eBin opMul (eBin opMul (eC (.int 7919)) (eVar 2)) (eVar 2))) (eBin opMul (eC (.int 69621)) (eVar 2))) (eC (.int 1))) (eVar 6)))
  (sSeq (sSet 7 (eBin opMod (eBin opMul (eVar 7) (eBin opAdd (eVar 7) (eC (.int 16807)))) (eBin opIx (eVar 5) (eBin opMod (eBin opAdd (eVar 2) (eC (.int 3))) (eC (.int 7))))))
  (sSeq (sSet 8 (eBin opFdiv (eBin opMod (eBin opMul (eVar 7) (eVar 7)) (eVar 6)) (eC (.int 64))))
  (sSeq (sIf (tVal (eBin cGt (eVar 1) (eBin opPow (eC (.int 10)) (eC (.int 6))))) (sSet 8 (eBin opAdd (eBin opMod (eVar 8) (eBin opPow (eC (.int 10)) (eC (.int 6)))) (eBin opMul (eBin opPow (eC (.int 10)) (eC (.int 6))) (eFn 2 self (aCons (eVar 0) (aCons (eBin opAdd (eBin opFdiv (eVar 1) (eBin opPow (eC (.int 10)) (eC (.int 6)))) (eC (.int 1))) aNil)))))) sNil)
  (sRet (eBin opMod (eVar 8) (eVar 1)))))))))))))))
def M.law_draw : Nat → FnSem
  | 0 => fun _ _ => .bad
  | k + 1 => runF 9 (M.b_law_draw (M.law_draw k))
def M.b_law_month_days : Sm :=
  (sSeq (sIf (tVal (eBin cEq (eVar 1) (eC (.int 2)))) (sRet (eBin opAdd (eC (.int 28)) (eCall pInt (aCons (eAnd (eBin cEq (eBin opMod (eVar 0) (eC (.int 4))) (eC (.int 0))) (eOr (eBin cGt (eBin opMod (eVar 0) (eC (.int 100))) (eC (.int 0))) (eBin cEq (eBin opMod (eVar 0) (eC (.int 400))) (eC (.int 0))))) aNil)))) sNil)
  (sRet (eBin opAdd (eC (.int 30)) (eCall pInt (aCons (eBin cIn (eVar 1) (eTup (aCons (eC (.int 1)) (aCons (eC (.int 3)) (aCons (eC (.int 5)) (aCons (eC (.int 7)) (aCons (eC (.int 8)) (aCons (eC (.int 10)) (aCons (eC (.int 12)) aNil))))))))) aNil)))))
def M.law_month_days : FnSem := runF 2 M.b_law_month_days
def M.b_law_day_v2 : Sm :=
  (sSeq (sSet 3 (eBin opSub (eVar 0) (eCall pInt (aCons (eBin cLt (eVar 1) (eC (.int 3))) aNil))))
  (sSeq (sSet 4 (eBin opMod (eBin opAdd (eVar 1) (eC (.int 9))) (eC (.int 12))))
  (sSeq (sSet 5 (eBin opSub (eBin opAdd (eBin opAdd (eBin opAdd (eBin opSub (eBin opAdd (eBin opMul (eC (.int 365)) (eVar 3)) (eBin opFdiv (eVar 3) (eC (.int 4)))) (eBin opFdiv (eVar 3) (eC (.int 100)))) (eBin opFdiv (eVar 3) (eC (.int 400)))) (eBin opFdiv (eBin opAdd (eBin opMul (eC (.int 153)) (eVar 4)) (eC (.int 2))) (eC (.int 5)))) (eVar 2)) (eC (.int 1))))
  (sRet (eBin opSub (eVar 5) (eC (.int 730791)))))))
def M.law_day_v2 : FnSem := runF 6 M.b_law_day_v2
def M.b_law_any_date : Sm :=
  (sSeq (sSet 1 (eFrz (nLst (aCons (eBin opAdd (eC (.int 2001)) (eFn 2 (M.law_draw 20) (aCons (eVar 0) (aCons (eC (.int 273)) aNil)))) (aCons (eBin opAdd (eC (.int 2001)) (eFn 2 (M.law_draw 20) (aCons (eVar 0) (aCons (eC (.int 40)) aNil)))) (aCons (eBin opIx (eFrz (nLst (aCons (eC (.int 2100)) (aCons (eC (.int 2200)) (aCons (eC (.int 2004)) (aCons (eC (.int 2099)) (aCons (eC (.int 2096)) aNil))))))) (eFn 2 (M.law_draw 20) (aCons (eVar 0) (aCons (eC (.int 5)) aNil)))) aNil))))))
  (sSeq (sSet 1 (eBin opIx (eVar 1) (eFn 2 (M.law_draw 20) (aCons (eVar 0) (aCons (eC (.int 3)) aNil)))))
  (sSeq (sSet 2 (eBin opIx (eFrz (nLst (aCons (eBin opAdd (eC (.int 1)) (eFn 2 (M.law_draw 20) (aCons (eVar 0) (aCons (eC (.int 12)) aNil)))) (aCons (eC (.int 2)) (aCons (eC (.int 2)) aNil))))) (eFn 2 (M.law_draw 20) (aCons (eVar 0) (aCons (eC (.int 3)) aNil)))))
  (sSeq (sSet 3 (eFn 2 M.law_month_days (aCons (eVar 1) (aCons (eVar 2) aNil))))
  (sRet (eTup (aCons (eVar 1) (aCons (eVar 2) (aCons (eBin opIx (eFrz (nLst (aCons (eBin opAdd (eC (.int 1)) (eFn 2 (M.law_draw 20) (aCons (eVar 0) (aCons (eVar 3) aNil)))) (aCons (eVar 3) (aCons (eC (.int 1)) (aCons (eCall pMax (aCons (eC (.int 1)) (aCons (eBin opSub (eVar 3) (eC (.int 1))) aNil))) aNil)))))) (eFn 2 (M.law_draw 20) (aCons (eVar 0) (aCons (eC (.int 4)) aNil)))) aNil)))))))))
def M.law_any_date : FnSem := runF 4 M.b_law_any_date
def M.b_law_right : Sm :=
  (sSeq (sTg (eVar 0) (gT [(gN 1), (gN 2), (gN 3)]))
  (sSeq (sSet 4 (eFn 3 M.law_day_v2 (aCons (eVar 1) (aCons (eVar 2) (aCons (eVar 3) aNil)))))
  (sSeq (sSet 5 (eBin opSub (eBin opAdd (eBin opMul (eC (.int 12)) (eBin opSub (eVar 1) (eC (.int 2001)))) (eVar 2)) (eC (.int 1))))
  (sSeq (sIf (tOr (tVal (eBin cNe (eFn 1 M.day_of (aCons (eVar 0) aNil)) (eVar 4))) (tOr (tVal (eBin cNe (eFn 1 M.date_of (aCons (eVar 4) aNil)) (eVar 0))) (tOr (tVal (eBin cNe (eFn 1 M.weekday (aCons (eVar 4) aNil)) (eBin opMod (eVar 4) (eC (.int 7))))) (tVal (eBin cNe (eFn 1 M.month_of (aCons (eVar 4) aNil)) (eVar 5)))))) (sRet (eC (.bl false))) sNil)
  (sRet (eAnd (eBin cEq (eFn 1 M.first_of (aCons (eVar 5) aNil)) (eBin opAdd (eBin opSub (eVar 4) (eVar 3)) (eC (.int 1)))) (eBin cEq (eFn 1 M.month_length (aCons (eVar 5) aNil)) (eFn 2 M.law_month_days (aCons (eVar 1) (aCons (eVar 2) aNil))))))))))
def M.law_right : FnSem := runF 6 M.b_law_right
def M.b_law : Sm :=
  (sSeq (sSet 1 (eFn 1 M.law_tape (aCons (eVar 0) aNil)))
  (sSeq (sFor (iRng1 (eC (.int 12))) (gN 2) (sSeq (sIf (tNot (tVal (eFn 1 M.law_right (aCons (eFn 1 M.law_any_date (aCons (eVar 1) aNil)) aNil)))) (sRet (eC (.bl false))) sNil)
  (sSeq (sSet 3 (eFn 2 (M.law_draw 20) (aCons (eVar 1) (aCons (eC (.int 100000)) aNil))))
  (sSeq (sSet 4 (eFn 1 M.date_of (aCons (eVar 3) aNil)))
  (sSeq (sIf (tOr (tNot (tVal (eIsi .tuple (eVar 4)))) (tOr (tVal (eBin cNe (eCall pLen (aCons (eVar 4) aNil)) (eC (.int 3)))) (tVal (eBin cNe (eFn 3 M.law_day_v2 (aCons (eBin opIx (eVar 4) (eC (.int 0))) (aCons (eBin opIx (eVar 4) (eC (.int 1))) (aCons (eBin opIx (eVar 4) (eC (.int 2))) aNil)))) (eVar 3))))) (sRet (eC (.bl false))) sNil)
  (sIf (tOr (tNot (tVal (eChain cLe cLe (eC (.int 1)) (eBin opIx (eVar 4) (eC (.int 1))) (eC (.int 12))))) (tNot (tVal (eChain cLe cLe (eC (.int 1)) (eBin opIx (eVar 4) (eC (.int 2))) (eFn 2 M.law_month_days (aCons (eBin opIx (eVar 4) (eC (.int 0))) (aCons (eBin opIx (eVar 4) (eC (.int 1))) aNil))))))) (sRet (eC (.bl false))) sNil))))))
  (sRet (eAnd (eFn 1 M.law_right (aCons (eTup (aCons (eC (.int 2001)) (aCons (eC (.int 1)) (aCons (eC (.int 1)) aNil)))) aNil)) (eAnd (eFn 1 M.law_right (aCons (eTup (aCons (eC (.int 2274)) (aCons (eC (.int 10)) (aCons (eC (.int 16)) aNil)))) aNil)) (eBin cEq (eFn 1 M.day_of (aCons (eTup (aCons (eC (.int 2274)) (aCons (eC (.int 10)) (aCons (eC (.int 16)) aNil)))) aNil)) (eC (.int 99999))))))))
def M.law : FnSem := runF 5 M.b_law
def M.b_are_figures : Sm :=
  (sRet (eAnd (eBin cEq (eCall pLen (aCons (eVar 0) aNil)) (eVar 1)) (eCall pAll (aCons (eFrz (nLc (iSeq (eVar 0)) (gN 2) tT (eBin cIn (eVar 2) (eC k_FIGURES)) [2])) aNil))))
def M.are_figures : FnSem := runF 3 M.b_are_figures
def M.b_wide : Sm :=
  (sRet (eZfill (eCall pStr (aCons (eVar 0) aNil)) (aCons (eVar 1) aNil)))
def M.wide : FnSem := runF 2 M.b_wide
def M.b_show_day : Sm :=
  (sSeq (sTg (eFn 1 M.date_of (aCons (eVar 0) aNil)) (gT [(gN 1), (gN 2), (gN 3)]))
  (sRet (eBin opAdd (eBin opAdd (eBin opAdd (eBin opAdd (eFn 2 M.wide (aCons (eVar 1) (aCons (eC (.int 4)) aNil))) (eC (.str "-"))) (eFn 2 M.wide (aCons (eVar 2) (aCons (eC (.int 2)) aNil)))) (eC (.str "-"))) (eFn 2 M.wide (aCons (eVar 3) (aCons (eC (.int 2)) aNil))))))
def M.show_day : FnSem := runF 4 M.b_show_day
def M.b_day_in : Sm :=
  (sSeq (sIf (tOr (tVal (eBin cNe (eCall pLen (aCons (eVar 0) aNil)) (eC (.int 10)))) (tOr (tVal (eBin cNe (eBin opIx (eVar 0) (eC (.int 4))) (eC (.str "-")))) (tVal (eBin cNe (eBin opIx (eVar 0) (eC (.int 7))) (eC (.str "-")))))) (sRet (eC .non)) sNil)
  (sSeq (sIf (tOr (tNot (tVal (eFn 2 M.are_figures (aCons (eSl (eVar 0) oNone (oSome (eC (.int 4)))) (aCons (eC (.int 4)) aNil))))) (tOr (tNot (tVal (eFn 2 M.are_figures (aCons (eSl (eVar 0) (oSome (eC (.int 5))) (oSome (eC (.int 7)))) (aCons (eC (.int 2)) aNil))))) (tNot (tVal (eFn 2 M.are_figures (aCons (eSl (eVar 0) (oSome (eC (.int 8))) oNone) (aCons (eC (.int 2)) aNil))))))) (sRet (eC .non)) sNil)
  (sSeq (sSet 1 (eC .non))
  (sSeq (sTry [(21, true)] (sSet 1 (eFn 1 M.day_of (aCons (eTup (aCons (eCall pIntS (aCons (eSl (eVar 0) oNone (oSome (eC (.int 4)))) aNil)) (aCons (eCall pIntS (aCons (eSl (eVar 0) (oSome (eC (.int 5))) (oSome (eC (.int 7)))) aNil)) (aCons (eCall pIntS (aCons (eSl (eVar 0) (oSome (eC (.int 8))) oNone) aNil)) aNil)))) aNil))) (sRet (eC .non)))
  (sRet (eVar 1))))))
def M.day_in : FnSem := runF 2 M.b_day_in
def M.b_show_minute : Sm :=
  (sRet (eBin opAdd (eBin opAdd (eFn 2 M.wide (aCons (eBin opFdiv (eVar 0) (eC (.int 60))) (aCons (eC (.int 2)) aNil))) (eC (.str ":"))) (eFn 2 M.wide (aCons (eBin opMod (eVar 0) (eC (.int 60))) (aCons (eC (.int 2)) aNil)))))
def M.show_minute : FnSem := runF 1 M.b_show_minute
def M.b_minute_in : Sm :=
  (sSeq (sIf (tOr (tVal (eBin cNe (eCall pLen (aCons (eVar 0) aNil)) (eC (.int 5)))) (tOr (tVal (eBin cNe (eBin opIx (eVar 0) (eC (.int 2))) (eC (.str ":")))) (tOr (tNot (tVal (eFn 2 M.are_figures (aCons (eSl (eVar 0) oNone (oSome (eC (.int 2)))) (aCons (eC (.int 2)) aNil))))) (tNot (tVal (eFn 2 M.are_figures (aCons (eSl (eVar 0) (oSome (eC (.int 3))) oNone) (aCons (eC (.int 2)) aNil)))))))) (sRet (eC .non)) sNil)
  (sSeq (sIf (tOr (tVal (eBin cGt (eCall pIntS (aCons (eSl (eVar 0) oNone (oSome (eC (.int 2)))) aNil)) (eC (.int 23)))) (tVal (eBin cGt (eCall pIntS (aCons (eSl (eVar 0) (oSome (eC (.int 3))) oNone) aNil)) (eC (.int 59))))) (sRet (eC .non)) sNil)
  (sRet (eBin opAdd (eBin opMul (eC (.int 60)) (eCall pIntS (aCons (eSl (eVar 0) oNone (oSome (eC (.int 2)))) aNil))) (eCall pIntS (aCons (eSl (eVar 0) (oSome (eC (.int 3))) oNone) aNil))))))
def M.minute_in : FnSem := runF 1 M.b_minute_in
def M.b_show_time : Sm :=
  (sRet (eBin opAdd (eBin opAdd (eFn 1 M.show_day (aCons (eBin opFdiv (eVar 0) (eC k_DAY_MINUTES)) aNil)) (eC (.str " "))) (eFn 1 M.show_minute (aCons (eBin opMod (eVar 0) (eC k_DAY_MINUTES)) aNil))))
def M.show_time : FnSem := runF 1 M.b_show_time
def M.b_read_time : Sm :=
  (sSeq (sSet 1 (eIf (tVal (eIsi .str (eVar 0))) (eFrz (nSplit (eVar 0) (eC (.str " ")))) (eFrz (nLst aNil))))
  (sSeq (sIf (tVal (eBin cNe (eCall pLen (aCons (eVar 1) aNil)) (eC (.int 2)))) (sRaise1 28 "row" (eC (.int 0))) sNil)
  (sSeq (sSet 2 (eFn 1 M.day_in (aCons (eBin opIx (eVar 1) (eC (.int 0))) aNil)))
  (sSeq (sSet 3 (eFn 1 M.minute_in (aCons (eBin opIx (eVar 1) (eC (.int 1))) aNil)))
  (sSeq (sIf (tOr (tVal (eBin cIs (eVar 2) (eC .non))) (tVal (eBin cIs (eVar 3) (eC .non)))) (sRaise1 28 "row" (eC (.int 0))) sNil)
  (sRet (eBin opAdd (eBin opMul (eC k_DAY_MINUTES) (eVar 2)) (eVar 3))))))))
def M.read_time : FnSem := runF 4 M.b_read_time
def M.b_law_two : Sm :=
  (sRet (eBin opAdd (eCall pStr (aCons (eBin opFdiv (eVar 0) (eC (.int 10))) aNil)) (eCall pStr (aCons (eBin opMod (eVar 0) (eC (.int 10))) aNil))))
def M.law_two : FnSem := runF 1 M.b_law_two
def M.b_law_time_text : Sm :=
  (sRet (eBin opAdd (eBin opAdd (eBin opAdd (eBin opAdd (eFn 1 M.show_day (aCons (eBin opFdiv (eVar 0) (eC (.int 1440))) aNil)) (eC (.str " "))) (eFn 1 M.law_two (aCons (eBin opFdiv (eBin opMod (eVar 0) (eC (.int 1440))) (eC (.int 60))) aNil))) (eC (.str ":"))) (eFn 1 M.law_two (aCons (eBin opMod (eVar 0) (eC (.int 60))) aNil))))
def M.law_time_text : FnSem := runF 1 M.b_law_time_text
def M.b_law_due_v5 : Sm :=
  (sSeq (sIf (tOr (tNot (tVal (eIsi .str (eVar 0)))) (tOr (tVal (eBin cNe (eCall pLen (aCons (eVar 0) aNil)) (eC (.int 16)))) (tVal (eBin cNe (eBin opAdd (eBin opAdd (eBin opAdd (eBin opIx (eVar 0) (eC (.int 4))) (eBin opIx (eVar 0) (eC (.int 7)))) (eBin opIx (eVar 0) (eC (.int 10)))) (eBin opIx (eVar 0) (eC (.int 13)))) (eC (.str "-- :")))))) (sRet (eC .non)) sNil)
  (sSeq (sSet 1 (eBin opAdd (eBin opAdd (eBin opAdd (eBin opAdd (eSl (eVar 0) oNone (oSome (eC (.int 4)))) (eSl (eVar 0) (oSome (eC (.int 5))) (oSome (eC (.int 7))))) (eSl (eVar 0) (oSome (eC (.int 8))) (oSome (eC (.int 10))))) (eSl (eVar 0) (oSome (eC (.int 11))) (oSome (eC (.int 13))))) (eSl (eVar 0) (oSome (eC (.int 14))) oNone)))
  (sSeq (sIf (tNot (tVal (eCall pAll (aCons (eFrz (nLc (iSeq (eVar 1)) (gN 6) tT (eBin cIn (eVar 6) (eC (.str "0123456789"))) [6])) aNil)))) (sRet (eC .non)) sNil)
  (sSeq (sPar3 2 3 4 (aCons (eCall pIntS (aCons (eSl (eVar 0) oNone (oSome (eC (.int 4)))) aNil)) (aCons (eCall pIntS (aCons (eSl (eVar 0) (oSome (eC (.int 5))) (oSome (eC (.int 7)))) aNil)) (aCons (eCall pIntS (aCons (eSl (eVar 0) (oSome (eC (.int 8))) (oSome (eC (.int 10)))) aNil)) aNil))))
  (sSeq (sIf (tOr (tNot (tVal (eChain cLe cLe (eC (.int 2001)) (eVar 2) (eC (.int 2274))))) (tOr (tNot (tVal (eChain cLe cLe (eC (.int 1)) (eVar 3) (eC (.int 12))))) (tNot (tVal (eChain cLe cLe (eC (.int 1)) (eVar 4) (eFn 2 M.law_month_days (aCons (eVar 2) (aCons (eVar 3) aNil)))))))) (sRet (eC .non)) sNil)
  (sSeq (sSet 5 (eFn 3 M.law_day_v2 (aCons (eVar 2) (aCons (eVar 3) (aCons (eVar 4) aNil)))))
  (sSeq (sIf (tOr (tVal (eBin cGt (eVar 5) (eC (.int 99999)))) (tOr (tVal (eBin cGt (eCall pIntS (aCons (eSl (eVar 0) (oSome (eC (.int 11))) (oSome (eC (.int 13)))) aNil)) (eC (.int 23)))) (tVal (eBin cGt (eCall pIntS (aCons (eSl (eVar 0) (oSome (eC (.int 14))) oNone) aNil)) (eC (.int 59)))))) (sRet (eC .non)) sNil)
  (sRet (eBin opAdd (eBin opAdd (eBin opMul (eC (.int 1440)) (eVar 5)) (eBin opMul (eC (.int 60)) (eCall pIntS (aCons (eSl (eVar 0) (oSome (eC (.int 11))) (oSome (eC (.int 13)))) aNil)))) (eCall pIntS (aCons (eSl (eVar 0) (oSome (eC (.int 14))) oNone) aNil)))))))))))
def M.law_due_v5 : FnSem := runF 7 M.b_law_due_v5
def M.b_law_told_v4 : Sm :=
  (sSeq (sSet 1 (eC .non))
  (sSeq (sSet 2 (eC .non))
  (sSeq (sTryAs [(21, true), (28, true)] 3 (sSet 1 (eFn 1 M.read_time (aCons (eVar 0) aNil))) (sSet 2 (eVar 3)))
  (sSeq (sIf (tVal (eBin cIs (eVar 2) (eC .non))) (sRet (eVar 1)) sNil)
  (sRet (eIf (tAnd (tVal (eIsE [(21, false), (28, true)] (eVar 2))) (tAnd (tVal (eBin cEq (eXf [28] "row" (eVar 2)) (eC (.int 0)))) (tVal (eBin cIsNot (eXf [28] "row" (eVar 2)) (eC (.bl false)))))) (eC .non) (eC (.str "odd"))))))))
def M.law_told_v4 : FnSem := runF 4 M.b_law_told_v4
def M.b_law_bent_v4 : Sm :=
  (sSeq (sSet 2 (eC (.str "0123456789-: abcdefghijklmnopqrstuvwxyzABCDEFGHIJKLMNOPQRSTUVWXYZ/.,+_!#$&'()*;<=>?\x40[]^{|}~\n")))
  (sSeq (sSet 3 (eFn 2 (M.law_draw 20) (aCons (eVar 0) (aCons (eBin opAdd (eCall pLen (aCons (eVar 1) aNil)) (eC (.int 1))) aNil))))
  (sSeq (sSet 4 (eBin opIx (eVar 2) (eFn 2 (M.law_draw 20) (aCons (eVar 0) (aCons (eCall pLen (aCons (eVar 2) aNil)) aNil)))))
  (sSeq (sSet 5 (eFrz (nLst (aCons (eBin opAdd (eBin opAdd (eSl (eVar 1) oNone (oSome (eVar 3))) (eVar 4)) (eSl (eVar 1) (oSome (eVar 3)) oNone)) (aCons (eBin opAdd (eBin opAdd (eSl (eVar 1) oNone (oSome (eVar 3))) (eVar 4)) (eSl (eVar 1) (oSome (eBin opAdd (eVar 3) (eC (.int 1)))) oNone)) (aCons (eBin opAdd (eSl (eVar 1) oNone (oSome (eVar 3))) (eSl (eVar 1) (oSome (eBin opAdd (eVar 3) (eC (.int 1)))) oNone)) (aCons (eVar 1) aNil)))))))
  (sSeq (sSet 5 (eBin opAdd (eVar 5) (eFrz (nLst (aCons (eBin opAdd (eSl (eVar 1) oNone (oSome (eC (.int 11)))) (eC (.str "24:00"))) (aCons (eBin opAdd (eSl (eVar 1) oNone (oSome (eC (.int 11)))) (eC (.str "23:60"))) (aCons (eBin opAdd (eSl (eVar 1) oNone (oSome (eC (.int 11)))) (eSl (eVar 1) (oSome (eC (.int 12))) oNone)) (aCons (eBin opAdd (eVar 1) (eC (.str " "))) (aCons (eBin opAdd (eVar 1) (eC (.str "\n"))) (aCons (eSl (eVar 1) oNone (oSome (eC (.int 10)))) aNil))))))))))
  (sRet (eBin opIx (eVar 5) (eFn 2 (M.law_draw 20) (aCons (eVar 0) (aCons (eC (.int 10)) aNil))))))))))
def M.law_bent_v4 : FnSem := runF 6 M.b_law_bent_v4
def M.b_law_v4 : Sm :=
  (sSeq (sSet 1 (eFn 1 M.law_tape (aCons (eVar 0) aNil)))
  (sSeq (sFor (iRng1 (eC (.int 12))) (gN 2) (sSeq (sSet 3 (eBin opIx (eFrz (nLst (aCons (eBin opAdd (eBin opMul (eC (.int 1440)) (eFn 2 (M.law_draw 20) (aCons (eVar 1) (aCons (eC (.int 100000)) aNil)))) (eFn 2 (M.law_draw 20) (aCons (eVar 1) (aCons (eC (.int 1440)) aNil)))) (aCons (eC (.int 143999999)) (aCons (eC (.int 0)) aNil))))) (eBin opFdiv (eFn 2 (M.law_draw 20) (aCons (eVar 1) (aCons (eC (.int 9)) aNil))) (eC (.int 4)))))
  (sSeq (sSet 4 (eFn 1 M.law_time_text (aCons (eVar 3) aNil)))
  (sSeq (sIf (tOr (tVal (eBin cNe (eFn 1 M.show_time (aCons (eVar 3) aNil)) (eVar 4))) (tVal (eBin cNe (eFn 1 M.law_told_v4 (aCons (eVar 4) aNil)) (eVar 3)))) (sRet (eC (.bl false))) sNil)
  (sSeq (sSet 5 (eFn 2 M.law_bent_v4 (aCons (eVar 1) (aCons (eVar 4) aNil))))
  (sSeq (sIf (tVal (eBin cNe (eFn 1 M.law_told_v4 (aCons (eVar 5) aNil)) (eFn 1 M.law_due_v5 (aCons (eVar 5) aNil)))) (sRet (eC (.bl false))) sNil)
  (sSeq (sSet 6 (eBin opIx (eFrz (nLst (aCons (eC .non) (aCons (eC (.int 7)) (aCons (eC (.bl true)) (aCons (eTup (aCons (eVar 4) aNil)) (aCons (eFrz (nLst (aCons (eVar 4) aNil))) (aCons (eTup aNil) (aCons (eC (.str "")) aNil))))))))) (eFn 2 (M.law_draw 20) (aCons (eVar 1) (aCons (eC (.int 7)) aNil)))))
  (sSeq (sSet 7 (eBin opAdd (eBin opAdd (eBin opAdd (eSl (eVar 4) oNone (oSome (eC (.int 11)))) (eFn 1 M.law_two (aCons (eFn 2 (M.law_draw 20) (aCons (eVar 1) (aCons (eC (.int 100)) aNil))) aNil))) (eC (.str ":"))) (eFn 1 M.law_two (aCons (eFn 2 (M.law_draw 20) (aCons (eVar 1) (aCons (eC (.int 100)) aNil))) aNil))))
  (sIf (tOr (tVal (eBin cIsNot (eFn 1 M.law_told_v4 (aCons (eVar 6) aNil)) (eC .non))) (tVal (eBin cNe (eFn 1 M.law_told_v4 (aCons (eVar 7) aNil)) (eFn 1 M.law_due_v5 (aCons (eVar 7) aNil))))) (sRet (eC (.bl false))) sNil)))))))))
  (sRet (eC (.bl true)))))
def M.law_v4 : FnSem := runF 8 M.b_law_v4
def M.b_offset_at : Sm :=
  (sSeq (sSet 2 (eC (.int 0)))
  (sSeq (sFor (iSeq (eVar 0)) (gT [(gN 3), (gN 4)]) (sIf (tVal (eBin cLe (eVar 3) (eVar 1))) (sSet 2 (eVar 4)) sNil))
  (sRet (eVar 2))))
def M.offset_at : FnSem := runF 5 M.b_offset_at
def M.b_local : Sm :=
  (sRet (eBin opAdd (eVar 1) (eFn 2 M.offset_at (aCons (eVar 0) (aCons (eVar 1) aNil)))))
def M.local : FnSem := runF 2 M.b_local
def M.b_passed : Sm :=
  (sSeq (sFor (iSeq (eSl (eVar 0) (oSome (eC (.int 1))) oNone)) (gT [(gN 2), (gN 3)]) (sIf (tVal (eChain cLt cLt (eFn 2 M.local (aCons (eVar 0) (aCons (eBin opSub (eVar 2) (eC (.int 1))) aNil))) (eVar 1) (eBin opAdd (eVar 2) (eVar 3)))) (sRet (eVar 2)) sNil))
  (sRet (eC .non)))
def M.passed : FnSem := runF 4 M.b_passed
def M.b_is_day_number : Sm :=
  (sRet (eFn 3 M.is_whole (aCons (eVar 0) (aCons (eC k_FIRST_DAY) (aCons (eC k_LAST_DAY) aNil)))))
def M.is_day_number : FnSem := runF 1 M.b_is_day_number
def M.b_is_minute : Sm :=
  (sRet (eFn 3 M.is_whole (aCons (eVar 0) (aCons (eC (.int 0)) (aCons (eC (.int 1439)) aNil)))))
def M.is_minute : FnSem := runF 1 M.b_is_minute
def M.b_is_length : Sm :=
  (sRet (eFn 3 M.is_whole (aCons (eVar 0) (aCons (eC (.int 1)) (aCons (eC k_LONGEST) aNil)))))
def M.is_length : FnSem := runF 1 M.b_is_length
def M.b_Once_init : Sm :=
  (sFld [0, 1, 2, 3, 4, 5] "first" (eVar 0) (eVar 1))
def M.Once_init : FnSem := runF 2 M.b_Once_init
def M.b_Months_init : Sm :=
  (sSeq (sExpr (eFn 2 M.Once_init (aCons (eVar 0) (aCons (eVar 1) aNil))))
  (sSeq (sFld [3, 4, 5] "month" (eVar 0) (eFn 1 M.month_of (aCons (eVar 1) aNil)))
  (sFld [3, 4, 5] "step" (eVar 0) (eVar 2))))
def M.Months_init : FnSem := runF 3 M.b_Months_init
def M.b_Dates_init : Sm :=
  (sSeq (sExpr (eFn 3 M.Months_init (aCons (eVar 0) (aCons (eVar 1) (aCons (eVar 2) aNil)))))
  (sFld [4] "date" (eVar 0) (eVar 3)))
def M.Dates_init : FnSem := runF 4 M.b_Dates_init
def M.b_Days_init : Sm :=
  (sSeq (sExpr (eFn 2 M.Once_init (aCons (eVar 0) (aCons (eVar 1) aNil))))
  (sFld [1] "step" (eVar 0) (eVar 2)))
def M.Days_init : FnSem := runF 3 M.b_Days_init
def M.b_Weekdays_init : Sm :=
  (sSeq (sExpr (eFn 3 M.Months_init (aCons (eVar 0) (aCons (eVar 1) (aCons (eVar 2) aNil)))))
  (sSeq (sFld [5] "which" (eVar 0) (eVar 3))
  (sFld [5] "one" (eVar 0) (eVar 4))))
def M.Weekdays_init : FnSem := runF 5 M.b_Weekdays_init
def M.b_Weeks_init : Sm :=
  (sSeq (sExpr (eFn 2 M.Once_init (aCons (eVar 0) (aCons (eVar 1) aNil))))
  (sSeq (sFld [2] "monday" (eVar 0) (eBin opSub (eVar 1) (eFn 1 M.weekday (aCons (eVar 1) aNil))))
  (sSeq (sFld [2] "step" (eVar 0) (eBin opMul (eC (.int 7)) (eVar 2)))
  (sSeq (sFld [2] "weekdays" (eVar 0) (eVar 3))
  (sFld [2] "left_out" (eVar 0) (eCall pLen (aCons (eFrz (nLc (iSeq (eVar 3)) (gN 4) (tVal (eBin cLt (eBin opAdd (eFld [2] "monday" (eVar 0)) (eVar 4)) (eVar 1))) (eVar 4) [4])) aNil)))))))
def M.Weeks_init : FnSem := runF 5 M.b_Weeks_init
def M.b_coming_of : Sm :=
  (sSeq (sPar 1 2 (aCons (eBin opIx (eVar 0) (eC (.int 0))) (aCons (eBin opIx (eVar 0) (eC (.int 3))) aNil)))
  (sSeq (sIf (tVal (eBin cEq (eBin opIx (eVar 2) (eC (.int 0))) (eC (.str "once")))) (sRet (eMakeF 0 2 M.Once_init (aCons (eVar 1) aNil))) sNil)
  (sSeq (sIf (tVal (eBin cEq (eBin opIx (eVar 2) (eC (.int 0))) (eC (.str "days")))) (sRet (eMakeF 1 3 M.Days_init (aCons (eVar 1) (aCons (eBin opIx (eVar 2) (eC (.int 1))) aNil)))) sNil)
  (sSeq (sIf (tVal (eBin cEq (eBin opIx (eVar 2) (eC (.int 0))) (eC (.str "weeks")))) (sRet (eMakeF 2 4 M.Weeks_init (aCons (eVar 1) (aCons (eBin opIx (eVar 2) (eC (.int 1))) (aCons (eBin opIx (eVar 2) (eC (.int 2))) aNil))))) sNil)
  (sSeq (sIf (tVal (eBin cEq (eCall pLen (aCons (eVar 2) aNil)) (eC (.int 3)))) (sRet (eMakeF 4 4 M.Dates_init (aCons (eVar 1) (aCons (eBin opIx (eVar 2) (eC (.int 1))) (aCons (eBin opIx (eVar 2) (eC (.int 2))) aNil))))) sNil)
  (sRet (eMakeF 5 5 M.Weekdays_init (aCons (eVar 1) (aCons (eBin opIx (eVar 2) (eC (.int 1))) (aCons (eBin opIx (eVar 2) (eC (.int 2))) (aCons (eBin opIx (eVar 2) (eC (.int 3))) aNil)))))))))))
def M.coming_of : FnSem := runF 3 M.b_coming_of
def M.b_Days_at_place : Sm :=
  (sRet (eBin opAdd (eFld [1] "first" (eVar 0)) (eBin opMul (eVar 1) (eFld [1] "step" (eVar 0)))))
def M.Days_at_place : FnSem := runF 2 M.b_Days_at_place
def M.b_Months_begins : Sm :=
  (sRet (eFn 1 M.first_of (aCons (eBin opAdd (eFld [3, 4, 5] "month" (eVar 0)) (eBin opMul (eVar 1) (eFld [3, 4, 5] "step" (eVar 0)))) aNil)))
def M.Months_begins : FnSem := runF 2 M.b_Months_begins
def M.b_Dates_date_in : Sm :=
  (sRet (eIf (tVal (eBin cLe (eFld [4] "date" (eVar 0)) (eFn 1 M.month_length (aCons (eVar 1) aNil)))) (eFld [4] "date" (eVar 0)) (eC .non)))
def M.Dates_date_in : FnSem := runF 2 M.b_Dates_date_in
def M.b_Months_date_in : Sm :=
  (sRet (eC .non))
def M.Months_date_in : FnSem := runF 2 M.b_Months_date_in
def M.b_Weekdays_date_in : Sm :=
  (sSeq (sSet 2 (eBin opAdd (eC (.int 1)) (eBin opMod (eBin opSub (eFld [5] "one" (eVar 0)) (eFn 1 M.weekday (aCons (eFn 1 M.first_of (aCons (eVar 1) aNil)) aNil))) (eC (.int 7)))))
  (sSeq (sIf (tVal (eBin cGt (eFld [5] "which" (eVar 0)) (eC (.int 0)))) (sSeq (sSet 2 (eBin opAdd (eVar 2) (eBin opMul (eC (.int 7)) (eBin opSub (eFld [5] "which" (eVar 0)) (eC (.int 1))))))
  (sRet (eIf (tVal (eBin cLe (eVar 2) (eFn 1 M.month_length (aCons (eVar 1) aNil)))) (eVar 2) (eC .non)))) sNil)
  (sSeq (sWhile fuel (tVal (eBin cLe (eBin opAdd (eVar 2) (eC (.int 7))) (eFn 1 M.month_length (aCons (eVar 1) aNil)))) (sSet 2 (eBin opAdd (eVar 2) (eC (.int 7)))))
  (sRet (eVar 2)))))
def M.Weekdays_date_in : FnSem := runF 3 M.b_Weekdays_date_in
def M.b_Months_days_in : Sm :=
  (sSeq (sSet 2 (eBin opAdd (eFld [3, 4, 5] "month" (eVar 0)) (eBin opMul (eVar 1) (eFld [3, 4, 5] "step" (eVar 0)))))
  (sSeq (sSet 3 (eMeth "date_in" [(3, M.Months_date_in), (4, M.Dates_date_in), (5, M.Weekdays_date_in)] 2 (eVar 0) (aCons (eVar 2) aNil)))
  (sSeq (sIf (tOr (tVal (eBin cIs (eVar 3) (eC .non))) (tVal (eBin cLt (eBin opSub (eBin opAdd (eFn 1 M.first_of (aCons (eVar 2) aNil)) (eVar 3)) (eC (.int 1))) (eFld [3, 4, 5] "first" (eVar 0))))) (sRet (eFrz (nLst aNil))) sNil)
  (sRet (eFrz (nLst (aCons (eBin opSub (eBin opAdd (eFn 1 M.first_of (aCons (eVar 2) aNil)) (eVar 3)) (eC (.int 1))) aNil)))))))
def M.Months_days_in : FnSem := runF 4 M.b_Months_days_in
def M.b_Months_at_place : Sm :=
  (sSeq (sSet 2 (eC (.int 0)))
  (sSeq (sSet 3 (eVar 1))
  (sSeq (sWhile fuel (tVal (eBin cLe (eMeth "begins" [(3, M.Months_begins), (4, M.Months_begins), (5, M.Months_begins)] 2 (eVar 0) (aCons (eVar 2) aNil)) (eC k_LAST_DAY))) (sSeq (sSet 4 (eMeth "days_in" [(3, M.Months_days_in), (4, M.Months_days_in), (5, M.Months_days_in)] 2 (eVar 0) (aCons (eVar 2) aNil)))
  (sSeq (sIf (tVal (eBin cLt (eVar 3) (eCall pLen (aCons (eVar 4) aNil)))) (sRet (eBin opIx (eVar 4) (eVar 3))) sNil)
  (sSeq (sSet 3 (eBin opSub (eVar 3) (eCall pLen (aCons (eVar 4) aNil))))
  (sSet 2 (eBin opAdd (eVar 2) (eC (.int 1))))))))
  (sRet (eC .non)))))
def M.Months_at_place : FnSem := runF 5 M.b_Months_at_place
def M.b_Once_at_place : Sm :=
  (sRet (eIf (tVal (eBin cEq (eVar 1) (eC (.int 0)))) (eFld [0, 1, 2, 3, 4, 5] "first" (eVar 0)) (eC .non)))
def M.Once_at_place : FnSem := runF 2 M.b_Once_at_place
def M.b_Weeks_begins : Sm :=
  (sRet (eBin opAdd (eFld [2] "monday" (eVar 0)) (eBin opMul (eVar 1) (eFld [2] "step" (eVar 0)))))
def M.Weeks_begins : FnSem := runF 2 M.b_Weeks_begins
def M.b_Weeks_at_place : Sm :=
  (sSeq (sTg (eCall pDivmod (aCons (eBin opAdd (eVar 1) (eFld [2] "left_out" (eVar 0))) (aCons (eCall pLen (aCons (eFld [2] "weekdays" (eVar 0)) aNil)) aNil))) (gT [(gN 2), (gN 3)]))
  (sRet (eBin opAdd (eMeth "begins" [(2, M.Weeks_begins)] 2 (eVar 0) (aCons (eVar 2) aNil)) (eBin opIx (eFld [2] "weekdays" (eVar 0)) (eVar 3)))))
def M.Weeks_at_place : FnSem := runF 4 M.b_Weeks_at_place
def M.b_Days_begins : Sm :=
  (sRet (eBin opAdd (eFld [1] "first" (eVar 0)) (eBin opMul (eVar 1) (eFld [1] "step" (eVar 0)))))
def M.Days_begins : FnSem := runF 2 M.b_Days_begins
def M.b_Days_days_in : Sm :=
  (sRet (eFrz (nLst (aCons (eMeth "begins" [(1, M.Days_begins)] 2 (eVar 0) (aCons (eVar 1) aNil)) aNil))))
def M.Days_days_in : FnSem := runF 2 M.b_Days_days_in
def M.b_Days_stretch_of : Sm :=
  (sRet (eCall pMax (aCons (eC (.int 0)) (aCons (eBin opFdiv (eBin opSub (eVar 1) (eFld [1] "first" (eVar 0))) (eFld [1] "step" (eVar 0))) aNil))))
def M.Days_stretch_of : FnSem := runF 2 M.b_Days_stretch_of
def M.b_Months_stretch_of : Sm :=
  (sRet (eCall pMax (aCons (eC (.int 0)) (aCons (eBin opFdiv (eBin opSub (eFn 1 M.month_of (aCons (eVar 1) aNil)) (eFld [3, 4, 5] "month" (eVar 0))) (eFld [3, 4, 5] "step" (eVar 0))) aNil))))
def M.Months_stretch_of : FnSem := runF 2 M.b_Months_stretch_of
def M.b_Once_begins : Sm :=
  (sRet (eBin opAdd (eFld [0, 1, 2, 3, 4, 5] "first" (eVar 0)) (eBin opMul (eVar 1) (eC k_LAST_DAY))))
def M.Once_begins : FnSem := runF 2 M.b_Once_begins
def M.b_Once_days_in : Sm :=
  (sRet (eIf (tVal (eBin cEq (eVar 1) (eC (.int 0)))) (eFrz (nLst (aCons (eFld [0, 1, 2, 3, 4, 5] "first" (eVar 0)) aNil))) (eFrz (nLst aNil))))
def M.Once_days_in : FnSem := runF 2 M.b_Once_days_in
def M.b_Once_stretch_of : Sm :=
  (sRet (eC (.int 0)))
def M.Once_stretch_of : FnSem := runF 2 M.b_Once_stretch_of
def M.b_Weeks_days_in : Sm :=
  (sSeq (sSet 2 (eFrz (nLc (iSeq (eFld [2] "weekdays" (eVar 0))) (gN 3) tT (eBin opAdd (eMeth "begins" [(2, M.Weeks_begins)] 2 (eVar 0) (aCons (eVar 1) aNil)) (eVar 3)) [3])))
  (sRet (eFrz (nLc (iSeq (eVar 2)) (gN 4) (tVal (eBin cGe (eVar 4) (eFld [2] "first" (eVar 0)))) (eVar 4) [4]))))
def M.Weeks_days_in : FnSem := runF 5 M.b_Weeks_days_in
def M.b_Weeks_stretch_of : Sm :=
  (sRet (eCall pMax (aCons (eC (.int 0)) (aCons (eBin opFdiv (eBin opSub (eVar 1) (eFld [2] "monday" (eVar 0))) (eFld [2] "step" (eVar 0))) aNil))))
def M.Weeks_stretch_of : FnSem := runF 2 M.b_Weeks_stretch_of
def M.b_Days_ahead_of : Sm :=
  (sRet (eCall pMax (aCons (eC (.int 0)) (aCons (eBin opFdiv (eBin opSub (eBin opAdd (eBin opSub (eVar 1) (eFld [1] "first" (eVar 0))) (eFld [1] "step" (eVar 0))) (eC (.int 1))) (eFld [1] "step" (eVar 0))) aNil))))
def M.Days_ahead_of : FnSem := runF 2 M.b_Days_ahead_of
def M.b_Months_ahead_of : Sm :=
  (sSeq (sSet 2 (eC (.int 0)))
  (sSeq (sFor (iRng1 (eBin opAdd (eMeth "stretch_of" [(3, M.Months_stretch_of), (4, M.Months_stretch_of), (5, M.Months_stretch_of)] 2 (eVar 0) (aCons (eVar 1) aNil)) (eC (.int 1)))) (gN 3) (sSet 2 (eBin opAdd (eVar 2) (eCall pLen (aCons (eFrz (nLc (iSeq (eMeth "days_in" [(3, M.Months_days_in), (4, M.Months_days_in), (5, M.Months_days_in)] 2 (eVar 0) (aCons (eVar 3) aNil))) (gN 4) (tVal (eBin cLt (eVar 4) (eVar 1))) (eVar 4) [4])) aNil)))))
  (sRet (eVar 2))))
def M.Months_ahead_of : FnSem := runF 5 M.b_Months_ahead_of
def M.b_Once_ahead_of : Sm :=
  (sRet (eCall pInt (aCons (eBin cLt (eFld [0, 1, 2, 3, 4, 5] "first" (eVar 0)) (eVar 1)) aNil)))
def M.Once_ahead_of : FnSem := runF 2 M.b_Once_ahead_of
def M.b_Weeks_ahead_of : Sm :=
  (sSeq (sSet 2 (eMeth "stretch_of" [(2, M.Weeks_stretch_of)] 2 (eVar 0) (aCons (eVar 1) aNil)))
  (sSeq (sSet 3 (eFrz (nLc (iSeq (eFld [2] "weekdays" (eVar 0))) (gN 4) (tVal (eBin cLt (eBin opAdd (eMeth "begins" [(2, M.Weeks_begins)] 2 (eVar 0) (aCons (eVar 2) aNil)) (eVar 4)) (eVar 1))) (eVar 4) [4])))
  (sRet (eCall pMax (aCons (eC (.int 0)) (aCons (eBin opSub (eBin opAdd (eBin opMul (eVar 2) (eCall pLen (aCons (eFld [2] "weekdays" (eVar 0)) aNil))) (eCall pLen (aCons (eVar 3) aNil))) (eFld [2] "left_out" (eVar 0))) aNil))))))
def M.Weeks_ahead_of : FnSem := runF 5 M.b_Weeks_ahead_of
def M.b_is_day : Sm :=
  (sSeq (sSet 2 (eFn 1 M.coming_of (aCons (eVar 0) aNil)))
  (sSeq (sIf (tOr (tVal (eBin cGt (eVar 1) (eC k_LAST_DAY))) (tVal (eBin cNotIn (eVar 1) (eMeth "days_in" [(0, M.Once_days_in), (1, M.Days_days_in), (2, M.Weeks_days_in), (3, M.Months_days_in), (4, M.Months_days_in), (5, M.Months_days_in)] 2 (eVar 2) (aCons (eMeth "stretch_of" [(0, M.Once_stretch_of), (1, M.Days_stretch_of), (2, M.Weeks_stretch_of), (3, M.Months_stretch_of), (4, M.Months_stretch_of), (5, M.Months_stretch_of)] 2 (eVar 2) (aCons (eVar 1) aNil)) aNil))))) (sRet (eC (.bl false))) sNil)
  (sSeq (sIf (tVal (eBin cIs (eBin opIx (eVar 0) (eC (.int 4))) (eC .non))) (sRet (eC (.bl true))) sNil)
  (sSeq (sIf (tVal (eBin cEq (eBin opIx (eBin opIx (eVar 0) (eC (.int 4))) (eC (.int 0))) (eC (.str "until")))) (sRet (eBin cLe (eVar 1) (eBin opIx (eBin opIx (eVar 0) (eC (.int 4))) (eC (.int 1))))) sNil)
  (sRet (eBin cLt (eMeth "ahead_of" [(0, M.Once_ahead_of), (1, M.Days_ahead_of), (2, M.Weeks_ahead_of), (3, M.Months_ahead_of), (4, M.Months_ahead_of), (5, M.Months_ahead_of)] 2 (eVar 2) (aCons (eVar 1) aNil)) (eBin opIx (eBin opIx (eVar 0) (eC (.int 4))) (eC (.int 1)))))))))
def M.is_day : FnSem := runF 3 M.b_is_day
def M.b_bare : Sm :=
  (sRet (eTup (aCons (eC (.str "is")) (aCons (eVar 2) (aCons (eBin opIx (eVar 0) (eC (.int 1))) (aCons (eBin opIx (eVar 0) (eC (.int 2))) (aCons (eVar 1) aNil)))))))
def M.bare : FnSem := runF 3 M.b_bare
def M.b_is_word : Sm :=
  (sRet (eAnd (eIsi .str (eVar 0)) (eAnd (eChain cLe cLe (eC (.int 1)) (eCall pLen (aCons (eVar 0) aNil)) (eC k_LONGEST_WORD)) (eCall pAll (aCons (eFrz (nLc (iSeq (eVar 0)) (gN 1) tT (eBin cIn (eVar 1) (eC k_LETTERS)) [1])) aNil)))))
def M.is_word : FnSem := runF 2 M.b_is_word
def M.b_is_change : Sm :=
  (sSeq (sIf (tOr (tNot (tVal (eIsi .tuple (eVar 0)))) (tOr (tVal (eBin cNotIn (eCall pLen (aCons (eVar 0) aNil)) (eTup (aCons (eC (.int 1)) (aCons (eC (.int 5)) aNil))))) (tNot (tVal (eIsi .str (eBin opIx (eVar 0) (eC (.int 0)))))))) (sRet (eC (.bl false))) sNil)
  (sSeq (sIf (tVal (eBin cEq (eCall pLen (aCons (eVar 0) aNil)) (eC (.int 1)))) (sRet (eBin cEq (eBin opIx (eVar 0) (eC (.int 0))) (eC (.str "off")))) sNil)
  (sSeq (sIf (tOr (tVal (eBin cNe (eBin opIx (eVar 0) (eC (.int 0))) (eC (.str "is")))) (tOr (tNot (tVal (eFn 1 M.is_day_number (aCons (eBin opIx (eVar 0) (eC (.int 1))) aNil)))) (tNot (tVal (eFn 1 M.is_minute (aCons (eBin opIx (eVar 0) (eC (.int 2))) aNil)))))) (sRet (eC (.bl false))) sNil)
  (sRet (eAnd (eFn 1 M.is_length (aCons (eBin opIx (eVar 0) (eC (.int 3))) aNil)) (eFn 1 M.is_word (aCons (eBin opIx (eVar 0) (eC (.int 4))) aNil)))))))
def M.is_change : FnSem := runF 1 M.b_is_change
def M.b_fits : Sm :=
  (sSeq (sIf (tOr (tNot (tVal (eIsi .tuple (eVar 3)))) (tOr (tVal (eBin cNe (eCall pLen (aCons (eVar 3) aNil)) (eC (.int 2)))) (tOr (tNot (tVal (eFn 1 M.is_day_number (aCons (eBin opIx (eVar 3) (eC (.int 0))) aNil)))) (tNot (tVal (eFn 1 M.is_change (aCons (eBin opIx (eVar 3) (eC (.int 1))) aNil))))))) (sRet (eC (.bl false))) sNil)
  (sRet (eAnd (eBin cGt (eBin opIx (eVar 3) (eC (.int 0))) (eVar 2)) (eAnd (eFn 2 M.is_day (aCons (eVar 0) (aCons (eBin opIx (eVar 3) (eC (.int 0))) aNil))) (eBin cNe (eBin opIx (eVar 3) (eC (.int 1))) (eFn 3 M.bare (aCons (eVar 0) (aCons (eVar 1) (aCons (eBin opIx (eVar 3) (eC (.int 0))) aNil)))))))))
def M.fits : FnSem := runF 4 M.b_fits
end G
end
namespace G
open PySem L2

def noE : XV → Sto → Prop := fun _ _ => False
/-- r ends well with Q, or raises with E -/
@[irreducible] def Tx {α : Type} (r : R α) (Q : α → Sto → Prop) (E : XV → Sto → Prop) : Prop := match r with
  | .ok a S => Q a S
  | .exc e S => E e S
  | .bad => False
abbrev Tri {α : Type} (r : R α) (Q : α → Sto → Prop) : Prop := Tx r Q noE
section
variable {α β : Type} {r : R α} {a : α} {S : Sto} {Q Q' : α → Sto → Prop} {E E' : XV → Sto → Prop}
theorem Tx.mono (h : Tx r Q E) (q : ∀ a S, Q a S → Q' a S) (e : ∀ a S, E a S → E' a S) : Tx r Q' E' := by
  unfold Tx at h ⊢
  cases r with
  | ok a S => exact q a S h
  | exc x S => exact e x S h
  | bad => exact h
theorem Tx.to (h : Tx r Q noE) (q : ∀ a S, Q a S → Q' a S) : Tx r Q' E := h.mono q fun _ _ z => z.elim
theorem Tx.use (h : Tx r Q E) (q : ∀ a S, Q a S → Q' a S) : Tx r Q' E := h.mono q fun _ _ z => z
theorem Tx.eq (h : Tx r Q noE) : ∃ a S, r = .ok a S ∧ Q a S := by
  unfold Tx at h
  cases r with
  | ok a S => exact ⟨a, S, rfl, h⟩
  | exc _ _ => exact h.elim
  | bad => exact h.elim
theorem tri_eq {x : α} (h : Tx r (fun a S1 => a = x ∧ S1 = S) noE) : r = .ok x S := by
  obtain ⟨a, S1, e, rfl, rfl⟩ := h.eq
  exact e
theorem x_ok : Tx (.ok a S) Q E = Q a S := by with_unfolding_all rfl
theorem x_exc {e : XV} : Tx (.exc e S : R α) Q E = E e S := by with_unfolding_all rfl
theorem x_bad : Tx (.bad : R α) Q E = False := by with_unfolding_all rfl
theorem x_bind {k : α → Sto → R β} {Q : β → Sto → Prop} : Tx (r.bind k) Q E = Tx r (fun a S1 => Tx (k a S1) Q E) E := by cases r <;> with_unfolding_all rfl
theorem x_bs {env : Env} {k : α → Sto → R Fl} {Q : Fl → Sto → Prop} : Tx (r.bs env k) Q E = Tx r (fun a S1 => Tx (k a S1) Q E) (fun e S1 => Q (.xc e env) S1) := by cases r <;> with_unfolding_all rfl
theorem x_mk {b : Bool} {d : D} {Q : D → Sto → Prop} : Tx (mk b d S) Q E = (b = true ∧ Q d S) := by
  cases b <;> simp [mk, Tx]
end
theorem x_ite {α : Type} {c : Prop} [Decidable c] {r : R α} {Q : α → Sto → Prop} {E : XV → Sto → Prop} : Tx (if c then r else .bad) Q E = (c ∧ Tx r Q E) := by
  by_cases h : c
  · rw [if_pos h]; simp [h]
  · rw [if_neg h]; simp [h, Tx]
abbrev KD := D → Sto → Prop
abbrev KL := List D → Sto → Prop
abbrev KB := Bool → Sto → Prop
abbrev KF := Fl → Sto → Prop
abbrev EX := XV → Sto → Prop
section
variable {env : Env} {S : Sto} {E : EX} {K : KD} {KL' : KL} {KB' : KB} {KF' : KF} {fa fb fc : Ex} {d x y : D} {ds : List D} {b : Bool} {i j n : Nat}
def slotV : Option Slot → KD → Sto → Prop
  | some (.val d), K, S => K d S
  | _, _, _ => False
theorem slotV_v : slotV (some (.val d)) K S = K d S := rfl
def slotO : Option Slot → KD → Sto → Prop
  | some (.val d), K, S => K d S
  | some (.own ds), K, S => K (.lst ds) S
  | _, _, _ => False
theorem slotO_v : slotO (some (.val d)) K S = K d S := rfl
theorem slotO_o : slotO (some (.own ds)) K S = K (.lst ds) S := rfl
theorem x_var : Tx (eVar i env S) K E = slotV env[i]? K S := by
  unfold eVar slotV; split <;> simp_all [Tx]
theorem x_own : Tx (eOwn i env S) K E = slotO env[i]? K S := by
  unfold eOwn slotO; split <;> simp_all [Tx]
theorem x_c : Tx (eC d env S) K E = K d S := by with_unfolding_all rfl
def kBin1 (f : D → D → Sto → R D) (fb : Ex) (env : Env) (K : KD) (E : EX) : KD := fun x S => Tx (fb env S) (fun y S2 => Tx (f x y S2) K E) E
def kBin2 (f : D → D → Sto → R D) (x : D) (K : KD) (E : EX) : KD := fun y S2 => Tx (f x y S2) K E
variable {f g : D → D → Sto → R D}
theorem x_bin : Tx (eBin f fa fb env S) K E = Tx (fa env S) (kBin1 f fb env K E) E := by
  unfold eBin; simp only [x_bind]; with_unfolding_all rfl
theorem k_bin1 : kBin1 f fb env K E x S = Tx (fb env S) (kBin2 f x K E) E := by with_unfolding_all rfl
theorem k_bin2 : kBin2 f x K E y S = Tx (f x y S) K E := by with_unfolding_all rfl
def kNeg (K : KD) : KD := fun x S => match x with
  | .int i => K (.int (-i)) S
  | _ => False
theorem x_neg : Tx (eNeg fa env S) K E = Tx (fa env S) (kNeg K) E := by
  unfold eNeg; rw [x_bind]; congr 1; funext x S; cases x <;> with_unfolding_all rfl
theorem k_neg {i : Int} : kNeg K (.int i) S = K (.int (-i)) S := rfl
def kTup (K : KD) : KL := fun ds S => okL ds.length = true ∧ K (.tup ds) S
variable {fs gs : Sem1 (List D)}
theorem x_tup : Tx (eTup fs env S) K E = Tx (fs env S) (kTup K) E := by
  unfold eTup; rw [x_bind]; congr 1; funext x S; exact x_mk
theorem okL_of {n : Nat} (h : n ≤ 16777216) : okL n = true := decide_eq_true (by show n ≤ sizeLine; rw [PySem.sizeLine_eq]; exact h)
theorem k_tup (h : ds.length ≤ 16777216) : kTup K ds S = K (.tup ds) S := by
  unfold kTup; rw [okL_of h]; simp
def kLst (K : KL) : KL := fun ds S => okL ds.length = true ∧ K ds S
theorem x_lst : Tx (nLst fs env S) KL' E = Tx (fs env S) (kLst KL') E := by
  unfold nLst; rw [x_bind]; congr 1; funext x S
  unfold kLst
  split <;> simp_all [Tx]
theorem k_lst (h : ds.length ≤ 16777216) : kLst KL' ds S = KL' ds S := by
  unfold kLst; rw [okL_of h]; simp
def catK (x y : D) (K : KL) (S : Sto) : Prop := match catD x y with
  | some ds => K ds S
  | none => False
def kCat1 (fb : Ex) (env : Env) (K : KL) (E : EX) : KD := fun x S1 => Tx (fb env S1) (fun y S2 => catK x y K S2) E
def kCat2 (x : D) (K : KL) : KD := fun y S2 => catK x y K S2
theorem x_nCat : Tx (nCat fa fb env S) KL' E = Tx (fa env S) (kCat1 fb env KL' E) E := by
  unfold nCat; simp only [x_bind]; congr 1; funext x S; unfold kCat1; congr 1; funext y S
  unfold catK; cases catD x y <;> with_unfolding_all rfl
theorem k_cat1 : kCat1 fb env KL' E x S = Tx (fb env S) (kCat2 x KL') E := by with_unfolding_all rfl
theorem k_cat2 {a b : List D} (h : a.length + b.length ≤ 16777216) : kCat2 (.lst a) KL' (.lst b) S = KL' (a ++ b) S := by
  have : catD (.lst a) (.lst b) = some (a ++ b) := by
    show (if okL (a.length + b.length) = true then _ else _) = _
    rw [okL_of h]; rfl
  unfold kCat2 catK; rw [this]
def repK (x y : D) (K : KL) (S : Sto) : Prop := match repD x y with
  | some ds => K ds S
  | none => False
def kRep1 (fb : Ex) (env : Env) (K : KL) (E : EX) : KD := fun x S1 => Tx (fb env S1) (fun y S2 => repK x y K S2) E
def kRep2 (x : D) (K : KL) : KD := fun y S2 => repK x y K S2
theorem x_nRep : Tx (nRep fa fb env S) KL' E = Tx (fa env S) (kRep1 fb env KL' E) E := by
  unfold nRep; simp only [x_bind]; congr 1; funext x S; unfold kRep1; congr 1; funext y S
  unfold repK; cases repD x y <;> with_unfolding_all rfl
theorem k_rep1 : kRep1 fb env KL' E x S = Tx (fb env S) (kRep2 x KL') E := by with_unfolding_all rfl
theorem k_rep2 {a : List D} {k : Int} (h0 : 0 ≤ k) (h1 : k ≤ 1000) (h2 : a.length ≤ 1000) : kRep2 (.lst a) KL' (.int k) S = KL' (List.replicate k.toNat a).flatten S := by
  have : repD (.lst a) (.int k) = some (List.replicate k.toNat a).flatten := by
    show (if decide _ = true then _ else _) = _
    rw [decide_eq_true]
    · rfl
    · refine ⟨by omega, by omega, ?_⟩
      rw [PySem.sizeLine_eq]
      have : a.length * k.toNat ≤ 1000 * 1000 := Nat.mul_le_mul h2 (by omega)
      omega
  unfold kRep2 repK; rw [this]
def kFrz (K : KD) : KL := fun ds S => K (.lst ds) S
theorem x_frz : Tx (eFrz fs env S) K E = Tx (fs env S) (kFrz K) E := by
  unfold eFrz; rw [x_bind]; with_unfolding_all rfl
theorem k_frz : kFrz K ds S = K (.lst ds) S := rfl
theorem x_nil : Tx (aNil env S) KL' E = KL' [] S := by with_unfolding_all rfl
def kCons1 (gs : Sem1 (List D)) (env : Env) (K : KL) (E : EX) : KD := fun d S1 => Tx (gs env S1) (fun ds S2 => K (d :: ds) S2) E
def kCons2 (d : D) (K : KL) : KL := fun ds S2 => K (d :: ds) S2
theorem x_cons : Tx (aCons fa gs env S) KL' E = Tx (fa env S) (kCons1 gs env KL' E) E := by
  unfold aCons; simp only [x_bind]; with_unfolding_all rfl
theorem k_cons1 : kCons1 gs env KL' E d S = Tx (gs env S) (kCons2 d KL') E := by with_unfolding_all rfl
theorem k_cons2 : kCons2 d KL' ds S = KL' (d :: ds) S := rfl
def truV (x : D) (K : KB) (S : Sto) : Prop := match truth x with
  | some b => K b S
  | none => False
def kVal (K : KB) : KD := fun x S => truV x K S
variable {ft gt : Sem1 Bool}
theorem x_val : Tx (tVal fa env S) KB' E = Tx (fa env S) (kVal KB') E := by
  unfold tVal; rw [x_bind]; congr 1; funext x S
  unfold kVal truV; split <;> simp_all [Tx]
theorem k_val : kVal KB' x S = truV x KB' S := rfl
theorem tr_bl : truV (.bl b) KB' S = KB' b S := rfl
theorem tr_non : truV .non KB' S = KB' false S := rfl
theorem tr_int {i : Int} : truV (.int i) KB' S = KB' (i != 0) S := rfl
theorem tr_lst : truV (.lst ds) KB' S = KB' (!ds.isEmpty) S := rfl
theorem tr_tup : truV (.tup ds) KB' S = KB' (!ds.isEmpty) S := rfl
theorem tr_frl : truV (.frl ds) KB' S = KB' (!ds.isEmpty) S := rfl
theorem tr_str {z : Str} (h : z.length ≤ 16777216) : truV (.str z) KB' S = KB' ((z.length : Int) != 0) S := by
  unfold truV truth; simp only []; rw [if_pos (by rw [PySem.sizeLine_eq]; exact h)]
def kAnd (g : Sem1 Bool) (env : Env) (K : KB) (E : EX) : KB := fun b S => if b = true then Tx (g env S) K E else K false S
def kOr (g : Sem1 Bool) (env : Env) (K : KB) (E : EX) : KB := fun b S => if b = true then K true S else Tx (g env S) K E
def kNot (K : KB) : KB := fun b S => K (!b) S
theorem x_and : Tx (tAnd ft gt env S) KB' E = Tx (ft env S) (kAnd gt env KB' E) E := by
  unfold tAnd; rw [x_bind]; congr 1; funext b S; cases b <;> with_unfolding_all rfl
theorem x_or : Tx (tOr ft gt env S) KB' E = Tx (ft env S) (kOr gt env KB' E) E := by
  unfold tOr; rw [x_bind]; congr 1; funext b S; cases b <;> with_unfolding_all rfl
theorem x_not : Tx (tNot ft env S) KB' E = Tx (ft env S) (kNot KB') E := by
  unfold tNot; rw [x_bind]; with_unfolding_all rfl
theorem k_and : kAnd gt env KB' E b S = if b = true then Tx (gt env S) KB' E else KB' false S := by with_unfolding_all rfl
theorem k_or : kOr gt env KB' E b S = if b = true then KB' true S else Tx (gt env S) KB' E := by with_unfolding_all rfl
theorem k_not : kNot KB' b S = KB' (!b) S := rfl
theorem x_tT : Tx (tT env S) KB' E = KB' true S := by with_unfolding_all rfl
def kIfE (f g : Ex) (env : Env) (K : KD) (E : EX) : KB := fun b S => if b = true then Tx (f env S) K E else Tx (g env S) K E
theorem x_ifE : Tx (eIf ft fa fb env S) K E = Tx (ft env S) (kIfE fa fb env K E) E := by
  unfold eIf; rw [x_bind]; congr 1; funext b S; cases b <;> with_unfolding_all rfl
theorem k_ifE : kIfE fa fb env K E b S = if b = true then Tx (fa env S) K E else Tx (fb env S) K E := by with_unfolding_all rfl
def kAndV (g : Ex) (env : Env) (K : KD) (E : EX) : KD := fun x S => truV x (fun b S => if b = true then Tx (g env S) K E else K x S) S
def kOrV (g : Ex) (env : Env) (K : KD) (E : EX) : KD := fun x S => truV x (fun b S => if b = true then K x S else Tx (g env S) K E) S
def kNotV (K : KD) : KD := fun x S => truV x (fun b S => K (.bl (!b)) S) S
theorem x_andV : Tx (eAnd fa fb env S) K E = Tx (fa env S) (kAndV fb env K E) E := by
  unfold eAnd; rw [x_bind]; congr 1; funext x S
  unfold kAndV truV; cases h : truth x with
  | none => with_unfolding_all rfl
  | some b => cases b <;> with_unfolding_all rfl
theorem x_orV : Tx (eOr fa fb env S) K E = Tx (fa env S) (kOrV fb env K E) E := by
  unfold eOr; rw [x_bind]; congr 1; funext x S
  unfold kOrV truV; cases h : truth x with
  | none => with_unfolding_all rfl
  | some b => cases b <;> with_unfolding_all rfl
theorem x_notV : Tx (eNot fa env S) K E = Tx (fa env S) (kNotV K) E := by
  unfold eNot; rw [x_bind]; congr 1; funext x S
  unfold kNotV truV; cases h : truth x <;> with_unfolding_all rfl
theorem k_andV : kAndV fb env K E x S = truV x (fun b S => if b = true then Tx (fb env S) K E else K x S) S := by with_unfolding_all rfl
theorem k_orV : kOrV fb env K E x S = truV x (fun b S => if b = true then K x S else Tx (fb env S) K E) S := by with_unfolding_all rfl
theorem k_notV : kNotV K x S = truV x (fun b S => K (.bl (!b)) S) S := rfl
def kCh1 (f g : D → D → Sto → R D) (fb fc : Ex) (env : Env) (K : KD) (E : EX) : KD := fun x S => Tx (fb env S) (fun y S2 => Tx (f x y S2) (fun z S3 => match z with
  | .bl true => Tx (fc env S3) (fun w S4 => Tx (g y w S4) K E) E
  | .bl false => K (.bl false) S3
  | _ => False) E) E
def kCh2 (f g : D → D → Sto → R D) (x : D) (fc : Ex) (env : Env) (K : KD) (E : EX) : KD := fun y S2 => Tx (f x y S2) (fun z S3 => match z with
  | .bl true => Tx (fc env S3) (fun w S4 => Tx (g y w S4) K E) E
  | .bl false => K (.bl false) S3
  | _ => False) E
def kCh3 (g : D → D → Sto → R D) (y : D) (fc : Ex) (env : Env) (K : KD) (E : EX) : KD := fun z S3 => match z with
  | .bl true => Tx (fc env S3) (fun w S4 => Tx (g y w S4) K E) E
  | .bl false => K (.bl false) S3
  | _ => False
theorem x_chain : Tx (eChain f g fa fb fc env S) K E = Tx (fa env S) (kCh1 f g fb fc env K E) E := by
  unfold eChain; simp only [x_bind]; congr 1; funext x S; unfold kCh1; congr 1; funext y S; congr 1; funext z S
  split <;> simp only [x_bind, x_ok, x_bad]
theorem k_ch1 : kCh1 f g fb fc env K E x S = Tx (fb env S) (kCh2 f g x fc env K E) E := by with_unfolding_all rfl
theorem k_ch2 : kCh2 f g x fc env K E y S = Tx (f x y S) (kCh3 g y fc env K E) E := by with_unfolding_all rfl
theorem k_ch3 : kCh3 g y fc env K E (.bl b) S = if b = true then Tx (fc env S) (kBin2 g y K E) E else K (.bl false) S := by cases b <;> with_unfolding_all rfl
def kCall {α : Type} (f : List D → Sto → R α) (K : α → Sto → Prop) (E : EX) : KL := fun ds S => Tx (f ds S) K E
theorem x_call {f : List D → Sto → R D} : Tx (eCall f fs env S) K E = Tx (fs env S) (kCall f K E) E := by
  unfold eCall; rw [x_bind]; with_unfolding_all rfl
theorem x_callN {f : List D → Sto → R (List D)} : Tx (nCall f fs env S) KL' E = Tx (fs env S) (kCall f KL' E) E := by
  unfold nCall; rw [x_bind]; with_unfolding_all rfl
theorem k_call {α : Type} {f : List D → Sto → R α} {K : α → Sto → Prop} : kCall f K E ds S = Tx (f ds S) K E := by with_unfolding_all rfl
def optK {β : Type} (o : Option β) (f : β → D) (K : KD) (S : Sto) : Prop := match o with
  | some a => K (f a) S
  | none => False
theorem x_opt {β : Type} {o : Option β} {f : β → D} : Tx (opt o f S) K E = optK o f K S := by
  cases o <;> with_unfolding_all rfl
theorem k_some {β : Type} {a : β} {f : β → D} : optK (some a) f K S = K (f a) S := rfl
def kIsi (T : Ty) (K : KD) : KD := fun d S => optK (isT T d) .bl K S
theorem x_isi {T : Ty} : Tx (eIsi T fa env S) K E = Tx (fa env S) (kIsi T K) E := by
  unfold eIsi; simp only [x_bind, x_opt]; with_unfolding_all rfl
theorem k_isi {T : Ty} : kIsi T K d S = optK (isT T d) .bl K S := rfl
abbrev KO := Option Int → Sto → Prop
variable {KO' : KO} {lo hi : Sem1 (Option Int)}
theorem x_oNone : Tx (oNone env S) KO' E = KO' none S := by with_unfolding_all rfl
def kSome (K : KO) : KD := fun x S => match x with
  | .int i => K (some i) S
  | _ => False
theorem x_oSome : Tx (oSome fa env S) KO' E = Tx (fa env S) (kSome KO') E := by
  unfold oSome; rw [x_bind]; congr 1; funext x S; cases x <;> with_unfolding_all rfl
theorem k_oSome {i : Int} : kSome KO' (.int i) S = KO' (some i) S := rfl
def kSl1 (lo hi : Sem1 (Option Int)) (env : Env) (K : KD) (E : EX) : KD := fun x S1 => Tx (lo env S1) (fun l S2 => Tx (hi env S2) (fun h S3 => Tx (opSl x l h S3) K E) E) E
def kSl2 (x : D) (hi : Sem1 (Option Int)) (env : Env) (K : KD) (E : EX) : KO := fun l S2 => Tx (hi env S2) (fun h S3 => Tx (opSl x l h S3) K E) E
def kSl3 (x : D) (l : Option Int) (K : KD) (E : EX) : KO := fun h S3 => Tx (opSl x l h S3) K E
theorem x_sl : Tx (eSl fa lo hi env S) K E = Tx (fa env S) (kSl1 lo hi env K E) E := by
  unfold eSl; simp only [x_bind]; with_unfolding_all rfl
theorem k_sl1 : kSl1 lo hi env K E x S = Tx (lo env S) (kSl2 x hi env K E) E := by with_unfolding_all rfl
theorem k_sl2 {l : Option Int} : kSl2 x hi env K E l S = Tx (hi env S) (kSl3 x l K E) E := by with_unfolding_all rfl
theorem k_sl3 {l h : Option Int} : kSl3 x l K E h S = Tx (opSl x l h S) K E := by with_unfolding_all rfl
def slK (x : D) (l h : Option Int) (K : KL) (S : Sto) : Prop := match x with
  | .lst ds => K (cutA ds l h) S
  | .frl ds => K (cutA ds l h) S
  | _ => False
def kNSl1 (lo hi : Sem1 (Option Int)) (env : Env) (K : KL) (E : EX) : KD := fun x S1 => Tx (lo env S1) (fun l S2 => Tx (hi env S2) (fun h S3 => slK x l h K S3) E) E
def kNSl2 (x : D) (hi : Sem1 (Option Int)) (env : Env) (K : KL) (E : EX) : KO := fun l S2 => Tx (hi env S2) (fun h S3 => slK x l h K S3) E
def kNSl3 (x : D) (l : Option Int) (K : KL) : KO := fun h S3 => slK x l h K S3
theorem x_nSl : Tx (nSl fa lo hi env S) KL' E = Tx (fa env S) (kNSl1 lo hi env KL' E) E := by
  unfold nSl kNSl1; simp only [x_bind]; congr 1; funext x S; congr 1; funext l S; congr 1; funext h S
  cases x <;> with_unfolding_all rfl
theorem k_nsl1 : kNSl1 lo hi env KL' E x S = Tx (lo env S) (kNSl2 x hi env KL' E) E := by with_unfolding_all rfl
theorem k_nsl2 {l : Option Int} : kNSl2 x hi env KL' E l S = Tx (hi env S) (kNSl3 x l KL') E := by with_unfolding_all rfl
theorem k_nsl3L {l h : Option Int} : kNSl3 (.lst ds) l KL' h S = KL' (cutA ds l h) S := rfl
theorem k_nsl3F {l h : Option Int} : kNSl3 (.frl ds) l KL' h S = KL' (cutA ds l h) S := rfl
def kRev (K : KD) : KD := fun x S => match x with
  | .lst ds => K (.lst ds.reverse) S
  | .tup ds => K (.tup ds.reverse) S
  | _ => False
theorem x_rev : Tx (eRev fa env S) K E = Tx (fa env S) (kRev K) E := by
  unfold eRev; rw [x_bind]; congr 1; funext x S; cases x <;> with_unfolding_all rfl
theorem k_rev : kRev K (.lst ds) S = K (.lst ds.reverse) S := rfl
theorem k_revT : kRev K (.tup ds) S = K (.tup ds.reverse) S := rfl
def kFn (n : Nat) (sem : FnSem) (K : KD) (E : EX) : KL := fun ds S => ds.length = n ∧ Tx (sem ds S) K E
theorem x_fn {sem : FnSem} : Tx (eFn n sem fs env S) K E = Tx (fs env S) (kFn n sem K E) E := by
  unfold eFn; rw [x_bind]; congr 1; funext x S; unfold kFn; split <;> simp_all [Tx]
def kFnN (n : Nat) (sem : FnSemN) (K : KL) (E : EX) : KL := fun ds S => ds.length = n ∧ Tx (sem ds S) K E
theorem x_nFn {sem : FnSemN} : Tx (nFn n sem fs env S) KL' E = Tx (fs env S) (kFnN n sem KL' E) E := by
  unfold nFn; rw [x_bind]; congr 1; funext x S; unfold kFnN; split <;> simp_all [Tx]
theorem k_fnN {sem : FnSemN} (h : ds.length = n) : kFnN n sem KL' E ds S = Tx (sem ds S) KL' E := by
  unfold kFnN; simp [h]
theorem k_fn {sem : FnSem} (h : ds.length = n) : kFn n sem K E ds S = Tx (sem ds S) K E := by
  unfold kFn; simp [h]
def kSeqD (K : KL) : KD := fun x S => match seqD x with
  | some ds => K ds S
  | none => False
theorem x_seq : Tx (iSeq fa env S) KL' E = Tx (fa env S) (kSeqD KL') E := by
  unfold iSeq; rw [x_bind]; congr 1; funext x S; unfold kSeqD; split <;> simp_all [Tx]
theorem k_seqL : kSeqD KL' (.lst ds) S = KL' ds S := rfl
theorem k_seqT : kSeqD KL' (.tup ds) S = KL' ds S := rfl
theorem k_seqF : kSeqD KL' (.frl ds) S = KL' ds S := rfl
theorem k_seqS {z : Str} : kSeqD KL' (.str z) S = KL' (signs z) S := rfl
theorem ok62_of {i : Int} (h1 : -4611686018427387904 ≤ i) (h2 : i < 4611686018427387904) : ok62 i = true := by
  unfold ok62
  exact decide_eq_true ⟨by have : (2:Int)^62 = 4611686018427387904 := by decide
                           omega, by have : (2:Int)^62 = 4611686018427387904 := by decide
                                     omega⟩
def kRng1 (K : KL) : KD := fun x S => match x with
  | .int j => ok62 j = true ∧ K (rangeD 0 j) S
  | _ => False
theorem x_rng1 : Tx (iRng1 fa env S) KL' E = Tx (fa env S) (kRng1 KL') E := by
  unfold iRng1; rw [x_bind]; congr 1; funext x S
  cases x <;> simp only [kRng1, x_ite, x_ok, x_bad]
theorem k_rng1 {j : Int} (h1 : -4611686018427387904 ≤ j) (h2 : j < 4611686018427387904) : kRng1 KL' (.int j) S = KL' (rangeD 0 j) S := by
  unfold kRng1; simp [ok62_of h1 h2]
def kRng2a (fb : Ex) (env : Env) (K : KL) (E : EX) : KD := fun x S => Tx (fb env S) (fun y S => match x, y with
  | .int i, .int j => ok62 i = true ∧ ok62 j = true ∧ K (rangeD i j) S
  | _, _ => False) E
def kRng2b (x : D) (K : KL) : KD := fun y S => match x, y with
  | .int i, .int j => ok62 i = true ∧ ok62 j = true ∧ K (rangeD i j) S
  | _, _ => False
theorem x_rng2 : Tx (iRng2 fa fb env S) KL' E = Tx (fa env S) (kRng2a fb env KL' E) E := by
  unfold iRng2; simp only [x_bind]; congr 1; funext x S; unfold kRng2a; congr 1; funext y S
  cases x <;> cases y <;> simp only [x_bad]
  rename_i i j
  cases h : ok62 i <;> cases h' : ok62 j <;> simp [x_ok, x_bad]
theorem k_rng2a : kRng2a fb env KL' E x S = Tx (fb env S) (kRng2b x KL') E := by with_unfolding_all rfl
theorem k_rng2b {i j : Int} (h1 : -4611686018427387904 ≤ i) (h2 : i < 4611686018427387904) (h3 : -4611686018427387904 ≤ j) (h4 : j < 4611686018427387904) : kRng2b (.int i) KL' (.int j) S = KL' (rangeD i j) S := by
  unfold kRng2b; simp [ok62_of h1 h2, ok62_of h3 h4]
def kEnum (K : KL) : KL := fun ds S => match ds with
  | [.lst ds] => K (enumD ds) S
  | [.tup ds] => K (enumD ds) S
  | _ => False
theorem x_enum : Tx (iEnumD fs env S) KL' E = Tx (fs env S) (kEnum KL') E := by
  unfold iEnumD; rw [x_bind]; congr 1; funext x S; unfold kEnum; split <;> simp_all [Tx]
theorem k_enumT : kEnum KL' [.tup ds] S = KL' (enumD ds) S := rfl
theorem k_enum : kEnum KL' [.lst ds] S = KL' (enumD ds) S := rfl
def kZip (K : KL) : KL := fun ds S => match ds with
  | [.lst a, .lst b] => K (zipD a b) S
  | [.tup a, .tup b] => K (zipD a b) S
  | [.tup a, .lst b] => K (zipD a b) S
  | [.lst a, .tup b] => K (zipD a b) S
  | _ => False
theorem x_zip : Tx (iZipD fs env S) KL' E = Tx (fs env S) (kZip KL') E := by
  unfold iZipD; rw [x_bind]; congr 1; funext x S; unfold kZip; split <;> simp_all [Tx]
theorem k_zipL {a b : List D} : kZip KL' [.lst a, .lst b] S = KL' (zipD a b) S := rfl
theorem k_zipT {a b : List D} : kZip KL' [.tup a, .tup b] S = KL' (zipD a b) S := rfl
theorem k_zipM {a b : List D} : kZip KL' [.tup a, .lst b] S = KL' (zipD a b) S := rfl
theorem k_zipN {a b : List D} : kZip KL' [.lst a, .tup b] S = KL' (zipD a b) S := rfl
variable {tg : Tg} {vs : List Nat}
def kLc (tg : Tg) (c : Sem1 Bool) (elt : Ex) (vs : List Nat) (env : Env) (K : KL) (E : EX) : KL := fun ds S => okL ds.length = true ∧ Tx (lcL tg c elt (wipeE env vs) ds S) K E
theorem x_lc : Tx (nLc fs tg ft fa vs env S) KL' E = Tx (fs env S) (kLc tg ft fa vs env KL' E) E := by
  unfold nLc; rw [x_bind]; congr 1; funext x S; unfold kLc; split <;> simp_all [Tx]
theorem k_lc (h : ds.length ≤ 16777216) : kLc tg ft fa vs env KL' E ds S = Tx (lcL tg ft fa (wipeE env vs) ds S) KL' E := by
  unfold kLc; simp [okL_of h]
variable {sf sg : Sm}
/-- what is raised within a statement -/
def kX (env : Env) (K : KF) : EX := fun e S => K (.xc e env) S
theorem k_x {e : XV} : kX env KF' e S = KF' (.xc e env) S := rfl
theorem x_sNil : Tx (sNil env S) KF' E = KF' (.nx env) S := by with_unfolding_all rfl
def kSq (g : Sm) (K : KF) (E : EX) : KF := fun fl S => match fl with
  | .nx e => Tx (g e S) K E
  | fl => K fl S
theorem x_sSeq : Tx (sSeq sf sg env S) KF' E = Tx (sf env S) (kSq sg KF' E) E := by
  unfold sSeq; rw [x_bind]; congr 1; funext x S; cases x <;> with_unfolding_all rfl
theorem k_sqn : kSq sg KF' E (.nx env) S = Tx (sg env S) KF' E := by with_unfolding_all rfl
theorem k_sqr : kSq sg KF' E (.rt d) S = KF' (.rt d) S := rfl
theorem k_sqb : kSq sg KF' E (.bk env) S = KF' (.bk env) S := rfl
theorem k_sqx {e : XV} : kSq sg KF' E (.xc e env) S = KF' (.xc e env) S := rfl
theorem k_sqo : kSq sg KF' E (.ro ds) S = KF' (.ro ds) S := rfl
theorem k_sqc : kSq sg KF' E (.ct env) S = KF' (.ct env) S := rfl
def kExpr (env : Env) (K : KF) : KD := fun _ S => K (.nx env) S
theorem x_sExpr : Tx (sExpr fa env S) KF' E = Tx (fa env S) (kExpr env KF') (kX env KF') := by
  unfold sExpr; rw [x_bs]; with_unfolding_all rfl
theorem k_expr : kExpr env KF' d S = KF' (.nx env) S := rfl
def kRet (K : KF) : KD := fun d S => K (.rt d) S
theorem x_sRet : Tx (sRet fa env S) KF' E = Tx (fa env S) (kRet KF') (kX env KF') := by
  unfold sRet; rw [x_bs]; with_unfolding_all rfl
theorem k_ret : kRet KF' d S = KF' (.rt d) S := rfl
def sRetOK (K : KF) : Option Slot → Sto → Prop
  | some (.own ds), S => K (.ro ds) S
  | _, _ => False
theorem x_sRetO : Tx (sRetO i env S) KF' E = sRetOK KF' env[i]? S := by
  unfold sRetO sRetOK; split <;> simp_all [Tx]
theorem k_retO : sRetOK KF' (some (.own ds)) S = KF' (.ro ds) S := rfl
def kRetL (K : KF) : KL := fun ds S => K (.ro ds) S
theorem x_sRetL : Tx (sRetL fs env S) KF' E = Tx (fs env S) (kRetL KF') (kX env KF') := by
  unfold sRetL; rw [x_bs]; with_unfolding_all rfl
theorem k_retL : kRetL KF' ds S = KF' (.ro ds) S := rfl
theorem x_sRetN : Tx (sRetN env S) KF' E = KF' (.rt .non) S := by with_unfolding_all rfl
theorem x_sBrk : Tx (sBrk env S) KF' E = KF' (.bk env) S := by with_unfolding_all rfl
theorem x_sCnt : Tx (sCnt env S) KF' E = KF' (.ct env) S := by with_unfolding_all rfl
def kSet (i : Nat) (env : Env) (K : KF) : KD := fun d S => i < env.length ∧ K (.nx (env.set i (.val d))) S
theorem x_sSet : Tx (sSet i fa env S) KF' E = Tx (fa env S) (kSet i env KF') (kX env KF') := by
  unfold sSet; rw [x_bs]; congr 1; funext x S; unfold kSet setE; rw [x_ite, x_ok]
theorem k_set (h : i < env.length) : kSet i env KF' d S = KF' (.nx (env.set i (.val d))) S := by
  unfold kSet; simp [h]
def kOwn (i : Nat) (env : Env) (K : KF) : KL := fun d S => i < env.length ∧ K (.nx (env.set i (.own d))) S
theorem x_sOwn : Tx (sOwn i fs env S) KF' E = Tx (fs env S) (kOwn i env KF') (kX env KF') := by
  unfold sOwn; rw [x_bs]; congr 1; funext x S; unfold kOwn setE; rw [x_ite, x_ok]
theorem k_own (h : i < env.length) : kOwn i env KF' ds S = KF' (.nx (env.set i (.own ds))) S := by
  unfold kOwn; simp [h]
def tgV : Option Env → (Env → Sto → Prop) → Sto → Prop
  | some e, K, S => K e S
  | none, _, _ => False
theorem tg_some {K : Env → Sto → Prop} : tgV (some env) K S = K env S := rfl
def kTg (g : Tg) (env : Env) (K : KF) : KD := fun d S => tgV (g d env) (fun e S => K (.nx e) S) S
theorem x_sTg : Tx (sTg fa tg env S) KF' E = Tx (fa env S) (kTg tg env KF') (kX env KF') := by
  unfold sTg; rw [x_bs]; congr 1; funext x S; unfold kTg; cases tg x env <;> with_unfolding_all rfl
theorem k_tg : kTg tg env KF' d S = tgV (tg d env) (fun e S => KF' (.nx e) S) S := rfl
theorem gN_ok (h : i < env.length) : gN i d env = some (env.set i (.val d)) := if_pos h
theorem gT_t {gs : List Tg} : gT gs (.tup ds) env = gTs gs ds env := rfl
theorem gTs_n : gTs [] [] env = some env := rfl
theorem gTs_c {g : Tg} {gs : List Tg} : gTs (g :: gs) (d :: ds) env = (g d env).bind (gTs gs ds) := rfl
def kIf (f g : Sm) (env : Env) (K : KF) (E : EX) : KB := fun b S => if b = true then Tx (f env S) K E else Tx (g env S) K E
theorem x_sIf : Tx (sIf ft sf sg env S) KF' E = Tx (ft env S) (kIf sf sg env KF' E) (kX env KF') := by
  unfold sIf; rw [x_bs]; congr 1; funext b S; cases b <;> with_unfolding_all rfl
theorem k_if : kIf sf sg env KF' E b S = if b = true then Tx (sf env S) KF' E else Tx (sg env S) KF' E := by with_unfolding_all rfl
def kFor (tg : Tg) (body : Sm) (env : Env) (K : KF) (E : EX) : KL := fun ds S => Tx (forL tg body ds env S) K E
theorem x_sFor : Tx (sFor fs tg sf env S) KF' E = Tx (fs env S) (kFor tg sf env KF' E) (kX env KF') := by
  unfold sFor; rw [x_bs]; with_unfolding_all rfl
theorem k_for : kFor tg sf env KF' E ds S = Tx (forL tg sf ds env S) KF' E := by with_unfolding_all rfl
theorem x_sWhile : Tx (sWhile n ft sf env S) KF' E = Tx (whileL ft sf n env S) KF' E := by with_unfolding_all rfl
theorem x_sFrz : Tx (sFrz i sf env S) KF' E = Tx (sf (frzE i env) S) KF' E := by with_unfolding_all rfl
def frzS : Option Slot → Nat → Env → Env
  | some (.own ds), i, env => env.set i (.val (.lst ds))
  | _, _, env => env
theorem frzE_eq : frzE i env = frzS env[i]? i env := by unfold frzE frzS; split <;> simp_all
theorem frz_o : frzS (some (.own ds)) i env = env.set i (.val (.lst ds)) := rfl
theorem frz_v : frzS (some (.val d)) i env = env := rfl
theorem frz_u : frzS (some .un) i env = env := rfl
def slotL : Option Slot → KL → Sto → Prop
  | some (.own ds), K, S => K ds S
  | _, _, _ => False
theorem slotL_o : slotL (some (.own ds)) KL' S = KL' ds S := rfl
def kModE (i : Nat) (env : Env) (K : KF) (S : Sto) : Option (List D) → Prop
  | some es => K (.nx (env.set i (.own es))) S
  | none => False
theorem k_mod {es : List D} : kModE i env KF' S (some es) = KF' (.nx (env.set i (.own es))) S := rfl
theorem x_modE {o : Option (List D)} : Tx (modE i o env S) KF' E = kModE i env KF' S o := by cases o <;> with_unfolding_all rfl
theorem x_withO {f : List D → Env → Sto → R Fl} : Tx (withO i f env S) KF' E = slotL env[i]? (fun ds S => Tx (f ds env S) KF' E) S := by
  unfold withO slotL; split <;> simp_all [Tx]
def kAppL (i : Nat) (fa : Ex) (env : Env) (K : KF) (E : EX) : KL := fun ds S => Tx (fa env S) (fun d S1 => kModE i env K S1 (hApp d ds)) (kX env K)
def kApp (i : Nat) (ds : List D) (env : Env) (K : KF) : KD := fun d S1 => kModE i env K S1 (hApp d ds)
theorem x_sApp : Tx (sApp i fa env S) KF' E = slotL env[i]? (kAppL i fa env KF' E) S := by
  unfold sApp; rw [x_withO]; congr 1; funext ds S; rw [x_bs]; unfold kAppL; congr 1; funext d S1; exact x_modE
theorem k_appL : kAppL i fa env KF' E ds S = Tx (fa env S) (kApp i ds env KF') (kX env KF') := by with_unfolding_all rfl
theorem k_app : kApp i ds env KF' d S = kModE i env KF' S (hApp d ds) := rfl
theorem hApp_ok (h : ds.length < 16777216) : hApp d ds = some (ds ++ [d]) := if_pos (by show _ < sizeLine; rw [PySem.sizeLine_eq]; exact h)
def kInsL (i : Nat) (fa fb : Ex) (env : Env) (K : KF) (E : EX) : KL := fun ds S => Tx (fa env S) (fun d S1 => Tx (fb env S1) (fun y S2 => kModE i env K S2 (hIns d y ds)) (kX env K)) (kX env K)
def kIns1 (i : Nat) (ds : List D) (fb : Ex) (env : Env) (K : KF) (E : EX) : KD := fun d S1 => Tx (fb env S1) (fun y S2 => kModE i env K S2 (hIns d y ds)) (kX env K)
def kIns2 (i : Nat) (ds : List D) (d : D) (env : Env) (K : KF) : KD := fun y S2 => kModE i env K S2 (hIns d y ds)
theorem x_sIns : Tx (sIns i fa fb env S) KF' E = slotL env[i]? (kInsL i fa fb env KF' E) S := by
  unfold sIns; rw [x_withO]; congr 1; funext ds S; simp only [x_bs, x_modE]; rfl
theorem k_insL : kInsL i fa fb env KF' E ds S = Tx (fa env S) (kIns1 i ds fb env KF' E) (kX env KF') := by with_unfolding_all rfl
theorem k_ins1 : kIns1 i ds fb env KF' E d S = Tx (fb env S) (kIns2 i ds d env KF') (kX env KF') := by with_unfolding_all rfl
theorem k_ins2 : kIns2 i ds d env KF' y S = kModE i env KF' S (hIns d y ds) := rfl
theorem hIns_ok {k : Int} {y : D} (h : ds.length < 16777216) (h0 : 0 ≤ k) (h1 : k < 9223372036854775808) : hIns (.int k) y ds = some (ds.take k.toNat ++ [y] ++ ds.drop k.toNat) := if_pos ⟨by show _ < sizeLine; rw [PySem.sizeLine_eq]; exact h, h0, by omega⟩
def kSlAL (i : Nat) (fa : Ex) (env : Env) (K : KF) (E : EX) : KL := fun ds S => Tx (fa env S) (fun d S1 => kModE i env K S1 (hAll d ds)) (kX env K)
def kSlA (i : Nat) (ds : List D) (env : Env) (K : KF) : KD := fun d S1 => kModE i env K S1 (hAll d ds)
theorem x_sSlA : Tx (sSlA i fa env S) KF' E = slotL env[i]? (kSlAL i fa env KF' E) S := by
  unfold sSlA; rw [x_withO]; congr 1; funext ds S; rw [x_bs]; unfold kSlAL; congr 1; funext d S1; exact x_modE
theorem k_slAL : kSlAL i fa env KF' E ds S = Tx (fa env S) (kSlA i ds env KF') (kX env KF') := by with_unfolding_all rfl
theorem k_slA : kSlA i ds env KF' d S = kModE i env KF' S (hAll d ds) := rfl
theorem hAll_ok {es : List D} (h : ds.length + es.length ≤ 16777216) : hAll (.lst es) ds = some es := if_pos (by rw [PySem.sizeLine_eq]; exact h)
def kExtL (i : Nat) (fa : Ex) (env : Env) (K : KF) (E : EX) : KL := fun ds S => Tx (fa env S) (fun d S1 => kModE i env K S1 (hExt d ds)) (kX env K)
def kExt (i : Nat) (ds : List D) (env : Env) (K : KF) : KD := fun d S1 => kModE i env K S1 (hExt d ds)
theorem x_sExt : Tx (sExt i fa env S) KF' E = slotL env[i]? (kExtL i fa env KF' E) S := by
  unfold sExt; rw [x_withO]; congr 1; funext ds S; rw [x_bs]; unfold kExtL; congr 1; funext d S1; exact x_modE
theorem k_extL : kExtL i fa env KF' E ds S = Tx (fa env S) (kExt i ds env KF') (kX env KF') := by with_unfolding_all rfl
theorem k_ext : kExt i ds env KF' d S = kModE i env KF' S (hExt d ds) := rfl
theorem hExt_ok {es : List D} (h : ds.length + es.length ≤ 16777216) : hExt (.lst es) ds = some (ds ++ es) := if_pos (by show _ ≤ sizeLine; rw [PySem.sizeLine_eq]; exact h)
def kRevO (i : Nat) (env : Env) (K : KF) : KL := fun ds S => K (.nx (env.set i (.own ds.reverse))) S
theorem x_sRevO : Tx (sRevO i env S) KF' E = slotL env[i]? (kRevO i env KF') S := by
  unfold sRevO; rw [x_withO]; congr 1; funext ds S; exact x_modE
theorem k_revO : kRevO i env KF' ds S = KF' (.nx (env.set i (.own ds.reverse))) S := rfl
def kClrO (i : Nat) (env : Env) (K : KF) : KL := fun ds S => K (.nx (env.set i (.own []))) S
theorem x_sClrO : Tx (sClrO i env S) KF' E = slotL env[i]? (kClrO i env KF') S := by
  unfold sClrO; rw [x_withO]; congr 1; funext ds S; exact x_modE
theorem k_clrO : kClrO i env KF' ds S = KF' (.nx (env.set i (.own []))) S := rfl
def kSetIxL (i : Nat) (fi fv : Ex) (env : Env) (K : KF) (E : EX) : KL := fun ds S => Tx (fv env S) (fun v S1 => Tx (fi env S1) (fun k S2 => kModE i env K S2 (hSet k v ds)) (kX env K)) (kX env K)
def kSetIx1 (i : Nat) (ds : List D) (fi : Ex) (env : Env) (K : KF) (E : EX) : KD := fun v S1 => Tx (fi env S1) (fun k S2 => kModE i env K S2 (hSet k v ds)) (kX env K)
def kSetIx2 (i : Nat) (ds : List D) (v : D) (env : Env) (K : KF) : KD := fun k S2 => kModE i env K S2 (hSet k v ds)
theorem x_sSetIx : Tx (sSetIx i fa fb env S) KF' E = slotL env[i]? (kSetIxL i fa fb env KF' E) S := by
  unfold sSetIx; rw [x_withO]; congr 1; funext ds S; simp only [x_bs, x_modE]; rfl
theorem k_setIxL : kSetIxL i fa fb env KF' E ds S = Tx (fb env S) (kSetIx1 i ds fa env KF' E) (kX env KF') := by with_unfolding_all rfl
theorem k_setIx1 : kSetIx1 i ds fa env KF' E d S = Tx (fa env S) (kSetIx2 i ds d env KF') (kX env KF') := by with_unfolding_all rfl
theorem k_setIx2 : kSetIx2 i ds x env KF' y S = kModE i env KF' S (hSet y x ds) := rfl
def putK (env : Env) (K : KF) : Option Sto → Prop
  | some S4 => K (.nx env) S4
  | none => False
theorem k_putK {S4 : Sto} : putK env KF' (some S4) = KF' (.nx env) S4 := rfl
def kPut1 (fo fk : Ex) (env : Env) (K : KF) (E : EX) : KD := fun v S1 => Tx (fo env S1) (fun o S2 => Tx (fk env S2) (fun k S3 => putK env K (putO o k v S3)) (kX env K)) (kX env K)
def kPut2 (v : D) (fk : Ex) (env : Env) (K : KF) (E : EX) : KD := fun o S2 => Tx (fk env S2) (fun k S3 => putK env K (putO o k v S3)) (kX env K)
def kPut3 (o v : D) (env : Env) (K : KF) : KD := fun k S3 => putK env K (putO o k v S3)
theorem x_sPut : Tx (sPut fa fb fc env S) KF' E = Tx (fc env S) (kPut1 fa fb env KF' E) (kX env KF') := by
  unfold sPut; simp only [x_bs]; unfold kPut1 kX; congr 1; funext v S; congr 1; funext o S; congr 1; funext k S
  cases putO o k v S <;> with_unfolding_all rfl
theorem k_put1 : kPut1 fa fb env KF' E d S = Tx (fa env S) (kPut2 d fb env KF' E) (kX env KF') := by with_unfolding_all rfl
theorem k_put2 : kPut2 d fb env KF' E x S = Tx (fb env S) (kPut3 x d env KF') (kX env KF') := by with_unfolding_all rfl
theorem k_put3 : kPut3 x d env KF' y S = putK env KF' (putO x y d S) := rfl
def kPar (i j : Nat) (env : Env) (K : KF) : KL := fun ds S => match ds with
  | [d, e] => (i < env.length ∧ j < env.length) ∧ K (.nx ((env.set i (.val d)).set j (.val e))) S
  | _ => False
theorem x_sPar : Tx (sPar i j fs env S) KF' E = Tx (fs env S) (kPar i j env KF') (kX env KF') := by
  unfold sPar; rw [x_bs]; congr 1; funext ds S; unfold kPar; split
  · rw [x_ite, x_ok]
  · simp_all [Tx]
theorem k_par {d e : D} (h1 : i < env.length) (h2 : j < env.length) : kPar i j env KF' [d, e] S = KF' (.nx ((env.set i (.val d)).set j (.val e))) S := by
  simp [kPar, h1, h2]
def kPar3 (i j l : Nat) (env : Env) (K : KF) : KL := fun ds S => match ds with
  | [d, e, c] => (i < env.length ∧ j < env.length ∧ l < env.length) ∧ K (.nx (((env.set i (.val d)).set j (.val e)).set l (.val c))) S
  | _ => False
theorem x_sPar3 {l : Nat} : Tx (sPar3 i j l fs env S) KF' E = Tx (fs env S) (kPar3 i j l env KF') (kX env KF') := by
  unfold sPar3; rw [x_bs]; congr 1; funext ds S; unfold kPar3; split
  · rw [x_ite, x_ok]
  · simp_all [Tx]
theorem k_par3 {l : Nat} {d e c : D} (h1 : i < env.length) (h2 : j < env.length) (h3 : l < env.length) : kPar3 i j l env KF' [d, e, c] S = KF' (.nx (((env.set i (.val d)).set j (.val e)).set l (.val c))) S := by
  simp [kPar3, h1, h2, h3]
def kRun (K : KD) (E : EX) : KF := fun fl S => match fl with
  | .nx _ => K .non S
  | .rt d => K d S
  | .xc e _ => E e S
  | _ => False
theorem x_run : Tx (runF n sf ds S) K E = Tx (sf (startE n ds) S) (kRun K E) noE := by
  unfold runF; cases sf (startE n ds) S with
  | ok fl S1 => cases fl <;> with_unfolding_all rfl
  | exc e S1 => with_unfolding_all rfl
  | bad => with_unfolding_all rfl
def kRunL (K : KL) (E : EX) : KF := fun fl S => match fl with
  | .ro ds => K ds S
  | .xc e _ => E e S
  | _ => False
theorem x_runN : Tx (runN n sf ds S) KL' E = Tx (sf (startE n ds) S) (kRunL KL' E) noE := by
  unfold runN; cases sf (startE n ds) S with
  | ok fl S1 => cases fl <;> with_unfolding_all rfl
  | exc e S1 => with_unfolding_all rfl
  | bad => with_unfolding_all rfl
theorem k_runO : kRunL KL' E (.ro ds) S = KL' ds S := rfl
theorem k_runOX {e : XV} : kRunL KL' E (.xc e env) S = E e S := rfl
theorem k_runN : kRun K E (.nx env) S = K .non S := rfl
theorem k_runR : kRun K E (.rt d) S = K d S := rfl
theorem k_runX {e : XV} : kRun K E (.xc e env) S = E e S := rfl
abbrev KP := List (Key × D) → Sto → Prop
variable {KP' : KP} {ps : PairD}
def kP1 (fb : Ex) (ps : PairD) (env : Env) (K : KP) (E : EX) : KD := fun k S => Tx (fb env S) (fun v S => Tx (pairsF ps env S) (fun kvs S => match keyD k with
  | some key => K ((key, v) :: kvs) S
  | none => False) E) E
def kP2 (k : D) (ps : PairD) (env : Env) (K : KP) (E : EX) : KD := fun v S => Tx (pairsF ps env S) (fun kvs S => match keyD k with
  | some key => K ((key, v) :: kvs) S
  | none => False) E
def kP3 (k v : D) (K : KP) : KP := fun kvs S => match keyD k with
  | some key => K ((key, v) :: kvs) S
  | none => False
theorem x_pairsN : Tx (pairsF [] env S) KP' E = KP' [] S := by with_unfolding_all rfl
theorem x_pairsC : Tx (pairsF ((fa, fb) :: ps) env S) KP' E = Tx (fa env S) (kP1 fb ps env KP' E) E := by
  rw [pairsF]; simp only [x_bind]; congr 1; funext k S; unfold kP1; congr 1; funext v S; congr 1; funext kvs S
  cases keyD k <;> with_unfolding_all rfl
theorem k_p1 {k : D} : kP1 fb ps env KP' E k S = Tx (fb env S) (kP2 k ps env KP' E) E := by with_unfolding_all rfl
theorem k_p2 {k v : D} : kP2 k ps env KP' E v S = Tx (pairsF ps env S) (kP3 k v KP') E := by with_unfolding_all rfl
theorem k_p3i {k : Int} {v : D} {kvs : List (Key × D)} : kP3 (.int k) v KP' kvs S = KP' ((.inl k, v) :: kvs) S := rfl
theorem k_p3s {k : Str} {v : D} {kvs : List (Key × D)} : kP3 (.str k) v KP' kvs S = KP' ((.inr k, v) :: kvs) S := rfl
def mkDict (kvs : List (Key × D)) : List (Key × D) := kvs.foldl (fun acc kv => putD acc kv.1 kv.2) []
def kDict (K : KD) : KP := fun kvs S => kvs.length ≤ 15 ∧ K (.obj S.length) (S ++ [.dict (mkDict kvs)])
theorem x_dict : Tx (eDict ps env S) K E = Tx (pairsF ps env S) (kDict K) E := by
  unfold eDict; rw [x_bind]; congr 1; funext kvs S; unfold kDict; rw [x_ite, x_ok]; rfl
theorem k_dict {kvs : List (Key × D)} (h : kvs.length ≤ 15) : kDict K kvs S = K (.obj S.length) (S ++ [.dict (mkDict kvs)]) := by simp [kDict, h]
end
section
variable {S : Sto} {i j : Int}
theorem okMul_64 (h1 : -18446744073709551616 ≤ i) (h2 : i ≤ 18446744073709551616) (h3 : -18446744073709551616 ≤ j) (h4 : j ≤ 18446744073709551616) : okMul i j = true := by
  unfold okMul
  have b : ∀ x : Int, -18446744073709551616 ≤ x → x ≤ 18446744073709551616 → x.natAbs.log2 ≤ 65 := fun x a b => by
    by_cases hx : x.natAbs = 0
    · rw [hx]; decide
    · have : x.natAbs < 2 ^ 66 := by
        have : (2:Nat)^66 = 73786976294838206464 := by decide
        omega
      have := (Nat.log2_lt hx).mpr this
      omega
  have := b i h1 h2
  have := b j h3 h4
  simp; omega
theorem okDiv_64 (h1 : 0 < j) (h2 : j ≤ 18446744073709551616) : okDiv j = true := by
  unfold okDiv
  have : j.natAbs.log2 ≤ 65 := by
    by_cases hx : j.natAbs = 0
    · rw [hx]; decide
    · have : j.natAbs < 2 ^ 66 := by
        have : (2:Nat)^66 = 73786976294838206464 := by decide
        omega
      have := (Nat.log2_lt hx).mpr this
      omega
  simp [h1]; omega
theorem q_add : opAdd (.int i) (.int j) S = .ok (.int (i + j)) S := rfl
theorem q_sub : opSub (.int i) (.int j) S = .ok (.int (i - j)) S := rfl
theorem q_mul (h1 : -18446744073709551616 ≤ i) (h2 : i ≤ 18446744073709551616) (h3 : -18446744073709551616 ≤ j) (h4 : j ≤ 18446744073709551616) : opMul (.int i) (.int j) S = .ok (.int (i * j)) S := by
  show mk _ _ _ = _
  rw [okMul_64 h1 h2 h3 h4]; rfl
theorem q_rep {a : List D} {k : Int} (h1 : 0 ≤ k) (h2 : k ≤ 16777216) (h3 : a.length * k.toNat ≤ 16777216) : opMul (.lst a) (.int k) S = .ok (.lst (List.replicate k.toNat a).flatten) S := by
  show mk _ _ _ = _
  rw [decide_eq_true ⟨by omega, by omega, by rw [PySem.sizeLine_eq]; exact h3⟩]; rfl
theorem q_div (h1 : 0 < j) (h2 : j ≤ 18446744073709551616) : opFdiv (.int i) (.int j) S = .ok (.int (i / j)) S := by
  show mk _ _ _ = _
  rw [okDiv_64 h1 h2]; rfl
theorem q_mod (h1 : 0 < j) : opMod (.int i) (.int j) S = .ok (.int (i % j)) S := by
  show mk _ _ _ = _
  rw [decide_eq_true h1]; rfl
theorem q_lt : cLt (.int i) (.int j) S = .ok (.bl (decide (i < j))) S := rfl
theorem q_le : cLe (.int i) (.int j) S = .ok (.bl (decide (i ≤ j))) S := rfl
theorem q_gt : cGt (.int i) (.int j) S = .ok (.bl (decide (j < i))) S := rfl
theorem q_ge : cGe (.int i) (.int j) S = .ok (.bl (decide (j ≤ i))) S := rfl
theorem q_eq : cEq (.int i) (.int j) S = .ok (.bl (decide (i = j))) S := rfl
theorem q_ne : cNe (.int i) (.int j) S = .ok (.bl (!decide (i = j))) S := rfl
theorem q_is {x : D} : cIs x .non S = .ok (.bl (isNon x)) S := rfl
theorem q_isn {x : D} : cIsNot x .non S = .ok (.bl (!isNon x)) S := rfl
theorem q_isB {a b : Bool} : cIs (.bl a) (.bl b) S = .ok (.bl (decide (a = b))) S := rfl
theorem q_isnI {i : Int} {b : Bool} : cIsNot (.int i) (.bl b) S = .ok (.bl true) S := rfl
theorem q_isnB {a b : Bool} : cIsNot (.bl a) (.bl b) S = .ok (.bl (!decide (a = b))) S := rfl
def kIdx1 (fs : Sem1 (List D)) (env : Env) (K : KD) (E : EX) : KD := fun x S1 => match x with
  | .lst ds => Tx (fs env S1) (fun ys S2 => Tx (pIdx ds ys S2) K E) E
  | _ => False
def kIdx2 (ds : List D) (K : KD) (E : EX) : KL := fun ys S2 => Tx (pIdx ds ys S2) K E
theorem x_idx : Tx (eIdx fa fs env S) K E = Tx (fa env S) (kIdx1 fs env K E) E := by
  unfold eIdx; rw [x_bind]; congr 1; funext x S; unfold kIdx1
  cases x <;> simp only [x_bind, x_bad]
theorem k_idx1 : kIdx1 fs env K E (.lst ds) S = Tx (fs env S) (kIdx2 ds K E) E := rfl
theorem k_idx2 {ys : List D} : kIdx2 ds K E ys S = Tx (pIdx ds ys S) K E := rfl
theorem q_catL {a b : List D} (h : a.length + b.length ≤ 16777216) : opAdd (.lst a) (.lst b) S = .ok (.lst (a ++ b)) S := by
  show mk _ _ _ = _
  rw [okL_of h]; rfl
theorem q_catT {a b : List D} (h : a.length + b.length ≤ 16777216) : opAdd (.tup a) (.tup b) S = .ok (.tup (a ++ b)) S := by
  show mk _ _ _ = _
  rw [okL_of h]; rfl
theorem q_catS {a b : Str} (h : a.length + b.length ≤ 16777216) : opAdd (.str a) (.str b) S = .ok (.str (a ++ b)) S := by
  show mk _ _ _ = _
  rw [okL_of h]; rfl
theorem isNon_non : isNon .non = true := rfl
theorem isNon_int : isNon (.int i) = false := rfl
theorem isNon_bl {b : Bool} : isNon (.bl b) = false := rfl
theorem isNon_str {z : Str} : isNon (.str z) = false := rfl
theorem isNon_tup {ds : List D} : isNon (.tup ds) = false := rfl
theorem isNon_lst {ds : List D} : isNon (.lst ds) = false := rfl
theorem p_divmod (h1 : 0 < j) (h2 : j < 1073741824) : pDivmod [.int i, .int j] S = .ok (.tup [.int (i / j), .int (i % j)]) S := by
  show mk _ _ _ = _
  rw [decide_eq_true ⟨h1, h2⟩]; rfl
theorem p_lenL {ds : List D} : pLen [.lst ds] S = .ok (.int (ds.length : Nat)) S := rfl
theorem p_lenT {ds : List D} : pLen [.tup ds] S = .ok (.int (ds.length : Nat)) S := rfl
theorem p_lenF {ds : List D} : pLen [.frl ds] S = .ok (.int (ds.length : Nat)) S := rfl
theorem p_lenS {z : Str} (h : z.length ≤ 16777216) : pLen [.str z] S = .ok (.int (z.length : Nat)) S := if_pos (by rw [PySem.sizeLine_eq]; exact h)
theorem p_intB {k : Bool} : pInt [.bl k] S = .ok (.int (if k = true then 1 else 0)) S := by cases k <;> with_unfolding_all rfl
theorem p_intI : pInt [.int i] S = .ok (.int i) S := rfl
theorem p_max2 : pMax [.int i, .int j] S = .ok (.int (if i < j then j else i)) S := rfl
theorem p_min2 : pMin [.int i, .int j] S = .ok (.int (if j < i then j else i)) S := rfl
theorem p_tupL {ds : List D} : pTuple [.lst ds] S = .ok (.tup ds) S := rfl
theorem p_tupT {ds : List D} : pTuple [.tup ds] S = .ok (.tup ds) S := rfl
theorem p_lstL {ds : List D} : pList [.lst ds] S = .ok ds S := rfl
theorem p_lstT {ds : List D} : pList [.tup ds] S = .ok ds S := rfl
theorem p_lstF {ds : List D} : pList [.frl ds] S = .ok ds S := rfl
theorem is_intI : isT .int (.int i) = some true := rfl
theorem is_intB {b : Bool} : isT .int (.bl b) = some true := rfl
theorem is_intS {z : Str} : isT .int (.str z) = some false := rfl
theorem is_intN : isT .int .non = some false := rfl
theorem is_intT {ds : List D} : isT .int (.tup ds) = some false := rfl
theorem is_intL {ds : List D} : isT .int (.lst ds) = some false := rfl
theorem is_blI : isT .bool (.int i) = some false := rfl
theorem is_blB {b : Bool} : isT .bool (.bl b) = some true := rfl
theorem is_blS {z : Str} : isT .bool (.str z) = some false := rfl
theorem is_blN : isT .bool .non = some false := rfl
theorem is_blT {ds : List D} : isT .bool (.tup ds) = some false := rfl
theorem is_blL {ds : List D} : isT .bool (.lst ds) = some false := rfl
theorem is_strI : isT .str (.int i) = some false := rfl
theorem is_strB {b : Bool} : isT .str (.bl b) = some false := rfl
theorem is_strS {z : Str} : isT .str (.str z) = some true := rfl
theorem is_strN : isT .str .non = some false := rfl
theorem is_strT {ds : List D} : isT .str (.tup ds) = some false := rfl
theorem is_strL {ds : List D} : isT .str (.lst ds) = some false := rfl
theorem is_tupI : isT .tuple (.int i) = some false := rfl
theorem is_tupB {b : Bool} : isT .tuple (.bl b) = some false := rfl
theorem is_tupS {z : Str} : isT .tuple (.str z) = some false := rfl
theorem is_tupN : isT .tuple .non = some false := rfl
theorem is_tupT {ds : List D} : isT .tuple (.tup ds) = some true := rfl
theorem is_tupL {ds : List D} : isT .tuple (.lst ds) = some false := rfl
theorem is_lstI : isT .list (.int i) = some false := rfl
theorem is_lstB {b : Bool} : isT .list (.bl b) = some false := rfl
theorem is_lstS {z : Str} : isT .list (.str z) = some false := rfl
theorem is_lstN : isT .list .non = some false := rfl
theorem is_lstT {ds : List D} : isT .list (.tup ds) = some false := rfl
theorem is_lstL {ds : List D} : isT .list (.lst ds) = some true := rfl
theorem opIx_lst {ds : List D} : opIx (.lst ds) (.int i) S = opt (atI ds i) id S := rfl
theorem opIx_tup {ds : List D} : opIx (.tup ds) (.int i) S = opt (atI ds i) id S := rfl
theorem opIx_frl {ds : List D} : opIx (.frl ds) (.int i) S = opt (atI ds i) id S := rfl
end

theorem atI_pos {α : Type} {xs : List α} {i : Int} (h0 : 0 ≤ i) (h1 : i < (xs.length : Int)) : atI xs i = xs[i.toNat]? := by
  unfold atI ixN
  rw [if_pos h0, if_pos h1]; rfl
section
variable {α : Type} {a b c d e f : α} {l : List α}
theorem at0 : atI (a :: l) 0 = some a := by rw [atI_pos (by decide) (by simp only [List.length_cons]; omega)]; rfl
theorem at1 : atI (a :: b :: l) 1 = some b := by rw [atI_pos (by decide) (by simp only [List.length_cons]; omega)]; rfl
theorem at2 : atI (a :: b :: c :: l) 2 = some c := by rw [atI_pos (by decide) (by simp only [List.length_cons]; omega)]; rfl
theorem at3 : atI (a :: b :: c :: d :: l) 3 = some d := by rw [atI_pos (by decide) (by simp only [List.length_cons]; omega)]; rfl
theorem at4 : atI (a :: b :: c :: d :: e :: l) 4 = some e := by rw [atI_pos (by decide) (by simp only [List.length_cons]; omega)]; rfl
theorem at5 : atI (a :: b :: c :: d :: e :: f :: l) 5 = some f := by rw [atI_pos (by decide) (by simp only [List.length_cons]; omega)]; rfl
end
theorem cut_ns {α : Type} {xs : List α} {n : Int} (h : 0 ≤ n) : cutA xs none (some n) = xs.take n.toNat := by
  obtain ⟨k, rfl⟩ := Int.eq_ofNat_of_zero_le h
  unfold cutA
  rw [HT.sIx_none, HT.sIx_nat, List.drop_zero, Nat.sub_zero, Int.toNat_natCast]
  by_cases hk : k ≤ xs.length
  · rw [Nat.min_eq_left hk]
  · rw [Nat.min_eq_right (by omega), List.take_of_length_le (Nat.le_refl _), List.take_of_length_le (by omega)]
theorem cut_sn {α : Type} {xs : List α} {n : Int} (h : 0 ≤ n) : cutA xs (some n) none = xs.drop n.toNat := by
  obtain ⟨k, rfl⟩ := Int.eq_ofNat_of_zero_le h
  unfold cutA
  rw [HT.sIx_none, HT.sIx_nat, Int.toNat_natCast]
  by_cases hk : k ≤ xs.length
  · rw [Nat.min_eq_left hk, List.take_of_length_le (by simp)]
  · rw [Nat.min_eq_right (by omega), List.drop_eq_nil_of_le (by omega), List.drop_eq_nil_of_le (by omega)]; simp
theorem cut_ss {α : Type} {xs : List α} {n m : Int} (h : 0 ≤ n) (h2 : 0 ≤ m) : cutA xs (some n) (some m) = (xs.drop n.toNat).take (m.toNat - n.toNat) := by
  obtain ⟨k, rfl⟩ := Int.eq_ofNat_of_zero_le h
  obtain ⟨l, rfl⟩ := Int.eq_ofNat_of_zero_le h2
  unfold cutA
  rw [HT.sIx_nat, HT.sIx_nat, Int.toNat_natCast, Int.toNat_natCast]
  by_cases hk : k ≤ xs.length
  · rw [Nat.min_eq_left hk]
    by_cases hl : l ≤ xs.length
    · rw [Nat.min_eq_left hl]
    · rw [Nat.min_eq_right (by omega), List.take_of_length_le (by simp), List.take_of_length_le (by simp; omega)]
  · rw [Nat.min_eq_right (a := k) (by omega), List.drop_eq_nil_of_le (by omega), List.drop_eq_nil_of_le (by omega)]; simp
theorem sl_L {ds : List D} {lo hi : Option Int} {S : Sto} : opSl (.lst ds) lo hi S = .ok (.lst (cutA ds lo hi)) S := rfl
theorem sl_F {ds : List D} {lo hi : Option Int} {S : Sto} : opSl (.frl ds) lo hi S = .ok (.lst (cutA ds lo hi)) S := rfl
theorem sl_T {ds : List D} {lo hi : Option Int} {S : Sto} : opSl (.tup ds) lo hi S = .ok (.tup (cutA ds lo hi)) S := rfl
theorem sl_S {z : Str} {lo hi : Option Int} {S : Sto} (h : z.length ≤ 16777216) : opSl (.str z) lo hi S = .ok (.str (cutS z lo hi)) S := if_pos (by rw [PySem.sizeLine_eq]; exact h)
/-- behind a turn -/
def kTurn (I : Env → Sto → Prop) (K : KF) : KF := fun fl S => match fl with
  | .nx e => I e S
  | .ct e => I e S
  | .bk e => K (.nx e) S
  | .rt d => K (.rt d) S
  | .xc e env => K (.xc e env) S
  | .ro ds => K (.ro ds) S
section
variable {I : Env → Sto → Prop} {K : KF} {env : Env} {S : Sto} {d : D}
theorem k_turnN : kTurn I K (.nx env) S = I env S := rfl
theorem k_turnC : kTurn I K (.ct env) S = I env S := rfl
theorem k_turnB : kTurn I K (.bk env) S = K (.nx env) S := rfl
theorem k_turnR : kTurn I K (.rt d) S = K (.rt d) S := rfl
theorem k_turnO {ds : List D} : kTurn I K (.ro ds) S = K (.ro ds) S := rfl
theorem k_turnX {e : XV} : kTurn I K (.xc e env) S = K (.xc e env) S := rfl
end
/-- a turn: the target, then the body -/
def turn (tg : Tg) (body : Sm) (d : D) (env : Env) (S : Sto) (K : KF) (E : EX) : Prop := tgV (tg d env) (fun e S => Tx (body e S) K E) S
theorem turn_eq {tg : Tg} {body : Sm} {d : D} {env : Env} {S : Sto} {K : KF} {E : EX} : turn tg body d env S K E = tgV (tg d env) (fun e S => Tx (body e S) K E) S := by with_unfolding_all rfl
theorem forL_nil {tg : Tg} {body : Sm} {env : Env} {S : Sto} {K : KF} {E : EX} : Tx (forL tg body [] env S) K E = K (.nx env) S := by with_unfolding_all rfl
theorem forL_cons {tg : Tg} {body : Sm} {d : D} {ds : List D} {env : Env} {S : Sto} {K : KF} {E : EX} : Tx (forL tg body (d :: ds) env S) K E = turn tg body d env S (kTurn (fun e S => Tx (forL tg body ds e S) K E) K) E := by
  unfold turn
  rw [forL]
  cases h : tg d env with
  | none => with_unfolding_all rfl
  | some e =>
    show Tx (R.bind _ _) _ _ = _
    rw [x_bind]
    show _ = Tx (body e S) _ E
    congr 1; funext fl S; cases fl <;> with_unfolding_all rfl
/-- a for by what holds between its turns -/
theorem for_inv {tg : Tg} {body : Sm} (I : Nat → Env → Sto → Prop) {K : KF} {E : EX} {ds : List D} {env : Env} {S : Sto} (h0 : I 0 env S)
    (step : ∀ i d env S, ds[i]? = some d → I i env S → turn tg body d env S (kTurn (I (i + 1)) K) E)
    (done : ∀ env S, I ds.length env S → K (.nx env) S) : Tx (forL tg body ds env S) K E := by
  have key : ∀ (es : List D) (i : Nat) env S, ds.drop i = es → i ≤ ds.length → I i env S → Tx (forL tg body es env S) K E := by
    intro es
    induction es with
    | nil =>
      intro i env S e hi h
      have : i = ds.length := by
        have := congrArg List.length e
        simp at this; omega
      subst this
      rw [forL_nil]
      exact done env S h
    | cons d es ih =>
      intro i env S e hi h
      have hlt : i < ds.length := by
        have := congrArg List.length e
        simp at this; omega
      have hd : ds[i]? = some d := by
        have h1 : (ds.drop i)[0]? = some d := by rw [e]; rfl
        simpa using h1
      have he : ds.drop (i + 1) = es := by
        have h1 : (ds.drop i).drop 1 = es := by rw [e]; rfl
        rw [List.drop_drop] at h1; exact h1
      have st := step i d env S hd h
      rw [forL_cons]
      unfold turn at st ⊢
      cases ht : tg d env with
      | none => rw [ht] at st; exact st
      | some e2 =>
        rw [ht] at st
        refine Tx.use (show Tx (body e2 S) _ E from st) fun fl S1 q => ?_
        cases fl with
        | nx e1 => exact ih (i + 1) e1 S1 he hlt q
        | ct e1 => exact ih (i + 1) e1 S1 he hlt q
        | bk e1 => exact q
        | rt d => exact q
        | xc e e1 => exact q
        | ro d => exact q
  exact key ds 0 env S rfl (Nat.zero_le _) h0
theorem zipD_len {a b : List D} : (zipD a b).length = min a.length b.length := by simp [zipD]
theorem enumD_len {a : List D} : (enumD a).length = a.length := by simp [enumD]
theorem rangeD_len {lo hi : Int} : (rangeD lo hi).length = (hi - lo).toNat := by simp [rangeD]
theorem rangeD_get {lo hi : Int} {i : Nat} {d : D} (h : (rangeD lo hi)[i]? = some d) : d = .int (lo + (i : Nat)) ∧ lo + (i : Nat) < hi := by
  unfold rangeD at h
  rw [List.getElem?_map] at h
  obtain ⟨j, h1, rfl⟩ := Option.map_eq_some_iff.mp h
  have h2 := List.getElem?_eq_some_iff.mp h1
  obtain ⟨h3, h4⟩ := h2
  simp at h3 h4
  subst h4
  exact ⟨rfl, by omega⟩
/-- a for over a range -/
theorem rng_inv {tg : Tg} {body : Sm} (I : Int → Env → Sto → Prop) {K : KF} {E : EX} {lo hi : Int} {env : Env} {S : Sto} (h0 : I lo env S)
    (step : ∀ i env S, lo ≤ i → i < hi → I i env S → turn tg body (.int i) env S (kTurn (I (i + 1)) K) E)
    (hl : lo ≤ hi) (done : ∀ env S, I hi env S → K (.nx env) S) : Tx (forL tg body (rangeD lo hi) env S) K E := by
  refine for_inv (fun i env S => I (lo + (i : Nat)) env S) (by simpa using h0) (fun i d env S e h => ?_) (fun env S h => ?_)
  · obtain ⟨rfl, h2⟩ := rangeD_get e
    have := step _ env S (by omega) h2 h
    have e : (fun env S => I (lo + ((i + 1 : Nat) : Int)) env S) = I (lo + (i : Nat) + 1) := by
      have e : lo + ((i + 1 : Nat) : Int) = lo + (i : Nat) + 1 := by omega
      rw [e]
    rw [e]
    exact this
  · rw [rangeD_len, Int.toNat_of_nonneg (by omega)] at h
    have e : lo + (hi - lo) = hi := by omega
    rw [e] at h
    exact done env S h
/-- behind a while's turn -/
def kWt (I : Env → Sto → Prop) (μ : Env → Sto → Nat) (m : Nat) (K : KF) : KF := fun fl S => match fl with
  | .nx e => I e S ∧ μ e S < m
  | .ct e => I e S ∧ μ e S < m
  | .bk e => K (.nx e) S
  | .rt d => K (.rt d) S
  | .xc e env => K (.xc e env) S
  | .ro ds => K (.ro ds) S
section
variable {I : Env → Sto → Prop} {μ : Env → Sto → Nat} {m : Nat} {K : KF} {env : Env} {S : Sto} {d : D}
theorem k_wtN : kWt I μ m K (.nx env) S = (I env S ∧ μ env S < m) := rfl
theorem k_wtC : kWt I μ m K (.ct env) S = (I env S ∧ μ env S < m) := rfl
theorem k_wtB : kWt I μ m K (.bk env) S = K (.nx env) S := rfl
theorem k_wtR : kWt I μ m K (.rt d) S = K (.rt d) S := rfl
theorem k_wtO {ds : List D} : kWt I μ m K (.ro ds) S = K (.ro ds) S := rfl
theorem k_wtX {e : XV} : kWt I μ m K (.xc e env) S = K (.xc e env) S := rfl
end
def kWc (body : Sm) (I : Env → Sto → Prop) (μ : Env → Sto → Nat) (m : Nat) (env : Env) (K : KF) (E : EX) : KB := fun b S => if b = true then Tx (body env S) (kWt I μ m K) E else K (.nx env) S
theorem k_wc {body : Sm} {I : Env → Sto → Prop} {μ : Env → Sto → Nat} {m : Nat} {env : Env} {K : KF} {E : EX} {b : Bool} {S : Sto} : kWc body I μ m env K E b S = if b = true then Tx (body env S) (kWt I μ m K) E else K (.nx env) S := by with_unfolding_all rfl
/-- a while by what holds between its turns and a number that falls -/
theorem while_inv {c : Sem1 Bool} {body : Sm} (I : Env → Sto → Prop) (μ : Env → Sto → Nat) {K : KF} {E : EX}
    {n : Nat} {env : Env} {S : Sto} (h : I env S) (hm : μ env S < n)
    (step : ∀ env S, I env S → Tx (c env S) (kWc body I μ (μ env S) env K E) (kX env K)) : Tx (whileL c body n env S) K E := by
  induction n generalizing env S with
  | zero => omega
  | succ n ih =>
    rw [whileL, x_bs]
    refine Tx.mono (step env S h) (fun b S1 q => ?_) (fun _ _ z => z)
    unfold kWc at q
    cases b with
    | false => exact (x_ok (Q := K)).symm ▸ q
    | true =>
      show Tx (R.bind _ _) _ _
      rw [x_bind]
      refine Tx.use (show Tx (body env S1) _ E from q) fun fl S2 q2 => ?_
      cases fl with
      | nx e => exact ih q2.1 (by have := q2.2; omega)
      | ct e => exact ih q2.1 (by have := q2.2; omega)
      | bk e => exact (x_ok (Q := K)).symm ▸ q2
      | rt d => exact (x_ok (Q := K)).symm ▸ q2
      | xc e e1 => exact (x_ok (Q := K)).symm ▸ q2
      | ro d => exact (x_ok (Q := K)).symm ▸ q2
/-- the element's part of a turn -/
def kLe (elt : Ex) (env : Env) (Q1 : KD) (Q0 : Sto → Prop) : KB := fun b S => if b = true then Tx (elt env S) Q1 noE else Q0 S
theorem k_le {elt : Ex} {env : Env} {Q1 : KD} {Q0 : Sto → Prop} {b : Bool} {S : Sto} : kLe elt env Q1 Q0 b S = if b = true then Tx (elt env S) Q1 noE else Q0 S := by with_unfolding_all rfl
def turnC (tg : Tg) (c : Sem1 Bool) (elt : Ex) (d : D) (env : Env) (S : Sto) (Q1 : KD) (Q0 : Sto → Prop) : Prop := tgV (tg d env) (fun e S => Tx (c e S) (kLe elt e Q1 Q0) noE) S
theorem turnC_eq {tg : Tg} {c : Sem1 Bool} {elt : Ex} {d : D} {env : Env} {S : Sto} {Q1 : KD} {Q0 : Sto → Prop} : turnC tg c elt d env S Q1 Q0 = tgV (tg d env) (fun e S => Tx (c e S) (kLe elt e Q1 Q0) noE) S := by with_unfolding_all rfl
theorem noX_tx {α : Type} {r : R α} {Q : α → Sto → Prop} {E : EX} (h : Tx r Q noE) : Tx (noX r) Q E := by
  cases r with
  | ok a S => rw [x_ok] at h; show Tx (.ok a S) Q E; rw [x_ok]; exact h
  | exc e S => rw [x_exc] at h; exact h.elim
  | bad => rw [x_bad] at h; exact h.elim
theorem lcL_nil {tg : Tg} {c : Sem1 Bool} {elt : Ex} {env : Env} {S : Sto} {K : KL} {E : EX} : Tx (lcL tg c elt env [] S) K E = K [] S := by with_unfolding_all rfl
/-- a comprehension by its turns, one by one -/
theorem lcL_cons {tg : Tg} {c : Sem1 Bool} {elt : Ex} {d : D} {ds : List D} {env : Env} {S : Sto} {K : KL} {E : EX}
    (h : turnC tg c elt d env S (fun y S2 => Tx (lcL tg c elt env ds S2) (fun ys S3 => K (y :: ys) S3) E) (fun S1 => Tx (lcL tg c elt env ds S1) K E)) : Tx (lcL tg c elt env (d :: ds) S) K E := by
  rw [lcL]
  unfold turnC at h
  cases ht : tg d env with
  | none => rw [ht] at h; exact h.elim
  | some e2 =>
    rw [ht] at h
    show Tx (R.bind _ _) _ _
    rw [x_bind]
    refine noX_tx ((show Tx (c e2 S) _ noE from h).use fun b S1 q => ?_)
    unfold kLe at q
    cases b with
    | false => exact q
    | true =>
      show Tx (R.bind _ _) _ _
      rw [x_bind]
      refine noX_tx (Tx.use (show Tx (elt e2 S1) _ noE from q) fun y S2 q2 => ?_)
      rw [x_bind]
      refine q2.mono (fun ys S3 z => ?_) (fun _ _ z => z)
      rw [x_ok]; exact z
/-- a comprehension whose parts change nothing -/
theorem lc_pure {tg : Tg} {c : Sem1 Bool} {elt : Ex} {env : Env} {S : Sto} {K : KL} {E : EX} (p : D → Bool) (f : D → D) {ds : List D}
    (h : ∀ d ∈ ds, turnC tg c elt d env S (fun y S2 => p d = true ∧ y = f d ∧ S2 = S) (fun S2 => p d = false ∧ S2 = S))
    (k : K ((ds.filter p).map f) S) : Tx (lcL tg c elt env ds S) K E := by
  induction ds generalizing K with
  | nil => rw [lcL_nil]; exact k
  | cons d ds ih =>
    refine lcL_cons ?_
    have hd := h d List.mem_cons_self
    have ht := fun e he => h e (List.mem_cons_of_mem _ he)
    unfold turnC at hd ⊢
    cases hg : tg d env with
    | none => rw [hg] at hd; exact hd
    | some e2 =>
      rw [hg] at hd
      refine Tx.use (show Tx (c e2 S) _ noE from hd) fun b S1 q => ?_
      unfold kLe at q ⊢
      cases b with
      | false =>
        obtain ⟨hp, rfl⟩ := q
        exact ih ht (by simpa [hp] using k)
      | true =>
        refine Tx.use (show Tx (elt e2 S1) _ noE from q) fun y S2 ⟨hp, hy, hS⟩ => ?_
        subst hy hS
        exact ih ht (by simpa [hp] using k)
/-- .. without an if -/
theorem lc_map {tg : Tg} {elt : Ex} {env : Env} {S : Sto} {K : KL} {E : EX} (f : D → D) {ds : List D}
    (h : ∀ d ∈ ds, turnC tg tT elt d env S (fun y S2 => y = f d ∧ S2 = S) (fun _ => False))
    (k : K (ds.map f) S) : Tx (lcL tg tT elt env ds S) K E := by
  refine lc_pure (fun _ => true) f (fun d hd => ?_) (by rw [List.filter_eq_self.mpr (fun _ _ => rfl)]; exact k)
  have := h d hd
  unfold turnC at this ⊢
  cases hg : tg d env with
  | none => rw [hg] at this; exact this
  | some e2 =>
    rw [hg] at this
    rw [tg_some, x_tT] at this ⊢
    unfold kLe at this ⊢
    rw [if_pos rfl] at this ⊢
    exact this.use fun y S2 ⟨h1, h2⟩ => ⟨rfl, h1, h2⟩
section
variable {a b : Int}
theorem olt_t (h : a < b) : (a < b) = True := eq_true h
theorem olt_f (h : b ≤ a) : (a < b) = False := eq_false (by omega)
theorem ole_t (h : a ≤ b) : (a ≤ b) = True := eq_true h
theorem ole_f (h : b < a) : (a ≤ b) = False := eq_false (by omega)
theorem oeq_t (h : a = b) : (a = b) = True := eq_true h
theorem oeq_lt (h : a < b) : (a = b) = False := eq_false (by omega)
theorem oeq_gt (h : b < a) : (a = b) = False := eq_false (by omega)
end
theorem ofS_eq (a b : String) : (Str.ofString a = Str.ofString b) = (a = b) := by
  refine propext ⟨fun h => ?_, fun h => by rw [h]⟩
  have h1 : (Str.ofString a).cps = (Str.ofString b).cps := by rw [h]
  unfold Str.ofString at h1
  rw [cpsOfBytes_string, cpsOfBytes_string] at h1
  have h2 : a.toList.map Char.toNat = b.toList.map Char.toNat := by simpa using h1
  have h3 : a.toList = b.toList := by
    refine List.map_inj_right (f := Char.toNat) (fun x y e => ?_) |>.mp h2
    exact Char.ext (UInt32.toNat_inj.mp e)
  exact String.toList_inj.mp h3
def kMid (I : Env → Sto → Prop) (K : KF) : KF := fun fl S => match fl with
  | .nx e => I e S
  | .ct e => K (.ct e) S
  | .bk e => K (.bk e) S
  | .rt d => K (.rt d) S
  | .xc e env => K (.xc e env) S
  | .ro ds => K (.ro ds) S
section
variable {I : Env → Sto → Prop} {K : KF} {env : Env} {S : Sto} {d : D} {E : EX} {sf sg sh : Sm}
theorem k_midN : kMid I K (.nx env) S = I env S := rfl
theorem k_midC : kMid I K (.ct env) S = K (.ct env) S := rfl
theorem k_midB : kMid I K (.bk env) S = K (.bk env) S := rfl
theorem k_midR : kMid I K (.rt d) S = K (.rt d) S := rfl
theorem k_midO {ds : List D} : kMid I K (.ro ds) S = K (.ro ds) S := rfl
theorem k_midX {e : XV} : kMid I K (.xc e env) S = K (.xc e env) S := rfl
end
def kFnB (n : Nat) (sem : FnSem) (K : KD) : KL := fun ds S => (ds.length = n ∧ scpL 0 ds = true) ∧ Tx (sem ds []) (fun d _ => nol d = true ∧ K d S) noE
def kNol (K : KD) (S : Sto) : KD := fun d _ => nol d = true ∧ K d S
theorem x_fnB {n : Nat} {sem : FnSem} {fs : Sem1 (List D)} {env : Env} {S : Sto} {K : KD} {E : EX} : Tx (eFnB n sem fs env S) K E = Tx (fs env S) (kFnB n sem K) E := by
  unfold eFnB; rw [x_bind]; congr 1; funext ds S1; unfold kFnB
  split
  · rename_i h
    simp only [h, and_self, true_and]
    cases sem ds [] with
    | ok d S2 =>
      simp only [x_ok]
      split
      · rename_i g; simp [x_ok, g]
      · rename_i g; simp [x_bad, g]
    | exc e S2 => simp [x_exc, x_bad, noE]
    | bad => simp [x_bad]
  · rename_i h
    simp [x_bad, h]
theorem k_fnB {n : Nat} {sem : FnSem} {ds : List D} {S : Sto} {K : KD} (h : ds.length = n) (hs : scpL 0 ds = true) : kFnB n sem K ds S = Tx (sem ds []) (kNol K S) noE := by
  unfold kFnB kNol; simp [h, hs]
section
variable {K : KD} {S S' : Sto}
theorem k_nolB {b : Bool} : kNol K S (.bl b) S' = K (.bl b) S := by simp [kNol, nol]
theorem k_nolI {i : Int} : kNol K S (.int i) S' = K (.int i) S := by simp [kNol, nol]
theorem k_nolS {x : Str} : kNol K S (.str x) S' = K (.str x) S := by simp [kNol, nol]
theorem k_nolN : kNol K S .non S' = K .non S := by simp [kNol, nol]
end
def kStB (K : KB) (S : Sto) : KB := fun b _ => K b S
section
variable {bs : List Bool} {env : Env} {S S' : Sto} {K : KD} {KB' : KB} {E : EX} {t : Sem1 Bool} {f : Ex} {b : Bool} {i : Int} {x : Str} {d : D} {ds : List D} {s : Slot}
theorem x_tStill : Tx (tStill bs t env S) KB' E = Tx (t (envB bs env) []) (kStB KB' S) noE := by
  unfold tStill kStB
  cases t (envB bs env) [] with
  | ok d S2 => simp only [x_ok]
  | exc e S2 => simp [x_exc, x_bad, noE]
  | bad => simp [x_bad]
theorem k_stB : kStB KB' S b S' = KB' b S := rfl
theorem x_eStill : Tx (eStill bs f env S) K E = Tx (f (envB bs env) []) (kNol K S) noE := by
  unfold eStill kNol
  cases f (envB bs env) [] with
  | ok d S2 =>
    simp only [x_ok]
    split
    · rename_i g; simp [x_ok, g]
    · rename_i g; simp [x_bad, g]
  | exc e S2 => simp [x_exc, x_bad, noE]
  | bad => simp [x_bad]
theorem envB_t : envB (true :: bs) (s :: env) = frzB s :: envB bs env := rfl
theorem envB_f : envB (false :: bs) (s :: env) = .un :: envB bs env := rfl
theorem envB_n : envB [] (s :: env) = .un :: envB [] env := rfl
theorem envB_e : envB bs [] = [] := by cases bs with
  | nil => rfl
  | cons b bs => cases b <;> rfl
theorem frzB_u : frzB .un = .un := rfl
theorem frzB_o (h : scpL 0 ds = true) : frzB (.own ds) = .val (.lst ds) := if_pos h
theorem frzB_v (h : scp 0 d = true) : frzB (.val d) = .val d := if_pos h
theorem frzB_i : frzB (.val (.int i)) = .val (.int i) := frzB_v (d := (.int i)) rfl
theorem frzB_b : frzB (.val (.bl b)) = .val (.bl b) := frzB_v (d := (.bl b)) rfl
theorem frzB_s : frzB (.val (.str x)) = .val (.str x) := frzB_v (d := (.str x)) rfl
theorem frzB_non : frzB (.val .non) = .val .non := frzB_v (d := .non) rfl
theorem frzB_t (h : scpL 0 ds = true) : frzB (.val (.tup ds)) = .val (.tup ds) := if_pos (by simpa [scp] using h)
theorem frzB_l (h : scpL 0 ds = true) : frzB (.val (.lst ds)) = .val (.lst ds) := if_pos (by simpa [scp] using h)
end
section
variable {S : Sto} {k : Bool} {i : Int} {z : Str}
theorem q_addBI : opAdd (.bl k) (.int i) S = .ok (.int (tI k + i)) S := rfl
theorem q_addIB : opAdd (.int i) (.bl k) S = .ok (.int (i + tI k)) S := rfl
theorem q_subBI : opSub (.bl k) (.int i) S = .ok (.int (tI k - i)) S := rfl
theorem q_subIB : opSub (.int i) (.bl k) S = .ok (.int (i - tI k)) S := rfl
theorem p_strB : pStr [.bl k] S = .ok (.str (if k then "True" else "False")) S := rfl
theorem p_strS : pStr [.str z] S = .ok (.str z) S := rfl
theorem tI_t : tI true = 1 := rfl
theorem tI_f : tI false = 0 := rfl
end
def kUpper (K : KD) : KD := fun d S => match d with
  | .str x => x.length ≤ 5592405 ∧ K (.str (Txt.upper x)) S
  | _ => False
theorem q_neSS {x y : Str} : cNe (.str x) (.str y) S = .ok (.bl (!(x == y))) S := rfl
end G

namespace G
open PySem L2
local macro_rules
  | `(tactic| simp_arith only [$xs,*]) => `(tactic| simp -implicitDefEqProofs (disch := first | assumption | omega | (simp only [List.length_cons, List.length_nil, List.length_append, List.length_map, List.length_set, List.length_take, List.length_drop, List.length_reverse, rangeD_len, zipD_len, enumD_len] <;> omega)) only [x_ok, at0, at1, at2, at3, at4, at5, x_dict, k_dict, x_pairsN, x_pairsC, k_p1, k_p2, k_p3i, k_p3s, cut_ns, cut_sn, cut_ss, sl_L, sl_F, sl_T, sl_S, x_exc, slotV_v, slotO_v, slotO_o, x_var, x_own, x_c, x_bin, k_bin1, k_bin2, x_neg, k_neg, x_tup, k_tup, x_lst, k_lst, x_nCat, k_cat1, k_cat2, x_nRep, k_rep1, k_rep2, x_frz, k_frz, x_nil, x_cons, k_cons1, k_cons2, x_val, k_val, tr_bl, tr_non, tr_int, tr_lst, tr_tup, tr_frl, tr_str, x_and, x_or, x_not, k_and, k_or, k_not, x_tT, x_ifE, k_ifE, x_andV, x_orV, x_notV, k_andV, k_orV, k_notV, x_chain, k_ch1, k_ch2, k_ch3, x_call, x_callN, k_call, x_opt, k_some, x_isi, k_isi, x_oNone, x_oSome, k_oSome, x_nSl, k_nsl1, k_nsl2, k_nsl3L, k_nsl3F, x_sl, k_sl1, k_sl2, k_sl3, x_rev, k_rev, k_revT, x_fn, k_fn, x_fnB, k_fnB, x_tStill, k_stB, x_eStill, envB_t, envB_f, envB_n, envB_e, frzB_u, frzB_o, frzB_v, frzB_i, frzB_b, frzB_s, frzB_non, frzB_t, frzB_l, k_nolB, k_nolI, k_nolS, k_nolN, x_seq, k_seqL, k_seqT, k_seqF, k_seqS, x_rng1, k_rng1, x_rng2, k_rng2a, k_rng2b, x_enum, k_enum, k_enumT, x_zip, k_zipL, k_zipT, k_zipM, k_zipN, x_lc, k_lc, x_sNil, x_sSeq, k_sqn, k_sqr, k_sqb, k_sqc, k_sqx, x_sExpr, k_expr, x_sRet, k_ret, x_sRetN, x_sRetO, k_retO, x_sRetL, k_retL, x_nFn, k_fnN, k_sqo, k_turnO, k_wtO, x_runN, k_runO, k_runOX, x_sBrk, x_sCnt, x_sSet, k_set, x_sOwn, k_own, tg_some, x_sTg, k_tg, gN_ok, gT_t, gTs_n, gTs_c, x_sIf, k_if, x_sFor, k_for, x_sWhile, x_sFrz, frzE_eq, frz_o, frz_v, frz_u, slotL_o, k_mod, x_modE, x_withO, x_sApp, k_appL, k_app, hApp_ok, x_sSlA, k_slAL, k_slA, hAll_ok, x_sIns, k_insL, k_ins1, k_ins2, hIns_ok, x_sRevO, k_revO, x_sClrO, k_clrO, x_sExt, k_extL, k_ext, hExt_ok, x_sSetIx, k_setIxL, k_setIx1, k_setIx2, k_putK, x_sPut, k_put1, k_put2, k_put3, x_sPar, k_par, x_sPar3, k_par3, x_run, k_runN, k_runR, k_runX, k_x, q_add, q_sub, q_addBI, q_addIB, q_subBI, q_subIB, p_strB, p_strS, tI_t, tI_f, q_mul, q_rep, q_div, q_mod, q_lt, q_le, q_gt, q_ge, q_eq, q_ne, q_is, q_isn, q_isB, q_isnB, q_isnI, x_idx, k_idx1, k_idx2, q_catL, q_catT, q_catS, isNon_non, isNon_int, isNon_bl, isNon_str, isNon_tup, isNon_lst, p_divmod, p_lenL, p_lenT, p_lenF, p_lenS, p_intB, p_intI, p_max2, p_min2, p_tupL, p_tupT, p_lstL, p_lstT, p_lstF, is_intI, is_intB, is_intS, is_intN, is_intT, is_intL, is_blI, is_blB, is_blS, is_blN, is_blT, is_blL, is_strI, is_strB, is_strS, is_strN, is_strT, is_strL, is_tupI, is_tupB, is_tupS, is_tupN, is_tupT, is_tupL, is_lstI, is_lstB, is_lstS, is_lstN, is_lstT, is_lstL, opIx_lst, opIx_tup, opIx_frl, k_midN, k_midC, k_midB, k_midR, k_midO, k_midX, k_turnN, k_turnC, k_turnB, k_turnR, k_turnX, k_wtN, k_wtC, k_wtB, k_wtR, k_wtX, k_wc, k_le, frzE_eq, turn_eq, turnC_eq, k_le, forL_nil, lcL_nil, startE, decide_eq_true_eq, decide_eq_false_iff_not, decide_true, decide_false, Bool.not_eq_true', Bool.not_eq_eq_eq_not, Bool.not_true, Bool.not_false, Bool.true_eq_false, Bool.false_eq_true, Bool.not_not, Option.bind_some, Option.map_some, List.map_cons, List.map_nil, List.length_cons, List.length_nil, List.cons_append, List.nil_append, List.set_cons_zero, List.set_cons_succ, List.getElem?_cons_zero, List.getElem?_cons_succ, List.length_set, ↓reduceIte, if_true, if_false, ite_self, List.replicate, List.take_succ_cons, List.take_zero, List.drop_succ_cons, List.drop_zero, List.flatten_cons, List.flatten_nil, Int.reduceToNat, List.isEmpty_cons, List.isEmpty_nil, Nat.reduceAdd, Nat.reduceSub, Nat.reduceLT, Nat.reduceLeDiff, Nat.reduceEqDiff, Int.cast_ofNat_Int, not_true_eq_false, not_false_eq_true, Int.reduceAdd, Int.reduceSub, Int.reduceMul, Int.reduceLT, Int.reduceLE, Int.reduceEq, Int.reduceNe, Int.reduceNeg, Int.zero_add, ne_eq, id, wipeE, lcL_nil, eq_self, and_true, true_and, D.int.injEq, D.bl.injEq, ofS_eq, String.reduceEq, $xs,*])

/-- the tape as it lies -/
def tp (ns : List Int) (sp l : Int) : MO := .dict [(.inr "cells", .lst (ns.map D.int)), (.inr "spot", .int sp), (.inr "left", .int l)]
/-- a tape ahead of R, of which at most n cells were asked -/
def Tp (n : Nat) (R S : Sto) : Prop := ∃ ns sp l, S = tp ns sp l :: R ∧ ns.length ≤ 63 ∧ 0 ≤ sp ∧ sp ≤ n ∧ 0 ≤ l
theorem Tp.mono {n m : Nat} {R S : Sto} (h : Tp n R S) (l : n ≤ m) : Tp m R S := by
  obtain ⟨ns, sp, le, a, b, c, d, e⟩ := h
  exact ⟨ns, sp, le, a, b, c, by omega, e⟩
section
variable {ns : List Int} {sp l i : Int} {R : Sto}
theorem g_cells {L : List D} (h : ns.map D.int = L) : opGet (.obj 0) (.str "cells") (tp ns sp l :: R) = .ok (.lst L) (tp ns sp l :: R) := by subst h; rfl
theorem g_spot : opGet (.obj 0) (.str "spot") (tp ns sp l :: R) = .ok (.int sp) (tp ns sp l :: R) := rfl
theorem g_left : opGet (.obj 0) (.str "left") (tp ns sp l :: R) = .ok (.int l) (tp ns sp l :: R) := rfl
theorem size3 : 3 < sizeLine := by rw [PySem.sizeLine_eq]; decide
theorem p_spot : putO (.obj 0) (.str "spot") (.int i) (tp ns sp l :: R) = some (tp ns i l :: R) := if_pos (e := none) size3
theorem p_left : putO (.obj 0) (.str "left") (.int i) (tp ns sp l :: R) = some (tp ns sp i :: R) := if_pos (e := none) size3
end
theorem atI_ok {α : Type} {xs : List α} {i : Int} (h0 : 0 ≤ i) (h1 : i < (xs.length : Int)) : ∃ x, atI xs i = some x ∧ x ∈ xs := by
  rw [atI_pos h0 h1]
  have hl : i.toNat < xs.length := by omega
  exact ⟨xs[i.toNat], List.getElem?_eq_getElem hl, List.getElem_mem hl⟩



theorem pow6 {S : Sto} : opPow (.int 10) (.int 6) S = .ok (.int 1000000) S := rfl
theorem pow18 {S : Sto} : opPow (.int 10) (.int 18) S = .ok (.int 1000000000000000000) S := rfl
/-- the cells, or one nought -/
def cellsL (ns : List Int) : List Int := if ns.isEmpty then [0] else ns
theorem primes_ok {i : Int} (h : 0 ≤ i) (h2 : i < 7) : ∃ p, atI [D.int 2147483647, D.int 2147483629, D.int 2147483587, D.int 2147483579, D.int 2147483563, D.int 2147483549, D.int 2147483543] i = some (.int p) ∧ 2147483543 ≤ p ∧ p ≤ 2147483647 := by
  have : i = 0 ∨ i = 1 ∨ i = 2 ∨ i = 3 ∨ i = 4 ∨ i = 5 ∨ i = 6 := by omega
  rcases this with rfl | rfl | rfl | rfl | rfl | rfl | rfl <;> exact ⟨_, rfl, by decide, by decide⟩
def bnd : Nat → Int
  | 0 => 0
  | k + 1 => 524288 * (if k = 0 then 1 else bnd k)
theorem draw_step (k : Nat) (self : FnSem) (B : Int)
    (hs : ∀ n m R S, Tp n R S → n + k ≤ 1000000000000000 → 0 < m → m ≤ B → Tri (self [.obj 0, .int m] S) fun d S' => ∃ i, d = .int i ∧ 0 ≤ i ∧ i < m ∧ Tp (n + k) R S')
    {n : Nat} {m : Int} {R S : Sto} (h : Tp n R S) (hn : n + (k + 1) ≤ 1000000000000000) (m0 : 0 < m) (m1 : m ≤ 1000000 ∨ m / 1000000 + 1 ≤ B) (m2 : okDiv m = true) (m3 : m ≤ 1606938044258990275541962092341162602522202993782792835301376) :
    Tri (runF 9 (M.b_law_draw self) [.obj 0, .int m] S) fun d S' => ∃ i, d = .int i ∧ 0 ≤ i ∧ i < m ∧ Tp (n + (k + 1)) R S' := by
  obtain ⟨ns, sp, l, rfl, hl, s0, s1, l0⟩ := h
  have qd : ∀ (i : Int) (S : Sto), opFdiv (.int i) (.int m) S = .ok (.int (i / m)) S := fun i S => by
    show mk _ _ _ = _
    rw [m2]; rfl
  have em0 : ∀ i : Int, 0 ≤ i % m := fun i => Int.emod_nonneg _ (by omega)
  have em1 : ∀ i : Int, i % m < m := fun i => Int.emod_lt_of_pos _ m0
  have tl : ∀ (sp' : Int) (l' : Int), 0 ≤ sp' → sp' ≤ sp + 1 → 0 ≤ l' → Tp (n + (k + 1)) R (tp ns sp' l' :: R) := fun sp' l' a b c => ⟨ns, sp', l', rfl, hl, a, by push_cast; omega, c⟩
  by_cases hz : 0 < l
  · simp_arith only [M.b_law_draw, g_left, p_left, hz, qd]
    exact ⟨_, rfl, em0 _, em1 _, tl _ _ s0 (by omega) (Int.ediv_nonneg l0 (Int.le_of_lt m0))⟩
  · obtain ⟨p1, e1, p1a, p1b⟩ := primes_ok (i := sp % 7) (Int.emod_nonneg _ (by decide)) (Int.emod_lt_of_pos _ (by decide))
    obtain ⟨p2, e2, p2a, p2b⟩ := primes_ok (i := (sp + 3) % 7) (Int.emod_nonneg _ (by decide)) (Int.emod_lt_of_pos _ (by decide))
    have hm1 : ∀ x : Int, 0 ≤ x % p1 ∧ x % p1 < 2147483647 := fun x => ⟨Int.emod_nonneg _ (by omega), by have := Int.emod_lt_of_pos x (b := p1) (by omega); omega⟩
    have hm2 : ∀ x : Int, 0 ≤ x % p2 ∧ x % p2 < 2147483647 := fun x => ⟨Int.emod_nonneg _ (by omega), by have := Int.emod_lt_of_pos x (b := p2) (by omega); omega⟩
    obtain ⟨L, hLe⟩ : ∃ L, ns.map D.int = L := ⟨_, rfl⟩
    have hLl : L.length ≤ 63 := by rw [← hLe]; simpa using hl
    have hA : ∀ (x : Int) (S : Sto), opMul (.int (x % p1)) (.int (x % p1 + 16807)) S = .ok (.int (x % p1 * (x % p1 + 16807))) S := fun x S => by
      have := hm1 x
      exact q_mul (by omega) (by omega) (by omega) (by omega)
    have hB : ∀ (x : Int) (S : Sto), opMul (.int (x % p1)) (.int 48271) S = .ok (.int (x % p1 * 48271)) S := fun x S => by
      have := hm1 x
      exact q_mul (by omega) (by omega) (by omega) (by omega)
    have hC : ∀ (x : Int) (S : Sto), opMul (.int (x % p2)) (.int (x % p2)) S = .ok (.int (x % p2 * (x % p2))) S := fun x S => by
      have := hm2 x
      exact q_mul (by omega) (by omega) (by omega) (by omega)
    have hc : ∃ c : Int, (L.isEmpty = false ∧ 0 < (L.length : Int) ∧ atI L (sp % (L.length : Nat)) = some (.int c)) ∨ (L = [] ∧ c = 0) := by
      cases hne : L.isEmpty with
      | true => exact ⟨0, .inr ⟨List.isEmpty_iff.mp hne, rfl⟩⟩
      | false =>
        have hL0 : 0 < (L.length : Int) := by
          cases L with
          | nil => cases hne
          | cons a t => simp only [List.length_cons]; omega
        obtain ⟨x, hx, hm⟩ := atI_ok (xs := L) (Int.emod_nonneg sp (by omega)) (Int.emod_lt_of_pos sp hL0)
        rw [← hLe] at hm
        obtain ⟨c, _, rfl⟩ := List.mem_map.mp hm
        exact ⟨c, .inl ⟨rfl, hL0, hx⟩⟩
    have e0 : atI [D.int 0] (sp % 1) = some (.int 0) := by rw [Int.emod_one]; rfl
    have tail : 1000000 < m → Tx (self [.obj 0, .int (m / 1000000 + 1)] (tp ns (sp + 1) l :: R)) (fun d S' => ∃ i, d = .int i ∧ (-1606938044258990275541962092341162602522202993782792835301376 ≤ i ∧ i ≤ 1606938044258990275541962092341162602522202993782792835301376) ∧ Tp (n + (k + 1)) R S') noE := fun h6 => by
      rcases m1 with h | h
      · omega
      · refine (hs (n + 1) (m / 1000000 + 1) R _ ⟨ns, sp + 1, l, rfl, hl, by omega, by push_cast; omega, l0⟩ (by omega) (by omega) h).use fun d S' ⟨i, h1, h2, h3, h4⟩ => ⟨i, h1, ⟨by omega, by omega⟩, h4.mono (by omega)⟩
    have hD : ∀ (i : Int) (S : Sto), (-1606938044258990275541962092341162602522202993782792835301376 ≤ i ∧ i ≤ 1606938044258990275541962092341162602522202993782792835301376) → opMul (.int 1000000) (.int i) S = .ok (.int (1000000 * i)) S := fun i S ⟨a, b⟩ => by
      show mk _ _ _ = _
      have : okMul 1000000 i = true := by
        unfold okMul
        have h1 : (1000000 : Int).natAbs.log2 ≤ 20 := by decide
        have h2 : i.natAbs.log2 ≤ 200 := by
          by_cases hx : i.natAbs = 0
          · rw [hx]; decide
          · have : i.natAbs < 2 ^ 201 := by
              have : (2:Nat)^201 > 1606938044258990275541962092341162602522202993782792835301376 := by decide
              omega
            have := (Nat.log2_lt hx).mpr this
            omega
        exact decide_eq_true (by omega)
      rw [this]; rfl
    obtain ⟨c, ⟨hne, hL0, hx⟩ | ⟨rfl, rfl⟩⟩ := hc
    · by_cases hb1 : 1000000000000000000 ≤ c <;> by_cases hb2 : sp < (L.length : Int)
      · simp_arith only [M.b_law_draw, g_left, g_spot, g_cells hLe, p_left, p_spot, hz, qd, hne, hx, pow6, pow18, hb1, hb2]
        exact ⟨_, rfl, em0 _, em1 _, tl _ _ (by omega) (by omega) (Int.ediv_nonneg (by omega) (Int.le_of_lt m0))⟩
      all_goals
        by_cases h6 : 1000000 < m
        · simp_arith only [M.b_law_draw, g_left, g_spot, g_cells hLe, p_left, p_spot, hz, qd, hne, hx, pow6, pow18, hb1, hb2, hA, hB, hC, e1, e2, h6]
          refine (tail h6).use fun d S' ⟨i, hi, hi2, T⟩ => ?_
          subst hi
          simp_arith only [hD]
          exact ⟨_, rfl, em0 _, em1 _, T⟩
        · simp_arith only [M.b_law_draw, g_left, g_spot, g_cells hLe, p_left, p_spot, hz, qd, hne, hx, pow6, pow18, hb1, hb2, hA, hB, hC, e1, e2, h6]
          exact ⟨_, rfl, em0 _, em1 _, tl _ _ (by omega) (by omega) l0⟩
    · by_cases h6 : 1000000 < m
      · simp_arith only [M.b_law_draw, g_left, g_spot, g_cells hLe, p_left, p_spot, hz, qd, e0, pow6, pow18, hA, hB, hC, e1, e2, h6]
        refine (tail h6).use fun d S' ⟨i, hi, hi2, T⟩ => ?_
        subst hi
        simp_arith only [hD]
        exact ⟨_, rfl, em0 _, em1 _, T⟩
      · simp_arith only [M.b_law_draw, g_left, g_spot, g_cells hLe, p_left, p_spot, hz, qd, e0, pow6, pow18, hA, hB, hC, e1, e2, h6]
        exact ⟨_, rfl, em0 _, em1 _, tl _ _ (by omega) (by omega) l0⟩
theorem okDiv_200 {j : Int} (h1 : 0 < j) (h2 : j ≤ 1606938044258990275541962092341162602522202993782792835301376) : okDiv j = true := by
  unfold okDiv
  have : j.natAbs.log2 ≤ 200 := by
    by_cases hx : j.natAbs = 0
    · rw [hx]; decide
    · have : j.natAbs < 2 ^ 201 := by
        have : (2:Nat)^201 > 1606938044258990275541962092341162602522202993782792835301376 := by decide
        omega
      have := (Nat.log2_lt hx).mpr this
      omega
  simp [h1]; omega
theorem draw_all : ∀ (k : Nat) {n : Nat} {m : Int} {R S : Sto}, Tp n R S → n + (k + 1) ≤ 1000000000000000 → 0 < m → m ≤ 1000000 * 500000 ^ k → m ≤ 1606938044258990275541962092341162602522202993782792835301376 →
    Tri (M.law_draw (k + 1) [.obj 0, .int m] S) fun d S' => ∃ i, d = .int i ∧ 0 ≤ i ∧ i < m ∧ Tp (n + (k + 1)) R S'
  | 0, n, m, R, S, h, hn, m0, m1, m3 => draw_step 0 (M.law_draw 0) 0 (fun n m R S _ _ a b => by omega) h hn m0 (.inl (by simpa using m1)) (okDiv_200 m0 m3) m3
  | k + 1, n, m, R, S, h, hn, m0, m1, m3 => by
    have hp : (500000 : Int) ^ (k + 1) = 500000 ^ k * 500000 := Int.pow_succ _ _
    have hq : ∀ k : Nat, (1 : Int) ≤ 500000 ^ k := fun k => by
      induction k with
      | zero => decide
      | succ k ih => rw [Int.pow_succ]; omega
    have hq := hq k
    rw [hp] at m1
    exact draw_step (k + 1) (M.law_draw (k + 1)) (min (1000000 * 500000 ^ k) 1606938044258990275541962092341162602522202993782792835301376)
      (fun n m R S a b c d => draw_all k a b c (by omega) (by omega)) h hn m0 (by omega) (okDiv_200 m0 m3) m3
/-- a draw -/
theorem dr {n : Nat} {m : Int} {R S : Sto} (h : Tp n R S) (hn : n ≤ 900000000000000) (m0 : 0 < m) (m1 : m ≤ 1606938044258990275541962092341162602522202993782792835301376) :
    Tri (M.law_draw 20 [.obj 0, .int m] S) fun d S' => ∃ i, d = .int i ∧ 0 ≤ i ∧ i < m ∧ Tp (n + 20) R S' :=
  draw_all 19 h (by omega) m0 (by
    have : (500000 : Int) ^ 19 ≥ 1606938044258990275541962092341162602522202993782792835301376 := by decide
    omega) m1
/-- the tape is made -/
theorem s_tape {ns : List Int} (h : ns.length ≤ 63) : Tri (M.law_tape [scr ns] []) fun d S => d = .obj 0 ∧ Tp 0 [] S := by
  simp_arith only [M.law_tape, M.b_law_tape, scr]
  exact ⟨ns.take 63, 0, 0, by rw [tp, List.map_take]; rfl, by simp; omega, by decide, by decide, by decide⟩
/-- one of some is taken -/
theorem pick {ds : List D} {i : Int} {K : KD} {S : Sto} (P : D → Prop) (h0 : 0 ≤ i) (h1 : i < (ds.length : Int)) (h : ∀ d ∈ ds, P d) (k : ∀ d, P d → K d S) : optK (atI ds i) id K S := by
  obtain ⟨x, e, m⟩ := atI_ok h0 h1
  rw [e]
  exact k x (h x m)
theorem pickI {ds : List D} {i : Int} {K : KD} {S : Sto} (lo hi : Int) (h0 : 0 ≤ i) (h1 : i < (ds.length : Int)) (h : ∀ d ∈ ds, ∃ v, d = .int v ∧ lo ≤ v ∧ v ≤ hi) (k : ∀ v, lo ≤ v → v ≤ hi → K (.int v) S) : optK (atI ds i) id K S :=
  pick (fun d => ∃ v, d = .int v ∧ lo ≤ v ∧ v ≤ hi) h0 h1 h fun d ⟨v, e, a, b⟩ => by subst e; exact k v a b
theorem all_nil {α : Type} {P : α → Prop} : ∀ d ∈ ([] : List α), P d := fun _ h => nomatch h
theorem all_cons {α : Type} {P : α → Prop} {a : α} {l : List α} (h : P a) (t : ∀ d ∈ l, P d) : ∀ d ∈ a :: l, P d := fun d m => by
  rcases List.mem_cons.mp m with rfl | m
  · exact h
  · exact t d m
end G

namespace G
open PySem L2

mutual
/-- == -/
def deq : D → D → Bool
  | .non, .non => true
  | .bl a, .bl b => a == b
  | .bl a, .int j => (if a then 1 else 0) == j
  | .int i, .bl b => i == (if b then 1 else 0)
  | .int i, .int j => i == j
  | .str x, .str y => x == y
  | .lst a, .lst b => deqL a b
  | .tup a, .tup b => deqL a b
  | _, _ => false
def deqL : List D → List D → Bool
  | [], [] => true
  | x :: xs, y :: ys => deq x y && deqL xs ys
  | _, _ => false
end
mutual
/-- plain data of that depth at most -/
def okd : Nat → D → Bool
  | _, .non => true
  | _, .bl _ => true
  | _, .int _ => true
  | _, .str x => PyData.strOk x
  | n + 1, .tup ds => okdL n ds
  | n + 1, .lst ds => okdL n ds
  | _, _ => false
def okdL : Nat → List D → Bool
  | _, [] => true
  | n, d :: ds => okd n d && okdL n ds
end
mutual
theorem okd_pure : ∀ {n : Nat} {d : D}, okd n d = true → pure d = true ∧ (toPy d).canLay0 = true ∧ (toPy d).depth ≤ n
  | n, .non, h => by simp [pure, toPy, PyData.canLay0, PyData.depth]
  | n, .bl _, h => by simp [pure, toPy, PyData.canLay0, PyData.depth]
  | n, .int _, h => by simp [pure, toPy, PyData.canLay0, PyData.depth]
  | n, .str x, h => by
    cases n <;> (simp only [okd] at h; simp [pure, toPy, PyData.canLay0, PyData.depth, h])
  | 0, .tup ds, h => by simp [okd] at h
  | n + 1, .tup ds, h => by
    have := okdL_pure (n := n) (ds := ds) (by simpa [okd] using h)
    simp [pure, toPy, PyData.canLay0, PyData.depth, this]
  | 0, .lst ds, h => by simp [okd] at h
  | n + 1, .lst ds, h => by
    have := okdL_pure (n := n) (ds := ds) (by simpa [okd] using h)
    simp [pure, toPy, PyData.canLay0, PyData.depth, this]
  | n, .frl _, h => by cases n <;> simp [okd] at h
  | n, .ins _ _ _, h => by cases n <;> simp [okd] at h
  | n, .obj _, h => by cases n <;> simp [okd] at h
  | n, .exc _ _ _, h => by cases n <;> simp [okd] at h
theorem okdL_pure : ∀ {n : Nat} {ds : List D}, okdL n ds = true → pureL ds = true ∧ PyData.canLayAll0 (toPyL ds) = true ∧ PyData.depthAll (toPyL ds) ≤ n
  | n, [], h => by simp [pureL, toPyL, PyData.canLayAll0, PyData.depthAll]
  | n, d :: ds, h => by
    simp only [okdL, Bool.and_eq_true] at h
    have h1 := okd_pure h.1
    have h2 := okdL_pure h.2
    simp [pureL, toPyL, PyData.canLayAll0, PyData.depthAll, h1, h2]
    omega
end
theorem okEq_of {n : Nat} {d : D} (h : okd n d = true) (hn : n ≤ 64) : okEq d = true := by
  have := okd_pure h
  unfold okEq SeqAt.shaped
  simp [this]; omega
mutual
theorem eqv_deq : ∀ (x y : D), pure x = true → pure y = true → PyData.eqv (toPy x) (toPy y) = deq x y
  | .non, y, hx, hy => by cases y <;> simp_all [toPy, PyData.eqv, deq, pure]
  | .bl a, y, hx, hy => by cases y <;> simp_all [toPy, PyData.eqv, deq, pure]
  | .int a, y, hx, hy => by cases y <;> simp_all [toPy, PyData.eqv, deq, pure]
  | .str a, y, hx, hy => by cases y <;> simp_all [toPy, PyData.eqv, deq, pure]
  | .tup a, y, hx, hy => by
    cases y with
    | tup b =>
      simp only [toPy, PyData.eqv, deq]
      exact eqv_deqL a b (by simpa [pure] using hx) (by simpa [pure] using hy)
    | _ => simp_all [toPy, PyData.eqv, deq, pure]
  | .lst a, y, hx, hy => by
    cases y with
    | lst b =>
      simp only [toPy, PyData.eqv, deq]
      exact eqv_deqL a b (by simpa [pure] using hx) (by simpa [pure] using hy)
    | _ => simp_all [toPy, PyData.eqv, deq, pure]
  | .frl _, y, hx, hy => by simp [pure] at hx
  | .ins _ _ _, y, hx, hy => by simp [pure] at hx
  | .obj _, y, hx, hy => by simp [pure] at hx
  | .exc _ _ _, y, hx, hy => by simp [pure] at hx
theorem eqv_deqL : ∀ (x y : List D), pureL x = true → pureL y = true → PyData.eqvAll (toPyL x) (toPyL y) = deqL x y
  | [], y, hx, hy => by cases y <;> simp [toPyL, PyData.eqvAll, deqL]
  | x :: xs, [], hx, hy => by simp [toPyL, PyData.eqvAll, deqL]
  | x :: xs, y :: ys, hx, hy => by
    simp only [pureL, Bool.and_eq_true] at hx hy
    simp only [toPyL, PyData.eqvAll, deqL, eqv_deq x y hx.1 hy.1, eqv_deqL xs ys hx.2 hy.2]
end
theorem eqD_deq {x y : D} (hx : okd 60 x = true) (hy : okd 60 y = true) : eqD x y = some (deq x y) := by
  have h1 := okEq_of hx (by decide)
  have h2 := okEq_of hy (by decide)
  have h3 := eqv_deq x y (okd_pure hx).1 (okd_pure hy).1
  unfold eqD
  split
  · simp only [deq]; congr 1
  · simp only [deq]; congr 1
  · simp [h1, h2, eqv, h3]
theorem q_eqD {x y : D} {S : Sto} (hx : okd 60 x = true) (hy : okd 60 y = true) : cEq x y S = .ok (.bl (deq x y)) S := by
  unfold cEq; rw [eqD_deq hx hy]; rfl
theorem q_neD {x y : D} {S : Sto} (hx : okd 60 x = true) (hy : okd 60 y = true) : cNe x y S = .ok (.bl (!deq x y)) S := by
  unfold cNe; rw [eqD_deq hx hy]; rfl
theorem feq_deq {x y : D} (hx : flat x = true) (hy : flat y = true) : feq x y = deq x y := by
  cases x <;> cases y <;> simp_all [flat, feq, deq]
theorem inGen_deq {x : D} : ∀ {ds : List D}, okd 60 x = true → okdL 59 ds = true → inGen x ds = some (ds.any fun y => deq y x) := by
  intro ds hx hd
  unfold inGen
  split
  · rename_i f
    rw [Bool.and_eq_true] at f
    have : ∀ {es : List D}, es.all flat = true → inL x es = es.any fun y => deq y x := fun {es} h => by
      induction es with
      | nil => rfl
      | cons d r ih =>
        rw [List.all_cons, Bool.and_eq_true] at h
        show (d :: r).any _ = _
        rw [List.any_cons, List.any_cons, feq_deq h.1 f.1]
        congr 1
        exact ih h.2
    rw [this f.2]
  · have h1 := okEq_of hx (by decide)
    have h2 := okEq_of (n := 60) (d := .lst ds) (by simpa [okd] using hd) (by decide)
    rw [h1, h2]
    simp only [Bool.and_self, if_true]
    congr 1
    have h3 := (okd_pure hx).1
    have : ∀ {es : List D}, okdL 59 es = true → ((toPyL es).any fun z => PyData.eqv z (toPy x)) = es.any fun y => deq y x := fun {es} h => by
      induction es with
      | nil => rfl
      | cons d r ih =>
        simp only [okdL, Bool.and_eq_true] at h
        rw [toPyL, List.any_cons, List.any_cons, ih h.2, eqv_deq d x (okd_pure h.1).1 h3]
    exact this hd
theorem q_inT {x : D} {ds : List D} {S : Sto} (hx : okd 60 x = true) (hd : okdL 59 ds = true) : cIn x (.tup ds) S = .ok (.bl (ds.any fun y => deq y x)) S := by
  unfold cIn
  rw [show inD x (.tup ds) = inGen x ds from by cases x <;> rfl, inGen_deq hx hd]; rfl
theorem q_inL {x : D} {ds : List D} {S : Sto} (hx : okd 60 x = true) (hd : okdL 59 ds = true) : cIn x (.lst ds) S = .ok (.bl (ds.any fun y => deq y x)) S := by
  unfold cIn
  rw [show inD x (.lst ds) = inGen x ds from by cases x <;> rfl, inGen_deq hx hd]; rfl
theorem q_ninT {x : D} {ds : List D} {S : Sto} (hx : okd 60 x = true) (hd : okdL 59 ds = true) : cNotIn x (.tup ds) S = .ok (.bl (!ds.any fun y => deq y x)) S := by
  unfold cNotIn
  rw [show inD x (.tup ds) = inGen x ds from by cases x <;> rfl, inGen_deq hx hd]; rfl
theorem q_ninL {x : D} {ds : List D} {S : Sto} (hx : okd 60 x = true) (hd : okdL 59 ds = true) : cNotIn x (.lst ds) S = .ok (.bl (!ds.any fun y => deq y x)) S := by
  unfold cNotIn
  rw [show inD x (.lst ds) = inGen x ds from by cases x <;> rfl, inGen_deq hx hd]; rfl
mutual
theorem deq_refl : ∀ {n : Nat} {d : D}, okd n d = true → deq d d = true
  | n, .non, h => rfl
  | n, .bl _, h => by simp [deq]
  | n, .int _, h => by simp [deq]
  | n, .str x, h => by simp [deq]
  | 0, .tup ds, h => by simp [okd] at h
  | n + 1, .tup ds, h => by
    have := deqL_refl (n := n) (ds := ds) (by simpa [okd] using h)
    simpa [deq] using this
  | 0, .lst ds, h => by simp [okd] at h
  | n + 1, .lst ds, h => by
    have := deqL_refl (n := n) (ds := ds) (by simpa [okd] using h)
    simpa [deq] using this
  | n, .frl _, h => by cases n <;> simp [okd] at h
  | n, .ins _ _ _, h => by cases n <;> simp [okd] at h
  | n, .obj _, h => by cases n <;> simp [okd] at h
  | n, .exc _ _ _, h => by cases n <;> simp [okd] at h
theorem deqL_refl : ∀ {n : Nat} {ds : List D}, okdL n ds = true → deqL ds ds = true
  | n, [], h => rfl
  | n, d :: ds, h => by
    simp only [okdL, Bool.and_eq_true] at h
    simp [deqL, deq_refl h.1, deqL_refl h.2]
end
section
variable {S : Sto} {i j : Int} {a b : Bool} {x y : Str} {ds es : List D} {d e : D} {n : Nat}
theorem deq_ii : deq (.int i) (.int j) = decide (i = j) := rfl
theorem deq_ss : deq (.str x) (.str y) = decide (x = y) := rfl
theorem deq_tt : deq (.tup ds) (.tup es) = deqL ds es := by simp [deq]
theorem deq_ll : deq (.lst ds) (.lst es) = deqL ds es := by simp [deq]
theorem deq_nb : deq .non (.bl b) = false := by simp [deq]
theorem deq_ni : deq .non (.int i) = false := by simp [deq]
theorem deq_ns : deq .non (.str x) = false := by simp [deq]
theorem deq_nt : deq .non (.tup es) = false := by simp [deq]
theorem deq_nl : deq .non (.lst es) = false := by simp [deq]
theorem deq_bn : deq (.bl a) .non = false := by simp [deq]
theorem deq_bs : deq (.bl a) (.str x) = false := by simp [deq]
theorem deq_bt : deq (.bl a) (.tup es) = false := by simp [deq]
theorem deq_bl : deq (.bl a) (.lst es) = false := by simp [deq]
theorem deq_in : deq (.int i) .non = false := by simp [deq]
theorem deq_is : deq (.int i) (.str x) = false := by simp [deq]
theorem deq_it : deq (.int i) (.tup es) = false := by simp [deq]
theorem deq_il : deq (.int i) (.lst es) = false := by simp [deq]
theorem deq_sn : deq (.str x) .non = false := by simp [deq]
theorem deq_sb : deq (.str x) (.bl b) = false := by simp [deq]
theorem deq_si : deq (.str x) (.int i) = false := by simp [deq]
theorem deq_st : deq (.str x) (.tup es) = false := by simp [deq]
theorem deq_sl : deq (.str x) (.lst es) = false := by simp [deq]
theorem deq_tn : deq (.tup ds) .non = false := by simp [deq]
theorem deq_tb : deq (.tup ds) (.bl b) = false := by simp [deq]
theorem deq_ti : deq (.tup ds) (.int i) = false := by simp [deq]
theorem deq_ts : deq (.tup ds) (.str x) = false := by simp [deq]
theorem deq_tl : deq (.tup ds) (.lst es) = false := by simp [deq]
theorem deq_ln : deq (.lst ds) .non = false := by simp [deq]
theorem deq_lb : deq (.lst ds) (.bl b) = false := by simp [deq]
theorem deq_li : deq (.lst ds) (.int i) = false := by simp [deq]
theorem deq_ls : deq (.lst ds) (.str x) = false := by simp [deq]
theorem deq_lt : deq (.lst ds) (.tup es) = false := by simp [deq]
theorem deq_nn : deq .non .non = true := by simp [deq]
theorem deq_bb : deq (.bl a) (.bl b) = (a == b) := by simp [deq]
theorem deqL_nn : deqL [] [] = true := by simp [deqL]
theorem deqL_cc : deqL (d :: ds) (e :: es) = (deq d e && deqL ds es) := by simp [deqL]
theorem deqL_nc : deqL [] (e :: es) = false := by simp [deqL]
theorem deqL_cn : deqL (d :: ds) [] = false := by simp [deqL]
theorem okd_i : okd n (.int i) = true := by cases n <;> simp [okd]
theorem okd_n : okd n .non = true := by cases n <;> simp [okd]
theorem okd_b : okd n (.bl a) = true := by cases n <;> simp [okd]
theorem okd_s (h : PyData.strOk x = true) : okd n (.str x) = true := by cases n <;> simp [okd, h]
theorem okd_t : okd (n + 1) (.tup ds) = okdL n ds := by simp [okd]
theorem okd_l : okd (n + 1) (.lst ds) = okdL n ds := by simp [okd]
theorem okdL_n : okdL n [] = true := by simp [okdL]
theorem okdL_c : okdL n (d :: ds) = (okd n d && okdL n ds) := by simp [okdL]
end
theorem strOk_of (s : String) : PyData.strOk (Str.ofString s) = true := by
  unfold PyData.strOk Str.ofString
  rw [cpsOfBytes_string, Array.all_eq_true']
  intro c h
  simp at h
  obtain ⟨ch, _, rfl⟩ := h
  have := ch.valid
  simp only [UInt32.isValidChar, Nat.isValidChar] at this
  have e : ch.toNat = ch.val.toNat := rfl
  simp; omega
end G

namespace G
open PySem L2

section
variable {α : Type} {S : Sto} {Q : Fl → Sto → Prop} {E : XV → Sto → Prop} {K : D → Sto → Prop} {env : Env} {fa : Ex} {f : Str} {c i : Nat} {l : List (Nat × Bool)} {g h : Sm} {cs : List Nat}
theorem tri_exc {r : R α} {e : XV} (h : Tx r (fun _ _ => False) (fun e1 S1 => e1 = e ∧ S1 = S)) : r = .exc e S := by
  cases r with
  | ok a S1 => rw [x_ok] at h; exact h.elim
  | exc e1 S1 => rw [x_exc] at h; rw [h.1, h.2]
  | bad => rw [x_bad] at h; exact h.elim
theorem x_sRaise : Tx (sRaise c env S) Q E = Q (.xc ⟨c, []⟩ env) S := by unfold sRaise; rw [x_ok]
def kRaise1 (c : Nat) (f : Str) (env : Env) (Q : Fl → Sto → Prop) : D → Sto → Prop := fun d S => Q (.xc ⟨c, [(f, d)]⟩ env) S
theorem x_sRaise1 : Tx (sRaise1 c f fa env S) Q E = Tx (fa env S) (kRaise1 c f env Q) (fun e S1 => Q (.xc e env) S1) := by
  unfold sRaise1; rw [x_bs]; congr 1; funext d S; rw [x_ok]; rfl
theorem k_raise1 {d : D} : kRaise1 c f env Q d S = Q (.xc ⟨c, [(f, d)]⟩ env) S := rfl
def kGone (i : Nat) (Q : Fl → Sto → Prop) : Fl → Sto → Prop := fun fl S => match fl with
  | .nx env2 => Q (.nx (wipeE env2 [i])) S
  | .bk env2 => Q (.bk (wipeE env2 [i])) S
  | .ct env2 => Q (.ct (wipeE env2 [i])) S
  | .rt d => Q (.rt d) S
  | .ro ds => Q (.ro ds) S
  | .xc _ _ => False
theorem k_goneN : kGone i Q (.nx env) S = Q (.nx (wipeE env [i])) S := rfl
theorem k_goneR {d : D} : kGone i Q (.rt d) S = Q (.rt d) S := rfl
def kTry (l : List (Nat × Bool)) (i : Nat) (h : Sm) (Q : Fl → Sto → Prop) (E : XV → Sto → Prop) : Fl → Sto → Prop := fun fl S => match fl with
  | .xc e env1 => (match catchD l e.c with
    | some true => i < env1.length ∧ Tx (h (env1.set i (.val (.exc e.c (e.fs.map (·.1)) (e.fs.map (·.2))))) S) (kGone i Q) E
    | some false => Q (.xc e env1) S
    | none => False)
  | fl => Q fl S
theorem x_sTry : Tx (sTryAs l i g h env S) Q E = Tx (g env S) (kTry l i h Q E) E := by
  unfold sTryAs; rw [x_bind]; congr 1; funext fl S1
  cases fl with
  | xc e env1 =>
    show Tx (match catchD l e.c with | some true => _ | some false => _ | none => _) Q E = (match catchD l e.c with | some true => _ | some false => _ | none => _)
    cases catchD l e.c with
    | none => exact x_bad
    | some b =>
      cases b with
      | false => exact x_ok
      | true =>
        show Tx (if i < env1.length then _ else _) Q E = (i < env1.length ∧ _)
        rw [x_ite, x_bind]
        congr 2
        funext fl2 S2
        cases fl2 <;> first | exact x_ok | exact x_bad
  | _ => exact x_ok
theorem k_tryN : kTry l i h Q E (.nx env) S = Q (.nx env) S := rfl
theorem k_tryR {d : D} : kTry l i h Q E (.rt d) S = Q (.rt d) S := rfl
theorem k_tryX {fs : List (Str × D)} (hc : catchD l c = some true) (hi : i < env.length) : kTry l i h Q E (.xc ⟨c, fs⟩ env) S = Tx (h (env.set i (.val (.exc c (fs.map (·.1)) (fs.map (·.2))))) S) (kGone i Q) E := by
  show (match catchD l c with | some true => _ | some false => _ | none => _) = _
  rw [hc]
  show (i < env.length ∧ _) = _
  simp only [hi, true_and]
def kIsE (l : List (Nat × Bool)) (K : D → Sto → Prop) : D → Sto → Prop := fun d S => match d with
  | .exc c _ _ => (match catchD l c with
    | some b => K (.bl b) S
    | none => False)
  | _ => False
theorem x_isE : Tx (eIsE l fa env S) K E = Tx (fa env S) (kIsE l K) E := by
  unfold eIsE; rw [x_bind]; congr 1; funext d S1
  cases d with
  | exc c ks ds =>
    show Tx (match catchD l c with | some b => _ | none => _) K E = (match catchD l c with | some b => _ | none => _)
    cases catchD l c with
    | none => exact x_bad
    | some b => exact x_ok
  | _ => exact x_bad
theorem k_isE {ks : List Str} {ds : List D} {b : Bool} (hc : catchD l c = some b) : kIsE l K (.exc c ks ds) S = K (.bl b) S := by
  show (match catchD l c with | some b => _ | none => _) = _
  rw [hc]
def kXf (cs : List Nat) (f : Str) (K : D → Sto → Prop) : D → Sto → Prop := fun d S => match d with
  | .exc c ks ds => c ∈ cs ∧ (match (ks.zip ds).lookup f with
    | some d => K d S
    | none => False)
  | _ => False
theorem x_xf : Tx (eXf cs f fa env S) K E = Tx (fa env S) (kXf cs f K) E := by
  unfold eXf; rw [x_bind]; congr 1; funext d S1
  cases d with
  | exc c ks ds =>
    show Tx (if c ∈ cs then _ else _) K E = (c ∈ cs ∧ _)
    rw [x_ite]
    congr 1
    cases (ks.zip ds).lookup f with
    | none => exact x_bad
    | some b => exact x_ok
  | _ => exact x_bad
theorem k_xf {d : D} (hc : c ∈ cs) : kXf cs f K (.exc c [f] [d]) S = K d S := by
  show (c ∈ cs ∧ (match ([f].zip [d]).lookup f with | some d => K d S | none => False)) = _
  simp [hc]
theorem isNon_exc {ks : List Str} {ds : List D} : isNon (.exc c ks ds) = false := rfl
end
end G

namespace G.C
def leap (y : Int) : Prop := y % 4 = 0 ∧ (y % 100 ≠ 0 ∨ y % 400 = 0)
instance (y : Int) : Decidable (leap y) := by unfold leap; infer_instance
def ahead (y : Int) : Int := 365 * (y - 2001) + ((y - 1) / 4 - (y - 1) / 100 + (y - 1) / 400 - 485)
def lenL : List Int := [31, 28, 31, 30, 31, 30, 31, 31, 30, 31, 30, 31]
def ml (n : Int) : Int := if n % 12 = 1 ∧ leap (2001 + n / 12) then 29 else if n % 12 = 1 then 28 else if n % 12 = 3 ∨ n % 12 = 5 ∨ n % 12 = 8 ∨ n % 12 = 10 then 30 else 31
def cum (k : Int) : Int := if k = 0 then 0 else if k = 1 then 31 else if k = 2 then 59 else if k = 3 then 90 else if k = 4 then 120 else if k = 5 then 151 else if k = 6 then 181 else if k = 7 then 212 else if k = 8 then 243 else if k = 9 then 273 else if k = 10 then 304 else 334
def FO (n : Int) : Int := ahead (2001 + n / 12) + cum (n % 12) + (if 2 ≤ n % 12 ∧ leap (2001 + n / 12) then 1 else 0)
theorem ahead_step (y : Int) : ahead (y + 1) = ahead y + 365 + (if leap y then 1 else 0) := by
  by_cases h : leap y
  · rw [if_pos h]
    unfold ahead
    unfold leap at h
    omega
  · rw [if_neg h]
    unfold ahead
    unfold leap at h
    omega
theorem FO_step (n : Int) : FO (n + 1) = FO n + ml n := by
  have hn : n = 12 * (n / 12) + n % 12 := by omega
  have h0 : 0 ≤ n % 12 := by omega
  have h1 : n % 12 < 12 := by omega
  by_cases h : n % 12 = 11
  · have e1 : (n + 1) / 12 = n / 12 + 1 := by omega
    have e2 : (n + 1) % 12 = 0 := by omega
    unfold FO ml
    rw [e1, e2, h]
    have := ahead_step (2001 + n / 12)
    have e3 : 2001 + (n / 12 + 1) = 2001 + n / 12 + 1 := by omega
    rw [e3, this]
    simp [cum]
    split <;> omega
  · have e1 : (n + 1) / 12 = n / 12 := by omega
    have e2 : (n + 1) % 12 = n % 12 + 1 := by omega
    unfold FO ml
    rw [e1, e2]
    generalize 2001 + n / 12 = y
    generalize n % 12 = k at *
    have : k = 0 ∨ k = 1 ∨ k = 2 ∨ k = 3 ∨ k = 4 ∨ k = 5 ∨ k = 6 ∨ k = 7 ∨ k = 8 ∨ k = 9 ∨ k = 10 := by omega
    rcases this with rfl | rfl | rfl | rfl | rfl | rfl | rfl | rfl | rfl | rfl | rfl <;> by_cases hl : leap y <;> simp [cum, hl] <;> omega
theorem ml_pos (n : Int) : 28 ≤ ml n ∧ ml n ≤ 31 := by
  unfold ml
  (repeat' split) <;> omega
theorem FO_le {a b : Int} (h : a ≤ b) : FO a + 28 * (b - a) ≤ FO b := by
  obtain ⟨k, rfl⟩ : ∃ k : Nat, b = a + k := ⟨(b - a).toNat, by omega⟩
  clear h
  induction k with
  | zero => simp
  | succ k ih =>
    have := FO_step (a + k)
    have := ml_pos (a + k)
    have e : a + ((k + 1 : Nat) : Int) = a + (k : Nat) + 1 := by omega
    rw [e]
    omega
theorem FO_year (n : Int) : ahead (2001 + n / 12) ≤ FO n ∧ FO n + ml n ≤ ahead (2001 + n / 12 + 1) := by
  have a := FO_le (a := 12 * (n / 12)) (b := n) (by omega)
  have b := FO_le (a := n + 1) (b := 12 * (n / 12) + 12) (by omega)
  have c : FO (12 * (n / 12)) = ahead (2001 + n / 12) := by
    unfold FO
    have e1 : 12 * (n / 12) / 12 = n / 12 := by omega
    have e2 : 12 * (n / 12) % 12 = 0 := by omega
    rw [e1, e2]; simp [cum]
  have d : FO (12 * (n / 12) + 12) = ahead (2001 + n / 12 + 1) := by
    unfold FO
    have e1 : (12 * (n / 12) + 12) / 12 = n / 12 + 1 := by omega
    have e2 : (12 * (n / 12) + 12) % 12 = 0 := by omega
    rw [e1, e2]; simp [cum]
    congr 1; omega
  have := FO_step n
  omega
theorem ahead_le {a b : Int} (h : a ≤ b) : ahead a + 365 * (b - a) ≤ ahead b := by
  obtain ⟨k, rfl⟩ : ∃ k : Nat, b = a + k := ⟨(b - a).toNat, by omega⟩
  clear h
  induction k with
  | zero => simp
  | succ k ih =>
    have := ahead_step (a + k)
    have e : a + ((k + 1 : Nat) : Int) = a + (k : Nat) + 1 := by omega
    rw [e]
    split at this <;> omega
theorem ahead_hi {a b : Int} (h : a ≤ b) : ahead b ≤ ahead a + 366 * (b - a) := by
  obtain ⟨k, rfl⟩ : ∃ k : Nat, b = a + k := ⟨(b - a).toNat, by omega⟩
  clear h
  induction k with
  | zero => simp
  | succ k ih =>
    have := ahead_step (a + k)
    have e : a + ((k + 1 : Nat) : Int) = a + (k : Nat) + 1 := by omega
    rw [e]
    split at this <;> omega
theorem FO0 : FO 0 = 0 := by decide
/-- a day lies in a month -/
theorem month_ex (d : Nat) : ∃ n : Nat, FO n ≤ d ∧ (d : Int) < FO n + ml n := by
  induction d with
  | zero => exact ⟨0, by decide, by decide⟩
  | succ d ih =>
    obtain ⟨n, h1, h2⟩ := ih
    by_cases h : ((d + 1 : Nat) : Int) < FO n + ml n
    · exact ⟨n, by omega, h⟩
    · have := FO_step n
      have := ml_pos (n + 1)
      exact ⟨n + 1, by push_cast; omega, by push_cast; omega⟩
theorem month_get {d : Int} (h : 0 ≤ d) (h2 : d ≤ 99999) : ∃ n : Int, 0 ≤ n ∧ n ≤ 3285 ∧ FO n ≤ d ∧ d < FO n + ml n := by
  obtain ⟨n, a, b⟩ := month_ex d.toNat
  rw [Int.toNat_of_nonneg h] at a b
  refine ⟨n, by omega, ?_, a, b⟩
  by_cases hn : (n : Int) ≤ 3285
  · exact hn
  · have := FO_le (a := 3286) (b := n) (by omega)
    have : FO 3286 = 100015 := by decide
    omega
end G.C

namespace G
open PySem L2 C
local macro_rules
  | `(tactic| simp_arith only [$xs,*]) => `(tactic| simp -implicitDefEqProofs (disch := first | assumption | omega | (simp only [List.length_cons, List.length_nil, List.length_append, List.length_map, List.length_set, List.length_take, List.length_drop, List.length_reverse, rangeD_len, zipD_len, enumD_len] <;> omega)) only [x_ok, at0, at1, at2, at3, at4, at5, x_dict, k_dict, x_pairsN, x_pairsC, k_p1, k_p2, k_p3i, k_p3s, cut_ns, cut_sn, cut_ss, sl_L, sl_F, sl_T, sl_S, x_exc, slotV_v, slotO_v, slotO_o, x_var, x_own, x_c, x_bin, k_bin1, k_bin2, x_neg, k_neg, x_tup, k_tup, x_lst, k_lst, x_nCat, k_cat1, k_cat2, x_nRep, k_rep1, k_rep2, x_frz, k_frz, x_nil, x_cons, k_cons1, k_cons2, x_val, k_val, tr_bl, tr_non, tr_int, tr_lst, tr_tup, tr_frl, tr_str, x_and, x_or, x_not, k_and, k_or, k_not, x_tT, x_ifE, k_ifE, x_andV, x_orV, x_notV, k_andV, k_orV, k_notV, x_chain, k_ch1, k_ch2, k_ch3, x_call, x_callN, k_call, x_opt, k_some, x_isi, k_isi, x_oNone, x_oSome, k_oSome, x_nSl, k_nsl1, k_nsl2, k_nsl3L, k_nsl3F, x_sl, k_sl1, k_sl2, k_sl3, x_rev, k_rev, k_revT, x_fn, k_fn, x_fnB, k_fnB, x_tStill, k_stB, x_eStill, envB_t, envB_f, envB_n, envB_e, frzB_u, frzB_o, frzB_v, frzB_i, frzB_b, frzB_s, frzB_non, frzB_t, frzB_l, k_nolB, k_nolI, k_nolS, k_nolN, x_seq, k_seqL, k_seqT, k_seqF, k_seqS, x_rng1, k_rng1, x_rng2, k_rng2a, k_rng2b, x_enum, k_enum, k_enumT, x_zip, k_zipL, k_zipT, k_zipM, k_zipN, x_lc, k_lc, x_sNil, x_sSeq, k_sqn, k_sqr, k_sqb, k_sqc, k_sqx, x_sExpr, k_expr, x_sRet, k_ret, x_sRetN, x_sRetO, k_retO, x_sRetL, k_retL, x_nFn, k_fnN, k_sqo, k_turnO, k_wtO, x_runN, k_runO, k_runOX, x_sBrk, x_sCnt, x_sSet, k_set, x_sOwn, k_own, tg_some, x_sTg, k_tg, gN_ok, gT_t, gTs_n, gTs_c, x_sIf, k_if, x_sFor, k_for, x_sWhile, x_sFrz, frzE_eq, frz_o, frz_v, frz_u, slotL_o, k_mod, x_modE, x_withO, x_sApp, k_appL, k_app, hApp_ok, x_sSlA, k_slAL, k_slA, hAll_ok, x_sIns, k_insL, k_ins1, k_ins2, hIns_ok, x_sRevO, k_revO, x_sClrO, k_clrO, x_sExt, k_extL, k_ext, hExt_ok, x_sSetIx, k_setIxL, k_setIx1, k_setIx2, k_putK, x_sPut, k_put1, k_put2, k_put3, x_sPar, k_par, x_sPar3, k_par3, x_run, k_runN, k_runR, k_runX, k_x, q_add, q_sub, q_addBI, q_addIB, q_subBI, q_subIB, p_strB, p_strS, tI_t, tI_f, q_mul, q_rep, q_div, q_mod, q_lt, q_le, q_gt, q_ge, q_eq, q_ne, q_is, q_isn, q_isB, q_isnB, q_isnI, x_idx, k_idx1, k_idx2, q_catL, q_catT, q_catS, isNon_non, isNon_int, isNon_bl, isNon_str, isNon_tup, isNon_lst, p_divmod, p_lenL, p_lenT, p_lenF, p_lenS, p_intB, p_intI, p_max2, p_min2, p_tupL, p_tupT, p_lstL, p_lstT, p_lstF, is_intI, is_intB, is_intS, is_intN, is_intT, is_intL, is_blI, is_blB, is_blS, is_blN, is_blT, is_blL, is_strI, is_strB, is_strS, is_strN, is_strT, is_strL, is_tupI, is_tupB, is_tupS, is_tupN, is_tupT, is_tupL, is_lstI, is_lstB, is_lstS, is_lstN, is_lstT, is_lstL, opIx_lst, opIx_tup, opIx_frl, k_midN, k_midC, k_midB, k_midR, k_midO, k_midX, k_turnN, k_turnC, k_turnB, k_turnR, k_turnX, k_wtN, k_wtC, k_wtB, k_wtR, k_wtX, k_wc, k_le, frzE_eq, turn_eq, turnC_eq, k_le, forL_nil, lcL_nil, startE, decide_eq_true_eq, decide_eq_false_iff_not, decide_true, decide_false, Bool.not_eq_true', Bool.not_eq_eq_eq_not, Bool.not_true, Bool.not_false, Bool.true_eq_false, Bool.false_eq_true, Bool.not_not, Option.bind_some, Option.map_some, List.map_cons, List.map_nil, List.length_cons, List.length_nil, List.cons_append, List.nil_append, List.set_cons_zero, List.set_cons_succ, List.getElem?_cons_zero, List.getElem?_cons_succ, List.length_set, ↓reduceIte, if_true, if_false, ite_self, List.replicate, List.take_succ_cons, List.take_zero, List.drop_succ_cons, List.drop_zero, List.flatten_cons, List.flatten_nil, Int.reduceToNat, List.isEmpty_cons, List.isEmpty_nil, Nat.reduceAdd, Nat.reduceSub, Nat.reduceLT, Nat.reduceLeDiff, Nat.reduceEqDiff, Int.cast_ofNat_Int, not_true_eq_false, not_false_eq_true, Int.reduceAdd, Int.reduceSub, Int.reduceMul, Int.reduceLT, Int.reduceLE, Int.reduceEq, Int.reduceNe, Int.reduceNeg, Int.zero_add, ne_eq, id, wipeE, lcL_nil, eq_self, and_true, true_and, D.int.injEq, D.bl.injEq, ofS_eq, String.reduceEq, $xs,*])

theorem s_is_leap {y : Int} {S : Sto} : M.is_leap [.int y] S = .ok (.bl (decide (leap y))) S := by
  refine tri_eq ?_
  unfold leap
  by_cases h1 : y % 4 = 0 <;> by_cases h2 : y % 100 = 0
  all_goals
    simp_arith only [M.is_leap, M.b_is_leap, h1, h2]
    try simp [h2]
theorem s_days_ahead {y : Int} {S : Sto} (h : 0 ≤ y) (h2 : y ≤ 10000) : M.days_ahead [.int y] S = .ok (.int (ahead y)) S := by
  refine tri_eq ?_
  simp_arith only [M.days_ahead, M.b_days_ahead, k_FIRST_YEAR]
  rfl
theorem s_ixL {k : Int} {S : Sto} (h : 0 ≤ k) (h2 : k < 12) : opIx k_LENGTHS (.int k) S = .ok (.int (if k = 1 then 28 else if k = 3 ∨ k = 5 ∨ k = 8 ∨ k = 10 then 30 else 31)) S := by
  have : k = 0 ∨ k = 1 ∨ k = 2 ∨ k = 3 ∨ k = 4 ∨ k = 5 ∨ k = 6 ∨ k = 7 ∨ k = 8 ∨ k = 9 ∨ k = 10 ∨ k = 11 := by omega
  rcases this with rfl | rfl | rfl | rfl | rfl | rfl | rfl | rfl | rfl | rfl | rfl | rfl <;> rfl
theorem s_month_length {n : Int} {S : Sto} (h : 0 ≤ n) (h2 : n ≤ 60000) : M.month_length [.int n] S = .ok (.int (ml n)) S := by
  refine tri_eq ?_
  unfold ml
  by_cases h1 : n % 12 = 1
  · by_cases hl : leap (2001 + n / 12)
    · simp_arith only [M.month_length, M.b_month_length, k_FIRST_YEAR, s_is_leap, s_ixL, h1, hl, and_self]
    · simp_arith only [M.month_length, M.b_month_length, k_FIRST_YEAR, s_is_leap, s_ixL, h1, hl, and_false]
  · simp_arith only [M.month_length, M.b_month_length, k_FIRST_YEAR, s_is_leap, s_ixL, h1, false_and]
theorem FO_year0 (n : Int) : FO (12 * (n / 12)) = ahead (2001 + n / 12) := by
  unfold FO
  have e1 : 12 * (n / 12) / 12 = n / 12 := by omega
  have e2 : 12 * (n / 12) % 12 = 0 := by omega
  rw [e1, e2]; simp [cum]
theorem s_first_of {n : Int} {S : Sto} (h : 0 ≤ n) (h2 : n ≤ 60000) : M.first_of [.int n] S = .ok (.int (FO n)) S := by
  refine tri_eq ?_
  simp_arith only [M.first_of, M.b_first_of, k_FIRST_YEAR, s_days_ahead]
  refine rng_inv (fun i env S1 => S1 = S ∧ ∃ z, env = [.val (.int n), .val (.int (n / 12)), .val (.int (n % 12)), .val (.int (FO (12 * (n / 12) + i))), z]) ⟨rfl, _, by rw [Int.add_zero, FO_year0]⟩ ?_ (by omega) ?_
  · rintro i env S1 hi hi2 ⟨rfl, z, rfl⟩
    simp_arith only [s_month_length]
    rw [← Int.add_assoc, FO_step]
    exact ⟨_, rfl⟩
  · rintro env S1 ⟨rfl, z, rfl⟩
    have e : 12 * (n / 12) + n % 12 = n := by omega
    simp_arith only [e]
theorem s_month_of {n d : Int} {S : Sto} (h : 0 ≤ n) (h2 : n ≤ 6000) (h3 : FO n ≤ d) (h4 : d < FO n + ml n) : M.month_of [.int d] S = .ok (.int n) S := by
  have hF := FO_year n
  have hd : 0 ≤ d := by
    have := FO_le h
    have := FO0
    omega
  have hy : 2001 + d / 366 ≤ 2001 + n / 12 := by
    have := ahead_hi (a := 2001) (b := 2001 + n / 12 + 1) (by omega)
    have : ahead 2001 = 0 := by decide
    omega
  refine tri_eq ?_
  simp_arith only [M.month_of, M.b_month_of, k_FIRST_YEAR, s_days_ahead]
  refine while_inv (fun env S1 => S1 = S ∧ ∃ y, 2001 + d / 366 ≤ y ∧ y ≤ 2001 + n / 12 ∧ env = [.val (.int d), .val (.int y), .un, .un]) (fun env S1 => match env with | [_, .val (.int y), _, _] => (2001 + n / 12 - y).toNat | _ => 0) ⟨rfl, _, by omega, by omega, rfl⟩ (by show (2001 + n / 12 - (2001 + d / 366)).toNat < 1000000; omega) ?_
  rintro env S1 ⟨rfl, y, y1, y2, rfl⟩
  by_cases hc : ahead (y + 1) ≤ d
  · have : y < 2001 + n / 12 := by
      by_cases hq : y < 2001 + n / 12
      · exact hq
      · have := ahead_le (a := 2001 + n / 12 + 1) (b := y + 1) (by omega)
        omega
    simp_arith only [s_days_ahead, hc]
    refine ⟨⟨_, ?_, ?_, rfl⟩, ?_⟩ <;> omega
  · have : y = 2001 + n / 12 := by
      by_cases hq : y < 2001 + n / 12
      · have := ahead_le (a := y + 1) (b := 2001 + n / 12) (by omega)
        omega
      · omega
    subst this
    simp_arith only [s_days_ahead, hc]
    have e : 12 * (2001 + n / 12 - 2001) = 12 * (n / 12) := by omega
    rw [e, ← FO_year0]
    refine while_inv (fun env S2 => S2 = S1 ∧ ∃ m, 12 * (n / 12) ≤ m ∧ m ≤ n ∧ env = [.val (.int d), .val (.int (2001 + n / 12)), .val (.int m), .val (.int (d - FO m))]) (fun env S1 => match env with | [_, _, .val (.int m), _] => (n - m).toNat | _ => 0) ⟨rfl, _, by omega, by omega, rfl⟩ (by show (n - 12 * (n / 12)).toNat < 1000000; omega) ?_
    rintro env S2 ⟨rfl, m, m1, m2, rfl⟩
    by_cases hm : m = n
    · subst hm
      have hc : ¬ ml m ≤ d - FO m := by omega
      simp_arith only [s_month_length, hc]
    · have := FO_le (a := m + 1) (b := n) (by omega)
      have h5 := FO_step m
      have hc : ml m ≤ d - FO m := by omega
      have e : d - FO m - ml m = d - FO (m + 1) := by omega
      simp_arith only [s_month_length, hc, e]
      refine ⟨⟨_, ?_, ?_, rfl⟩, ?_⟩ <;> omega
theorem s_date_of {n d : Int} {S : Sto} (h : 0 ≤ n) (h2 : n ≤ 6000) (h3 : FO n ≤ d) (h4 : d < FO n + ml n) : M.date_of [.int d] S = .ok (.tup [.int (2001 + n / 12), .int (n % 12 + 1), .int (d - FO n + 1)]) S := by
  refine tri_eq ?_
  simp_arith only [M.date_of, M.b_date_of, k_FIRST_YEAR, s_month_of h h2 h3 h4, s_first_of]
theorem s_whole {i lo hi : Int} {S : Sto} : M.is_whole [.int i, .int lo, .int hi] S = .ok (.bl (decide (lo ≤ i ∧ i ≤ hi))) S := by
  refine tri_eq ?_
  by_cases h1 : lo ≤ i <;> by_cases h2 : i ≤ hi
  all_goals simp_arith only [M.is_whole, M.b_is_whole, h1, h2, and_self, and_false, false_and]
theorem s_law_month_days {y m : Int} {S : Sto} (m1 : 1 ≤ m) (m2 : m ≤ 12) : M.law_month_days [.int y, .int m] S = .ok (.int (ml (12 * (y - 2001) + m - 1))) S := by
  have e1 : (12 * (y - 2001) + m - 1) % 12 = m - 1 := by omega
  have e2 : 2001 + (12 * (y - 2001) + m - 1) / 12 = y := by omega
  refine tri_eq ?_
  unfold ml
  rw [e1, e2]
  by_cases h : m = 2
  · subst h
    unfold leap
    by_cases h1 : y % 4 = 0
    · by_cases h3 : y % 100 = 0
      · have h2 : ¬ 0 < y % 100 := by omega
        by_cases h4 : y % 400 = 0
        · simp_arith only [M.law_month_days, M.b_law_month_days, h1, h2, h3, h4]; simp
        · simp_arith only [M.law_month_days, M.b_law_month_days, h1, h2, h3, h4]; simp
      · have h2 : 0 < y % 100 := by omega
        simp_arith only [M.law_month_days, M.b_law_month_days, h1, h2, h3]; simp [h3]
    · simp_arith only [M.law_month_days, M.b_law_month_days, h1]; simp
  · have : m = 1 ∨ m = 3 ∨ m = 4 ∨ m = 5 ∨ m = 6 ∨ m = 7 ∨ m = 8 ∨ m = 9 ∨ m = 10 ∨ m = 11 ∨ m = 12 := by omega
    rcases this with rfl | rfl | rfl | rfl | rfl | rfl | rfl | rfl | rfl | rfl | rfl <;> (unfold Tx; with_unfolding_all exact ⟨rfl, rfl⟩)
theorem leap_sum (y : Int) : y / 4 - y / 100 + y / 400 = (y - 1) / 4 - (y - 1) / 100 + (y - 1) / 400 + (if leap y then 1 else 0) := by
  by_cases h : leap y
  · rw [if_pos h]
    unfold leap at h
    omega
  · rw [if_neg h]
    unfold leap at h
    omega
theorem s_law_day {y m d : Int} {S : Sto} (y1 : 0 ≤ y) (y2 : y ≤ 5000) (m1 : 1 ≤ m) (m2 : m ≤ 12) : M.law_day_v2 [.int y, .int m, .int d] S = .ok (.int (FO (12 * (y - 2001) + m - 1) + d - 1)) S := by
  have e1 : (12 * (y - 2001) + m - 1) % 12 = m - 1 := by omega
  have e2 : 2001 + (12 * (y - 2001) + m - 1) / 12 = y := by omega
  refine tri_eq ?_
  by_cases h : m < 3
  · simp_arith only [M.law_day_v2, M.b_law_day_v2, h]
    have hs := leap_sum y
    unfold FO ahead
    rw [e1, e2]
    have : ¬ (2 ≤ m - 1 ∧ leap y) := by omega
    rw [if_neg this]
    have hp : (153 * ((m + 9) % 12) + 2) / 5 = cum (m - 1) + 306 := by
      have : m = 1 ∨ m = 2 := by omega
      rcases this with rfl | rfl <;> rfl
    have e3 : y - 1 - 1 = y - 2 := by omega
    clear e1 e2 hs
    generalize (153 * ((m + 9) % 12) + 2) / 5 = a at *
    generalize (y - 1) / 4 = b
    generalize (y - 1) / 100 = b1
    generalize (y - 1) / 400 = b2
    omega
  · simp_arith only [M.law_day_v2, M.b_law_day_v2, h]
    have hs := leap_sum y
    unfold FO ahead
    rw [e1, e2]
    have hp : (153 * ((m + 9) % 12) + 2) / 5 = cum (m - 1) - 59 := by
      have : m = 3 ∨ m = 4 ∨ m = 5 ∨ m = 6 ∨ m = 7 ∨ m = 8 ∨ m = 9 ∨ m = 10 ∨ m = 11 ∨ m = 12 := by omega
      rcases this with rfl | rfl | rfl | rfl | rfl | rfl | rfl | rfl | rfl | rfl <;> rfl
    by_cases hl : leap y
    · rw [if_pos ⟨by omega, hl⟩]
      rw [if_pos hl] at hs
      clear e1 e2
      generalize (153 * ((m + 9) % 12) + 2) / 5 = a at *
      generalize (y - 1) / 4 = b at *
      generalize (y - 1) / 100 = b1 at *
      generalize (y - 1) / 400 = b2 at *
      rw [Int.sub_zero]
      generalize y / 4 = c at *
      generalize y / 100 = c1 at *
      generalize y / 400 = c2 at *
      omega
    · rw [if_neg (fun z => hl z.2)]
      rw [if_neg hl] at hs
      clear e1 e2
      generalize (153 * ((m + 9) % 12) + 2) / 5 = a at *
      generalize (y - 1) / 4 = b at *
      generalize (y - 1) / 100 = b1 at *
      generalize (y - 1) / 400 = b2 at *
      rw [Int.sub_zero]
      generalize y / 4 = c at *
      generalize y / 100 = c1 at *
      generalize y / 400 = c2 at *
      omega
end G

namespace G
open PySem L2 C
local macro_rules
  | `(tactic| simp_arith only [$xs,*]) => `(tactic| simp -implicitDefEqProofs (disch := first | assumption | omega | (simp only [List.length_cons, List.length_nil, List.length_append, List.length_map, List.length_set, List.length_take, List.length_drop, List.length_reverse, rangeD_len, zipD_len, enumD_len] <;> omega)) only [x_ok, at0, at1, at2, at3, at4, at5, x_dict, k_dict, x_pairsN, x_pairsC, k_p1, k_p2, k_p3i, k_p3s, cut_ns, cut_sn, cut_ss, sl_L, sl_F, sl_T, sl_S, x_exc, slotV_v, slotO_v, slotO_o, x_var, x_own, x_c, x_bin, k_bin1, k_bin2, x_neg, k_neg, x_tup, k_tup, x_lst, k_lst, x_nCat, k_cat1, k_cat2, x_nRep, k_rep1, k_rep2, x_frz, k_frz, x_nil, x_cons, k_cons1, k_cons2, x_val, k_val, tr_bl, tr_non, tr_int, tr_lst, tr_tup, tr_frl, tr_str, x_and, x_or, x_not, k_and, k_or, k_not, x_tT, x_ifE, k_ifE, x_andV, x_orV, x_notV, k_andV, k_orV, k_notV, x_chain, k_ch1, k_ch2, k_ch3, x_call, x_callN, k_call, x_opt, k_some, x_isi, k_isi, x_oNone, x_oSome, k_oSome, x_nSl, k_nsl1, k_nsl2, k_nsl3L, k_nsl3F, x_sl, k_sl1, k_sl2, k_sl3, x_rev, k_rev, k_revT, x_fn, k_fn, x_fnB, k_fnB, x_tStill, k_stB, x_eStill, envB_t, envB_f, envB_n, envB_e, frzB_u, frzB_o, frzB_v, frzB_i, frzB_b, frzB_s, frzB_non, frzB_t, frzB_l, k_nolB, k_nolI, k_nolS, k_nolN, x_seq, k_seqL, k_seqT, k_seqF, k_seqS, x_rng1, k_rng1, x_rng2, k_rng2a, k_rng2b, x_enum, k_enum, k_enumT, x_zip, k_zipL, k_zipT, k_zipM, k_zipN, x_lc, k_lc, x_sNil, x_sSeq, k_sqn, k_sqr, k_sqb, k_sqc, k_sqx, x_sExpr, k_expr, x_sRet, k_ret, x_sRetN, x_sRetO, k_retO, x_sRetL, k_retL, x_nFn, k_fnN, k_sqo, k_turnO, k_wtO, x_runN, k_runO, k_runOX, x_sBrk, x_sCnt, x_sSet, k_set, x_sOwn, k_own, tg_some, x_sTg, k_tg, gN_ok, gT_t, gTs_n, gTs_c, x_sIf, k_if, x_sFor, k_for, x_sWhile, x_sFrz, frzE_eq, frz_o, frz_v, frz_u, slotL_o, k_mod, x_modE, x_withO, x_sApp, k_appL, k_app, hApp_ok, x_sSlA, k_slAL, k_slA, hAll_ok, x_sIns, k_insL, k_ins1, k_ins2, hIns_ok, x_sRevO, k_revO, x_sClrO, k_clrO, x_sExt, k_extL, k_ext, hExt_ok, x_sSetIx, k_setIxL, k_setIx1, k_setIx2, k_putK, x_sPut, k_put1, k_put2, k_put3, x_sPar, k_par, x_sPar3, k_par3, x_run, k_runN, k_runR, k_runX, k_x, q_add, q_sub, q_addBI, q_addIB, q_subBI, q_subIB, p_strB, p_strS, tI_t, tI_f, q_mul, q_rep, q_div, q_mod, q_lt, q_le, q_gt, q_ge, q_eq, q_ne, q_is, q_isn, q_isB, q_isnB, q_isnI, x_idx, k_idx1, k_idx2, q_catL, q_catT, q_catS, isNon_non, isNon_int, isNon_bl, isNon_str, isNon_tup, isNon_lst, p_divmod, p_lenL, p_lenT, p_lenF, p_lenS, p_intB, p_intI, p_max2, p_min2, p_tupL, p_tupT, p_lstL, p_lstT, p_lstF, is_intI, is_intB, is_intS, is_intN, is_intT, is_intL, is_blI, is_blB, is_blS, is_blN, is_blT, is_blL, is_strI, is_strB, is_strS, is_strN, is_strT, is_strL, is_tupI, is_tupB, is_tupS, is_tupN, is_tupT, is_tupL, is_lstI, is_lstB, is_lstS, is_lstN, is_lstT, is_lstL, opIx_lst, opIx_tup, opIx_frl, k_midN, k_midC, k_midB, k_midR, k_midO, k_midX, k_turnN, k_turnC, k_turnB, k_turnR, k_turnX, k_wtN, k_wtC, k_wtB, k_wtR, k_wtX, k_wc, k_le, frzE_eq, turn_eq, turnC_eq, k_le, forL_nil, lcL_nil, startE, decide_eq_true_eq, decide_eq_false_iff_not, decide_true, decide_false, Bool.not_eq_true', Bool.not_eq_eq_eq_not, Bool.not_true, Bool.not_false, Bool.true_eq_false, Bool.false_eq_true, Bool.not_not, Option.bind_some, Option.map_some, List.map_cons, List.map_nil, List.length_cons, List.length_nil, List.cons_append, List.nil_append, List.set_cons_zero, List.set_cons_succ, List.getElem?_cons_zero, List.getElem?_cons_succ, List.length_set, ↓reduceIte, if_true, if_false, ite_self, List.replicate, List.take_succ_cons, List.take_zero, List.drop_succ_cons, List.drop_zero, List.flatten_cons, List.flatten_nil, Int.reduceToNat, List.isEmpty_cons, List.isEmpty_nil, Nat.reduceAdd, Nat.reduceSub, Nat.reduceLT, Nat.reduceLeDiff, Nat.reduceEqDiff, Int.cast_ofNat_Int, not_true_eq_false, not_false_eq_true, Int.reduceAdd, Int.reduceSub, Int.reduceMul, Int.reduceLT, Int.reduceLE, Int.reduceEq, Int.reduceNe, Int.reduceNeg, Int.zero_add, ne_eq, id, wipeE, lcL_nil, eq_self, and_true, true_and, D.int.injEq, D.bl.injEq, ofS_eq, String.reduceEq, $xs,*])
local macro_rules
  | `(tactic| simp_arith! only [$xs,*]) => `(tactic| simp -implicitDefEqProofs (disch := first | assumption | omega | (simp only [okd_i, okd_n, okd_b, okd_s, strOk_of, okd_t, okd_l, okdL_n, okdL_c, Bool.and_true, Bool.and_self, *]; done) | (simp only [List.length_cons, List.length_nil, List.length_append, List.length_map, List.length_set, List.length_take, List.length_drop, List.length_reverse, rangeD_len, zipD_len, enumD_len] <;> omega)) only [x_ok, at0, at1, at2, at3, at4, at5, x_dict, k_dict, x_pairsN, x_pairsC, k_p1, k_p2, k_p3i, k_p3s, cut_ns, cut_sn, cut_ss, sl_L, sl_F, sl_T, sl_S, x_exc, slotV_v, slotO_v, slotO_o, x_var, x_own, x_c, x_bin, k_bin1, k_bin2, x_neg, k_neg, x_tup, k_tup, x_lst, k_lst, x_nCat, k_cat1, k_cat2, x_nRep, k_rep1, k_rep2, x_frz, k_frz, x_nil, x_cons, k_cons1, k_cons2, x_val, k_val, tr_bl, tr_non, tr_int, tr_lst, tr_tup, tr_frl, tr_str, x_and, x_or, x_not, k_and, k_or, k_not, x_tT, x_ifE, k_ifE, x_andV, x_orV, x_notV, k_andV, k_orV, k_notV, x_chain, k_ch1, k_ch2, k_ch3, x_call, x_callN, k_call, x_opt, k_some, x_isi, k_isi, x_oNone, x_oSome, k_oSome, x_nSl, k_nsl1, k_nsl2, k_nsl3L, k_nsl3F, x_sl, k_sl1, k_sl2, k_sl3, x_rev, k_rev, k_revT, x_fn, k_fn, x_fnB, k_fnB, x_tStill, k_stB, x_eStill, envB_t, envB_f, envB_n, envB_e, frzB_u, frzB_o, frzB_v, frzB_i, frzB_b, frzB_s, frzB_non, frzB_t, frzB_l, k_nolB, k_nolI, k_nolS, k_nolN, x_seq, k_seqL, k_seqT, k_seqF, k_seqS, x_rng1, k_rng1, x_rng2, k_rng2a, k_rng2b, x_enum, k_enum, k_enumT, x_zip, k_zipL, k_zipT, k_zipM, k_zipN, x_lc, k_lc, x_sNil, x_sSeq, k_sqn, k_sqr, k_sqb, k_sqc, k_sqx, x_sExpr, k_expr, x_sRet, k_ret, x_sRetN, x_sRetO, k_retO, x_sRetL, k_retL, x_nFn, k_fnN, k_sqo, k_turnO, k_wtO, x_runN, k_runO, k_runOX, x_sBrk, x_sCnt, x_sSet, k_set, x_sOwn, k_own, tg_some, x_sTg, k_tg, gN_ok, gT_t, gTs_n, gTs_c, x_sIf, k_if, x_sFor, k_for, x_sWhile, x_sFrz, frzE_eq, frz_o, frz_v, frz_u, slotL_o, k_mod, x_modE, x_withO, x_sApp, k_appL, k_app, hApp_ok, x_sSlA, k_slAL, k_slA, hAll_ok, x_sIns, k_insL, k_ins1, k_ins2, hIns_ok, x_sRevO, k_revO, x_sClrO, k_clrO, x_sExt, k_extL, k_ext, hExt_ok, x_sSetIx, k_setIxL, k_setIx1, k_setIx2, k_putK, x_sPut, k_put1, k_put2, k_put3, x_sPar, k_par, x_sPar3, k_par3, x_run, k_runN, k_runR, k_runX, k_x, q_add, q_sub, q_addBI, q_addIB, q_subBI, q_subIB, p_strB, p_strS, tI_t, tI_f, q_mul, q_rep, q_div, q_mod, q_lt, q_le, q_gt, q_ge, q_eq, q_ne, q_is, q_isn, q_isB, q_isnB, q_isnI, x_idx, k_idx1, k_idx2, q_catL, q_catT, q_catS, isNon_non, isNon_int, isNon_bl, isNon_str, isNon_tup, isNon_lst, p_divmod, p_lenL, p_lenT, p_lenF, p_lenS, p_intB, p_intI, p_max2, p_min2, p_tupL, p_tupT, p_lstL, p_lstT, p_lstF, is_intI, is_intB, is_intS, is_intN, is_intT, is_intL, is_blI, is_blB, is_blS, is_blN, is_blT, is_blL, is_strI, is_strB, is_strS, is_strN, is_strT, is_strL, is_tupI, is_tupB, is_tupS, is_tupN, is_tupT, is_tupL, is_lstI, is_lstB, is_lstS, is_lstN, is_lstT, is_lstL, opIx_lst, opIx_tup, opIx_frl, k_midN, k_midC, k_midB, k_midR, k_midO, k_midX, k_turnN, k_turnC, k_turnB, k_turnR, k_turnX, k_wtN, k_wtC, k_wtB, k_wtR, k_wtX, k_wc, k_le, frzE_eq, turn_eq, turnC_eq, k_le, forL_nil, lcL_nil, startE, decide_eq_true_eq, decide_eq_false_iff_not, decide_true, decide_false, Bool.not_eq_true', Bool.not_eq_eq_eq_not, Bool.not_true, Bool.not_false, Bool.true_eq_false, Bool.false_eq_true, Bool.not_not, Option.bind_some, Option.map_some, List.map_cons, List.map_nil, List.length_cons, List.length_nil, List.cons_append, List.nil_append, List.set_cons_zero, List.set_cons_succ, List.getElem?_cons_zero, List.getElem?_cons_succ, List.length_set, ↓reduceIte, if_true, if_false, ite_self, List.replicate, List.take_succ_cons, List.take_zero, List.drop_succ_cons, List.drop_zero, List.flatten_cons, List.flatten_nil, Int.reduceToNat, List.isEmpty_cons, List.isEmpty_nil, Nat.reduceAdd, Nat.reduceSub, Nat.reduceLT, Nat.reduceLeDiff, Nat.reduceEqDiff, Int.cast_ofNat_Int, not_true_eq_false, not_false_eq_true, Int.reduceAdd, Int.reduceSub, Int.reduceMul, Int.reduceLT, Int.reduceLE, Int.reduceEq, Int.reduceNe, Int.reduceNeg, Int.zero_add, ne_eq, id, wipeE, lcL_nil, eq_self, and_true, true_and, D.int.injEq, D.bl.injEq, ofS_eq, String.reduceEq, q_eqD, q_neD, q_inT, q_inL, q_ninT, q_ninL, beq_self_eq_true, List.any_cons, List.any_nil, Bool.or_false, Bool.false_or, Bool.or_true, Bool.true_or, deq_nb, deq_ni, deq_ns, deq_nt, deq_nl, deq_bn, deq_bs, deq_bt, deq_bl, deq_in, deq_is, deq_it, deq_il, deq_sn, deq_sb, deq_si, deq_st, deq_sl, deq_tn, deq_tb, deq_ti, deq_ts, deq_tl, deq_ln, deq_lb, deq_li, deq_ls, deq_lt, deq_nn, deq_bb, deq_ii, deq_ss, deq_tt, deq_ll, deqL_nn, deqL_cc, deqL_nc, deqL_cn, okd_i, okd_n, okd_b, okd_t, okd_l, okdL_n, okdL_c, Bool.and_true, Bool.true_and, Bool.and_false, Bool.false_and, $xs,*])

theorem s_day_of {y m d : Int} {S : Sto} (y1 : 2001 ≤ y) (y2 : y ≤ 2274) (m1 : 1 ≤ m) (m2 : m ≤ 12) (d1 : 1 ≤ d) (d2 : d ≤ ml (12 * (y - 2001) + m - 1)) (d3 : FO (12 * (y - 2001) + m - 1) + d - 1 ≤ 99999) :
    M.day_of [.tup [.int y, .int m, .int d]] S = .ok (.int (FO (12 * (y - 2001) + m - 1) + d - 1)) S := by
  refine tri_eq ?_
  have := ml_pos (12 * (y - 2001) + m - 1)
  have h1 : ¬ ml (12 * (y - 2001) + m - 1) < d := by omega
  have h2 : ¬ 99999 < FO (12 * (y - 2001) + m - 1) + d - 1 := by omega
  have w1 : decide (2001 ≤ y ∧ y ≤ 2274) = true := decide_eq_true ⟨y1, y2⟩
  have w2 : decide (1 ≤ m ∧ m ≤ 12) = true := decide_eq_true ⟨m1, m2⟩
  have w3 : decide (1 ≤ d ∧ d ≤ 31) = true := decide_eq_true ⟨d1, by omega⟩
  simp_arith only [M.day_of, M.b_day_of, k_FIRST_YEAR, k_LAST_DAY_v2, s_whole, w1, w2, w3, s_first_of, s_month_length, h1, h2]
end G

namespace G
open PySem L2
local macro_rules
  | `(tactic| simp_arith only [$xs,*]) => `(tactic| simp -implicitDefEqProofs (disch := first | assumption | omega | (simp only [List.length_cons, List.length_nil, List.length_append, List.length_map, List.length_set, List.length_take, List.length_drop, List.length_reverse, rangeD_len, zipD_len, enumD_len] <;> omega)) only [x_ok, at0, at1, at2, at3, at4, at5, x_dict, k_dict, x_pairsN, x_pairsC, k_p1, k_p2, k_p3i, k_p3s, cut_ns, cut_sn, cut_ss, sl_L, sl_F, sl_T, sl_S, x_exc, slotV_v, slotO_v, slotO_o, x_var, x_own, x_c, x_bin, k_bin1, k_bin2, x_neg, k_neg, x_tup, k_tup, x_lst, k_lst, x_nCat, k_cat1, k_cat2, x_nRep, k_rep1, k_rep2, x_frz, k_frz, x_nil, x_cons, k_cons1, k_cons2, x_val, k_val, tr_bl, tr_non, tr_int, tr_lst, tr_tup, tr_frl, tr_str, x_and, x_or, x_not, k_and, k_or, k_not, x_tT, x_ifE, k_ifE, x_andV, x_orV, x_notV, k_andV, k_orV, k_notV, x_chain, k_ch1, k_ch2, k_ch3, x_call, x_callN, k_call, x_opt, k_some, x_isi, k_isi, x_oNone, x_oSome, k_oSome, x_nSl, k_nsl1, k_nsl2, k_nsl3L, k_nsl3F, x_sl, k_sl1, k_sl2, k_sl3, x_rev, k_rev, k_revT, x_fn, k_fn, x_fnB, k_fnB, x_tStill, k_stB, x_eStill, envB_t, envB_f, envB_n, envB_e, frzB_u, frzB_o, frzB_v, frzB_i, frzB_b, frzB_s, frzB_non, frzB_t, frzB_l, k_nolB, k_nolI, k_nolS, k_nolN, x_seq, k_seqL, k_seqT, k_seqF, k_seqS, x_rng1, k_rng1, x_rng2, k_rng2a, k_rng2b, x_enum, k_enum, k_enumT, x_zip, k_zipL, k_zipT, k_zipM, k_zipN, x_lc, k_lc, x_sNil, x_sSeq, k_sqn, k_sqr, k_sqb, k_sqc, k_sqx, x_sExpr, k_expr, x_sRet, k_ret, x_sRetN, x_sRetO, k_retO, x_sRetL, k_retL, x_nFn, k_fnN, k_sqo, k_turnO, k_wtO, x_runN, k_runO, k_runOX, x_sBrk, x_sCnt, x_sSet, k_set, x_sOwn, k_own, tg_some, x_sTg, k_tg, gN_ok, gT_t, gTs_n, gTs_c, x_sIf, k_if, x_sFor, k_for, x_sWhile, x_sFrz, frzE_eq, frz_o, frz_v, frz_u, slotL_o, k_mod, x_modE, x_withO, x_sApp, k_appL, k_app, hApp_ok, x_sSlA, k_slAL, k_slA, hAll_ok, x_sIns, k_insL, k_ins1, k_ins2, hIns_ok, x_sRevO, k_revO, x_sClrO, k_clrO, x_sExt, k_extL, k_ext, hExt_ok, x_sSetIx, k_setIxL, k_setIx1, k_setIx2, k_putK, x_sPut, k_put1, k_put2, k_put3, x_sPar, k_par, x_sPar3, k_par3, x_run, k_runN, k_runR, k_runX, k_x, q_add, q_sub, q_addBI, q_addIB, q_subBI, q_subIB, p_strB, p_strS, tI_t, tI_f, q_mul, q_rep, q_div, q_mod, q_lt, q_le, q_gt, q_ge, q_eq, q_ne, q_is, q_isn, q_isB, q_isnB, q_isnI, x_idx, k_idx1, k_idx2, q_catL, q_catT, q_catS, isNon_non, isNon_int, isNon_bl, isNon_str, isNon_tup, isNon_lst, p_divmod, p_lenL, p_lenT, p_lenF, p_lenS, p_intB, p_intI, p_max2, p_min2, p_tupL, p_tupT, p_lstL, p_lstT, p_lstF, is_intI, is_intB, is_intS, is_intN, is_intT, is_intL, is_blI, is_blB, is_blS, is_blN, is_blT, is_blL, is_strI, is_strB, is_strS, is_strN, is_strT, is_strL, is_tupI, is_tupB, is_tupS, is_tupN, is_tupT, is_tupL, is_lstI, is_lstB, is_lstS, is_lstN, is_lstT, is_lstL, opIx_lst, opIx_tup, opIx_frl, k_midN, k_midC, k_midB, k_midR, k_midO, k_midX, k_turnN, k_turnC, k_turnB, k_turnR, k_turnX, k_wtN, k_wtC, k_wtB, k_wtR, k_wtX, k_wc, k_le, frzE_eq, turn_eq, turnC_eq, k_le, forL_nil, lcL_nil, startE, decide_eq_true_eq, decide_eq_false_iff_not, decide_true, decide_false, Bool.not_eq_true', Bool.not_eq_eq_eq_not, Bool.not_true, Bool.not_false, Bool.true_eq_false, Bool.false_eq_true, Bool.not_not, Option.bind_some, Option.map_some, List.map_cons, List.map_nil, List.length_cons, List.length_nil, List.cons_append, List.nil_append, List.set_cons_zero, List.set_cons_succ, List.getElem?_cons_zero, List.getElem?_cons_succ, List.length_set, ↓reduceIte, if_true, if_false, ite_self, List.replicate, List.take_succ_cons, List.take_zero, List.drop_succ_cons, List.drop_zero, List.flatten_cons, List.flatten_nil, Int.reduceToNat, List.isEmpty_cons, List.isEmpty_nil, Nat.reduceAdd, Nat.reduceSub, Nat.reduceLT, Nat.reduceLeDiff, Nat.reduceEqDiff, Int.cast_ofNat_Int, not_true_eq_false, not_false_eq_true, Int.reduceAdd, Int.reduceSub, Int.reduceMul, Int.reduceLT, Int.reduceLE, Int.reduceEq, Int.reduceNe, Int.reduceNeg, Int.zero_add, ne_eq, id, wipeE, lcL_nil, eq_self, and_true, true_and, D.int.injEq, D.bl.injEq, ofS_eq, String.reduceEq, $xs,*])

def wholeD (lo hi : Int) : D → Bool
  | .int i => decide (lo ≤ i) && decide (i ≤ hi)
  | _ => false
theorem okd_kinds {n : Nat} {d : D} (h : okd n d = true) : (∃ ds, d = .tup ds ∧ okdL (n - 1) ds = true) ∨ (∃ i, d = .int i) ∨ (∃ b, d = .bl b) ∨ (∃ x, d = .str x) ∨ (∃ ds, d = .lst ds ∧ okdL (n - 1) ds = true) ∨ d = .non := by
  cases d with
  | tup ds =>
    cases n with
    | zero => simp [okd] at h
    | succ n => exact .inl ⟨ds, rfl, by simpa [okd] using h⟩
  | lst ds =>
    cases n with
    | zero => simp [okd] at h
    | succ n => exact .inr (.inr (.inr (.inr (.inl ⟨ds, rfl, by simpa [okd] using h⟩))))
  | int i => exact .inr (.inl ⟨i, rfl⟩)
  | bl i => exact .inr (.inr (.inl ⟨i, rfl⟩))
  | str i => exact .inr (.inr (.inr (.inl ⟨i, rfl⟩)))
  | non => exact .inr (.inr (.inr (.inr (.inr rfl))))
  | frl _ => cases n <;> simp [okd] at h
  | ins _ _ _ => cases n <;> simp [okd] at h
  | obj _ => cases n <;> simp [okd] at h
  | exc _ _ _ => cases n <;> simp [okd] at h
mutual
theorem okd_succ : ∀ {n : Nat} {d : D}, okd n d = true → okd (n + 1) d = true
  | n, .non, h => by simp [okd]
  | n, .bl _, h => by simp [okd]
  | n, .int _, h => by simp [okd]
  | n, .str x, h => by cases n <;> simpa [okd] using h
  | 0, .tup ds, h => by simp [okd] at h
  | n + 1, .tup ds, h => by
    have := okdL_succ (n := n) (ds := ds) (by simpa [okd] using h)
    simpa [okd] using this
  | 0, .lst ds, h => by simp [okd] at h
  | n + 1, .lst ds, h => by
    have := okdL_succ (n := n) (ds := ds) (by simpa [okd] using h)
    simpa [okd] using this
  | n, .frl _, h => by cases n <;> simp [okd] at h
  | n, .ins _ _ _, h => by cases n <;> simp [okd] at h
  | n, .obj _, h => by cases n <;> simp [okd] at h
  | n, .exc _ _ _, h => by cases n <;> simp [okd] at h
theorem okdL_succ : ∀ {n : Nat} {ds : List D}, okdL n ds = true → okdL (n + 1) ds = true
  | n, [], h => by simp [okdL]
  | n, d :: ds, h => by
    simp only [okdL, Bool.and_eq_true] at h
    simp [okdL, okd_succ h.1, okdL_succ h.2]
end
theorem s_wholeD {n : Nat} {d : D} {lo hi : Int} {S : Sto} (h : okd n d = true) : M.is_whole [d, .int lo, .int hi] S = .ok (.bl (wholeD lo hi d)) S := by
  refine tri_eq ?_
  rcases okd_kinds h with ⟨ds, rfl, _⟩ | ⟨i, rfl⟩ | ⟨b, rfl⟩ | ⟨x, rfl⟩ | ⟨ds, rfl, _⟩ | rfl
  case inr.inl => by_cases h1 : lo ≤ i <;> by_cases h2 : i ≤ hi <;> simp_arith only [M.is_whole, M.b_is_whole, wholeD, h1, h2, Bool.and_true, Bool.and_false, Bool.true_and]
  all_goals simp_arith only [M.is_whole, M.b_is_whole, wholeD]
def intOf : D → Int
  | .int i => i
  | _ => 0
def turnsOk : Int → List D → Bool
  | _, [] => true
  | a, .tup [m, o] :: r => wholeD (a + 1) 143999999 m && (wholeD (-840) 840 o && turnsOk (intOf m) r)
  | _, _ :: _ => false
def firstNull : List D → Bool
  | .tup (.int m :: _) :: _ => m == 0
  | _ => false
def isClock : D → Bool
  | .tup ds => decide (1 ≤ ds.length) && (decide (ds.length ≤ 40) && (turnsOk (-1) ds && firstNull ds))
  | _ => false
theorem wholeD_int {lo hi : Int} {d : D} (h : wholeD lo hi d = true) : ∃ i, d = .int i ∧ lo ≤ i ∧ i ≤ hi := by
  cases d with
  | int i => simp [wholeD] at h; exact ⟨i, rfl, h⟩
  | _ => simp [wholeD] at h
end G

namespace G
open PySem L2 C
local macro_rules
  | `(tactic| simp_arith only [$xs,*]) => `(tactic| simp -implicitDefEqProofs (disch := first | assumption | omega | (simp only [List.length_cons, List.length_nil, List.length_append, List.length_map, List.length_set, List.length_take, List.length_drop, List.length_reverse, rangeD_len, zipD_len, enumD_len] <;> omega)) only [x_ok, at0, at1, at2, at3, at4, at5, x_dict, k_dict, x_pairsN, x_pairsC, k_p1, k_p2, k_p3i, k_p3s, cut_ns, cut_sn, cut_ss, sl_L, sl_F, sl_T, sl_S, x_exc, slotV_v, slotO_v, slotO_o, x_var, x_own, x_c, x_bin, k_bin1, k_bin2, x_neg, k_neg, x_tup, k_tup, x_lst, k_lst, x_nCat, k_cat1, k_cat2, x_nRep, k_rep1, k_rep2, x_frz, k_frz, x_nil, x_cons, k_cons1, k_cons2, x_val, k_val, tr_bl, tr_non, tr_int, tr_lst, tr_tup, tr_frl, tr_str, x_and, x_or, x_not, k_and, k_or, k_not, x_tT, x_ifE, k_ifE, x_andV, x_orV, x_notV, k_andV, k_orV, k_notV, x_chain, k_ch1, k_ch2, k_ch3, x_call, x_callN, k_call, x_opt, k_some, x_isi, k_isi, x_oNone, x_oSome, k_oSome, x_nSl, k_nsl1, k_nsl2, k_nsl3L, k_nsl3F, x_sl, k_sl1, k_sl2, k_sl3, x_rev, k_rev, k_revT, x_fn, k_fn, x_fnB, k_fnB, x_tStill, k_stB, x_eStill, envB_t, envB_f, envB_n, envB_e, frzB_u, frzB_o, frzB_v, frzB_i, frzB_b, frzB_s, frzB_non, frzB_t, frzB_l, k_nolB, k_nolI, k_nolS, k_nolN, x_seq, k_seqL, k_seqT, k_seqF, k_seqS, x_rng1, k_rng1, x_rng2, k_rng2a, k_rng2b, x_enum, k_enum, k_enumT, x_zip, k_zipL, k_zipT, k_zipM, k_zipN, x_lc, k_lc, x_sNil, x_sSeq, k_sqn, k_sqr, k_sqb, k_sqc, k_sqx, x_sExpr, k_expr, x_sRet, k_ret, x_sRetN, x_sRetO, k_retO, x_sRetL, k_retL, x_nFn, k_fnN, k_sqo, k_turnO, k_wtO, x_runN, k_runO, k_runOX, x_sBrk, x_sCnt, x_sSet, k_set, x_sOwn, k_own, tg_some, x_sTg, k_tg, gN_ok, gT_t, gTs_n, gTs_c, x_sIf, k_if, x_sFor, k_for, x_sWhile, x_sFrz, frzE_eq, frz_o, frz_v, frz_u, slotL_o, k_mod, x_modE, x_withO, x_sApp, k_appL, k_app, hApp_ok, x_sSlA, k_slAL, k_slA, hAll_ok, x_sIns, k_insL, k_ins1, k_ins2, hIns_ok, x_sRevO, k_revO, x_sClrO, k_clrO, x_sExt, k_extL, k_ext, hExt_ok, x_sSetIx, k_setIxL, k_setIx1, k_setIx2, k_putK, x_sPut, k_put1, k_put2, k_put3, x_sPar, k_par, x_sPar3, k_par3, x_run, k_runN, k_runR, k_runX, k_x, q_add, q_sub, q_addBI, q_addIB, q_subBI, q_subIB, p_strB, p_strS, tI_t, tI_f, q_mul, q_rep, q_div, q_mod, q_lt, q_le, q_gt, q_ge, q_eq, q_ne, q_is, q_isn, q_isB, q_isnB, q_isnI, x_idx, k_idx1, k_idx2, q_catL, q_catT, q_catS, isNon_non, isNon_int, isNon_bl, isNon_str, isNon_tup, isNon_lst, p_divmod, p_lenL, p_lenT, p_lenF, p_lenS, p_intB, p_intI, p_max2, p_min2, p_tupL, p_tupT, p_lstL, p_lstT, p_lstF, is_intI, is_intB, is_intS, is_intN, is_intT, is_intL, is_blI, is_blB, is_blS, is_blN, is_blT, is_blL, is_strI, is_strB, is_strS, is_strN, is_strT, is_strL, is_tupI, is_tupB, is_tupS, is_tupN, is_tupT, is_tupL, is_lstI, is_lstB, is_lstS, is_lstN, is_lstT, is_lstL, opIx_lst, opIx_tup, opIx_frl, k_midN, k_midC, k_midB, k_midR, k_midO, k_midX, k_turnN, k_turnC, k_turnB, k_turnR, k_turnX, k_wtN, k_wtC, k_wtB, k_wtR, k_wtX, k_wc, k_le, frzE_eq, turn_eq, turnC_eq, k_le, forL_nil, lcL_nil, startE, decide_eq_true_eq, decide_eq_false_iff_not, decide_true, decide_false, Bool.not_eq_true', Bool.not_eq_eq_eq_not, Bool.not_true, Bool.not_false, Bool.true_eq_false, Bool.false_eq_true, Bool.not_not, Option.bind_some, Option.map_some, List.map_cons, List.map_nil, List.length_cons, List.length_nil, List.cons_append, List.nil_append, List.set_cons_zero, List.set_cons_succ, List.getElem?_cons_zero, List.getElem?_cons_succ, List.length_set, ↓reduceIte, if_true, if_false, ite_self, List.replicate, List.take_succ_cons, List.take_zero, List.drop_succ_cons, List.drop_zero, List.flatten_cons, List.flatten_nil, Int.reduceToNat, List.isEmpty_cons, List.isEmpty_nil, Nat.reduceAdd, Nat.reduceSub, Nat.reduceLT, Nat.reduceLeDiff, Nat.reduceEqDiff, Int.cast_ofNat_Int, not_true_eq_false, not_false_eq_true, Int.reduceAdd, Int.reduceSub, Int.reduceMul, Int.reduceLT, Int.reduceLE, Int.reduceEq, Int.reduceNe, Int.reduceNeg, Int.zero_add, ne_eq, id, wipeE, lcL_nil, eq_self, and_true, true_and, D.int.injEq, D.bl.injEq, ofS_eq, String.reduceEq, $xs,*])
local macro_rules
  | `(tactic| simp_arith! only [$xs,*]) => `(tactic| simp -implicitDefEqProofs (disch := first | assumption | omega | (simp only [okd_i, okd_n, okd_b, okd_s, strOk_of, okd_t, okd_l, okdL_n, okdL_c, Bool.and_true, Bool.and_self, *]; done) | (simp only [List.length_cons, List.length_nil, List.length_append, List.length_map, List.length_set, List.length_take, List.length_drop, List.length_reverse, rangeD_len, zipD_len, enumD_len] <;> omega)) only [x_ok, at0, at1, at2, at3, at4, at5, x_dict, k_dict, x_pairsN, x_pairsC, k_p1, k_p2, k_p3i, k_p3s, cut_ns, cut_sn, cut_ss, sl_L, sl_F, sl_T, sl_S, x_exc, slotV_v, slotO_v, slotO_o, x_var, x_own, x_c, x_bin, k_bin1, k_bin2, x_neg, k_neg, x_tup, k_tup, x_lst, k_lst, x_nCat, k_cat1, k_cat2, x_nRep, k_rep1, k_rep2, x_frz, k_frz, x_nil, x_cons, k_cons1, k_cons2, x_val, k_val, tr_bl, tr_non, tr_int, tr_lst, tr_tup, tr_frl, tr_str, x_and, x_or, x_not, k_and, k_or, k_not, x_tT, x_ifE, k_ifE, x_andV, x_orV, x_notV, k_andV, k_orV, k_notV, x_chain, k_ch1, k_ch2, k_ch3, x_call, x_callN, k_call, x_opt, k_some, x_isi, k_isi, x_oNone, x_oSome, k_oSome, x_nSl, k_nsl1, k_nsl2, k_nsl3L, k_nsl3F, x_sl, k_sl1, k_sl2, k_sl3, x_rev, k_rev, k_revT, x_fn, k_fn, x_fnB, k_fnB, x_tStill, k_stB, x_eStill, envB_t, envB_f, envB_n, envB_e, frzB_u, frzB_o, frzB_v, frzB_i, frzB_b, frzB_s, frzB_non, frzB_t, frzB_l, k_nolB, k_nolI, k_nolS, k_nolN, x_seq, k_seqL, k_seqT, k_seqF, k_seqS, x_rng1, k_rng1, x_rng2, k_rng2a, k_rng2b, x_enum, k_enum, k_enumT, x_zip, k_zipL, k_zipT, k_zipM, k_zipN, x_lc, k_lc, x_sNil, x_sSeq, k_sqn, k_sqr, k_sqb, k_sqc, k_sqx, x_sExpr, k_expr, x_sRet, k_ret, x_sRetN, x_sRetO, k_retO, x_sRetL, k_retL, x_nFn, k_fnN, k_sqo, k_turnO, k_wtO, x_runN, k_runO, k_runOX, x_sBrk, x_sCnt, x_sSet, k_set, x_sOwn, k_own, tg_some, x_sTg, k_tg, gN_ok, gT_t, gTs_n, gTs_c, x_sIf, k_if, x_sFor, k_for, x_sWhile, x_sFrz, frzE_eq, frz_o, frz_v, frz_u, slotL_o, k_mod, x_modE, x_withO, x_sApp, k_appL, k_app, hApp_ok, x_sSlA, k_slAL, k_slA, hAll_ok, x_sIns, k_insL, k_ins1, k_ins2, hIns_ok, x_sRevO, k_revO, x_sClrO, k_clrO, x_sExt, k_extL, k_ext, hExt_ok, x_sSetIx, k_setIxL, k_setIx1, k_setIx2, k_putK, x_sPut, k_put1, k_put2, k_put3, x_sPar, k_par, x_sPar3, k_par3, x_run, k_runN, k_runR, k_runX, k_x, q_add, q_sub, q_addBI, q_addIB, q_subBI, q_subIB, p_strB, p_strS, tI_t, tI_f, q_mul, q_rep, q_div, q_mod, q_lt, q_le, q_gt, q_ge, q_eq, q_ne, q_is, q_isn, q_isB, q_isnB, q_isnI, x_idx, k_idx1, k_idx2, q_catL, q_catT, q_catS, isNon_non, isNon_int, isNon_bl, isNon_str, isNon_tup, isNon_lst, p_divmod, p_lenL, p_lenT, p_lenF, p_lenS, p_intB, p_intI, p_max2, p_min2, p_tupL, p_tupT, p_lstL, p_lstT, p_lstF, is_intI, is_intB, is_intS, is_intN, is_intT, is_intL, is_blI, is_blB, is_blS, is_blN, is_blT, is_blL, is_strI, is_strB, is_strS, is_strN, is_strT, is_strL, is_tupI, is_tupB, is_tupS, is_tupN, is_tupT, is_tupL, is_lstI, is_lstB, is_lstS, is_lstN, is_lstT, is_lstL, opIx_lst, opIx_tup, opIx_frl, k_midN, k_midC, k_midB, k_midR, k_midO, k_midX, k_turnN, k_turnC, k_turnB, k_turnR, k_turnX, k_wtN, k_wtC, k_wtB, k_wtR, k_wtX, k_wc, k_le, frzE_eq, turn_eq, turnC_eq, k_le, forL_nil, lcL_nil, startE, decide_eq_true_eq, decide_eq_false_iff_not, decide_true, decide_false, Bool.not_eq_true', Bool.not_eq_eq_eq_not, Bool.not_true, Bool.not_false, Bool.true_eq_false, Bool.false_eq_true, Bool.not_not, Option.bind_some, Option.map_some, List.map_cons, List.map_nil, List.length_cons, List.length_nil, List.cons_append, List.nil_append, List.set_cons_zero, List.set_cons_succ, List.getElem?_cons_zero, List.getElem?_cons_succ, List.length_set, ↓reduceIte, if_true, if_false, ite_self, List.replicate, List.take_succ_cons, List.take_zero, List.drop_succ_cons, List.drop_zero, List.flatten_cons, List.flatten_nil, Int.reduceToNat, List.isEmpty_cons, List.isEmpty_nil, Nat.reduceAdd, Nat.reduceSub, Nat.reduceLT, Nat.reduceLeDiff, Nat.reduceEqDiff, Int.cast_ofNat_Int, not_true_eq_false, not_false_eq_true, Int.reduceAdd, Int.reduceSub, Int.reduceMul, Int.reduceLT, Int.reduceLE, Int.reduceEq, Int.reduceNe, Int.reduceNeg, Int.zero_add, ne_eq, id, wipeE, lcL_nil, eq_self, and_true, true_and, D.int.injEq, D.bl.injEq, ofS_eq, String.reduceEq, q_eqD, q_neD, q_inT, q_inL, q_ninT, q_ninL, beq_self_eq_true, List.any_cons, List.any_nil, Bool.or_false, Bool.false_or, Bool.or_true, Bool.true_or, deq_nb, deq_ni, deq_ns, deq_nt, deq_nl, deq_bn, deq_bs, deq_bt, deq_bl, deq_in, deq_is, deq_it, deq_il, deq_sn, deq_sb, deq_si, deq_st, deq_sl, deq_tn, deq_tb, deq_ti, deq_ts, deq_tl, deq_ln, deq_lb, deq_li, deq_ls, deq_lt, deq_nn, deq_bb, deq_ii, deq_ss, deq_tt, deq_ll, deqL_nn, deqL_cc, deqL_nc, deqL_cn, okd_i, okd_n, okd_b, okd_t, okd_l, okdL_n, okdL_c, Bool.and_true, Bool.true_and, Bool.and_false, Bool.false_and, $xs,*])

/-- the day of anything -/
def dayD : D → Option Int
  | .tup [.int y, .int m, .int k] => if 2001 ≤ y ∧ y ≤ 2274 ∧ 1 ≤ m ∧ m ≤ 12 ∧ 1 ≤ k ∧ k ≤ ml (12 * (y - 2001) + m - 1) ∧ FO (12 * (y - 2001) + m - 1) + k - 1 ≤ 99999 then some (FO (12 * (y - 2001) + m - 1) + k - 1) else none
  | _ => none
theorem dayD_int {y m k : Int} : dayD (.tup [.int y, .int m, .int k]) = if 2001 ≤ y ∧ y ≤ 2274 ∧ 1 ≤ m ∧ m ≤ 12 ∧ 1 ≤ k ∧ k ≤ ml (12 * (y - 2001) + m - 1) ∧ FO (12 * (y - 2001) + m - 1) + k - 1 ≤ 99999 then some (FO (12 * (y - 2001) + m - 1) + k - 1) else none := rfl
theorem dayD_some {a b c : D} {j : Int} (h : dayD (.tup [a, b, c]) = some j) : ∃ y m k, a = .int y ∧ b = .int m ∧ c = .int k ∧ 2001 ≤ y ∧ y ≤ 2274 ∧ 1 ≤ m ∧ m ≤ 12 ∧ 1 ≤ k ∧ k ≤ ml (12 * (y - 2001) + m - 1) ∧ FO (12 * (y - 2001) + m - 1) + k - 1 ≤ 99999 ∧ j = FO (12 * (y - 2001) + m - 1) + k - 1 := by
  unfold dayD at h
  split at h
  · rename_i y m k e
    simp only [D.tup.injEq, List.cons.injEq, and_true] at e
    obtain ⟨rfl, rfl, rfl⟩ := e
    split at h
    · rename_i hc
      cases h
      exact ⟨y, m, k, rfl, rfl, rfl, hc.1, hc.2.1, hc.2.2.1, hc.2.2.2.1, hc.2.2.2.2.1, hc.2.2.2.2.2.1, hc.2.2.2.2.2.2, rfl⟩
    · cases h
  · cases h
theorem dayD_tup {d : D} {j : Int} (h : dayD d = some j) : ∃ a b c, d = .tup [a, b, c] := by
  unfold dayD at h
  split at h
  · exact ⟨_, _, _, rfl⟩
  · cases h
/-- day_of tells the day of a date and refuses all else -/
theorem s_day_ofD {n : Nat} {d : D} {S : Sto} (h : okd n d = true) : M.day_of [d] S = match dayD d with
    | some i => .ok (.int i) S
    | none => .exc ⟨21, []⟩ S := by
  cases hd : dayD d with
  | some j =>
    obtain ⟨a, b, c, rfl⟩ := dayD_tup hd
    obtain ⟨y, m, k, rfl, rfl, rfl, h1, h2, h3, h4, h5, h6, h7, rfl⟩ := dayD_some hd
    exact s_day_of h1 h2 h3 h4 h5 h6 h7
  | none =>
    refine tri_exc ?_
    rcases okd_kinds h with ⟨ds, rfl, hds⟩ | ⟨i, rfl⟩ | ⟨b, rfl⟩ | ⟨x, rfl⟩ | ⟨ds, rfl, _⟩ | rfl
    case inl =>
      have w3 : ∀ k : Nat, ¬ (((k + 1 + 1 + 1 + 1 : Nat) : Int) = 3) := fun k => by omega
      rcases ds with _ | ⟨a, _ | ⟨b, _ | ⟨c, _ | ⟨e, r⟩⟩⟩⟩
      · simp_arith! only [x_sTry, k_tryN, k_tryR, k_tryX, k_goneN, k_goneR, x_sRaise, x_sRaise1, k_raise1, x_isE, k_isE, x_xf, k_xf, isNon_exc, M.day_of, M.b_day_of]
      · simp_arith! only [x_sTry, k_tryN, k_tryR, k_tryX, k_goneN, k_goneR, x_sRaise, x_sRaise1, k_raise1, x_isE, k_isE, x_xf, k_xf, isNon_exc, M.day_of, M.b_day_of]
      · simp_arith! only [x_sTry, k_tryN, k_tryR, k_tryX, k_goneN, k_goneR, x_sRaise, x_sRaise1, k_raise1, x_isE, k_isE, x_xf, k_xf, isNon_exc, M.day_of, M.b_day_of]
      · simp only [okdL, Bool.and_eq_true] at hds
        obtain ⟨ha, hb, hc, _⟩ := hds
        have f1 := fun lo hi S => s_wholeD (lo := lo) (hi := hi) (S := S) ha
        have f2 := fun lo hi S => s_wholeD (lo := lo) (hi := hi) (S := S) hb
        have f3 := fun lo hi S => s_wholeD (lo := lo) (hi := hi) (S := S) hc
        cases w1 : wholeD 2001 2274 a with
        | false => simp_arith! only [x_sTry, k_tryN, k_tryR, k_tryX, k_goneN, k_goneR, x_sRaise, x_sRaise1, k_raise1, x_isE, k_isE, x_xf, k_xf, isNon_exc, M.day_of, M.b_day_of, k_FIRST_YEAR, k_LAST_DAY_v2, f1, f2, f3, w1]
        | true =>
          cases w2 : wholeD 1 12 b with
          | false => simp_arith! only [x_sTry, k_tryN, k_tryR, k_tryX, k_goneN, k_goneR, x_sRaise, x_sRaise1, k_raise1, x_isE, k_isE, x_xf, k_xf, isNon_exc, M.day_of, M.b_day_of, k_FIRST_YEAR, k_LAST_DAY_v2, f1, f2, f3, w1, w2]
          | true =>
            cases w4 : wholeD 1 31 c with
            | false => simp_arith! only [x_sTry, k_tryN, k_tryR, k_tryX, k_goneN, k_goneR, x_sRaise, x_sRaise1, k_raise1, x_isE, k_isE, x_xf, k_xf, isNon_exc, M.day_of, M.b_day_of, k_FIRST_YEAR, k_LAST_DAY_v2, f1, f2, f3, w1, w2, w4]
            | true =>
              obtain ⟨y, rfl, y1, y2⟩ := wholeD_int w1
              obtain ⟨m, rfl, m1, m2⟩ := wholeD_int w2
              obtain ⟨k, rfl, k1, k2⟩ := wholeD_int w4
              rw [dayD_int] at hd
              have hc : ¬ (k ≤ ml (12 * (y - 2001) + m - 1) ∧ FO (12 * (y - 2001) + m - 1) + k - 1 ≤ 99999) := fun z => by
                rw [if_pos ⟨y1, y2, m1, m2, k1, z.1, z.2⟩] at hd
                cases hd
              have := ml_pos (12 * (y - 2001) + m - 1)
              by_cases g1 : ml (12 * (y - 2001) + m - 1) < k
              · simp_arith! only [x_sTry, k_tryN, k_tryR, k_tryX, k_goneN, k_goneR, x_sRaise, x_sRaise1, k_raise1, x_isE, k_isE, x_xf, k_xf, isNon_exc, M.day_of, M.b_day_of, k_FIRST_YEAR, k_LAST_DAY_v2, f1, f2, f3, w1, w2, w4, s_first_of, s_month_length, g1]
              · have g2 : 99999 < FO (12 * (y - 2001) + m - 1) + k - 1 := by omega
                simp_arith! only [x_sTry, k_tryN, k_tryR, k_tryX, k_goneN, k_goneR, x_sRaise, x_sRaise1, k_raise1, x_isE, k_isE, x_xf, k_xf, isNon_exc, M.day_of, M.b_day_of, k_FIRST_YEAR, k_LAST_DAY_v2, f1, f2, f3, w1, w2, w4, s_first_of, s_month_length, g1, g2]
      · simp_arith! only [x_sTry, k_tryN, k_tryR, k_tryX, k_goneN, k_goneR, x_sRaise, x_sRaise1, k_raise1, x_isE, k_isE, x_xf, k_xf, isNon_exc, M.day_of, M.b_day_of, w3]
    all_goals simp_arith! only [x_sTry, k_tryN, k_tryR, k_tryX, k_goneN, k_goneR, x_sRaise, x_sRaise1, k_raise1, x_isE, k_isE, x_xf, k_xf, isNon_exc, M.day_of, M.b_day_of]
def dueV (d : D) : D := match dayD d with
  | some i => .int i
  | none => .non
theorem FO_nn {n : Int} (h : 0 ≤ n) : 0 ≤ FO n := by
  have := FO_le h
  rw [show FO 0 = 0 from rfl] at this
  omega
def alike : D → D
  | .int i => if i = 1 then .bl true else .int i
  | d => d
end G

namespace G.C
inductive How where
  | once
  | days (n : Int)
  | weeks (n : Int) (ws : List Int)
  | dates (n d : Int)
  | wds (n k o : Int)
def HowOk : How → Prop
  | .once => True
  | .days n => 1 ≤ n ∧ n ≤ 99
  | .weeks n ws => (1 ≤ n ∧ n ≤ 99) ∧ ws ≠ [] ∧ ws.Pairwise (· < ·) ∧ ∀ w ∈ ws, 0 ≤ w ∧ w ≤ 6
  | .dates n d => (1 ≤ n ∧ n ≤ 99) ∧ 1 ≤ d ∧ d ≤ 31
  | .wds n k o => (1 ≤ n ∧ n ≤ 99) ∧ -1 ≤ k ∧ k ≤ 5 ∧ k ≠ 0 ∧ 0 ≤ o ∧ o ≤ 6
/-- from a on, ahead of b -/
def rg (a b : Int) : List Int := (List.range (b - a).toNat).map fun i => a + (i : Nat)
/-- those of a stretch that p lets by -/
def rf (p : Int → Bool) (a b : Int) : List Int := (rg a b).filter p
/-- the month of a day -/
noncomputable def mo (d : Int) : Int := open Classical in if h : ∃ n : Int, FO n ≤ d ∧ d < FO n + ml n then h.choose else 0
/-- the date in a month, 0 of none -/
def lastW (m o : Int) : Int := 1 + (o - FO m % 7) % 7 + 7 * ((ml m - (1 + (o - FO m % 7) % 7)) / 7)
def dateIn : How → Int → Int
  | .dates _ d, m => if d ≤ ml m then d else 0
  | .wds _ k o, m => if 0 < k then (if 1 + (o - FO m % 7) % 7 + 7 * (k - 1) ≤ ml m then 1 + (o - FO m % 7) % 7 + 7 * (k - 1) else 0) else lastW m o
  | _, _ => 0
noncomputable def begins : How → Int → Int → Int
  | .once, f, s => f + s * 99990
  | .days n, f, s => f + s * n
  | .weeks n _, f, s => f - f % 7 + s * (7 * n)
  | .dates n _, f, s => FO (mo f + s * n)
  | .wds n _ _, f, s => FO (mo f + s * n)
noncomputable def daysIn : How → Int → Int → List Int
  | .once, f, s => if s = 0 then [f] else []
  | .days n, f, s => [f + s * n]
  | .weeks n ws, f, s => (ws.map fun w => begins (.weeks n ws) f s + w).filter fun d => decide (f ≤ d)
  | h@(.dates n _), f, s => if dateIn h (mo f + s * n) = 0 ∨ FO (mo f + s * n) + dateIn h (mo f + s * n) - 1 < f then [] else [FO (mo f + s * n) + dateIn h (mo f + s * n) - 1]
  | h@(.wds n _ _), f, s => if dateIn h (mo f + s * n) = 0 ∨ FO (mo f + s * n) + dateIn h (mo f + s * n) - 1 < f then [] else [FO (mo f + s * n) + dateIn h (mo f + s * n) - 1]
noncomputable def stretchOf : How → Int → Int → Int
  | .once, _, _ => 0
  | .days n, f, d => max 0 ((d - f) / n)
  | .weeks n _, f, d => max 0 ((d - (f - f % 7)) / (7 * n))
  | .dates n _, f, d => max 0 ((mo d - mo f) / n)
  | .wds n _ _, f, d => max 0 ((mo d - mo f) / n)
noncomputable def fits : How → Int → Int → Bool
  | .once, f, d => decide (d = f)
  | .days n, f, d => decide (f ≤ d ∧ (d - f) % n = 0)
  | .weeks n ws, f, d => decide (f ≤ d ∧ d % 7 ∈ ws ∧ (d / 7 - f / 7) % n = 0)
  | h@(.dates n _), f, d => decide (f ≤ d ∧ (mo d - mo f) % n = 0 ∧ dateIn h (mo d) ≠ 0 ∧ d = FO (mo d) + dateIn h (mo d) - 1)
  | h@(.wds n _ _), f, d => decide (f ≤ d ∧ (mo d - mo f) % n = 0 ∧ dateIn h (mo d) ≠ 0 ∧ d = FO (mo d) + dateIn h (mo d) - 1)
end G.C

namespace G
open PySem L2

mutual
/-- plain data of depth n at most, lists and texts of length m at most -/
def okz (m : Nat) : Nat → D → Bool
  | _, .non => true
  | _, .bl _ => true
  | _, .int i => decide (-10000000000000000000000000000000000000000000000000000000000000000 ≤ i ∧ i ≤ 10000000000000000000000000000000000000000000000000000000000000000)
  | _, .str x => PyData.strOk x && decide (x.length ≤ m)
  | n + 1, .tup ds => decide (ds.length ≤ m) && okzL m n ds
  | n + 1, .lst ds => decide (ds.length ≤ m) && okzL m n ds
  | _, _ => false
def okzL (m : Nat) : Nat → List D → Bool
  | _, [] => true
  | n, d :: ds => okz m n d && okzL m n ds
end
section
variable {m n : Nat} {i : Int} {b : Bool} {x : Str} {d : D} {ds es : List D}
theorem okz_i (h : -10000000000000000000000000000000000000000000000000000000000000000 ≤ i) (h2 : i ≤ 10000000000000000000000000000000000000000000000000000000000000000) : okz m n (.int i) = true := by cases n <;> simp [okz, h, h2]
theorem okz_id (h : okz m n (.int i) = true) : -10000000000000000000000000000000000000000000000000000000000000000 ≤ i ∧ i ≤ 10000000000000000000000000000000000000000000000000000000000000000 := by cases n <;> simpa [okz] using h
theorem okz_n : okz m n .non = true := by cases n <;> simp [okz]
theorem okz_b : okz m n (.bl b) = true := by cases n <;> simp [okz]
theorem okz_s : okz m n (.str x) = (PyData.strOk x && decide (x.length ≤ m)) := by cases n <;> simp [okz]
theorem okz_t : okz m (n + 1) (.tup ds) = (decide (ds.length ≤ m) && okzL m n ds) := by simp [okz]
theorem okz_l : okz m (n + 1) (.lst ds) = (decide (ds.length ≤ m) && okzL m n ds) := by simp [okz]
theorem okz_tl (h : ds.length ≤ m) (h2 : okzL m n ds = true) : okz m (n + 1) (.tup ds) = true := by rw [okz_t, decide_eq_true h, h2]; rfl
theorem okz_ll (h : ds.length ≤ m) (h2 : okzL m n ds = true) : okz m (n + 1) (.lst ds) = true := by rw [okz_l, decide_eq_true h, h2]; rfl
theorem okzL_n : okzL m n [] = true := by simp [okzL]
theorem okzL_c : okzL m n (d :: ds) = (okz m n d && okzL m n ds) := by simp [okzL]
theorem okzL_cc (h : okz m n d = true) (h2 : okzL m n ds = true) : okzL m n (d :: ds) = true := by rw [okzL_c, h, h2]; rfl
end
mutual
theorem okz_okd {m : Nat} : ∀ {n : Nat} {d : D}, okz m n d = true → okd n d = true
  | n, .non, h => okd_n
  | n, .bl _, h => okd_b
  | n, .int _, h => okd_i
  | n, .str x, h => by rw [okz_s, Bool.and_eq_true] at h; exact okd_s h.1
  | 0, .tup ds, h => by simp [okz] at h
  | n + 1, .tup ds, h => by
    rw [okz_t, Bool.and_eq_true] at h
    rw [okd_t]; exact okzL_okd h.2
  | 0, .lst ds, h => by simp [okz] at h
  | n + 1, .lst ds, h => by
    rw [okz_l, Bool.and_eq_true] at h
    rw [okd_l]; exact okzL_okd h.2
  | n, .frl _, h => by cases n <;> simp [okz] at h
  | n, .ins _ _ _, h => by cases n <;> simp [okz] at h
  | n, .obj _, h => by cases n <;> simp [okz] at h
  | n, .exc _ _ _, h => by cases n <;> simp [okz] at h
theorem okzL_okd {m : Nat} : ∀ {n : Nat} {ds : List D}, okzL m n ds = true → okdL n ds = true
  | n, [], h => okdL_n
  | n, d :: ds, h => by
    rw [okzL_c, Bool.and_eq_true] at h
    rw [okdL_c, okz_okd h.1, okzL_okd h.2]; rfl
end
mutual
theorem okz_mono {m k : Nat} (hm : m ≤ k) : ∀ {n : Nat} {d : D}, okz m n d = true → okz k (n + 1) d = true
  | n, .non, h => okz_n
  | n, .bl _, h => okz_b
  | n, .int _, h => okz_i (okz_id h).1 (okz_id h).2
  | n, .str x, h => by
    rw [okz_s, Bool.and_eq_true, decide_eq_true_eq] at h
    rw [okz_s, h.1, decide_eq_true (by omega)]; rfl
  | 0, .tup ds, h => by simp [okz] at h
  | n + 1, .tup ds, h => by
    rw [okz_t, Bool.and_eq_true, decide_eq_true_eq] at h
    exact okz_tl (by omega) (okzL_mono hm h.2)
  | 0, .lst ds, h => by simp [okz] at h
  | n + 1, .lst ds, h => by
    rw [okz_l, Bool.and_eq_true, decide_eq_true_eq] at h
    exact okz_ll (by omega) (okzL_mono hm h.2)
  | n, .frl _, h => by cases n <;> simp [okz] at h
  | n, .ins _ _ _, h => by cases n <;> simp [okz] at h
  | n, .obj _, h => by cases n <;> simp [okz] at h
  | n, .exc _ _ _, h => by cases n <;> simp [okz] at h
theorem okzL_mono {m k : Nat} (hm : m ≤ k) : ∀ {n : Nat} {ds : List D}, okzL m n ds = true → okzL k (n + 1) ds = true
  | n, [], h => okzL_n
  | n, d :: ds, h => by
    rw [okzL_c, Bool.and_eq_true] at h
    exact okzL_cc (okz_mono hm h.1) (okzL_mono hm h.2)
end
mutual
theorem okz_len {m k : Nat} (hm : m ≤ k) : ∀ {n : Nat} {d : D}, okz m n d = true → okz k n d = true
  | n, .non, h => okz_n
  | n, .bl _, h => okz_b
  | n, .int _, h => okz_i (okz_id h).1 (okz_id h).2
  | n, .str x, h => by
    rw [okz_s, Bool.and_eq_true, decide_eq_true_eq] at h
    rw [okz_s, h.1, decide_eq_true (by omega)]; rfl
  | 0, .tup ds, h => by simp [okz] at h
  | n + 1, .tup ds, h => by
    rw [okz_t, Bool.and_eq_true, decide_eq_true_eq] at h
    exact okz_tl (by omega) (okzL_len hm h.2)
  | 0, .lst ds, h => by simp [okz] at h
  | n + 1, .lst ds, h => by
    rw [okz_l, Bool.and_eq_true, decide_eq_true_eq] at h
    exact okz_ll (by omega) (okzL_len hm h.2)
  | n, .frl _, h => by cases n <;> simp [okz] at h
  | n, .ins _ _ _, h => by cases n <;> simp [okz] at h
  | n, .obj _, h => by cases n <;> simp [okz] at h
  | n, .exc _ _ _, h => by cases n <;> simp [okz] at h
theorem okzL_len {m k : Nat} (hm : m ≤ k) : ∀ {n : Nat} {ds : List D}, okzL m n ds = true → okzL k n ds = true
  | n, [], h => okzL_n
  | n, d :: ds, h => by
    rw [okzL_c, Bool.and_eq_true] at h
    exact okzL_cc (okz_len hm h.1) (okzL_len hm h.2)
end
section
variable {m n : Nat} {d : D} {ds es : List D}
theorem okz_td (h : okz m (n + 1) (.tup ds) = true) : ds.length ≤ m ∧ okzL m n ds = true := by
  rwa [okz_t, Bool.and_eq_true, decide_eq_true_eq] at h
theorem okz_ld (h : okz m (n + 1) (.lst ds) = true) : ds.length ≤ m ∧ okzL m n ds = true := by
  rwa [okz_l, Bool.and_eq_true, decide_eq_true_eq] at h
end
mutual
/-- .. without truths and lists, numbers small -/
def nob (m : Nat) : Nat → D → Bool
  | _, .non => true
  | _, .int i => decide (-1000000000 ≤ i ∧ i ≤ 1000000000)
  | _, .str x => PyData.strOk x && decide (x.length ≤ m)
  | n + 1, .tup ds => decide (ds.length ≤ m) && nobL m n ds
  | _, _ => false
def nobL (m : Nat) : Nat → List D → Bool
  | _, [] => true
  | n, d :: ds => nob m n d && nobL m n ds
end
section
variable {m n : Nat} {i : Int} {b : Bool} {x : Str} {d : D} {ds es : List D}
theorem nob_id (h : nob m n (.int i) = true) : -1000000000 ≤ i ∧ i ≤ 1000000000 := by cases n <;> simpa [nob] using h
theorem nob_s : nob m n (.str x) = (PyData.strOk x && decide (x.length ≤ m)) := by cases n <;> simp [nob]
theorem nob_t : nob m (n + 1) (.tup ds) = (decide (ds.length ≤ m) && nobL m n ds) := by simp [nob]
theorem nob_td (h : nob m (n + 1) (.tup ds) = true) : ds.length ≤ m ∧ nobL m n ds = true := by
  rwa [nob_t, Bool.and_eq_true, decide_eq_true_eq] at h
theorem nobL_c : nobL m n (d :: ds) = (nob m n d && nobL m n ds) := by simp [nobL]
end
mutual
theorem nob_okz {m : Nat} : ∀ {n : Nat} {d : D}, nob m n d = true → okz m n d = true
  | n, .non, h => okz_n
  | n, .bl _, h => by cases n <;> simp [nob] at h
  | n, .int _, h => by have := nob_id h; exact okz_i (by omega) (by omega)
  | n, .str x, h => by rw [nob_s] at h; rw [okz_s]; exact h
  | 0, .tup ds, h => by simp [nob] at h
  | n + 1, .tup ds, h => okz_tl (nob_td h).1 (nobL_okz (nob_td h).2)
  | n, .lst ds, h => by cases n <;> simp [nob] at h
  | n, .frl _, h => by cases n <;> simp [nob] at h
  | n, .ins _ _ _, h => by cases n <;> simp [nob] at h
  | n, .obj _, h => by cases n <;> simp [nob] at h
  | n, .exc _ _ _, h => by cases n <;> simp [nob] at h
theorem nobL_okz {m : Nat} : ∀ {n : Nat} {ds : List D}, nobL m n ds = true → okzL m n ds = true
  | n, [], h => okzL_n
  | n, d :: ds, h => by
    rw [nobL_c, Bool.and_eq_true] at h
    exact okzL_cc (nob_okz h.1) (nobL_okz h.2)
end
mutual
theorem okz_scp {m : Nat} : ∀ {n : Nat} {d : D}, okz m n d = true → scp 0 d = true
  | n, .non, h => rfl
  | n, .bl _, h => rfl
  | n, .int _, h => rfl
  | n, .str x, h => rfl
  | 0, .tup ds, h => by simp [okz] at h
  | n + 1, .tup ds, h => by simpa [scp] using okzL_scp (okz_td h).2
  | 0, .lst ds, h => by simp [okz] at h
  | n + 1, .lst ds, h => by simpa [scp] using okzL_scp (okz_ld h).2
  | n, .frl _, h => by cases n <;> simp [okz] at h
  | n, .ins _ _ _, h => by cases n <;> simp [okz] at h
  | n, .obj _, h => by cases n <;> simp [okz] at h
  | n, .exc _ _ _, h => by cases n <;> simp [okz] at h
theorem okzL_scp {m : Nat} : ∀ {n : Nat} {ds : List D}, okzL m n ds = true → scpL 0 ds = true
  | n, [], h => rfl
  | n, d :: ds, h => by
    rw [okzL_c, Bool.and_eq_true] at h
    simp [scpL, okz_scp h.1, okzL_scp h.2]
end
end G

namespace G
open PySem L2

section
variable {env : Env} {S : Sto} {E : EX} {K : KD} {KF' : KF} {fa fb fc : Ex} {d x y : D} {ds : List D} {fs gs : Sem1 (List D)} {c n : Nat} {m f : Str} {ms : List (Nat × FnSem)} {cs : List Nat} {sem : FnSem}
def fldOf (cs : List Nat) (f : Str) (S : Sto) (x : D) : Option D := match insOf S x with
  | some (c, fs) => if c ∈ cs then fs.lookup f else none
  | none => none
def kFld (cs : List Nat) (f : Str) (K : KD) : KD := fun x S => optK (fldOf cs f S x) id K S
theorem x_fld : Tx (eFld cs f fa env S) K E = Tx (fa env S) (kFld cs f K) E := by
  unfold eFld; rw [x_bind]; congr 1; funext x S; unfold kFld fldOf
  cases insOf S x with
  | none => with_unfolding_all rfl
  | some p =>
    obtain ⟨c, fs⟩ := p
    simp only []
    split
    · exact x_opt
    · with_unfolding_all rfl
theorem k_fld : kFld cs f K x S = optK (fldOf cs f S x) id K S := rfl
def lkF (f : Str) : List Str → List D → Option D
  | k :: ks, d :: ds => if f = k then some d else lkF f ks ds
  | _, _ => none
theorem lookup_lkF : ∀ {ks : List Str} {ds : List D}, (ks.zip ds).lookup f = lkF f ks ds
  | [], _ => by simp [lkF]
  | _ :: _, [] => by simp [lkF]
  | k :: ks, d :: ds => by
    rw [List.zip_cons_cons, List.lookup_cons, lkF, lookup_lkF]
    by_cases h : f = k
    · subst h; simp
    · rw [if_neg h, show (f == k) = false from by simpa using h]
theorem lkF_c {k : Str} {ks : List Str} : lkF f (k :: ks) (d :: ds) = if f = k then some d else lkF f ks ds := rfl
theorem lkF_n : lkF f [] ds = none := by cases ds <;> with_unfolding_all rfl
theorem fld_ins {ks : List Str} : fldOf cs f S (.ins c ks ds) = if c ∈ cs then lkF f ks ds else none := by
  unfold fldOf insOf
  simp only [lookup_lkF]
theorem k_optI {d : D} : optK (some d) id K S = K d S := rfl
def methOf (m : Str) (ms : List (Nat × FnSem)) (S : Sto) (x : D) : Option FnSem := match insOf S x with
  | some (c, at_) => (match lkM ms c, at_.lookup m with
    | some sem, none => some sem
    | _, _ => none)
  | none => none
def kMeth2 (n : Nat) (sem : FnSem) (x : D) (K : KD) (E : EX) : KL := fun ds S2 => ds.length + 1 = n ∧ Tx (sem (x :: ds) S2) K E
def kMethG (n : Nat) (fs : Sem1 (List D)) (env : Env) (x : D) (K : KD) (E : EX) (S : Sto) : Option FnSem → Prop
  | some sem => Tx (fs env S) (kMeth2 n sem x K E) E
  | none => False
def kMeth (m : Str) (ms : List (Nat × FnSem)) (n : Nat) (fs : Sem1 (List D)) (env : Env) (K : KD) (E : EX) : KD := fun x S => kMethG n fs env x K E S (methOf m ms S x)
theorem x_meth : Tx (eMeth m ms n fa fs env S) K E = Tx (fa env S) (kMeth m ms n fs env K E) E := by
  unfold eMeth; rw [x_bind]; congr 1; funext x S; unfold kMeth methOf
  cases insOf S x with
  | none => with_unfolding_all rfl
  | some p =>
    obtain ⟨c, at_⟩ := p
    cases hk : lkM ms c with
    | none => simp only [hk]; with_unfolding_all rfl
    | some sem =>
      cases hl : at_.lookup m with
      | some d => simp only [hk, hl]; with_unfolding_all rfl
      | none =>
        simp only [hk, hl, kMethG]
        rw [x_bind]; congr 1; funext ds S2; unfold kMeth2; split <;> simp_all [Tx]
theorem k_meth : kMeth m ms n fs env K E x S = kMethG n fs env x K E S (methOf m ms S x) := rfl
theorem k_methS : kMethG n fs env x K E S (some sem) = Tx (fs env S) (kMeth2 n sem x K E) E := by with_unfolding_all rfl
theorem k_meth2 (h : ds.length + 1 = n) : kMeth2 n sem x K E ds S = Tx (sem (x :: ds) S) K E := by
  unfold kMeth2; simp [h]
theorem meth_ins {ks : List Str} : methOf m ms S (.ins c ks ds) = (match lkF m ks ds with | none => lkM ms c | some _ => none) := by
  unfold methOf insOf
  simp only [lookup_lkF]
  cases lkM ms c <;> cases lkF m ks ds <;> with_unfolding_all rfl
theorem lkM_c {a : Nat} {s : FnSem} {r : List (Nat × FnSem)} : lkM ((a, s) :: r) c = if a = c then some s else lkM r c := by
  unfold lkM
  rw [List.find?_cons]
  by_cases h : a = c
  · simp [h]
  · simp [h]
theorem getElem_snoc {o : MO} : (S ++ [o])[S.length]? = some o := by simp
theorem setO_new {fl : List (Str × D)} : setO cs f (.obj S.length) y (S ++ [.ins c fl]) = if c ∈ cs then (if fl.length < 1000 then some (S ++ [.ins c (putFD f y fl)]) else none) else none := by
  unfold setO
  simp only [getElem_snoc]
  have e : (S ++ [MO.ins c fl]).set S.length (.ins c (putFD f y fl)) = S ++ [.ins c (putFD f y fl)] := by
    rw [List.set_append_right _ _ (Nat.le_refl _)]
    simp
  rw [e]
  by_cases h1 : c ∈ cs <;> by_cases h2 : fl.length < 1000 <;> simp [h1, h2]
theorem insOf_new {fl : List (Str × D)} : insOf (S ++ [.ins c fl]) (.obj S.length) = some (c, fl) := by
  unfold insOf
  simp only [getElem_snoc]
def lkP (f : Str) : List (Str × D) → Option D
  | (k, d) :: r => if f = k then some d else lkP f r
  | [] => none
theorem lookup_lkP : ∀ {fl : List (Str × D)}, fl.lookup f = lkP f fl
  | [] => rfl
  | (k, d) :: r => by
    rw [List.lookup_cons, lkP, lookup_lkP]
    by_cases h : f = k
    · subst h; simp
    · rw [if_neg h, show (f == k) = false from by simpa using h]
theorem lkP_c {k : Str} {r : List (Str × D)} : lkP f ((k, d) :: r) = if f = k then some d else lkP f r := rfl
theorem fld_new {fl : List (Str × D)} : fldOf cs f (S ++ [.ins c fl]) (.obj S.length) = if c ∈ cs then lkP f fl else none := by
  unfold fldOf
  rw [insOf_new]
  simp only [lookup_lkP]
def setK (env : Env) (K : KF) : Option Sto → Prop
  | some S4 => K (.nx env) S4
  | none => False
theorem k_setK {S4 : Sto} : setK env KF' (some S4) = KF' (.nx env) S4 := rfl
def kSFld1 (cs : List Nat) (f : Str) (fo : Ex) (env : Env) (K : KF) (E : EX) : KD := fun y S1 => Tx (fo env S1) (fun x S2 => setK env K (setO cs f x y S2)) (kX env K)
def kSFld2 (cs : List Nat) (f : Str) (y : D) (env : Env) (K : KF) : KD := fun x S2 => setK env K (setO cs f x y S2)
theorem x_sFld : Tx (sFld cs f fa fb env S) KF' E = Tx (fb env S) (kSFld1 cs f fa env KF' E) (kX env KF') := by
  unfold sFld; simp only [x_bs]; unfold kSFld1 kX; congr 1; funext v S; congr 1; funext o S
  cases setO cs f o v S <;> with_unfolding_all rfl
theorem k_sfld1 : kSFld1 cs f fa env KF' E y S = Tx (fa env S) (kSFld2 cs f y env KF') (kX env KF') := by with_unfolding_all rfl
theorem k_sfld2 : kSFld2 cs f y env KF' x S = setK env KF' (setO cs f x y S) := rfl
def kMakeF (c n : Nat) (sem : FnSem) (K : KD) (E : EX) : KL := fun ds S1 => ds.length + 1 = n ∧ ∃ fl, Tri (sem (.obj S1.length :: ds) (S1 ++ [.ins c []])) (fun d S2 => d = .non ∧ S2 = S1 ++ [.ins c fl]) ∧ scpL S1.length (fl.map (·.2)) = true ∧ K (.ins c (fl.map (·.1)) (fl.map (·.2))) S1
end
end G

namespace G
open PySem L2 C
local macro_rules
  | `(tactic| simp_all_arith! only [$xs,*]) => `(tactic| simp -implicitDefEqProofs (disch := first | assumption | omega | (simp only [okd_i, okd_n, okd_b, okd_s, strOk_of, okd_t, okd_l, okdL_n, okdL_c, Bool.and_true, Bool.and_self, *]; done) | (simp only [List.length_cons, List.length_nil, List.length_append, List.length_map, List.length_set, List.length_take, List.length_drop, List.length_reverse, rangeD_len, zipD_len, enumD_len] <;> omega)) only [x_ok, at0, at1, at2, at3, at4, at5, x_dict, k_dict, x_pairsN, x_pairsC, k_p1, k_p2, k_p3i, k_p3s, cut_ns, cut_sn, cut_ss, sl_L, sl_F, sl_T, sl_S, x_exc, slotV_v, slotO_v, slotO_o, x_var, x_own, x_c, x_bin, k_bin1, k_bin2, x_neg, k_neg, x_tup, k_tup, x_lst, k_lst, x_nCat, k_cat1, k_cat2, x_nRep, k_rep1, k_rep2, x_frz, k_frz, x_nil, x_cons, k_cons1, k_cons2, x_val, k_val, tr_bl, tr_non, tr_int, tr_lst, tr_tup, tr_frl, tr_str, x_and, x_or, x_not, k_and, k_or, k_not, x_tT, x_ifE, k_ifE, x_andV, x_orV, x_notV, k_andV, k_orV, k_notV, x_chain, k_ch1, k_ch2, k_ch3, x_call, x_callN, k_call, x_opt, k_some, x_isi, k_isi, x_oNone, x_oSome, k_oSome, x_nSl, k_nsl1, k_nsl2, k_nsl3L, k_nsl3F, x_sl, k_sl1, k_sl2, k_sl3, x_rev, k_rev, k_revT, x_fn, k_fn, x_fnB, k_fnB, x_tStill, k_stB, x_eStill, envB_t, envB_f, envB_n, envB_e, frzB_u, frzB_o, frzB_v, frzB_i, frzB_b, frzB_s, frzB_non, frzB_t, frzB_l, k_nolB, k_nolI, k_nolS, k_nolN, x_seq, k_seqL, k_seqT, k_seqF, k_seqS, x_rng1, k_rng1, x_rng2, k_rng2a, k_rng2b, x_enum, k_enum, k_enumT, x_zip, k_zipL, k_zipT, k_zipM, k_zipN, x_lc, k_lc, x_sNil, x_sSeq, k_sqn, k_sqr, k_sqb, k_sqc, k_sqx, x_sExpr, k_expr, x_sRet, k_ret, x_sRetN, x_sRetO, k_retO, x_sRetL, k_retL, x_nFn, k_fnN, k_sqo, k_turnO, k_wtO, x_runN, k_runO, k_runOX, x_sBrk, x_sCnt, x_sSet, k_set, x_sOwn, k_own, tg_some, x_sTg, k_tg, gN_ok, gT_t, gTs_n, gTs_c, x_sIf, k_if, x_sFor, k_for, x_sWhile, x_sFrz, frzE_eq, frz_o, frz_v, frz_u, slotL_o, k_mod, x_modE, x_withO, x_sApp, k_appL, k_app, hApp_ok, x_sSlA, k_slAL, k_slA, hAll_ok, x_sIns, k_insL, k_ins1, k_ins2, hIns_ok, x_sRevO, k_revO, x_sClrO, k_clrO, x_sExt, k_extL, k_ext, hExt_ok, x_sSetIx, k_setIxL, k_setIx1, k_setIx2, k_putK, x_sPut, k_put1, k_put2, k_put3, x_sPar, k_par, x_sPar3, k_par3, x_run, k_runN, k_runR, k_runX, k_x, q_add, q_sub, q_addBI, q_addIB, q_subBI, q_subIB, p_strB, p_strS, tI_t, tI_f, q_mul, q_rep, q_div, q_mod, q_lt, q_le, q_gt, q_ge, q_eq, q_ne, q_is, q_isn, q_isB, q_isnB, q_isnI, x_idx, k_idx1, k_idx2, q_catL, q_catT, q_catS, isNon_non, isNon_int, isNon_bl, isNon_str, isNon_tup, isNon_lst, p_divmod, p_lenL, p_lenT, p_lenF, p_lenS, p_intB, p_intI, p_max2, p_min2, p_tupL, p_tupT, p_lstL, p_lstT, p_lstF, is_intI, is_intB, is_intS, is_intN, is_intT, is_intL, is_blI, is_blB, is_blS, is_blN, is_blT, is_blL, is_strI, is_strB, is_strS, is_strN, is_strT, is_strL, is_tupI, is_tupB, is_tupS, is_tupN, is_tupT, is_tupL, is_lstI, is_lstB, is_lstS, is_lstN, is_lstT, is_lstL, opIx_lst, opIx_tup, opIx_frl, k_midN, k_midC, k_midB, k_midR, k_midO, k_midX, k_turnN, k_turnC, k_turnB, k_turnR, k_turnX, k_wtN, k_wtC, k_wtB, k_wtR, k_wtX, k_wc, k_le, frzE_eq, turn_eq, turnC_eq, k_le, forL_nil, lcL_nil, startE, decide_eq_true_eq, decide_eq_false_iff_not, decide_true, decide_false, Bool.not_eq_true', Bool.not_eq_eq_eq_not, Bool.not_true, Bool.not_false, Bool.true_eq_false, Bool.false_eq_true, Bool.not_not, Option.bind_some, Option.map_some, List.map_cons, List.map_nil, List.length_cons, List.length_nil, List.cons_append, List.nil_append, List.set_cons_zero, List.set_cons_succ, List.getElem?_cons_zero, List.getElem?_cons_succ, List.length_set, ↓reduceIte, if_true, if_false, ite_self, List.replicate, List.take_succ_cons, List.take_zero, List.drop_succ_cons, List.drop_zero, List.flatten_cons, List.flatten_nil, Int.reduceToNat, List.isEmpty_cons, List.isEmpty_nil, Nat.reduceAdd, Nat.reduceSub, Nat.reduceLT, Nat.reduceLeDiff, Nat.reduceEqDiff, Int.cast_ofNat_Int, not_true_eq_false, not_false_eq_true, Int.reduceAdd, Int.reduceSub, Int.reduceMul, Int.reduceLT, Int.reduceLE, Int.reduceEq, Int.reduceNe, Int.reduceNeg, Int.zero_add, ne_eq, id, wipeE, lcL_nil, eq_self, and_true, true_and, D.int.injEq, D.bl.injEq, ofS_eq, String.reduceEq, q_eqD, q_neD, q_inT, q_inL, q_ninT, q_ninL, beq_self_eq_true, List.any_cons, List.any_nil, Bool.or_false, Bool.false_or, Bool.or_true, Bool.true_or, deq_nb, deq_ni, deq_ns, deq_nt, deq_nl, deq_bn, deq_bs, deq_bt, deq_bl, deq_in, deq_is, deq_it, deq_il, deq_sn, deq_sb, deq_si, deq_st, deq_sl, deq_tn, deq_tb, deq_ti, deq_ts, deq_tl, deq_ln, deq_lb, deq_li, deq_ls, deq_lt, deq_nn, deq_bb, deq_ii, deq_ss, deq_tt, deq_ll, deqL_nn, deqL_cc, deqL_nc, deqL_cn, okd_i, okd_n, okd_b, okd_t, okd_l, okdL_n, okdL_c, Bool.and_true, Bool.true_and, Bool.and_false, Bool.false_and, olt_t, olt_f, ole_t, ole_f, oeq_t, oeq_lt, oeq_gt, x_fld, k_fld, fld_ins, fld_new, lkP_c, lkF_c, lkF_n, meth_ins, lkM_c, k_optI, x_meth, k_meth, k_methS, k_meth2, x_sFld, k_sfld1, k_sfld2, k_setK, setO_new, putFD, List.mem_cons, List.not_mem_nil, or_true, true_or, or_false, false_or, or_self, Nat.reduceEqDiff, Nat.reduceSucc, reduceCtorEq, List.mem_nil_iff, false_and, and_false, and_self, $xs,*])

inductive Fin where
  | none
  | times (c : Int)
  | untl (u : Int)
def wsD (ws : List Int) : D := .tup (ws.map D.int)
def hD : How → D
  | .once => .tup [.str "once"]
  | .days n => .tup [.str "days", .int n]
  | .weeks n ws => .tup [.str "weeks", .int n, wsD ws]
  | .dates n d => .tup [.str "months", .int n, .int d]
  | .wds n k o => .tup [.str "months", .int n, .int k, .int o]
def eD : Fin → D
  | .none => .non
  | .times c => .tup [.str "times", .int c]
  | .untl u => .tup [.str "until", .int u]
structure Rul where
  first : Int
  minute : Int
  length : Int
  how : How
  fin : Fin
def ruD (r : Rul) : D := .tup [.int r.first, .int r.minute, .int r.length, hD r.how, eD r.fin]
def FinOk (f : Int) : Fin → Prop
  | .none => True
  | .times c => 1 ≤ c ∧ c ≤ 1000
  | .untl u => f ≤ u ∧ u ≤ 99990
structure RulOk (r : Rul) : Prop where
  f0 : 2 ≤ r.first
  f1 : r.first ≤ 99990
  how : HowOk r.how
  fin : FinOk r.first r.fin
noncomputable def leftOut (f : Int) (ws : List Int) : Int := ((ws.filter fun w => decide (f - f % 7 + w < f)).length : Nat)
noncomputable def cmD : How → Int → D
  | .once, f => .ins 0 ["first"] [.int f]
  | .days n, f => .ins 1 ["first", "step"] [.int f, .int n]
  | .weeks n ws, f => .ins 2 ["first", "monday", "step", "weekdays", "left_out"] [.int f, .int (f - f % 7), .int (7 * n), wsD ws, .int (leftOut f ws)]
  | .dates n d, f => .ins 4 ["first", "month", "step", "date"] [.int f, .int (mo f), .int n, .int d]
  | .wds n k o, f => .ins 5 ["first", "month", "step", "which", "one"] [.int f, .int (mo f), .int n, .int k, .int o]
def dB : How → FnSem
  | .once => M.Once_begins
  | .days _ => M.Days_begins
  | .weeks _ _ => M.Weeks_begins
  | .dates _ _ => M.Months_begins
  | .wds _ _ _ => M.Months_begins
def dD : How → FnSem
  | .once => M.Once_days_in
  | .days _ => M.Days_days_in
  | .weeks _ _ => M.Weeks_days_in
  | .dates _ _ => M.Months_days_in
  | .wds _ _ _ => M.Months_days_in
def dS : How → FnSem
  | .once => M.Once_stretch_of
  | .days _ => M.Days_stretch_of
  | .weeks _ _ => M.Weeks_stretch_of
  | .dates _ _ => M.Months_stretch_of
  | .wds _ _ _ => M.Months_stretch_of
def dA : How → FnSem
  | .once => M.Once_ahead_of
  | .days _ => M.Days_ahead_of
  | .weeks _ _ => M.Weeks_ahead_of
  | .dates _ _ => M.Months_ahead_of
  | .wds _ _ _ => M.Months_ahead_of
def dP : How → FnSem
  | .once => M.Once_at_place
  | .days _ => M.Days_at_place
  | .weeks _ _ => M.Weeks_at_place
  | .dates _ _ => M.Months_at_place
  | .wds _ _ _ => M.Months_at_place
section
variable {h : How} {f : Int} {S : Sto}
end
def Near (h : How) (f s : Int) : Prop := s = 0 ∨ begins h f (s - 1) ≤ 99999
def dtD (x : Int) : D := if x = 0 then .non else .int x
end G

namespace G
open PySem L2 C
local macro_rules
  | `(tactic| simp_arith only [$xs,*]) => `(tactic| simp -implicitDefEqProofs (disch := first | assumption | omega | (simp only [List.length_cons, List.length_nil, List.length_append, List.length_map, List.length_set, List.length_take, List.length_drop, List.length_reverse, rangeD_len, zipD_len, enumD_len] <;> omega)) only [x_ok, at0, at1, at2, at3, at4, at5, x_dict, k_dict, x_pairsN, x_pairsC, k_p1, k_p2, k_p3i, k_p3s, cut_ns, cut_sn, cut_ss, sl_L, sl_F, sl_T, sl_S, x_exc, slotV_v, slotO_v, slotO_o, x_var, x_own, x_c, x_bin, k_bin1, k_bin2, x_neg, k_neg, x_tup, k_tup, x_lst, k_lst, x_nCat, k_cat1, k_cat2, x_nRep, k_rep1, k_rep2, x_frz, k_frz, x_nil, x_cons, k_cons1, k_cons2, x_val, k_val, tr_bl, tr_non, tr_int, tr_lst, tr_tup, tr_frl, tr_str, x_and, x_or, x_not, k_and, k_or, k_not, x_tT, x_ifE, k_ifE, x_andV, x_orV, x_notV, k_andV, k_orV, k_notV, x_chain, k_ch1, k_ch2, k_ch3, x_call, x_callN, k_call, x_opt, k_some, x_isi, k_isi, x_oNone, x_oSome, k_oSome, x_nSl, k_nsl1, k_nsl2, k_nsl3L, k_nsl3F, x_sl, k_sl1, k_sl2, k_sl3, x_rev, k_rev, k_revT, x_fn, k_fn, x_fnB, k_fnB, x_tStill, k_stB, x_eStill, envB_t, envB_f, envB_n, envB_e, frzB_u, frzB_o, frzB_v, frzB_i, frzB_b, frzB_s, frzB_non, frzB_t, frzB_l, k_nolB, k_nolI, k_nolS, k_nolN, x_seq, k_seqL, k_seqT, k_seqF, k_seqS, x_rng1, k_rng1, x_rng2, k_rng2a, k_rng2b, x_enum, k_enum, k_enumT, x_zip, k_zipL, k_zipT, k_zipM, k_zipN, x_lc, k_lc, x_sNil, x_sSeq, k_sqn, k_sqr, k_sqb, k_sqc, k_sqx, x_sExpr, k_expr, x_sRet, k_ret, x_sRetN, x_sRetO, k_retO, x_sRetL, k_retL, x_nFn, k_fnN, k_sqo, k_turnO, k_wtO, x_runN, k_runO, k_runOX, x_sBrk, x_sCnt, x_sSet, k_set, x_sOwn, k_own, tg_some, x_sTg, k_tg, gN_ok, gT_t, gTs_n, gTs_c, x_sIf, k_if, x_sFor, k_for, x_sWhile, x_sFrz, frzE_eq, frz_o, frz_v, frz_u, slotL_o, k_mod, x_modE, x_withO, x_sApp, k_appL, k_app, hApp_ok, x_sSlA, k_slAL, k_slA, hAll_ok, x_sIns, k_insL, k_ins1, k_ins2, hIns_ok, x_sRevO, k_revO, x_sClrO, k_clrO, x_sExt, k_extL, k_ext, hExt_ok, x_sSetIx, k_setIxL, k_setIx1, k_setIx2, k_putK, x_sPut, k_put1, k_put2, k_put3, x_sPar, k_par, x_sPar3, k_par3, x_run, k_runN, k_runR, k_runX, k_x, q_add, q_sub, q_addBI, q_addIB, q_subBI, q_subIB, p_strB, p_strS, tI_t, tI_f, q_mul, q_rep, q_div, q_mod, q_lt, q_le, q_gt, q_ge, q_eq, q_ne, q_is, q_isn, q_isB, q_isnB, q_isnI, x_idx, k_idx1, k_idx2, q_catL, q_catT, q_catS, isNon_non, isNon_int, isNon_bl, isNon_str, isNon_tup, isNon_lst, p_divmod, p_lenL, p_lenT, p_lenF, p_lenS, p_intB, p_intI, p_max2, p_min2, p_tupL, p_tupT, p_lstL, p_lstT, p_lstF, is_intI, is_intB, is_intS, is_intN, is_intT, is_intL, is_blI, is_blB, is_blS, is_blN, is_blT, is_blL, is_strI, is_strB, is_strS, is_strN, is_strT, is_strL, is_tupI, is_tupB, is_tupS, is_tupN, is_tupT, is_tupL, is_lstI, is_lstB, is_lstS, is_lstN, is_lstT, is_lstL, opIx_lst, opIx_tup, opIx_frl, k_midN, k_midC, k_midB, k_midR, k_midO, k_midX, k_turnN, k_turnC, k_turnB, k_turnR, k_turnX, k_wtN, k_wtC, k_wtB, k_wtR, k_wtX, k_wc, k_le, frzE_eq, turn_eq, turnC_eq, k_le, forL_nil, lcL_nil, startE, decide_eq_true_eq, decide_eq_false_iff_not, decide_true, decide_false, Bool.not_eq_true', Bool.not_eq_eq_eq_not, Bool.not_true, Bool.not_false, Bool.true_eq_false, Bool.false_eq_true, Bool.not_not, Option.bind_some, Option.map_some, List.map_cons, List.map_nil, List.length_cons, List.length_nil, List.cons_append, List.nil_append, List.set_cons_zero, List.set_cons_succ, List.getElem?_cons_zero, List.getElem?_cons_succ, List.length_set, ↓reduceIte, if_true, if_false, ite_self, List.replicate, List.take_succ_cons, List.take_zero, List.drop_succ_cons, List.drop_zero, List.flatten_cons, List.flatten_nil, Int.reduceToNat, List.isEmpty_cons, List.isEmpty_nil, Nat.reduceAdd, Nat.reduceSub, Nat.reduceLT, Nat.reduceLeDiff, Nat.reduceEqDiff, Int.cast_ofNat_Int, not_true_eq_false, not_false_eq_true, Int.reduceAdd, Int.reduceSub, Int.reduceMul, Int.reduceLT, Int.reduceLE, Int.reduceEq, Int.reduceNe, Int.reduceNeg, Int.zero_add, ne_eq, id, wipeE, lcL_nil, eq_self, and_true, true_and, D.int.injEq, D.bl.injEq, ofS_eq, String.reduceEq, $xs,*])
local macro_rules
  | `(tactic| simp_all_arith only [$xs,*]) => `(tactic| simp -implicitDefEqProofs (disch := first | assumption | omega | (simp only [okd_i, okd_n, okd_b, okd_s, strOk_of, okd_t, okd_l, okdL_n, okdL_c, Bool.and_true, Bool.and_self, *]; done) | (simp only [List.length_cons, List.length_nil, List.length_append, List.length_map, List.length_set, List.length_take, List.length_drop, List.length_reverse, rangeD_len, zipD_len, enumD_len] <;> omega)) only [x_ok, at0, at1, at2, at3, at4, at5, x_dict, k_dict, x_pairsN, x_pairsC, k_p1, k_p2, k_p3i, k_p3s, cut_ns, cut_sn, cut_ss, sl_L, sl_F, sl_T, sl_S, x_exc, slotV_v, slotO_v, slotO_o, x_var, x_own, x_c, x_bin, k_bin1, k_bin2, x_neg, k_neg, x_tup, k_tup, x_lst, k_lst, x_nCat, k_cat1, k_cat2, x_nRep, k_rep1, k_rep2, x_frz, k_frz, x_nil, x_cons, k_cons1, k_cons2, x_val, k_val, tr_bl, tr_non, tr_int, tr_lst, tr_tup, tr_frl, tr_str, x_and, x_or, x_not, k_and, k_or, k_not, x_tT, x_ifE, k_ifE, x_andV, x_orV, x_notV, k_andV, k_orV, k_notV, x_chain, k_ch1, k_ch2, k_ch3, x_call, x_callN, k_call, x_opt, k_some, x_isi, k_isi, x_oNone, x_oSome, k_oSome, x_nSl, k_nsl1, k_nsl2, k_nsl3L, k_nsl3F, x_sl, k_sl1, k_sl2, k_sl3, x_rev, k_rev, k_revT, x_fn, k_fn, x_fnB, k_fnB, x_tStill, k_stB, x_eStill, envB_t, envB_f, envB_n, envB_e, frzB_u, frzB_o, frzB_v, frzB_i, frzB_b, frzB_s, frzB_non, frzB_t, frzB_l, k_nolB, k_nolI, k_nolS, k_nolN, x_seq, k_seqL, k_seqT, k_seqF, k_seqS, x_rng1, k_rng1, x_rng2, k_rng2a, k_rng2b, x_enum, k_enum, k_enumT, x_zip, k_zipL, k_zipT, k_zipM, k_zipN, x_lc, k_lc, x_sNil, x_sSeq, k_sqn, k_sqr, k_sqb, k_sqc, k_sqx, x_sExpr, k_expr, x_sRet, k_ret, x_sRetN, x_sRetO, k_retO, x_sRetL, k_retL, x_nFn, k_fnN, k_sqo, k_turnO, k_wtO, x_runN, k_runO, k_runOX, x_sBrk, x_sCnt, x_sSet, k_set, x_sOwn, k_own, tg_some, x_sTg, k_tg, gN_ok, gT_t, gTs_n, gTs_c, x_sIf, k_if, x_sFor, k_for, x_sWhile, x_sFrz, frzE_eq, frz_o, frz_v, frz_u, slotL_o, k_mod, x_modE, x_withO, x_sApp, k_appL, k_app, hApp_ok, x_sSlA, k_slAL, k_slA, hAll_ok, x_sIns, k_insL, k_ins1, k_ins2, hIns_ok, x_sRevO, k_revO, x_sClrO, k_clrO, x_sExt, k_extL, k_ext, hExt_ok, x_sSetIx, k_setIxL, k_setIx1, k_setIx2, k_putK, x_sPut, k_put1, k_put2, k_put3, x_sPar, k_par, x_sPar3, k_par3, x_run, k_runN, k_runR, k_runX, k_x, q_add, q_sub, q_addBI, q_addIB, q_subBI, q_subIB, p_strB, p_strS, tI_t, tI_f, q_mul, q_rep, q_div, q_mod, q_lt, q_le, q_gt, q_ge, q_eq, q_ne, q_is, q_isn, q_isB, q_isnB, q_isnI, x_idx, k_idx1, k_idx2, q_catL, q_catT, q_catS, isNon_non, isNon_int, isNon_bl, isNon_str, isNon_tup, isNon_lst, p_divmod, p_lenL, p_lenT, p_lenF, p_lenS, p_intB, p_intI, p_max2, p_min2, p_tupL, p_tupT, p_lstL, p_lstT, p_lstF, is_intI, is_intB, is_intS, is_intN, is_intT, is_intL, is_blI, is_blB, is_blS, is_blN, is_blT, is_blL, is_strI, is_strB, is_strS, is_strN, is_strT, is_strL, is_tupI, is_tupB, is_tupS, is_tupN, is_tupT, is_tupL, is_lstI, is_lstB, is_lstS, is_lstN, is_lstT, is_lstL, opIx_lst, opIx_tup, opIx_frl, k_midN, k_midC, k_midB, k_midR, k_midO, k_midX, k_turnN, k_turnC, k_turnB, k_turnR, k_turnX, k_wtN, k_wtC, k_wtB, k_wtR, k_wtX, k_wc, k_le, frzE_eq, turn_eq, turnC_eq, k_le, forL_nil, lcL_nil, startE, decide_eq_true_eq, decide_eq_false_iff_not, decide_true, decide_false, Bool.not_eq_true', Bool.not_eq_eq_eq_not, Bool.not_true, Bool.not_false, Bool.true_eq_false, Bool.false_eq_true, Bool.not_not, Option.bind_some, Option.map_some, List.map_cons, List.map_nil, List.length_cons, List.length_nil, List.cons_append, List.nil_append, List.set_cons_zero, List.set_cons_succ, List.getElem?_cons_zero, List.getElem?_cons_succ, List.length_set, ↓reduceIte, if_true, if_false, ite_self, List.replicate, List.take_succ_cons, List.take_zero, List.drop_succ_cons, List.drop_zero, List.flatten_cons, List.flatten_nil, Int.reduceToNat, List.isEmpty_cons, List.isEmpty_nil, Nat.reduceAdd, Nat.reduceSub, Nat.reduceLT, Nat.reduceLeDiff, Nat.reduceEqDiff, Int.cast_ofNat_Int, not_true_eq_false, not_false_eq_true, Int.reduceAdd, Int.reduceSub, Int.reduceMul, Int.reduceLT, Int.reduceLE, Int.reduceEq, Int.reduceNe, Int.reduceNeg, Int.zero_add, ne_eq, id, wipeE, lcL_nil, eq_self, and_true, true_and, D.int.injEq, D.bl.injEq, ofS_eq, String.reduceEq, q_eqD, q_neD, q_inT, q_inL, q_ninT, q_ninL, beq_self_eq_true, List.any_cons, List.any_nil, Bool.or_false, Bool.false_or, Bool.or_true, Bool.true_or, deq_nb, deq_ni, deq_ns, deq_nt, deq_nl, deq_bn, deq_bs, deq_bt, deq_bl, deq_in, deq_is, deq_it, deq_il, deq_sn, deq_sb, deq_si, deq_st, deq_sl, deq_tn, deq_tb, deq_ti, deq_ts, deq_tl, deq_ln, deq_lb, deq_li, deq_ls, deq_lt, deq_nn, deq_bb, deq_ii, deq_ss, deq_tt, deq_ll, deqL_nn, deqL_cc, deqL_nc, deqL_cn, okd_i, okd_n, okd_b, okd_t, okd_l, okdL_n, okdL_c, Bool.and_true, Bool.true_and, Bool.and_false, Bool.false_and, olt_t, olt_f, ole_t, ole_f, oeq_t, oeq_lt, oeq_gt, $xs,*])
local macro_rules
  | `(tactic| simp_all_arith! only [$xs,*]) => `(tactic| simp -implicitDefEqProofs (disch := first | assumption | omega | (simp only [okd_i, okd_n, okd_b, okd_s, strOk_of, okd_t, okd_l, okdL_n, okdL_c, Bool.and_true, Bool.and_self, *]; done) | (simp only [List.length_cons, List.length_nil, List.length_append, List.length_map, List.length_set, List.length_take, List.length_drop, List.length_reverse, rangeD_len, zipD_len, enumD_len] <;> omega)) only [x_ok, at0, at1, at2, at3, at4, at5, x_dict, k_dict, x_pairsN, x_pairsC, k_p1, k_p2, k_p3i, k_p3s, cut_ns, cut_sn, cut_ss, sl_L, sl_F, sl_T, sl_S, x_exc, slotV_v, slotO_v, slotO_o, x_var, x_own, x_c, x_bin, k_bin1, k_bin2, x_neg, k_neg, x_tup, k_tup, x_lst, k_lst, x_nCat, k_cat1, k_cat2, x_nRep, k_rep1, k_rep2, x_frz, k_frz, x_nil, x_cons, k_cons1, k_cons2, x_val, k_val, tr_bl, tr_non, tr_int, tr_lst, tr_tup, tr_frl, tr_str, x_and, x_or, x_not, k_and, k_or, k_not, x_tT, x_ifE, k_ifE, x_andV, x_orV, x_notV, k_andV, k_orV, k_notV, x_chain, k_ch1, k_ch2, k_ch3, x_call, x_callN, k_call, x_opt, k_some, x_isi, k_isi, x_oNone, x_oSome, k_oSome, x_nSl, k_nsl1, k_nsl2, k_nsl3L, k_nsl3F, x_sl, k_sl1, k_sl2, k_sl3, x_rev, k_rev, k_revT, x_fn, k_fn, x_fnB, k_fnB, x_tStill, k_stB, x_eStill, envB_t, envB_f, envB_n, envB_e, frzB_u, frzB_o, frzB_v, frzB_i, frzB_b, frzB_s, frzB_non, frzB_t, frzB_l, k_nolB, k_nolI, k_nolS, k_nolN, x_seq, k_seqL, k_seqT, k_seqF, k_seqS, x_rng1, k_rng1, x_rng2, k_rng2a, k_rng2b, x_enum, k_enum, k_enumT, x_zip, k_zipL, k_zipT, k_zipM, k_zipN, x_lc, k_lc, x_sNil, x_sSeq, k_sqn, k_sqr, k_sqb, k_sqc, k_sqx, x_sExpr, k_expr, x_sRet, k_ret, x_sRetN, x_sRetO, k_retO, x_sRetL, k_retL, x_nFn, k_fnN, k_sqo, k_turnO, k_wtO, x_runN, k_runO, k_runOX, x_sBrk, x_sCnt, x_sSet, k_set, x_sOwn, k_own, tg_some, x_sTg, k_tg, gN_ok, gT_t, gTs_n, gTs_c, x_sIf, k_if, x_sFor, k_for, x_sWhile, x_sFrz, frzE_eq, frz_o, frz_v, frz_u, slotL_o, k_mod, x_modE, x_withO, x_sApp, k_appL, k_app, hApp_ok, x_sSlA, k_slAL, k_slA, hAll_ok, x_sIns, k_insL, k_ins1, k_ins2, hIns_ok, x_sRevO, k_revO, x_sClrO, k_clrO, x_sExt, k_extL, k_ext, hExt_ok, x_sSetIx, k_setIxL, k_setIx1, k_setIx2, k_putK, x_sPut, k_put1, k_put2, k_put3, x_sPar, k_par, x_sPar3, k_par3, x_run, k_runN, k_runR, k_runX, k_x, q_add, q_sub, q_addBI, q_addIB, q_subBI, q_subIB, p_strB, p_strS, tI_t, tI_f, q_mul, q_rep, q_div, q_mod, q_lt, q_le, q_gt, q_ge, q_eq, q_ne, q_is, q_isn, q_isB, q_isnB, q_isnI, x_idx, k_idx1, k_idx2, q_catL, q_catT, q_catS, isNon_non, isNon_int, isNon_bl, isNon_str, isNon_tup, isNon_lst, p_divmod, p_lenL, p_lenT, p_lenF, p_lenS, p_intB, p_intI, p_max2, p_min2, p_tupL, p_tupT, p_lstL, p_lstT, p_lstF, is_intI, is_intB, is_intS, is_intN, is_intT, is_intL, is_blI, is_blB, is_blS, is_blN, is_blT, is_blL, is_strI, is_strB, is_strS, is_strN, is_strT, is_strL, is_tupI, is_tupB, is_tupS, is_tupN, is_tupT, is_tupL, is_lstI, is_lstB, is_lstS, is_lstN, is_lstT, is_lstL, opIx_lst, opIx_tup, opIx_frl, k_midN, k_midC, k_midB, k_midR, k_midO, k_midX, k_turnN, k_turnC, k_turnB, k_turnR, k_turnX, k_wtN, k_wtC, k_wtB, k_wtR, k_wtX, k_wc, k_le, frzE_eq, turn_eq, turnC_eq, k_le, forL_nil, lcL_nil, startE, decide_eq_true_eq, decide_eq_false_iff_not, decide_true, decide_false, Bool.not_eq_true', Bool.not_eq_eq_eq_not, Bool.not_true, Bool.not_false, Bool.true_eq_false, Bool.false_eq_true, Bool.not_not, Option.bind_some, Option.map_some, List.map_cons, List.map_nil, List.length_cons, List.length_nil, List.cons_append, List.nil_append, List.set_cons_zero, List.set_cons_succ, List.getElem?_cons_zero, List.getElem?_cons_succ, List.length_set, ↓reduceIte, if_true, if_false, ite_self, List.replicate, List.take_succ_cons, List.take_zero, List.drop_succ_cons, List.drop_zero, List.flatten_cons, List.flatten_nil, Int.reduceToNat, List.isEmpty_cons, List.isEmpty_nil, Nat.reduceAdd, Nat.reduceSub, Nat.reduceLT, Nat.reduceLeDiff, Nat.reduceEqDiff, Int.cast_ofNat_Int, not_true_eq_false, not_false_eq_true, Int.reduceAdd, Int.reduceSub, Int.reduceMul, Int.reduceLT, Int.reduceLE, Int.reduceEq, Int.reduceNe, Int.reduceNeg, Int.zero_add, ne_eq, id, wipeE, lcL_nil, eq_self, and_true, true_and, D.int.injEq, D.bl.injEq, ofS_eq, String.reduceEq, q_eqD, q_neD, q_inT, q_inL, q_ninT, q_ninL, beq_self_eq_true, List.any_cons, List.any_nil, Bool.or_false, Bool.false_or, Bool.or_true, Bool.true_or, deq_nb, deq_ni, deq_ns, deq_nt, deq_nl, deq_bn, deq_bs, deq_bt, deq_bl, deq_in, deq_is, deq_it, deq_il, deq_sn, deq_sb, deq_si, deq_st, deq_sl, deq_tn, deq_tb, deq_ti, deq_ts, deq_tl, deq_ln, deq_lb, deq_li, deq_ls, deq_lt, deq_nn, deq_bb, deq_ii, deq_ss, deq_tt, deq_ll, deqL_nn, deqL_cc, deqL_nc, deqL_cn, okd_i, okd_n, okd_b, okd_t, okd_l, okdL_n, okdL_c, Bool.and_true, Bool.true_and, Bool.and_false, Bool.false_and, olt_t, olt_f, ole_t, ole_f, oeq_t, oeq_lt, oeq_gt, x_fld, k_fld, fld_ins, fld_new, lkP_c, lkF_c, lkF_n, meth_ins, lkM_c, k_optI, x_meth, k_meth, k_methS, k_meth2, x_sFld, k_sfld1, k_sfld2, k_setK, setO_new, putFD, List.mem_cons, List.not_mem_nil, or_true, true_or, or_false, false_or, or_self, Nat.reduceEqDiff, Nat.reduceSucc, reduceCtorEq, List.mem_nil_iff, false_and, and_false, and_self, $xs,*])

structure RulIn (r : Rul) : Prop where
  ok : RulOk r
  m0 : 0 ≤ r.minute
  m1 : r.minute ≤ 1439
  l0 : 1 ≤ r.length
  l1 : r.length ≤ 1440
end G

namespace G.C
noncomputable def cnt (h : How) (f d : Int) : Nat := (rf (fits h f) f d).length
noncomputable def leftN (f : Int) (ws : List Int) : Nat := (ws.filter fun w => decide (f - f % 7 + w < f)).length
end G.C

namespace G
open PySem L2 C
local macro_rules
  | `(tactic| simp_all_arith! only [$xs,*]) => `(tactic| simp -implicitDefEqProofs (disch := first | assumption | omega | (simp only [okd_i, okd_n, okd_b, okd_s, strOk_of, okd_t, okd_l, okdL_n, okdL_c, Bool.and_true, Bool.and_self, *]; done) | (simp only [List.length_cons, List.length_nil, List.length_append, List.length_map, List.length_set, List.length_take, List.length_drop, List.length_reverse, rangeD_len, zipD_len, enumD_len] <;> omega)) only [x_ok, at0, at1, at2, at3, at4, at5, x_dict, k_dict, x_pairsN, x_pairsC, k_p1, k_p2, k_p3i, k_p3s, cut_ns, cut_sn, cut_ss, sl_L, sl_F, sl_T, sl_S, x_exc, slotV_v, slotO_v, slotO_o, x_var, x_own, x_c, x_bin, k_bin1, k_bin2, x_neg, k_neg, x_tup, k_tup, x_lst, k_lst, x_nCat, k_cat1, k_cat2, x_nRep, k_rep1, k_rep2, x_frz, k_frz, x_nil, x_cons, k_cons1, k_cons2, x_val, k_val, tr_bl, tr_non, tr_int, tr_lst, tr_tup, tr_frl, tr_str, x_and, x_or, x_not, k_and, k_or, k_not, x_tT, x_ifE, k_ifE, x_andV, x_orV, x_notV, k_andV, k_orV, k_notV, x_chain, k_ch1, k_ch2, k_ch3, x_call, x_callN, k_call, x_opt, k_some, x_isi, k_isi, x_oNone, x_oSome, k_oSome, x_nSl, k_nsl1, k_nsl2, k_nsl3L, k_nsl3F, x_sl, k_sl1, k_sl2, k_sl3, x_rev, k_rev, k_revT, x_fn, k_fn, x_fnB, k_fnB, x_tStill, k_stB, x_eStill, envB_t, envB_f, envB_n, envB_e, frzB_u, frzB_o, frzB_v, frzB_i, frzB_b, frzB_s, frzB_non, frzB_t, frzB_l, k_nolB, k_nolI, k_nolS, k_nolN, x_seq, k_seqL, k_seqT, k_seqF, k_seqS, x_rng1, k_rng1, x_rng2, k_rng2a, k_rng2b, x_enum, k_enum, k_enumT, x_zip, k_zipL, k_zipT, k_zipM, k_zipN, x_lc, k_lc, x_sNil, x_sSeq, k_sqn, k_sqr, k_sqb, k_sqc, k_sqx, x_sExpr, k_expr, x_sRet, k_ret, x_sRetN, x_sRetO, k_retO, x_sRetL, k_retL, x_nFn, k_fnN, k_sqo, k_turnO, k_wtO, x_runN, k_runO, k_runOX, x_sBrk, x_sCnt, x_sSet, k_set, x_sOwn, k_own, tg_some, x_sTg, k_tg, gN_ok, gT_t, gTs_n, gTs_c, x_sIf, k_if, x_sFor, k_for, x_sWhile, x_sFrz, frzE_eq, frz_o, frz_v, frz_u, slotL_o, k_mod, x_modE, x_withO, x_sApp, k_appL, k_app, hApp_ok, x_sSlA, k_slAL, k_slA, hAll_ok, x_sIns, k_insL, k_ins1, k_ins2, hIns_ok, x_sRevO, k_revO, x_sClrO, k_clrO, x_sExt, k_extL, k_ext, hExt_ok, x_sSetIx, k_setIxL, k_setIx1, k_setIx2, k_putK, x_sPut, k_put1, k_put2, k_put3, x_sPar, k_par, x_sPar3, k_par3, x_run, k_runN, k_runR, k_runX, k_x, q_add, q_sub, q_addBI, q_addIB, q_subBI, q_subIB, p_strB, p_strS, tI_t, tI_f, q_mul, q_rep, q_div, q_mod, q_lt, q_le, q_gt, q_ge, q_eq, q_ne, q_is, q_isn, q_isB, q_isnB, q_isnI, x_idx, k_idx1, k_idx2, q_catL, q_catT, q_catS, isNon_non, isNon_int, isNon_bl, isNon_str, isNon_tup, isNon_lst, p_divmod, p_lenL, p_lenT, p_lenF, p_lenS, p_intB, p_intI, p_max2, p_min2, p_tupL, p_tupT, p_lstL, p_lstT, p_lstF, is_intI, is_intB, is_intS, is_intN, is_intT, is_intL, is_blI, is_blB, is_blS, is_blN, is_blT, is_blL, is_strI, is_strB, is_strS, is_strN, is_strT, is_strL, is_tupI, is_tupB, is_tupS, is_tupN, is_tupT, is_tupL, is_lstI, is_lstB, is_lstS, is_lstN, is_lstT, is_lstL, opIx_lst, opIx_tup, opIx_frl, k_midN, k_midC, k_midB, k_midR, k_midO, k_midX, k_turnN, k_turnC, k_turnB, k_turnR, k_turnX, k_wtN, k_wtC, k_wtB, k_wtR, k_wtX, k_wc, k_le, frzE_eq, turn_eq, turnC_eq, k_le, forL_nil, lcL_nil, startE, decide_eq_true_eq, decide_eq_false_iff_not, decide_true, decide_false, Bool.not_eq_true', Bool.not_eq_eq_eq_not, Bool.not_true, Bool.not_false, Bool.true_eq_false, Bool.false_eq_true, Bool.not_not, Option.bind_some, Option.map_some, List.map_cons, List.map_nil, List.length_cons, List.length_nil, List.cons_append, List.nil_append, List.set_cons_zero, List.set_cons_succ, List.getElem?_cons_zero, List.getElem?_cons_succ, List.length_set, ↓reduceIte, if_true, if_false, ite_self, List.replicate, List.take_succ_cons, List.take_zero, List.drop_succ_cons, List.drop_zero, List.flatten_cons, List.flatten_nil, Int.reduceToNat, List.isEmpty_cons, List.isEmpty_nil, Nat.reduceAdd, Nat.reduceSub, Nat.reduceLT, Nat.reduceLeDiff, Nat.reduceEqDiff, Int.cast_ofNat_Int, not_true_eq_false, not_false_eq_true, Int.reduceAdd, Int.reduceSub, Int.reduceMul, Int.reduceLT, Int.reduceLE, Int.reduceEq, Int.reduceNe, Int.reduceNeg, Int.zero_add, ne_eq, id, wipeE, lcL_nil, eq_self, and_true, true_and, D.int.injEq, D.bl.injEq, ofS_eq, String.reduceEq, q_eqD, q_neD, q_inT, q_inL, q_ninT, q_ninL, beq_self_eq_true, List.any_cons, List.any_nil, Bool.or_false, Bool.false_or, Bool.or_true, Bool.true_or, deq_nb, deq_ni, deq_ns, deq_nt, deq_nl, deq_bn, deq_bs, deq_bt, deq_bl, deq_in, deq_is, deq_it, deq_il, deq_sn, deq_sb, deq_si, deq_st, deq_sl, deq_tn, deq_tb, deq_ti, deq_ts, deq_tl, deq_ln, deq_lb, deq_li, deq_ls, deq_lt, deq_nn, deq_bb, deq_ii, deq_ss, deq_tt, deq_ll, deqL_nn, deqL_cc, deqL_nc, deqL_cn, okd_i, okd_n, okd_b, okd_t, okd_l, okdL_n, okdL_c, Bool.and_true, Bool.true_and, Bool.and_false, Bool.false_and, olt_t, olt_f, ole_t, ole_f, oeq_t, oeq_lt, oeq_gt, x_fld, k_fld, fld_ins, fld_new, lkP_c, lkF_c, lkF_n, meth_ins, lkM_c, k_optI, x_meth, k_meth, k_methS, k_meth2, x_sFld, k_sfld1, k_sfld2, k_setK, setO_new, putFD, List.mem_cons, List.not_mem_nil, or_true, true_or, or_false, false_or, or_self, Nat.reduceEqDiff, Nat.reduceSucc, reduceCtorEq, List.mem_nil_iff, false_and, and_false, and_self, $xs,*])

def oD : Option Int → D
  | some x => .int x
  | none => .non
def AtP (h : How) (f p : Int) : Option Int → Prop
  | some x => fits h f x = true ∧ (cnt h f x : Int) = p
  | none => (cnt h f 99991 : Int) ≤ p
end G

namespace G
open PySem L2 C
local macro_rules
  | `(tactic| simp_all_arith! only [$xs,*]) => `(tactic| simp -implicitDefEqProofs (disch := first | assumption | omega | (simp only [okd_i, okd_n, okd_b, okd_s, strOk_of, okd_t, okd_l, okdL_n, okdL_c, Bool.and_true, Bool.and_self, *]; done) | (simp only [List.length_cons, List.length_nil, List.length_append, List.length_map, List.length_set, List.length_take, List.length_drop, List.length_reverse, rangeD_len, zipD_len, enumD_len] <;> omega)) only [x_ok, at0, at1, at2, at3, at4, at5, x_dict, k_dict, x_pairsN, x_pairsC, k_p1, k_p2, k_p3i, k_p3s, cut_ns, cut_sn, cut_ss, sl_L, sl_F, sl_T, sl_S, x_exc, slotV_v, slotO_v, slotO_o, x_var, x_own, x_c, x_bin, k_bin1, k_bin2, x_neg, k_neg, x_tup, k_tup, x_lst, k_lst, x_nCat, k_cat1, k_cat2, x_nRep, k_rep1, k_rep2, x_frz, k_frz, x_nil, x_cons, k_cons1, k_cons2, x_val, k_val, tr_bl, tr_non, tr_int, tr_lst, tr_tup, tr_frl, tr_str, x_and, x_or, x_not, k_and, k_or, k_not, x_tT, x_ifE, k_ifE, x_andV, x_orV, x_notV, k_andV, k_orV, k_notV, x_chain, k_ch1, k_ch2, k_ch3, x_call, x_callN, k_call, x_opt, k_some, x_isi, k_isi, x_oNone, x_oSome, k_oSome, x_nSl, k_nsl1, k_nsl2, k_nsl3L, k_nsl3F, x_sl, k_sl1, k_sl2, k_sl3, x_rev, k_rev, k_revT, x_fn, k_fn, x_fnB, k_fnB, x_tStill, k_stB, x_eStill, envB_t, envB_f, envB_n, envB_e, frzB_u, frzB_o, frzB_v, frzB_i, frzB_b, frzB_s, frzB_non, frzB_t, frzB_l, k_nolB, k_nolI, k_nolS, k_nolN, x_seq, k_seqL, k_seqT, k_seqF, k_seqS, x_rng1, k_rng1, x_rng2, k_rng2a, k_rng2b, x_enum, k_enum, k_enumT, x_zip, k_zipL, k_zipT, k_zipM, k_zipN, x_lc, k_lc, x_sNil, x_sSeq, k_sqn, k_sqr, k_sqb, k_sqc, k_sqx, x_sExpr, k_expr, x_sRet, k_ret, x_sRetN, x_sRetO, k_retO, x_sRetL, k_retL, x_nFn, k_fnN, k_sqo, k_turnO, k_wtO, x_runN, k_runO, k_runOX, x_sBrk, x_sCnt, x_sSet, k_set, x_sOwn, k_own, tg_some, x_sTg, k_tg, gN_ok, gT_t, gTs_n, gTs_c, x_sIf, k_if, x_sFor, k_for, x_sWhile, x_sFrz, frzE_eq, frz_o, frz_v, frz_u, slotL_o, k_mod, x_modE, x_withO, x_sApp, k_appL, k_app, hApp_ok, x_sSlA, k_slAL, k_slA, hAll_ok, x_sIns, k_insL, k_ins1, k_ins2, hIns_ok, x_sRevO, k_revO, x_sClrO, k_clrO, x_sExt, k_extL, k_ext, hExt_ok, x_sSetIx, k_setIxL, k_setIx1, k_setIx2, k_putK, x_sPut, k_put1, k_put2, k_put3, x_sPar, k_par, x_sPar3, k_par3, x_run, k_runN, k_runR, k_runX, k_x, q_add, q_sub, q_addBI, q_addIB, q_subBI, q_subIB, p_strB, p_strS, tI_t, tI_f, q_mul, q_rep, q_div, q_mod, q_lt, q_le, q_gt, q_ge, q_eq, q_ne, q_is, q_isn, q_isB, q_isnB, q_isnI, x_idx, k_idx1, k_idx2, q_catL, q_catT, q_catS, isNon_non, isNon_int, isNon_bl, isNon_str, isNon_tup, isNon_lst, p_divmod, p_lenL, p_lenT, p_lenF, p_lenS, p_intB, p_intI, p_max2, p_min2, p_tupL, p_tupT, p_lstL, p_lstT, p_lstF, is_intI, is_intB, is_intS, is_intN, is_intT, is_intL, is_blI, is_blB, is_blS, is_blN, is_blT, is_blL, is_strI, is_strB, is_strS, is_strN, is_strT, is_strL, is_tupI, is_tupB, is_tupS, is_tupN, is_tupT, is_tupL, is_lstI, is_lstB, is_lstS, is_lstN, is_lstT, is_lstL, opIx_lst, opIx_tup, opIx_frl, k_midN, k_midC, k_midB, k_midR, k_midO, k_midX, k_turnN, k_turnC, k_turnB, k_turnR, k_turnX, k_wtN, k_wtC, k_wtB, k_wtR, k_wtX, k_wc, k_le, frzE_eq, turn_eq, turnC_eq, k_le, forL_nil, lcL_nil, startE, decide_eq_true_eq, decide_eq_false_iff_not, decide_true, decide_false, Bool.not_eq_true', Bool.not_eq_eq_eq_not, Bool.not_true, Bool.not_false, Bool.true_eq_false, Bool.false_eq_true, Bool.not_not, Option.bind_some, Option.map_some, List.map_cons, List.map_nil, List.length_cons, List.length_nil, List.cons_append, List.nil_append, List.set_cons_zero, List.set_cons_succ, List.getElem?_cons_zero, List.getElem?_cons_succ, List.length_set, ↓reduceIte, if_true, if_false, ite_self, List.replicate, List.take_succ_cons, List.take_zero, List.drop_succ_cons, List.drop_zero, List.flatten_cons, List.flatten_nil, Int.reduceToNat, List.isEmpty_cons, List.isEmpty_nil, Nat.reduceAdd, Nat.reduceSub, Nat.reduceLT, Nat.reduceLeDiff, Nat.reduceEqDiff, Int.cast_ofNat_Int, not_true_eq_false, not_false_eq_true, Int.reduceAdd, Int.reduceSub, Int.reduceMul, Int.reduceLT, Int.reduceLE, Int.reduceEq, Int.reduceNe, Int.reduceNeg, Int.zero_add, ne_eq, id, wipeE, lcL_nil, eq_self, and_true, true_and, D.int.injEq, D.bl.injEq, ofS_eq, String.reduceEq, q_eqD, q_neD, q_inT, q_inL, q_ninT, q_ninL, beq_self_eq_true, List.any_cons, List.any_nil, Bool.or_false, Bool.false_or, Bool.or_true, Bool.true_or, deq_nb, deq_ni, deq_ns, deq_nt, deq_nl, deq_bn, deq_bs, deq_bt, deq_bl, deq_in, deq_is, deq_it, deq_il, deq_sn, deq_sb, deq_si, deq_st, deq_sl, deq_tn, deq_tb, deq_ti, deq_ts, deq_tl, deq_ln, deq_lb, deq_li, deq_ls, deq_lt, deq_nn, deq_bb, deq_ii, deq_ss, deq_tt, deq_ll, deqL_nn, deqL_cc, deqL_nc, deqL_cn, okd_i, okd_n, okd_b, okd_t, okd_l, okdL_n, okdL_c, Bool.and_true, Bool.true_and, Bool.and_false, Bool.false_and, olt_t, olt_f, ole_t, ole_f, oeq_t, oeq_lt, oeq_gt, x_fld, k_fld, fld_ins, fld_new, lkP_c, lkF_c, lkF_n, meth_ins, lkM_c, k_optI, x_meth, k_meth, k_methS, k_meth2, x_sFld, k_sfld1, k_sfld2, k_setK, setO_new, putFD, List.mem_cons, List.not_mem_nil, or_true, true_or, or_false, false_or, or_self, Nat.reduceEqDiff, Nat.reduceSucc, reduceCtorEq, List.mem_nil_iff, false_and, and_false, and_self, $xs,*])

def finB (r : Rul) (d : Int) : Prop := match r.fin with
  | .none => True
  | .untl u => d ≤ u
  | .times c => (cnt r.how r.first d : Int) < c
noncomputable def limOf (r : Rul) : Int := match r.fin with
  | .none => 99990
  | .untl u => u
  | .times c => open Classical in if h : ∃ x : Int, fits r.how r.first x = true ∧ (cnt r.how r.first x : Int) = c - 1 ∧ x ≤ 99990 then h.choose else 99990
noncomputable def inR (r : Rul) (d : Int) : Bool := @decide (fits r.how r.first d = true ∧ d ≤ 99990 ∧ finB r d) (Classical.propDecidable _)
def wF (r : Rul) (e : Fin) : Rul := ⟨r.first, r.minute, r.length, r.how, e⟩
def ruH (r : Rul) : D := .tup [.int r.first, .int r.minute, .int r.length, hD r.how]
section
variable {r : Rul} {S : Sto} {c : Int}
end
end G

namespace G
open PySem L2 C
local macro_rules
  | `(tactic| simp_all_arith! only [$xs,*]) => `(tactic| simp -implicitDefEqProofs (disch := first | assumption | omega | (simp only [okd_i, okd_n, okd_b, okd_s, strOk_of, okd_t, okd_l, okdL_n, okdL_c, Bool.and_true, Bool.and_self, *]; done) | (simp only [List.length_cons, List.length_nil, List.length_append, List.length_map, List.length_set, List.length_take, List.length_drop, List.length_reverse, rangeD_len, zipD_len, enumD_len] <;> omega)) only [x_ok, at0, at1, at2, at3, at4, at5, x_dict, k_dict, x_pairsN, x_pairsC, k_p1, k_p2, k_p3i, k_p3s, cut_ns, cut_sn, cut_ss, sl_L, sl_F, sl_T, sl_S, x_exc, slotV_v, slotO_v, slotO_o, x_var, x_own, x_c, x_bin, k_bin1, k_bin2, x_neg, k_neg, x_tup, k_tup, x_lst, k_lst, x_nCat, k_cat1, k_cat2, x_nRep, k_rep1, k_rep2, x_frz, k_frz, x_nil, x_cons, k_cons1, k_cons2, x_val, k_val, tr_bl, tr_non, tr_int, tr_lst, tr_tup, tr_frl, tr_str, x_and, x_or, x_not, k_and, k_or, k_not, x_tT, x_ifE, k_ifE, x_andV, x_orV, x_notV, k_andV, k_orV, k_notV, x_chain, k_ch1, k_ch2, k_ch3, x_call, x_callN, k_call, x_opt, k_some, x_isi, k_isi, x_oNone, x_oSome, k_oSome, x_nSl, k_nsl1, k_nsl2, k_nsl3L, k_nsl3F, x_sl, k_sl1, k_sl2, k_sl3, x_rev, k_rev, k_revT, x_fn, k_fn, x_fnB, k_fnB, x_tStill, k_stB, x_eStill, envB_t, envB_f, envB_n, envB_e, frzB_u, frzB_o, frzB_v, frzB_i, frzB_b, frzB_s, frzB_non, frzB_t, frzB_l, k_nolB, k_nolI, k_nolS, k_nolN, x_seq, k_seqL, k_seqT, k_seqF, k_seqS, x_rng1, k_rng1, x_rng2, k_rng2a, k_rng2b, x_enum, k_enum, k_enumT, x_zip, k_zipL, k_zipT, k_zipM, k_zipN, x_lc, k_lc, x_sNil, x_sSeq, k_sqn, k_sqr, k_sqb, k_sqc, k_sqx, x_sExpr, k_expr, x_sRet, k_ret, x_sRetN, x_sRetO, k_retO, x_sRetL, k_retL, x_nFn, k_fnN, k_sqo, k_turnO, k_wtO, x_runN, k_runO, k_runOX, x_sBrk, x_sCnt, x_sSet, k_set, x_sOwn, k_own, tg_some, x_sTg, k_tg, gN_ok, gT_t, gTs_n, gTs_c, x_sIf, k_if, x_sFor, k_for, x_sWhile, x_sFrz, frzE_eq, frz_o, frz_v, frz_u, slotL_o, k_mod, x_modE, x_withO, x_sApp, k_appL, k_app, hApp_ok, x_sSlA, k_slAL, k_slA, hAll_ok, x_sIns, k_insL, k_ins1, k_ins2, hIns_ok, x_sRevO, k_revO, x_sClrO, k_clrO, x_sExt, k_extL, k_ext, hExt_ok, x_sSetIx, k_setIxL, k_setIx1, k_setIx2, k_putK, x_sPut, k_put1, k_put2, k_put3, x_sPar, k_par, x_sPar3, k_par3, x_run, k_runN, k_runR, k_runX, k_x, q_add, q_sub, q_addBI, q_addIB, q_subBI, q_subIB, p_strB, p_strS, tI_t, tI_f, q_mul, q_rep, q_div, q_mod, q_lt, q_le, q_gt, q_ge, q_eq, q_ne, q_is, q_isn, q_isB, q_isnB, q_isnI, x_idx, k_idx1, k_idx2, q_catL, q_catT, q_catS, isNon_non, isNon_int, isNon_bl, isNon_str, isNon_tup, isNon_lst, p_divmod, p_lenL, p_lenT, p_lenF, p_lenS, p_intB, p_intI, p_max2, p_min2, p_tupL, p_tupT, p_lstL, p_lstT, p_lstF, is_intI, is_intB, is_intS, is_intN, is_intT, is_intL, is_blI, is_blB, is_blS, is_blN, is_blT, is_blL, is_strI, is_strB, is_strS, is_strN, is_strT, is_strL, is_tupI, is_tupB, is_tupS, is_tupN, is_tupT, is_tupL, is_lstI, is_lstB, is_lstS, is_lstN, is_lstT, is_lstL, opIx_lst, opIx_tup, opIx_frl, k_midN, k_midC, k_midB, k_midR, k_midO, k_midX, k_turnN, k_turnC, k_turnB, k_turnR, k_turnX, k_wtN, k_wtC, k_wtB, k_wtR, k_wtX, k_wc, k_le, frzE_eq, turn_eq, turnC_eq, k_le, forL_nil, lcL_nil, startE, decide_eq_true_eq, decide_eq_false_iff_not, decide_true, decide_false, Bool.not_eq_true', Bool.not_eq_eq_eq_not, Bool.not_true, Bool.not_false, Bool.true_eq_false, Bool.false_eq_true, Bool.not_not, Option.bind_some, Option.map_some, List.map_cons, List.map_nil, List.length_cons, List.length_nil, List.cons_append, List.nil_append, List.set_cons_zero, List.set_cons_succ, List.getElem?_cons_zero, List.getElem?_cons_succ, List.length_set, ↓reduceIte, if_true, if_false, ite_self, List.replicate, List.take_succ_cons, List.take_zero, List.drop_succ_cons, List.drop_zero, List.flatten_cons, List.flatten_nil, Int.reduceToNat, List.isEmpty_cons, List.isEmpty_nil, Nat.reduceAdd, Nat.reduceSub, Nat.reduceLT, Nat.reduceLeDiff, Nat.reduceEqDiff, Int.cast_ofNat_Int, not_true_eq_false, not_false_eq_true, Int.reduceAdd, Int.reduceSub, Int.reduceMul, Int.reduceLT, Int.reduceLE, Int.reduceEq, Int.reduceNe, Int.reduceNeg, Int.zero_add, ne_eq, id, wipeE, lcL_nil, eq_self, and_true, true_and, D.int.injEq, D.bl.injEq, ofS_eq, String.reduceEq, q_eqD, q_neD, q_inT, q_inL, q_ninT, q_ninL, beq_self_eq_true, List.any_cons, List.any_nil, Bool.or_false, Bool.false_or, Bool.or_true, Bool.true_or, deq_nb, deq_ni, deq_ns, deq_nt, deq_nl, deq_bn, deq_bs, deq_bt, deq_bl, deq_in, deq_is, deq_it, deq_il, deq_sn, deq_sb, deq_si, deq_st, deq_sl, deq_tn, deq_tb, deq_ti, deq_ts, deq_tl, deq_ln, deq_lb, deq_li, deq_ls, deq_lt, deq_nn, deq_bb, deq_ii, deq_ss, deq_tt, deq_ll, deqL_nn, deqL_cc, deqL_nc, deqL_cn, okd_i, okd_n, okd_b, okd_t, okd_l, okdL_n, okdL_c, Bool.and_true, Bool.true_and, Bool.and_false, Bool.false_and, olt_t, olt_f, ole_t, ole_f, oeq_t, oeq_lt, oeq_gt, x_fld, k_fld, fld_ins, fld_new, lkP_c, lkF_c, lkF_n, meth_ins, lkM_c, k_optI, x_meth, k_meth, k_methS, k_meth2, x_sFld, k_sfld1, k_sfld2, k_setK, setO_new, putFD, List.mem_cons, List.not_mem_nil, or_true, true_or, or_false, false_or, or_self, Nat.reduceEqDiff, Nat.reduceSucc, reduceCtorEq, List.mem_nil_iff, false_and, and_false, and_self, $xs,*])

/-- all days of a rule -/
noncomputable def dayL (r : Rul) : List Int := rf (inR r) r.first 99991
end G

namespace G
open PySem L2 C
local macro_rules
  | `(tactic| simp_arith! only [$xs,*]) => `(tactic| simp -implicitDefEqProofs (disch := first | assumption | omega | (simp only [okd_i, okd_n, okd_b, okd_s, strOk_of, okd_t, okd_l, okdL_n, okdL_c, Bool.and_true, Bool.and_self, *]; done) | (simp only [List.length_cons, List.length_nil, List.length_append, List.length_map, List.length_set, List.length_take, List.length_drop, List.length_reverse, rangeD_len, zipD_len, enumD_len] <;> omega)) only [x_ok, at0, at1, at2, at3, at4, at5, x_dict, k_dict, x_pairsN, x_pairsC, k_p1, k_p2, k_p3i, k_p3s, cut_ns, cut_sn, cut_ss, sl_L, sl_F, sl_T, sl_S, x_exc, slotV_v, slotO_v, slotO_o, x_var, x_own, x_c, x_bin, k_bin1, k_bin2, x_neg, k_neg, x_tup, k_tup, x_lst, k_lst, x_nCat, k_cat1, k_cat2, x_nRep, k_rep1, k_rep2, x_frz, k_frz, x_nil, x_cons, k_cons1, k_cons2, x_val, k_val, tr_bl, tr_non, tr_int, tr_lst, tr_tup, tr_frl, tr_str, x_and, x_or, x_not, k_and, k_or, k_not, x_tT, x_ifE, k_ifE, x_andV, x_orV, x_notV, k_andV, k_orV, k_notV, x_chain, k_ch1, k_ch2, k_ch3, x_call, x_callN, k_call, x_opt, k_some, x_isi, k_isi, x_oNone, x_oSome, k_oSome, x_nSl, k_nsl1, k_nsl2, k_nsl3L, k_nsl3F, x_sl, k_sl1, k_sl2, k_sl3, x_rev, k_rev, k_revT, x_fn, k_fn, x_fnB, k_fnB, x_tStill, k_stB, x_eStill, envB_t, envB_f, envB_n, envB_e, frzB_u, frzB_o, frzB_v, frzB_i, frzB_b, frzB_s, frzB_non, frzB_t, frzB_l, k_nolB, k_nolI, k_nolS, k_nolN, x_seq, k_seqL, k_seqT, k_seqF, k_seqS, x_rng1, k_rng1, x_rng2, k_rng2a, k_rng2b, x_enum, k_enum, k_enumT, x_zip, k_zipL, k_zipT, k_zipM, k_zipN, x_lc, k_lc, x_sNil, x_sSeq, k_sqn, k_sqr, k_sqb, k_sqc, k_sqx, x_sExpr, k_expr, x_sRet, k_ret, x_sRetN, x_sRetO, k_retO, x_sRetL, k_retL, x_nFn, k_fnN, k_sqo, k_turnO, k_wtO, x_runN, k_runO, k_runOX, x_sBrk, x_sCnt, x_sSet, k_set, x_sOwn, k_own, tg_some, x_sTg, k_tg, gN_ok, gT_t, gTs_n, gTs_c, x_sIf, k_if, x_sFor, k_for, x_sWhile, x_sFrz, frzE_eq, frz_o, frz_v, frz_u, slotL_o, k_mod, x_modE, x_withO, x_sApp, k_appL, k_app, hApp_ok, x_sSlA, k_slAL, k_slA, hAll_ok, x_sIns, k_insL, k_ins1, k_ins2, hIns_ok, x_sRevO, k_revO, x_sClrO, k_clrO, x_sExt, k_extL, k_ext, hExt_ok, x_sSetIx, k_setIxL, k_setIx1, k_setIx2, k_putK, x_sPut, k_put1, k_put2, k_put3, x_sPar, k_par, x_sPar3, k_par3, x_run, k_runN, k_runR, k_runX, k_x, q_add, q_sub, q_addBI, q_addIB, q_subBI, q_subIB, p_strB, p_strS, tI_t, tI_f, q_mul, q_rep, q_div, q_mod, q_lt, q_le, q_gt, q_ge, q_eq, q_ne, q_is, q_isn, q_isB, q_isnB, q_isnI, x_idx, k_idx1, k_idx2, q_catL, q_catT, q_catS, isNon_non, isNon_int, isNon_bl, isNon_str, isNon_tup, isNon_lst, p_divmod, p_lenL, p_lenT, p_lenF, p_lenS, p_intB, p_intI, p_max2, p_min2, p_tupL, p_tupT, p_lstL, p_lstT, p_lstF, is_intI, is_intB, is_intS, is_intN, is_intT, is_intL, is_blI, is_blB, is_blS, is_blN, is_blT, is_blL, is_strI, is_strB, is_strS, is_strN, is_strT, is_strL, is_tupI, is_tupB, is_tupS, is_tupN, is_tupT, is_tupL, is_lstI, is_lstB, is_lstS, is_lstN, is_lstT, is_lstL, opIx_lst, opIx_tup, opIx_frl, k_midN, k_midC, k_midB, k_midR, k_midO, k_midX, k_turnN, k_turnC, k_turnB, k_turnR, k_turnX, k_wtN, k_wtC, k_wtB, k_wtR, k_wtX, k_wc, k_le, frzE_eq, turn_eq, turnC_eq, k_le, forL_nil, lcL_nil, startE, decide_eq_true_eq, decide_eq_false_iff_not, decide_true, decide_false, Bool.not_eq_true', Bool.not_eq_eq_eq_not, Bool.not_true, Bool.not_false, Bool.true_eq_false, Bool.false_eq_true, Bool.not_not, Option.bind_some, Option.map_some, List.map_cons, List.map_nil, List.length_cons, List.length_nil, List.cons_append, List.nil_append, List.set_cons_zero, List.set_cons_succ, List.getElem?_cons_zero, List.getElem?_cons_succ, List.length_set, ↓reduceIte, if_true, if_false, ite_self, List.replicate, List.take_succ_cons, List.take_zero, List.drop_succ_cons, List.drop_zero, List.flatten_cons, List.flatten_nil, Int.reduceToNat, List.isEmpty_cons, List.isEmpty_nil, Nat.reduceAdd, Nat.reduceSub, Nat.reduceLT, Nat.reduceLeDiff, Nat.reduceEqDiff, Int.cast_ofNat_Int, not_true_eq_false, not_false_eq_true, Int.reduceAdd, Int.reduceSub, Int.reduceMul, Int.reduceLT, Int.reduceLE, Int.reduceEq, Int.reduceNe, Int.reduceNeg, Int.zero_add, ne_eq, id, wipeE, lcL_nil, eq_self, and_true, true_and, D.int.injEq, D.bl.injEq, ofS_eq, String.reduceEq, q_eqD, q_neD, q_inT, q_inL, q_ninT, q_ninL, beq_self_eq_true, List.any_cons, List.any_nil, Bool.or_false, Bool.false_or, Bool.or_true, Bool.true_or, deq_nb, deq_ni, deq_ns, deq_nt, deq_nl, deq_bn, deq_bs, deq_bt, deq_bl, deq_in, deq_is, deq_it, deq_il, deq_sn, deq_sb, deq_si, deq_st, deq_sl, deq_tn, deq_tb, deq_ti, deq_ts, deq_tl, deq_ln, deq_lb, deq_li, deq_ls, deq_lt, deq_nn, deq_bb, deq_ii, deq_ss, deq_tt, deq_ll, deqL_nn, deqL_cc, deqL_nc, deqL_cn, okd_i, okd_n, okd_b, okd_t, okd_l, okdL_n, okdL_c, Bool.and_true, Bool.true_and, Bool.and_false, Bool.false_and, $xs,*])
local macro_rules
  | `(tactic| simp_all_arith! only [$xs,*]) => `(tactic| simp -implicitDefEqProofs (disch := first | assumption | omega | (simp only [okd_i, okd_n, okd_b, okd_s, strOk_of, okd_t, okd_l, okdL_n, okdL_c, Bool.and_true, Bool.and_self, *]; done) | (simp only [List.length_cons, List.length_nil, List.length_append, List.length_map, List.length_set, List.length_take, List.length_drop, List.length_reverse, rangeD_len, zipD_len, enumD_len] <;> omega)) only [x_ok, at0, at1, at2, at3, at4, at5, x_dict, k_dict, x_pairsN, x_pairsC, k_p1, k_p2, k_p3i, k_p3s, cut_ns, cut_sn, cut_ss, sl_L, sl_F, sl_T, sl_S, x_exc, slotV_v, slotO_v, slotO_o, x_var, x_own, x_c, x_bin, k_bin1, k_bin2, x_neg, k_neg, x_tup, k_tup, x_lst, k_lst, x_nCat, k_cat1, k_cat2, x_nRep, k_rep1, k_rep2, x_frz, k_frz, x_nil, x_cons, k_cons1, k_cons2, x_val, k_val, tr_bl, tr_non, tr_int, tr_lst, tr_tup, tr_frl, tr_str, x_and, x_or, x_not, k_and, k_or, k_not, x_tT, x_ifE, k_ifE, x_andV, x_orV, x_notV, k_andV, k_orV, k_notV, x_chain, k_ch1, k_ch2, k_ch3, x_call, x_callN, k_call, x_opt, k_some, x_isi, k_isi, x_oNone, x_oSome, k_oSome, x_nSl, k_nsl1, k_nsl2, k_nsl3L, k_nsl3F, x_sl, k_sl1, k_sl2, k_sl3, x_rev, k_rev, k_revT, x_fn, k_fn, x_fnB, k_fnB, x_tStill, k_stB, x_eStill, envB_t, envB_f, envB_n, envB_e, frzB_u, frzB_o, frzB_v, frzB_i, frzB_b, frzB_s, frzB_non, frzB_t, frzB_l, k_nolB, k_nolI, k_nolS, k_nolN, x_seq, k_seqL, k_seqT, k_seqF, k_seqS, x_rng1, k_rng1, x_rng2, k_rng2a, k_rng2b, x_enum, k_enum, k_enumT, x_zip, k_zipL, k_zipT, k_zipM, k_zipN, x_lc, k_lc, x_sNil, x_sSeq, k_sqn, k_sqr, k_sqb, k_sqc, k_sqx, x_sExpr, k_expr, x_sRet, k_ret, x_sRetN, x_sRetO, k_retO, x_sRetL, k_retL, x_nFn, k_fnN, k_sqo, k_turnO, k_wtO, x_runN, k_runO, k_runOX, x_sBrk, x_sCnt, x_sSet, k_set, x_sOwn, k_own, tg_some, x_sTg, k_tg, gN_ok, gT_t, gTs_n, gTs_c, x_sIf, k_if, x_sFor, k_for, x_sWhile, x_sFrz, frzE_eq, frz_o, frz_v, frz_u, slotL_o, k_mod, x_modE, x_withO, x_sApp, k_appL, k_app, hApp_ok, x_sSlA, k_slAL, k_slA, hAll_ok, x_sIns, k_insL, k_ins1, k_ins2, hIns_ok, x_sRevO, k_revO, x_sClrO, k_clrO, x_sExt, k_extL, k_ext, hExt_ok, x_sSetIx, k_setIxL, k_setIx1, k_setIx2, k_putK, x_sPut, k_put1, k_put2, k_put3, x_sPar, k_par, x_sPar3, k_par3, x_run, k_runN, k_runR, k_runX, k_x, q_add, q_sub, q_addBI, q_addIB, q_subBI, q_subIB, p_strB, p_strS, tI_t, tI_f, q_mul, q_rep, q_div, q_mod, q_lt, q_le, q_gt, q_ge, q_eq, q_ne, q_is, q_isn, q_isB, q_isnB, q_isnI, x_idx, k_idx1, k_idx2, q_catL, q_catT, q_catS, isNon_non, isNon_int, isNon_bl, isNon_str, isNon_tup, isNon_lst, p_divmod, p_lenL, p_lenT, p_lenF, p_lenS, p_intB, p_intI, p_max2, p_min2, p_tupL, p_tupT, p_lstL, p_lstT, p_lstF, is_intI, is_intB, is_intS, is_intN, is_intT, is_intL, is_blI, is_blB, is_blS, is_blN, is_blT, is_blL, is_strI, is_strB, is_strS, is_strN, is_strT, is_strL, is_tupI, is_tupB, is_tupS, is_tupN, is_tupT, is_tupL, is_lstI, is_lstB, is_lstS, is_lstN, is_lstT, is_lstL, opIx_lst, opIx_tup, opIx_frl, k_midN, k_midC, k_midB, k_midR, k_midO, k_midX, k_turnN, k_turnC, k_turnB, k_turnR, k_turnX, k_wtN, k_wtC, k_wtB, k_wtR, k_wtX, k_wc, k_le, frzE_eq, turn_eq, turnC_eq, k_le, forL_nil, lcL_nil, startE, decide_eq_true_eq, decide_eq_false_iff_not, decide_true, decide_false, Bool.not_eq_true', Bool.not_eq_eq_eq_not, Bool.not_true, Bool.not_false, Bool.true_eq_false, Bool.false_eq_true, Bool.not_not, Option.bind_some, Option.map_some, List.map_cons, List.map_nil, List.length_cons, List.length_nil, List.cons_append, List.nil_append, List.set_cons_zero, List.set_cons_succ, List.getElem?_cons_zero, List.getElem?_cons_succ, List.length_set, ↓reduceIte, if_true, if_false, ite_self, List.replicate, List.take_succ_cons, List.take_zero, List.drop_succ_cons, List.drop_zero, List.flatten_cons, List.flatten_nil, Int.reduceToNat, List.isEmpty_cons, List.isEmpty_nil, Nat.reduceAdd, Nat.reduceSub, Nat.reduceLT, Nat.reduceLeDiff, Nat.reduceEqDiff, Int.cast_ofNat_Int, not_true_eq_false, not_false_eq_true, Int.reduceAdd, Int.reduceSub, Int.reduceMul, Int.reduceLT, Int.reduceLE, Int.reduceEq, Int.reduceNe, Int.reduceNeg, Int.zero_add, ne_eq, id, wipeE, lcL_nil, eq_self, and_true, true_and, D.int.injEq, D.bl.injEq, ofS_eq, String.reduceEq, q_eqD, q_neD, q_inT, q_inL, q_ninT, q_ninL, beq_self_eq_true, List.any_cons, List.any_nil, Bool.or_false, Bool.false_or, Bool.or_true, Bool.true_or, deq_nb, deq_ni, deq_ns, deq_nt, deq_nl, deq_bn, deq_bs, deq_bt, deq_bl, deq_in, deq_is, deq_it, deq_il, deq_sn, deq_sb, deq_si, deq_st, deq_sl, deq_tn, deq_tb, deq_ti, deq_ts, deq_tl, deq_ln, deq_lb, deq_li, deq_ls, deq_lt, deq_nn, deq_bb, deq_ii, deq_ss, deq_tt, deq_ll, deqL_nn, deqL_cc, deqL_nc, deqL_cn, okd_i, okd_n, okd_b, okd_t, okd_l, okdL_n, okdL_c, Bool.and_true, Bool.true_and, Bool.and_false, Bool.false_and, olt_t, olt_f, ole_t, ole_f, oeq_t, oeq_lt, oeq_gt, x_fld, k_fld, fld_ins, fld_new, lkP_c, lkF_c, lkF_n, meth_ins, lkM_c, k_optI, x_meth, k_meth, k_methS, k_meth2, x_sFld, k_sfld1, k_sfld2, k_setK, setO_new, putFD, List.mem_cons, List.not_mem_nil, or_true, true_or, or_false, false_or, or_self, Nat.reduceEqDiff, Nat.reduceSucc, reduceCtorEq, List.mem_nil_iff, false_and, and_false, and_self, $xs,*])

/-- the days that come, the end aside -/
noncomputable def comR (r : Rul) (d : Int) : Bool := fits r.how r.first d && decide (d ≤ 99990)
/-- the first c of them, so far -/
noncomputable def cntL (r : Rul) (c : Int) (b : Int) : List Int := (rf (comR r) r.first b).take c.toNat
theorem p_allB {bs : List Bool} {S : Sto} : pAll [.lst (bs.map D.bl)] S = .ok (.bl (bs.all id)) S := by
  have : blsD (bs.map D.bl) = some bs := by
    induction bs with
    | nil => rfl
    | cons b r ih => simp only [List.map_cons, blsD, ih]; rfl
  show opt _ _ _ = _
  rw [this]; rfl
def kiD : How → Str
  | .once => "once"
  | .days _ => "days"
  | .weeks _ _ => "weeks"
  | _ => "months"
def isMo : How → Bool
  | .dates _ _ => true
  | .wds _ _ _ => true
  | _ => false
def hStep : How → Int
  | .once => 0
  | .days n => n
  | .weeks n _ => n
  | .dates n _ => n
  | .wds n _ _ => n
def LimE (f0 : Int) (e : Fin) (lim : Int) : Prop := f0 ≤ lim ∧ lim ≤ 99990 ∧ (∀ f, f ≤ lim → FinOk f e) ∧ ∀ (r2 : Rul) d, r2.fin = e → ((d ≤ 99990 ∧ finB r2 d) ↔ d ≤ lim)
end G

set_option maxHeartbeats 4000000
namespace G
open PySem L2 C
local macro_rules
  | `(tactic| simp_arith only [$xs,*]) => `(tactic| simp -implicitDefEqProofs (disch := first | assumption | omega | (simp only [List.length_cons, List.length_nil, List.length_append, List.length_map, List.length_set, List.length_take, List.length_drop, List.length_reverse, rangeD_len, zipD_len, enumD_len] <;> omega)) only [x_ok, at0, at1, at2, at3, at4, at5, x_dict, k_dict, x_pairsN, x_pairsC, k_p1, k_p2, k_p3i, k_p3s, cut_ns, cut_sn, cut_ss, sl_L, sl_F, sl_T, sl_S, x_exc, slotV_v, slotO_v, slotO_o, x_var, x_own, x_c, x_bin, k_bin1, k_bin2, x_neg, k_neg, x_tup, k_tup, x_lst, k_lst, x_nCat, k_cat1, k_cat2, x_nRep, k_rep1, k_rep2, x_frz, k_frz, x_nil, x_cons, k_cons1, k_cons2, x_val, k_val, tr_bl, tr_non, tr_int, tr_lst, tr_tup, tr_frl, tr_str, x_and, x_or, x_not, k_and, k_or, k_not, x_tT, x_ifE, k_ifE, x_andV, x_orV, x_notV, k_andV, k_orV, k_notV, x_chain, k_ch1, k_ch2, k_ch3, x_call, x_callN, k_call, x_opt, k_some, x_isi, k_isi, x_oNone, x_oSome, k_oSome, x_nSl, k_nsl1, k_nsl2, k_nsl3L, k_nsl3F, x_sl, k_sl1, k_sl2, k_sl3, x_rev, k_rev, k_revT, x_fn, k_fn, x_fnB, k_fnB, x_tStill, k_stB, x_eStill, envB_t, envB_f, envB_n, envB_e, frzB_u, frzB_o, frzB_v, frzB_i, frzB_b, frzB_s, frzB_non, frzB_t, frzB_l, k_nolB, k_nolI, k_nolS, k_nolN, x_seq, k_seqL, k_seqT, k_seqF, k_seqS, x_rng1, k_rng1, x_rng2, k_rng2a, k_rng2b, x_enum, k_enum, k_enumT, x_zip, k_zipL, k_zipT, k_zipM, k_zipN, x_lc, k_lc, x_sNil, x_sSeq, k_sqn, k_sqr, k_sqb, k_sqc, k_sqx, x_sExpr, k_expr, x_sRet, k_ret, x_sRetN, x_sRetO, k_retO, x_sRetL, k_retL, x_nFn, k_fnN, k_sqo, k_turnO, k_wtO, x_runN, k_runO, k_runOX, x_sBrk, x_sCnt, x_sSet, k_set, x_sOwn, k_own, tg_some, x_sTg, k_tg, gN_ok, gT_t, gTs_n, gTs_c, x_sIf, k_if, x_sFor, k_for, x_sWhile, x_sFrz, frzE_eq, frz_o, frz_v, frz_u, slotL_o, k_mod, x_modE, x_withO, x_sApp, k_appL, k_app, hApp_ok, x_sSlA, k_slAL, k_slA, hAll_ok, x_sIns, k_insL, k_ins1, k_ins2, hIns_ok, x_sRevO, k_revO, x_sClrO, k_clrO, x_sExt, k_extL, k_ext, hExt_ok, x_sSetIx, k_setIxL, k_setIx1, k_setIx2, k_putK, x_sPut, k_put1, k_put2, k_put3, x_sPar, k_par, x_sPar3, k_par3, x_run, k_runN, k_runR, k_runX, k_x, q_add, q_sub, q_addBI, q_addIB, q_subBI, q_subIB, p_strB, p_strS, tI_t, tI_f, q_mul, q_rep, q_div, q_mod, q_lt, q_le, q_gt, q_ge, q_eq, q_ne, q_is, q_isn, q_isB, q_isnB, q_isnI, x_idx, k_idx1, k_idx2, q_catL, q_catT, q_catS, isNon_non, isNon_int, isNon_bl, isNon_str, isNon_tup, isNon_lst, p_divmod, p_lenL, p_lenT, p_lenF, p_lenS, p_intB, p_intI, p_max2, p_min2, p_tupL, p_tupT, p_lstL, p_lstT, p_lstF, is_intI, is_intB, is_intS, is_intN, is_intT, is_intL, is_blI, is_blB, is_blS, is_blN, is_blT, is_blL, is_strI, is_strB, is_strS, is_strN, is_strT, is_strL, is_tupI, is_tupB, is_tupS, is_tupN, is_tupT, is_tupL, is_lstI, is_lstB, is_lstS, is_lstN, is_lstT, is_lstL, opIx_lst, opIx_tup, opIx_frl, k_midN, k_midC, k_midB, k_midR, k_midO, k_midX, k_turnN, k_turnC, k_turnB, k_turnR, k_turnX, k_wtN, k_wtC, k_wtB, k_wtR, k_wtX, k_wc, k_le, frzE_eq, turn_eq, turnC_eq, k_le, forL_nil, lcL_nil, startE, decide_eq_true_eq, decide_eq_false_iff_not, decide_true, decide_false, Bool.not_eq_true', Bool.not_eq_eq_eq_not, Bool.not_true, Bool.not_false, Bool.true_eq_false, Bool.false_eq_true, Bool.not_not, Option.bind_some, Option.map_some, List.map_cons, List.map_nil, List.length_cons, List.length_nil, List.cons_append, List.nil_append, List.set_cons_zero, List.set_cons_succ, List.getElem?_cons_zero, List.getElem?_cons_succ, List.length_set, ↓reduceIte, if_true, if_false, ite_self, List.replicate, List.take_succ_cons, List.take_zero, List.drop_succ_cons, List.drop_zero, List.flatten_cons, List.flatten_nil, Int.reduceToNat, List.isEmpty_cons, List.isEmpty_nil, Nat.reduceAdd, Nat.reduceSub, Nat.reduceLT, Nat.reduceLeDiff, Nat.reduceEqDiff, Int.cast_ofNat_Int, not_true_eq_false, not_false_eq_true, Int.reduceAdd, Int.reduceSub, Int.reduceMul, Int.reduceLT, Int.reduceLE, Int.reduceEq, Int.reduceNe, Int.reduceNeg, Int.zero_add, ne_eq, id, wipeE, lcL_nil, eq_self, and_true, true_and, D.int.injEq, D.bl.injEq, ofS_eq, String.reduceEq, $xs,*])
local macro_rules
  | `(tactic| simp_arith! only [$xs,*]) => `(tactic| simp -implicitDefEqProofs (disch := first | assumption | omega | (simp only [okd_i, okd_n, okd_b, okd_s, strOk_of, okd_t, okd_l, okdL_n, okdL_c, Bool.and_true, Bool.and_self, *]; done) | (simp only [List.length_cons, List.length_nil, List.length_append, List.length_map, List.length_set, List.length_take, List.length_drop, List.length_reverse, rangeD_len, zipD_len, enumD_len] <;> omega)) only [x_ok, at0, at1, at2, at3, at4, at5, x_dict, k_dict, x_pairsN, x_pairsC, k_p1, k_p2, k_p3i, k_p3s, cut_ns, cut_sn, cut_ss, sl_L, sl_F, sl_T, sl_S, x_exc, slotV_v, slotO_v, slotO_o, x_var, x_own, x_c, x_bin, k_bin1, k_bin2, x_neg, k_neg, x_tup, k_tup, x_lst, k_lst, x_nCat, k_cat1, k_cat2, x_nRep, k_rep1, k_rep2, x_frz, k_frz, x_nil, x_cons, k_cons1, k_cons2, x_val, k_val, tr_bl, tr_non, tr_int, tr_lst, tr_tup, tr_frl, tr_str, x_and, x_or, x_not, k_and, k_or, k_not, x_tT, x_ifE, k_ifE, x_andV, x_orV, x_notV, k_andV, k_orV, k_notV, x_chain, k_ch1, k_ch2, k_ch3, x_call, x_callN, k_call, x_opt, k_some, x_isi, k_isi, x_oNone, x_oSome, k_oSome, x_nSl, k_nsl1, k_nsl2, k_nsl3L, k_nsl3F, x_sl, k_sl1, k_sl2, k_sl3, x_rev, k_rev, k_revT, x_fn, k_fn, x_fnB, k_fnB, x_tStill, k_stB, x_eStill, envB_t, envB_f, envB_n, envB_e, frzB_u, frzB_o, frzB_v, frzB_i, frzB_b, frzB_s, frzB_non, frzB_t, frzB_l, k_nolB, k_nolI, k_nolS, k_nolN, x_seq, k_seqL, k_seqT, k_seqF, k_seqS, x_rng1, k_rng1, x_rng2, k_rng2a, k_rng2b, x_enum, k_enum, k_enumT, x_zip, k_zipL, k_zipT, k_zipM, k_zipN, x_lc, k_lc, x_sNil, x_sSeq, k_sqn, k_sqr, k_sqb, k_sqc, k_sqx, x_sExpr, k_expr, x_sRet, k_ret, x_sRetN, x_sRetO, k_retO, x_sRetL, k_retL, x_nFn, k_fnN, k_sqo, k_turnO, k_wtO, x_runN, k_runO, k_runOX, x_sBrk, x_sCnt, x_sSet, k_set, x_sOwn, k_own, tg_some, x_sTg, k_tg, gN_ok, gT_t, gTs_n, gTs_c, x_sIf, k_if, x_sFor, k_for, x_sWhile, x_sFrz, frzE_eq, frz_o, frz_v, frz_u, slotL_o, k_mod, x_modE, x_withO, x_sApp, k_appL, k_app, hApp_ok, x_sSlA, k_slAL, k_slA, hAll_ok, x_sIns, k_insL, k_ins1, k_ins2, hIns_ok, x_sRevO, k_revO, x_sClrO, k_clrO, x_sExt, k_extL, k_ext, hExt_ok, x_sSetIx, k_setIxL, k_setIx1, k_setIx2, k_putK, x_sPut, k_put1, k_put2, k_put3, x_sPar, k_par, x_sPar3, k_par3, x_run, k_runN, k_runR, k_runX, k_x, q_add, q_sub, q_addBI, q_addIB, q_subBI, q_subIB, p_strB, p_strS, tI_t, tI_f, q_mul, q_rep, q_div, q_mod, q_lt, q_le, q_gt, q_ge, q_eq, q_ne, q_is, q_isn, q_isB, q_isnB, q_isnI, x_idx, k_idx1, k_idx2, q_catL, q_catT, q_catS, isNon_non, isNon_int, isNon_bl, isNon_str, isNon_tup, isNon_lst, p_divmod, p_lenL, p_lenT, p_lenF, p_lenS, p_intB, p_intI, p_max2, p_min2, p_tupL, p_tupT, p_lstL, p_lstT, p_lstF, is_intI, is_intB, is_intS, is_intN, is_intT, is_intL, is_blI, is_blB, is_blS, is_blN, is_blT, is_blL, is_strI, is_strB, is_strS, is_strN, is_strT, is_strL, is_tupI, is_tupB, is_tupS, is_tupN, is_tupT, is_tupL, is_lstI, is_lstB, is_lstS, is_lstN, is_lstT, is_lstL, opIx_lst, opIx_tup, opIx_frl, k_midN, k_midC, k_midB, k_midR, k_midO, k_midX, k_turnN, k_turnC, k_turnB, k_turnR, k_turnX, k_wtN, k_wtC, k_wtB, k_wtR, k_wtX, k_wc, k_le, frzE_eq, turn_eq, turnC_eq, k_le, forL_nil, lcL_nil, startE, decide_eq_true_eq, decide_eq_false_iff_not, decide_true, decide_false, Bool.not_eq_true', Bool.not_eq_eq_eq_not, Bool.not_true, Bool.not_false, Bool.true_eq_false, Bool.false_eq_true, Bool.not_not, Option.bind_some, Option.map_some, List.map_cons, List.map_nil, List.length_cons, List.length_nil, List.cons_append, List.nil_append, List.set_cons_zero, List.set_cons_succ, List.getElem?_cons_zero, List.getElem?_cons_succ, List.length_set, ↓reduceIte, if_true, if_false, ite_self, List.replicate, List.take_succ_cons, List.take_zero, List.drop_succ_cons, List.drop_zero, List.flatten_cons, List.flatten_nil, Int.reduceToNat, List.isEmpty_cons, List.isEmpty_nil, Nat.reduceAdd, Nat.reduceSub, Nat.reduceLT, Nat.reduceLeDiff, Nat.reduceEqDiff, Int.cast_ofNat_Int, not_true_eq_false, not_false_eq_true, Int.reduceAdd, Int.reduceSub, Int.reduceMul, Int.reduceLT, Int.reduceLE, Int.reduceEq, Int.reduceNe, Int.reduceNeg, Int.zero_add, ne_eq, id, wipeE, lcL_nil, eq_self, and_true, true_and, D.int.injEq, D.bl.injEq, ofS_eq, String.reduceEq, q_eqD, q_neD, q_inT, q_inL, q_ninT, q_ninL, beq_self_eq_true, List.any_cons, List.any_nil, Bool.or_false, Bool.false_or, Bool.or_true, Bool.true_or, deq_nb, deq_ni, deq_ns, deq_nt, deq_nl, deq_bn, deq_bs, deq_bt, deq_bl, deq_in, deq_is, deq_it, deq_il, deq_sn, deq_sb, deq_si, deq_st, deq_sl, deq_tn, deq_tb, deq_ti, deq_ts, deq_tl, deq_ln, deq_lb, deq_li, deq_ls, deq_lt, deq_nn, deq_bb, deq_ii, deq_ss, deq_tt, deq_ll, deqL_nn, deqL_cc, deqL_nc, deqL_cn, okd_i, okd_n, okd_b, okd_t, okd_l, okdL_n, okdL_c, Bool.and_true, Bool.true_and, Bool.and_false, Bool.false_and, $xs,*])
local macro_rules
  | `(tactic| simp_all_arith! only [$xs,*]) => `(tactic| simp -implicitDefEqProofs (disch := first | assumption | omega | (simp only [okd_i, okd_n, okd_b, okd_s, strOk_of, okd_t, okd_l, okdL_n, okdL_c, Bool.and_true, Bool.and_self, *]; done) | (simp only [List.length_cons, List.length_nil, List.length_append, List.length_map, List.length_set, List.length_take, List.length_drop, List.length_reverse, rangeD_len, zipD_len, enumD_len] <;> omega)) only [x_ok, at0, at1, at2, at3, at4, at5, x_dict, k_dict, x_pairsN, x_pairsC, k_p1, k_p2, k_p3i, k_p3s, cut_ns, cut_sn, cut_ss, sl_L, sl_F, sl_T, sl_S, x_exc, slotV_v, slotO_v, slotO_o, x_var, x_own, x_c, x_bin, k_bin1, k_bin2, x_neg, k_neg, x_tup, k_tup, x_lst, k_lst, x_nCat, k_cat1, k_cat2, x_nRep, k_rep1, k_rep2, x_frz, k_frz, x_nil, x_cons, k_cons1, k_cons2, x_val, k_val, tr_bl, tr_non, tr_int, tr_lst, tr_tup, tr_frl, tr_str, x_and, x_or, x_not, k_and, k_or, k_not, x_tT, x_ifE, k_ifE, x_andV, x_orV, x_notV, k_andV, k_orV, k_notV, x_chain, k_ch1, k_ch2, k_ch3, x_call, x_callN, k_call, x_opt, k_some, x_isi, k_isi, x_oNone, x_oSome, k_oSome, x_nSl, k_nsl1, k_nsl2, k_nsl3L, k_nsl3F, x_sl, k_sl1, k_sl2, k_sl3, x_rev, k_rev, k_revT, x_fn, k_fn, x_fnB, k_fnB, x_tStill, k_stB, x_eStill, envB_t, envB_f, envB_n, envB_e, frzB_u, frzB_o, frzB_v, frzB_i, frzB_b, frzB_s, frzB_non, frzB_t, frzB_l, k_nolB, k_nolI, k_nolS, k_nolN, x_seq, k_seqL, k_seqT, k_seqF, k_seqS, x_rng1, k_rng1, x_rng2, k_rng2a, k_rng2b, x_enum, k_enum, k_enumT, x_zip, k_zipL, k_zipT, k_zipM, k_zipN, x_lc, k_lc, x_sNil, x_sSeq, k_sqn, k_sqr, k_sqb, k_sqc, k_sqx, x_sExpr, k_expr, x_sRet, k_ret, x_sRetN, x_sRetO, k_retO, x_sRetL, k_retL, x_nFn, k_fnN, k_sqo, k_turnO, k_wtO, x_runN, k_runO, k_runOX, x_sBrk, x_sCnt, x_sSet, k_set, x_sOwn, k_own, tg_some, x_sTg, k_tg, gN_ok, gT_t, gTs_n, gTs_c, x_sIf, k_if, x_sFor, k_for, x_sWhile, x_sFrz, frzE_eq, frz_o, frz_v, frz_u, slotL_o, k_mod, x_modE, x_withO, x_sApp, k_appL, k_app, hApp_ok, x_sSlA, k_slAL, k_slA, hAll_ok, x_sIns, k_insL, k_ins1, k_ins2, hIns_ok, x_sRevO, k_revO, x_sClrO, k_clrO, x_sExt, k_extL, k_ext, hExt_ok, x_sSetIx, k_setIxL, k_setIx1, k_setIx2, k_putK, x_sPut, k_put1, k_put2, k_put3, x_sPar, k_par, x_sPar3, k_par3, x_run, k_runN, k_runR, k_runX, k_x, q_add, q_sub, q_addBI, q_addIB, q_subBI, q_subIB, p_strB, p_strS, tI_t, tI_f, q_mul, q_rep, q_div, q_mod, q_lt, q_le, q_gt, q_ge, q_eq, q_ne, q_is, q_isn, q_isB, q_isnB, q_isnI, x_idx, k_idx1, k_idx2, q_catL, q_catT, q_catS, isNon_non, isNon_int, isNon_bl, isNon_str, isNon_tup, isNon_lst, p_divmod, p_lenL, p_lenT, p_lenF, p_lenS, p_intB, p_intI, p_max2, p_min2, p_tupL, p_tupT, p_lstL, p_lstT, p_lstF, is_intI, is_intB, is_intS, is_intN, is_intT, is_intL, is_blI, is_blB, is_blS, is_blN, is_blT, is_blL, is_strI, is_strB, is_strS, is_strN, is_strT, is_strL, is_tupI, is_tupB, is_tupS, is_tupN, is_tupT, is_tupL, is_lstI, is_lstB, is_lstS, is_lstN, is_lstT, is_lstL, opIx_lst, opIx_tup, opIx_frl, k_midN, k_midC, k_midB, k_midR, k_midO, k_midX, k_turnN, k_turnC, k_turnB, k_turnR, k_turnX, k_wtN, k_wtC, k_wtB, k_wtR, k_wtX, k_wc, k_le, frzE_eq, turn_eq, turnC_eq, k_le, forL_nil, lcL_nil, startE, decide_eq_true_eq, decide_eq_false_iff_not, decide_true, decide_false, Bool.not_eq_true', Bool.not_eq_eq_eq_not, Bool.not_true, Bool.not_false, Bool.true_eq_false, Bool.false_eq_true, Bool.not_not, Option.bind_some, Option.map_some, List.map_cons, List.map_nil, List.length_cons, List.length_nil, List.cons_append, List.nil_append, List.set_cons_zero, List.set_cons_succ, List.getElem?_cons_zero, List.getElem?_cons_succ, List.length_set, ↓reduceIte, if_true, if_false, ite_self, List.replicate, List.take_succ_cons, List.take_zero, List.drop_succ_cons, List.drop_zero, List.flatten_cons, List.flatten_nil, Int.reduceToNat, List.isEmpty_cons, List.isEmpty_nil, Nat.reduceAdd, Nat.reduceSub, Nat.reduceLT, Nat.reduceLeDiff, Nat.reduceEqDiff, Int.cast_ofNat_Int, not_true_eq_false, not_false_eq_true, Int.reduceAdd, Int.reduceSub, Int.reduceMul, Int.reduceLT, Int.reduceLE, Int.reduceEq, Int.reduceNe, Int.reduceNeg, Int.zero_add, ne_eq, id, wipeE, lcL_nil, eq_self, and_true, true_and, D.int.injEq, D.bl.injEq, ofS_eq, String.reduceEq, q_eqD, q_neD, q_inT, q_inL, q_ninT, q_ninL, beq_self_eq_true, List.any_cons, List.any_nil, Bool.or_false, Bool.false_or, Bool.or_true, Bool.true_or, deq_nb, deq_ni, deq_ns, deq_nt, deq_nl, deq_bn, deq_bs, deq_bt, deq_bl, deq_in, deq_is, deq_it, deq_il, deq_sn, deq_sb, deq_si, deq_st, deq_sl, deq_tn, deq_tb, deq_ti, deq_ts, deq_tl, deq_ln, deq_lb, deq_li, deq_ls, deq_lt, deq_nn, deq_bb, deq_ii, deq_ss, deq_tt, deq_ll, deqL_nn, deqL_cc, deqL_nc, deqL_cn, okd_i, okd_n, okd_b, okd_t, okd_l, okdL_n, okdL_c, Bool.and_true, Bool.true_and, Bool.and_false, Bool.false_and, olt_t, olt_f, ole_t, ole_f, oeq_t, oeq_lt, oeq_gt, x_fld, k_fld, fld_ins, fld_new, lkP_c, lkF_c, lkF_n, meth_ins, lkM_c, k_optI, x_meth, k_meth, k_methS, k_meth2, x_sFld, k_sfld1, k_sfld2, k_setK, setO_new, putFD, List.mem_cons, List.not_mem_nil, or_true, true_or, or_false, false_or, or_self, Nat.reduceEqDiff, Nat.reduceSucc, reduceCtorEq, List.mem_nil_iff, false_and, and_false, and_self, $xs,*])

noncomputable def dateD (d : Int) : D := .tup [.int (2001 + mo d / 12), .int (mo d % 12 + 1), .int (d - FO (mo d) + 1)]
/-- how many days come from a day on, ahead of another one -/
noncomputable def cf (r : Rul) (a d : Int) : Nat := (rf (fits r.how r.first) a d).length
end G

namespace G
open PySem L2
local macro_rules
  | `(tactic| simp_arith only [$xs,*]) => `(tactic| simp -implicitDefEqProofs (disch := first | assumption | omega | (simp only [List.length_cons, List.length_nil, List.length_append, List.length_map, List.length_set, List.length_take, List.length_drop, List.length_reverse, rangeD_len, zipD_len, enumD_len] <;> omega)) only [x_ok, at0, at1, at2, at3, at4, at5, x_dict, k_dict, x_pairsN, x_pairsC, k_p1, k_p2, k_p3i, k_p3s, cut_ns, cut_sn, cut_ss, sl_L, sl_F, sl_T, sl_S, x_exc, slotV_v, slotO_v, slotO_o, x_var, x_own, x_c, x_bin, k_bin1, k_bin2, x_neg, k_neg, x_tup, k_tup, x_lst, k_lst, x_nCat, k_cat1, k_cat2, x_nRep, k_rep1, k_rep2, x_frz, k_frz, x_nil, x_cons, k_cons1, k_cons2, x_val, k_val, tr_bl, tr_non, tr_int, tr_lst, tr_tup, tr_frl, tr_str, x_and, x_or, x_not, k_and, k_or, k_not, x_tT, x_ifE, k_ifE, x_andV, x_orV, x_notV, k_andV, k_orV, k_notV, x_chain, k_ch1, k_ch2, k_ch3, x_call, x_callN, k_call, x_opt, k_some, x_isi, k_isi, x_oNone, x_oSome, k_oSome, x_nSl, k_nsl1, k_nsl2, k_nsl3L, k_nsl3F, x_sl, k_sl1, k_sl2, k_sl3, x_rev, k_rev, k_revT, x_fn, k_fn, x_fnB, k_fnB, x_tStill, k_stB, x_eStill, envB_t, envB_f, envB_n, envB_e, frzB_u, frzB_o, frzB_v, frzB_i, frzB_b, frzB_s, frzB_non, frzB_t, frzB_l, k_nolB, k_nolI, k_nolS, k_nolN, x_seq, k_seqL, k_seqT, k_seqF, k_seqS, x_rng1, k_rng1, x_rng2, k_rng2a, k_rng2b, x_enum, k_enum, k_enumT, x_zip, k_zipL, k_zipT, k_zipM, k_zipN, x_lc, k_lc, x_sNil, x_sSeq, k_sqn, k_sqr, k_sqb, k_sqc, k_sqx, x_sExpr, k_expr, x_sRet, k_ret, x_sRetN, x_sRetO, k_retO, x_sRetL, k_retL, x_nFn, k_fnN, k_sqo, k_turnO, k_wtO, x_runN, k_runO, k_runOX, x_sBrk, x_sCnt, x_sSet, k_set, x_sOwn, k_own, tg_some, x_sTg, k_tg, gN_ok, gT_t, gTs_n, gTs_c, x_sIf, k_if, x_sFor, k_for, x_sWhile, x_sFrz, frzE_eq, frz_o, frz_v, frz_u, slotL_o, k_mod, x_modE, x_withO, x_sApp, k_appL, k_app, hApp_ok, x_sSlA, k_slAL, k_slA, hAll_ok, x_sIns, k_insL, k_ins1, k_ins2, hIns_ok, x_sRevO, k_revO, x_sClrO, k_clrO, x_sExt, k_extL, k_ext, hExt_ok, x_sSetIx, k_setIxL, k_setIx1, k_setIx2, k_putK, x_sPut, k_put1, k_put2, k_put3, x_sPar, k_par, x_sPar3, k_par3, x_run, k_runN, k_runR, k_runX, k_x, q_add, q_sub, q_addBI, q_addIB, q_subBI, q_subIB, p_strB, p_strS, tI_t, tI_f, q_mul, q_rep, q_div, q_mod, q_lt, q_le, q_gt, q_ge, q_eq, q_ne, q_is, q_isn, q_isB, q_isnB, q_isnI, x_idx, k_idx1, k_idx2, q_catL, q_catT, q_catS, isNon_non, isNon_int, isNon_bl, isNon_str, isNon_tup, isNon_lst, p_divmod, p_lenL, p_lenT, p_lenF, p_lenS, p_intB, p_intI, p_max2, p_min2, p_tupL, p_tupT, p_lstL, p_lstT, p_lstF, is_intI, is_intB, is_intS, is_intN, is_intT, is_intL, is_blI, is_blB, is_blS, is_blN, is_blT, is_blL, is_strI, is_strB, is_strS, is_strN, is_strT, is_strL, is_tupI, is_tupB, is_tupS, is_tupN, is_tupT, is_tupL, is_lstI, is_lstB, is_lstS, is_lstN, is_lstT, is_lstL, opIx_lst, opIx_tup, opIx_frl, k_midN, k_midC, k_midB, k_midR, k_midO, k_midX, k_turnN, k_turnC, k_turnB, k_turnR, k_turnX, k_wtN, k_wtC, k_wtB, k_wtR, k_wtX, k_wc, k_le, frzE_eq, turn_eq, turnC_eq, k_le, forL_nil, lcL_nil, startE, decide_eq_true_eq, decide_eq_false_iff_not, decide_true, decide_false, Bool.not_eq_true', Bool.not_eq_eq_eq_not, Bool.not_true, Bool.not_false, Bool.true_eq_false, Bool.false_eq_true, Bool.not_not, Option.bind_some, Option.map_some, List.map_cons, List.map_nil, List.length_cons, List.length_nil, List.cons_append, List.nil_append, List.set_cons_zero, List.set_cons_succ, List.getElem?_cons_zero, List.getElem?_cons_succ, List.length_set, ↓reduceIte, if_true, if_false, ite_self, List.replicate, List.take_succ_cons, List.take_zero, List.drop_succ_cons, List.drop_zero, List.flatten_cons, List.flatten_nil, Int.reduceToNat, List.isEmpty_cons, List.isEmpty_nil, Nat.reduceAdd, Nat.reduceSub, Nat.reduceLT, Nat.reduceLeDiff, Nat.reduceEqDiff, Int.cast_ofNat_Int, not_true_eq_false, not_false_eq_true, Int.reduceAdd, Int.reduceSub, Int.reduceMul, Int.reduceLT, Int.reduceLE, Int.reduceEq, Int.reduceNe, Int.reduceNeg, Int.zero_add, ne_eq, id, wipeE, lcL_nil, eq_self, and_true, true_and, D.int.injEq, D.bl.injEq, ofS_eq, String.reduceEq, $xs,*])
local macro_rules
  | `(tactic| simp_arith! only [$xs,*]) => `(tactic| simp -implicitDefEqProofs (disch := first | assumption | omega | (simp only [okd_i, okd_n, okd_b, okd_s, strOk_of, okd_t, okd_l, okdL_n, okdL_c, Bool.and_true, Bool.and_self, *]; done) | (simp only [List.length_cons, List.length_nil, List.length_append, List.length_map, List.length_set, List.length_take, List.length_drop, List.length_reverse, rangeD_len, zipD_len, enumD_len] <;> omega)) only [x_ok, at0, at1, at2, at3, at4, at5, x_dict, k_dict, x_pairsN, x_pairsC, k_p1, k_p2, k_p3i, k_p3s, cut_ns, cut_sn, cut_ss, sl_L, sl_F, sl_T, sl_S, x_exc, slotV_v, slotO_v, slotO_o, x_var, x_own, x_c, x_bin, k_bin1, k_bin2, x_neg, k_neg, x_tup, k_tup, x_lst, k_lst, x_nCat, k_cat1, k_cat2, x_nRep, k_rep1, k_rep2, x_frz, k_frz, x_nil, x_cons, k_cons1, k_cons2, x_val, k_val, tr_bl, tr_non, tr_int, tr_lst, tr_tup, tr_frl, tr_str, x_and, x_or, x_not, k_and, k_or, k_not, x_tT, x_ifE, k_ifE, x_andV, x_orV, x_notV, k_andV, k_orV, k_notV, x_chain, k_ch1, k_ch2, k_ch3, x_call, x_callN, k_call, x_opt, k_some, x_isi, k_isi, x_oNone, x_oSome, k_oSome, x_nSl, k_nsl1, k_nsl2, k_nsl3L, k_nsl3F, x_sl, k_sl1, k_sl2, k_sl3, x_rev, k_rev, k_revT, x_fn, k_fn, x_fnB, k_fnB, x_tStill, k_stB, x_eStill, envB_t, envB_f, envB_n, envB_e, frzB_u, frzB_o, frzB_v, frzB_i, frzB_b, frzB_s, frzB_non, frzB_t, frzB_l, k_nolB, k_nolI, k_nolS, k_nolN, x_seq, k_seqL, k_seqT, k_seqF, k_seqS, x_rng1, k_rng1, x_rng2, k_rng2a, k_rng2b, x_enum, k_enum, k_enumT, x_zip, k_zipL, k_zipT, k_zipM, k_zipN, x_lc, k_lc, x_sNil, x_sSeq, k_sqn, k_sqr, k_sqb, k_sqc, k_sqx, x_sExpr, k_expr, x_sRet, k_ret, x_sRetN, x_sRetO, k_retO, x_sRetL, k_retL, x_nFn, k_fnN, k_sqo, k_turnO, k_wtO, x_runN, k_runO, k_runOX, x_sBrk, x_sCnt, x_sSet, k_set, x_sOwn, k_own, tg_some, x_sTg, k_tg, gN_ok, gT_t, gTs_n, gTs_c, x_sIf, k_if, x_sFor, k_for, x_sWhile, x_sFrz, frzE_eq, frz_o, frz_v, frz_u, slotL_o, k_mod, x_modE, x_withO, x_sApp, k_appL, k_app, hApp_ok, x_sSlA, k_slAL, k_slA, hAll_ok, x_sIns, k_insL, k_ins1, k_ins2, hIns_ok, x_sRevO, k_revO, x_sClrO, k_clrO, x_sExt, k_extL, k_ext, hExt_ok, x_sSetIx, k_setIxL, k_setIx1, k_setIx2, k_putK, x_sPut, k_put1, k_put2, k_put3, x_sPar, k_par, x_sPar3, k_par3, x_run, k_runN, k_runR, k_runX, k_x, q_add, q_sub, q_addBI, q_addIB, q_subBI, q_subIB, p_strB, p_strS, tI_t, tI_f, q_mul, q_rep, q_div, q_mod, q_lt, q_le, q_gt, q_ge, q_eq, q_ne, q_is, q_isn, q_isB, q_isnB, q_isnI, x_idx, k_idx1, k_idx2, q_catL, q_catT, q_catS, isNon_non, isNon_int, isNon_bl, isNon_str, isNon_tup, isNon_lst, p_divmod, p_lenL, p_lenT, p_lenF, p_lenS, p_intB, p_intI, p_max2, p_min2, p_tupL, p_tupT, p_lstL, p_lstT, p_lstF, is_intI, is_intB, is_intS, is_intN, is_intT, is_intL, is_blI, is_blB, is_blS, is_blN, is_blT, is_blL, is_strI, is_strB, is_strS, is_strN, is_strT, is_strL, is_tupI, is_tupB, is_tupS, is_tupN, is_tupT, is_tupL, is_lstI, is_lstB, is_lstS, is_lstN, is_lstT, is_lstL, opIx_lst, opIx_tup, opIx_frl, k_midN, k_midC, k_midB, k_midR, k_midO, k_midX, k_turnN, k_turnC, k_turnB, k_turnR, k_turnX, k_wtN, k_wtC, k_wtB, k_wtR, k_wtX, k_wc, k_le, frzE_eq, turn_eq, turnC_eq, k_le, forL_nil, lcL_nil, startE, decide_eq_true_eq, decide_eq_false_iff_not, decide_true, decide_false, Bool.not_eq_true', Bool.not_eq_eq_eq_not, Bool.not_true, Bool.not_false, Bool.true_eq_false, Bool.false_eq_true, Bool.not_not, Option.bind_some, Option.map_some, List.map_cons, List.map_nil, List.length_cons, List.length_nil, List.cons_append, List.nil_append, List.set_cons_zero, List.set_cons_succ, List.getElem?_cons_zero, List.getElem?_cons_succ, List.length_set, ↓reduceIte, if_true, if_false, ite_self, List.replicate, List.take_succ_cons, List.take_zero, List.drop_succ_cons, List.drop_zero, List.flatten_cons, List.flatten_nil, Int.reduceToNat, List.isEmpty_cons, List.isEmpty_nil, Nat.reduceAdd, Nat.reduceSub, Nat.reduceLT, Nat.reduceLeDiff, Nat.reduceEqDiff, Int.cast_ofNat_Int, not_true_eq_false, not_false_eq_true, Int.reduceAdd, Int.reduceSub, Int.reduceMul, Int.reduceLT, Int.reduceLE, Int.reduceEq, Int.reduceNe, Int.reduceNeg, Int.zero_add, ne_eq, id, wipeE, lcL_nil, eq_self, and_true, true_and, D.int.injEq, D.bl.injEq, ofS_eq, String.reduceEq, q_eqD, q_neD, q_inT, q_inL, q_ninT, q_ninL, beq_self_eq_true, List.any_cons, List.any_nil, Bool.or_false, Bool.false_or, Bool.or_true, Bool.true_or, deq_nb, deq_ni, deq_ns, deq_nt, deq_nl, deq_bn, deq_bs, deq_bt, deq_bl, deq_in, deq_is, deq_it, deq_il, deq_sn, deq_sb, deq_si, deq_st, deq_sl, deq_tn, deq_tb, deq_ti, deq_ts, deq_tl, deq_ln, deq_lb, deq_li, deq_ls, deq_lt, deq_nn, deq_bb, deq_ii, deq_ss, deq_tt, deq_ll, deqL_nn, deqL_cc, deqL_nc, deqL_cn, okd_i, okd_n, okd_b, okd_t, okd_l, okdL_n, okdL_c, Bool.and_true, Bool.true_and, Bool.and_false, Bool.false_and, $xs,*])

theorem cutS_to {a : List Nat} {i : Int} (h : 0 ≤ i) : cutS (SX.S a) none (some i) = SX.S (a.take i.toNat) := by rw [C8.cutS_slice]; exact SX.slice_to h
theorem cutS_from {a : List Nat} {i : Int} (h : 0 ≤ i) : cutS (SX.S a) (some i) none = SX.S (a.drop i.toNat) := by rw [C8.cutS_slice]; exact SX.slice_from h
theorem ix_S {a : List Nat} {i : Int} {S : Sto} (h : a.length ≤ 16777216) : opIx (.str (SX.S a)) (.int i) S = opt (atI a i) (fun c => .str (SX.S [c])) S := by
  show (if _ then _ else _) = _
  rw [if_pos (by rw [SX.S_len, PySem.sizeLine_eq]; exact h)]
def abc : List Nat := [97, 98, 99, 100, 101, 102, 103, 104, 105, 106, 107, 108, 109, 110, 111, 112, 113, 114, 115, 116, 117, 118, 119, 120, 121, 122]
/-- a word -/
structure Wd (x : List Nat) : Prop where
  l1 : 1 ≤ x.length
  l8 : x.length ≤ 8
  az : ∀ c ∈ x, 97 ≤ c ∧ c ≤ 122
theorem Wd.strOk {x : List Nat} (h : Wd x) : PyData.strOk (SX.S x) = true := by
  unfold PyData.strOk
  rw [Array.all_eq_true']
  intro c hc
  have := h.az c (by simpa using hc)
  simp; omega
theorem Wd.okz {x : List Nat} (h : Wd x) {m n : Nat} (hm : 8 ≤ m) : okz m n (.str (SX.S x)) = true := by
  rw [okz_s, h.strOk, SX.S_len, decide_eq_true (by have := h.l8; omega)]; rfl
theorem Wd.okd {x : List Nat} (h : Wd x) {n : Nat} : okd n (.str (SX.S x)) = true := okd_s h.strOk
/-- the words of a list -/
abbrev wdsD (ws : List (List Nat)) : List D := ws.map fun w => .str (SX.S w)
def wA (w : List Nat) (f b k : Int) : List Nat := (List.replicate 8 w).flatten.take (1 + (f + b * k) % 8).toNat
def wB (w : List Nat) (a : Int) (f b k : Int) : List Nat := w.take a.toNat ++ [97 + ((f + b * k) % 26).toNat] ++ w.drop (a + 1).toNat
theorem q_catSS {a b : List Nat} {S : Sto} (h : a.length + b.length ≤ 16777216) : opAdd (.str (SX.S a)) (.str (SX.S b)) S = .ok (.str (SX.S (a ++ b))) S := by
  rw [q_catS (by rw [SX.S_len, SX.S_len]; exact h), SX.S_cat]
end G

namespace G
open PySem L2
local macro_rules
  | `(tactic| simp_arith only [$xs,*]) => `(tactic| simp -implicitDefEqProofs (disch := first | assumption | omega | (simp only [List.length_cons, List.length_nil, List.length_append, List.length_map, List.length_set, List.length_take, List.length_drop, List.length_reverse, rangeD_len, zipD_len, enumD_len] <;> omega)) only [x_ok, at0, at1, at2, at3, at4, at5, x_dict, k_dict, x_pairsN, x_pairsC, k_p1, k_p2, k_p3i, k_p3s, cut_ns, cut_sn, cut_ss, sl_L, sl_F, sl_T, sl_S, x_exc, slotV_v, slotO_v, slotO_o, x_var, x_own, x_c, x_bin, k_bin1, k_bin2, x_neg, k_neg, x_tup, k_tup, x_lst, k_lst, x_nCat, k_cat1, k_cat2, x_nRep, k_rep1, k_rep2, x_frz, k_frz, x_nil, x_cons, k_cons1, k_cons2, x_val, k_val, tr_bl, tr_non, tr_int, tr_lst, tr_tup, tr_frl, tr_str, x_and, x_or, x_not, k_and, k_or, k_not, x_tT, x_ifE, k_ifE, x_andV, x_orV, x_notV, k_andV, k_orV, k_notV, x_chain, k_ch1, k_ch2, k_ch3, x_call, x_callN, k_call, x_opt, k_some, x_isi, k_isi, x_oNone, x_oSome, k_oSome, x_nSl, k_nsl1, k_nsl2, k_nsl3L, k_nsl3F, x_sl, k_sl1, k_sl2, k_sl3, x_rev, k_rev, k_revT, x_fn, k_fn, x_fnB, k_fnB, x_tStill, k_stB, x_eStill, envB_t, envB_f, envB_n, envB_e, frzB_u, frzB_o, frzB_v, frzB_i, frzB_b, frzB_s, frzB_non, frzB_t, frzB_l, k_nolB, k_nolI, k_nolS, k_nolN, x_seq, k_seqL, k_seqT, k_seqF, k_seqS, x_rng1, k_rng1, x_rng2, k_rng2a, k_rng2b, x_enum, k_enum, k_enumT, x_zip, k_zipL, k_zipT, k_zipM, k_zipN, x_lc, k_lc, x_sNil, x_sSeq, k_sqn, k_sqr, k_sqb, k_sqc, k_sqx, x_sExpr, k_expr, x_sRet, k_ret, x_sRetN, x_sRetO, k_retO, x_sRetL, k_retL, x_nFn, k_fnN, k_sqo, k_turnO, k_wtO, x_runN, k_runO, k_runOX, x_sBrk, x_sCnt, x_sSet, k_set, x_sOwn, k_own, tg_some, x_sTg, k_tg, gN_ok, gT_t, gTs_n, gTs_c, x_sIf, k_if, x_sFor, k_for, x_sWhile, x_sFrz, frzE_eq, frz_o, frz_v, frz_u, slotL_o, k_mod, x_modE, x_withO, x_sApp, k_appL, k_app, hApp_ok, x_sSlA, k_slAL, k_slA, hAll_ok, x_sIns, k_insL, k_ins1, k_ins2, hIns_ok, x_sRevO, k_revO, x_sClrO, k_clrO, x_sExt, k_extL, k_ext, hExt_ok, x_sSetIx, k_setIxL, k_setIx1, k_setIx2, k_putK, x_sPut, k_put1, k_put2, k_put3, x_sPar, k_par, x_sPar3, k_par3, x_run, k_runN, k_runR, k_runX, k_x, q_add, q_sub, q_addBI, q_addIB, q_subBI, q_subIB, p_strB, p_strS, tI_t, tI_f, q_mul, q_rep, q_div, q_mod, q_lt, q_le, q_gt, q_ge, q_eq, q_ne, q_is, q_isn, q_isB, q_isnB, q_isnI, x_idx, k_idx1, k_idx2, q_catL, q_catT, q_catS, isNon_non, isNon_int, isNon_bl, isNon_str, isNon_tup, isNon_lst, p_divmod, p_lenL, p_lenT, p_lenF, p_lenS, p_intB, p_intI, p_max2, p_min2, p_tupL, p_tupT, p_lstL, p_lstT, p_lstF, is_intI, is_intB, is_intS, is_intN, is_intT, is_intL, is_blI, is_blB, is_blS, is_blN, is_blT, is_blL, is_strI, is_strB, is_strS, is_strN, is_strT, is_strL, is_tupI, is_tupB, is_tupS, is_tupN, is_tupT, is_tupL, is_lstI, is_lstB, is_lstS, is_lstN, is_lstT, is_lstL, opIx_lst, opIx_tup, opIx_frl, k_midN, k_midC, k_midB, k_midR, k_midO, k_midX, k_turnN, k_turnC, k_turnB, k_turnR, k_turnX, k_wtN, k_wtC, k_wtB, k_wtR, k_wtX, k_wc, k_le, frzE_eq, turn_eq, turnC_eq, k_le, forL_nil, lcL_nil, startE, decide_eq_true_eq, decide_eq_false_iff_not, decide_true, decide_false, Bool.not_eq_true', Bool.not_eq_eq_eq_not, Bool.not_true, Bool.not_false, Bool.true_eq_false, Bool.false_eq_true, Bool.not_not, Option.bind_some, Option.map_some, List.map_cons, List.map_nil, List.length_cons, List.length_nil, List.cons_append, List.nil_append, List.set_cons_zero, List.set_cons_succ, List.getElem?_cons_zero, List.getElem?_cons_succ, List.length_set, ↓reduceIte, if_true, if_false, ite_self, List.replicate, List.take_succ_cons, List.take_zero, List.drop_succ_cons, List.drop_zero, List.flatten_cons, List.flatten_nil, Int.reduceToNat, List.isEmpty_cons, List.isEmpty_nil, Nat.reduceAdd, Nat.reduceSub, Nat.reduceLT, Nat.reduceLeDiff, Nat.reduceEqDiff, Int.cast_ofNat_Int, not_true_eq_false, not_false_eq_true, Int.reduceAdd, Int.reduceSub, Int.reduceMul, Int.reduceLT, Int.reduceLE, Int.reduceEq, Int.reduceNe, Int.reduceNeg, Int.zero_add, ne_eq, id, wipeE, lcL_nil, eq_self, and_true, true_and, D.int.injEq, D.bl.injEq, ofS_eq, String.reduceEq, $xs,*])

def turnD (t : Int × Int) : D := .tup [.int t.1, .int t.2]
abbrev clockD (ts : List (Int × Int)) : D := .tup (ts.map turnD)
/-- turns that rise from a on -/
def Rise : Int → List (Int × Int) → Prop
  | _, [] => True
  | a, t :: r => a < t.1 ∧ t.1 ≤ 143999999 ∧ -840 ≤ t.2 ∧ t.2 ≤ 840 ∧ Rise t.1 r
structure Clk (ts : List (Int × Int)) : Prop where
  rise : Rise (-1) ts
  first : ∃ o r, ts = (0, o) :: r
  len : ts.length ≤ 40
end G

namespace G
open PySem L2
local macro_rules
  | `(tactic| simp_arith only [$xs,*]) => `(tactic| simp -implicitDefEqProofs (disch := first | assumption | omega | (simp only [List.length_cons, List.length_nil, List.length_append, List.length_map, List.length_set, List.length_take, List.length_drop, List.length_reverse, rangeD_len, zipD_len, enumD_len] <;> omega)) only [x_ok, at0, at1, at2, at3, at4, at5, x_dict, k_dict, x_pairsN, x_pairsC, k_p1, k_p2, k_p3i, k_p3s, cut_ns, cut_sn, cut_ss, sl_L, sl_F, sl_T, sl_S, x_exc, slotV_v, slotO_v, slotO_o, x_var, x_own, x_c, x_bin, k_bin1, k_bin2, x_neg, k_neg, x_tup, k_tup, x_lst, k_lst, x_nCat, k_cat1, k_cat2, x_nRep, k_rep1, k_rep2, x_frz, k_frz, x_nil, x_cons, k_cons1, k_cons2, x_val, k_val, tr_bl, tr_non, tr_int, tr_lst, tr_tup, tr_frl, tr_str, x_and, x_or, x_not, k_and, k_or, k_not, x_tT, x_ifE, k_ifE, x_andV, x_orV, x_notV, k_andV, k_orV, k_notV, x_chain, k_ch1, k_ch2, k_ch3, x_call, x_callN, k_call, x_opt, k_some, x_isi, k_isi, x_oNone, x_oSome, k_oSome, x_nSl, k_nsl1, k_nsl2, k_nsl3L, k_nsl3F, x_sl, k_sl1, k_sl2, k_sl3, x_rev, k_rev, k_revT, x_fn, k_fn, x_fnB, k_fnB, x_tStill, k_stB, x_eStill, envB_t, envB_f, envB_n, envB_e, frzB_u, frzB_o, frzB_v, frzB_i, frzB_b, frzB_s, frzB_non, frzB_t, frzB_l, k_nolB, k_nolI, k_nolS, k_nolN, x_seq, k_seqL, k_seqT, k_seqF, k_seqS, x_rng1, k_rng1, x_rng2, k_rng2a, k_rng2b, x_enum, k_enum, k_enumT, x_zip, k_zipL, k_zipT, k_zipM, k_zipN, x_lc, k_lc, x_sNil, x_sSeq, k_sqn, k_sqr, k_sqb, k_sqc, k_sqx, x_sExpr, k_expr, x_sRet, k_ret, x_sRetN, x_sRetO, k_retO, x_sRetL, k_retL, x_nFn, k_fnN, k_sqo, k_turnO, k_wtO, x_runN, k_runO, k_runOX, x_sBrk, x_sCnt, x_sSet, k_set, x_sOwn, k_own, tg_some, x_sTg, k_tg, gN_ok, gT_t, gTs_n, gTs_c, x_sIf, k_if, x_sFor, k_for, x_sWhile, x_sFrz, frzE_eq, frz_o, frz_v, frz_u, slotL_o, k_mod, x_modE, x_withO, x_sApp, k_appL, k_app, hApp_ok, x_sSlA, k_slAL, k_slA, hAll_ok, x_sIns, k_insL, k_ins1, k_ins2, hIns_ok, x_sRevO, k_revO, x_sClrO, k_clrO, x_sExt, k_extL, k_ext, hExt_ok, x_sSetIx, k_setIxL, k_setIx1, k_setIx2, k_putK, x_sPut, k_put1, k_put2, k_put3, x_sPar, k_par, x_sPar3, k_par3, x_run, k_runN, k_runR, k_runX, k_x, q_add, q_sub, q_addBI, q_addIB, q_subBI, q_subIB, p_strB, p_strS, tI_t, tI_f, q_mul, q_rep, q_div, q_mod, q_lt, q_le, q_gt, q_ge, q_eq, q_ne, q_is, q_isn, q_isB, q_isnB, q_isnI, x_idx, k_idx1, k_idx2, q_catL, q_catT, q_catS, isNon_non, isNon_int, isNon_bl, isNon_str, isNon_tup, isNon_lst, p_divmod, p_lenL, p_lenT, p_lenF, p_lenS, p_intB, p_intI, p_max2, p_min2, p_tupL, p_tupT, p_lstL, p_lstT, p_lstF, is_intI, is_intB, is_intS, is_intN, is_intT, is_intL, is_blI, is_blB, is_blS, is_blN, is_blT, is_blL, is_strI, is_strB, is_strS, is_strN, is_strT, is_strL, is_tupI, is_tupB, is_tupS, is_tupN, is_tupT, is_tupL, is_lstI, is_lstB, is_lstS, is_lstN, is_lstT, is_lstL, opIx_lst, opIx_tup, opIx_frl, k_midN, k_midC, k_midB, k_midR, k_midO, k_midX, k_turnN, k_turnC, k_turnB, k_turnR, k_turnX, k_wtN, k_wtC, k_wtB, k_wtR, k_wtX, k_wc, k_le, frzE_eq, turn_eq, turnC_eq, k_le, forL_nil, lcL_nil, startE, decide_eq_true_eq, decide_eq_false_iff_not, decide_true, decide_false, Bool.not_eq_true', Bool.not_eq_eq_eq_not, Bool.not_true, Bool.not_false, Bool.true_eq_false, Bool.false_eq_true, Bool.not_not, Option.bind_some, Option.map_some, List.map_cons, List.map_nil, List.length_cons, List.length_nil, List.cons_append, List.nil_append, List.set_cons_zero, List.set_cons_succ, List.getElem?_cons_zero, List.getElem?_cons_succ, List.length_set, ↓reduceIte, if_true, if_false, ite_self, List.replicate, List.take_succ_cons, List.take_zero, List.drop_succ_cons, List.drop_zero, List.flatten_cons, List.flatten_nil, Int.reduceToNat, List.isEmpty_cons, List.isEmpty_nil, Nat.reduceAdd, Nat.reduceSub, Nat.reduceLT, Nat.reduceLeDiff, Nat.reduceEqDiff, Int.cast_ofNat_Int, not_true_eq_false, not_false_eq_true, Int.reduceAdd, Int.reduceSub, Int.reduceMul, Int.reduceLT, Int.reduceLE, Int.reduceEq, Int.reduceNe, Int.reduceNeg, Int.zero_add, ne_eq, id, wipeE, lcL_nil, eq_self, and_true, true_and, D.int.injEq, D.bl.injEq, ofS_eq, String.reduceEq, $xs,*])

theorem leP_tr (a b c : Int × Int) (h1 : leP a b = true) (h2 : leP b c = true) : leP a c = true := by
  unfold leP at *
  simp only [decide_eq_true_eq] at *
  omega
theorem leP_to (a b : Int × Int) : (leP a b || leP b a) = true := by
  unfold leP
  simp only [Bool.or_eq_true, decide_eq_true_eq]
  omega
theorem sortP_pm (ps : List (Int × Int)) : (sortP ps).Perm ps := List.mergeSort_perm ps leP
theorem sortP_pw (ps : List (Int × Int)) : (sortP ps).Pairwise fun a b => leP a b = true := List.pairwise_mergeSort leP_tr leP_to ps
theorem rise_of : ∀ {ts : List (Int × Int)} {a : Int}, (ts.map (·.1)).Nodup → ts.Pairwise (fun a b => leP a b = true) → (∀ t ∈ ts, a < t.1 ∧ t.1 ≤ 143999999 ∧ -840 ≤ t.2 ∧ t.2 ≤ 840) → Rise a ts
  | [], _, _, _, _ => trivial
  | t :: r, a, hn, hp, h => by
    rw [List.map_cons, List.nodup_cons] at hn
    rw [List.pairwise_cons] at hp
    obtain ⟨h1, h2, h3, h4⟩ := h t List.mem_cons_self
    refine ⟨h1, h2, h3, h4, rise_of hn.2 hp.2 fun u hu => ?_⟩
    obtain ⟨_, g2, g3, g4⟩ := h u (List.mem_cons_of_mem _ hu)
    have hl := hp.1 u hu
    have hne : t.1 ≠ u.1 := fun e => hn.1 (by rw [e]; exact List.mem_map_of_mem hu)
    unfold leP at hl
    rw [decide_eq_true_eq] at hl
    exact ⟨by omega, g2, g3, g4⟩
/-- turns as they come -/
structure Trn (ts : List (Int × Int)) : Prop where
  nd : (ts.map (·.1)).Nodup
  bd : ∀ t ∈ ts, -1 < t.1 ∧ t.1 ≤ 143999999 ∧ -840 ≤ t.2 ∧ t.2 ≤ 840
  z : ∃ o, (0, o) ∈ ts
theorem Trn.clk {ts : List (Int × Int)} (h : Trn ts) (hl : ts.length ≤ 40) : Clk (sortP ts) := by
  have hp := sortP_pm ts
  have hr : Rise (-1) (sortP ts) := rise_of ((hp.map _).nodup_iff.mpr h.nd) (sortP_pw ts) fun t ht => h.bd t (hp.mem_iff.mp ht)
  refine ⟨hr, ?_, by rw [hp.length_eq]; exact hl⟩
  obtain ⟨o, ho⟩ := h.z
  have hm := hp.mem_iff.mpr ho
  cases hs : sortP ts with
  | nil => rw [hs] at hm; cases hm
  | cons t r =>
    rw [hs] at hm hr
    rcases List.mem_cons.mp hm with rfl | hm
    · exact ⟨o, r, rfl⟩
    · exfalso
      have hb := h.bd t (hp.mem_iff.mp (by rw [hs]; exact List.mem_cons_self))
      have hpw := sortP_pw ts
      have hnd := (hp.map (·.1)).nodup_iff.mpr h.nd
      rw [hs] at hpw hnd
      rw [List.pairwise_cons] at hpw
      rw [List.map_cons, List.nodup_cons] at hnd
      have hl := hpw.1 _ hm
      have hne : t.1 ≠ 0 := fun e => hnd.1 (by rw [e]; exact List.mem_map_of_mem (f := (·.1)) hm)
      unfold leP at hl
      simp only [decide_eq_true_eq] at hl
      omega
end G

namespace G.C
def stepO (m : Int) (f : Int) (t : Int × Int) : Int := if t.1 ≤ m then t.2 else f
def offAt (ts : List (Int × Int)) (m : Int) : Int := ts.foldl (stepO m) 0
def loc (ts : List (Int × Int)) (m : Int) : Int := m + offAt ts m
def segs : List (Int × Int) → List (Int × Int × Int)
  | [] => []
  | [t] => [(t.1, 144000000, t.2)]
  | t :: u :: r => (t.1, u.1, t.2) :: segs (u :: r)
def cfits (t : Int) (s : Int × Int × Int) : Bool := decide (s.1 ≤ t - s.2.2) && decide (t - s.2.2 < s.2.1)
def comes (ts : List (Int × Int)) (t : Int) : List Int := ((segs ts).filter (cfits t)).map fun s => t - s.2.2
def ends (ts : List (Int × Int)) : List Int := (ts.drop 1).map (·.1) ++ [144000000]
end G.C

namespace G
open PySem L2 C
local macro_rules
  | `(tactic| simp_arith only [$xs,*]) => `(tactic| simp -implicitDefEqProofs (disch := first | assumption | omega | (simp only [List.length_cons, List.length_nil, List.length_append, List.length_map, List.length_set, List.length_take, List.length_drop, List.length_reverse, rangeD_len, zipD_len, enumD_len] <;> omega)) only [x_ok, at0, at1, at2, at3, at4, at5, x_dict, k_dict, x_pairsN, x_pairsC, k_p1, k_p2, k_p3i, k_p3s, cut_ns, cut_sn, cut_ss, sl_L, sl_F, sl_T, sl_S, x_exc, slotV_v, slotO_v, slotO_o, x_var, x_own, x_c, x_bin, k_bin1, k_bin2, x_neg, k_neg, x_tup, k_tup, x_lst, k_lst, x_nCat, k_cat1, k_cat2, x_nRep, k_rep1, k_rep2, x_frz, k_frz, x_nil, x_cons, k_cons1, k_cons2, x_val, k_val, tr_bl, tr_non, tr_int, tr_lst, tr_tup, tr_frl, tr_str, x_and, x_or, x_not, k_and, k_or, k_not, x_tT, x_ifE, k_ifE, x_andV, x_orV, x_notV, k_andV, k_orV, k_notV, x_chain, k_ch1, k_ch2, k_ch3, x_call, x_callN, k_call, x_opt, k_some, x_isi, k_isi, x_oNone, x_oSome, k_oSome, x_nSl, k_nsl1, k_nsl2, k_nsl3L, k_nsl3F, x_sl, k_sl1, k_sl2, k_sl3, x_rev, k_rev, k_revT, x_fn, k_fn, x_fnB, k_fnB, x_tStill, k_stB, x_eStill, envB_t, envB_f, envB_n, envB_e, frzB_u, frzB_o, frzB_v, frzB_i, frzB_b, frzB_s, frzB_non, frzB_t, frzB_l, k_nolB, k_nolI, k_nolS, k_nolN, x_seq, k_seqL, k_seqT, k_seqF, k_seqS, x_rng1, k_rng1, x_rng2, k_rng2a, k_rng2b, x_enum, k_enum, k_enumT, x_zip, k_zipL, k_zipT, k_zipM, k_zipN, x_lc, k_lc, x_sNil, x_sSeq, k_sqn, k_sqr, k_sqb, k_sqc, k_sqx, x_sExpr, k_expr, x_sRet, k_ret, x_sRetN, x_sRetO, k_retO, x_sRetL, k_retL, x_nFn, k_fnN, k_sqo, k_turnO, k_wtO, x_runN, k_runO, k_runOX, x_sBrk, x_sCnt, x_sSet, k_set, x_sOwn, k_own, tg_some, x_sTg, k_tg, gN_ok, gT_t, gTs_n, gTs_c, x_sIf, k_if, x_sFor, k_for, x_sWhile, x_sFrz, frzE_eq, frz_o, frz_v, frz_u, slotL_o, k_mod, x_modE, x_withO, x_sApp, k_appL, k_app, hApp_ok, x_sSlA, k_slAL, k_slA, hAll_ok, x_sIns, k_insL, k_ins1, k_ins2, hIns_ok, x_sRevO, k_revO, x_sClrO, k_clrO, x_sExt, k_extL, k_ext, hExt_ok, x_sSetIx, k_setIxL, k_setIx1, k_setIx2, k_putK, x_sPut, k_put1, k_put2, k_put3, x_sPar, k_par, x_sPar3, k_par3, x_run, k_runN, k_runR, k_runX, k_x, q_add, q_sub, q_addBI, q_addIB, q_subBI, q_subIB, p_strB, p_strS, tI_t, tI_f, q_mul, q_rep, q_div, q_mod, q_lt, q_le, q_gt, q_ge, q_eq, q_ne, q_is, q_isn, q_isB, q_isnB, q_isnI, x_idx, k_idx1, k_idx2, q_catL, q_catT, q_catS, isNon_non, isNon_int, isNon_bl, isNon_str, isNon_tup, isNon_lst, p_divmod, p_lenL, p_lenT, p_lenF, p_lenS, p_intB, p_intI, p_max2, p_min2, p_tupL, p_tupT, p_lstL, p_lstT, p_lstF, is_intI, is_intB, is_intS, is_intN, is_intT, is_intL, is_blI, is_blB, is_blS, is_blN, is_blT, is_blL, is_strI, is_strB, is_strS, is_strN, is_strT, is_strL, is_tupI, is_tupB, is_tupS, is_tupN, is_tupT, is_tupL, is_lstI, is_lstB, is_lstS, is_lstN, is_lstT, is_lstL, opIx_lst, opIx_tup, opIx_frl, k_midN, k_midC, k_midB, k_midR, k_midO, k_midX, k_turnN, k_turnC, k_turnB, k_turnR, k_turnX, k_wtN, k_wtC, k_wtB, k_wtR, k_wtX, k_wc, k_le, frzE_eq, turn_eq, turnC_eq, k_le, forL_nil, lcL_nil, startE, decide_eq_true_eq, decide_eq_false_iff_not, decide_true, decide_false, Bool.not_eq_true', Bool.not_eq_eq_eq_not, Bool.not_true, Bool.not_false, Bool.true_eq_false, Bool.false_eq_true, Bool.not_not, Option.bind_some, Option.map_some, List.map_cons, List.map_nil, List.length_cons, List.length_nil, List.cons_append, List.nil_append, List.set_cons_zero, List.set_cons_succ, List.getElem?_cons_zero, List.getElem?_cons_succ, List.length_set, ↓reduceIte, if_true, if_false, ite_self, List.replicate, List.take_succ_cons, List.take_zero, List.drop_succ_cons, List.drop_zero, List.flatten_cons, List.flatten_nil, Int.reduceToNat, List.isEmpty_cons, List.isEmpty_nil, Nat.reduceAdd, Nat.reduceSub, Nat.reduceLT, Nat.reduceLeDiff, Nat.reduceEqDiff, Int.cast_ofNat_Int, not_true_eq_false, not_false_eq_true, Int.reduceAdd, Int.reduceSub, Int.reduceMul, Int.reduceLT, Int.reduceLE, Int.reduceEq, Int.reduceNe, Int.reduceNeg, Int.zero_add, ne_eq, id, wipeE, lcL_nil, eq_self, and_true, true_and, D.int.injEq, D.bl.injEq, ofS_eq, String.reduceEq, $xs,*])
local macro_rules
  | `(tactic| simp_arith! only [$xs,*]) => `(tactic| simp -implicitDefEqProofs (disch := first | assumption | omega | (simp only [okd_i, okd_n, okd_b, okd_s, strOk_of, okd_t, okd_l, okdL_n, okdL_c, Bool.and_true, Bool.and_self, *]; done) | (simp only [List.length_cons, List.length_nil, List.length_append, List.length_map, List.length_set, List.length_take, List.length_drop, List.length_reverse, rangeD_len, zipD_len, enumD_len] <;> omega)) only [x_ok, at0, at1, at2, at3, at4, at5, x_dict, k_dict, x_pairsN, x_pairsC, k_p1, k_p2, k_p3i, k_p3s, cut_ns, cut_sn, cut_ss, sl_L, sl_F, sl_T, sl_S, x_exc, slotV_v, slotO_v, slotO_o, x_var, x_own, x_c, x_bin, k_bin1, k_bin2, x_neg, k_neg, x_tup, k_tup, x_lst, k_lst, x_nCat, k_cat1, k_cat2, x_nRep, k_rep1, k_rep2, x_frz, k_frz, x_nil, x_cons, k_cons1, k_cons2, x_val, k_val, tr_bl, tr_non, tr_int, tr_lst, tr_tup, tr_frl, tr_str, x_and, x_or, x_not, k_and, k_or, k_not, x_tT, x_ifE, k_ifE, x_andV, x_orV, x_notV, k_andV, k_orV, k_notV, x_chain, k_ch1, k_ch2, k_ch3, x_call, x_callN, k_call, x_opt, k_some, x_isi, k_isi, x_oNone, x_oSome, k_oSome, x_nSl, k_nsl1, k_nsl2, k_nsl3L, k_nsl3F, x_sl, k_sl1, k_sl2, k_sl3, x_rev, k_rev, k_revT, x_fn, k_fn, x_fnB, k_fnB, x_tStill, k_stB, x_eStill, envB_t, envB_f, envB_n, envB_e, frzB_u, frzB_o, frzB_v, frzB_i, frzB_b, frzB_s, frzB_non, frzB_t, frzB_l, k_nolB, k_nolI, k_nolS, k_nolN, x_seq, k_seqL, k_seqT, k_seqF, k_seqS, x_rng1, k_rng1, x_rng2, k_rng2a, k_rng2b, x_enum, k_enum, k_enumT, x_zip, k_zipL, k_zipT, k_zipM, k_zipN, x_lc, k_lc, x_sNil, x_sSeq, k_sqn, k_sqr, k_sqb, k_sqc, k_sqx, x_sExpr, k_expr, x_sRet, k_ret, x_sRetN, x_sRetO, k_retO, x_sRetL, k_retL, x_nFn, k_fnN, k_sqo, k_turnO, k_wtO, x_runN, k_runO, k_runOX, x_sBrk, x_sCnt, x_sSet, k_set, x_sOwn, k_own, tg_some, x_sTg, k_tg, gN_ok, gT_t, gTs_n, gTs_c, x_sIf, k_if, x_sFor, k_for, x_sWhile, x_sFrz, frzE_eq, frz_o, frz_v, frz_u, slotL_o, k_mod, x_modE, x_withO, x_sApp, k_appL, k_app, hApp_ok, x_sSlA, k_slAL, k_slA, hAll_ok, x_sIns, k_insL, k_ins1, k_ins2, hIns_ok, x_sRevO, k_revO, x_sClrO, k_clrO, x_sExt, k_extL, k_ext, hExt_ok, x_sSetIx, k_setIxL, k_setIx1, k_setIx2, k_putK, x_sPut, k_put1, k_put2, k_put3, x_sPar, k_par, x_sPar3, k_par3, x_run, k_runN, k_runR, k_runX, k_x, q_add, q_sub, q_addBI, q_addIB, q_subBI, q_subIB, p_strB, p_strS, tI_t, tI_f, q_mul, q_rep, q_div, q_mod, q_lt, q_le, q_gt, q_ge, q_eq, q_ne, q_is, q_isn, q_isB, q_isnB, q_isnI, x_idx, k_idx1, k_idx2, q_catL, q_catT, q_catS, isNon_non, isNon_int, isNon_bl, isNon_str, isNon_tup, isNon_lst, p_divmod, p_lenL, p_lenT, p_lenF, p_lenS, p_intB, p_intI, p_max2, p_min2, p_tupL, p_tupT, p_lstL, p_lstT, p_lstF, is_intI, is_intB, is_intS, is_intN, is_intT, is_intL, is_blI, is_blB, is_blS, is_blN, is_blT, is_blL, is_strI, is_strB, is_strS, is_strN, is_strT, is_strL, is_tupI, is_tupB, is_tupS, is_tupN, is_tupT, is_tupL, is_lstI, is_lstB, is_lstS, is_lstN, is_lstT, is_lstL, opIx_lst, opIx_tup, opIx_frl, k_midN, k_midC, k_midB, k_midR, k_midO, k_midX, k_turnN, k_turnC, k_turnB, k_turnR, k_turnX, k_wtN, k_wtC, k_wtB, k_wtR, k_wtX, k_wc, k_le, frzE_eq, turn_eq, turnC_eq, k_le, forL_nil, lcL_nil, startE, decide_eq_true_eq, decide_eq_false_iff_not, decide_true, decide_false, Bool.not_eq_true', Bool.not_eq_eq_eq_not, Bool.not_true, Bool.not_false, Bool.true_eq_false, Bool.false_eq_true, Bool.not_not, Option.bind_some, Option.map_some, List.map_cons, List.map_nil, List.length_cons, List.length_nil, List.cons_append, List.nil_append, List.set_cons_zero, List.set_cons_succ, List.getElem?_cons_zero, List.getElem?_cons_succ, List.length_set, ↓reduceIte, if_true, if_false, ite_self, List.replicate, List.take_succ_cons, List.take_zero, List.drop_succ_cons, List.drop_zero, List.flatten_cons, List.flatten_nil, Int.reduceToNat, List.isEmpty_cons, List.isEmpty_nil, Nat.reduceAdd, Nat.reduceSub, Nat.reduceLT, Nat.reduceLeDiff, Nat.reduceEqDiff, Int.cast_ofNat_Int, not_true_eq_false, not_false_eq_true, Int.reduceAdd, Int.reduceSub, Int.reduceMul, Int.reduceLT, Int.reduceLE, Int.reduceEq, Int.reduceNe, Int.reduceNeg, Int.zero_add, ne_eq, id, wipeE, lcL_nil, eq_self, and_true, true_and, D.int.injEq, D.bl.injEq, ofS_eq, String.reduceEq, q_eqD, q_neD, q_inT, q_inL, q_ninT, q_ninL, beq_self_eq_true, List.any_cons, List.any_nil, Bool.or_false, Bool.false_or, Bool.or_true, Bool.true_or, deq_nb, deq_ni, deq_ns, deq_nt, deq_nl, deq_bn, deq_bs, deq_bt, deq_bl, deq_in, deq_is, deq_it, deq_il, deq_sn, deq_sb, deq_si, deq_st, deq_sl, deq_tn, deq_tb, deq_ti, deq_ts, deq_tl, deq_ln, deq_lb, deq_li, deq_ls, deq_lt, deq_nn, deq_bb, deq_ii, deq_ss, deq_tt, deq_ll, deqL_nn, deqL_cc, deqL_nc, deqL_cn, okd_i, okd_n, okd_b, okd_t, okd_l, okdL_n, okdL_c, Bool.and_true, Bool.true_and, Bool.and_false, Bool.false_and, $xs,*])

def segD (s : Int × Int × Int) : D := .tup [.int s.1, .int s.2.1, .int s.2.2]
def passed (ts : List (Int × Int)) (t : Int) : List (Int × Int) → Option Int
  | [] => none
  | u :: r => if loc ts (u.1 - 1) < t ∧ t < u.1 + u.2 then some u.1 else passed ts t r
def optD : Option Int → D
  | none => .non
  | some i => .int i
/-- the least of some -/
def least : List Int → Int
  | [] => 0
  | x :: r => r.foldl (fun m y => if y < m then y else m) x
def momOf (ts : List (Int × Int)) (t : Int) : Option Int := if comes ts t = [] then passed ts t (ts.drop 1) else some (least (comes ts t))
end G

namespace G
open PySem L2 C
local macro_rules
  | `(tactic| simp_arith only [$xs,*]) => `(tactic| simp -implicitDefEqProofs (disch := first | assumption | omega | (simp only [List.length_cons, List.length_nil, List.length_append, List.length_map, List.length_set, List.length_take, List.length_drop, List.length_reverse, rangeD_len, zipD_len, enumD_len] <;> omega)) only [x_ok, at0, at1, at2, at3, at4, at5, x_dict, k_dict, x_pairsN, x_pairsC, k_p1, k_p2, k_p3i, k_p3s, cut_ns, cut_sn, cut_ss, sl_L, sl_F, sl_T, sl_S, x_exc, slotV_v, slotO_v, slotO_o, x_var, x_own, x_c, x_bin, k_bin1, k_bin2, x_neg, k_neg, x_tup, k_tup, x_lst, k_lst, x_nCat, k_cat1, k_cat2, x_nRep, k_rep1, k_rep2, x_frz, k_frz, x_nil, x_cons, k_cons1, k_cons2, x_val, k_val, tr_bl, tr_non, tr_int, tr_lst, tr_tup, tr_frl, tr_str, x_and, x_or, x_not, k_and, k_or, k_not, x_tT, x_ifE, k_ifE, x_andV, x_orV, x_notV, k_andV, k_orV, k_notV, x_chain, k_ch1, k_ch2, k_ch3, x_call, x_callN, k_call, x_opt, k_some, x_isi, k_isi, x_oNone, x_oSome, k_oSome, x_nSl, k_nsl1, k_nsl2, k_nsl3L, k_nsl3F, x_sl, k_sl1, k_sl2, k_sl3, x_rev, k_rev, k_revT, x_fn, k_fn, x_fnB, k_fnB, x_tStill, k_stB, x_eStill, envB_t, envB_f, envB_n, envB_e, frzB_u, frzB_o, frzB_v, frzB_i, frzB_b, frzB_s, frzB_non, frzB_t, frzB_l, k_nolB, k_nolI, k_nolS, k_nolN, x_seq, k_seqL, k_seqT, k_seqF, k_seqS, x_rng1, k_rng1, x_rng2, k_rng2a, k_rng2b, x_enum, k_enum, k_enumT, x_zip, k_zipL, k_zipT, k_zipM, k_zipN, x_lc, k_lc, x_sNil, x_sSeq, k_sqn, k_sqr, k_sqb, k_sqc, k_sqx, x_sExpr, k_expr, x_sRet, k_ret, x_sRetN, x_sRetO, k_retO, x_sRetL, k_retL, x_nFn, k_fnN, k_sqo, k_turnO, k_wtO, x_runN, k_runO, k_runOX, x_sBrk, x_sCnt, x_sSet, k_set, x_sOwn, k_own, tg_some, x_sTg, k_tg, gN_ok, gT_t, gTs_n, gTs_c, x_sIf, k_if, x_sFor, k_for, x_sWhile, x_sFrz, frzE_eq, frz_o, frz_v, frz_u, slotL_o, k_mod, x_modE, x_withO, x_sApp, k_appL, k_app, hApp_ok, x_sSlA, k_slAL, k_slA, hAll_ok, x_sIns, k_insL, k_ins1, k_ins2, hIns_ok, x_sRevO, k_revO, x_sClrO, k_clrO, x_sExt, k_extL, k_ext, hExt_ok, x_sSetIx, k_setIxL, k_setIx1, k_setIx2, k_putK, x_sPut, k_put1, k_put2, k_put3, x_sPar, k_par, x_sPar3, k_par3, x_run, k_runN, k_runR, k_runX, k_x, q_add, q_sub, q_addBI, q_addIB, q_subBI, q_subIB, p_strB, p_strS, tI_t, tI_f, q_mul, q_rep, q_div, q_mod, q_lt, q_le, q_gt, q_ge, q_eq, q_ne, q_is, q_isn, q_isB, q_isnB, q_isnI, x_idx, k_idx1, k_idx2, q_catL, q_catT, q_catS, isNon_non, isNon_int, isNon_bl, isNon_str, isNon_tup, isNon_lst, p_divmod, p_lenL, p_lenT, p_lenF, p_lenS, p_intB, p_intI, p_max2, p_min2, p_tupL, p_tupT, p_lstL, p_lstT, p_lstF, is_intI, is_intB, is_intS, is_intN, is_intT, is_intL, is_blI, is_blB, is_blS, is_blN, is_blT, is_blL, is_strI, is_strB, is_strS, is_strN, is_strT, is_strL, is_tupI, is_tupB, is_tupS, is_tupN, is_tupT, is_tupL, is_lstI, is_lstB, is_lstS, is_lstN, is_lstT, is_lstL, opIx_lst, opIx_tup, opIx_frl, k_midN, k_midC, k_midB, k_midR, k_midO, k_midX, k_turnN, k_turnC, k_turnB, k_turnR, k_turnX, k_wtN, k_wtC, k_wtB, k_wtR, k_wtX, k_wc, k_le, frzE_eq, turn_eq, turnC_eq, k_le, forL_nil, lcL_nil, startE, decide_eq_true_eq, decide_eq_false_iff_not, decide_true, decide_false, Bool.not_eq_true', Bool.not_eq_eq_eq_not, Bool.not_true, Bool.not_false, Bool.true_eq_false, Bool.false_eq_true, Bool.not_not, Option.bind_some, Option.map_some, List.map_cons, List.map_nil, List.length_cons, List.length_nil, List.cons_append, List.nil_append, List.set_cons_zero, List.set_cons_succ, List.getElem?_cons_zero, List.getElem?_cons_succ, List.length_set, ↓reduceIte, if_true, if_false, ite_self, List.replicate, List.take_succ_cons, List.take_zero, List.drop_succ_cons, List.drop_zero, List.flatten_cons, List.flatten_nil, Int.reduceToNat, List.isEmpty_cons, List.isEmpty_nil, Nat.reduceAdd, Nat.reduceSub, Nat.reduceLT, Nat.reduceLeDiff, Nat.reduceEqDiff, Int.cast_ofNat_Int, not_true_eq_false, not_false_eq_true, Int.reduceAdd, Int.reduceSub, Int.reduceMul, Int.reduceLT, Int.reduceLE, Int.reduceEq, Int.reduceNe, Int.reduceNeg, Int.zero_add, ne_eq, id, wipeE, lcL_nil, eq_self, and_true, true_and, D.int.injEq, D.bl.injEq, ofS_eq, String.reduceEq, $xs,*])
local macro_rules
  | `(tactic| simp_arith! only [$xs,*]) => `(tactic| simp -implicitDefEqProofs (disch := first | assumption | omega | (simp only [okd_i, okd_n, okd_b, okd_s, strOk_of, okd_t, okd_l, okdL_n, okdL_c, Bool.and_true, Bool.and_self, *]; done) | (simp only [List.length_cons, List.length_nil, List.length_append, List.length_map, List.length_set, List.length_take, List.length_drop, List.length_reverse, rangeD_len, zipD_len, enumD_len] <;> omega)) only [x_ok, at0, at1, at2, at3, at4, at5, x_dict, k_dict, x_pairsN, x_pairsC, k_p1, k_p2, k_p3i, k_p3s, cut_ns, cut_sn, cut_ss, sl_L, sl_F, sl_T, sl_S, x_exc, slotV_v, slotO_v, slotO_o, x_var, x_own, x_c, x_bin, k_bin1, k_bin2, x_neg, k_neg, x_tup, k_tup, x_lst, k_lst, x_nCat, k_cat1, k_cat2, x_nRep, k_rep1, k_rep2, x_frz, k_frz, x_nil, x_cons, k_cons1, k_cons2, x_val, k_val, tr_bl, tr_non, tr_int, tr_lst, tr_tup, tr_frl, tr_str, x_and, x_or, x_not, k_and, k_or, k_not, x_tT, x_ifE, k_ifE, x_andV, x_orV, x_notV, k_andV, k_orV, k_notV, x_chain, k_ch1, k_ch2, k_ch3, x_call, x_callN, k_call, x_opt, k_some, x_isi, k_isi, x_oNone, x_oSome, k_oSome, x_nSl, k_nsl1, k_nsl2, k_nsl3L, k_nsl3F, x_sl, k_sl1, k_sl2, k_sl3, x_rev, k_rev, k_revT, x_fn, k_fn, x_fnB, k_fnB, x_tStill, k_stB, x_eStill, envB_t, envB_f, envB_n, envB_e, frzB_u, frzB_o, frzB_v, frzB_i, frzB_b, frzB_s, frzB_non, frzB_t, frzB_l, k_nolB, k_nolI, k_nolS, k_nolN, x_seq, k_seqL, k_seqT, k_seqF, k_seqS, x_rng1, k_rng1, x_rng2, k_rng2a, k_rng2b, x_enum, k_enum, k_enumT, x_zip, k_zipL, k_zipT, k_zipM, k_zipN, x_lc, k_lc, x_sNil, x_sSeq, k_sqn, k_sqr, k_sqb, k_sqc, k_sqx, x_sExpr, k_expr, x_sRet, k_ret, x_sRetN, x_sRetO, k_retO, x_sRetL, k_retL, x_nFn, k_fnN, k_sqo, k_turnO, k_wtO, x_runN, k_runO, k_runOX, x_sBrk, x_sCnt, x_sSet, k_set, x_sOwn, k_own, tg_some, x_sTg, k_tg, gN_ok, gT_t, gTs_n, gTs_c, x_sIf, k_if, x_sFor, k_for, x_sWhile, x_sFrz, frzE_eq, frz_o, frz_v, frz_u, slotL_o, k_mod, x_modE, x_withO, x_sApp, k_appL, k_app, hApp_ok, x_sSlA, k_slAL, k_slA, hAll_ok, x_sIns, k_insL, k_ins1, k_ins2, hIns_ok, x_sRevO, k_revO, x_sClrO, k_clrO, x_sExt, k_extL, k_ext, hExt_ok, x_sSetIx, k_setIxL, k_setIx1, k_setIx2, k_putK, x_sPut, k_put1, k_put2, k_put3, x_sPar, k_par, x_sPar3, k_par3, x_run, k_runN, k_runR, k_runX, k_x, q_add, q_sub, q_addBI, q_addIB, q_subBI, q_subIB, p_strB, p_strS, tI_t, tI_f, q_mul, q_rep, q_div, q_mod, q_lt, q_le, q_gt, q_ge, q_eq, q_ne, q_is, q_isn, q_isB, q_isnB, q_isnI, x_idx, k_idx1, k_idx2, q_catL, q_catT, q_catS, isNon_non, isNon_int, isNon_bl, isNon_str, isNon_tup, isNon_lst, p_divmod, p_lenL, p_lenT, p_lenF, p_lenS, p_intB, p_intI, p_max2, p_min2, p_tupL, p_tupT, p_lstL, p_lstT, p_lstF, is_intI, is_intB, is_intS, is_intN, is_intT, is_intL, is_blI, is_blB, is_blS, is_blN, is_blT, is_blL, is_strI, is_strB, is_strS, is_strN, is_strT, is_strL, is_tupI, is_tupB, is_tupS, is_tupN, is_tupT, is_tupL, is_lstI, is_lstB, is_lstS, is_lstN, is_lstT, is_lstL, opIx_lst, opIx_tup, opIx_frl, k_midN, k_midC, k_midB, k_midR, k_midO, k_midX, k_turnN, k_turnC, k_turnB, k_turnR, k_turnX, k_wtN, k_wtC, k_wtB, k_wtR, k_wtX, k_wc, k_le, frzE_eq, turn_eq, turnC_eq, k_le, forL_nil, lcL_nil, startE, decide_eq_true_eq, decide_eq_false_iff_not, decide_true, decide_false, Bool.not_eq_true', Bool.not_eq_eq_eq_not, Bool.not_true, Bool.not_false, Bool.true_eq_false, Bool.false_eq_true, Bool.not_not, Option.bind_some, Option.map_some, List.map_cons, List.map_nil, List.length_cons, List.length_nil, List.cons_append, List.nil_append, List.set_cons_zero, List.set_cons_succ, List.getElem?_cons_zero, List.getElem?_cons_succ, List.length_set, ↓reduceIte, if_true, if_false, ite_self, List.replicate, List.take_succ_cons, List.take_zero, List.drop_succ_cons, List.drop_zero, List.flatten_cons, List.flatten_nil, Int.reduceToNat, List.isEmpty_cons, List.isEmpty_nil, Nat.reduceAdd, Nat.reduceSub, Nat.reduceLT, Nat.reduceLeDiff, Nat.reduceEqDiff, Int.cast_ofNat_Int, not_true_eq_false, not_false_eq_true, Int.reduceAdd, Int.reduceSub, Int.reduceMul, Int.reduceLT, Int.reduceLE, Int.reduceEq, Int.reduceNe, Int.reduceNeg, Int.zero_add, ne_eq, id, wipeE, lcL_nil, eq_self, and_true, true_and, D.int.injEq, D.bl.injEq, ofS_eq, String.reduceEq, q_eqD, q_neD, q_inT, q_inL, q_ninT, q_ninL, beq_self_eq_true, List.any_cons, List.any_nil, Bool.or_false, Bool.false_or, Bool.or_true, Bool.true_or, deq_nb, deq_ni, deq_ns, deq_nt, deq_nl, deq_bn, deq_bs, deq_bt, deq_bl, deq_in, deq_is, deq_it, deq_il, deq_sn, deq_sb, deq_si, deq_st, deq_sl, deq_tn, deq_tb, deq_ti, deq_ts, deq_tl, deq_ln, deq_lb, deq_li, deq_ls, deq_lt, deq_nn, deq_bb, deq_ii, deq_ss, deq_tt, deq_ll, deqL_nn, deqL_cc, deqL_nc, deqL_cn, okd_i, okd_n, okd_b, okd_t, okd_l, okdL_n, okdL_c, Bool.and_true, Bool.true_and, Bool.and_false, Bool.false_and, $xs,*])

end G

set_option maxHeartbeats 4000000
namespace G
open PySem L2 C
local macro_rules
  | `(tactic| simp_arith only [$xs,*]) => `(tactic| simp -implicitDefEqProofs (disch := first | assumption | omega | (simp only [List.length_cons, List.length_nil, List.length_append, List.length_map, List.length_set, List.length_take, List.length_drop, List.length_reverse, rangeD_len, zipD_len, enumD_len] <;> omega)) only [x_ok, at0, at1, at2, at3, at4, at5, x_dict, k_dict, x_pairsN, x_pairsC, k_p1, k_p2, k_p3i, k_p3s, cut_ns, cut_sn, cut_ss, sl_L, sl_F, sl_T, sl_S, x_exc, slotV_v, slotO_v, slotO_o, x_var, x_own, x_c, x_bin, k_bin1, k_bin2, x_neg, k_neg, x_tup, k_tup, x_lst, k_lst, x_nCat, k_cat1, k_cat2, x_nRep, k_rep1, k_rep2, x_frz, k_frz, x_nil, x_cons, k_cons1, k_cons2, x_val, k_val, tr_bl, tr_non, tr_int, tr_lst, tr_tup, tr_frl, tr_str, x_and, x_or, x_not, k_and, k_or, k_not, x_tT, x_ifE, k_ifE, x_andV, x_orV, x_notV, k_andV, k_orV, k_notV, x_chain, k_ch1, k_ch2, k_ch3, x_call, x_callN, k_call, x_opt, k_some, x_isi, k_isi, x_oNone, x_oSome, k_oSome, x_nSl, k_nsl1, k_nsl2, k_nsl3L, k_nsl3F, x_sl, k_sl1, k_sl2, k_sl3, x_rev, k_rev, k_revT, x_fn, k_fn, x_fnB, k_fnB, x_tStill, k_stB, x_eStill, envB_t, envB_f, envB_n, envB_e, frzB_u, frzB_o, frzB_v, frzB_i, frzB_b, frzB_s, frzB_non, frzB_t, frzB_l, k_nolB, k_nolI, k_nolS, k_nolN, x_seq, k_seqL, k_seqT, k_seqF, k_seqS, x_rng1, k_rng1, x_rng2, k_rng2a, k_rng2b, x_enum, k_enum, k_enumT, x_zip, k_zipL, k_zipT, k_zipM, k_zipN, x_lc, k_lc, x_sNil, x_sSeq, k_sqn, k_sqr, k_sqb, k_sqc, k_sqx, x_sExpr, k_expr, x_sRet, k_ret, x_sRetN, x_sRetO, k_retO, x_sRetL, k_retL, x_nFn, k_fnN, k_sqo, k_turnO, k_wtO, x_runN, k_runO, k_runOX, x_sBrk, x_sCnt, x_sSet, k_set, x_sOwn, k_own, tg_some, x_sTg, k_tg, gN_ok, gT_t, gTs_n, gTs_c, x_sIf, k_if, x_sFor, k_for, x_sWhile, x_sFrz, frzE_eq, frz_o, frz_v, frz_u, slotL_o, k_mod, x_modE, x_withO, x_sApp, k_appL, k_app, hApp_ok, x_sSlA, k_slAL, k_slA, hAll_ok, x_sIns, k_insL, k_ins1, k_ins2, hIns_ok, x_sRevO, k_revO, x_sClrO, k_clrO, x_sExt, k_extL, k_ext, hExt_ok, x_sSetIx, k_setIxL, k_setIx1, k_setIx2, k_putK, x_sPut, k_put1, k_put2, k_put3, x_sPar, k_par, x_sPar3, k_par3, x_run, k_runN, k_runR, k_runX, k_x, q_add, q_sub, q_addBI, q_addIB, q_subBI, q_subIB, p_strB, p_strS, tI_t, tI_f, q_mul, q_rep, q_div, q_mod, q_lt, q_le, q_gt, q_ge, q_eq, q_ne, q_is, q_isn, q_isB, q_isnB, q_isnI, x_idx, k_idx1, k_idx2, q_catL, q_catT, q_catS, isNon_non, isNon_int, isNon_bl, isNon_str, isNon_tup, isNon_lst, p_divmod, p_lenL, p_lenT, p_lenF, p_lenS, p_intB, p_intI, p_max2, p_min2, p_tupL, p_tupT, p_lstL, p_lstT, p_lstF, is_intI, is_intB, is_intS, is_intN, is_intT, is_intL, is_blI, is_blB, is_blS, is_blN, is_blT, is_blL, is_strI, is_strB, is_strS, is_strN, is_strT, is_strL, is_tupI, is_tupB, is_tupS, is_tupN, is_tupT, is_tupL, is_lstI, is_lstB, is_lstS, is_lstN, is_lstT, is_lstL, opIx_lst, opIx_tup, opIx_frl, k_midN, k_midC, k_midB, k_midR, k_midO, k_midX, k_turnN, k_turnC, k_turnB, k_turnR, k_turnX, k_wtN, k_wtC, k_wtB, k_wtR, k_wtX, k_wc, k_le, frzE_eq, turn_eq, turnC_eq, k_le, forL_nil, lcL_nil, startE, decide_eq_true_eq, decide_eq_false_iff_not, decide_true, decide_false, Bool.not_eq_true', Bool.not_eq_eq_eq_not, Bool.not_true, Bool.not_false, Bool.true_eq_false, Bool.false_eq_true, Bool.not_not, Option.bind_some, Option.map_some, List.map_cons, List.map_nil, List.length_cons, List.length_nil, List.cons_append, List.nil_append, List.set_cons_zero, List.set_cons_succ, List.getElem?_cons_zero, List.getElem?_cons_succ, List.length_set, ↓reduceIte, if_true, if_false, ite_self, List.replicate, List.take_succ_cons, List.take_zero, List.drop_succ_cons, List.drop_zero, List.flatten_cons, List.flatten_nil, Int.reduceToNat, List.isEmpty_cons, List.isEmpty_nil, Nat.reduceAdd, Nat.reduceSub, Nat.reduceLT, Nat.reduceLeDiff, Nat.reduceEqDiff, Int.cast_ofNat_Int, not_true_eq_false, not_false_eq_true, Int.reduceAdd, Int.reduceSub, Int.reduceMul, Int.reduceLT, Int.reduceLE, Int.reduceEq, Int.reduceNe, Int.reduceNeg, Int.zero_add, ne_eq, id, wipeE, lcL_nil, eq_self, and_true, true_and, D.int.injEq, D.bl.injEq, ofS_eq, String.reduceEq, $xs,*])
local macro_rules
  | `(tactic| simp_arith! only [$xs,*]) => `(tactic| simp -implicitDefEqProofs (disch := first | assumption | omega | (simp only [okd_i, okd_n, okd_b, okd_s, strOk_of, okd_t, okd_l, okdL_n, okdL_c, Bool.and_true, Bool.and_self, *]; done) | (simp only [List.length_cons, List.length_nil, List.length_append, List.length_map, List.length_set, List.length_take, List.length_drop, List.length_reverse, rangeD_len, zipD_len, enumD_len] <;> omega)) only [x_ok, at0, at1, at2, at3, at4, at5, x_dict, k_dict, x_pairsN, x_pairsC, k_p1, k_p2, k_p3i, k_p3s, cut_ns, cut_sn, cut_ss, sl_L, sl_F, sl_T, sl_S, x_exc, slotV_v, slotO_v, slotO_o, x_var, x_own, x_c, x_bin, k_bin1, k_bin2, x_neg, k_neg, x_tup, k_tup, x_lst, k_lst, x_nCat, k_cat1, k_cat2, x_nRep, k_rep1, k_rep2, x_frz, k_frz, x_nil, x_cons, k_cons1, k_cons2, x_val, k_val, tr_bl, tr_non, tr_int, tr_lst, tr_tup, tr_frl, tr_str, x_and, x_or, x_not, k_and, k_or, k_not, x_tT, x_ifE, k_ifE, x_andV, x_orV, x_notV, k_andV, k_orV, k_notV, x_chain, k_ch1, k_ch2, k_ch3, x_call, x_callN, k_call, x_opt, k_some, x_isi, k_isi, x_oNone, x_oSome, k_oSome, x_nSl, k_nsl1, k_nsl2, k_nsl3L, k_nsl3F, x_sl, k_sl1, k_sl2, k_sl3, x_rev, k_rev, k_revT, x_fn, k_fn, x_fnB, k_fnB, x_tStill, k_stB, x_eStill, envB_t, envB_f, envB_n, envB_e, frzB_u, frzB_o, frzB_v, frzB_i, frzB_b, frzB_s, frzB_non, frzB_t, frzB_l, k_nolB, k_nolI, k_nolS, k_nolN, x_seq, k_seqL, k_seqT, k_seqF, k_seqS, x_rng1, k_rng1, x_rng2, k_rng2a, k_rng2b, x_enum, k_enum, k_enumT, x_zip, k_zipL, k_zipT, k_zipM, k_zipN, x_lc, k_lc, x_sNil, x_sSeq, k_sqn, k_sqr, k_sqb, k_sqc, k_sqx, x_sExpr, k_expr, x_sRet, k_ret, x_sRetN, x_sRetO, k_retO, x_sRetL, k_retL, x_nFn, k_fnN, k_sqo, k_turnO, k_wtO, x_runN, k_runO, k_runOX, x_sBrk, x_sCnt, x_sSet, k_set, x_sOwn, k_own, tg_some, x_sTg, k_tg, gN_ok, gT_t, gTs_n, gTs_c, x_sIf, k_if, x_sFor, k_for, x_sWhile, x_sFrz, frzE_eq, frz_o, frz_v, frz_u, slotL_o, k_mod, x_modE, x_withO, x_sApp, k_appL, k_app, hApp_ok, x_sSlA, k_slAL, k_slA, hAll_ok, x_sIns, k_insL, k_ins1, k_ins2, hIns_ok, x_sRevO, k_revO, x_sClrO, k_clrO, x_sExt, k_extL, k_ext, hExt_ok, x_sSetIx, k_setIxL, k_setIx1, k_setIx2, k_putK, x_sPut, k_put1, k_put2, k_put3, x_sPar, k_par, x_sPar3, k_par3, x_run, k_runN, k_runR, k_runX, k_x, q_add, q_sub, q_addBI, q_addIB, q_subBI, q_subIB, p_strB, p_strS, tI_t, tI_f, q_mul, q_rep, q_div, q_mod, q_lt, q_le, q_gt, q_ge, q_eq, q_ne, q_is, q_isn, q_isB, q_isnB, q_isnI, x_idx, k_idx1, k_idx2, q_catL, q_catT, q_catS, isNon_non, isNon_int, isNon_bl, isNon_str, isNon_tup, isNon_lst, p_divmod, p_lenL, p_lenT, p_lenF, p_lenS, p_intB, p_intI, p_max2, p_min2, p_tupL, p_tupT, p_lstL, p_lstT, p_lstF, is_intI, is_intB, is_intS, is_intN, is_intT, is_intL, is_blI, is_blB, is_blS, is_blN, is_blT, is_blL, is_strI, is_strB, is_strS, is_strN, is_strT, is_strL, is_tupI, is_tupB, is_tupS, is_tupN, is_tupT, is_tupL, is_lstI, is_lstB, is_lstS, is_lstN, is_lstT, is_lstL, opIx_lst, opIx_tup, opIx_frl, k_midN, k_midC, k_midB, k_midR, k_midO, k_midX, k_turnN, k_turnC, k_turnB, k_turnR, k_turnX, k_wtN, k_wtC, k_wtB, k_wtR, k_wtX, k_wc, k_le, frzE_eq, turn_eq, turnC_eq, k_le, forL_nil, lcL_nil, startE, decide_eq_true_eq, decide_eq_false_iff_not, decide_true, decide_false, Bool.not_eq_true', Bool.not_eq_eq_eq_not, Bool.not_true, Bool.not_false, Bool.true_eq_false, Bool.false_eq_true, Bool.not_not, Option.bind_some, Option.map_some, List.map_cons, List.map_nil, List.length_cons, List.length_nil, List.cons_append, List.nil_append, List.set_cons_zero, List.set_cons_succ, List.getElem?_cons_zero, List.getElem?_cons_succ, List.length_set, ↓reduceIte, if_true, if_false, ite_self, List.replicate, List.take_succ_cons, List.take_zero, List.drop_succ_cons, List.drop_zero, List.flatten_cons, List.flatten_nil, Int.reduceToNat, List.isEmpty_cons, List.isEmpty_nil, Nat.reduceAdd, Nat.reduceSub, Nat.reduceLT, Nat.reduceLeDiff, Nat.reduceEqDiff, Int.cast_ofNat_Int, not_true_eq_false, not_false_eq_true, Int.reduceAdd, Int.reduceSub, Int.reduceMul, Int.reduceLT, Int.reduceLE, Int.reduceEq, Int.reduceNe, Int.reduceNeg, Int.zero_add, ne_eq, id, wipeE, lcL_nil, eq_self, and_true, true_and, D.int.injEq, D.bl.injEq, ofS_eq, String.reduceEq, q_eqD, q_neD, q_inT, q_inL, q_ninT, q_ninL, beq_self_eq_true, List.any_cons, List.any_nil, Bool.or_false, Bool.false_or, Bool.or_true, Bool.true_or, deq_nb, deq_ni, deq_ns, deq_nt, deq_nl, deq_bn, deq_bs, deq_bt, deq_bl, deq_in, deq_is, deq_it, deq_il, deq_sn, deq_sb, deq_si, deq_st, deq_sl, deq_tn, deq_tb, deq_ti, deq_ts, deq_tl, deq_ln, deq_lb, deq_li, deq_ls, deq_lt, deq_nn, deq_bb, deq_ii, deq_ss, deq_tt, deq_ll, deqL_nn, deqL_cc, deqL_nc, deqL_cn, okd_i, okd_n, okd_b, okd_t, okd_l, okdL_n, okdL_c, Bool.and_true, Bool.true_and, Bool.and_false, Bool.false_and, $xs,*])

def tellD (ts : List (Int × Int)) (r : Rul) : D := .tup [clockD ts, ruD r, .str "hall", .tup []]
def bodyD (r : Rul) (d : Int) : D := .tup [.int d, .int r.minute, .int r.length, .str "hall"]
def meetD (r : Rul) (d : Int) : D := .tup [.int d, bodyD r d]
noncomputable def momI (ts : List (Int × Int)) (r : Rul) (d : Int) : Int := (momOf ts (1440 * d + r.minute)).getD 0
noncomputable def rowD (ts : List (Int × Int)) (r : Rul) (d : Int) : D := .tup [.int (momI ts r d), .int r.length, .str "hall", .int d]
section
variable {ts : List (Int × Int)} {r : Rul} {d low high : Int} {S : Sto}
end
section
variable {ts : List (Int × Int)} {r : Rul} {d low high : Int} {S : Sto}
def dayOf : D → Int
  | .tup [_, _, _, .int d] => d
  | _ => 0
end
end G

set_option maxHeartbeats 4000000
namespace G
open PySem L2 C
local macro_rules
  | `(tactic| simp_arith! only [$xs,*]) => `(tactic| simp -implicitDefEqProofs (disch := first | assumption | omega | (simp only [okd_i, okd_n, okd_b, okd_s, strOk_of, okd_t, okd_l, okdL_n, okdL_c, Bool.and_true, Bool.and_self, *]; done) | (simp only [List.length_cons, List.length_nil, List.length_append, List.length_map, List.length_set, List.length_take, List.length_drop, List.length_reverse, rangeD_len, zipD_len, enumD_len] <;> omega)) only [x_ok, at0, at1, at2, at3, at4, at5, x_dict, k_dict, x_pairsN, x_pairsC, k_p1, k_p2, k_p3i, k_p3s, cut_ns, cut_sn, cut_ss, sl_L, sl_F, sl_T, sl_S, x_exc, slotV_v, slotO_v, slotO_o, x_var, x_own, x_c, x_bin, k_bin1, k_bin2, x_neg, k_neg, x_tup, k_tup, x_lst, k_lst, x_nCat, k_cat1, k_cat2, x_nRep, k_rep1, k_rep2, x_frz, k_frz, x_nil, x_cons, k_cons1, k_cons2, x_val, k_val, tr_bl, tr_non, tr_int, tr_lst, tr_tup, tr_frl, tr_str, x_and, x_or, x_not, k_and, k_or, k_not, x_tT, x_ifE, k_ifE, x_andV, x_orV, x_notV, k_andV, k_orV, k_notV, x_chain, k_ch1, k_ch2, k_ch3, x_call, x_callN, k_call, x_opt, k_some, x_isi, k_isi, x_oNone, x_oSome, k_oSome, x_nSl, k_nsl1, k_nsl2, k_nsl3L, k_nsl3F, x_sl, k_sl1, k_sl2, k_sl3, x_rev, k_rev, k_revT, x_fn, k_fn, x_fnB, k_fnB, x_tStill, k_stB, x_eStill, envB_t, envB_f, envB_n, envB_e, frzB_u, frzB_o, frzB_v, frzB_i, frzB_b, frzB_s, frzB_non, frzB_t, frzB_l, k_nolB, k_nolI, k_nolS, k_nolN, x_seq, k_seqL, k_seqT, k_seqF, k_seqS, x_rng1, k_rng1, x_rng2, k_rng2a, k_rng2b, x_enum, k_enum, k_enumT, x_zip, k_zipL, k_zipT, k_zipM, k_zipN, x_lc, k_lc, x_sNil, x_sSeq, k_sqn, k_sqr, k_sqb, k_sqc, k_sqx, x_sExpr, k_expr, x_sRet, k_ret, x_sRetN, x_sRetO, k_retO, x_sRetL, k_retL, x_nFn, k_fnN, k_sqo, k_turnO, k_wtO, x_runN, k_runO, k_runOX, x_sBrk, x_sCnt, x_sSet, k_set, x_sOwn, k_own, tg_some, x_sTg, k_tg, gN_ok, gT_t, gTs_n, gTs_c, x_sIf, k_if, x_sFor, k_for, x_sWhile, x_sFrz, frzE_eq, frz_o, frz_v, frz_u, slotL_o, k_mod, x_modE, x_withO, x_sApp, k_appL, k_app, hApp_ok, x_sSlA, k_slAL, k_slA, hAll_ok, x_sIns, k_insL, k_ins1, k_ins2, hIns_ok, x_sRevO, k_revO, x_sClrO, k_clrO, x_sExt, k_extL, k_ext, hExt_ok, x_sSetIx, k_setIxL, k_setIx1, k_setIx2, k_putK, x_sPut, k_put1, k_put2, k_put3, x_sPar, k_par, x_sPar3, k_par3, x_run, k_runN, k_runR, k_runX, k_x, q_add, q_sub, q_addBI, q_addIB, q_subBI, q_subIB, p_strB, p_strS, tI_t, tI_f, q_mul, q_rep, q_div, q_mod, q_lt, q_le, q_gt, q_ge, q_eq, q_ne, q_is, q_isn, q_isB, q_isnB, q_isnI, x_idx, k_idx1, k_idx2, q_catL, q_catT, q_catS, isNon_non, isNon_int, isNon_bl, isNon_str, isNon_tup, isNon_lst, p_divmod, p_lenL, p_lenT, p_lenF, p_lenS, p_intB, p_intI, p_max2, p_min2, p_tupL, p_tupT, p_lstL, p_lstT, p_lstF, is_intI, is_intB, is_intS, is_intN, is_intT, is_intL, is_blI, is_blB, is_blS, is_blN, is_blT, is_blL, is_strI, is_strB, is_strS, is_strN, is_strT, is_strL, is_tupI, is_tupB, is_tupS, is_tupN, is_tupT, is_tupL, is_lstI, is_lstB, is_lstS, is_lstN, is_lstT, is_lstL, opIx_lst, opIx_tup, opIx_frl, k_midN, k_midC, k_midB, k_midR, k_midO, k_midX, k_turnN, k_turnC, k_turnB, k_turnR, k_turnX, k_wtN, k_wtC, k_wtB, k_wtR, k_wtX, k_wc, k_le, frzE_eq, turn_eq, turnC_eq, k_le, forL_nil, lcL_nil, startE, decide_eq_true_eq, decide_eq_false_iff_not, decide_true, decide_false, Bool.not_eq_true', Bool.not_eq_eq_eq_not, Bool.not_true, Bool.not_false, Bool.true_eq_false, Bool.false_eq_true, Bool.not_not, Option.bind_some, Option.map_some, List.map_cons, List.map_nil, List.length_cons, List.length_nil, List.cons_append, List.nil_append, List.set_cons_zero, List.set_cons_succ, List.getElem?_cons_zero, List.getElem?_cons_succ, List.length_set, ↓reduceIte, if_true, if_false, ite_self, List.replicate, List.take_succ_cons, List.take_zero, List.drop_succ_cons, List.drop_zero, List.flatten_cons, List.flatten_nil, Int.reduceToNat, List.isEmpty_cons, List.isEmpty_nil, Nat.reduceAdd, Nat.reduceSub, Nat.reduceLT, Nat.reduceLeDiff, Nat.reduceEqDiff, Int.cast_ofNat_Int, not_true_eq_false, not_false_eq_true, Int.reduceAdd, Int.reduceSub, Int.reduceMul, Int.reduceLT, Int.reduceLE, Int.reduceEq, Int.reduceNe, Int.reduceNeg, Int.zero_add, ne_eq, id, wipeE, lcL_nil, eq_self, and_true, true_and, D.int.injEq, D.bl.injEq, ofS_eq, String.reduceEq, q_eqD, q_neD, q_inT, q_inL, q_ninT, q_ninL, beq_self_eq_true, List.any_cons, List.any_nil, Bool.or_false, Bool.false_or, Bool.or_true, Bool.true_or, deq_nb, deq_ni, deq_ns, deq_nt, deq_nl, deq_bn, deq_bs, deq_bt, deq_bl, deq_in, deq_is, deq_it, deq_il, deq_sn, deq_sb, deq_si, deq_st, deq_sl, deq_tn, deq_tb, deq_ti, deq_ts, deq_tl, deq_ln, deq_lb, deq_li, deq_ls, deq_lt, deq_nn, deq_bb, deq_ii, deq_ss, deq_tt, deq_ll, deqL_nn, deqL_cc, deqL_nc, deqL_cn, okd_i, okd_n, okd_b, okd_t, okd_l, okdL_n, okdL_c, Bool.and_true, Bool.true_and, Bool.and_false, Bool.false_and, $xs,*])

inductive Chg where
  | off
  | is (d m l : Int) (p : List Nat)
  deriving DecidableEq
def chgD : Chg → D
  | .off => .tup [.str "off"]
  | .is d m l p => .tup [.str "is", .int d, .int m, .int l, .str (SX.S p)]
def chE (e : Int × Chg) : D := .tup [.int e.1, chgD e.2]
structure Tel where
  ts : List (Int × Int)
  r : Rul
  place : List Nat
  chs : List (Int × Chg)
def telD (t : Tel) : D := .tup [clockD t.ts, ruD t.r, .str (SX.S t.place), .tup (t.chs.map chE)]
def ChgOk : Chg → Prop
  | .off => True
  | .is d m l p => (2 ≤ d ∧ d ≤ 99990) ∧ (0 ≤ m ∧ m ≤ 1439) ∧ (1 ≤ l ∧ l ≤ 1440) ∧ Wd p
def bareC (r : Rul) (p : List Nat) (d : Int) : Chg := .is d r.minute r.length p
structure TelOk (t : Tel) : Prop where
  clk : Clk t.ts
  rul : RulIn t.r
  wd : Wd t.place
  ok : ∀ e ∈ t.chs, ChgOk e.2
  inr : ∀ e ∈ t.chs, inR t.r e.1 = true
  nb : ∀ e ∈ t.chs, e.2 ≠ bareC t.r t.place e.1
  srt : t.chs.Pairwise fun a b => a.1 < b.1
def chO : Option Chg → D
  | none => .non
  | some c => chgD c
def moreC (t : Tel) (d : Int) : Option Chg → List (Int × Chg)
  | none => []
  | some c => if c = bareC t.r t.place d then [] else [(d, c)]
def putT (t : Tel) (d : Int) (c : Option Chg) : Tel := { t with chs := ((t.chs.filter fun e => !decide (e.1 = d)) ++ moreC t d c).mergeSort fun x y => decide (x.1 ≤ y.1) }
end G

set_option maxHeartbeats 4000000
namespace G
open PySem L2 C
local macro_rules
  | `(tactic| simp_arith! only [$xs,*]) => `(tactic| simp -implicitDefEqProofs (disch := first | assumption | omega | (simp only [okd_i, okd_n, okd_b, okd_s, strOk_of, okd_t, okd_l, okdL_n, okdL_c, Bool.and_true, Bool.and_self, *]; done) | (simp only [List.length_cons, List.length_nil, List.length_append, List.length_map, List.length_set, List.length_take, List.length_drop, List.length_reverse, rangeD_len, zipD_len, enumD_len] <;> omega)) only [x_ok, at0, at1, at2, at3, at4, at5, x_dict, k_dict, x_pairsN, x_pairsC, k_p1, k_p2, k_p3i, k_p3s, cut_ns, cut_sn, cut_ss, sl_L, sl_F, sl_T, sl_S, x_exc, slotV_v, slotO_v, slotO_o, x_var, x_own, x_c, x_bin, k_bin1, k_bin2, x_neg, k_neg, x_tup, k_tup, x_lst, k_lst, x_nCat, k_cat1, k_cat2, x_nRep, k_rep1, k_rep2, x_frz, k_frz, x_nil, x_cons, k_cons1, k_cons2, x_val, k_val, tr_bl, tr_non, tr_int, tr_lst, tr_tup, tr_frl, tr_str, x_and, x_or, x_not, k_and, k_or, k_not, x_tT, x_ifE, k_ifE, x_andV, x_orV, x_notV, k_andV, k_orV, k_notV, x_chain, k_ch1, k_ch2, k_ch3, x_call, x_callN, k_call, x_opt, k_some, x_isi, k_isi, x_oNone, x_oSome, k_oSome, x_nSl, k_nsl1, k_nsl2, k_nsl3L, k_nsl3F, x_sl, k_sl1, k_sl2, k_sl3, x_rev, k_rev, k_revT, x_fn, k_fn, x_fnB, k_fnB, x_tStill, k_stB, x_eStill, envB_t, envB_f, envB_n, envB_e, frzB_u, frzB_o, frzB_v, frzB_i, frzB_b, frzB_s, frzB_non, frzB_t, frzB_l, k_nolB, k_nolI, k_nolS, k_nolN, x_seq, k_seqL, k_seqT, k_seqF, k_seqS, x_rng1, k_rng1, x_rng2, k_rng2a, k_rng2b, x_enum, k_enum, k_enumT, x_zip, k_zipL, k_zipT, k_zipM, k_zipN, x_lc, k_lc, x_sNil, x_sSeq, k_sqn, k_sqr, k_sqb, k_sqc, k_sqx, x_sExpr, k_expr, x_sRet, k_ret, x_sRetN, x_sRetO, k_retO, x_sRetL, k_retL, x_nFn, k_fnN, k_sqo, k_turnO, k_wtO, x_runN, k_runO, k_runOX, x_sBrk, x_sCnt, x_sSet, k_set, x_sOwn, k_own, tg_some, x_sTg, k_tg, gN_ok, gT_t, gTs_n, gTs_c, x_sIf, k_if, x_sFor, k_for, x_sWhile, x_sFrz, frzE_eq, frz_o, frz_v, frz_u, slotL_o, k_mod, x_modE, x_withO, x_sApp, k_appL, k_app, hApp_ok, x_sSlA, k_slAL, k_slA, hAll_ok, x_sIns, k_insL, k_ins1, k_ins2, hIns_ok, x_sRevO, k_revO, x_sClrO, k_clrO, x_sExt, k_extL, k_ext, hExt_ok, x_sSetIx, k_setIxL, k_setIx1, k_setIx2, k_putK, x_sPut, k_put1, k_put2, k_put3, x_sPar, k_par, x_sPar3, k_par3, x_run, k_runN, k_runR, k_runX, k_x, q_add, q_sub, q_addBI, q_addIB, q_subBI, q_subIB, p_strB, p_strS, tI_t, tI_f, q_mul, q_rep, q_div, q_mod, q_lt, q_le, q_gt, q_ge, q_eq, q_ne, q_is, q_isn, q_isB, q_isnB, q_isnI, x_idx, k_idx1, k_idx2, q_catL, q_catT, q_catS, isNon_non, isNon_int, isNon_bl, isNon_str, isNon_tup, isNon_lst, p_divmod, p_lenL, p_lenT, p_lenF, p_lenS, p_intB, p_intI, p_max2, p_min2, p_tupL, p_tupT, p_lstL, p_lstT, p_lstF, is_intI, is_intB, is_intS, is_intN, is_intT, is_intL, is_blI, is_blB, is_blS, is_blN, is_blT, is_blL, is_strI, is_strB, is_strS, is_strN, is_strT, is_strL, is_tupI, is_tupB, is_tupS, is_tupN, is_tupT, is_tupL, is_lstI, is_lstB, is_lstS, is_lstN, is_lstT, is_lstL, opIx_lst, opIx_tup, opIx_frl, k_midN, k_midC, k_midB, k_midR, k_midO, k_midX, k_turnN, k_turnC, k_turnB, k_turnR, k_turnX, k_wtN, k_wtC, k_wtB, k_wtR, k_wtX, k_wc, k_le, frzE_eq, turn_eq, turnC_eq, k_le, forL_nil, lcL_nil, startE, decide_eq_true_eq, decide_eq_false_iff_not, decide_true, decide_false, Bool.not_eq_true', Bool.not_eq_eq_eq_not, Bool.not_true, Bool.not_false, Bool.true_eq_false, Bool.false_eq_true, Bool.not_not, Option.bind_some, Option.map_some, List.map_cons, List.map_nil, List.length_cons, List.length_nil, List.cons_append, List.nil_append, List.set_cons_zero, List.set_cons_succ, List.getElem?_cons_zero, List.getElem?_cons_succ, List.length_set, ↓reduceIte, if_true, if_false, ite_self, List.replicate, List.take_succ_cons, List.take_zero, List.drop_succ_cons, List.drop_zero, List.flatten_cons, List.flatten_nil, Int.reduceToNat, List.isEmpty_cons, List.isEmpty_nil, Nat.reduceAdd, Nat.reduceSub, Nat.reduceLT, Nat.reduceLeDiff, Nat.reduceEqDiff, Int.cast_ofNat_Int, not_true_eq_false, not_false_eq_true, Int.reduceAdd, Int.reduceSub, Int.reduceMul, Int.reduceLT, Int.reduceLE, Int.reduceEq, Int.reduceNe, Int.reduceNeg, Int.zero_add, ne_eq, id, wipeE, lcL_nil, eq_self, and_true, true_and, D.int.injEq, D.bl.injEq, ofS_eq, String.reduceEq, q_eqD, q_neD, q_inT, q_inL, q_ninT, q_ninL, beq_self_eq_true, List.any_cons, List.any_nil, Bool.or_false, Bool.false_or, Bool.or_true, Bool.true_or, deq_nb, deq_ni, deq_ns, deq_nt, deq_nl, deq_bn, deq_bs, deq_bt, deq_bl, deq_in, deq_is, deq_it, deq_il, deq_sn, deq_sb, deq_si, deq_st, deq_sl, deq_tn, deq_tb, deq_ti, deq_ts, deq_tl, deq_ln, deq_lb, deq_li, deq_ls, deq_lt, deq_nn, deq_bb, deq_ii, deq_ss, deq_tt, deq_ll, deqL_nn, deqL_cc, deqL_nc, deqL_cn, okd_i, okd_n, okd_b, okd_t, okd_l, okdL_n, okdL_c, Bool.and_true, Bool.true_and, Bool.and_false, Bool.false_and, $xs,*])

def stepC (d : Int) (a : Chg) (e : Int × Chg) : Chg := if e.1 = d then e.2 else a
def tellC (t : Tel) (d : Int) : Chg := t.chs.foldl (stepC d) (bareC t.r t.place d)
def bodyC : Chg → D
  | .off => .non
  | .is d m l p => .tup [.int d, .int m, .int l, .str (SX.S p)]
def kept (t : Tel) (d : Int) : Bool := !decide (tellC t d = .off)
def rowM (t : Tel) (d : Int) : D := .tup [.int d, bodyC (tellC t d)]
def intO : D → Int
  | .int i => i
  | _ => 0
def momT (ts : List (Int × Int)) (d : Int) : Chg → D
  | .off => .non
  | .is d' m l p => .tup [.int ((momOf ts (1440 * d' + m)).getD 0), .int l, .str (SX.S p), .int d]
def rowT (t : Tel) (d : Int) : D := momT t.ts d (tellC t d)
noncomputable def rowsT (t : Tel) (L : List Int) : List D := sortD ((L.filter (kept t)).map (rowT t))
end G

namespace G
open PySem L2
local macro_rules
  | `(tactic| simp_arith only [$xs,*]) => `(tactic| simp -implicitDefEqProofs (disch := first | assumption | omega | (simp only [List.length_cons, List.length_nil, List.length_append, List.length_map, List.length_set, List.length_take, List.length_drop, List.length_reverse, rangeD_len, zipD_len, enumD_len] <;> omega)) only [x_ok, at0, at1, at2, at3, at4, at5, x_dict, k_dict, x_pairsN, x_pairsC, k_p1, k_p2, k_p3i, k_p3s, cut_ns, cut_sn, cut_ss, sl_L, sl_F, sl_T, sl_S, x_exc, slotV_v, slotO_v, slotO_o, x_var, x_own, x_c, x_bin, k_bin1, k_bin2, x_neg, k_neg, x_tup, k_tup, x_lst, k_lst, x_nCat, k_cat1, k_cat2, x_nRep, k_rep1, k_rep2, x_frz, k_frz, x_nil, x_cons, k_cons1, k_cons2, x_val, k_val, tr_bl, tr_non, tr_int, tr_lst, tr_tup, tr_frl, tr_str, x_and, x_or, x_not, k_and, k_or, k_not, x_tT, x_ifE, k_ifE, x_andV, x_orV, x_notV, k_andV, k_orV, k_notV, x_chain, k_ch1, k_ch2, k_ch3, x_call, x_callN, k_call, x_opt, k_some, x_isi, k_isi, x_oNone, x_oSome, k_oSome, x_nSl, k_nsl1, k_nsl2, k_nsl3L, k_nsl3F, x_sl, k_sl1, k_sl2, k_sl3, x_rev, k_rev, k_revT, x_fn, k_fn, x_fnB, k_fnB, x_tStill, k_stB, x_eStill, envB_t, envB_f, envB_n, envB_e, frzB_u, frzB_o, frzB_v, frzB_i, frzB_b, frzB_s, frzB_non, frzB_t, frzB_l, k_nolB, k_nolI, k_nolS, k_nolN, x_seq, k_seqL, k_seqT, k_seqF, k_seqS, x_rng1, k_rng1, x_rng2, k_rng2a, k_rng2b, x_enum, k_enum, k_enumT, x_zip, k_zipL, k_zipT, k_zipM, k_zipN, x_lc, k_lc, x_sNil, x_sSeq, k_sqn, k_sqr, k_sqb, k_sqc, k_sqx, x_sExpr, k_expr, x_sRet, k_ret, x_sRetN, x_sRetO, k_retO, x_sRetL, k_retL, x_nFn, k_fnN, k_sqo, k_turnO, k_wtO, x_runN, k_runO, k_runOX, x_sBrk, x_sCnt, x_sSet, k_set, x_sOwn, k_own, tg_some, x_sTg, k_tg, gN_ok, gT_t, gTs_n, gTs_c, x_sIf, k_if, x_sFor, k_for, x_sWhile, x_sFrz, frzE_eq, frz_o, frz_v, frz_u, slotL_o, k_mod, x_modE, x_withO, x_sApp, k_appL, k_app, hApp_ok, x_sSlA, k_slAL, k_slA, hAll_ok, x_sIns, k_insL, k_ins1, k_ins2, hIns_ok, x_sRevO, k_revO, x_sClrO, k_clrO, x_sExt, k_extL, k_ext, hExt_ok, x_sSetIx, k_setIxL, k_setIx1, k_setIx2, k_putK, x_sPut, k_put1, k_put2, k_put3, x_sPar, k_par, x_sPar3, k_par3, x_run, k_runN, k_runR, k_runX, k_x, q_add, q_sub, q_addBI, q_addIB, q_subBI, q_subIB, p_strB, p_strS, tI_t, tI_f, q_mul, q_rep, q_div, q_mod, q_lt, q_le, q_gt, q_ge, q_eq, q_ne, q_is, q_isn, q_isB, q_isnB, q_isnI, x_idx, k_idx1, k_idx2, q_catL, q_catT, q_catS, isNon_non, isNon_int, isNon_bl, isNon_str, isNon_tup, isNon_lst, p_divmod, p_lenL, p_lenT, p_lenF, p_lenS, p_intB, p_intI, p_max2, p_min2, p_tupL, p_tupT, p_lstL, p_lstT, p_lstF, is_intI, is_intB, is_intS, is_intN, is_intT, is_intL, is_blI, is_blB, is_blS, is_blN, is_blT, is_blL, is_strI, is_strB, is_strS, is_strN, is_strT, is_strL, is_tupI, is_tupB, is_tupS, is_tupN, is_tupT, is_tupL, is_lstI, is_lstB, is_lstS, is_lstN, is_lstT, is_lstL, opIx_lst, opIx_tup, opIx_frl, k_midN, k_midC, k_midB, k_midR, k_midO, k_midX, k_turnN, k_turnC, k_turnB, k_turnR, k_turnX, k_wtN, k_wtC, k_wtB, k_wtR, k_wtX, k_wc, k_le, frzE_eq, turn_eq, turnC_eq, k_le, forL_nil, lcL_nil, startE, decide_eq_true_eq, decide_eq_false_iff_not, decide_true, decide_false, Bool.not_eq_true', Bool.not_eq_eq_eq_not, Bool.not_true, Bool.not_false, Bool.true_eq_false, Bool.false_eq_true, Bool.not_not, Option.bind_some, Option.map_some, List.map_cons, List.map_nil, List.length_cons, List.length_nil, List.cons_append, List.nil_append, List.set_cons_zero, List.set_cons_succ, List.getElem?_cons_zero, List.getElem?_cons_succ, List.length_set, ↓reduceIte, if_true, if_false, ite_self, List.replicate, List.take_succ_cons, List.take_zero, List.drop_succ_cons, List.drop_zero, List.flatten_cons, List.flatten_nil, Int.reduceToNat, List.isEmpty_cons, List.isEmpty_nil, Nat.reduceAdd, Nat.reduceSub, Nat.reduceLT, Nat.reduceLeDiff, Nat.reduceEqDiff, Int.cast_ofNat_Int, not_true_eq_false, not_false_eq_true, Int.reduceAdd, Int.reduceSub, Int.reduceMul, Int.reduceLT, Int.reduceLE, Int.reduceEq, Int.reduceNe, Int.reduceNeg, Int.zero_add, ne_eq, id, wipeE, lcL_nil, eq_self, and_true, true_and, D.int.injEq, D.bl.injEq, ofS_eq, String.reduceEq, $xs,*])
local macro_rules
  | `(tactic| simp_all_arith only [$xs,*]) => `(tactic| simp -implicitDefEqProofs (disch := first | assumption | omega | (simp only [okd_i, okd_n, okd_b, okd_s, strOk_of, okd_t, okd_l, okdL_n, okdL_c, Bool.and_true, Bool.and_self, *]; done) | (simp only [List.length_cons, List.length_nil, List.length_append, List.length_map, List.length_set, List.length_take, List.length_drop, List.length_reverse, rangeD_len, zipD_len, enumD_len] <;> omega)) only [x_ok, at0, at1, at2, at3, at4, at5, x_dict, k_dict, x_pairsN, x_pairsC, k_p1, k_p2, k_p3i, k_p3s, cut_ns, cut_sn, cut_ss, sl_L, sl_F, sl_T, sl_S, x_exc, slotV_v, slotO_v, slotO_o, x_var, x_own, x_c, x_bin, k_bin1, k_bin2, x_neg, k_neg, x_tup, k_tup, x_lst, k_lst, x_nCat, k_cat1, k_cat2, x_nRep, k_rep1, k_rep2, x_frz, k_frz, x_nil, x_cons, k_cons1, k_cons2, x_val, k_val, tr_bl, tr_non, tr_int, tr_lst, tr_tup, tr_frl, tr_str, x_and, x_or, x_not, k_and, k_or, k_not, x_tT, x_ifE, k_ifE, x_andV, x_orV, x_notV, k_andV, k_orV, k_notV, x_chain, k_ch1, k_ch2, k_ch3, x_call, x_callN, k_call, x_opt, k_some, x_isi, k_isi, x_oNone, x_oSome, k_oSome, x_nSl, k_nsl1, k_nsl2, k_nsl3L, k_nsl3F, x_sl, k_sl1, k_sl2, k_sl3, x_rev, k_rev, k_revT, x_fn, k_fn, x_fnB, k_fnB, x_tStill, k_stB, x_eStill, envB_t, envB_f, envB_n, envB_e, frzB_u, frzB_o, frzB_v, frzB_i, frzB_b, frzB_s, frzB_non, frzB_t, frzB_l, k_nolB, k_nolI, k_nolS, k_nolN, x_seq, k_seqL, k_seqT, k_seqF, k_seqS, x_rng1, k_rng1, x_rng2, k_rng2a, k_rng2b, x_enum, k_enum, k_enumT, x_zip, k_zipL, k_zipT, k_zipM, k_zipN, x_lc, k_lc, x_sNil, x_sSeq, k_sqn, k_sqr, k_sqb, k_sqc, k_sqx, x_sExpr, k_expr, x_sRet, k_ret, x_sRetN, x_sRetO, k_retO, x_sRetL, k_retL, x_nFn, k_fnN, k_sqo, k_turnO, k_wtO, x_runN, k_runO, k_runOX, x_sBrk, x_sCnt, x_sSet, k_set, x_sOwn, k_own, tg_some, x_sTg, k_tg, gN_ok, gT_t, gTs_n, gTs_c, x_sIf, k_if, x_sFor, k_for, x_sWhile, x_sFrz, frzE_eq, frz_o, frz_v, frz_u, slotL_o, k_mod, x_modE, x_withO, x_sApp, k_appL, k_app, hApp_ok, x_sSlA, k_slAL, k_slA, hAll_ok, x_sIns, k_insL, k_ins1, k_ins2, hIns_ok, x_sRevO, k_revO, x_sClrO, k_clrO, x_sExt, k_extL, k_ext, hExt_ok, x_sSetIx, k_setIxL, k_setIx1, k_setIx2, k_putK, x_sPut, k_put1, k_put2, k_put3, x_sPar, k_par, x_sPar3, k_par3, x_run, k_runN, k_runR, k_runX, k_x, q_add, q_sub, q_addBI, q_addIB, q_subBI, q_subIB, p_strB, p_strS, tI_t, tI_f, q_mul, q_rep, q_div, q_mod, q_lt, q_le, q_gt, q_ge, q_eq, q_ne, q_is, q_isn, q_isB, q_isnB, q_isnI, x_idx, k_idx1, k_idx2, q_catL, q_catT, q_catS, isNon_non, isNon_int, isNon_bl, isNon_str, isNon_tup, isNon_lst, p_divmod, p_lenL, p_lenT, p_lenF, p_lenS, p_intB, p_intI, p_max2, p_min2, p_tupL, p_tupT, p_lstL, p_lstT, p_lstF, is_intI, is_intB, is_intS, is_intN, is_intT, is_intL, is_blI, is_blB, is_blS, is_blN, is_blT, is_blL, is_strI, is_strB, is_strS, is_strN, is_strT, is_strL, is_tupI, is_tupB, is_tupS, is_tupN, is_tupT, is_tupL, is_lstI, is_lstB, is_lstS, is_lstN, is_lstT, is_lstL, opIx_lst, opIx_tup, opIx_frl, k_midN, k_midC, k_midB, k_midR, k_midO, k_midX, k_turnN, k_turnC, k_turnB, k_turnR, k_turnX, k_wtN, k_wtC, k_wtB, k_wtR, k_wtX, k_wc, k_le, frzE_eq, turn_eq, turnC_eq, k_le, forL_nil, lcL_nil, startE, decide_eq_true_eq, decide_eq_false_iff_not, decide_true, decide_false, Bool.not_eq_true', Bool.not_eq_eq_eq_not, Bool.not_true, Bool.not_false, Bool.true_eq_false, Bool.false_eq_true, Bool.not_not, Option.bind_some, Option.map_some, List.map_cons, List.map_nil, List.length_cons, List.length_nil, List.cons_append, List.nil_append, List.set_cons_zero, List.set_cons_succ, List.getElem?_cons_zero, List.getElem?_cons_succ, List.length_set, ↓reduceIte, if_true, if_false, ite_self, List.replicate, List.take_succ_cons, List.take_zero, List.drop_succ_cons, List.drop_zero, List.flatten_cons, List.flatten_nil, Int.reduceToNat, List.isEmpty_cons, List.isEmpty_nil, Nat.reduceAdd, Nat.reduceSub, Nat.reduceLT, Nat.reduceLeDiff, Nat.reduceEqDiff, Int.cast_ofNat_Int, not_true_eq_false, not_false_eq_true, Int.reduceAdd, Int.reduceSub, Int.reduceMul, Int.reduceLT, Int.reduceLE, Int.reduceEq, Int.reduceNe, Int.reduceNeg, Int.zero_add, ne_eq, id, wipeE, lcL_nil, eq_self, and_true, true_and, D.int.injEq, D.bl.injEq, ofS_eq, String.reduceEq, q_eqD, q_neD, q_inT, q_inL, q_ninT, q_ninL, beq_self_eq_true, List.any_cons, List.any_nil, Bool.or_false, Bool.false_or, Bool.or_true, Bool.true_or, deq_nb, deq_ni, deq_ns, deq_nt, deq_nl, deq_bn, deq_bs, deq_bt, deq_bl, deq_in, deq_is, deq_it, deq_il, deq_sn, deq_sb, deq_si, deq_st, deq_sl, deq_tn, deq_tb, deq_ti, deq_ts, deq_tl, deq_ln, deq_lb, deq_li, deq_ls, deq_lt, deq_nn, deq_bb, deq_ii, deq_ss, deq_tt, deq_ll, deqL_nn, deqL_cc, deqL_nc, deqL_cn, okd_i, okd_n, okd_b, okd_t, okd_l, okdL_n, okdL_c, Bool.and_true, Bool.true_and, Bool.and_false, Bool.false_and, olt_t, olt_f, ole_t, ole_f, oeq_t, oeq_lt, oeq_gt, $xs,*])

def wdOk : Int → List D → Bool
  | _, [] => true
  | a, d :: r => wholeD (a + 1) 6 d && wdOk (intOf d) r
def weekdaysD : D → Bool
  | .tup ds => decide (1 ≤ ds.length) && (decide (ds.length ≤ 7) && wdOk (-1) ds)
  | _ => false
def notNull : D → Bool
  | .int i => !decide (i = 0)
  | _ => true
/-- what stands behind the first word of a how -/
def howT (k : Str) (r : List D) : Bool :=
  if k = "once" then r.isEmpty else match r with
  | [] => false
  | n :: r => wholeD 1 99 n && (if k = "days" then r.isEmpty else if k = "weeks" then (match r with
    | [w] => weekdaysD w
    | _ => false) else if k = "months" then (match r with
    | [d] => wholeD 1 31 d
    | [w, o] => wholeD (-1) 5 w && (notNull w && wholeD 0 6 o)
    | _ => false) else false)
def howD : D → Bool
  | .tup (.str k :: r) => howT k r
  | _ => false
def endD (first : Int) : D → Bool
  | .non => true
  | .tup [.str k, n] => if k = "times" then wholeD 1 1000 n else if k = "until" then wholeD first 99990 n else false
  | _ => false
def ruleD : D → Bool
  | .tup [f, m, l, h, e] => wholeD 2 99990 f && (wholeD 0 1439 m && (wholeD 1 1440 l && (howD h && endD (intOf f) e)))
  | _ => false
section
variable {n : Nat} {d : D} {S : Sto}
end
def wdLoose : List D → Bool
  | [] => true
  | [_] => true
  | a :: b :: r => decide (intOf a < intOf b) && wdLoose (b :: r)
def headLt (a : Int) : List D → Bool
  | [] => true
  | d :: _ => decide (a < intOf d)
end G

namespace G
open PySem L2

mutual
/-- all whole numbers below 10 ^ K, all texts as they may be -/
def shw (K : Nat) : D → Bool
  | .non | .bl _ => true
  | .int i => decide (i.natAbs < 10 ^ K)
  | .str x => PyData.strOk x
  | .tup ds | .lst ds => shwL K ds
  | _ => false
def shwL (K : Nat) : List D → Bool
  | [] => true
  | d :: ds => shw K d && shwL K ds
end
mutual
/-- the weight, a whole number counted c -/
def szD (c : Nat) : D → Nat
  | .int _ => c
  | .str x => x.length
  | .tup ds | .lst ds => szL c ds
  | _ => 0
def szL (c : Nat) : List D → Nat
  | [] => 0
  | d :: ds => szD c d + 1 + szL c ds
end
mutual
def depD : D → Nat
  | .tup ds | .lst ds => depL ds + 1
  | _ => 0
def depL : List D → Nat
  | [] => 0
  | d :: ds => max (depD d) (depL ds)
end
section
variable {K c : Nat}
mutual
theorem shw_py (hc : 10 ^ K ≤ 2 ^ c) (h0 : 0 < K) (h2 : c ≤ 1920) : ∀ {d : D}, shw K d = true → G.pure d = true ∧ (toPy d).showable = true ∧ (toPy d).hasDict = false ∧ (toPy d).leavesShort (K + 1) = true ∧ (toPy d).weight ≤ szD c d ∧ (toPy d).depth = depD d
  | .non, _ => ⟨rfl, rfl, rfl, rfl, Nat.le_refl _, rfl⟩
  | .bl _, _ => ⟨rfl, rfl, rfl, rfl, Nat.le_refl _, rfl⟩
  | .int i, h => by
    have h : decide (i.natAbs < 10 ^ K) = true := h
    rw [decide_eq_true_eq] at h
    have h3 : i.natAbs < 2 ^ c := Nat.lt_of_lt_of_le h hc
    have h4 : i.natAbs ≠ 0 → i.natAbs.log2 < c := fun z => (Nat.log2_lt z).mpr h3
    have h5 : i.natAbs = 0 → i.natAbs.log2 = 0 := fun z => by rw [z]; rfl
    have c0 : 0 < c := by
      rcases Nat.eq_zero_or_pos c with z | z
      · subst z
        have : 10 ^ 1 ≤ 10 ^ K := Nat.pow_le_pow_right (by decide) h0
        omega
      · exact z
    have hl : i.natAbs.log2 < c := by
      by_cases z : i.natAbs = 0
      · rw [h5 z]; exact c0
      · exact h4 z
    have e := int_text_length_le10 h0 h
    refine ⟨rfl, ?_, rfl, ?_, ?_, rfl⟩
    · show decide (i.natAbs.log2 < 1920) = true
      exact decide_eq_true (by omega)
    · show decide ((Str.ofString (toString i)).length ≤ K + 1) = true
      rw [ofString_length]
      exact decide_eq_true e
    · show (if i == 0 then 0 else i.natAbs.log2 + 1) ≤ c
      split <;> omega
  | .str x, h => by
    have h : PyData.strOk x = true := h
    refine ⟨rfl, rfl, rfl, ?_, Nat.le_refl _, rfl⟩
    show (x.cps.toList.all fun c => decide (c < 16 ^ 8)) = true
    rw [List.all_eq_true]
    intro c hcm
    have h0 : x.cps.all (· < 0x110000) = true := h
    have h2 := (Array.all_eq_true_iff_forall_mem.mp h0) c (Array.mem_toList_iff.mp hcm)
    have e : (16 : Nat) ^ 8 = 4294967296 := by decide
    simp at h2 ⊢
    omega
  | .tup ds, h => by
    obtain ⟨a1, a2, a3, a4, a5, a6⟩ := shw_pyL hc h0 h2 (ds := ds) h
    exact ⟨a1, a2, a3, a4, a5, by show PyData.depthAll (toPyL ds) + 1 = depL ds + 1; rw [a6]⟩
  | .lst ds, h => by
    obtain ⟨a1, a2, a3, a4, a5, a6⟩ := shw_pyL hc h0 h2 (ds := ds) h
    exact ⟨a1, a2, a3, a4, a5, by show PyData.depthAll (toPyL ds) + 1 = depL ds + 1; rw [a6]⟩
theorem shw_pyL (hc : 10 ^ K ≤ 2 ^ c) (h0 : 0 < K) (h2 : c ≤ 1920) : ∀ {ds : List D}, shwL K ds = true → pureL ds = true ∧ PyData.showableAll (toPyL ds) = true ∧ PyData.hasDictAll (toPyL ds) = false ∧ PyData.leavesShortAll (K + 1) (toPyL ds) = true ∧ PyData.weightAll (toPyL ds) ≤ szL c ds ∧ PyData.depthAll (toPyL ds) = depL ds
  | [], _ => ⟨rfl, rfl, rfl, rfl, Nat.le_refl _, rfl⟩
  | d :: ds, h => by
    have h : (shw K d && shwL K ds) = true := h
    rw [Bool.and_eq_true] at h
    obtain ⟨a1, a2, a3, a4, a5, a6⟩ := shw_py hc h0 h2 h.1
    obtain ⟨b1, b2, b3, b4, b5, b6⟩ := shw_pyL hc h0 h2 h.2
    refine ⟨?_, ?_, ?_, ?_, ?_, ?_⟩
    · show (G.pure d && pureL ds) = true; rw [a1, b1]; rfl
    · show (PyData.showable (toPy d) && PyData.showableAll (toPyL ds)) = true; rw [a2, b2]; rfl
    · show (PyData.hasDict (toPy d) || PyData.hasDictAll (toPyL ds)) = false; rw [a3, b3]; rfl
    · show (PyData.leavesShort (K + 1) (toPy d) && PyData.leavesShortAll (K + 1) (toPyL ds)) = true; rw [a4, b4]; rfl
    · show PyData.weight (toPy d) + 1 + PyData.weightAll (toPyL ds) ≤ szD c d + 1 + szL c ds; omega
    · show max (PyData.depth (toPy d)) (PyData.depthAll (toPyL ds)) = max (depD d) (depL ds); rw [a6, b6]
end
end
end G

set_option maxHeartbeats 2000000
namespace G
open PySem L2 C
local macro_rules
  | `(tactic| simp_arith! only [$xs,*]) => `(tactic| simp -implicitDefEqProofs (disch := first | assumption | omega | (simp only [okd_i, okd_n, okd_b, okd_s, strOk_of, okd_t, okd_l, okdL_n, okdL_c, Bool.and_true, Bool.and_self, *]; done) | (simp only [List.length_cons, List.length_nil, List.length_append, List.length_map, List.length_set, List.length_take, List.length_drop, List.length_reverse, rangeD_len, zipD_len, enumD_len] <;> omega)) only [x_ok, at0, at1, at2, at3, at4, at5, x_dict, k_dict, x_pairsN, x_pairsC, k_p1, k_p2, k_p3i, k_p3s, cut_ns, cut_sn, cut_ss, sl_L, sl_F, sl_T, sl_S, x_exc, slotV_v, slotO_v, slotO_o, x_var, x_own, x_c, x_bin, k_bin1, k_bin2, x_neg, k_neg, x_tup, k_tup, x_lst, k_lst, x_nCat, k_cat1, k_cat2, x_nRep, k_rep1, k_rep2, x_frz, k_frz, x_nil, x_cons, k_cons1, k_cons2, x_val, k_val, tr_bl, tr_non, tr_int, tr_lst, tr_tup, tr_frl, tr_str, x_and, x_or, x_not, k_and, k_or, k_not, x_tT, x_ifE, k_ifE, x_andV, x_orV, x_notV, k_andV, k_orV, k_notV, x_chain, k_ch1, k_ch2, k_ch3, x_call, x_callN, k_call, x_opt, k_some, x_isi, k_isi, x_oNone, x_oSome, k_oSome, x_nSl, k_nsl1, k_nsl2, k_nsl3L, k_nsl3F, x_sl, k_sl1, k_sl2, k_sl3, x_rev, k_rev, k_revT, x_fn, k_fn, x_fnB, k_fnB, x_tStill, k_stB, x_eStill, envB_t, envB_f, envB_n, envB_e, frzB_u, frzB_o, frzB_v, frzB_i, frzB_b, frzB_s, frzB_non, frzB_t, frzB_l, k_nolB, k_nolI, k_nolS, k_nolN, x_seq, k_seqL, k_seqT, k_seqF, k_seqS, x_rng1, k_rng1, x_rng2, k_rng2a, k_rng2b, x_enum, k_enum, k_enumT, x_zip, k_zipL, k_zipT, k_zipM, k_zipN, x_lc, k_lc, x_sNil, x_sSeq, k_sqn, k_sqr, k_sqb, k_sqc, k_sqx, x_sExpr, k_expr, x_sRet, k_ret, x_sRetN, x_sRetO, k_retO, x_sRetL, k_retL, x_nFn, k_fnN, k_sqo, k_turnO, k_wtO, x_runN, k_runO, k_runOX, x_sBrk, x_sCnt, x_sSet, k_set, x_sOwn, k_own, tg_some, x_sTg, k_tg, gN_ok, gT_t, gTs_n, gTs_c, x_sIf, k_if, x_sFor, k_for, x_sWhile, x_sFrz, frzE_eq, frz_o, frz_v, frz_u, slotL_o, k_mod, x_modE, x_withO, x_sApp, k_appL, k_app, hApp_ok, x_sSlA, k_slAL, k_slA, hAll_ok, x_sIns, k_insL, k_ins1, k_ins2, hIns_ok, x_sRevO, k_revO, x_sClrO, k_clrO, x_sExt, k_extL, k_ext, hExt_ok, x_sSetIx, k_setIxL, k_setIx1, k_setIx2, k_putK, x_sPut, k_put1, k_put2, k_put3, x_sPar, k_par, x_sPar3, k_par3, x_run, k_runN, k_runR, k_runX, k_x, q_add, q_sub, q_addBI, q_addIB, q_subBI, q_subIB, p_strB, p_strS, tI_t, tI_f, q_mul, q_rep, q_div, q_mod, q_lt, q_le, q_gt, q_ge, q_eq, q_ne, q_is, q_isn, q_isB, q_isnB, q_isnI, x_idx, k_idx1, k_idx2, q_catL, q_catT, q_catS, isNon_non, isNon_int, isNon_bl, isNon_str, isNon_tup, isNon_lst, p_divmod, p_lenL, p_lenT, p_lenF, p_lenS, p_intB, p_intI, p_max2, p_min2, p_tupL, p_tupT, p_lstL, p_lstT, p_lstF, is_intI, is_intB, is_intS, is_intN, is_intT, is_intL, is_blI, is_blB, is_blS, is_blN, is_blT, is_blL, is_strI, is_strB, is_strS, is_strN, is_strT, is_strL, is_tupI, is_tupB, is_tupS, is_tupN, is_tupT, is_tupL, is_lstI, is_lstB, is_lstS, is_lstN, is_lstT, is_lstL, opIx_lst, opIx_tup, opIx_frl, k_midN, k_midC, k_midB, k_midR, k_midO, k_midX, k_turnN, k_turnC, k_turnB, k_turnR, k_turnX, k_wtN, k_wtC, k_wtB, k_wtR, k_wtX, k_wc, k_le, frzE_eq, turn_eq, turnC_eq, k_le, forL_nil, lcL_nil, startE, decide_eq_true_eq, decide_eq_false_iff_not, decide_true, decide_false, Bool.not_eq_true', Bool.not_eq_eq_eq_not, Bool.not_true, Bool.not_false, Bool.true_eq_false, Bool.false_eq_true, Bool.not_not, Option.bind_some, Option.map_some, List.map_cons, List.map_nil, List.length_cons, List.length_nil, List.cons_append, List.nil_append, List.set_cons_zero, List.set_cons_succ, List.getElem?_cons_zero, List.getElem?_cons_succ, List.length_set, ↓reduceIte, if_true, if_false, ite_self, List.replicate, List.take_succ_cons, List.take_zero, List.drop_succ_cons, List.drop_zero, List.flatten_cons, List.flatten_nil, Int.reduceToNat, List.isEmpty_cons, List.isEmpty_nil, Nat.reduceAdd, Nat.reduceSub, Nat.reduceLT, Nat.reduceLeDiff, Nat.reduceEqDiff, Int.cast_ofNat_Int, not_true_eq_false, not_false_eq_true, Int.reduceAdd, Int.reduceSub, Int.reduceMul, Int.reduceLT, Int.reduceLE, Int.reduceEq, Int.reduceNe, Int.reduceNeg, Int.zero_add, ne_eq, id, wipeE, lcL_nil, eq_self, and_true, true_and, D.int.injEq, D.bl.injEq, ofS_eq, String.reduceEq, q_eqD, q_neD, q_inT, q_inL, q_ninT, q_ninL, beq_self_eq_true, List.any_cons, List.any_nil, Bool.or_false, Bool.false_or, Bool.or_true, Bool.true_or, deq_nb, deq_ni, deq_ns, deq_nt, deq_nl, deq_bn, deq_bs, deq_bt, deq_bl, deq_in, deq_is, deq_it, deq_il, deq_sn, deq_sb, deq_si, deq_st, deq_sl, deq_tn, deq_tb, deq_ti, deq_ts, deq_tl, deq_ln, deq_lb, deq_li, deq_ls, deq_lt, deq_nn, deq_bb, deq_ii, deq_ss, deq_tt, deq_ll, deqL_nn, deqL_cc, deqL_nc, deqL_cn, okd_i, okd_n, okd_b, okd_t, okd_l, okdL_n, okdL_c, Bool.and_true, Bool.true_and, Bool.and_false, Bool.false_and, $xs,*])
local macro_rules
  | `(tactic| simp_all_arith only [$xs,*]) => `(tactic| simp -implicitDefEqProofs (disch := first | assumption | omega | (simp only [okd_i, okd_n, okd_b, okd_s, strOk_of, okd_t, okd_l, okdL_n, okdL_c, Bool.and_true, Bool.and_self, *]; done) | (simp only [List.length_cons, List.length_nil, List.length_append, List.length_map, List.length_set, List.length_take, List.length_drop, List.length_reverse, rangeD_len, zipD_len, enumD_len] <;> omega)) only [x_ok, at0, at1, at2, at3, at4, at5, x_dict, k_dict, x_pairsN, x_pairsC, k_p1, k_p2, k_p3i, k_p3s, cut_ns, cut_sn, cut_ss, sl_L, sl_F, sl_T, sl_S, x_exc, slotV_v, slotO_v, slotO_o, x_var, x_own, x_c, x_bin, k_bin1, k_bin2, x_neg, k_neg, x_tup, k_tup, x_lst, k_lst, x_nCat, k_cat1, k_cat2, x_nRep, k_rep1, k_rep2, x_frz, k_frz, x_nil, x_cons, k_cons1, k_cons2, x_val, k_val, tr_bl, tr_non, tr_int, tr_lst, tr_tup, tr_frl, tr_str, x_and, x_or, x_not, k_and, k_or, k_not, x_tT, x_ifE, k_ifE, x_andV, x_orV, x_notV, k_andV, k_orV, k_notV, x_chain, k_ch1, k_ch2, k_ch3, x_call, x_callN, k_call, x_opt, k_some, x_isi, k_isi, x_oNone, x_oSome, k_oSome, x_nSl, k_nsl1, k_nsl2, k_nsl3L, k_nsl3F, x_sl, k_sl1, k_sl2, k_sl3, x_rev, k_rev, k_revT, x_fn, k_fn, x_fnB, k_fnB, x_tStill, k_stB, x_eStill, envB_t, envB_f, envB_n, envB_e, frzB_u, frzB_o, frzB_v, frzB_i, frzB_b, frzB_s, frzB_non, frzB_t, frzB_l, k_nolB, k_nolI, k_nolS, k_nolN, x_seq, k_seqL, k_seqT, k_seqF, k_seqS, x_rng1, k_rng1, x_rng2, k_rng2a, k_rng2b, x_enum, k_enum, k_enumT, x_zip, k_zipL, k_zipT, k_zipM, k_zipN, x_lc, k_lc, x_sNil, x_sSeq, k_sqn, k_sqr, k_sqb, k_sqc, k_sqx, x_sExpr, k_expr, x_sRet, k_ret, x_sRetN, x_sRetO, k_retO, x_sRetL, k_retL, x_nFn, k_fnN, k_sqo, k_turnO, k_wtO, x_runN, k_runO, k_runOX, x_sBrk, x_sCnt, x_sSet, k_set, x_sOwn, k_own, tg_some, x_sTg, k_tg, gN_ok, gT_t, gTs_n, gTs_c, x_sIf, k_if, x_sFor, k_for, x_sWhile, x_sFrz, frzE_eq, frz_o, frz_v, frz_u, slotL_o, k_mod, x_modE, x_withO, x_sApp, k_appL, k_app, hApp_ok, x_sSlA, k_slAL, k_slA, hAll_ok, x_sIns, k_insL, k_ins1, k_ins2, hIns_ok, x_sRevO, k_revO, x_sClrO, k_clrO, x_sExt, k_extL, k_ext, hExt_ok, x_sSetIx, k_setIxL, k_setIx1, k_setIx2, k_putK, x_sPut, k_put1, k_put2, k_put3, x_sPar, k_par, x_sPar3, k_par3, x_run, k_runN, k_runR, k_runX, k_x, q_add, q_sub, q_addBI, q_addIB, q_subBI, q_subIB, p_strB, p_strS, tI_t, tI_f, q_mul, q_rep, q_div, q_mod, q_lt, q_le, q_gt, q_ge, q_eq, q_ne, q_is, q_isn, q_isB, q_isnB, q_isnI, x_idx, k_idx1, k_idx2, q_catL, q_catT, q_catS, isNon_non, isNon_int, isNon_bl, isNon_str, isNon_tup, isNon_lst, p_divmod, p_lenL, p_lenT, p_lenF, p_lenS, p_intB, p_intI, p_max2, p_min2, p_tupL, p_tupT, p_lstL, p_lstT, p_lstF, is_intI, is_intB, is_intS, is_intN, is_intT, is_intL, is_blI, is_blB, is_blS, is_blN, is_blT, is_blL, is_strI, is_strB, is_strS, is_strN, is_strT, is_strL, is_tupI, is_tupB, is_tupS, is_tupN, is_tupT, is_tupL, is_lstI, is_lstB, is_lstS, is_lstN, is_lstT, is_lstL, opIx_lst, opIx_tup, opIx_frl, k_midN, k_midC, k_midB, k_midR, k_midO, k_midX, k_turnN, k_turnC, k_turnB, k_turnR, k_turnX, k_wtN, k_wtC, k_wtB, k_wtR, k_wtX, k_wc, k_le, frzE_eq, turn_eq, turnC_eq, k_le, forL_nil, lcL_nil, startE, decide_eq_true_eq, decide_eq_false_iff_not, decide_true, decide_false, Bool.not_eq_true', Bool.not_eq_eq_eq_not, Bool.not_true, Bool.not_false, Bool.true_eq_false, Bool.false_eq_true, Bool.not_not, Option.bind_some, Option.map_some, List.map_cons, List.map_nil, List.length_cons, List.length_nil, List.cons_append, List.nil_append, List.set_cons_zero, List.set_cons_succ, List.getElem?_cons_zero, List.getElem?_cons_succ, List.length_set, ↓reduceIte, if_true, if_false, ite_self, List.replicate, List.take_succ_cons, List.take_zero, List.drop_succ_cons, List.drop_zero, List.flatten_cons, List.flatten_nil, Int.reduceToNat, List.isEmpty_cons, List.isEmpty_nil, Nat.reduceAdd, Nat.reduceSub, Nat.reduceLT, Nat.reduceLeDiff, Nat.reduceEqDiff, Int.cast_ofNat_Int, not_true_eq_false, not_false_eq_true, Int.reduceAdd, Int.reduceSub, Int.reduceMul, Int.reduceLT, Int.reduceLE, Int.reduceEq, Int.reduceNe, Int.reduceNeg, Int.zero_add, ne_eq, id, wipeE, lcL_nil, eq_self, and_true, true_and, D.int.injEq, D.bl.injEq, ofS_eq, String.reduceEq, q_eqD, q_neD, q_inT, q_inL, q_ninT, q_ninL, beq_self_eq_true, List.any_cons, List.any_nil, Bool.or_false, Bool.false_or, Bool.or_true, Bool.true_or, deq_nb, deq_ni, deq_ns, deq_nt, deq_nl, deq_bn, deq_bs, deq_bt, deq_bl, deq_in, deq_is, deq_it, deq_il, deq_sn, deq_sb, deq_si, deq_st, deq_sl, deq_tn, deq_tb, deq_ti, deq_ts, deq_tl, deq_ln, deq_lb, deq_li, deq_ls, deq_lt, deq_nn, deq_bb, deq_ii, deq_ss, deq_tt, deq_ll, deqL_nn, deqL_cc, deqL_nc, deqL_cn, okd_i, okd_n, okd_b, okd_t, okd_l, okdL_n, okdL_c, Bool.and_true, Bool.true_and, Bool.and_false, Bool.false_and, olt_t, olt_f, ole_t, ole_f, oeq_t, oeq_lt, oeq_gt, $xs,*])

/-- a word, of anything -/
def wordD : D → Bool
  | .str x => decide (1 ≤ (x.length : Int)) && (decide ((x.length : Int) ≤ 8) && x.cps.toList.all fun c => decide (c ∈ abc))
  | _ => false
theorem all_map {l : List Nat} : (l.map fun c => decide (c ∈ abc)).all id = l.all fun c => decide (c ∈ abc) := by rw [List.all_map]; rfl
/-- a change, of anything -/
def isChg : D → Bool
  | .tup [.str x] => decide (x = "off")
  | .tup [.str x, a, b, c, e] => decide (x = "is") && (wholeD 2 99990 a && (wholeD 0 1439 b && (wholeD 1 1440 c && wordD e)))
  | _ => false
def shortS : D → Prop
  | .str x => x.length ≤ 16777216
  | _ => True
noncomputable def fitE (r : Rul) (p : List Nat) (a : Int) : D → Bool
  | .tup [.int i, x] => decide (a < i) && (inR r i && (isChg x && !deq x (chgD (bareC r p i))))
  | _ => false
def dayK : D → Int
  | .tup [.int i, _] => i
  | _ => 0
noncomputable def goE (r : Rul) (p : List Nat) : Int → List D → Bool
  | _, [] => true
  | a, d :: ds => fitE r p a d && goE r p (dayK d) ds
/-- no text in it is too long -/
def shortE : D → Prop
  | .tup [_, .tup xs] => ∀ x ∈ xs, shortS x
  | _ => True
theorem st2 : ¬ Str.ofString "weeks" = Str.ofString "once" := by decide +kernel
theorem st3 : ¬ Str.ofString "months" = Str.ofString "once" := by decide +kernel
end G

namespace G
open PySem L2

section
variable {env : Env} {S : Sto} {E : EX} {K : KD} {KL' : KL} {KF' : KF} {fa fb fc : Ex} {d x y o : D} {ds es : List D} {fs : Sem1 (List D)} {n : Nat} {i j k : Int} {tg : Tg} {ft : Sem1 Bool} {bs : List Bool} {vs : List Nat}
def kObj (K : KD) : KL := fun ds S => K (.obj S.length) (S ++ [.lst ds])
theorem x_obj : Tx (eObj fs env S) K E = Tx (fs env S) (kObj K) E := by
  unfold eObj; rw [x_bind]; congr 1; funext ds S; rw [x_ok]; rfl
theorem k_obj : kObj K ds S = K (.obj S.length) (S ++ [.lst ds]) := rfl
def lenK (K : KD) (S : Sto) : Option (Nat × List D) → Prop
  | some (_, ds) => K (.int ds.length) S
  | none => False
def kLenO (K : KD) : KD := fun x S => lenK K S (lstO x S)
theorem x_lenO : Tx (eLenO fa env S) K E = Tx (fa env S) (kLenO K) E := by
  unfold eLenO; rw [x_bind]; congr 1; funext x S; unfold kLenO
  cases lstO x S with
  | none => simp only [x_bad]; rfl
  | some p => obtain ⟨n, ds⟩ := p; simp only [x_ok]; rfl
theorem k_lenO : kLenO K x S = lenK K S (lstO x S) := rfl
theorem k_lenK : lenK K S (some (n, ds)) = K (.int ds.length) S := rfl
def ixK (K : KD) (S : Sto) : Option (Nat × List D) → D → Prop
  | some (_, ds), .int i => optK (atI ds i) id K S
  | _, _ => False
def kIxO2 (o : D) (K : KD) : KD := fun i S => ixK K S (lstO o S) i
def kIxO1 (fb : Ex) (env : Env) (K : KD) (E : EX) : KD := fun o S => Tx (fb env S) (kIxO2 o K) E
theorem x_ixO : Tx (eIxO fa fb env S) K E = Tx (fa env S) (kIxO1 fb env K E) E := by
  unfold eIxO; simp only [x_bind]; congr 1; funext x S; unfold kIxO1; congr 1; funext i S2
  unfold kIxO2 ixK
  cases lstO x S2 with
  | none => cases i <;> with_unfolding_all rfl
  | some p => cases i <;> first | exact x_opt | with_unfolding_all rfl
theorem k_ixO1 : kIxO1 fb env K E o S = Tx (fb env S) (kIxO2 o K) E := rfl
theorem k_ixO2 : kIxO2 o K d S = ixK K S (lstO o S) d := rfl
theorem k_ixK : ixK K S (some (n, ds)) (.int i) = optK (atI ds i) id K S := rfl
def appK1 (o : D) (fb : Ex) (env : Env) (K : KF) (S : Sto) : Option (Nat × List D) → Prop
  | some _ => Tx (fb env S) (fun d S2 => (match lstO o S2 with | some (n, ds) => ds.length < sizeLine ∧ K (.nx env) (S2.set n (.lst (ds ++ [d]))) | none => False)) (kX env K)
  | none => False
def appK2 (d : D) (env : Env) (K : KF) (S : Sto) : Option (Nat × List D) → Prop
  | some (n, ds) => ds.length < sizeLine ∧ K (.nx env) (S.set n (.lst (ds ++ [d])))
  | none => False
def kAppO1 (fb : Ex) (env : Env) (K : KF) : KD := fun o S => appK1 o fb env K S (lstO o S)
def kAppO2 (o : D) (env : Env) (K : KF) : KD := fun d S => appK2 d env K S (lstO o S)
theorem x_sAppO : Tx (sAppO fa fb env S) KF' E = Tx (fa env S) (kAppO1 fb env KF') (kX env KF') := by
  unfold sAppO; rw [x_bs]; unfold kX; congr 1; funext o S; unfold kAppO1 appK1
  cases lstO o S with
  | none => with_unfolding_all rfl
  | some p =>
    simp only []
    rw [x_bs]; unfold kX; congr 1; funext d S2
    cases lstO o S2 with
    | none => with_unfolding_all rfl
    | some p =>
      obtain ⟨n, ds⟩ := p
      simp only []
      by_cases hl : ds.length < sizeLine
      · simp only [hl, if_true, x_ok, true_and]
      · simp only [hl, if_false, x_bad, false_and]
theorem k_appO1 : kAppO1 fb env KF' o S = appK1 o fb env KF' S (lstO o S) := rfl
theorem k_appK1 : appK1 o fb env KF' S (some (n, ds)) = Tx (fb env S) (kAppO2 o env KF') (kX env KF') := by
  unfold appK1; congr 1
theorem k_appO2 : kAppO2 o env KF' d S = appK2 d env KF' S (lstO o S) := rfl
theorem k_appK2 (h : ds.length < 16777216) : appK2 d env KF' S (some (n, ds)) = KF' (.nx env) (S.set n (.lst (ds ++ [d]))) := by
  unfold appK2; rw [eq_iff_iff]; exact ⟨fun h => h.2, fun q => ⟨h, q⟩⟩
def putK3 (v i : D) (env : Env) (K : KF) (S : Sto) : Option (Nat × List D) → Prop
  | some (n, ds) => (match hSet i v ds with | some es => K (.nx env) (S.set n (.lst es)) | none => False)
  | none => False
def kPutL3 (v o : D) (env : Env) (K : KF) : KD := fun i S => putK3 v i env K S (lstO o S)
def kPutL2 (v : D) (fi : Ex) (env : Env) (K : KF) : KD := fun o S => Tx (fi env S) (kPutL3 v o env K) (kX env K)
def kPutL1 (fo fi : Ex) (env : Env) (K : KF) : KD := fun v S => Tx (fo env S) (kPutL2 v fi env K) (kX env K)
theorem x_sPutL : Tx (sPutL fa fb fc env S) KF' E = Tx (fc env S) (kPutL1 fa fb env KF') (kX env KF') := by
  unfold sPutL; simp only [x_bs]; unfold kPutL1 kPutL2 kPutL3 putK3 kX
  congr 1; funext v S1; congr 1; funext o S2; congr 1; funext i S3
  cases lstO o S3 with
  | none => with_unfolding_all rfl
  | some p =>
    obtain ⟨n, ds⟩ := p
    simp only []
    cases hSet i v ds <;> with_unfolding_all rfl
theorem k_putL1 : kPutL1 fa fb env KF' d S = Tx (fa env S) (kPutL2 d fb env KF') (kX env KF') := rfl
theorem k_putL2 : kPutL2 d fb env KF' o S = Tx (fb env S) (kPutL3 d o env KF') (kX env KF') := rfl
theorem k_putL3 : kPutL3 d o env KF' x S = putK3 d x env KF' S (lstO o S) := rfl
theorem k_putK3 (h0 : 0 ≤ i) (h1 : i < ds.length) : putK3 d (.int i) env KF' S (some (n, ds)) = KF' (.nx env) (S.set n (.lst (ds.set i.toNat d))) := by
  unfold putK3 hSet ixN
  simp only [h0, h1, if_true, Option.map_some]
def lcoK (bs : List Bool) (tg : Tg) (c : Sem1 Bool) (elt : Ex) (vs : List Nat) (env : Env) (K : KL) (S : Sto) : Option (Nat × List D) → Prop
  | some (_, ds) => okL ds.length = true ∧ scpL 0 ds = true ∧ Tx (lcL tg c elt (wipeE (envB bs env) vs) (enumD ds) []) (fun ys _ => nolL ys = true ∧ K ys S) (fun _ _ => False)
  | none => False
def kLcO (bs : List Bool) (tg : Tg) (c : Sem1 Bool) (elt : Ex) (vs : List Nat) (env : Env) (K : KL) : KL := fun os S => match os with
  | [o] => lcoK bs tg c elt vs env K S (lstO o S)
  | _ => False
theorem x_lcO : Tx (nLcO bs fs tg ft fa vs env S) KL' E = Tx (fs env S) (kLcO bs tg ft fa vs env KL') E := by
  unfold nLcO; rw [x_bind]; congr 1; funext os S; unfold kLcO
  split
  · rename_i o
    show _ = lcoK bs tg ft fa vs env KL' S (lstO o S)
    cases lstO o S with
    | none => simp only [x_bad]; rfl
    | some p =>
      obtain ⟨n, ds⟩ := p
      unfold lcoK
      simp only []
      by_cases h : okL ds.length = true ∧ scpL 0 ds = true
      · rw [if_pos h]
        simp only [h.1, h.2, true_and]
        cases lcL tg ft fa (wipeE (envB bs env) vs) (enumD ds) [] with
        | ok ys S2 =>
          simp only [x_ok]
          by_cases hn : nolL ys = true
          · simp only [hn, if_true, x_ok, true_and]
          · rw [if_neg hn, x_bad, eq_iff_iff]; exact ⟨fun h => h.elim, fun h => absurd h.1 hn⟩
        | exc e S2 => simp only [x_bad, x_exc]
        | bad => simp only [x_bad]
      · rw [if_neg h, x_bad, eq_iff_iff]
        exact ⟨fun h => h.elim, fun ⟨a, b, _⟩ => h ⟨a, b⟩⟩
  · simp only [x_bad]
theorem k_lcO : kLcO bs tg ft fa vs env KL' [o] S = lcoK bs tg ft fa vs env KL' S (lstO o S) := rfl
theorem k_lcoK (h : ds.length ≤ 16777216) (h2 : scpL 0 ds = true) : lcoK bs tg ft fa vs env KL' S (some (n, ds)) = Tx (lcL tg ft fa (wipeE (envB bs env) vs) (enumD ds) []) (fun ys _ => nolL ys = true ∧ KL' ys S) (fun _ _ => False) := by
  unfold lcoK; simp only [okL_of h, h2, true_and]
def kRngD3 (x y : D) (K : KL) : KD := fun c S => match x, y, c with
  | .int i, .int j, .int c => c = -1 ∧ ok62 i = true ∧ ok62 j = true ∧ K (rangeDn i j) S
  | _, _, _ => False
def kRngD2 (x : D) (fc : Ex) (env : Env) (K : KL) (E : EX) : KD := fun y S => Tx (fc env S) (kRngD3 x y K) E
def kRngD1 (fb fc : Ex) (env : Env) (K : KL) (E : EX) : KD := fun x S => Tx (fb env S) (kRngD2 x fc env K E) E
theorem x_rngD : Tx (iRngD fa fb fc env S) KL' E = Tx (fa env S) (kRngD1 fb fc env KL' E) E := by
  unfold iRngD; simp only [x_bind]; unfold kRngD1 kRngD2; congr 1; funext x S; congr 1; funext y S; congr 1; funext z S
  unfold kRngD3
  cases x <;> cases y <;> cases z <;> first | (simp only [x_bad]; done) | skip
  rename_i i j c
  by_cases h : c = -1 ∧ ok62 i = true ∧ ok62 j = true
  · simp only [h.1, h.2.1, h.2.2, and_self, if_true, x_ok, true_and]
  · simp only [h, if_false, x_bad, eq_iff_iff, false_iff]
    exact fun ⟨a, b, c, _⟩ => h ⟨a, b, c⟩
theorem k_rngD1 : kRngD1 fb fc env KL' E x S = Tx (fb env S) (kRngD2 x fc env KL' E) E := rfl
theorem k_rngD2 : kRngD2 x fc env KL' E y S = Tx (fc env S) (kRngD3 x y KL') E := rfl
theorem k_rngD3 {i j : Int} (h1 : -4611686018427387904 ≤ i) (h2 : i < 4611686018427387904) (h3 : -4611686018427387904 ≤ j) (h4 : j < 4611686018427387904) : kRngD3 (.int i) (.int j) KL' (.int (-1)) S = KL' (rangeDn i j) S := by
  unfold kRngD3; simp [ok62_of h1 h2, ok62_of h3 h4]
def cntK (K : KD) (x : D) : KL := fun ys S => match x, ys with
  | .lst ds, [y] => (flat y && ds.all flat) = true ∧ K (.int ((ds.countP fun d => feq d y : Nat))) S
  | _, _ => False
def kCnt (fs : Sem1 (List D)) (env : Env) (K : KD) (E : EX) : KD := fun x S => match x with
  | .lst ds => Tx (fs env S) (cntK K (.lst ds)) E
  | _ => False
theorem x_cnt : Tx (eCnt fa fs env S) K E = Tx (fa env S) (kCnt fs env K E) E := by
  unfold eCnt; rw [x_bind]; congr 1; funext x S; unfold kCnt
  cases x with
  | lst ds =>
    simp only []
    rw [x_bind]; congr 1; funext ys S2; unfold cntK
    split
    · rename_i y
      by_cases hf : (flat y && ds.all flat) = true
      · rw [if_pos hf, x_ok]; simp only [hf, true_and]
      · rw [if_neg hf, x_bad, eq_iff_iff]; exact ⟨fun h => h.elim, fun h => absurd h.1 hf⟩
    · cases ys with
      | nil => simp only [x_bad]
      | cons y r => cases r with
        | nil => rename_i h; exact absurd rfl (h y)
        | cons z r => simp only [x_bad]
  | _ => simp only [x_bad]
theorem k_cnt : kCnt fs env K E (.lst ds) S = Tx (fs env S) (cntK K (.lst ds)) E := rfl
theorem k_cntK (h1 : flat y = true) (h2 : ds.all flat = true) : cntK K (.lst ds) [y] S = K (.int ((ds.countP fun d => feq d y : Nat))) S := by
  unfold cntK; simp only [h1, h2, Bool.and_self, true_and]
def kLstRg2 (x : D) (K : KL) : KD := fun y S => match x, y with
  | .int i, .int j => RgOk i j ∧ K (rangeD i j) S
  | _, _ => False
def kLstRg1 (fb : Ex) (env : Env) (K : KL) (E : EX) : KD := fun x S => Tx (fb env S) (kLstRg2 x K) E
theorem x_lsR : Tx (nLstRg fa fb env S) KL' E = Tx (fa env S) (kLstRg1 fb env KL' E) E := by
  unfold nLstRg; simp only [x_bind]; unfold kLstRg1; congr 1; funext x S; congr 1; funext y S
  unfold kLstRg2
  cases x <;> cases y <;> first | (simp only [x_bad]; done) | skip
  rename_i i j
  by_cases h : RgOk i j
  · simp only [h, if_true, x_ok, true_and]
  · simp only [h, if_false, x_bad, false_and]
theorem k_lsR1 : kLstRg1 fb env KL' E x S = Tx (fb env S) (kLstRg2 x KL') E := rfl
theorem k_lsR2 {i j : Int} (h0 : 0 ≤ i) (h1 : j ≤ 16777216) (h2 : i ≤ 16777216) (h3 : 0 ≤ j) : kLstRg2 (.int i) KL' (.int j) S = KL' (rangeD i j) S := by
  unfold kLstRg2; simp only [RgOk.of_le h0 h1 h2 h3, true_and]
end
end G

set_option maxHeartbeats 2000000
namespace G
open PySem L2 C
local macro_rules
  | `(tactic| simp_arith! only [$xs,*]) => `(tactic| simp -implicitDefEqProofs (disch := first | assumption | omega | (simp only [okd_i, okd_n, okd_b, okd_s, strOk_of, okd_t, okd_l, okdL_n, okdL_c, Bool.and_true, Bool.and_self, *]; done) | (simp only [List.length_cons, List.length_nil, List.length_append, List.length_map, List.length_set, List.length_take, List.length_drop, List.length_reverse, rangeD_len, zipD_len, enumD_len] <;> omega)) only [x_ok, at0, at1, at2, at3, at4, at5, x_dict, k_dict, x_pairsN, x_pairsC, k_p1, k_p2, k_p3i, k_p3s, cut_ns, cut_sn, cut_ss, sl_L, sl_F, sl_T, sl_S, x_exc, slotV_v, slotO_v, slotO_o, x_var, x_own, x_c, x_bin, k_bin1, k_bin2, x_neg, k_neg, x_tup, k_tup, x_lst, k_lst, x_nCat, k_cat1, k_cat2, x_nRep, k_rep1, k_rep2, x_frz, k_frz, x_nil, x_cons, k_cons1, k_cons2, x_val, k_val, tr_bl, tr_non, tr_int, tr_lst, tr_tup, tr_frl, tr_str, x_and, x_or, x_not, k_and, k_or, k_not, x_tT, x_ifE, k_ifE, x_andV, x_orV, x_notV, k_andV, k_orV, k_notV, x_chain, k_ch1, k_ch2, k_ch3, x_call, x_callN, k_call, x_opt, k_some, x_isi, k_isi, x_oNone, x_oSome, k_oSome, x_nSl, k_nsl1, k_nsl2, k_nsl3L, k_nsl3F, x_sl, k_sl1, k_sl2, k_sl3, x_rev, k_rev, k_revT, x_fn, k_fn, x_fnB, k_fnB, x_tStill, k_stB, x_eStill, envB_t, envB_f, envB_n, envB_e, frzB_u, frzB_o, frzB_v, frzB_i, frzB_b, frzB_s, frzB_non, frzB_t, frzB_l, k_nolB, k_nolI, k_nolS, k_nolN, x_seq, k_seqL, k_seqT, k_seqF, k_seqS, x_rng1, k_rng1, x_rng2, k_rng2a, k_rng2b, x_enum, k_enum, k_enumT, x_zip, k_zipL, k_zipT, k_zipM, k_zipN, x_lc, k_lc, x_sNil, x_sSeq, k_sqn, k_sqr, k_sqb, k_sqc, k_sqx, x_sExpr, k_expr, x_sRet, k_ret, x_sRetN, x_sRetO, k_retO, x_sRetL, k_retL, x_nFn, k_fnN, k_sqo, k_turnO, k_wtO, x_runN, k_runO, k_runOX, x_sBrk, x_sCnt, x_sSet, k_set, x_sOwn, k_own, tg_some, x_sTg, k_tg, gN_ok, gT_t, gTs_n, gTs_c, x_sIf, k_if, x_sFor, k_for, x_sWhile, x_sFrz, frzE_eq, frz_o, frz_v, frz_u, slotL_o, k_mod, x_modE, x_withO, x_sApp, k_appL, k_app, hApp_ok, x_sSlA, k_slAL, k_slA, hAll_ok, x_sIns, k_insL, k_ins1, k_ins2, hIns_ok, x_sRevO, k_revO, x_sClrO, k_clrO, x_sExt, k_extL, k_ext, hExt_ok, x_sSetIx, k_setIxL, k_setIx1, k_setIx2, k_putK, x_sPut, k_put1, k_put2, k_put3, x_sPar, k_par, x_sPar3, k_par3, x_run, k_runN, k_runR, k_runX, k_x, q_add, q_sub, q_addBI, q_addIB, q_subBI, q_subIB, p_strB, p_strS, tI_t, tI_f, q_mul, q_rep, q_div, q_mod, q_lt, q_le, q_gt, q_ge, q_eq, q_ne, q_is, q_isn, q_isB, q_isnB, q_isnI, x_idx, k_idx1, k_idx2, q_catL, q_catT, q_catS, isNon_non, isNon_int, isNon_bl, isNon_str, isNon_tup, isNon_lst, p_divmod, p_lenL, p_lenT, p_lenF, p_lenS, p_intB, p_intI, p_max2, p_min2, p_tupL, p_tupT, p_lstL, p_lstT, p_lstF, is_intI, is_intB, is_intS, is_intN, is_intT, is_intL, is_blI, is_blB, is_blS, is_blN, is_blT, is_blL, is_strI, is_strB, is_strS, is_strN, is_strT, is_strL, is_tupI, is_tupB, is_tupS, is_tupN, is_tupT, is_tupL, is_lstI, is_lstB, is_lstS, is_lstN, is_lstT, is_lstL, opIx_lst, opIx_tup, opIx_frl, k_midN, k_midC, k_midB, k_midR, k_midO, k_midX, k_turnN, k_turnC, k_turnB, k_turnR, k_turnX, k_wtN, k_wtC, k_wtB, k_wtR, k_wtX, k_wc, k_le, frzE_eq, turn_eq, turnC_eq, k_le, forL_nil, lcL_nil, startE, decide_eq_true_eq, decide_eq_false_iff_not, decide_true, decide_false, Bool.not_eq_true', Bool.not_eq_eq_eq_not, Bool.not_true, Bool.not_false, Bool.true_eq_false, Bool.false_eq_true, Bool.not_not, Option.bind_some, Option.map_some, List.map_cons, List.map_nil, List.length_cons, List.length_nil, List.cons_append, List.nil_append, List.set_cons_zero, List.set_cons_succ, List.getElem?_cons_zero, List.getElem?_cons_succ, List.length_set, ↓reduceIte, if_true, if_false, ite_self, List.replicate, List.take_succ_cons, List.take_zero, List.drop_succ_cons, List.drop_zero, List.flatten_cons, List.flatten_nil, Int.reduceToNat, List.isEmpty_cons, List.isEmpty_nil, Nat.reduceAdd, Nat.reduceSub, Nat.reduceLT, Nat.reduceLeDiff, Nat.reduceEqDiff, Int.cast_ofNat_Int, not_true_eq_false, not_false_eq_true, Int.reduceAdd, Int.reduceSub, Int.reduceMul, Int.reduceLT, Int.reduceLE, Int.reduceEq, Int.reduceNe, Int.reduceNeg, Int.zero_add, ne_eq, id, wipeE, lcL_nil, eq_self, and_true, true_and, D.int.injEq, D.bl.injEq, ofS_eq, String.reduceEq, q_eqD, q_neD, q_inT, q_inL, q_ninT, q_ninL, beq_self_eq_true, List.any_cons, List.any_nil, Bool.or_false, Bool.false_or, Bool.or_true, Bool.true_or, deq_nb, deq_ni, deq_ns, deq_nt, deq_nl, deq_bn, deq_bs, deq_bt, deq_bl, deq_in, deq_is, deq_it, deq_il, deq_sn, deq_sb, deq_si, deq_st, deq_sl, deq_tn, deq_tb, deq_ti, deq_ts, deq_tl, deq_ln, deq_lb, deq_li, deq_ls, deq_lt, deq_nn, deq_bb, deq_ii, deq_ss, deq_tt, deq_ll, deqL_nn, deqL_cc, deqL_nc, deqL_cn, okd_i, okd_n, okd_b, okd_t, okd_l, okdL_n, okdL_c, Bool.and_true, Bool.true_and, Bool.and_false, Bool.false_and, $xs,*])
local macro_rules
  | `(tactic| simp_all_arith! only [$xs,*]) => `(tactic| simp -implicitDefEqProofs (disch := first | assumption | omega | (simp only [okd_i, okd_n, okd_b, okd_s, strOk_of, okd_t, okd_l, okdL_n, okdL_c, Bool.and_true, Bool.and_self, *]; done) | (simp only [List.length_cons, List.length_nil, List.length_append, List.length_map, List.length_set, List.length_take, List.length_drop, List.length_reverse, rangeD_len, zipD_len, enumD_len] <;> omega)) only [x_ok, at0, at1, at2, at3, at4, at5, x_dict, k_dict, x_pairsN, x_pairsC, k_p1, k_p2, k_p3i, k_p3s, cut_ns, cut_sn, cut_ss, sl_L, sl_F, sl_T, sl_S, x_exc, slotV_v, slotO_v, slotO_o, x_var, x_own, x_c, x_bin, k_bin1, k_bin2, x_neg, k_neg, x_tup, k_tup, x_lst, k_lst, x_nCat, k_cat1, k_cat2, x_nRep, k_rep1, k_rep2, x_frz, k_frz, x_nil, x_cons, k_cons1, k_cons2, x_val, k_val, tr_bl, tr_non, tr_int, tr_lst, tr_tup, tr_frl, tr_str, x_and, x_or, x_not, k_and, k_or, k_not, x_tT, x_ifE, k_ifE, x_andV, x_orV, x_notV, k_andV, k_orV, k_notV, x_chain, k_ch1, k_ch2, k_ch3, x_call, x_callN, k_call, x_opt, k_some, x_isi, k_isi, x_oNone, x_oSome, k_oSome, x_nSl, k_nsl1, k_nsl2, k_nsl3L, k_nsl3F, x_sl, k_sl1, k_sl2, k_sl3, x_rev, k_rev, k_revT, x_fn, k_fn, x_fnB, k_fnB, x_tStill, k_stB, x_eStill, envB_t, envB_f, envB_n, envB_e, frzB_u, frzB_o, frzB_v, frzB_i, frzB_b, frzB_s, frzB_non, frzB_t, frzB_l, k_nolB, k_nolI, k_nolS, k_nolN, x_seq, k_seqL, k_seqT, k_seqF, k_seqS, x_rng1, k_rng1, x_rng2, k_rng2a, k_rng2b, x_enum, k_enum, k_enumT, x_zip, k_zipL, k_zipT, k_zipM, k_zipN, x_lc, k_lc, x_sNil, x_sSeq, k_sqn, k_sqr, k_sqb, k_sqc, k_sqx, x_sExpr, k_expr, x_sRet, k_ret, x_sRetN, x_sRetO, k_retO, x_sRetL, k_retL, x_nFn, k_fnN, k_sqo, k_turnO, k_wtO, x_runN, k_runO, k_runOX, x_sBrk, x_sCnt, x_sSet, k_set, x_sOwn, k_own, tg_some, x_sTg, k_tg, gN_ok, gT_t, gTs_n, gTs_c, x_sIf, k_if, x_sFor, k_for, x_sWhile, x_sFrz, frzE_eq, frz_o, frz_v, frz_u, slotL_o, k_mod, x_modE, x_withO, x_sApp, k_appL, k_app, hApp_ok, x_sSlA, k_slAL, k_slA, hAll_ok, x_sIns, k_insL, k_ins1, k_ins2, hIns_ok, x_sRevO, k_revO, x_sClrO, k_clrO, x_sExt, k_extL, k_ext, hExt_ok, x_sSetIx, k_setIxL, k_setIx1, k_setIx2, k_putK, x_sPut, k_put1, k_put2, k_put3, x_sPar, k_par, x_sPar3, k_par3, x_run, k_runN, k_runR, k_runX, k_x, q_add, q_sub, q_addBI, q_addIB, q_subBI, q_subIB, p_strB, p_strS, tI_t, tI_f, q_mul, q_rep, q_div, q_mod, q_lt, q_le, q_gt, q_ge, q_eq, q_ne, q_is, q_isn, q_isB, q_isnB, q_isnI, x_idx, k_idx1, k_idx2, q_catL, q_catT, q_catS, isNon_non, isNon_int, isNon_bl, isNon_str, isNon_tup, isNon_lst, p_divmod, p_lenL, p_lenT, p_lenF, p_lenS, p_intB, p_intI, p_max2, p_min2, p_tupL, p_tupT, p_lstL, p_lstT, p_lstF, is_intI, is_intB, is_intS, is_intN, is_intT, is_intL, is_blI, is_blB, is_blS, is_blN, is_blT, is_blL, is_strI, is_strB, is_strS, is_strN, is_strT, is_strL, is_tupI, is_tupB, is_tupS, is_tupN, is_tupT, is_tupL, is_lstI, is_lstB, is_lstS, is_lstN, is_lstT, is_lstL, opIx_lst, opIx_tup, opIx_frl, k_midN, k_midC, k_midB, k_midR, k_midO, k_midX, k_turnN, k_turnC, k_turnB, k_turnR, k_turnX, k_wtN, k_wtC, k_wtB, k_wtR, k_wtX, k_wc, k_le, frzE_eq, turn_eq, turnC_eq, k_le, forL_nil, lcL_nil, startE, decide_eq_true_eq, decide_eq_false_iff_not, decide_true, decide_false, Bool.not_eq_true', Bool.not_eq_eq_eq_not, Bool.not_true, Bool.not_false, Bool.true_eq_false, Bool.false_eq_true, Bool.not_not, Option.bind_some, Option.map_some, List.map_cons, List.map_nil, List.length_cons, List.length_nil, List.cons_append, List.nil_append, List.set_cons_zero, List.set_cons_succ, List.getElem?_cons_zero, List.getElem?_cons_succ, List.length_set, ↓reduceIte, if_true, if_false, ite_self, List.replicate, List.take_succ_cons, List.take_zero, List.drop_succ_cons, List.drop_zero, List.flatten_cons, List.flatten_nil, Int.reduceToNat, List.isEmpty_cons, List.isEmpty_nil, Nat.reduceAdd, Nat.reduceSub, Nat.reduceLT, Nat.reduceLeDiff, Nat.reduceEqDiff, Int.cast_ofNat_Int, not_true_eq_false, not_false_eq_true, Int.reduceAdd, Int.reduceSub, Int.reduceMul, Int.reduceLT, Int.reduceLE, Int.reduceEq, Int.reduceNe, Int.reduceNeg, Int.zero_add, ne_eq, id, wipeE, lcL_nil, eq_self, and_true, true_and, D.int.injEq, D.bl.injEq, ofS_eq, String.reduceEq, q_eqD, q_neD, q_inT, q_inL, q_ninT, q_ninL, beq_self_eq_true, List.any_cons, List.any_nil, Bool.or_false, Bool.false_or, Bool.or_true, Bool.true_or, deq_nb, deq_ni, deq_ns, deq_nt, deq_nl, deq_bn, deq_bs, deq_bt, deq_bl, deq_in, deq_is, deq_it, deq_il, deq_sn, deq_sb, deq_si, deq_st, deq_sl, deq_tn, deq_tb, deq_ti, deq_ts, deq_tl, deq_ln, deq_lb, deq_li, deq_ls, deq_lt, deq_nn, deq_bb, deq_ii, deq_ss, deq_tt, deq_ll, deqL_nn, deqL_cc, deqL_nc, deqL_cn, okd_i, okd_n, okd_b, okd_t, okd_l, okdL_n, okdL_c, Bool.and_true, Bool.true_and, Bool.and_false, Bool.false_and, olt_t, olt_f, ole_t, ole_f, oeq_t, oeq_lt, oeq_gt, x_fld, k_fld, fld_ins, fld_new, lkP_c, lkF_c, lkF_n, meth_ins, lkM_c, k_optI, x_meth, k_meth, k_methS, k_meth2, x_sFld, k_sfld1, k_sfld2, k_setK, setO_new, putFD, List.mem_cons, List.not_mem_nil, or_true, true_or, or_false, false_or, or_self, Nat.reduceEqDiff, Nat.reduceSucc, reduceCtorEq, List.mem_nil_iff, false_and, and_false, and_self, $xs,*])


def dig : List Nat := [48, 49, 50, 51, 52, 53, 54, 55, 56, 57]
theorem dig_S : Str.ofString "0123456789" = SX.S dig := by decide +kernel
theorem in_dig {c : Nat} {S : Sto} : cIn (.str ⟨#[c]⟩) (.str "0123456789") S = .ok (.bl (decide (c ∈ dig))) S := by
  have h := StrLaws.found_one (Str.ofString "0123456789") c
  have e : (Str.ofString "0123456789").cps.toList = dig := by rw [dig_S]
  rw [e] at h
  show opt (some _) _ _ = _
  show R.ok (D.bl _) S = _
  rw [h]
/-- figures alone -/
def figs (a : List Nat) : Bool := a.all fun c => decide (c ∈ dig)
theorem mem_dig {c : Nat} : c ∈ dig ↔ 48 ≤ c ∧ c ≤ 57 := by
  constructor
  · intro h
    have : ∀ c ∈ dig, 48 ≤ c ∧ c ≤ 57 := by decide
    exact this c h
  · rintro ⟨h1, h2⟩
    have : ∀ n : Nat, n < 10 → 48 + n ∈ dig := by decide
    have := this (c - 48) (by omega)
    rwa [show 48 + (c - 48) = c by omega] at this
theorem lc_dig {a : List Nat} : (signs (SX.S a)).map (fun d => match d with | .str y => .bl (figs y.cps.toList) | _ => .non) = (a.map fun c => decide (c ∈ dig)).map D.bl := by
  unfold signs
  rw [List.map_map, List.map_map]
  show List.map _ a = _
  refine List.map_congr_left fun c _ => ?_
  show D.bl ([c].all fun c => decide (c ∈ dig)) = _
  simp
theorem all_dig {a : List Nat} : (a.map fun c => decide (c ∈ dig)).all id = figs a := by rw [List.all_map]; rfl
theorem signs_len {a : List Nat} : (signs (SX.S a)).length = a.length := by unfold signs; rw [List.length_map]
theorem s_are_figures {a : List Nat} {n : Int} {S : Sto} (h : a.length ≤ 16777216) : M.are_figures [.str (SX.S a), .int n] S = .ok (.bl (decide ((a.length : Int) = n) && figs a)) S := by
  refine tri_eq ?_
  have hl : (SX.S a).length = a.length := SX.S_len a
  have hs : (signs (SX.S a)).length ≤ 16777216 := by rw [signs_len]; exact h
  have hl1 : (SX.S a).length ≤ 16777216 := by rw [hl]; exact h
  by_cases h1 : (a.length : Int) = n
  · simp_arith! only [M.are_figures, M.b_are_figures, hl, h1, k_FIGURES, seqD]
    refine lc_map (fun d => match d with | .str y => .bl (figs y.cps.toList) | _ => .non) ?_ ?_
    · intro y hy
      obtain ⟨c, _, rfl⟩ := List.mem_map.mp hy
      simp_arith! only [in_dig]
      simp [figs]
    · rw [lc_dig]
      simp_arith! only [p_allB, all_dig]
  · simp_arith! only [M.are_figures, M.b_are_figures, hl, h1]
def dv (a : List Nat) : Int := (NumText.digitsVal a : Nat)
theorem p_intS {a : List Nat} {S : Sto} (h : figs a = true) (hn : a ≠ []) (hl : a.length ≤ 640) : pIntS [.str (SX.S a)] S = .ok (.int (dv a)) S := by
  have e := SX.int_S (a := a) (by
    rw [List.all_eq_true]
    intro c hc
    have := mem_dig.mp (of_decide_eq_true (List.all_eq_true.mp h c hc))
    simp; omega) hn (by omega)
  show (if _ then _ else _) = _
  rw [if_pos (by rw [SX.S_len]; exact hl), e]; rfl
theorem cutS_bt {a : List Nat} {i j : Int} (h : 0 ≤ i) (h2 : 0 ≤ j) : cutS (SX.S a) (some i) (some j) = SX.S ((a.drop i.toNat).take (j.toNat - i.toNat)) := by
  have e : cutS (SX.S a) (some i) (some j) = SX.S (cutA a (some i) (some j)) := rfl
  rw [e, cut_ss h h2]
theorem hy_S : Str.ofString "-" = SX.S [45] := by decide +kernel
theorem S_inj {a b : List Nat} (h : SX.S a = SX.S b) : a = b := by
  have := congrArg (fun x : Str => x.cps.toList) h
  simpa using this
theorem ne_hy {c : Nat} {S : Sto} : cNe (.str (SX.S [c])) (.str "-") S = .ok (.bl (!decide (c = 45))) S := by
  rw [q_neSS]
  congr 3
  rw [Bool.eq_iff_iff, beq_iff_eq, decide_eq_true_eq, hy_S]
  exact ⟨fun h => by simpa using S_inj h, fun h => by rw [h]⟩
section
variable {S : Sto} {Q : Fl → Sto → Prop} {E : XV → Sto → Prop} {env : Env} {l : List (Nat × Bool)} {g h : Sm} {c : Nat}
def kGone0 (Q : Fl → Sto → Prop) : Fl → Sto → Prop := fun fl S => match fl with
  | .xc _ _ => False
  | fl => Q fl S
def kTry0 (l : List (Nat × Bool)) (h : Sm) (Q : Fl → Sto → Prop) (E : XV → Sto → Prop) : Fl → Sto → Prop := fun fl S => match fl with
  | .xc e env1 => (match catchD l e.c with
    | some true => Tx (h env1 S) (kGone0 Q) E
    | some false => Q (.xc e env1) S
    | none => False)
  | fl => Q fl S
theorem x_sTry0 : Tx (sTry l g h env S) Q E = Tx (g env S) (kTry0 l h Q E) E := by
  unfold sTry; rw [x_bind]; congr 1; funext fl S1
  cases fl with
  | xc e env1 =>
    unfold kTry0
    simp only []
    cases catchD l e.c with
    | none => simp only [x_bad]
    | some b =>
      cases b with
      | false => simp only [x_ok]
      | true =>
        simp only []
        rw [x_bind]; congr 1; funext fl2 S2
        unfold kGone0
        cases fl2 <;> simp only [x_ok, x_bad]
  | _ => simp only [x_ok]; rfl
theorem k_try0N : kTry0 l h Q E (.nx env) S = Q (.nx env) S := rfl
theorem k_try0X {fs : List (Str × D)} (hc : catchD l c = some true) : kTry0 l h Q E (.xc ⟨c, fs⟩ env) S = Tx (h env S) (kGone0 Q) E := by
  show (match catchD l c with | some true => _ | some false => _ | none => _) = _
  rw [hc]
theorem k_gone0R {d : D} : kGone0 Q (.rt d) S = Q (.rt d) S := rfl
end
def dIn (a : List Nat) : D := if a.length = 10 ∧ a[4]? = some 45 ∧ a[7]? = some 45 ∧ figs (a.take 4) = true ∧ figs ((a.drop 5).take 2) = true ∧ figs (a.drop 8) = true then dueV (.tup [.int (dv (a.take 4)), .int (dv ((a.drop 5).take 2)), .int (dv (a.drop 8))]) else .non
theorem dv_nn {a : List Nat} : 0 ≤ dv a := by unfold dv; omega
theorem s_day_in {a : List Nat} {S : Sto} (h : a.length ≤ 16777216) : M.day_in [.str (SX.S a)] S = .ok (dIn a) S := by
  refine tri_eq ?_
  have hl : (SX.S a).length = a.length := SX.S_len a
  have hl1 : (SX.S a).length ≤ 16777216 := by rw [hl]; exact h
  unfold dIn
  by_cases h10 : a.length = 10
  · obtain ⟨c0, c1, c2, c3, c4, c5, c6, c7, c8, c9, rfl⟩ : ∃ c0 c1 c2 c3 c4 c5 c6 c7 c8 c9, a = [c0, c1, c2, c3, c4, c5, c6, c7, c8, c9] := by
      match a, h10 with
      | [c0, c1, c2, c3, c4, c5, c6, c7, c8, c9], _ => exact ⟨_, _, _, _, _, _, _, _, _, _, rfl⟩
    have i4 : ∀ S, opIx (.str (SX.S [c0, c1, c2, c3, c4, c5, c6, c7, c8, c9])) (.int 4) S = .ok (.str (SX.S [c4])) S := fun S => by rw [ix_S h]; rfl
    have i7 : ∀ S, opIx (.str (SX.S [c0, c1, c2, c3, c4, c5, c6, c7, c8, c9])) (.int 7) S = .ok (.str (SX.S [c7])) S := fun S => by rw [ix_S h]; rfl
    have sA : ∀ S, opSl (.str (SX.S [c0, c1, c2, c3, c4, c5, c6, c7, c8, c9])) none (some 4) S = .ok (.str (SX.S [c0, c1, c2, c3])) S := fun S => by rw [sl_S hl1, cutS_to (by omega)]; rfl
    have sB : ∀ S, opSl (.str (SX.S [c0, c1, c2, c3, c4, c5, c6, c7, c8, c9])) (some 5) (some 7) S = .ok (.str (SX.S [c5, c6])) S := fun S => by rw [sl_S hl1, cutS_bt (by omega) (by omega)]; rfl
    have sC : ∀ S, opSl (.str (SX.S [c0, c1, c2, c3, c4, c5, c6, c7, c8, c9])) (some 8) none S = .ok (.str (SX.S [c8, c9])) S := fun S => by rw [sl_S hl1, cutS_from (by omega)]; rfl
    have fA := fun S => s_are_figures (a := [c0, c1, c2, c3]) (n := 4) (S := S) (by simp)
    have fB := fun S => s_are_figures (a := [c5, c6]) (n := 2) (S := S) (by simp)
    have fC := fun S => s_are_figures (a := [c8, c9]) (n := 2) (S := S) (by simp)
    have hl10 : (SX.S [c0, c1, c2, c3, c4, c5, c6, c7, c8, c9]).length = 10 := hl
    by_cases e4 : c4 = 45
    · subst e4
      by_cases e7 : c7 = 45
      · subst e7
        cases gA : figs [c0, c1, c2, c3] with
        | false =>
          rw [gA] at fA
          rw [if_neg (by rintro ⟨_, _, _, z, _⟩; exact absurd (show false = true from gA ▸ z) (by decide))]
          simp_all_arith! only [x_obj, k_obj, x_lenO, k_lenO, k_lenK, x_ixO, k_ixO1, k_ixO2, k_ixK, x_sAppO, k_appO1, k_appK1, k_appO2, k_appK2, x_sPutL, k_putL1, k_putL2, k_putL3, k_putK3, x_lcO, k_lcO, k_lcoK, x_rngD, k_rngD1, k_rngD2, k_rngD3, x_lsR, k_lsR1, k_lsR2, x_cnt, k_cnt, k_cntK, x_sTry, k_tryN, k_tryR, k_tryX, k_goneN, k_goneR, x_sRaise, x_sRaise1, k_raise1, x_isE, k_isE, x_xf, k_xf, isNon_exc, M.day_in, M.b_day_in, hl10, i4, i7, ne_hy, sA, sB, sC, fA]
        | true =>
          cases gB : figs [c5, c6] with
          | false =>
            rw [gA] at fA; rw [gB] at fB
            rw [if_neg (by rintro ⟨_, _, _, _, z, _⟩; exact absurd (show false = true from gB ▸ z) (by decide))]
            simp_all_arith! only [x_obj, k_obj, x_lenO, k_lenO, k_lenK, x_ixO, k_ixO1, k_ixO2, k_ixK, x_sAppO, k_appO1, k_appK1, k_appO2, k_appK2, x_sPutL, k_putL1, k_putL2, k_putL3, k_putK3, x_lcO, k_lcO, k_lcoK, x_rngD, k_rngD1, k_rngD2, k_rngD3, x_lsR, k_lsR1, k_lsR2, x_cnt, k_cnt, k_cntK, x_sTry, k_tryN, k_tryR, k_tryX, k_goneN, k_goneR, x_sRaise, x_sRaise1, k_raise1, x_isE, k_isE, x_xf, k_xf, isNon_exc, M.day_in, M.b_day_in, hl10, i4, i7, ne_hy, sA, sB, sC, fA, fB]
          | true =>
            cases gC : figs [c8, c9] with
            | false =>
              rw [gA] at fA; rw [gB] at fB; rw [gC] at fC
              rw [if_neg (by rintro ⟨_, _, _, _, _, z⟩; exact absurd (show false = true from gC ▸ z) (by decide))]
              simp_all_arith! only [x_obj, k_obj, x_lenO, k_lenO, k_lenK, x_ixO, k_ixO1, k_ixO2, k_ixK, x_sAppO, k_appO1, k_appK1, k_appO2, k_appK2, x_sPutL, k_putL1, k_putL2, k_putL3, k_putK3, x_lcO, k_lcO, k_lcoK, x_rngD, k_rngD1, k_rngD2, k_rngD3, x_lsR, k_lsR1, k_lsR2, x_cnt, k_cnt, k_cntK, x_sTry, k_tryN, k_tryR, k_tryX, k_goneN, k_goneR, x_sRaise, x_sRaise1, k_raise1, x_isE, k_isE, x_xf, k_xf, isNon_exc, M.day_in, M.b_day_in, hl10, i4, i7, ne_hy, sA, sB, sC, fA, fB, fC]
            | true =>
              rw [gA] at fA; rw [gB] at fB; rw [gC] at fC
              rw [if_pos ⟨h10, rfl, rfl, gA, gB, gC⟩]
              have pA := fun S => p_intS (S := S) gA (by simp) (by simp)
              have pB := fun S => p_intS (S := S) gB (by simp) (by simp)
              have pC := fun S => p_intS (S := S) gC (by simp) (by simp)
              have hd := fun S => s_day_ofD (n := 1) (d := .tup [.int (dv [c0, c1, c2, c3]), .int (dv [c5, c6]), .int (dv [c8, c9])]) (S := S) (by simp only [okd_t, okdL_c, okdL_n, okd_i, Bool.and_self])
              have c1' : catchD [(21, true)] 21 = some true := rfl
              unfold dueV
              show Tx _ _ _
              cases e : dayD (.tup [.int (dv [c0, c1, c2, c3]), .int (dv [c5, c6]), .int (dv [c8, c9])]) with
              | none =>
                rw [e] at hd
                simp only [] at hd
                simp_all_arith! only [x_obj, k_obj, x_lenO, k_lenO, k_lenK, x_ixO, k_ixO1, k_ixO2, k_ixK, x_sAppO, k_appO1, k_appK1, k_appO2, k_appK2, x_sPutL, k_putL1, k_putL2, k_putL3, k_putK3, x_lcO, k_lcO, k_lcoK, x_rngD, k_rngD1, k_rngD2, k_rngD3, x_lsR, k_lsR1, k_lsR2, x_cnt, k_cnt, k_cntK, x_sTry, k_tryN, k_tryR, k_tryX, k_goneN, k_goneR, x_sRaise, x_sRaise1, k_raise1, x_isE, k_isE, x_xf, k_xf, isNon_exc, M.day_in, M.b_day_in, hl10, i4, i7, ne_hy, sA, sB, sC, fA, fB, fC, pA, pB, pC, hd, x_sTry0, k_try0N, k_try0X, k_gone0R, c1', k_x]
                rw [e]
              | some j =>
                rw [e] at hd
                simp only [] at hd
                simp_all_arith! only [x_obj, k_obj, x_lenO, k_lenO, k_lenK, x_ixO, k_ixO1, k_ixO2, k_ixK, x_sAppO, k_appO1, k_appK1, k_appO2, k_appK2, x_sPutL, k_putL1, k_putL2, k_putL3, k_putK3, x_lcO, k_lcO, k_lcoK, x_rngD, k_rngD1, k_rngD2, k_rngD3, x_lsR, k_lsR1, k_lsR2, x_cnt, k_cnt, k_cntK, x_sTry, k_tryN, k_tryR, k_tryX, k_goneN, k_goneR, x_sRaise, x_sRaise1, k_raise1, x_isE, k_isE, x_xf, k_xf, isNon_exc, M.day_in, M.b_day_in, hl10, i4, i7, ne_hy, sA, sB, sC, fA, fB, fC, pA, pB, pC, hd, x_sTry0, k_try0N]
                rw [e]
      · rw [if_neg (by rintro ⟨_, _, z, _⟩; exact e7 (by simpa using z))]
        simp_all_arith! only [x_obj, k_obj, x_lenO, k_lenO, k_lenK, x_ixO, k_ixO1, k_ixO2, k_ixK, x_sAppO, k_appO1, k_appK1, k_appO2, k_appK2, x_sPutL, k_putL1, k_putL2, k_putL3, k_putK3, x_lcO, k_lcO, k_lcoK, x_rngD, k_rngD1, k_rngD2, k_rngD3, x_lsR, k_lsR1, k_lsR2, x_cnt, k_cnt, k_cntK, x_sTry, k_tryN, k_tryR, k_tryX, k_goneN, k_goneR, x_sRaise, x_sRaise1, k_raise1, x_isE, k_isE, x_xf, k_xf, isNon_exc, M.day_in, M.b_day_in, hl10, i4, i7, ne_hy, e7]
    · rw [if_neg (by rintro ⟨_, z, _⟩; exact e4 (by simpa using z))]
      simp_all_arith! only [x_obj, k_obj, x_lenO, k_lenO, k_lenK, x_ixO, k_ixO1, k_ixO2, k_ixK, x_sAppO, k_appO1, k_appK1, k_appO2, k_appK2, x_sPutL, k_putL1, k_putL2, k_putL3, k_putK3, x_lcO, k_lcO, k_lcoK, x_rngD, k_rngD1, k_rngD2, k_rngD3, x_lsR, k_lsR1, k_lsR2, x_cnt, k_cnt, k_cntK, x_sTry, k_tryN, k_tryR, k_tryX, k_goneN, k_goneR, x_sRaise, x_sRaise1, k_raise1, x_isE, k_isE, x_xf, k_xf, isNon_exc, M.day_in, M.b_day_in, hl10, i4, ne_hy, e4]
  · rw [if_neg (fun z => h10 z.1)]
    have hn : ¬ ((a.length : Int) = 10) := by omega
    simp_all_arith! only [x_obj, k_obj, x_lenO, k_lenO, k_lenK, x_ixO, k_ixO1, k_ixO2, k_ixK, x_sAppO, k_appO1, k_appK1, k_appO2, k_appK2, x_sPutL, k_putL1, k_putL2, k_putL3, k_putK3, x_lcO, k_lcO, k_lcoK, x_rngD, k_rngD1, k_rngD2, k_rngD3, x_lsR, k_lsR1, k_lsR2, x_cnt, k_cnt, k_cntK, x_sTry, k_tryN, k_tryR, k_tryX, k_goneN, k_goneR, x_sRaise, x_sRaise1, k_raise1, x_isE, k_isE, x_xf, k_xf, isNon_exc, M.day_in, M.b_day_in, hl, hn]
theorem figs_app {a b : List Nat} : figs (a ++ b) = (figs a && figs b) := by unfold figs; rw [List.all_append]
end G

set_option maxHeartbeats 2000000
namespace G
open PySem L2 C
local macro_rules
  | `(tactic| simp_arith! only [$xs,*]) => `(tactic| simp -implicitDefEqProofs (disch := first | assumption | omega | (simp only [okd_i, okd_n, okd_b, okd_s, strOk_of, okd_t, okd_l, okdL_n, okdL_c, Bool.and_true, Bool.and_self, *]; done) | (simp only [List.length_cons, List.length_nil, List.length_append, List.length_map, List.length_set, List.length_take, List.length_drop, List.length_reverse, rangeD_len, zipD_len, enumD_len] <;> omega)) only [x_ok, at0, at1, at2, at3, at4, at5, x_dict, k_dict, x_pairsN, x_pairsC, k_p1, k_p2, k_p3i, k_p3s, cut_ns, cut_sn, cut_ss, sl_L, sl_F, sl_T, sl_S, x_exc, slotV_v, slotO_v, slotO_o, x_var, x_own, x_c, x_bin, k_bin1, k_bin2, x_neg, k_neg, x_tup, k_tup, x_lst, k_lst, x_nCat, k_cat1, k_cat2, x_nRep, k_rep1, k_rep2, x_frz, k_frz, x_nil, x_cons, k_cons1, k_cons2, x_val, k_val, tr_bl, tr_non, tr_int, tr_lst, tr_tup, tr_frl, tr_str, x_and, x_or, x_not, k_and, k_or, k_not, x_tT, x_ifE, k_ifE, x_andV, x_orV, x_notV, k_andV, k_orV, k_notV, x_chain, k_ch1, k_ch2, k_ch3, x_call, x_callN, k_call, x_opt, k_some, x_isi, k_isi, x_oNone, x_oSome, k_oSome, x_nSl, k_nsl1, k_nsl2, k_nsl3L, k_nsl3F, x_sl, k_sl1, k_sl2, k_sl3, x_rev, k_rev, k_revT, x_fn, k_fn, x_fnB, k_fnB, x_tStill, k_stB, x_eStill, envB_t, envB_f, envB_n, envB_e, frzB_u, frzB_o, frzB_v, frzB_i, frzB_b, frzB_s, frzB_non, frzB_t, frzB_l, k_nolB, k_nolI, k_nolS, k_nolN, x_seq, k_seqL, k_seqT, k_seqF, k_seqS, x_rng1, k_rng1, x_rng2, k_rng2a, k_rng2b, x_enum, k_enum, k_enumT, x_zip, k_zipL, k_zipT, k_zipM, k_zipN, x_lc, k_lc, x_sNil, x_sSeq, k_sqn, k_sqr, k_sqb, k_sqc, k_sqx, x_sExpr, k_expr, x_sRet, k_ret, x_sRetN, x_sRetO, k_retO, x_sRetL, k_retL, x_nFn, k_fnN, k_sqo, k_turnO, k_wtO, x_runN, k_runO, k_runOX, x_sBrk, x_sCnt, x_sSet, k_set, x_sOwn, k_own, tg_some, x_sTg, k_tg, gN_ok, gT_t, gTs_n, gTs_c, x_sIf, k_if, x_sFor, k_for, x_sWhile, x_sFrz, frzE_eq, frz_o, frz_v, frz_u, slotL_o, k_mod, x_modE, x_withO, x_sApp, k_appL, k_app, hApp_ok, x_sSlA, k_slAL, k_slA, hAll_ok, x_sIns, k_insL, k_ins1, k_ins2, hIns_ok, x_sRevO, k_revO, x_sClrO, k_clrO, x_sExt, k_extL, k_ext, hExt_ok, x_sSetIx, k_setIxL, k_setIx1, k_setIx2, k_putK, x_sPut, k_put1, k_put2, k_put3, x_sPar, k_par, x_sPar3, k_par3, x_run, k_runN, k_runR, k_runX, k_x, q_add, q_sub, q_addBI, q_addIB, q_subBI, q_subIB, p_strB, p_strS, tI_t, tI_f, q_mul, q_rep, q_div, q_mod, q_lt, q_le, q_gt, q_ge, q_eq, q_ne, q_is, q_isn, q_isB, q_isnB, q_isnI, x_idx, k_idx1, k_idx2, q_catL, q_catT, q_catS, isNon_non, isNon_int, isNon_bl, isNon_str, isNon_tup, isNon_lst, p_divmod, p_lenL, p_lenT, p_lenF, p_lenS, p_intB, p_intI, p_max2, p_min2, p_tupL, p_tupT, p_lstL, p_lstT, p_lstF, is_intI, is_intB, is_intS, is_intN, is_intT, is_intL, is_blI, is_blB, is_blS, is_blN, is_blT, is_blL, is_strI, is_strB, is_strS, is_strN, is_strT, is_strL, is_tupI, is_tupB, is_tupS, is_tupN, is_tupT, is_tupL, is_lstI, is_lstB, is_lstS, is_lstN, is_lstT, is_lstL, opIx_lst, opIx_tup, opIx_frl, k_midN, k_midC, k_midB, k_midR, k_midO, k_midX, k_turnN, k_turnC, k_turnB, k_turnR, k_turnX, k_wtN, k_wtC, k_wtB, k_wtR, k_wtX, k_wc, k_le, frzE_eq, turn_eq, turnC_eq, k_le, forL_nil, lcL_nil, startE, decide_eq_true_eq, decide_eq_false_iff_not, decide_true, decide_false, Bool.not_eq_true', Bool.not_eq_eq_eq_not, Bool.not_true, Bool.not_false, Bool.true_eq_false, Bool.false_eq_true, Bool.not_not, Option.bind_some, Option.map_some, List.map_cons, List.map_nil, List.length_cons, List.length_nil, List.cons_append, List.nil_append, List.set_cons_zero, List.set_cons_succ, List.getElem?_cons_zero, List.getElem?_cons_succ, List.length_set, ↓reduceIte, if_true, if_false, ite_self, List.replicate, List.take_succ_cons, List.take_zero, List.drop_succ_cons, List.drop_zero, List.flatten_cons, List.flatten_nil, Int.reduceToNat, List.isEmpty_cons, List.isEmpty_nil, Nat.reduceAdd, Nat.reduceSub, Nat.reduceLT, Nat.reduceLeDiff, Nat.reduceEqDiff, Int.cast_ofNat_Int, not_true_eq_false, not_false_eq_true, Int.reduceAdd, Int.reduceSub, Int.reduceMul, Int.reduceLT, Int.reduceLE, Int.reduceEq, Int.reduceNe, Int.reduceNeg, Int.zero_add, ne_eq, id, wipeE, lcL_nil, eq_self, and_true, true_and, D.int.injEq, D.bl.injEq, ofS_eq, String.reduceEq, q_eqD, q_neD, q_inT, q_inL, q_ninT, q_ninL, beq_self_eq_true, List.any_cons, List.any_nil, Bool.or_false, Bool.false_or, Bool.or_true, Bool.true_or, deq_nb, deq_ni, deq_ns, deq_nt, deq_nl, deq_bn, deq_bs, deq_bt, deq_bl, deq_in, deq_is, deq_it, deq_il, deq_sn, deq_sb, deq_si, deq_st, deq_sl, deq_tn, deq_tb, deq_ti, deq_ts, deq_tl, deq_ln, deq_lb, deq_li, deq_ls, deq_lt, deq_nn, deq_bb, deq_ii, deq_ss, deq_tt, deq_ll, deqL_nn, deqL_cc, deqL_nc, deqL_cn, okd_i, okd_n, okd_b, okd_t, okd_l, okdL_n, okdL_c, Bool.and_true, Bool.true_and, Bool.and_false, Bool.false_and, $xs,*])

/-- a number by so many figures -/
def pad (w n : Nat) : List Nat := List.replicate (w - (TL.numL n).length) 48 ++ TL.numL n
theorem pad_len {w n : Nat} (hw : 0 < w) (h : n < 10 ^ w) : (pad w n).length = w := by
  have := TL.numL_len hw h
  unfold pad; rw [List.length_append, List.length_replicate]; omega
theorem dv_zero {k : Nat} {a : List Nat} : dv (List.replicate k 48 ++ a) = dv a := by
  unfold dv
  congr 1
  unfold NumText.digitsVal
  rw [List.foldl_append]
  congr 1
  induction k with
  | zero => rfl
  | succ k ih => rw [List.replicate_succ, List.foldl_cons]; exact ih
theorem dv_pad {w n : Nat} : dv (pad w n) = n := by
  unfold pad
  rw [dv_zero]
  unfold dv
  rw [TL.numL_val]
theorem figs_pad {w n : Nat} : figs (pad w n) = true := by
  unfold figs pad
  rw [List.all_append, Bool.and_eq_true]
  refine ⟨?_, ?_⟩
  · rw [List.all_eq_true]
    intro c hc
    rw [List.eq_of_mem_replicate hc]; decide
  · rw [List.all_eq_true]
    intro c hc
    rw [decide_eq_true_eq, mem_dig]
    exact TL.numL_digits n c hc
theorem p_strN {n : Nat} {S : Sto} (h : n ≤ 1000000) : pStr [.int (n : Int)] S = .ok (.str (SX.S (TL.numL n))) S := by
  show mk (decide _) _ S = _
  rw [decide_eq_true]
  · rw [← SX.num_S]; rfl
  · show Nat.log2 n < 1920
    have h1 : n < 2 ^ 20 := by omega
    by_cases h0 : n = 0
    · subst h0; decide
    · have := (Nat.log2_lt h0).mpr h1
      omega
theorem zfill_pad {n w : Nat} : Txt.zfill (SX.S (TL.numL n)) (w : Int) = SX.S (pad w n) := by
  have hlen : (SX.S (TL.numL n)).length = (TL.numL n).length := SX.S_len _
  unfold Txt.zfill pad
  rw [hlen]
  by_cases h : (w : Int) ≤ ((TL.numL n).length : Nat)
  · rw [if_pos h, show w - (TL.numL n).length = 0 by omega]; rfl
  · rw [if_neg h]
    unfold zfilled
    have hd := TL.numL_digits n
    have hne := TL.numL_ne n
    generalize TL.numL n = a at hd hne
    obtain ⟨c, r, rfl⟩ : ∃ c r, a = c :: r := by
      cases a with
      | nil => exact absurd rfl hne
      | cons c r => exact ⟨c, r, rfl⟩
    have hc := hd c (by simp)
    have e : (SX.S (c :: r)).cps[0]? = some c := rfl
    rw [e]
    have e4 : ∀ {z : Str}, Builtin.Str.padded (SX.S (c :: r)) ((w : Int).toNat - (c :: r).length) 0 48 = z → (match some c with | some 43 => Builtin.Str.strSub (SX.S (c :: r)) 0 1 ++ Builtin.Str.padded (Builtin.Str.strSub (SX.S (c :: r)) 1 (SX.S (c :: r)).length) ((w : Int).toNat - (c :: r).length) 0 48 | some 45 => Builtin.Str.strSub (SX.S (c :: r)) 0 1 ++ Builtin.Str.padded (Builtin.Str.strSub (SX.S (c :: r)) 1 (SX.S (c :: r)).length) ((w : Int).toNat - (c :: r).length) 0 48 | _ => Builtin.Str.padded (SX.S (c :: r)) ((w : Int).toNat - (c :: r).length) 0 48) = z := by
      intro z hz
      split
      · rename_i h; have := Option.some.inj h; omega
      · rename_i h; have := Option.some.inj h; omega
      · exact hz
    refine e4 ?_
    unfold Builtin.Str.padded
    have e3 : (w : Int).toNat - (c :: r).length = w - (c :: r).length := by omega
    rw [e3]
    show (⟨_⟩ : Str) = ⟨_⟩
    congr 1
    apply Array.ext'
    simp
section
variable {env : Env} {S : Sto} {E : EX} {K : KD} {fa : Ex} {fs : Sem1 (List D)} {x : Str} {i : Int}
def kZf2 (x : Str) (K : KD) : KL := fun ys S => match ys with
  | [.int i] => PadOk i = true ∧ K (.str (Txt.zfill x i)) S
  | _ => False
def kZf (fs : Sem1 (List D)) (env : Env) (K : KD) (E : EX) : KD := fun d S => match d with
  | .str x => Tx (fs env S) (kZf2 x K) E
  | _ => False
theorem x_zfill : Tx (eZfill fa fs env S) K E = Tx (fa env S) (kZf fs env K E) E := by
  unfold eZfill; rw [x_bind]; congr 1; funext d S1; unfold kZf
  cases d with
  | str x =>
    simp only []
    rw [x_bind]; congr 1; funext ys S2; unfold kZf2
    split
    · rename_i i
      by_cases h : PadOk i = true
      · rw [if_pos h, x_ok, eq_iff_iff]; exact ⟨fun q => ⟨h, q⟩, fun q => q.2⟩
      · rw [if_neg h, x_bad, eq_iff_iff]; exact ⟨fun q => q.elim, fun q => h q.1⟩
    · rename_i hh
      first
        | (rw [x_bad]; done)
        | (rw [x_bad]; split; · rename_i i; exact absurd rfl (hh i)
           · rfl)
  | _ => simp only [x_bad]
theorem k_zfill : kZf fs env K E (.str x) S = Tx (fs env S) (kZf2 x K) E := rfl
theorem k_zfill2 (h : PadOk i = true) : kZf2 x K [.int i] S = K (.str (Txt.zfill x i)) S := by
  show (_ ∧ _) = _
  rw [eq_iff_iff]; exact ⟨fun q => q.2, fun q => ⟨h, q⟩⟩
end
theorem s_wide {n w : Nat} {S : Sto} (hw2 : w ≤ 100) (hn : n ≤ 1000000) : M.wide [.int (n : Int), .int (w : Int)] S = .ok (.str (SX.S (pad w n))) S := by
  refine tri_eq ?_
  have e2 : ∀ S, pStr [.int (n : Int)] S = .ok (.str (SX.S (TL.numL n))) S := fun S => p_strN hn
  have hp : PadOk (w : Int) = true := by
    unfold PadOk fitsSsize Builtin.Str.tooLong
    rw [decide_eq_false (by omega), decide_eq_false (by omega), PySem.sizeLine_eq, Int.toNat_natCast]
    simp; omega
  simp_arith! only [M.wide, M.b_wide, e2, x_zfill, k_zfill, k_zfill2, hp, zfill_pad]
def dtext (y m k : Nat) : List Nat := pad 4 y ++ [45] ++ pad 2 m ++ [45] ++ pad 2 k
theorem dtext_ex {y m k : Nat} (hy : y < 10000) (hm : m < 100) (hk : k < 100) : ∃ a b c d e f g h, pad 4 y = [a, b, c, d] ∧ pad 2 m = [e, f] ∧ pad 2 k = [g, h] := by
  have h1 := pad_len (w := 4) (by omega) hy
  have h2 := pad_len (w := 2) (by omega) hm
  have h3 := pad_len (w := 2) (by omega) hk
  match pad 4 y, pad 2 m, pad 2 k, h1, h2, h3 with
  | [a, b, c, d], [e, f], [g, h], _, _, _ => exact ⟨a, b, c, d, e, f, g, h, rfl, rfl, rfl⟩
theorem dtext_len {y m k : Nat} (hy : y < 10000) (hm : m < 100) (hk : k < 100) : (dtext y m k).length = 10 := by
  obtain ⟨a, b, c, d, e, f, g, h, e1, e2, e3⟩ := dtext_ex hy hm hk
  unfold dtext; rw [e1, e2, e3]; rfl
theorem dIn_text {y m k : Nat} (hy : y < 10000) (hm : m < 100) (hk : k < 100) : dIn (dtext y m k) = dueV (.tup [.int y, .int m, .int k]) := by
  obtain ⟨a, b, c, d, e, f, g, h, e1, e2, e3⟩ := dtext_ex hy hm hk
  have f1 := figs_pad (w := 4) (n := y); have f2 := figs_pad (w := 2) (n := m); have f3 := figs_pad (w := 2) (n := k)
  have v1 := dv_pad (w := 4) (n := y); have v2 := dv_pad (w := 2) (n := m); have v3 := dv_pad (w := 2) (n := k)
  unfold dIn dtext
  rw [e1] at f1 v1 ⊢; rw [e2] at f2 v2 ⊢; rw [e3] at f3 v3 ⊢
  rw [if_pos ⟨rfl, rfl, rfl, f1, f2, f3⟩]
  show dueV (.tup [.int (dv [a, b, c, d]), .int (dv [e, f]), .int (dv [g, h])]) = _
  rw [v1, v2, v3]
theorem s_show_day {y m k : Nat} {S : Sto} (y1 : 2001 ≤ y) (y2 : y ≤ 2274) (m1 : 1 ≤ m) (m2 : m ≤ 12) (k1 : 1 ≤ k) (k2 : (k : Int) ≤ ml (12 * ((y : Int) - 2001) + m - 1)) :
    M.show_day [.int (FO (12 * ((y : Int) - 2001) + m - 1) + k - 1)] S = .ok (.str (SX.S (dtext y m k))) S := by
  refine tri_eq ?_
  have hml := ml_pos (12 * ((y : Int) - 2001) + m - 1)
  have hd := fun S => s_date_of (n := 12 * ((y : Int) - 2001) + m - 1) (d := FO (12 * ((y : Int) - 2001) + m - 1) + k - 1) (S := S) (by omega) (by omega) (by omega) (by omega)
  rw [show 2001 + (12 * ((y : Int) - 2001) + m - 1) / 12 = (y : Int) by omega, show (12 * ((y : Int) - 2001) + m - 1) % 12 + 1 = (m : Int) by omega, show FO (12 * ((y : Int) - 2001) + m - 1) + k - 1 - FO (12 * ((y : Int) - 2001) + m - 1) + 1 = (k : Int) by omega] at hd
  have f1 : ∀ S, M.wide [.int (y : Int), .int 4] S = .ok (.str (SX.S (pad 4 y))) S := fun S => s_wide (n := y) (w := 4) (S := S) (by omega) (by omega)
  have f2 : ∀ S, M.wide [.int (m : Int), .int 2] S = .ok (.str (SX.S (pad 2 m))) S := fun S => s_wide (n := m) (w := 2) (S := S) (by omega) (by omega)
  have f3 : ∀ S, M.wide [.int (k : Int), .int 2] S = .ok (.str (SX.S (pad 2 k))) S := fun S => s_wide (n := k) (w := 2) (S := S) (by omega) (by omega)
  have l1 := pad_len (w := 4) (n := y) (by omega) (by omega)
  have l2 := pad_len (w := 2) (n := m) (by omega) (by omega)
  have l3 := pad_len (w := 2) (n := k) (by omega) (by omega)
  have a1 : ∀ S, opAdd (.str (SX.S (pad 4 y))) (.str "-") S = .ok (.str (SX.S (pad 4 y ++ [45]))) S := fun S => by rw [hy_S, q_catSS (by rw [l1]; simp)]
  have a2 : ∀ S, opAdd (.str (SX.S (pad 4 y ++ [45]))) (.str (SX.S (pad 2 m))) S = .ok (.str (SX.S (pad 4 y ++ [45] ++ pad 2 m))) S := fun S => by rw [q_catSS (by simp; omega)]
  have a3 : ∀ S, opAdd (.str (SX.S (pad 4 y ++ [45] ++ pad 2 m))) (.str "-") S = .ok (.str (SX.S (pad 4 y ++ [45] ++ pad 2 m ++ [45]))) S := fun S => by rw [hy_S, q_catSS (by simp; omega)]
  have a4 : ∀ S, opAdd (.str (SX.S (pad 4 y ++ [45] ++ pad 2 m ++ [45]))) (.str (SX.S (pad 2 k))) S = .ok (.str (SX.S (dtext y m k))) S := fun S => by rw [q_catSS (by simp; omega)]; rfl
  simp_arith! only [M.show_day, M.b_show_day, hd, f1, f2, f3, a1, a2, a3, a4]
end G

set_option maxHeartbeats 2000000
namespace G
open PySem L2
local macro_rules
  | `(tactic| simp_all_arith! only [$xs,*]) => `(tactic| simp -implicitDefEqProofs (disch := first | assumption | omega | (simp only [okd_i, okd_n, okd_b, okd_s, strOk_of, okd_t, okd_l, okdL_n, okdL_c, Bool.and_true, Bool.and_self, *]; done) | (simp only [List.length_cons, List.length_nil, List.length_append, List.length_map, List.length_set, List.length_take, List.length_drop, List.length_reverse, rangeD_len, zipD_len, enumD_len] <;> omega)) only [x_ok, at0, at1, at2, at3, at4, at5, x_dict, k_dict, x_pairsN, x_pairsC, k_p1, k_p2, k_p3i, k_p3s, cut_ns, cut_sn, cut_ss, sl_L, sl_F, sl_T, sl_S, x_exc, slotV_v, slotO_v, slotO_o, x_var, x_own, x_c, x_bin, k_bin1, k_bin2, x_neg, k_neg, x_tup, k_tup, x_lst, k_lst, x_nCat, k_cat1, k_cat2, x_nRep, k_rep1, k_rep2, x_frz, k_frz, x_nil, x_cons, k_cons1, k_cons2, x_val, k_val, tr_bl, tr_non, tr_int, tr_lst, tr_tup, tr_frl, tr_str, x_and, x_or, x_not, k_and, k_or, k_not, x_tT, x_ifE, k_ifE, x_andV, x_orV, x_notV, k_andV, k_orV, k_notV, x_chain, k_ch1, k_ch2, k_ch3, x_call, x_callN, k_call, x_opt, k_some, x_isi, k_isi, x_oNone, x_oSome, k_oSome, x_nSl, k_nsl1, k_nsl2, k_nsl3L, k_nsl3F, x_sl, k_sl1, k_sl2, k_sl3, x_rev, k_rev, k_revT, x_fn, k_fn, x_fnB, k_fnB, x_tStill, k_stB, x_eStill, envB_t, envB_f, envB_n, envB_e, frzB_u, frzB_o, frzB_v, frzB_i, frzB_b, frzB_s, frzB_non, frzB_t, frzB_l, k_nolB, k_nolI, k_nolS, k_nolN, x_seq, k_seqL, k_seqT, k_seqF, k_seqS, x_rng1, k_rng1, x_rng2, k_rng2a, k_rng2b, x_enum, k_enum, k_enumT, x_zip, k_zipL, k_zipT, k_zipM, k_zipN, x_lc, k_lc, x_sNil, x_sSeq, k_sqn, k_sqr, k_sqb, k_sqc, k_sqx, x_sExpr, k_expr, x_sRet, k_ret, x_sRetN, x_sRetO, k_retO, x_sRetL, k_retL, x_nFn, k_fnN, k_sqo, k_turnO, k_wtO, x_runN, k_runO, k_runOX, x_sBrk, x_sCnt, x_sSet, k_set, x_sOwn, k_own, tg_some, x_sTg, k_tg, gN_ok, gT_t, gTs_n, gTs_c, x_sIf, k_if, x_sFor, k_for, x_sWhile, x_sFrz, frzE_eq, frz_o, frz_v, frz_u, slotL_o, k_mod, x_modE, x_withO, x_sApp, k_appL, k_app, hApp_ok, x_sSlA, k_slAL, k_slA, hAll_ok, x_sIns, k_insL, k_ins1, k_ins2, hIns_ok, x_sRevO, k_revO, x_sClrO, k_clrO, x_sExt, k_extL, k_ext, hExt_ok, x_sSetIx, k_setIxL, k_setIx1, k_setIx2, k_putK, x_sPut, k_put1, k_put2, k_put3, x_sPar, k_par, x_sPar3, k_par3, x_run, k_runN, k_runR, k_runX, k_x, q_add, q_sub, q_addBI, q_addIB, q_subBI, q_subIB, p_strB, p_strS, tI_t, tI_f, q_mul, q_rep, q_div, q_mod, q_lt, q_le, q_gt, q_ge, q_eq, q_ne, q_is, q_isn, q_isB, q_isnB, q_isnI, x_idx, k_idx1, k_idx2, q_catL, q_catT, q_catS, isNon_non, isNon_int, isNon_bl, isNon_str, isNon_tup, isNon_lst, p_divmod, p_lenL, p_lenT, p_lenF, p_lenS, p_intB, p_intI, p_max2, p_min2, p_tupL, p_tupT, p_lstL, p_lstT, p_lstF, is_intI, is_intB, is_intS, is_intN, is_intT, is_intL, is_blI, is_blB, is_blS, is_blN, is_blT, is_blL, is_strI, is_strB, is_strS, is_strN, is_strT, is_strL, is_tupI, is_tupB, is_tupS, is_tupN, is_tupT, is_tupL, is_lstI, is_lstB, is_lstS, is_lstN, is_lstT, is_lstL, opIx_lst, opIx_tup, opIx_frl, k_midN, k_midC, k_midB, k_midR, k_midO, k_midX, k_turnN, k_turnC, k_turnB, k_turnR, k_turnX, k_wtN, k_wtC, k_wtB, k_wtR, k_wtX, k_wc, k_le, frzE_eq, turn_eq, turnC_eq, k_le, forL_nil, lcL_nil, startE, decide_eq_true_eq, decide_eq_false_iff_not, decide_true, decide_false, Bool.not_eq_true', Bool.not_eq_eq_eq_not, Bool.not_true, Bool.not_false, Bool.true_eq_false, Bool.false_eq_true, Bool.not_not, Option.bind_some, Option.map_some, List.map_cons, List.map_nil, List.length_cons, List.length_nil, List.cons_append, List.nil_append, List.set_cons_zero, List.set_cons_succ, List.getElem?_cons_zero, List.getElem?_cons_succ, List.length_set, ↓reduceIte, if_true, if_false, ite_self, List.replicate, List.take_succ_cons, List.take_zero, List.drop_succ_cons, List.drop_zero, List.flatten_cons, List.flatten_nil, Int.reduceToNat, List.isEmpty_cons, List.isEmpty_nil, Nat.reduceAdd, Nat.reduceSub, Nat.reduceLT, Nat.reduceLeDiff, Nat.reduceEqDiff, Int.cast_ofNat_Int, not_true_eq_false, not_false_eq_true, Int.reduceAdd, Int.reduceSub, Int.reduceMul, Int.reduceLT, Int.reduceLE, Int.reduceEq, Int.reduceNe, Int.reduceNeg, Int.zero_add, ne_eq, id, wipeE, lcL_nil, eq_self, and_true, true_and, D.int.injEq, D.bl.injEq, ofS_eq, String.reduceEq, q_eqD, q_neD, q_inT, q_inL, q_ninT, q_ninL, beq_self_eq_true, List.any_cons, List.any_nil, Bool.or_false, Bool.false_or, Bool.or_true, Bool.true_or, deq_nb, deq_ni, deq_ns, deq_nt, deq_nl, deq_bn, deq_bs, deq_bt, deq_bl, deq_in, deq_is, deq_it, deq_il, deq_sn, deq_sb, deq_si, deq_st, deq_sl, deq_tn, deq_tb, deq_ti, deq_ts, deq_tl, deq_ln, deq_lb, deq_li, deq_ls, deq_lt, deq_nn, deq_bb, deq_ii, deq_ss, deq_tt, deq_ll, deqL_nn, deqL_cc, deqL_nc, deqL_cn, okd_i, okd_n, okd_b, okd_t, okd_l, okdL_n, okdL_c, Bool.and_true, Bool.true_and, Bool.and_false, Bool.false_and, olt_t, olt_f, ole_t, ole_f, oeq_t, oeq_lt, oeq_gt, x_fld, k_fld, fld_ins, fld_new, lkP_c, lkF_c, lkF_n, meth_ins, lkM_c, k_optI, x_meth, k_meth, k_methS, k_meth2, x_sFld, k_sfld1, k_sfld2, k_setK, setO_new, putFD, List.mem_cons, List.not_mem_nil, or_true, true_or, or_false, false_or, or_self, Nat.reduceEqDiff, Nat.reduceSucc, reduceCtorEq, List.mem_nil_iff, false_and, and_false, and_self, $xs,*])

/-- a post at p: what was sent, how often it was brought -/
structure PoAt (S : Sto) (p a b : Nat) (sent : List D) (ts : List Int) : Prop where
  ip : S[p]? = some (.ins 6 [("sent", .obj a), ("times", .obj b)])
  ia : S[a]? = some (.lst sent)
  ib : S[b]? = some (.lst (ts.map D.int))
  pa : p ≠ a
  pb : p ≠ b
  ab : a ≠ b
section
variable {S : Sto} {p a b : Nat} {sent : List D} {ts : List Int}
theorem PoAt.fs (h : PoAt S p a b sent ts) : fldOf [6] "sent" S (.obj p) = some (.obj a) := by
  unfold fldOf insOf; simp only [h.ip]; rfl
theorem PoAt.ft (h : PoAt S p a b sent ts) : fldOf [6] "times" S (.obj p) = some (.obj b) := by
  unfold fldOf insOf; simp only [h.ip]; rfl
theorem PoAt.setA (h : PoAt S p a b sent ts) {s2 : List D} : PoAt (S.set a (.lst s2)) p a b s2 ts := by
  have la : a < S.length := (List.getElem?_eq_some_iff.mp h.ia).1
  refine ⟨?_, ?_, ?_, h.pa, h.pb, h.ab⟩
  · rw [List.getElem?_set_ne (Ne.symm h.pa)]; exact h.ip
  · rw [List.getElem?_set_self la]
  · rw [List.getElem?_set_ne h.ab]; exact h.ib
theorem PoAt.setB (h : PoAt S p a b sent ts) {t2 : List Int} : PoAt (S.set b (.lst (t2.map D.int))) p a b sent t2 := by
  have lb : b < S.length := (List.getElem?_eq_some_iff.mp h.ib).1
  refine ⟨?_, ?_, ?_, h.pa, h.pb, h.ab⟩
  · rw [List.getElem?_set_ne (Ne.symm h.pb)]; exact h.ip
  · rw [List.getElem?_set_ne (Ne.symm h.ab)]; exact h.ia
  · rw [List.getElem?_set_self lb]
/-- the store with the post's lists as told -/
def poS (S : Sto) (a b : Nat) (sent : List D) (ts : List Int) : Sto := (S.set a (.lst sent)).set b (.lst (ts.map D.int))
theorem PoAt.poS (h : PoAt S p a b sent ts) {s2 : List D} {t2 : List Int} : PoAt (poS S a b s2 t2) p a b s2 t2 := h.setA.setB
theorem PoAt.self (h : PoAt S p a b sent ts) : G.poS S a b sent ts = S := by
  unfold G.poS
  apply List.ext_getElem?
  intro j
  by_cases jb : b = j
  · subst jb
    have lb := (List.getElem?_eq_some_iff.mp h.ib).1
    rw [List.getElem?_set_self (by simpa using lb)]; exact h.ib.symm
  · rw [List.getElem?_set_ne jb]
    by_cases ja : a = j
    · subst ja
      have la := (List.getElem?_eq_some_iff.mp h.ia).1
      rw [List.getElem?_set_self la]; exact h.ia.symm
    · rw [List.getElem?_set_ne ja]
end
def kMake (c n : Nat) (sem : FnSem) (K : KD) (E : EX) : KL := fun ds S1 => ds.length + 1 = n ∧ Tx (sem (.obj S1.length :: ds) (S1 ++ [.ins c []])) (fun d S2 => d = .non ∧ K (.obj S1.length) S2) E
theorem PoAt.new {S : Sto} : PoAt (S ++ [.ins 6 [("sent", .obj (S.length + 1)), ("times", .obj (S.length + 2))], .lst [], .lst []]) S.length (S.length + 1) (S.length + 2) [] [] := by
  refine ⟨by simp, ?_, ?_, by omega, by omega, by omega⟩
  · rw [List.getElem?_append_right (by omega)]; simp
  · rw [List.getElem?_append_right (by omega)]; simp
section
variable {S : Sto} {p a b : Nat} {sent : List D} {ts : List Int}
def pairD (q : D × D) : D := .tup [q.1, q.2]
end
/-- the store behind the tape: one post -/
def poR (sent : List D) (ts : List Int) : Sto := [.ins 6 [("sent", .obj 2), ("times", .obj 3)], .lst sent, .lst (ts.map D.int)]
def selD (q : Int → Bool) (ts : List Int) : List D := ((List.range ts.length).filter fun k => q (ts.getD k 0)).map fun (k : Nat) => D.int ((k : Int) + 1)
def enP (q : Int → Bool) : D → Bool
  | .tup [.int _, .int m] => q m
  | _ => false
def enF : D → D
  | .tup [.int k, _] => .int (k + 1)
  | _ => .non
section
variable {S : Sto} {p a b : Nat} {sent : List D} {ts : List Int}
theorem Tp.poS {n : Nat} {s2 : List D} {t2 : List Int} (hT : Tp n (poR sent ts) S) : Tp n (poR s2 t2) (G.poS S 2 3 s2 t2) := by
  obtain ⟨ns, sp, l, rfl, h⟩ := hT
  exact ⟨ns, sp, l, rfl, h⟩
end
def rgP (q : Int → Bool) (ts : List Int) : D → Bool
  | .int k => q (ts.getD k.toNat 0)
  | _ => false
def rgF : D → D
  | .int k => .int (k + 1)
  | _ => .non
theorem PoAt.m1 {S : Sto} {p a b : Nat} {sent : List D} {ts : List Int} (h : PoAt S p a b sent ts) {f : FnSem} : methOf "put" [(6, f)] S (.obj p) = some f := by
  unfold methOf insOf; simp only [h.ip]; rfl
theorem PoAt.m2 {S : Sto} {p a b : Nat} {sent : List D} {ts : List Int} (h : PoAt S p a b sent ts) {f : FnSem} : methOf "bring" [(6, f)] S (.obj p) = some f := by
  unfold methOf insOf; simp only [h.ip]; rfl
theorem PoAt.m3 {S : Sto} {p a b : Nat} {sent : List D} {ts : List Int} (h : PoAt S p a b sent ts) {f : FnSem} : methOf "never" [(6, f)] S (.obj p) = some f := by
  unfold methOf insOf; simp only [h.ip]; rfl
theorem cNe_self {d : D} {S : Sto} (h : okd 60 d = true) : cNe d d S = .ok (.bl false) S := by
  rw [q_neD h h, deq_refl h]; rfl
end G

set_option maxHeartbeats 2000000
namespace G
open PySem L2 C
local macro_rules
  | `(tactic| simp_all_arith! only [$xs,*]) => `(tactic| simp -implicitDefEqProofs (disch := first | assumption | omega | (simp only [okd_i, okd_n, okd_b, okd_s, strOk_of, okd_t, okd_l, okdL_n, okdL_c, Bool.and_true, Bool.and_self, *]; done) | (simp only [List.length_cons, List.length_nil, List.length_append, List.length_map, List.length_set, List.length_take, List.length_drop, List.length_reverse, rangeD_len, zipD_len, enumD_len] <;> omega)) only [x_ok, at0, at1, at2, at3, at4, at5, x_dict, k_dict, x_pairsN, x_pairsC, k_p1, k_p2, k_p3i, k_p3s, cut_ns, cut_sn, cut_ss, sl_L, sl_F, sl_T, sl_S, x_exc, slotV_v, slotO_v, slotO_o, x_var, x_own, x_c, x_bin, k_bin1, k_bin2, x_neg, k_neg, x_tup, k_tup, x_lst, k_lst, x_nCat, k_cat1, k_cat2, x_nRep, k_rep1, k_rep2, x_frz, k_frz, x_nil, x_cons, k_cons1, k_cons2, x_val, k_val, tr_bl, tr_non, tr_int, tr_lst, tr_tup, tr_frl, tr_str, x_and, x_or, x_not, k_and, k_or, k_not, x_tT, x_ifE, k_ifE, x_andV, x_orV, x_notV, k_andV, k_orV, k_notV, x_chain, k_ch1, k_ch2, k_ch3, x_call, x_callN, k_call, x_opt, k_some, x_isi, k_isi, x_oNone, x_oSome, k_oSome, x_nSl, k_nsl1, k_nsl2, k_nsl3L, k_nsl3F, x_sl, k_sl1, k_sl2, k_sl3, x_rev, k_rev, k_revT, x_fn, k_fn, x_fnB, k_fnB, x_tStill, k_stB, x_eStill, envB_t, envB_f, envB_n, envB_e, frzB_u, frzB_o, frzB_v, frzB_i, frzB_b, frzB_s, frzB_non, frzB_t, frzB_l, k_nolB, k_nolI, k_nolS, k_nolN, x_seq, k_seqL, k_seqT, k_seqF, k_seqS, x_rng1, k_rng1, x_rng2, k_rng2a, k_rng2b, x_enum, k_enum, k_enumT, x_zip, k_zipL, k_zipT, k_zipM, k_zipN, x_lc, k_lc, x_sNil, x_sSeq, k_sqn, k_sqr, k_sqb, k_sqc, k_sqx, x_sExpr, k_expr, x_sRet, k_ret, x_sRetN, x_sRetO, k_retO, x_sRetL, k_retL, x_nFn, k_fnN, k_sqo, k_turnO, k_wtO, x_runN, k_runO, k_runOX, x_sBrk, x_sCnt, x_sSet, k_set, x_sOwn, k_own, tg_some, x_sTg, k_tg, gN_ok, gT_t, gTs_n, gTs_c, x_sIf, k_if, x_sFor, k_for, x_sWhile, x_sFrz, frzE_eq, frz_o, frz_v, frz_u, slotL_o, k_mod, x_modE, x_withO, x_sApp, k_appL, k_app, hApp_ok, x_sSlA, k_slAL, k_slA, hAll_ok, x_sIns, k_insL, k_ins1, k_ins2, hIns_ok, x_sRevO, k_revO, x_sClrO, k_clrO, x_sExt, k_extL, k_ext, hExt_ok, x_sSetIx, k_setIxL, k_setIx1, k_setIx2, k_putK, x_sPut, k_put1, k_put2, k_put3, x_sPar, k_par, x_sPar3, k_par3, x_run, k_runN, k_runR, k_runX, k_x, q_add, q_sub, q_addBI, q_addIB, q_subBI, q_subIB, p_strB, p_strS, tI_t, tI_f, q_mul, q_rep, q_div, q_mod, q_lt, q_le, q_gt, q_ge, q_eq, q_ne, q_is, q_isn, q_isB, q_isnB, q_isnI, x_idx, k_idx1, k_idx2, q_catL, q_catT, q_catS, isNon_non, isNon_int, isNon_bl, isNon_str, isNon_tup, isNon_lst, p_divmod, p_lenL, p_lenT, p_lenF, p_lenS, p_intB, p_intI, p_max2, p_min2, p_tupL, p_tupT, p_lstL, p_lstT, p_lstF, is_intI, is_intB, is_intS, is_intN, is_intT, is_intL, is_blI, is_blB, is_blS, is_blN, is_blT, is_blL, is_strI, is_strB, is_strS, is_strN, is_strT, is_strL, is_tupI, is_tupB, is_tupS, is_tupN, is_tupT, is_tupL, is_lstI, is_lstB, is_lstS, is_lstN, is_lstT, is_lstL, opIx_lst, opIx_tup, opIx_frl, k_midN, k_midC, k_midB, k_midR, k_midO, k_midX, k_turnN, k_turnC, k_turnB, k_turnR, k_turnX, k_wtN, k_wtC, k_wtB, k_wtR, k_wtX, k_wc, k_le, frzE_eq, turn_eq, turnC_eq, k_le, forL_nil, lcL_nil, startE, decide_eq_true_eq, decide_eq_false_iff_not, decide_true, decide_false, Bool.not_eq_true', Bool.not_eq_eq_eq_not, Bool.not_true, Bool.not_false, Bool.true_eq_false, Bool.false_eq_true, Bool.not_not, Option.bind_some, Option.map_some, List.map_cons, List.map_nil, List.length_cons, List.length_nil, List.cons_append, List.nil_append, List.set_cons_zero, List.set_cons_succ, List.getElem?_cons_zero, List.getElem?_cons_succ, List.length_set, ↓reduceIte, if_true, if_false, ite_self, List.replicate, List.take_succ_cons, List.take_zero, List.drop_succ_cons, List.drop_zero, List.flatten_cons, List.flatten_nil, Int.reduceToNat, List.isEmpty_cons, List.isEmpty_nil, Nat.reduceAdd, Nat.reduceSub, Nat.reduceLT, Nat.reduceLeDiff, Nat.reduceEqDiff, Int.cast_ofNat_Int, not_true_eq_false, not_false_eq_true, Int.reduceAdd, Int.reduceSub, Int.reduceMul, Int.reduceLT, Int.reduceLE, Int.reduceEq, Int.reduceNe, Int.reduceNeg, Int.zero_add, ne_eq, id, wipeE, lcL_nil, eq_self, and_true, true_and, D.int.injEq, D.bl.injEq, ofS_eq, String.reduceEq, q_eqD, q_neD, q_inT, q_inL, q_ninT, q_ninL, beq_self_eq_true, List.any_cons, List.any_nil, Bool.or_false, Bool.false_or, Bool.or_true, Bool.true_or, deq_nb, deq_ni, deq_ns, deq_nt, deq_nl, deq_bn, deq_bs, deq_bt, deq_bl, deq_in, deq_is, deq_it, deq_il, deq_sn, deq_sb, deq_si, deq_st, deq_sl, deq_tn, deq_tb, deq_ti, deq_ts, deq_tl, deq_ln, deq_lb, deq_li, deq_ls, deq_lt, deq_nn, deq_bb, deq_ii, deq_ss, deq_tt, deq_ll, deqL_nn, deqL_cc, deqL_nc, deqL_cn, okd_i, okd_n, okd_b, okd_t, okd_l, okdL_n, okdL_c, Bool.and_true, Bool.true_and, Bool.and_false, Bool.false_and, olt_t, olt_f, ole_t, ole_f, oeq_t, oeq_lt, oeq_gt, x_fld, k_fld, fld_ins, fld_new, lkP_c, lkF_c, lkF_n, meth_ins, lkM_c, k_optI, x_meth, k_meth, k_methS, k_meth2, x_sFld, k_sfld1, k_sfld2, k_setK, setO_new, putFD, List.mem_cons, List.not_mem_nil, or_true, true_or, or_false, false_or, or_self, Nat.reduceEqDiff, Nat.reduceSucc, reduceCtorEq, List.mem_nil_iff, false_and, and_false, and_self, $xs,*])

def isTx (n : Nat) (d : D) : Prop := ∃ b, d = .str (SX.S b) ∧ b.length ≤ n
def sg3 : List Nat := (Str.ofString "0123456789-abcdefghijklmnopqrstuvwxyzABCDEFGHIJKLMNOPQRSTUVWXYZ :/.,+_!#$&'()*;<=>?\x40[]^{|}~\n").cps.toList
def isOdd (d : D) : Prop := d = .non ∨ (∃ i, d = .int i) ∨ (∃ b, d = .bl b) ∨ (∃ ds, d = .tup ds) ∨ ∃ ds, d = .lst ds
end G

set_option maxHeartbeats 2000000
namespace G
open PySem L2 C
local macro_rules
  | `(tactic| simp_all_arith! only [$xs,*]) => `(tactic| simp -implicitDefEqProofs (disch := first | assumption | omega | (simp only [okd_i, okd_n, okd_b, okd_s, strOk_of, okd_t, okd_l, okdL_n, okdL_c, Bool.and_true, Bool.and_self, *]; done) | (simp only [List.length_cons, List.length_nil, List.length_append, List.length_map, List.length_set, List.length_take, List.length_drop, List.length_reverse, rangeD_len, zipD_len, enumD_len] <;> omega)) only [x_ok, at0, at1, at2, at3, at4, at5, x_dict, k_dict, x_pairsN, x_pairsC, k_p1, k_p2, k_p3i, k_p3s, cut_ns, cut_sn, cut_ss, sl_L, sl_F, sl_T, sl_S, x_exc, slotV_v, slotO_v, slotO_o, x_var, x_own, x_c, x_bin, k_bin1, k_bin2, x_neg, k_neg, x_tup, k_tup, x_lst, k_lst, x_nCat, k_cat1, k_cat2, x_nRep, k_rep1, k_rep2, x_frz, k_frz, x_nil, x_cons, k_cons1, k_cons2, x_val, k_val, tr_bl, tr_non, tr_int, tr_lst, tr_tup, tr_frl, tr_str, x_and, x_or, x_not, k_and, k_or, k_not, x_tT, x_ifE, k_ifE, x_andV, x_orV, x_notV, k_andV, k_orV, k_notV, x_chain, k_ch1, k_ch2, k_ch3, x_call, x_callN, k_call, x_opt, k_some, x_isi, k_isi, x_oNone, x_oSome, k_oSome, x_nSl, k_nsl1, k_nsl2, k_nsl3L, k_nsl3F, x_sl, k_sl1, k_sl2, k_sl3, x_rev, k_rev, k_revT, x_fn, k_fn, x_fnB, k_fnB, x_tStill, k_stB, x_eStill, envB_t, envB_f, envB_n, envB_e, frzB_u, frzB_o, frzB_v, frzB_i, frzB_b, frzB_s, frzB_non, frzB_t, frzB_l, k_nolB, k_nolI, k_nolS, k_nolN, x_seq, k_seqL, k_seqT, k_seqF, k_seqS, x_rng1, k_rng1, x_rng2, k_rng2a, k_rng2b, x_enum, k_enum, k_enumT, x_zip, k_zipL, k_zipT, k_zipM, k_zipN, x_lc, k_lc, x_sNil, x_sSeq, k_sqn, k_sqr, k_sqb, k_sqc, k_sqx, x_sExpr, k_expr, x_sRet, k_ret, x_sRetN, x_sRetO, k_retO, x_sRetL, k_retL, x_nFn, k_fnN, k_sqo, k_turnO, k_wtO, x_runN, k_runO, k_runOX, x_sBrk, x_sCnt, x_sSet, k_set, x_sOwn, k_own, tg_some, x_sTg, k_tg, gN_ok, gT_t, gTs_n, gTs_c, x_sIf, k_if, x_sFor, k_for, x_sWhile, x_sFrz, frzE_eq, frz_o, frz_v, frz_u, slotL_o, k_mod, x_modE, x_withO, x_sApp, k_appL, k_app, hApp_ok, x_sSlA, k_slAL, k_slA, hAll_ok, x_sIns, k_insL, k_ins1, k_ins2, hIns_ok, x_sRevO, k_revO, x_sClrO, k_clrO, x_sExt, k_extL, k_ext, hExt_ok, x_sSetIx, k_setIxL, k_setIx1, k_setIx2, k_putK, x_sPut, k_put1, k_put2, k_put3, x_sPar, k_par, x_sPar3, k_par3, x_run, k_runN, k_runR, k_runX, k_x, q_add, q_sub, q_addBI, q_addIB, q_subBI, q_subIB, p_strB, p_strS, tI_t, tI_f, q_mul, q_rep, q_div, q_mod, q_lt, q_le, q_gt, q_ge, q_eq, q_ne, q_is, q_isn, q_isB, q_isnB, q_isnI, x_idx, k_idx1, k_idx2, q_catL, q_catT, q_catS, isNon_non, isNon_int, isNon_bl, isNon_str, isNon_tup, isNon_lst, p_divmod, p_lenL, p_lenT, p_lenF, p_lenS, p_intB, p_intI, p_max2, p_min2, p_tupL, p_tupT, p_lstL, p_lstT, p_lstF, is_intI, is_intB, is_intS, is_intN, is_intT, is_intL, is_blI, is_blB, is_blS, is_blN, is_blT, is_blL, is_strI, is_strB, is_strS, is_strN, is_strT, is_strL, is_tupI, is_tupB, is_tupS, is_tupN, is_tupT, is_tupL, is_lstI, is_lstB, is_lstS, is_lstN, is_lstT, is_lstL, opIx_lst, opIx_tup, opIx_frl, k_midN, k_midC, k_midB, k_midR, k_midO, k_midX, k_turnN, k_turnC, k_turnB, k_turnR, k_turnX, k_wtN, k_wtC, k_wtB, k_wtR, k_wtX, k_wc, k_le, frzE_eq, turn_eq, turnC_eq, k_le, forL_nil, lcL_nil, startE, decide_eq_true_eq, decide_eq_false_iff_not, decide_true, decide_false, Bool.not_eq_true', Bool.not_eq_eq_eq_not, Bool.not_true, Bool.not_false, Bool.true_eq_false, Bool.false_eq_true, Bool.not_not, Option.bind_some, Option.map_some, List.map_cons, List.map_nil, List.length_cons, List.length_nil, List.cons_append, List.nil_append, List.set_cons_zero, List.set_cons_succ, List.getElem?_cons_zero, List.getElem?_cons_succ, List.length_set, ↓reduceIte, if_true, if_false, ite_self, List.replicate, List.take_succ_cons, List.take_zero, List.drop_succ_cons, List.drop_zero, List.flatten_cons, List.flatten_nil, Int.reduceToNat, List.isEmpty_cons, List.isEmpty_nil, Nat.reduceAdd, Nat.reduceSub, Nat.reduceLT, Nat.reduceLeDiff, Nat.reduceEqDiff, Int.cast_ofNat_Int, not_true_eq_false, not_false_eq_true, Int.reduceAdd, Int.reduceSub, Int.reduceMul, Int.reduceLT, Int.reduceLE, Int.reduceEq, Int.reduceNe, Int.reduceNeg, Int.zero_add, ne_eq, id, wipeE, lcL_nil, eq_self, and_true, true_and, D.int.injEq, D.bl.injEq, ofS_eq, String.reduceEq, q_eqD, q_neD, q_inT, q_inL, q_ninT, q_ninL, beq_self_eq_true, List.any_cons, List.any_nil, Bool.or_false, Bool.false_or, Bool.or_true, Bool.true_or, deq_nb, deq_ni, deq_ns, deq_nt, deq_nl, deq_bn, deq_bs, deq_bt, deq_bl, deq_in, deq_is, deq_it, deq_il, deq_sn, deq_sb, deq_si, deq_st, deq_sl, deq_tn, deq_tb, deq_ti, deq_ts, deq_tl, deq_ln, deq_lb, deq_li, deq_ls, deq_lt, deq_nn, deq_bb, deq_ii, deq_ss, deq_tt, deq_ll, deqL_nn, deqL_cc, deqL_nc, deqL_cn, okd_i, okd_n, okd_b, okd_t, okd_l, okdL_n, okdL_c, Bool.and_true, Bool.true_and, Bool.and_false, Bool.false_and, olt_t, olt_f, ole_t, ole_f, oeq_t, oeq_lt, oeq_gt, x_fld, k_fld, fld_ins, fld_new, lkP_c, lkF_c, lkF_n, meth_ins, lkM_c, k_optI, x_meth, k_meth, k_methS, k_meth2, x_sFld, k_sfld1, k_sfld2, k_setK, setO_new, putFD, List.mem_cons, List.not_mem_nil, or_true, true_or, or_false, false_or, or_self, Nat.reduceEqDiff, Nat.reduceSucc, reduceCtorEq, List.mem_nil_iff, false_and, and_false, and_self, $xs,*])

theorem col_S : Str.ofString ":" = SX.S [58] := by decide +kernel
theorem bl_S : Str.ofString " " = SX.S [32] := by decide +kernel
theorem ne_col {c : Nat} {S : Sto} : cNe (.str (SX.S [c])) (.str ":") S = .ok (.bl (!decide (c = 58))) S := by
  rw [q_neSS]
  congr 3
  rw [Bool.eq_iff_iff, beq_iff_eq, decide_eq_true_eq, col_S]
  exact ⟨fun h => by simpa using S_inj h, fun h => by rw [h]⟩
/-- the minute that a text writes -/
def mIn (b : List Nat) : D := if b.length = 5 ∧ b[2]? = some 58 ∧ figs (b.take 2) = true ∧ figs (b.drop 3) = true ∧ dv (b.take 2) ≤ 23 ∧ dv (b.drop 3) ≤ 59 then .int (60 * dv (b.take 2) + dv (b.drop 3)) else .non
theorem mIn5 {b0 b1 b2 b3 b4 : Nat} : mIn [b0, b1, b2, b3, b4] = if b2 = 58 ∧ figs [b0, b1] = true ∧ figs [b3, b4] = true ∧ dv [b0, b1] ≤ 23 ∧ dv [b3, b4] ≤ 59 then .int (60 * dv [b0, b1] + dv [b3, b4]) else .non := by
  unfold mIn
  simp
theorem dIn10 {c0 c1 c2 c3 c4 c5 c6 c7 c8 c9 : Nat} : dIn [c0, c1, c2, c3, c4, c5, c6, c7, c8, c9] = if c4 = 45 ∧ c7 = 45 ∧ figs [c0, c1, c2, c3] = true ∧ figs [c5, c6] = true ∧ figs [c8, c9] = true then dueV (.tup [.int (dv [c0, c1, c2, c3]), .int (dv [c5, c6]), .int (dv [c8, c9])]) else .non := by
  unfold dIn
  simp
theorem dv_hi {a b : Nat} (h : figs [a, b] = true) : 0 ≤ dv [a, b] ∧ dv [a, b] ≤ 99 := by
  unfold figs at h
  simp only [List.all_cons, List.all_nil, Bool.and_true, Bool.and_eq_true, decide_eq_true_eq, mem_dig] at h
  have e : dv [a, b] = ((0 * 10 + (a - 48)) * 10 + (b - 48) : Nat) := rfl
  rw [e]
  omega
theorem s_minute_in {a : List Nat} {S : Sto} (h : a.length ≤ 16777216) : M.minute_in [.str (SX.S a)] S = .ok (mIn a) S := by
  refine tri_eq ?_
  have hl : (SX.S a).length = a.length := SX.S_len a
  have hl1 : (SX.S a).length ≤ 16777216 := by rw [hl]; exact h
  by_cases h5 : a.length = 5
  · obtain ⟨c0, c1, c2, c3, c4, rfl⟩ : ∃ c0 c1 c2 c3 c4, a = [c0, c1, c2, c3, c4] := by
      match a, h5 with
      | [c0, c1, c2, c3, c4], _ => exact ⟨_, _, _, _, _, rfl⟩
    have i2 : ∀ S, opIx (.str (SX.S [c0, c1, c2, c3, c4])) (.int 2) S = .ok (.str (SX.S [c2])) S := fun S => by rw [ix_S h]; rfl
    have sA : ∀ S, opSl (.str (SX.S [c0, c1, c2, c3, c4])) none (some 2) S = .ok (.str (SX.S [c0, c1])) S := fun S => by rw [sl_S hl1, cutS_to (by omega)]; rfl
    have sB : ∀ S, opSl (.str (SX.S [c0, c1, c2, c3, c4])) (some 3) none S = .ok (.str (SX.S [c3, c4])) S := fun S => by rw [sl_S hl1, cutS_from (by omega)]; rfl
    have fA := fun S => s_are_figures (a := [c0, c1]) (n := 2) (S := S) (by simp)
    have fB := fun S => s_are_figures (a := [c3, c4]) (n := 2) (S := S) (by simp)
    have hl5 : (SX.S [c0, c1, c2, c3, c4]).length = 5 := hl
    rw [mIn5]
    by_cases e2 : c2 = 58
    · subst e2
      cases gA : figs [c0, c1] with
      | false =>
        rw [gA] at fA
        simp_all_arith! only [x_obj, k_obj, x_lenO, k_lenO, k_lenK, x_ixO, k_ixO1, k_ixO2, k_ixK, x_sAppO, k_appO1, k_appK1, k_appO2, k_appK2, x_sPutL, k_putL1, k_putL2, k_putL3, k_putK3, x_lcO, k_lcO, k_lcoK, x_rngD, k_rngD1, k_rngD2, k_rngD3, x_lsR, k_lsR1, k_lsR2, x_cnt, k_cnt, k_cntK, x_sTry, k_tryN, k_tryR, k_tryX, k_goneN, k_goneR, x_sRaise, x_sRaise1, k_raise1, x_isE, k_isE, x_xf, k_xf, isNon_exc, M.minute_in, M.b_minute_in, hl5, i2, ne_col, sA, sB, fA]
      | true =>
        cases gB : figs [c3, c4] with
        | false =>
          rw [gA] at fA; rw [gB] at fB
          simp_all_arith! only [x_obj, k_obj, x_lenO, k_lenO, k_lenK, x_ixO, k_ixO1, k_ixO2, k_ixK, x_sAppO, k_appO1, k_appK1, k_appO2, k_appK2, x_sPutL, k_putL1, k_putL2, k_putL3, k_putK3, x_lcO, k_lcO, k_lcoK, x_rngD, k_rngD1, k_rngD2, k_rngD3, x_lsR, k_lsR1, k_lsR2, x_cnt, k_cnt, k_cntK, x_sTry, k_tryN, k_tryR, k_tryX, k_goneN, k_goneR, x_sRaise, x_sRaise1, k_raise1, x_isE, k_isE, x_xf, k_xf, isNon_exc, M.minute_in, M.b_minute_in, hl5, i2, ne_col, sA, sB, fA, fB]
        | true =>
          rw [gA] at fA; rw [gB] at fB
          have pA := fun S => p_intS (S := S) gA (by simp) (by simp)
          have pB := fun S => p_intS (S := S) gB (by simp) (by simp)
          have bA := dv_hi gA
          have bB := dv_hi gB
          generalize dv [c0, c1] = x at pA bA
          generalize dv [c3, c4] = y at pB bB
          by_cases q1 : x ≤ 23
          · by_cases q2 : y ≤ 59
            · have r1 : ¬ 23 < x := by omega
              have r2 : ¬ 59 < y := by omega
              simp_all_arith! only [x_obj, k_obj, x_lenO, k_lenO, k_lenK, x_ixO, k_ixO1, k_ixO2, k_ixK, x_sAppO, k_appO1, k_appK1, k_appO2, k_appK2, x_sPutL, k_putL1, k_putL2, k_putL3, k_putK3, x_lcO, k_lcO, k_lcoK, x_rngD, k_rngD1, k_rngD2, k_rngD3, x_lsR, k_lsR1, k_lsR2, x_cnt, k_cnt, k_cntK, x_sTry, k_tryN, k_tryR, k_tryX, k_goneN, k_goneR, x_sRaise, x_sRaise1, k_raise1, x_isE, k_isE, x_xf, k_xf, isNon_exc, M.minute_in, M.b_minute_in, hl5, i2, ne_col, sA, sB, fA, fB, pA, pB, r1, r2, q1, q2]
            · have r1 : ¬ 23 < x := by omega
              have r2 : 59 < y := by omega
              simp_all_arith! only [x_obj, k_obj, x_lenO, k_lenO, k_lenK, x_ixO, k_ixO1, k_ixO2, k_ixK, x_sAppO, k_appO1, k_appK1, k_appO2, k_appK2, x_sPutL, k_putL1, k_putL2, k_putL3, k_putK3, x_lcO, k_lcO, k_lcoK, x_rngD, k_rngD1, k_rngD2, k_rngD3, x_lsR, k_lsR1, k_lsR2, x_cnt, k_cnt, k_cntK, x_sTry, k_tryN, k_tryR, k_tryX, k_goneN, k_goneR, x_sRaise, x_sRaise1, k_raise1, x_isE, k_isE, x_xf, k_xf, isNon_exc, M.minute_in, M.b_minute_in, hl5, i2, ne_col, sA, sB, fA, fB, pA, pB, r1, r2, q1, q2]
          · have r1 : 23 < x := by omega
            simp_all_arith! only [x_obj, k_obj, x_lenO, k_lenO, k_lenK, x_ixO, k_ixO1, k_ixO2, k_ixK, x_sAppO, k_appO1, k_appK1, k_appO2, k_appK2, x_sPutL, k_putL1, k_putL2, k_putL3, k_putK3, x_lcO, k_lcO, k_lcoK, x_rngD, k_rngD1, k_rngD2, k_rngD3, x_lsR, k_lsR1, k_lsR2, x_cnt, k_cnt, k_cntK, x_sTry, k_tryN, k_tryR, k_tryX, k_goneN, k_goneR, x_sRaise, x_sRaise1, k_raise1, x_isE, k_isE, x_xf, k_xf, isNon_exc, M.minute_in, M.b_minute_in, hl5, i2, ne_col, sA, sB, fA, fB, pA, pB, r1, q1]
    · simp_all_arith! only [x_obj, k_obj, x_lenO, k_lenO, k_lenK, x_ixO, k_ixO1, k_ixO2, k_ixK, x_sAppO, k_appO1, k_appK1, k_appO2, k_appK2, x_sPutL, k_putL1, k_putL2, k_putL3, k_putK3, x_lcO, k_lcO, k_lcoK, x_rngD, k_rngD1, k_rngD2, k_rngD3, x_lsR, k_lsR1, k_lsR2, x_cnt, k_cnt, k_cntK, x_sTry, k_tryN, k_tryR, k_tryX, k_goneN, k_goneR, x_sRaise, x_sRaise1, k_raise1, x_isE, k_isE, x_xf, k_xf, isNon_exc, M.minute_in, M.b_minute_in, hl5, i2, ne_col, e2]
  · have hn : ¬ ((a.length : Int) = 5) := by omega
    unfold mIn
    rw [if_neg (fun z => h5 z.1)]
    simp_all_arith! only [x_obj, k_obj, x_lenO, k_lenO, k_lenK, x_ixO, k_ixO1, k_ixO2, k_ixK, x_sAppO, k_appO1, k_appK1, k_appO2, k_appK2, x_sPutL, k_putL1, k_putL2, k_putL3, k_putK3, x_lcO, k_lcO, k_lcoK, x_rngD, k_rngD1, k_rngD2, k_rngD3, x_lsR, k_lsR1, k_lsR2, x_cnt, k_cnt, k_cntK, x_sTry, k_tryN, k_tryR, k_tryX, k_goneN, k_goneR, x_sRaise, x_sRaise1, k_raise1, x_isE, k_isE, x_xf, k_xf, isNon_exc, M.minute_in, M.b_minute_in, hl, hn]
theorem spl_ne {s k : Nat} : ∀ {l acc : List Nat}, TL.spl [s] k acc l ≠ []
  | [], acc => by rw [TL.spl_nil]; simp
  | c :: r, acc => by
    cases k with
    | zero =>
      by_cases h : TL.pre [s] (c :: r) = true
      · rw [TL.spl_hit h]; simp
      · rw [TL.spl_miss (by simpa using h)]; exact spl_ne
    | succ k => exact spl_ne (k := k) (l := r)
theorem join_cons {s : Nat} {p : List Nat} : ∀ {X : List (List Nat)}, X ≠ [] → TL.joinL [s] (p :: X) = p ++ s :: TL.joinL [s] X
  | [], h => absurd rfl h
  | q :: r, _ => rfl
theorem spl_back {s : Nat} : ∀ (l acc : List Nat), TL.joinL [s] (TL.spl [s] 0 acc l) = acc ++ l
  | [], acc => by rw [TL.spl_nil, List.append_nil]; rfl
  | c :: r, acc => by
    by_cases h : TL.pre [s] (c :: r) = true
    · rw [TL.spl_hit h]
      have hc : c = s := by
        have : ([c] == [s]) = true := h
        simpa using this
      subst hc
      show TL.joinL [c] (acc :: TL.spl [c] 0 [] r) = _
      rw [join_cons spl_ne, spl_back r []]; rfl
    · rw [TL.spl_miss (by simpa using h), spl_back r (acc ++ [c]), List.append_assoc]; rfl
def joinT : D → D → D
  | .int d, .int m => .int (1440 * d + m)
  | _, _ => .non
/-- the time that a text writes -/
def tIn (a : List Nat) : D := if a.length = 16 ∧ a[10]? = some 32 then joinT (dIn (a.take 10)) (mIn (a.drop 11)) else .non
def readT (a : List Nat) : D := match TL.spl [32] 0 [] a with
  | [w0, w1] => joinT (dIn w0) (mIn w1)
  | _ => .non
theorem figs_no {a : List Nat} (h : figs a = true) : 32 ∉ a := fun m => by
  have := mem_dig.mp (of_decide_eq_true (List.all_eq_true.mp h 32 m))
  omega
theorem dIn_clean {w : List Nat} (h : dIn w ≠ .non) : w.length = 10 ∧ 32 ∉ w := by
  by_cases h10 : w.length = 10
  · refine ⟨h10, ?_⟩
    obtain ⟨c0, c1, c2, c3, c4, c5, c6, c7, c8, c9, rfl⟩ : ∃ c0 c1 c2 c3 c4 c5 c6 c7 c8 c9, w = [c0, c1, c2, c3, c4, c5, c6, c7, c8, c9] := by
      match w, h10 with
      | [c0, c1, c2, c3, c4, c5, c6, c7, c8, c9], _ => exact ⟨_, _, _, _, _, _, _, _, _, _, rfl⟩
    rw [dIn10] at h
    by_cases q : c4 = 45 ∧ c7 = 45 ∧ figs [c0, c1, c2, c3] = true ∧ figs [c5, c6] = true ∧ figs [c8, c9] = true
    · obtain ⟨rfl, rfl, g1, g2, g3⟩ := q
      have h1 := figs_no g1; have h2 := figs_no g2; have h3 := figs_no g3
      simp only [List.mem_cons, List.not_mem_nil, or_false, not_or] at h1 h2 h3 ⊢
      omega
    · rw [if_neg q] at h
      exact absurd rfl h
  · unfold dIn at h
    rw [if_neg (fun z => h10 z.1)] at h
    exact absurd rfl h
theorem mIn_clean {w : List Nat} (h : mIn w ≠ .non) : w.length = 5 ∧ 32 ∉ w := by
  by_cases h5 : w.length = 5
  · refine ⟨h5, ?_⟩
    obtain ⟨c0, c1, c2, c3, c4, rfl⟩ : ∃ c0 c1 c2 c3 c4, w = [c0, c1, c2, c3, c4] := by
      match w, h5 with
      | [c0, c1, c2, c3, c4], _ => exact ⟨_, _, _, _, _, rfl⟩
    rw [mIn5] at h
    by_cases q : c2 = 58 ∧ figs [c0, c1] = true ∧ figs [c3, c4] = true ∧ dv [c0, c1] ≤ 23 ∧ dv [c3, c4] ≤ 59
    · obtain ⟨rfl, g1, g2, _, _⟩ := q
      have h1 := figs_no g1; have h2 := figs_no g2
      simp only [List.mem_cons, List.not_mem_nil, or_false, not_or] at h1 h2 ⊢
      omega
    · rw [if_neg q] at h
      exact absurd rfl h
  · unfold mIn at h
    rw [if_neg (fun z => h5 z.1)] at h
    exact absurd rfl h
theorem joinT_non {x y : D} (h : x = .non ∨ y = .non) : joinT x y = .non := by
  rcases h with rfl | rfl
  · rfl
  · cases x <;> rfl
theorem read_in (a : List Nat) : readT a = tIn a := by
  have hb := spl_back (s := 32) a []
  by_cases hc : a.length = 16 ∧ a[10]? = some 32
  · obtain ⟨h16, h32⟩ := hc
    have ha : a = a.take 10 ++ 32 :: a.drop 11 := by
      have h10 : 10 < a.length := by omega
      have e1 : a[10] = 32 := by rw [List.getElem?_eq_getElem h10] at h32; exact Option.some.inj h32
      conv => lhs; rw [← List.take_append_drop 10 a, List.drop_eq_getElem_cons h10, e1]
    unfold tIn
    rw [if_pos ⟨h16, h32⟩]
    by_cases q : 32 ∉ a.take 10 ∧ 32 ∉ a.drop 11
    · have := TL.spl_join (s := 32) (S := []) (parts := [a.take 10, a.drop 11]) (by simp) (fun p hp => by
        simp only [List.mem_cons, List.not_mem_nil, or_false] at hp
        rcases hp with rfl | rfl
        · exact q.1
        · exact q.2)
      have e : TL.joinL [32] [a.take 10, a.drop 11] = a := ha.symm
      rw [e] at this
      unfold readT
      rw [this]
    · have hn : joinT (dIn (a.take 10)) (mIn (a.drop 11)) = .non := by
        by_cases d1 : dIn (a.take 10) = .non
        · exact joinT_non (.inl d1)
        · by_cases d2 : mIn (a.drop 11) = .non
          · exact joinT_non (.inr d2)
          · exact absurd ⟨(dIn_clean d1).2, (mIn_clean d2).2⟩ q
      rw [hn]
      unfold readT
      split
      · rename_i w0 w1 hw
        rw [hw] at hb
        have hb : w0 ++ 32 :: w1 = a := hb
        by_cases d1 : dIn w0 = .non
        · exact joinT_non (.inl d1)
        · by_cases d2 : mIn w1 = .non
          · exact joinT_non (.inr d2)
          · obtain ⟨l0, n0⟩ := dIn_clean d1
            obtain ⟨l1, n1⟩ := mIn_clean d2
            refine absurd ⟨?_, ?_⟩ q
            · rw [← hb, List.take_append_of_le_length (by omega), List.take_of_length_le (by omega)]; exact n0
            · rw [← hb, show w0 ++ 32 :: w1 = (w0 ++ [32]) ++ w1 by simp, List.drop_append_of_le_length (by simp; omega), List.drop_of_length_le (by simp; omega)]; exact n1
      · rfl
  · unfold tIn
    rw [if_neg hc]
    unfold readT
    split
    · rename_i w0 w1 hw
      rw [hw] at hb
      have hb : w0 ++ 32 :: w1 = a := hb
      by_cases d1 : dIn w0 = .non
      · exact joinT_non (.inl d1)
      · by_cases d2 : mIn w1 = .non
        · exact joinT_non (.inr d2)
        · obtain ⟨l0, n0⟩ := dIn_clean d1
          obtain ⟨l1, n1⟩ := mIn_clean d2
          refine absurd ⟨?_, ?_⟩ hc
          · rw [← hb]; simp; omega
          · rw [← hb, List.getElem?_append_right (by omega), l0]; rfl
    · rfl
end G

set_option maxHeartbeats 2000000
namespace G
open PySem L2
local macro_rules
  | `(tactic| simp_all_arith! only [$xs,*]) => `(tactic| simp -implicitDefEqProofs (disch := first | assumption | omega | (simp only [okd_i, okd_n, okd_b, okd_s, strOk_of, okd_t, okd_l, okdL_n, okdL_c, Bool.and_true, Bool.and_self, *]; done) | (simp only [List.length_cons, List.length_nil, List.length_append, List.length_map, List.length_set, List.length_take, List.length_drop, List.length_reverse, rangeD_len, zipD_len, enumD_len] <;> omega)) only [x_ok, at0, at1, at2, at3, at4, at5, x_dict, k_dict, x_pairsN, x_pairsC, k_p1, k_p2, k_p3i, k_p3s, cut_ns, cut_sn, cut_ss, sl_L, sl_F, sl_T, sl_S, x_exc, slotV_v, slotO_v, slotO_o, x_var, x_own, x_c, x_bin, k_bin1, k_bin2, x_neg, k_neg, x_tup, k_tup, x_lst, k_lst, x_nCat, k_cat1, k_cat2, x_nRep, k_rep1, k_rep2, x_frz, k_frz, x_nil, x_cons, k_cons1, k_cons2, x_val, k_val, tr_bl, tr_non, tr_int, tr_lst, tr_tup, tr_frl, tr_str, x_and, x_or, x_not, k_and, k_or, k_not, x_tT, x_ifE, k_ifE, x_andV, x_orV, x_notV, k_andV, k_orV, k_notV, x_chain, k_ch1, k_ch2, k_ch3, x_call, x_callN, k_call, x_opt, k_some, x_isi, k_isi, x_oNone, x_oSome, k_oSome, x_nSl, k_nsl1, k_nsl2, k_nsl3L, k_nsl3F, x_sl, k_sl1, k_sl2, k_sl3, x_rev, k_rev, k_revT, x_fn, k_fn, x_fnB, k_fnB, x_tStill, k_stB, x_eStill, envB_t, envB_f, envB_n, envB_e, frzB_u, frzB_o, frzB_v, frzB_i, frzB_b, frzB_s, frzB_non, frzB_t, frzB_l, k_nolB, k_nolI, k_nolS, k_nolN, x_seq, k_seqL, k_seqT, k_seqF, k_seqS, x_rng1, k_rng1, x_rng2, k_rng2a, k_rng2b, x_enum, k_enum, k_enumT, x_zip, k_zipL, k_zipT, k_zipM, k_zipN, x_lc, k_lc, x_sNil, x_sSeq, k_sqn, k_sqr, k_sqb, k_sqc, k_sqx, x_sExpr, k_expr, x_sRet, k_ret, x_sRetN, x_sRetO, k_retO, x_sRetL, k_retL, x_nFn, k_fnN, k_sqo, k_turnO, k_wtO, x_runN, k_runO, k_runOX, x_sBrk, x_sCnt, x_sSet, k_set, x_sOwn, k_own, tg_some, x_sTg, k_tg, gN_ok, gT_t, gTs_n, gTs_c, x_sIf, k_if, x_sFor, k_for, x_sWhile, x_sFrz, frzE_eq, frz_o, frz_v, frz_u, slotL_o, k_mod, x_modE, x_withO, x_sApp, k_appL, k_app, hApp_ok, x_sSlA, k_slAL, k_slA, hAll_ok, x_sIns, k_insL, k_ins1, k_ins2, hIns_ok, x_sRevO, k_revO, x_sClrO, k_clrO, x_sExt, k_extL, k_ext, hExt_ok, x_sSetIx, k_setIxL, k_setIx1, k_setIx2, k_putK, x_sPut, k_put1, k_put2, k_put3, x_sPar, k_par, x_sPar3, k_par3, x_run, k_runN, k_runR, k_runX, k_x, q_add, q_sub, q_addBI, q_addIB, q_subBI, q_subIB, p_strB, p_strS, tI_t, tI_f, q_mul, q_rep, q_div, q_mod, q_lt, q_le, q_gt, q_ge, q_eq, q_ne, q_is, q_isn, q_isB, q_isnB, q_isnI, x_idx, k_idx1, k_idx2, q_catL, q_catT, q_catS, isNon_non, isNon_int, isNon_bl, isNon_str, isNon_tup, isNon_lst, p_divmod, p_lenL, p_lenT, p_lenF, p_lenS, p_intB, p_intI, p_max2, p_min2, p_tupL, p_tupT, p_lstL, p_lstT, p_lstF, is_intI, is_intB, is_intS, is_intN, is_intT, is_intL, is_blI, is_blB, is_blS, is_blN, is_blT, is_blL, is_strI, is_strB, is_strS, is_strN, is_strT, is_strL, is_tupI, is_tupB, is_tupS, is_tupN, is_tupT, is_tupL, is_lstI, is_lstB, is_lstS, is_lstN, is_lstT, is_lstL, opIx_lst, opIx_tup, opIx_frl, k_midN, k_midC, k_midB, k_midR, k_midO, k_midX, k_turnN, k_turnC, k_turnB, k_turnR, k_turnX, k_wtN, k_wtC, k_wtB, k_wtR, k_wtX, k_wc, k_le, frzE_eq, turn_eq, turnC_eq, k_le, forL_nil, lcL_nil, startE, decide_eq_true_eq, decide_eq_false_iff_not, decide_true, decide_false, Bool.not_eq_true', Bool.not_eq_eq_eq_not, Bool.not_true, Bool.not_false, Bool.true_eq_false, Bool.false_eq_true, Bool.not_not, Option.bind_some, Option.map_some, List.map_cons, List.map_nil, List.length_cons, List.length_nil, List.cons_append, List.nil_append, List.set_cons_zero, List.set_cons_succ, List.getElem?_cons_zero, List.getElem?_cons_succ, List.length_set, ↓reduceIte, if_true, if_false, ite_self, List.replicate, List.take_succ_cons, List.take_zero, List.drop_succ_cons, List.drop_zero, List.flatten_cons, List.flatten_nil, Int.reduceToNat, List.isEmpty_cons, List.isEmpty_nil, Nat.reduceAdd, Nat.reduceSub, Nat.reduceLT, Nat.reduceLeDiff, Nat.reduceEqDiff, Int.cast_ofNat_Int, not_true_eq_false, not_false_eq_true, Int.reduceAdd, Int.reduceSub, Int.reduceMul, Int.reduceLT, Int.reduceLE, Int.reduceEq, Int.reduceNe, Int.reduceNeg, Int.zero_add, ne_eq, id, wipeE, lcL_nil, eq_self, and_true, true_and, D.int.injEq, D.bl.injEq, ofS_eq, String.reduceEq, q_eqD, q_neD, q_inT, q_inL, q_ninT, q_ninL, beq_self_eq_true, List.any_cons, List.any_nil, Bool.or_false, Bool.false_or, Bool.or_true, Bool.true_or, deq_nb, deq_ni, deq_ns, deq_nt, deq_nl, deq_bn, deq_bs, deq_bt, deq_bl, deq_in, deq_is, deq_it, deq_il, deq_sn, deq_sb, deq_si, deq_st, deq_sl, deq_tn, deq_tb, deq_ti, deq_ts, deq_tl, deq_ln, deq_lb, deq_li, deq_ls, deq_lt, deq_nn, deq_bb, deq_ii, deq_ss, deq_tt, deq_ll, deqL_nn, deqL_cc, deqL_nc, deqL_cn, okd_i, okd_n, okd_b, okd_t, okd_l, okdL_n, okdL_c, Bool.and_true, Bool.true_and, Bool.and_false, Bool.false_and, olt_t, olt_f, ole_t, ole_f, oeq_t, oeq_lt, oeq_gt, x_fld, k_fld, fld_ins, fld_new, lkP_c, lkF_c, lkF_n, meth_ins, lkM_c, k_optI, x_meth, k_meth, k_methS, k_meth2, x_sFld, k_sfld1, k_sfld2, k_setK, setO_new, putFD, List.mem_cons, List.not_mem_nil, or_true, true_or, or_false, false_or, or_self, Nat.reduceEqDiff, Nat.reduceSucc, reduceCtorEq, List.mem_nil_iff, false_and, and_false, and_self, $xs,*])

section
variable {env : Env} {S : Sto} {E : EX} {KL' : KL} {fa fb : Ex} {x y : Str}
def kSplit2 (d : D) (K : KL) : KD := fun e S => match d, e with
  | .str x, .str y => ((y.length == 0) = false ∧ x.length + 2 ≤ sizeLine) ∧ K ((Txt.split x y).map D.str) S
  | _, _ => False
def kSplit1 (fb : Ex) (env : Env) (K : KL) (E : EX) : KD := fun d S => match d with
  | .str x => Tx (fb env S) (kSplit2 (.str x) K) E
  | _ => False
theorem x_split : Tx (nSplit fa fb env S) KL' E = Tx (fa env S) (kSplit1 fb env KL' E) E := by
  unfold nSplit; rw [x_bind]; congr 1; funext d S1; unfold kSplit1
  cases d with
  | str x =>
    simp only []
    rw [x_bind]; congr 1; funext e S2; unfold kSplit2
    cases e with
    | str y =>
      simp only []
      by_cases h : (y.length == 0) = false ∧ x.length + 2 ≤ sizeLine
      · rw [if_pos h, x_ok, eq_iff_iff]; exact ⟨fun q => ⟨h, q⟩, fun q => q.2⟩
      · rw [if_neg h, x_bad, eq_iff_iff]; exact ⟨fun q => q.elim, fun q => h q.1⟩
    | _ => simp only [x_bad]
  | _ => simp only [x_bad]
theorem k_split1 : kSplit1 fb env KL' E (.str x) S = Tx (fb env S) (kSplit2 (.str x) KL') E := rfl
theorem k_split2 (h1 : (y.length == 0) = false) (h2 : x.length + 2 ≤ 16777216) : kSplit2 (.str x) KL' (.str y) S = KL' ((Txt.split x y).map D.str) S := by
  show (_ ∧ _) = _
  rw [eq_iff_iff]; exact ⟨fun q => q.2, fun q => ⟨⟨h1, h2⟩, q⟩⟩
end
end G

set_option maxHeartbeats 2000000
namespace G
open PySem L2 C
local macro_rules
  | `(tactic| simp_arith! only [$xs,*]) => `(tactic| simp -implicitDefEqProofs (disch := first | assumption | omega | (simp only [okd_i, okd_n, okd_b, okd_s, strOk_of, okd_t, okd_l, okdL_n, okdL_c, Bool.and_true, Bool.and_self, *]; done) | (simp only [List.length_cons, List.length_nil, List.length_append, List.length_map, List.length_set, List.length_take, List.length_drop, List.length_reverse, rangeD_len, zipD_len, enumD_len] <;> omega)) only [x_ok, at0, at1, at2, at3, at4, at5, x_dict, k_dict, x_pairsN, x_pairsC, k_p1, k_p2, k_p3i, k_p3s, cut_ns, cut_sn, cut_ss, sl_L, sl_F, sl_T, sl_S, x_exc, slotV_v, slotO_v, slotO_o, x_var, x_own, x_c, x_bin, k_bin1, k_bin2, x_neg, k_neg, x_tup, k_tup, x_lst, k_lst, x_nCat, k_cat1, k_cat2, x_nRep, k_rep1, k_rep2, x_frz, k_frz, x_nil, x_cons, k_cons1, k_cons2, x_val, k_val, tr_bl, tr_non, tr_int, tr_lst, tr_tup, tr_frl, tr_str, x_and, x_or, x_not, k_and, k_or, k_not, x_tT, x_ifE, k_ifE, x_andV, x_orV, x_notV, k_andV, k_orV, k_notV, x_chain, k_ch1, k_ch2, k_ch3, x_call, x_callN, k_call, x_opt, k_some, x_isi, k_isi, x_oNone, x_oSome, k_oSome, x_nSl, k_nsl1, k_nsl2, k_nsl3L, k_nsl3F, x_sl, k_sl1, k_sl2, k_sl3, x_rev, k_rev, k_revT, x_fn, k_fn, x_fnB, k_fnB, x_tStill, k_stB, x_eStill, envB_t, envB_f, envB_n, envB_e, frzB_u, frzB_o, frzB_v, frzB_i, frzB_b, frzB_s, frzB_non, frzB_t, frzB_l, k_nolB, k_nolI, k_nolS, k_nolN, x_seq, k_seqL, k_seqT, k_seqF, k_seqS, x_rng1, k_rng1, x_rng2, k_rng2a, k_rng2b, x_enum, k_enum, k_enumT, x_zip, k_zipL, k_zipT, k_zipM, k_zipN, x_lc, k_lc, x_sNil, x_sSeq, k_sqn, k_sqr, k_sqb, k_sqc, k_sqx, x_sExpr, k_expr, x_sRet, k_ret, x_sRetN, x_sRetO, k_retO, x_sRetL, k_retL, x_nFn, k_fnN, k_sqo, k_turnO, k_wtO, x_runN, k_runO, k_runOX, x_sBrk, x_sCnt, x_sSet, k_set, x_sOwn, k_own, tg_some, x_sTg, k_tg, gN_ok, gT_t, gTs_n, gTs_c, x_sIf, k_if, x_sFor, k_for, x_sWhile, x_sFrz, frzE_eq, frz_o, frz_v, frz_u, slotL_o, k_mod, x_modE, x_withO, x_sApp, k_appL, k_app, hApp_ok, x_sSlA, k_slAL, k_slA, hAll_ok, x_sIns, k_insL, k_ins1, k_ins2, hIns_ok, x_sRevO, k_revO, x_sClrO, k_clrO, x_sExt, k_extL, k_ext, hExt_ok, x_sSetIx, k_setIxL, k_setIx1, k_setIx2, k_putK, x_sPut, k_put1, k_put2, k_put3, x_sPar, k_par, x_sPar3, k_par3, x_run, k_runN, k_runR, k_runX, k_x, q_add, q_sub, q_addBI, q_addIB, q_subBI, q_subIB, p_strB, p_strS, tI_t, tI_f, q_mul, q_rep, q_div, q_mod, q_lt, q_le, q_gt, q_ge, q_eq, q_ne, q_is, q_isn, q_isB, q_isnB, q_isnI, x_idx, k_idx1, k_idx2, q_catL, q_catT, q_catS, isNon_non, isNon_int, isNon_bl, isNon_str, isNon_tup, isNon_lst, p_divmod, p_lenL, p_lenT, p_lenF, p_lenS, p_intB, p_intI, p_max2, p_min2, p_tupL, p_tupT, p_lstL, p_lstT, p_lstF, is_intI, is_intB, is_intS, is_intN, is_intT, is_intL, is_blI, is_blB, is_blS, is_blN, is_blT, is_blL, is_strI, is_strB, is_strS, is_strN, is_strT, is_strL, is_tupI, is_tupB, is_tupS, is_tupN, is_tupT, is_tupL, is_lstI, is_lstB, is_lstS, is_lstN, is_lstT, is_lstL, opIx_lst, opIx_tup, opIx_frl, k_midN, k_midC, k_midB, k_midR, k_midO, k_midX, k_turnN, k_turnC, k_turnB, k_turnR, k_turnX, k_wtN, k_wtC, k_wtB, k_wtR, k_wtX, k_wc, k_le, frzE_eq, turn_eq, turnC_eq, k_le, forL_nil, lcL_nil, startE, decide_eq_true_eq, decide_eq_false_iff_not, decide_true, decide_false, Bool.not_eq_true', Bool.not_eq_eq_eq_not, Bool.not_true, Bool.not_false, Bool.true_eq_false, Bool.false_eq_true, Bool.not_not, Option.bind_some, Option.map_some, List.map_cons, List.map_nil, List.length_cons, List.length_nil, List.cons_append, List.nil_append, List.set_cons_zero, List.set_cons_succ, List.getElem?_cons_zero, List.getElem?_cons_succ, List.length_set, ↓reduceIte, if_true, if_false, ite_self, List.replicate, List.take_succ_cons, List.take_zero, List.drop_succ_cons, List.drop_zero, List.flatten_cons, List.flatten_nil, Int.reduceToNat, List.isEmpty_cons, List.isEmpty_nil, Nat.reduceAdd, Nat.reduceSub, Nat.reduceLT, Nat.reduceLeDiff, Nat.reduceEqDiff, Int.cast_ofNat_Int, not_true_eq_false, not_false_eq_true, Int.reduceAdd, Int.reduceSub, Int.reduceMul, Int.reduceLT, Int.reduceLE, Int.reduceEq, Int.reduceNe, Int.reduceNeg, Int.zero_add, ne_eq, id, wipeE, lcL_nil, eq_self, and_true, true_and, D.int.injEq, D.bl.injEq, ofS_eq, String.reduceEq, q_eqD, q_neD, q_inT, q_inL, q_ninT, q_ninL, beq_self_eq_true, List.any_cons, List.any_nil, Bool.or_false, Bool.false_or, Bool.or_true, Bool.true_or, deq_nb, deq_ni, deq_ns, deq_nt, deq_nl, deq_bn, deq_bs, deq_bt, deq_bl, deq_in, deq_is, deq_it, deq_il, deq_sn, deq_sb, deq_si, deq_st, deq_sl, deq_tn, deq_tb, deq_ti, deq_ts, deq_tl, deq_ln, deq_lb, deq_li, deq_ls, deq_lt, deq_nn, deq_bb, deq_ii, deq_ss, deq_tt, deq_ll, deqL_nn, deqL_cc, deqL_nc, deqL_cn, okd_i, okd_n, okd_b, okd_t, okd_l, okdL_n, okdL_c, Bool.and_true, Bool.true_and, Bool.and_false, Bool.false_and, $xs,*])
local macro_rules
  | `(tactic| simp_all_arith! only [$xs,*]) => `(tactic| simp -implicitDefEqProofs (disch := first | assumption | omega | (simp only [okd_i, okd_n, okd_b, okd_s, strOk_of, okd_t, okd_l, okdL_n, okdL_c, Bool.and_true, Bool.and_self, *]; done) | (simp only [List.length_cons, List.length_nil, List.length_append, List.length_map, List.length_set, List.length_take, List.length_drop, List.length_reverse, rangeD_len, zipD_len, enumD_len] <;> omega)) only [x_ok, at0, at1, at2, at3, at4, at5, x_dict, k_dict, x_pairsN, x_pairsC, k_p1, k_p2, k_p3i, k_p3s, cut_ns, cut_sn, cut_ss, sl_L, sl_F, sl_T, sl_S, x_exc, slotV_v, slotO_v, slotO_o, x_var, x_own, x_c, x_bin, k_bin1, k_bin2, x_neg, k_neg, x_tup, k_tup, x_lst, k_lst, x_nCat, k_cat1, k_cat2, x_nRep, k_rep1, k_rep2, x_frz, k_frz, x_nil, x_cons, k_cons1, k_cons2, x_val, k_val, tr_bl, tr_non, tr_int, tr_lst, tr_tup, tr_frl, tr_str, x_and, x_or, x_not, k_and, k_or, k_not, x_tT, x_ifE, k_ifE, x_andV, x_orV, x_notV, k_andV, k_orV, k_notV, x_chain, k_ch1, k_ch2, k_ch3, x_call, x_callN, k_call, x_opt, k_some, x_isi, k_isi, x_oNone, x_oSome, k_oSome, x_nSl, k_nsl1, k_nsl2, k_nsl3L, k_nsl3F, x_sl, k_sl1, k_sl2, k_sl3, x_rev, k_rev, k_revT, x_fn, k_fn, x_fnB, k_fnB, x_tStill, k_stB, x_eStill, envB_t, envB_f, envB_n, envB_e, frzB_u, frzB_o, frzB_v, frzB_i, frzB_b, frzB_s, frzB_non, frzB_t, frzB_l, k_nolB, k_nolI, k_nolS, k_nolN, x_seq, k_seqL, k_seqT, k_seqF, k_seqS, x_rng1, k_rng1, x_rng2, k_rng2a, k_rng2b, x_enum, k_enum, k_enumT, x_zip, k_zipL, k_zipT, k_zipM, k_zipN, x_lc, k_lc, x_sNil, x_sSeq, k_sqn, k_sqr, k_sqb, k_sqc, k_sqx, x_sExpr, k_expr, x_sRet, k_ret, x_sRetN, x_sRetO, k_retO, x_sRetL, k_retL, x_nFn, k_fnN, k_sqo, k_turnO, k_wtO, x_runN, k_runO, k_runOX, x_sBrk, x_sCnt, x_sSet, k_set, x_sOwn, k_own, tg_some, x_sTg, k_tg, gN_ok, gT_t, gTs_n, gTs_c, x_sIf, k_if, x_sFor, k_for, x_sWhile, x_sFrz, frzE_eq, frz_o, frz_v, frz_u, slotL_o, k_mod, x_modE, x_withO, x_sApp, k_appL, k_app, hApp_ok, x_sSlA, k_slAL, k_slA, hAll_ok, x_sIns, k_insL, k_ins1, k_ins2, hIns_ok, x_sRevO, k_revO, x_sClrO, k_clrO, x_sExt, k_extL, k_ext, hExt_ok, x_sSetIx, k_setIxL, k_setIx1, k_setIx2, k_putK, x_sPut, k_put1, k_put2, k_put3, x_sPar, k_par, x_sPar3, k_par3, x_run, k_runN, k_runR, k_runX, k_x, q_add, q_sub, q_addBI, q_addIB, q_subBI, q_subIB, p_strB, p_strS, tI_t, tI_f, q_mul, q_rep, q_div, q_mod, q_lt, q_le, q_gt, q_ge, q_eq, q_ne, q_is, q_isn, q_isB, q_isnB, q_isnI, x_idx, k_idx1, k_idx2, q_catL, q_catT, q_catS, isNon_non, isNon_int, isNon_bl, isNon_str, isNon_tup, isNon_lst, p_divmod, p_lenL, p_lenT, p_lenF, p_lenS, p_intB, p_intI, p_max2, p_min2, p_tupL, p_tupT, p_lstL, p_lstT, p_lstF, is_intI, is_intB, is_intS, is_intN, is_intT, is_intL, is_blI, is_blB, is_blS, is_blN, is_blT, is_blL, is_strI, is_strB, is_strS, is_strN, is_strT, is_strL, is_tupI, is_tupB, is_tupS, is_tupN, is_tupT, is_tupL, is_lstI, is_lstB, is_lstS, is_lstN, is_lstT, is_lstL, opIx_lst, opIx_tup, opIx_frl, k_midN, k_midC, k_midB, k_midR, k_midO, k_midX, k_turnN, k_turnC, k_turnB, k_turnR, k_turnX, k_wtN, k_wtC, k_wtB, k_wtR, k_wtX, k_wc, k_le, frzE_eq, turn_eq, turnC_eq, k_le, forL_nil, lcL_nil, startE, decide_eq_true_eq, decide_eq_false_iff_not, decide_true, decide_false, Bool.not_eq_true', Bool.not_eq_eq_eq_not, Bool.not_true, Bool.not_false, Bool.true_eq_false, Bool.false_eq_true, Bool.not_not, Option.bind_some, Option.map_some, List.map_cons, List.map_nil, List.length_cons, List.length_nil, List.cons_append, List.nil_append, List.set_cons_zero, List.set_cons_succ, List.getElem?_cons_zero, List.getElem?_cons_succ, List.length_set, ↓reduceIte, if_true, if_false, ite_self, List.replicate, List.take_succ_cons, List.take_zero, List.drop_succ_cons, List.drop_zero, List.flatten_cons, List.flatten_nil, Int.reduceToNat, List.isEmpty_cons, List.isEmpty_nil, Nat.reduceAdd, Nat.reduceSub, Nat.reduceLT, Nat.reduceLeDiff, Nat.reduceEqDiff, Int.cast_ofNat_Int, not_true_eq_false, not_false_eq_true, Int.reduceAdd, Int.reduceSub, Int.reduceMul, Int.reduceLT, Int.reduceLE, Int.reduceEq, Int.reduceNe, Int.reduceNeg, Int.zero_add, ne_eq, id, wipeE, lcL_nil, eq_self, and_true, true_and, D.int.injEq, D.bl.injEq, ofS_eq, String.reduceEq, q_eqD, q_neD, q_inT, q_inL, q_ninT, q_ninL, beq_self_eq_true, List.any_cons, List.any_nil, Bool.or_false, Bool.false_or, Bool.or_true, Bool.true_or, deq_nb, deq_ni, deq_ns, deq_nt, deq_nl, deq_bn, deq_bs, deq_bt, deq_bl, deq_in, deq_is, deq_it, deq_il, deq_sn, deq_sb, deq_si, deq_st, deq_sl, deq_tn, deq_tb, deq_ti, deq_ts, deq_tl, deq_ln, deq_lb, deq_li, deq_ls, deq_lt, deq_nn, deq_bb, deq_ii, deq_ss, deq_tt, deq_ll, deqL_nn, deqL_cc, deqL_nc, deqL_cn, okd_i, okd_n, okd_b, okd_t, okd_l, okdL_n, okdL_c, Bool.and_true, Bool.true_and, Bool.and_false, Bool.false_and, olt_t, olt_f, ole_t, ole_f, oeq_t, oeq_lt, oeq_gt, x_fld, k_fld, fld_ins, fld_new, lkP_c, lkF_c, lkF_n, meth_ins, lkM_c, k_optI, x_meth, k_meth, k_methS, k_meth2, x_sFld, k_sfld1, k_sfld2, k_setK, setO_new, putFD, List.mem_cons, List.not_mem_nil, or_true, true_or, or_false, false_or, or_self, Nat.reduceEqDiff, Nat.reduceSucc, reduceCtorEq, List.mem_nil_iff, false_and, and_false, and_self, $xs,*])

theorem dIn_bd (a : List Nat) : dIn a = .non ∨ ∃ j : Int, dIn a = .int j ∧ 0 ≤ j ∧ j ≤ 99999 := by
  unfold dIn dueV
  split
  · cases e : dayD (.tup [.int (dv (a.take 4)), .int (dv ((a.drop 5).take 2)), .int (dv (a.drop 8))]) with
    | none => exact .inl rfl
    | some j =>
      obtain ⟨y, m, k, h1, h2, h3, h4, h5, h6, h7, h8, h9, h10, rfl⟩ := dayD_some e
      have := FO_nn (n := 12 * (y - 2001) + m - 1) (by omega)
      exact .inr ⟨_, rfl, by omega, by omega⟩
  · exact .inl rfl
theorem mIn_bd (a : List Nat) : mIn a = .non ∨ ∃ j : Int, mIn a = .int j ∧ 0 ≤ j ∧ j ≤ 1439 := by
  unfold mIn
  split
  · rename_i h
    have h1 := dv_nn (a := a.take 2)
    have h2 := dv_nn (a := a.drop 3)
    exact .inr ⟨_, rfl, by omega, by omega⟩
  · exact .inl rfl
theorem tIn_cases (a : List Nat) : tIn a = .non ∨ ∃ j : Int, tIn a = .int j := by
  unfold tIn
  split
  · rcases dIn_bd (a.take 10) with e | ⟨j, e, _⟩
    · rw [e]; exact .inl rfl
    · rcases mIn_bd (a.drop 11) with f | ⟨k, f, _⟩
      · rw [e, f]; exact .inl rfl
      · rw [e, f]; exact .inr ⟨_, rfl⟩
  · exact .inl rfl
/-- read_time: the time, or NoText -/
theorem s_read_time {a : List Nat} {S : Sto} (h : a.length ≤ 16000000) : M.read_time [.str (SX.S a)] S = match tIn a with
    | .int j => .ok (.int j) S
    | _ => .exc ⟨28, [("row", .int 0)]⟩ S := by
  have hs : Txt.split (SX.S a) (Str.ofString " ") = (TL.spl [32] 0 [] a).map SX.S := by
    rw [bl_S]; exact SX.split_S (by simp) (by decide)
  have l1 : ((Str.ofString " ").length == 0) = false := by decide +kernel
  have l2 : (SX.S a).length + 2 ≤ 16777216 := by rw [SX.S_len]; omega
  have hb := spl_back (s := 32) a []
  rw [← read_in]
  unfold readT
  have bad : ∀ ws : List (List Nat), TL.spl [32] 0 [] a = ws → ((ws.map SX.S).map D.str).length ≠ 2 → M.read_time [.str (SX.S a)] S = .exc ⟨28, [("row", .int 0)]⟩ S := fun ws e hne => by
    refine tri_exc ?_
    rw [e] at hs
    have hne : ¬ (((((ws.map SX.S).map D.str).length : Nat) : Int) = 2) := by omega
    have hm : (Txt.split (SX.S a) (Str.ofString " ")).map D.str = (ws.map SX.S).map D.str := by rw [hs]
    generalize (ws.map SX.S).map D.str = L at hne hm
    simp_all_arith! only [x_obj, k_obj, x_lenO, k_lenO, k_lenK, x_ixO, k_ixO1, k_ixO2, k_ixK, x_sAppO, k_appO1, k_appK1, k_appO2, k_appK2, x_sPutL, k_putL1, k_putL2, k_putL3, k_putK3, x_lcO, k_lcO, k_lcoK, x_rngD, k_rngD1, k_rngD2, k_rngD3, x_lsR, k_lsR1, k_lsR2, x_cnt, k_cnt, k_cntK, x_sTry, k_tryN, k_tryR, k_tryX, k_goneN, k_goneR, x_sRaise, x_sRaise1, k_raise1, x_isE, k_isE, x_xf, k_xf, isNon_exc, M.read_time, M.b_read_time, x_split, k_split1, k_split2, hm, l1, hne, x_sRaise1, k_raise1]
  match hw : TL.spl [32] 0 [] a with
  | [] => exact bad _ hw (by simp)
  | [w] => exact bad _ hw (by simp)
  | [w0, w1] =>
    rw [hw] at hb hs
    have hb : w0 ++ 32 :: w1 = a := hb
    have hl : w0.length + w1.length + 1 = a.length := by rw [← hb]; simp; omega
    have fd := fun S => s_day_in (a := w0) (S := S) (by omega)
    have fm := fun S => s_minute_in (a := w1) (S := S) (by omega)
    show _ = (match joinT (dIn w0) (mIn w1) with | .int j => _ | _ => _)
    rcases dIn_bd w0 with e | ⟨j, e, j0, j1⟩
    · rw [e] at fd ⊢
      refine (tri_exc (e := ⟨28, [("row", .int 0)]⟩) ?_).trans rfl
      rcases mIn_bd w1 with f | ⟨m, f, m0, m1⟩
      · rw [f] at fm
        simp_all_arith! only [x_obj, k_obj, x_lenO, k_lenO, k_lenK, x_ixO, k_ixO1, k_ixO2, k_ixK, x_sAppO, k_appO1, k_appK1, k_appO2, k_appK2, x_sPutL, k_putL1, k_putL2, k_putL3, k_putK3, x_lcO, k_lcO, k_lcoK, x_rngD, k_rngD1, k_rngD2, k_rngD3, x_lsR, k_lsR1, k_lsR2, x_cnt, k_cnt, k_cntK, x_sTry, k_tryN, k_tryR, k_tryX, k_goneN, k_goneR, x_sRaise, x_sRaise1, k_raise1, x_isE, k_isE, x_xf, k_xf, isNon_exc, M.read_time, M.b_read_time, x_split, k_split1, k_split2, hs, l1, fd, fm, x_sRaise1, k_raise1]
      · rw [f] at fm
        simp_all_arith! only [x_obj, k_obj, x_lenO, k_lenO, k_lenK, x_ixO, k_ixO1, k_ixO2, k_ixK, x_sAppO, k_appO1, k_appK1, k_appO2, k_appK2, x_sPutL, k_putL1, k_putL2, k_putL3, k_putK3, x_lcO, k_lcO, k_lcoK, x_rngD, k_rngD1, k_rngD2, k_rngD3, x_lsR, k_lsR1, k_lsR2, x_cnt, k_cnt, k_cntK, x_sTry, k_tryN, k_tryR, k_tryX, k_goneN, k_goneR, x_sRaise, x_sRaise1, k_raise1, x_isE, k_isE, x_xf, k_xf, isNon_exc, M.read_time, M.b_read_time, x_split, k_split1, k_split2, hs, l1, fd, fm, x_sRaise1, k_raise1]
    · rw [e] at fd
      rcases mIn_bd w1 with f | ⟨m, f, m0, m1⟩
      · rw [f] at fm
        rw [e, f]
        refine tri_exc ?_
        simp_all_arith! only [x_obj, k_obj, x_lenO, k_lenO, k_lenK, x_ixO, k_ixO1, k_ixO2, k_ixK, x_sAppO, k_appO1, k_appK1, k_appO2, k_appK2, x_sPutL, k_putL1, k_putL2, k_putL3, k_putK3, x_lcO, k_lcO, k_lcoK, x_rngD, k_rngD1, k_rngD2, k_rngD3, x_lsR, k_lsR1, k_lsR2, x_cnt, k_cnt, k_cntK, x_sTry, k_tryN, k_tryR, k_tryX, k_goneN, k_goneR, x_sRaise, x_sRaise1, k_raise1, x_isE, k_isE, x_xf, k_xf, isNon_exc, M.read_time, M.b_read_time, x_split, k_split1, k_split2, hs, l1, fd, fm, x_sRaise1, k_raise1]
      · rw [f] at fm
        rw [e, f]
        refine tri_eq ?_
        simp_all_arith! only [x_obj, k_obj, x_lenO, k_lenO, k_lenK, x_ixO, k_ixO1, k_ixO2, k_ixK, x_sAppO, k_appO1, k_appK1, k_appO2, k_appK2, x_sPutL, k_putL1, k_putL2, k_putL3, k_putK3, x_lcO, k_lcO, k_lcoK, x_rngD, k_rngD1, k_rngD2, k_rngD3, x_lsR, k_lsR1, k_lsR2, x_cnt, k_cnt, k_cntK, x_sTry, k_tryN, k_tryR, k_tryX, k_goneN, k_goneR, x_sRaise, x_sRaise1, k_raise1, x_isE, k_isE, x_xf, k_xf, isNon_exc, M.read_time, M.b_read_time, x_split, k_split1, k_split2, hs, l1, fd, fm, k_DAY_MINUTES]
  | w0 :: w1 :: w2 :: r => exact bad _ hw (by simp)
theorem tIn16 {c0 c1 c2 c3 c4 c5 c6 c7 c8 c9 c10 c11 c12 c13 c14 c15 : Nat} : tIn [c0, c1, c2, c3, c4, c5, c6, c7, c8, c9, c10, c11, c12, c13, c14, c15] = if c10 = 32 then joinT (dIn [c0, c1, c2, c3, c4, c5, c6, c7, c8, c9]) (mIn [c11, c12, c13, c14, c15]) else .non := by
  unfold tIn
  simp
theorem signs4 {a b c d : Nat} {S : Sto} : cNe (.str (SX.S [a, b, c, d])) (.str "-- :") S = .ok (.bl (!decide ([a, b, c, d] = [45, 45, 32, 58]))) S := by
  have e : Str.ofString "-- :" = SX.S [45, 45, 32, 58] := by decide +kernel
  rw [q_neSS]
  congr 3
  rw [Bool.eq_iff_iff, beq_iff_eq, decide_eq_true_eq, e]
  exact ⟨fun h => S_inj h, fun h => by rw [h]⟩
def digF : D → D
  | .str y => .bl (figs y.cps.toList)
  | _ => .non
theorem lc_dig2 {a : List Nat} : (signs (SX.S a)).map digF = (a.map fun c => decide (c ∈ dig)).map D.bl := by
  unfold signs
  rw [List.map_map, List.map_map]
  show List.map _ a = _
  refine List.map_congr_left fun c _ => ?_
  show D.bl ([c].all fun c => decide (c ∈ dig)) = _
  simp
theorem s_ldue5 {a : List Nat} {S : Sto} (h : a.length ≤ 16777216) : M.law_due_v5 [.str (SX.S a)] S = .ok (tIn a) S := by
  refine tri_eq ?_
  have hl : (SX.S a).length = a.length := SX.S_len a
  have hl1 : (SX.S a).length ≤ 16777216 := by rw [hl]; exact h
  by_cases h16 : a.length = 16
  · obtain ⟨c0, c1, c2, c3, c4, c5, c6, c7, c8, c9, c10, c11, c12, c13, c14, c15, rfl⟩ : ∃ c0 c1 c2 c3 c4 c5 c6 c7 c8 c9 c10 c11 c12 c13 c14 c15, a = [c0, c1, c2, c3, c4, c5, c6, c7, c8, c9, c10, c11, c12, c13, c14, c15] := by
      match a, h16 with
      | [c0, c1, c2, c3, c4, c5, c6, c7, c8, c9, c10, c11, c12, c13, c14, c15], _ => exact ⟨_, _, _, _, _, _, _, _, _, _, _, _, _, _, _, _, rfl⟩
    rw [tIn16]
    have i4 : ∀ S, opIx (.str (SX.S [c0, c1, c2, c3, c4, c5, c6, c7, c8, c9, c10, c11, c12, c13, c14, c15])) (.int 4) S = .ok (.str (SX.S [c4])) S := fun S => by rw [ix_S h]; rfl
    have i7 : ∀ S, opIx (.str (SX.S [c0, c1, c2, c3, c4, c5, c6, c7, c8, c9, c10, c11, c12, c13, c14, c15])) (.int 7) S = .ok (.str (SX.S [c7])) S := fun S => by rw [ix_S h]; rfl
    have i10 : ∀ S, opIx (.str (SX.S [c0, c1, c2, c3, c4, c5, c6, c7, c8, c9, c10, c11, c12, c13, c14, c15])) (.int 10) S = .ok (.str (SX.S [c10])) S := fun S => by rw [ix_S h]; rfl
    have i13 : ∀ S, opIx (.str (SX.S [c0, c1, c2, c3, c4, c5, c6, c7, c8, c9, c10, c11, c12, c13, c14, c15])) (.int 13) S = .ok (.str (SX.S [c13])) S := fun S => by rw [ix_S h]; rfl
    have sA : ∀ S, opSl (.str (SX.S [c0, c1, c2, c3, c4, c5, c6, c7, c8, c9, c10, c11, c12, c13, c14, c15])) none (some 4) S = .ok (.str (SX.S [c0, c1, c2, c3])) S := fun S => by rw [sl_S hl1, cutS_to (by omega)]; rfl
    have sB : ∀ S, opSl (.str (SX.S [c0, c1, c2, c3, c4, c5, c6, c7, c8, c9, c10, c11, c12, c13, c14, c15])) (some 5) (some 7) S = .ok (.str (SX.S [c5, c6])) S := fun S => by rw [sl_S hl1, cutS_bt (by omega) (by omega)]; rfl
    have sC : ∀ S, opSl (.str (SX.S [c0, c1, c2, c3, c4, c5, c6, c7, c8, c9, c10, c11, c12, c13, c14, c15])) (some 8) (some 10) S = .ok (.str (SX.S [c8, c9])) S := fun S => by rw [sl_S hl1, cutS_bt (by omega) (by omega)]; rfl
    have sD : ∀ S, opSl (.str (SX.S [c0, c1, c2, c3, c4, c5, c6, c7, c8, c9, c10, c11, c12, c13, c14, c15])) (some 11) (some 13) S = .ok (.str (SX.S [c11, c12])) S := fun S => by rw [sl_S hl1, cutS_bt (by omega) (by omega)]; rfl
    have sE : ∀ S, opSl (.str (SX.S [c0, c1, c2, c3, c4, c5, c6, c7, c8, c9, c10, c11, c12, c13, c14, c15])) (some 14) none S = .ok (.str (SX.S [c14, c15])) S := fun S => by rw [sl_S hl1, cutS_from (by omega)]; rfl
    have hl16 : (SX.S [c0, c1, c2, c3, c4, c5, c6, c7, c8, c9, c10, c11, c12, c13, c14, c15]).length = 16 := hl
    have s12 : (signs (SX.S [c0, c1, c2, c3, c5, c6, c8, c9, c11, c12, c14, c15])).length ≤ 16777216 := by rw [signs_len]; simp
    by_cases e4 : [c4, c7, c10, c13] = [45, 45, 32, 58]
    · simp only [List.cons.injEq, and_true] at e4
      obtain ⟨rfl, rfl, rfl, rfl⟩ := e4
      simp_all_arith! only [x_obj, k_obj, x_lenO, k_lenO, k_lenK, x_ixO, k_ixO1, k_ixO2, k_ixK, x_sAppO, k_appO1, k_appK1, k_appO2, k_appK2, x_sPutL, k_putL1, k_putL2, k_putL3, k_putK3, x_lcO, k_lcO, k_lcoK, x_rngD, k_rngD1, k_rngD2, k_rngD3, x_lsR, k_lsR1, k_lsR2, x_cnt, k_cnt, k_cntK, x_sTry, k_tryN, k_tryR, k_tryX, k_goneN, k_goneR, x_sRaise, x_sRaise1, k_raise1, x_isE, k_isE, x_xf, k_xf, isNon_exc, M.law_due_v5, M.b_law_due_v5, hl16, i4, i7, i10, i13, q_catSS, signs4, sA, sB, sC, sD, sE, seqD, s12]
      refine lc_map digF ?_ ?_
      · intro y hy
        obtain ⟨c, _, rfl⟩ := List.mem_map.mp hy
        simp_arith! only [in_dig]
        simp [figs, digF]
      · rw [lc_dig2]
        have hf : figs [c0, c1, c2, c3, c5, c6, c8, c9, c11, c12, c14, c15] = ((figs [c0, c1, c2, c3] && (figs [c5, c6] && figs [c8, c9])) && (figs [c11, c12] && figs [c14, c15])) := by
          rw [show [c0, c1, c2, c3, c5, c6, c8, c9, c11, c12, c14, c15] = ([c0, c1, c2, c3] ++ ([c5, c6] ++ [c8, c9])) ++ ([c11, c12] ++ [c14, c15]) from rfl, figs_app, figs_app, figs_app, figs_app]
        have hp : ∀ S, pAll [.lst [.bl (decide (c0 ∈ dig)), .bl (decide (c1 ∈ dig)), .bl (decide (c2 ∈ dig)), .bl (decide (c3 ∈ dig)), .bl (decide (c5 ∈ dig)), .bl (decide (c6 ∈ dig)), .bl (decide (c8 ∈ dig)), .bl (decide (c9 ∈ dig)), .bl (decide (c11 ∈ dig)), .bl (decide (c12 ∈ dig)), .bl (decide (c14 ∈ dig)), .bl (decide (c15 ∈ dig))]] S = .ok (.bl (figs [c0, c1, c2, c3, c5, c6, c8, c9, c11, c12, c14, c15])) S := fun S => by
          have := p_allB (bs := [c0, c1, c2, c3, c5, c6, c8, c9, c11, c12, c14, c15].map fun c => decide (c ∈ dig)) (S := S)
          rw [all_dig] at this
          exact this
        rw [hf] at hp
        rw [dIn10, mIn5]
        cases gg : ((figs [c0, c1, c2, c3] && (figs [c5, c6] && figs [c8, c9])) && (figs [c11, c12] && figs [c14, c15])) with
        | false =>
          rw [gg] at hp
          rw [show joinT (if 45 = 45 ∧ 45 = 45 ∧ figs [c0, c1, c2, c3] = true ∧ figs [c5, c6] = true ∧ figs [c8, c9] = true then dueV (.tup [.int (dv [c0, c1, c2, c3]), .int (dv [c5, c6]), .int (dv [c8, c9])]) else .non) (if 58 = 58 ∧ figs [c11, c12] = true ∧ figs [c14, c15] = true ∧ dv [c11, c12] ≤ 23 ∧ dv [c14, c15] ≤ 59 then .int (60 * dv [c11, c12] + dv [c14, c15]) else .non) = .non from by
            by_cases q1 : figs [c0, c1, c2, c3] = true ∧ figs [c5, c6] = true ∧ figs [c8, c9] = true
            · by_cases q2 : figs [c11, c12] = true ∧ figs [c14, c15] = true
              · rw [q1.1, q1.2.1, q1.2.2, q2.1, q2.2] at gg
                exact absurd gg (by decide)
              · rw [if_neg (c := 58 = 58 ∧ _) (fun z => q2 ⟨z.2.1, z.2.2.1⟩)]
                exact joinT_non (.inr rfl)
            · rw [if_neg (c := 45 = 45 ∧ _) (fun z => q1 z.2.2)]
              exact joinT_non (.inl rfl)]
          simp_all_arith! only [x_obj, k_obj, x_lenO, k_lenO, k_lenK, x_ixO, k_ixO1, k_ixO2, k_ixK, x_sAppO, k_appO1, k_appK1, k_appO2, k_appK2, x_sPutL, k_putL1, k_putL2, k_putL3, k_putK3, x_lcO, k_lcO, k_lcoK, x_rngD, k_rngD1, k_rngD2, k_rngD3, x_lsR, k_lsR1, k_lsR2, x_cnt, k_cnt, k_cntK, x_sTry, k_tryN, k_tryR, k_tryX, k_goneN, k_goneR, x_sRaise, x_sRaise1, k_raise1, x_isE, k_isE, x_xf, k_xf, isNon_exc, hp]
        | true =>
          rw [gg] at hp
          simp only [Bool.and_eq_true] at gg
          obtain ⟨⟨gA, gB, gC⟩, gD, gE⟩ := gg
          have pA := fun S => p_intS (S := S) gA (by simp) (by simp)
          have pB := fun S => p_intS (S := S) gB (by simp) (by simp)
          have pC := fun S => p_intS (S := S) gC (by simp) (by simp)
          have pD := fun S => p_intS (S := S) gD (by simp) (by simp)
          have pE := fun S => p_intS (S := S) gE (by simp) (by simp)
          have bD := dv_hi gD
          have bE := dv_hi gE
          rw [if_pos ⟨rfl, rfl, gA, gB, gC⟩]
          simp only [gD, gE, true_and]
          generalize dv [c0, c1, c2, c3] = y at pA
          generalize dv [c5, c6] = m at pB
          generalize dv [c8, c9] = k at pC
          generalize dv [c11, c12] = u at pD bD
          generalize dv [c14, c15] = v at pE bE
          unfold dueV
          rw [dayD_int]
          by_cases y1 : 2001 ≤ y
          · by_cases y2 : y ≤ 2274
            · by_cases m1 : 1 ≤ m
              · by_cases m2 : m ≤ 12
                · by_cases k1 : 1 ≤ k
                  · by_cases k2 : k ≤ ml (12 * (y - 2001) + m - 1)
                    · have g0 := FO_nn (n := 12 * (y - 2001) + m - 1) (by omega)
                      have hld := fun S => s_law_day (y := y) (m := m) (d := k) (S := S) (by omega) (by omega) m1 m2
                      have hg : 0 ≤ FO (12 * (y - 2001) + m - 1) + k - 1 := by omega
                      generalize FO (12 * (y - 2001) + m - 1) + k - 1 = day at hld hg
                      by_cases g2 : day ≤ 99999
                      · have g3 : ¬ 99999 < day := by omega
                        by_cases u1 : u ≤ 23
                        · have u2 : ¬ 23 < u := by omega
                          by_cases v1 : v ≤ 59
                          · have v2 : ¬ 59 < v := by omega
                            simp_all_arith! only [x_obj, k_obj, x_lenO, k_lenO, k_lenK, x_ixO, k_ixO1, k_ixO2, k_ixK, x_sAppO, k_appO1, k_appK1, k_appO2, k_appK2, x_sPutL, k_putL1, k_putL2, k_putL3, k_putK3, x_lcO, k_lcO, k_lcoK, x_rngD, k_rngD1, k_rngD2, k_rngD3, x_lsR, k_lsR1, k_lsR2, x_cnt, k_cnt, k_cntK, x_sTry, k_tryN, k_tryR, k_tryX, k_goneN, k_goneR, x_sRaise, x_sRaise1, k_raise1, x_isE, k_isE, x_xf, k_xf, isNon_exc, hp, sA, sB, sC, sD, sE, pA, pB, pC, pD, pE, y1, y2, m1, m2, s_law_month_days, k1, k2, hld, g2, g3, u1, u2, v1, v2, joinT, and_self]
                          · have v2 : 59 < v := by omega
                            simp_all_arith! only [x_obj, k_obj, x_lenO, k_lenO, k_lenK, x_ixO, k_ixO1, k_ixO2, k_ixK, x_sAppO, k_appO1, k_appK1, k_appO2, k_appK2, x_sPutL, k_putL1, k_putL2, k_putL3, k_putK3, x_lcO, k_lcO, k_lcoK, x_rngD, k_rngD1, k_rngD2, k_rngD3, x_lsR, k_lsR1, k_lsR2, x_cnt, k_cnt, k_cntK, x_sTry, k_tryN, k_tryR, k_tryX, k_goneN, k_goneR, x_sRaise, x_sRaise1, k_raise1, x_isE, k_isE, x_xf, k_xf, isNon_exc, hp, sA, sB, sC, sD, sE, pA, pB, pC, pD, pE, y1, y2, m1, m2, s_law_month_days, k1, k2, hld, g2, g3, u1, u2, v1, v2, joinT, and_self]
                        · have u2 : 23 < u := by omega
                          simp_all_arith! only [x_obj, k_obj, x_lenO, k_lenO, k_lenK, x_ixO, k_ixO1, k_ixO2, k_ixK, x_sAppO, k_appO1, k_appK1, k_appO2, k_appK2, x_sPutL, k_putL1, k_putL2, k_putL3, k_putK3, x_lcO, k_lcO, k_lcoK, x_rngD, k_rngD1, k_rngD2, k_rngD3, x_lsR, k_lsR1, k_lsR2, x_cnt, k_cnt, k_cntK, x_sTry, k_tryN, k_tryR, k_tryX, k_goneN, k_goneR, x_sRaise, x_sRaise1, k_raise1, x_isE, k_isE, x_xf, k_xf, isNon_exc, hp, sA, sB, sC, sD, sE, pA, pB, pC, pD, pE, y1, y2, m1, m2, s_law_month_days, k1, k2, hld, g2, g3, u1, u2, joinT, and_self]
                      · have g3 : 99999 < day := by omega
                        simp_all_arith! only [x_obj, k_obj, x_lenO, k_lenO, k_lenK, x_ixO, k_ixO1, k_ixO2, k_ixK, x_sAppO, k_appO1, k_appK1, k_appO2, k_appK2, x_sPutL, k_putL1, k_putL2, k_putL3, k_putK3, x_lcO, k_lcO, k_lcoK, x_rngD, k_rngD1, k_rngD2, k_rngD3, x_lsR, k_lsR1, k_lsR2, x_cnt, k_cnt, k_cntK, x_sTry, k_tryN, k_tryR, k_tryX, k_goneN, k_goneR, x_sRaise, x_sRaise1, k_raise1, x_isE, k_isE, x_xf, k_xf, isNon_exc, hp, sA, sB, sC, sD, sE, pA, pB, pC, pD, pE, y1, y2, m1, m2, s_law_month_days, k1, k2, hld, g2, g3, joinT, and_false]
                    · simp_all_arith! only [x_obj, k_obj, x_lenO, k_lenO, k_lenK, x_ixO, k_ixO1, k_ixO2, k_ixK, x_sAppO, k_appO1, k_appK1, k_appO2, k_appK2, x_sPutL, k_putL1, k_putL2, k_putL3, k_putK3, x_lcO, k_lcO, k_lcoK, x_rngD, k_rngD1, k_rngD2, k_rngD3, x_lsR, k_lsR1, k_lsR2, x_cnt, k_cnt, k_cntK, x_sTry, k_tryN, k_tryR, k_tryX, k_goneN, k_goneR, x_sRaise, x_sRaise1, k_raise1, x_isE, k_isE, x_xf, k_xf, isNon_exc, hp, sA, sB, sC, sD, sE, pA, pB, pC, pD, pE, y1, y2, m1, m2, s_law_month_days, k1, k2, joinT, false_and, and_false]
                  · simp_all_arith! only [x_obj, k_obj, x_lenO, k_lenO, k_lenK, x_ixO, k_ixO1, k_ixO2, k_ixK, x_sAppO, k_appO1, k_appK1, k_appO2, k_appK2, x_sPutL, k_putL1, k_putL2, k_putL3, k_putK3, x_lcO, k_lcO, k_lcoK, x_rngD, k_rngD1, k_rngD2, k_rngD3, x_lsR, k_lsR1, k_lsR2, x_cnt, k_cnt, k_cntK, x_sTry, k_tryN, k_tryR, k_tryX, k_goneN, k_goneR, x_sRaise, x_sRaise1, k_raise1, x_isE, k_isE, x_xf, k_xf, isNon_exc, hp, sA, sB, sC, sD, sE, pA, pB, pC, pD, pE, y1, y2, m1, m2, s_law_month_days, k1, joinT, false_and, and_false]
                · simp_all_arith! only [x_obj, k_obj, x_lenO, k_lenO, k_lenK, x_ixO, k_ixO1, k_ixO2, k_ixK, x_sAppO, k_appO1, k_appK1, k_appO2, k_appK2, x_sPutL, k_putL1, k_putL2, k_putL3, k_putK3, x_lcO, k_lcO, k_lcoK, x_rngD, k_rngD1, k_rngD2, k_rngD3, x_lsR, k_lsR1, k_lsR2, x_cnt, k_cnt, k_cntK, x_sTry, k_tryN, k_tryR, k_tryX, k_goneN, k_goneR, x_sRaise, x_sRaise1, k_raise1, x_isE, k_isE, x_xf, k_xf, isNon_exc, hp, sA, sB, sC, sD, sE, pA, pB, pC, pD, pE, y1, y2, m1, m2, joinT, false_and, and_false]
              · simp_all_arith! only [x_obj, k_obj, x_lenO, k_lenO, k_lenK, x_ixO, k_ixO1, k_ixO2, k_ixK, x_sAppO, k_appO1, k_appK1, k_appO2, k_appK2, x_sPutL, k_putL1, k_putL2, k_putL3, k_putK3, x_lcO, k_lcO, k_lcoK, x_rngD, k_rngD1, k_rngD2, k_rngD3, x_lsR, k_lsR1, k_lsR2, x_cnt, k_cnt, k_cntK, x_sTry, k_tryN, k_tryR, k_tryX, k_goneN, k_goneR, x_sRaise, x_sRaise1, k_raise1, x_isE, k_isE, x_xf, k_xf, isNon_exc, hp, sA, sB, sC, sD, sE, pA, pB, pC, pD, pE, y1, y2, m1, joinT, false_and, and_false]
            · simp_all_arith! only [x_obj, k_obj, x_lenO, k_lenO, k_lenK, x_ixO, k_ixO1, k_ixO2, k_ixK, x_sAppO, k_appO1, k_appK1, k_appO2, k_appK2, x_sPutL, k_putL1, k_putL2, k_putL3, k_putK3, x_lcO, k_lcO, k_lcoK, x_rngD, k_rngD1, k_rngD2, k_rngD3, x_lsR, k_lsR1, k_lsR2, x_cnt, k_cnt, k_cntK, x_sTry, k_tryN, k_tryR, k_tryX, k_goneN, k_goneR, x_sRaise, x_sRaise1, k_raise1, x_isE, k_isE, x_xf, k_xf, isNon_exc, hp, sA, sB, sC, sD, sE, pA, pB, pC, pD, pE, y1, y2, joinT, false_and, and_false]
          · simp_all_arith! only [x_obj, k_obj, x_lenO, k_lenO, k_lenK, x_ixO, k_ixO1, k_ixO2, k_ixK, x_sAppO, k_appO1, k_appK1, k_appO2, k_appK2, x_sPutL, k_putL1, k_putL2, k_putL3, k_putK3, x_lcO, k_lcO, k_lcoK, x_rngD, k_rngD1, k_rngD2, k_rngD3, x_lsR, k_lsR1, k_lsR2, x_cnt, k_cnt, k_cntK, x_sTry, k_tryN, k_tryR, k_tryX, k_goneN, k_goneR, x_sRaise, x_sRaise1, k_raise1, x_isE, k_isE, x_xf, k_xf, isNon_exc, hp, sA, sB, sC, sD, sE, pA, pB, pC, pD, pE, y1, joinT, false_and, and_false]
    · have hn : joinT (dIn [c0, c1, c2, c3, c4, c5, c6, c7, c8, c9]) (mIn [c11, c12, c13, c14, c15]) = .non ∨ ¬ c10 = 32 := by
        by_cases e10 : c10 = 32
        · refine .inl ?_
          by_cases q : c4 = 45 ∧ c7 = 45
          · refine joinT_non (.inr ?_)
            rw [mIn5, if_neg (fun z => e4 (by rw [q.1, q.2, e10, z.1]))]
          · refine joinT_non (.inl ?_)
            rw [dIn10, if_neg (fun z => q ⟨z.1, z.2.1⟩)]
        · exact .inr e10
      rw [show (if c10 = 32 then joinT (dIn [c0, c1, c2, c3, c4, c5, c6, c7, c8, c9]) (mIn [c11, c12, c13, c14, c15]) else D.non) = .non from by
        rcases hn with e | e
        · rw [e]; split <;> rfl
        · rw [if_neg e]]
      have e4' : decide ([c4, c7, c10, c13] = [45, 45, 32, 58]) = false := decide_eq_false e4
      have sg := fun S => signs4 (a := c4) (b := c7) (c := c10) (d := c13) (S := S)
      rw [e4'] at sg
      simp_all_arith! only [x_obj, k_obj, x_lenO, k_lenO, k_lenK, x_ixO, k_ixO1, k_ixO2, k_ixK, x_sAppO, k_appO1, k_appK1, k_appO2, k_appK2, x_sPutL, k_putL1, k_putL2, k_putL3, k_putK3, x_lcO, k_lcO, k_lcoK, x_rngD, k_rngD1, k_rngD2, k_rngD3, x_lsR, k_lsR1, k_lsR2, x_cnt, k_cnt, k_cntK, x_sTry, k_tryN, k_tryR, k_tryX, k_goneN, k_goneR, x_sRaise, x_sRaise1, k_raise1, x_isE, k_isE, x_xf, k_xf, isNon_exc, M.law_due_v5, M.b_law_due_v5, hl16, i4, i7, i10, i13, q_catSS, sg]
  · have hn : ¬ ((a.length : Int) = 16) := by omega
    unfold tIn
    rw [if_neg (fun z => h16 z.1)]
    simp_all_arith! only [x_obj, k_obj, x_lenO, k_lenO, k_lenK, x_ixO, k_ixO1, k_ixO2, k_ixK, x_sAppO, k_appO1, k_appK1, k_appO2, k_appK2, x_sPutL, k_putL1, k_putL2, k_putL3, k_putK3, x_lcO, k_lcO, k_lcoK, x_rngD, k_rngD1, k_rngD2, k_rngD3, x_lsR, k_lsR1, k_lsR2, x_cnt, k_cnt, k_cntK, x_sTry, k_tryN, k_tryR, k_tryX, k_goneN, k_goneR, x_sRaise, x_sRaise1, k_raise1, x_isE, k_isE, x_xf, k_xf, isNon_exc, M.law_due_v5, M.b_law_due_v5, hl, hn]
theorem s_ttold {a : List Nat} {S : Sto} (h : a.length ≤ 16000000) : M.law_told_v4 [.str (SX.S a)] S = .ok (tIn a) S := by
  refine tri_eq ?_
  have c1 : catchD [(21, true), (28, true)] 28 = some true := rfl
  have c2 : catchD [(21, false), (28, true)] 28 = some true := rfl
  have hr := fun S => s_read_time (S := S) h
  rcases tIn_cases a with e | ⟨j, e⟩
  · have hxf := fun (K : KD) S => k_xf (cs := [28]) (f := "row") (d := .int 0) (K := K) (S := S) (c := 28) (by simp)
    rw [e] at hr
    simp only [] at hr
    simp_all_arith! only [x_obj, k_obj, x_lenO, k_lenO, k_lenK, x_ixO, k_ixO1, k_ixO2, k_ixK, x_sAppO, k_appO1, k_appK1, k_appO2, k_appK2, x_sPutL, k_putL1, k_putL2, k_putL3, k_putK3, x_lcO, k_lcO, k_lcoK, x_rngD, k_rngD1, k_rngD2, k_rngD3, x_lsR, k_lsR1, k_lsR2, x_cnt, k_cnt, k_cntK, x_sTry, k_tryN, k_tryR, k_tryX, k_goneN, k_goneR, x_sRaise, x_sRaise1, k_raise1, x_isE, k_isE, x_xf, k_xf, isNon_exc, M.law_told_v4, M.b_law_told_v4, hr, c1, c2, k_x, hxf, e]
  · rw [e] at hr
    simp only [] at hr
    simp_all_arith! only [x_obj, k_obj, x_lenO, k_lenO, k_lenK, x_ixO, k_ixO1, k_ixO2, k_ixK, x_sAppO, k_appO1, k_appK1, k_appO2, k_appK2, x_sPutL, k_putL1, k_putL2, k_putL3, k_putK3, x_lcO, k_lcO, k_lcoK, x_rngD, k_rngD1, k_rngD2, k_rngD3, x_lsR, k_lsR1, k_lsR2, x_cnt, k_cnt, k_cntK, x_sTry, k_tryN, k_tryR, k_tryX, k_goneN, k_goneR, x_sRaise, x_sRaise1, k_raise1, x_isE, k_isE, x_xf, k_xf, isNon_exc, M.law_told_v4, M.b_law_told_v4, hr, e]
theorem s_ttoldO {d : D} {S : Sto} (h : isOdd d) : M.law_told_v4 [d] S = .ok .non S := by
  have c1 : catchD [(21, true), (28, true)] 28 = some true := rfl
  have c2 : catchD [(21, false), (28, true)] 28 = some true := rfl
  have hxf := fun (K : KD) S => k_xf (cs := [28]) (f := "row") (d := .int 0) (K := K) (S := S) (c := 28) (by simp)
  have hr : ∀ S, M.read_time [d] S = .exc ⟨28, [("row", .int 0)]⟩ S := fun S => by
    refine tri_exc ?_
    rcases h with rfl | ⟨i, rfl⟩ | ⟨b, rfl⟩ | ⟨ds, rfl⟩ | ⟨ds, rfl⟩ <;> simp_all_arith! only [x_obj, k_obj, x_lenO, k_lenO, k_lenK, x_ixO, k_ixO1, k_ixO2, k_ixK, x_sAppO, k_appO1, k_appK1, k_appO2, k_appK2, x_sPutL, k_putL1, k_putL2, k_putL3, k_putK3, x_lcO, k_lcO, k_lcoK, x_rngD, k_rngD1, k_rngD2, k_rngD3, x_lsR, k_lsR1, k_lsR2, x_cnt, k_cnt, k_cntK, x_sTry, k_tryN, k_tryR, k_tryX, k_goneN, k_goneR, x_sRaise, x_sRaise1, k_raise1, x_isE, k_isE, x_xf, k_xf, isNon_exc, M.read_time, M.b_read_time, x_sRaise1, k_raise1]
  refine tri_eq ?_
  simp_all_arith! only [x_obj, k_obj, x_lenO, k_lenO, k_lenK, x_ixO, k_ixO1, k_ixO2, k_ixK, x_sAppO, k_appO1, k_appK1, k_appO2, k_appK2, x_sPutL, k_putL1, k_putL2, k_putL3, k_putK3, x_lcO, k_lcO, k_lcoK, x_rngD, k_rngD1, k_rngD2, k_rngD3, x_lsR, k_lsR1, k_lsR2, x_cnt, k_cnt, k_cntK, x_sTry, k_tryN, k_tryR, k_tryX, k_goneN, k_goneR, x_sRaise, x_sRaise1, k_raise1, x_isE, k_isE, x_xf, k_xf, isNon_exc, M.law_told_v4, M.b_law_told_v4, hr, c1, c2, k_x, hxf]
theorem two_pad {n : Nat} (h : n < 100) : TL.numL (n / 10) ++ TL.numL (n % 10) = pad 2 n := by
  unfold pad
  by_cases h1 : n < 10
  · rw [show n / 10 = 0 by omega, show n % 10 = n by omega, TL.numL_lt (show 0 < 10 by omega), TL.numL_lt h1]; rfl
  · have e := TL.numL_step (n := n) (by omega)
    rw [TL.numL_lt (show n / 10 < 10 by omega)] at e ⊢
    rw [e, TL.numL_lt (show n % 10 < 10 by omega)]; rfl
theorem s_two {n : Nat} {S : Sto} (h : n < 100) : M.law_two [.int (n : Int)] S = .ok (.str (SX.S (pad 2 n))) S := by
  refine tri_eq ?_
  have p1 : ∀ S, pStr [.int ((n : Int) / 10)] S = .ok (.str (SX.S (TL.numL (n / 10)))) S := fun S => p_strN (n := n / 10) (by omega)
  have p2 : ∀ S, pStr [.int ((n : Int) % 10)] S = .ok (.str (SX.S (TL.numL (n % 10)))) S := fun S => p_strN (n := n % 10) (by omega)
  have l1 := TL.numL_len (n := n / 10) (k := 1) (by omega) (by omega)
  have l2 := TL.numL_len (n := n % 10) (k := 1) (by omega) (by omega)
  have a1 : ∀ S, opAdd (.str (SX.S (TL.numL (n / 10)))) (.str (SX.S (TL.numL (n % 10)))) S = .ok (.str (SX.S (pad 2 n))) S := fun S => by rw [q_catSS (by omega), two_pad h]
  simp_arith! only [M.law_two, M.b_law_two, p1, p2, a1]
/-- the text of a minute of the day -/
def mtext (n : Nat) : List Nat := pad 2 (n / 60) ++ [58] ++ pad 2 (n % 60)
theorem pad2_ex {n : Nat} (h : n < 100) : ∃ a b, pad 2 n = [a, b] := by
  have h2 := pad_len (w := 2) (n := n) (by omega) h
  match pad 2 n, h2 with
  | [a, b], _ => exact ⟨a, b, rfl⟩
theorem mtext_len {n : Nat} (h : n < 1440) : (mtext n).length = 5 := by
  obtain ⟨a, b, e1⟩ := pad2_ex (n := n / 60) (by omega)
  obtain ⟨c, d, e2⟩ := pad2_ex (n := n % 60) (by omega)
  unfold mtext; rw [e1, e2]; rfl
theorem mIn_text {n : Nat} (h : n < 1440) : mIn (mtext n) = .int (n : Int) := by
  obtain ⟨a, b, e1⟩ := pad2_ex (n := n / 60) (by omega)
  obtain ⟨c, d, e2⟩ := pad2_ex (n := n % 60) (by omega)
  have f1 := figs_pad (w := 2) (n := n / 60); have f2 := figs_pad (w := 2) (n := n % 60)
  have v1 := dv_pad (w := 2) (n := n / 60); have v2 := dv_pad (w := 2) (n := n % 60)
  unfold mtext
  rw [e1] at f1 v1 ⊢; rw [e2] at f2 v2 ⊢
  show mIn [a, b, 58, c, d] = _
  rw [mIn5, if_pos ⟨rfl, f1, f2, by rw [v1]; omega, by rw [v2]; omega⟩, v1, v2]
  congr 1; omega
theorem s_show_minute {n : Nat} {S : Sto} (h : n < 1440) : M.show_minute [.int (n : Int)] S = .ok (.str (SX.S (mtext n))) S := by
  refine tri_eq ?_
  have p1 : ∀ S, M.wide [.int ((n : Int) / 60), .int 2] S = .ok (.str (SX.S (pad 2 (n / 60)))) S := fun S => s_wide (n := n / 60) (w := 2) (by omega) (by omega)
  have p2 : ∀ S, M.wide [.int ((n : Int) % 60), .int 2] S = .ok (.str (SX.S (pad 2 (n % 60)))) S := fun S => s_wide (n := n % 60) (w := 2) (by omega) (by omega)
  have l1 := pad_len (w := 2) (n := n / 60) (by omega) (by omega)
  have l2 := pad_len (w := 2) (n := n % 60) (by omega) (by omega)
  have a1 : ∀ S, opAdd (.str (SX.S (pad 2 (n / 60)))) (.str ":") S = .ok (.str (SX.S (pad 2 (n / 60) ++ [58]))) S := fun S => by rw [col_S, q_catSS (by rw [l1]; simp)]
  have a2 : ∀ S, opAdd (.str (SX.S (pad 2 (n / 60) ++ [58]))) (.str (SX.S (pad 2 (n % 60)))) S = .ok (.str (SX.S (mtext n))) S := fun S => by rw [q_catSS (by simp; omega)]; rfl
  simp_arith! only [M.show_minute, M.b_show_minute, p1, p2, a1, a2]
theorem day_date {d : Nat} (h : d ≤ 99999) : ∃ y m k : Nat, 2001 ≤ y ∧ y ≤ 2274 ∧ 1 ≤ m ∧ m ≤ 12 ∧ 1 ≤ k ∧ (k : Int) ≤ ml (12 * ((y : Int) - 2001) + m - 1) ∧ FO (12 * ((y : Int) - 2001) + m - 1) + k - 1 = d := by
  obtain ⟨n, n0, n1, n2, n3⟩ := month_get (d := (d : Int)) (by omega) (by omega)
  refine ⟨(2001 + n / 12).toNat, (n % 12 + 1).toNat, ((d : Int) - FO n + 1).toNat, by omega, by omega, by omega, by omega, by omega, ?_, ?_⟩
  all_goals
    have e : 12 * (((2001 + n / 12).toNat : Int) - 2001) + ((n % 12 + 1).toNat : Int) - 1 = n := by omega
    rw [e]
    omega
/-- the day's text -/
theorem s_day_text {d : Nat} (h : d ≤ 99999) : ∃ t : List Nat, t.length = 10 ∧ dIn t = .int (d : Int) ∧ ∀ S, M.show_day [.int (d : Int)] S = .ok (.str (SX.S t)) S := by
  obtain ⟨y, m, k, h1, h2, h3, h4, h5, h6, h7⟩ := day_date h
  have hml := ml_pos (12 * ((y : Int) - 2001) + m - 1)
  refine ⟨dtext y m k, dtext_len (by omega) (by omega) (by omega), ?_, fun S => ?_⟩
  · rw [dIn_text (by omega) (by omega) (by omega)]
    unfold dueV
    rw [dayD_int, if_pos ⟨by omega, by omega, by omega, by omega, by omega, h6, by omega⟩]
    show D.int _ = _
    rw [h7]
  · rw [← h7]; exact s_show_day h1 h2 h3 h4 h5 h6
theorem tIn_of {dt mt : List Nat} {d n : Int} (h1 : dt.length = 10) (h2 : mt.length = 5) (e1 : dIn dt = .int d) (e2 : mIn mt = .int n) : tIn (dt ++ [32] ++ mt) = .int (1440 * d + n) := by
  unfold tIn
  rw [if_pos ⟨by simp; omega, by
    rw [List.append_assoc, List.getElem?_append_right (by omega), h1]; rfl⟩]
  have k1 : List.take 10 (dt ++ [32] ++ mt) = dt := by
    rw [List.append_assoc, List.take_append_of_le_length (by omega), List.take_of_length_le (by omega)]
  have k2 : List.drop 11 (dt ++ [32] ++ mt) = mt := by
    rw [List.drop_append_of_le_length (by simp; omega), List.drop_of_length_le (by simp; omega)]; rfl
  rw [k1, k2, e1, e2]
  rfl
/-- the time's text, by the program and by the law -/
theorem s_time_text {t : Nat} (h : t ≤ 143999999) : ∃ x : List Nat, x.length = 16 ∧ tIn x = .int (t : Int) ∧ (∀ S, M.show_time [.int (t : Int)] S = .ok (.str (SX.S x)) S) ∧ ∀ S, M.law_time_text [.int (t : Int)] S = .ok (.str (SX.S x)) S := by
  obtain ⟨dt, hl, hd, hs⟩ := s_day_text (d := t / 1440) (by omega)
  have hm := fun S => s_show_minute (n := t % 1440) (S := S) (by omega)
  have hml := mtext_len (n := t % 1440) (by omega)
  have e1 : ((t : Int) / 1440) = ((t / 1440 : Nat) : Int) := by omega
  have e2 : ((t : Int) % 1440) = ((t % 1440 : Nat) : Int) := by omega
  have a1 : ∀ S, opAdd (.str (SX.S dt)) (.str " ") S = .ok (.str (SX.S (dt ++ [32]))) S := fun S => by rw [bl_S, q_catSS (by simp; omega)]
  have a2 : ∀ S, opAdd (.str (SX.S (dt ++ [32]))) (.str (SX.S (mtext (t % 1440)))) S = .ok (.str (SX.S (dt ++ [32] ++ mtext (t % 1440)))) S := fun S => by rw [q_catSS (by simp; omega)]
  refine ⟨dt ++ [32] ++ mtext (t % 1440), by simp; omega, ?_, fun S => ?_, fun S => ?_⟩
  · rw [tIn_of hl hml hd (mIn_text (by omega))]
    congr 1; omega
  · refine tri_eq ?_
    simp_arith! only [M.show_time, M.b_show_time, k_DAY_MINUTES, e1, e2, hs, hm, a1, a2]
  · refine tri_eq ?_
    have e3 : ((t % 1440 : Nat) : Int) / 60 = ((t % 1440 / 60 : Nat) : Int) := by omega
    have e4 : ((t : Int) % 60) = ((t % 1440 % 60 : Nat) : Int) := by omega
    have t1 := fun S => s_two (n := t % 1440 / 60) (S := S) (by omega)
    have t2 := fun S => s_two (n := t % 1440 % 60) (S := S) (by omega)
    have l1 := pad_len (w := 2) (n := t % 1440 / 60) (by omega) (by omega)
    have l2 := pad_len (w := 2) (n := t % 1440 % 60) (by omega) (by omega)
    have a3 : ∀ S, opAdd (.str (SX.S (dt ++ [32]))) (.str (SX.S (pad 2 (t % 1440 / 60)))) S = .ok (.str (SX.S (dt ++ [32] ++ pad 2 (t % 1440 / 60)))) S := fun S => by rw [q_catSS (by simp; omega)]
    have a4 : ∀ S, opAdd (.str (SX.S (dt ++ [32] ++ pad 2 (t % 1440 / 60)))) (.str ":") S = .ok (.str (SX.S (dt ++ [32] ++ pad 2 (t % 1440 / 60) ++ [58]))) S := fun S => by rw [col_S, q_catSS (by simp; omega)]
    have a5 : ∀ S, opAdd (.str (SX.S (dt ++ [32] ++ pad 2 (t % 1440 / 60) ++ [58]))) (.str (SX.S (pad 2 (t % 1440 % 60)))) S = .ok (.str (SX.S (dt ++ [32] ++ mtext (t % 1440)))) S := fun S => by
      rw [q_catSS (by simp only [List.length_append, List.length_cons, List.length_nil]; omega)]
      unfold mtext
      simp only [List.append_assoc]
    simp_arith! only [M.law_time_text, M.b_law_time_text, e1, e2, e3, e4, hs, t1, t2, a1, a3, a4, a5]
def sg4 : List Nat := (Str.ofString "0123456789-: abcdefghijklmnopqrstuvwxyzABCDEFGHIJKLMNOPQRSTUVWXYZ/.,+_!#$&'()*;<=>?\x40[]^{|}~\n").cps.toList
theorem sg4_S : Str.ofString "0123456789-: abcdefghijklmnopqrstuvwxyzABCDEFGHIJKLMNOPQRSTUVWXYZ/.,+_!#$&'()*;<=>?\x40[]^{|}~\n" = SX.S sg4 := rfl
theorem sg4_len : sg4.length = 92 := by decide +kernel
theorem s_bent4 {n : Nat} {R S : Sto} {a : List Nat} (hT : Tp n R S) (hn : n ≤ 10000000) (ha : a.length = 16) : Tri (M.law_bent_v4 [.obj 0, .str (SX.S a)] S) fun d S' => isTx 100 d ∧ Tp (n + 60) R S' := by
  have hl1 : (SX.S a).length ≤ 16777216 := by rw [SX.S_len]; omega
  have hls : ((SX.S a).length : Int) = 16 := by rw [SX.S_len]; omega
  have hlg : ((SX.S sg4).length : Int) = 92 := by rw [SX.S_len, sg4_len]; rfl
  have hlg1 : (SX.S sg4).length ≤ 16777216 := by rw [SX.S_len, sg4_len]; omega
  simp_all_arith! only [x_obj, k_obj, x_lenO, k_lenO, k_lenK, x_ixO, k_ixO1, k_ixO2, k_ixK, x_sAppO, k_appO1, k_appK1, k_appO2, k_appK2, x_sPutL, k_putL1, k_putL2, k_putL3, k_putK3, x_lcO, k_lcO, k_lcoK, x_rngD, k_rngD1, k_rngD2, k_rngD3, x_lsR, k_lsR1, k_lsR2, x_cnt, k_cnt, k_cntK, x_sTry, k_tryN, k_tryR, k_tryX, k_goneN, k_goneR, x_sRaise, x_sRaise1, k_raise1, x_isE, k_isE, x_xf, k_xf, isNon_exc, M.law_bent_v4, M.b_law_bent_v4, hls, sg4_S]
  refine (dr hT (by omega) (by omega) (by omega)).to ?_
  rintro _ S ⟨t, rfl, t0, t1, hT⟩
  simp_all_arith! only [x_obj, k_obj, x_lenO, k_lenO, k_lenK, x_ixO, k_ixO1, k_ixO2, k_ixK, x_sAppO, k_appO1, k_appK1, k_appO2, k_appK2, x_sPutL, k_putL1, k_putL2, k_putL3, k_putK3, x_lcO, k_lcO, k_lcoK, x_rngD, k_rngD1, k_rngD2, k_rngD3, x_lsR, k_lsR1, k_lsR2, x_cnt, k_cnt, k_cntK, x_sTry, k_tryN, k_tryR, k_tryX, k_goneN, k_goneR, x_sRaise, x_sRaise1, k_raise1, x_isE, k_isE, x_xf, k_xf, isNon_exc, hlg]
  refine (dr hT (by omega) (by omega) (by omega)).to ?_
  rintro _ S ⟨j, rfl, j0, j1, hT⟩
  obtain ⟨c, hc, _⟩ := atI_ok (xs := sg4) j0 (by rw [sg4_len]; exact j1)
  have hix : ∀ S, opIx (.str (SX.S sg4)) (.int j) S = .ok (.str (SX.S [c])) S := fun S => by rw [ix_S (by rw [sg4_len]; omega), hc]; rfl
  have e1 : Str.ofString "24:00" = SX.S [50, 52, 58, 48, 48] := by decide +kernel
  have e2 : Str.ofString "\n" = SX.S [10] := by decide +kernel
  have e3 : Str.ofString "23:60" = SX.S [50, 51, 58, 54, 48] := by decide +kernel
  simp_all_arith! only [x_obj, k_obj, x_lenO, k_lenO, k_lenK, x_ixO, k_ixO1, k_ixO2, k_ixK, x_sAppO, k_appO1, k_appK1, k_appO2, k_appK2, x_sPutL, k_putL1, k_putL2, k_putL3, k_putK3, x_lcO, k_lcO, k_lcoK, x_rngD, k_rngD1, k_rngD2, k_rngD3, x_lsR, k_lsR1, k_lsR2, x_cnt, k_cnt, k_cntK, x_sTry, k_tryN, k_tryR, k_tryX, k_goneN, k_goneR, x_sRaise, x_sRaise1, k_raise1, x_isE, k_isE, x_xf, k_xf, isNon_exc, hix, cutS_to, cutS_from, cutS_bt, q_catSS, e1, e2, e3, bl_S]
  refine (dr hT (by omega) (by omega) (by omega)).to ?_
  rintro _ S ⟨i, rfl, i0, i1, hT⟩
  simp_all_arith! only [x_obj, k_obj, x_lenO, k_lenO, k_lenK, x_ixO, k_ixO1, k_ixO2, k_ixK, x_sAppO, k_appO1, k_appK1, k_appO2, k_appK2, x_sPutL, k_putL1, k_putL2, k_putL3, k_putK3, x_lcO, k_lcO, k_lcoK, x_rngD, k_rngD1, k_rngD2, k_rngD3, x_lsR, k_lsR1, k_lsR2, x_cnt, k_cnt, k_cntK, x_sTry, k_tryN, k_tryR, k_tryX, k_goneN, k_goneR, x_sRaise, x_sRaise1, k_raise1, x_isE, k_isE, x_xf, k_xf, isNon_exc]
  refine pick (isTx 100) i0 (by simp only [List.length_cons, List.length_nil]; omega) ?_ fun d hd => ⟨hd, hT.mono (by omega)⟩
  have hx : ∀ b : List Nat, b.length ≤ 100 → isTx 100 (.str (SX.S b)) := fun b h => ⟨b, rfl, h⟩
  refine all_cons (hx _ ?_) (all_cons (hx _ ?_) (all_cons (hx _ ?_) (all_cons (hx _ ?_) (all_cons (hx _ ?_) (all_cons (hx _ ?_) (all_cons (hx _ ?_) (all_cons (hx _ ?_) (all_cons (hx _ ?_) (all_cons (hx _ ?_) all_nil)))))))))
  all_goals first | omega | (simp only [List.length_append, List.length_take, List.length_drop, List.length_cons, List.length_nil]; omega)
theorem s_law_k04 {ns : List Int} (hns : ns.length ≤ 63) : ∃ S, M.law_v4 [scr ns] [] = .ok (.bl true) S := by
  have h : Tri (M.law_v4 [scr ns] []) fun d _ => d = .bl true := by
    simp_all_arith! only [x_obj, k_obj, x_lenO, k_lenO, k_lenK, x_ixO, k_ixO1, k_ixO2, k_ixK, x_sAppO, k_appO1, k_appK1, k_appO2, k_appK2, x_sPutL, k_putL1, k_putL2, k_putL3, k_putK3, x_lcO, k_lcO, k_lcoK, x_rngD, k_rngD1, k_rngD2, k_rngD3, x_lsR, k_lsR1, k_lsR2, x_cnt, k_cnt, k_cntK, x_sTry, k_tryN, k_tryR, k_tryX, k_goneN, k_goneR, x_sRaise, x_sRaise1, k_raise1, x_isE, k_isE, x_xf, k_xf, isNon_exc, M.law_v4, M.b_law_v4]
    refine (s_tape hns).to ?_
    rintro _ S ⟨rfl, hT⟩
    simp_all_arith! only [x_obj, k_obj, x_lenO, k_lenO, k_lenK, x_ixO, k_ixO1, k_ixO2, k_ixK, x_sAppO, k_appO1, k_appK1, k_appO2, k_appK2, x_sPutL, k_putL1, k_putL2, k_putL3, k_putK3, x_lcO, k_lcO, k_lcoK, x_rngD, k_rngD1, k_rngD2, k_rngD3, x_lsR, k_lsR1, k_lsR2, x_cnt, k_cnt, k_cntK, x_sTry, k_tryN, k_tryR, k_tryX, k_goneN, k_goneR, x_sRaise, x_sRaise1, k_raise1, x_isE, k_isE, x_xf, k_xf, isNon_exc]
    refine rng_inv (fun i env S => ∃ n : Nat, (n : Int) ≤ i * 1000 ∧ Tp n [] S ∧ ∃ a b c d e f, env = [.val (scr ns), .val (.obj 0), a, b, c, d, e, f]) ⟨0, by omega, hT, _, _, _, _, _, _, rfl⟩ ?_ (by omega) ?_
    · rintro i env S i0 i1 ⟨n, hn, hT, _, _, _, _, _, _, rfl⟩
      simp_all_arith! only [x_obj, k_obj, x_lenO, k_lenO, k_lenK, x_ixO, k_ixO1, k_ixO2, k_ixK, x_sAppO, k_appO1, k_appK1, k_appO2, k_appK2, x_sPutL, k_putL1, k_putL2, k_putL3, k_putK3, x_lcO, k_lcO, k_lcoK, x_rngD, k_rngD1, k_rngD2, k_rngD3, x_lsR, k_lsR1, k_lsR2, x_cnt, k_cnt, k_cntK, x_sTry, k_tryN, k_tryR, k_tryX, k_goneN, k_goneR, x_sRaise, x_sRaise1, k_raise1, x_isE, k_isE, x_xf, k_xf, isNon_exc]
      refine (dr hT (by omega) (by omega) (by omega)).to ?_
      rintro _ S ⟨p, rfl, p0, p1, hT⟩
      simp_all_arith! only [x_obj, k_obj, x_lenO, k_lenO, k_lenK, x_ixO, k_ixO1, k_ixO2, k_ixK, x_sAppO, k_appO1, k_appK1, k_appO2, k_appK2, x_sPutL, k_putL1, k_putL2, k_putL3, k_putK3, x_lcO, k_lcO, k_lcoK, x_rngD, k_rngD1, k_rngD2, k_rngD3, x_lsR, k_lsR1, k_lsR2, x_cnt, k_cnt, k_cntK, x_sTry, k_tryN, k_tryR, k_tryX, k_goneN, k_goneR, x_sRaise, x_sRaise1, k_raise1, x_isE, k_isE, x_xf, k_xf, isNon_exc]
      refine (dr hT (by omega) (by omega) (by omega)).to ?_
      rintro _ S ⟨q, rfl, q0, q1, hT⟩
      simp_all_arith! only [x_obj, k_obj, x_lenO, k_lenO, k_lenK, x_ixO, k_ixO1, k_ixO2, k_ixK, x_sAppO, k_appO1, k_appK1, k_appO2, k_appK2, x_sPutL, k_putL1, k_putL2, k_putL3, k_putK3, x_lcO, k_lcO, k_lcoK, x_rngD, k_rngD1, k_rngD2, k_rngD3, x_lsR, k_lsR1, k_lsR2, x_cnt, k_cnt, k_cntK, x_sTry, k_tryN, k_tryR, k_tryX, k_goneN, k_goneR, x_sRaise, x_sRaise1, k_raise1, x_isE, k_isE, x_xf, k_xf, isNon_exc]
      refine (dr hT (by omega) (by omega) (by omega)).to ?_
      rintro _ S ⟨r, rfl, r0, r1, hT⟩
      simp_all_arith! only [x_obj, k_obj, x_lenO, k_lenO, k_lenK, x_ixO, k_ixO1, k_ixO2, k_ixK, x_sAppO, k_appO1, k_appK1, k_appO2, k_appK2, x_sPutL, k_putL1, k_putL2, k_putL3, k_putK3, x_lcO, k_lcO, k_lcoK, x_rngD, k_rngD1, k_rngD2, k_rngD3, x_lsR, k_lsR1, k_lsR2, x_cnt, k_cnt, k_cntK, x_sTry, k_tryN, k_tryR, k_tryX, k_goneN, k_goneR, x_sRaise, x_sRaise1, k_raise1, x_isE, k_isE, x_xf, k_xf, isNon_exc]
      refine pickI 0 143999999 (by omega) (by simp only [List.length_cons, List.length_nil]; omega) (all_cons ⟨_, rfl, by omega, by omega⟩ (all_cons ⟨_, rfl, by omega, by omega⟩ (all_cons ⟨_, rfl, by omega, by omega⟩ all_nil))) fun t t0 t1 => ?_
      obtain ⟨t, rfl⟩ : ∃ z : Nat, t = z := ⟨t.toNat, by omega⟩
      obtain ⟨x, hlen, hin, hst, hlt⟩ := s_time_text (t := t) (by omega)
      have hto := fun S => s_ttold (a := x) (S := S) (by omega)
      rw [hin] at hto
      simp_all_arith! only [x_obj, k_obj, x_lenO, k_lenO, k_lenK, x_ixO, k_ixO1, k_ixO2, k_ixK, x_sAppO, k_appO1, k_appK1, k_appO2, k_appK2, x_sPutL, k_putL1, k_putL2, k_putL3, k_putK3, x_lcO, k_lcO, k_lcoK, x_rngD, k_rngD1, k_rngD2, k_rngD3, x_lsR, k_lsR1, k_lsR2, x_cnt, k_cnt, k_cntK, x_sTry, k_tryN, k_tryR, k_tryX, k_goneN, k_goneR, x_sRaise, x_sRaise1, k_raise1, x_isE, k_isE, x_xf, k_xf, isNon_exc, hlt, hst, hto, q_neSS, beq_self_eq_true]
      refine (s_bent4 hT (by omega) hlen).to ?_
      rintro _ S ⟨⟨b, rfl, hb⟩, hT⟩
      have same : ∀ b : List Nat, b.length ≤ 16000000 → ∃ d, ∀ S, M.law_told_v4 [.str (SX.S b)] S = .ok d S ∧ M.law_due_v5 [.str (SX.S b)] S = .ok d S ∧ cNe d d S = .ok (.bl false) S := fun b h => by
        rcases tIn_cases b with e | ⟨j, e⟩
        · exact ⟨.non, fun S => ⟨by rw [s_ttold h, e], by rw [s_ldue5 (by omega), e], cNe_self (by rw [okd_n])⟩⟩
        · exact ⟨.int j, fun S => ⟨by rw [s_ttold h, e], by rw [s_ldue5 (by omega), e], cNe_self (by rw [okd_i])⟩⟩
      obtain ⟨d1, hd1⟩ := same b (by omega)
      have g1 := fun S => (hd1 S).1
      have g2 := fun S => (hd1 S).2.1
      have g3 := fun S => (hd1 S).2.2
      simp_all_arith! only [x_obj, k_obj, x_lenO, k_lenO, k_lenK, x_ixO, k_ixO1, k_ixO2, k_ixK, x_sAppO, k_appO1, k_appK1, k_appO2, k_appK2, x_sPutL, k_putL1, k_putL2, k_putL3, k_putK3, x_lcO, k_lcO, k_lcoK, x_rngD, k_rngD1, k_rngD2, k_rngD3, x_lsR, k_lsR1, k_lsR2, x_cnt, k_cnt, k_cntK, x_sTry, k_tryN, k_tryR, k_tryX, k_goneN, k_goneR, x_sRaise, x_sRaise1, k_raise1, x_isE, k_isE, x_xf, k_xf, isNon_exc, g1, g2, g3]
      refine (dr hT (by omega) (by omega) (by omega)).to ?_
      rintro _ S ⟨o, rfl, o0, o1, hT⟩
      simp_all_arith! only [x_obj, k_obj, x_lenO, k_lenO, k_lenK, x_ixO, k_ixO1, k_ixO2, k_ixK, x_sAppO, k_appO1, k_appK1, k_appO2, k_appK2, x_sPutL, k_putL1, k_putL2, k_putL3, k_putK3, x_lcO, k_lcO, k_lcoK, x_rngD, k_rngD1, k_rngD2, k_rngD3, x_lsR, k_lsR1, k_lsR2, x_cnt, k_cnt, k_cntK, x_sTry, k_tryN, k_tryR, k_tryX, k_goneN, k_goneR, x_sRaise, x_sRaise1, k_raise1, x_isE, k_isE, x_xf, k_xf, isNon_exc]
      have e3 : Str.ofString "" = SX.S [] := by decide +kernel
      have hnil : M.law_told_v4 [.str (SX.S [])] = fun S => .ok .non S := funext fun S => by rw [s_ttold (by simp)]; rfl
      refine pick (fun d => ∀ S, M.law_told_v4 [d] S = .ok .non S) o0 (by simp only [List.length_cons, List.length_nil]; omega) (all_cons (fun S => s_ttoldO (.inl rfl)) (all_cons (fun S => s_ttoldO (.inr (.inl ⟨_, rfl⟩))) (all_cons (fun S => s_ttoldO (.inr (.inr (.inl ⟨_, rfl⟩)))) (all_cons (fun S => s_ttoldO (.inr (.inr (.inr (.inl ⟨_, rfl⟩))))) (all_cons (fun S => s_ttoldO (.inr (.inr (.inr (.inr ⟨_, rfl⟩))))) (all_cons (fun S => s_ttoldO (.inr (.inr (.inr (.inl ⟨_, rfl⟩))))) (all_cons (fun S => by rw [e3, hnil]) all_nil))))))) ?_
      rintro od hod
      have hl1 : (SX.S x).length ≤ 16777216 := by rw [SX.S_len]; omega
      simp_all_arith! only [x_obj, k_obj, x_lenO, k_lenO, k_lenK, x_ixO, k_ixO1, k_ixO2, k_ixK, x_sAppO, k_appO1, k_appK1, k_appO2, k_appK2, x_sPutL, k_putL1, k_putL2, k_putL3, k_putK3, x_lcO, k_lcO, k_lcoK, x_rngD, k_rngD1, k_rngD2, k_rngD3, x_lsR, k_lsR1, k_lsR2, x_cnt, k_cnt, k_cntK, x_sTry, k_tryN, k_tryR, k_tryX, k_goneN, k_goneR, x_sRaise, x_sRaise1, k_raise1, x_isE, k_isE, x_xf, k_xf, isNon_exc, cutS_to, cutS_from]
      refine (dr hT (by omega) (by omega) (by omega)).to ?_
      rintro _ S ⟨u, rfl, u0, u1, hT⟩
      obtain ⟨u, rfl⟩ : ∃ z : Nat, u = z := ⟨u.toNat, by omega⟩
      have pu := fun S => s_two (n := u) (S := S) (by omega)
      have lu := pad_len (w := 2) (n := u) (by omega) (by omega)
      simp_all_arith! only [x_obj, k_obj, x_lenO, k_lenO, k_lenK, x_ixO, k_ixO1, k_ixO2, k_ixK, x_sAppO, k_appO1, k_appK1, k_appO2, k_appK2, x_sPutL, k_putL1, k_putL2, k_putL3, k_putK3, x_lcO, k_lcO, k_lcoK, x_rngD, k_rngD1, k_rngD2, k_rngD3, x_lsR, k_lsR1, k_lsR2, x_cnt, k_cnt, k_cntK, x_sTry, k_tryN, k_tryR, k_tryX, k_goneN, k_goneR, x_sRaise, x_sRaise1, k_raise1, x_isE, k_isE, x_xf, k_xf, isNon_exc, pu, q_catSS, cutS_to, cutS_from, col_S]
      refine (dr hT (by omega) (by omega) (by omega)).to ?_
      rintro _ S ⟨v, rfl, v0, v1, hT⟩
      obtain ⟨v, rfl⟩ : ∃ z : Nat, v = z := ⟨v.toNat, by omega⟩
      have pv := fun S => s_two (n := v) (S := S) (by omega)
      have lv := pad_len (w := 2) (n := v) (by omega) (by omega)
      simp_all_arith! only [x_obj, k_obj, x_lenO, k_lenO, k_lenK, x_ixO, k_ixO1, k_ixO2, k_ixK, x_sAppO, k_appO1, k_appK1, k_appO2, k_appK2, x_sPutL, k_putL1, k_putL2, k_putL3, k_putK3, x_lcO, k_lcO, k_lcoK, x_rngD, k_rngD1, k_rngD2, k_rngD3, x_lsR, k_lsR1, k_lsR2, x_cnt, k_cnt, k_cntK, x_sTry, k_tryN, k_tryR, k_tryX, k_goneN, k_goneR, x_sRaise, x_sRaise1, k_raise1, x_isE, k_isE, x_xf, k_xf, isNon_exc, pv, q_catSS, cutS_to, cutS_from]
      obtain ⟨d2, hd2⟩ := same (List.take 11 x ++ pad 2 u ++ [58] ++ pad 2 v) (by simp only [List.length_append, List.length_take, List.length_cons, List.length_nil]; omega)
      have f1 := fun S => (hd2 S).1
      have f2 := fun S => (hd2 S).2.1
      have f3 := fun S => (hd2 S).2.2
      simp_all_arith! only [x_obj, k_obj, x_lenO, k_lenO, k_lenK, x_ixO, k_ixO1, k_ixO2, k_ixK, x_sAppO, k_appO1, k_appK1, k_appO2, k_appK2, x_sPutL, k_putL1, k_putL2, k_putL3, k_putK3, x_lcO, k_lcO, k_lcoK, x_rngD, k_rngD1, k_rngD2, k_rngD3, x_lsR, k_lsR1, k_lsR2, x_cnt, k_cnt, k_cntK, x_sTry, k_tryN, k_tryR, k_tryX, k_goneN, k_goneR, x_sRaise, x_sRaise1, k_raise1, x_isE, k_isE, x_xf, k_xf, isNon_exc, hod, f1, f2, f3]
      exact ⟨_, by omega, hT, _, _, _, _, _, _, rfl⟩
    · rintro env S ⟨n, hn, hT, _, _, _, _, _, _, rfl⟩
      simp_all_arith! only [x_obj, k_obj, x_lenO, k_lenO, k_lenK, x_ixO, k_ixO1, k_ixO2, k_ixK, x_sAppO, k_appO1, k_appK1, k_appO2, k_appK2, x_sPutL, k_putL1, k_putL2, k_putL3, k_putK3, x_lcO, k_lcO, k_lcoK, x_rngD, k_rngD1, k_rngD2, k_rngD3, x_lsR, k_lsR1, k_lsR2, x_cnt, k_cnt, k_cntK, x_sTry, k_tryN, k_tryR, k_tryX, k_goneN, k_goneR, x_sRaise, x_sRaise1, k_raise1, x_isE, k_isE, x_xf, k_xf, isNon_exc]
  obtain ⟨_, S, e, rfl⟩ := h.eq
  exact ⟨S, e⟩
end G
section
set_option maxHeartbeats 4000000
namespace G
open PySem PySem.Spec PyProof.Rows L2
def topS (i : Nat) : Stmt := PySem.Challenge.pw_guestcopies_k04_times_as_texts.main.body.getD i (.Pass ⟨0, 0, 0, 0⟩)
section
variable {P : Program} {w : World} {K : PySem.W.Frag} {mg : Str → Option Value} {base : Heap} {cl : Nat → Addr}
theorem sc_is_whole : FnScope ["thing", "least", "most"] ["thing", "least", "most"] (defScope (topS 8)) := ⟨rfl, rfl, rfl, by decide +kernel, rfl, by decide +kernel, by decide +kernel⟩
theorem fd_is_whole (F : FnAt K mg "is_whole" (topS 8)) (m_isinstance : mg "isinstance" = none) (m_int : mg "int" = none) (m_bool : mg "bool" = none) : FD P w K mg base cl 1 "is_whole" 3 M.is_whole := by
  refine fd_of (k := 0) (N := ["thing", "least", "most"]) (ps := ["thing", "least", "most"]) (g := M.b_is_whole) F sc_is_whole (fun _ _ _ _ _ _ us hl => match us, hl with | [_, _, _], _ => rfl) (fun f cdv A outer s H E T hr tk hp => ?_)
  have hu := hr.units
  have hu65 := hu65_of hr
  have hu1 := hu_of hr
  have hN := sc_is_whole.nd
  exact (ss_one (s_ret (d_and (d_isi (T := .int) (d_var 0) m_isinstance m_int) (d_and (d_not (d_isi (T := .bool) (d_var 0) m_isinstance m_bool)) (d_one (d_lele (d_var 1) (d_var 0) (d_var 2)))))))
theorem sc_is_leap : FnScope ["year"] ["year"] (defScope (topS 9)) := ⟨rfl, rfl, rfl, by decide +kernel, rfl, by decide +kernel, by decide +kernel⟩
theorem fd_is_leap (F : FnAt K mg "is_leap" (topS 9)) : FD P w K mg base cl 1 "is_leap" 1 M.is_leap := by
  refine fd_of (k := 0) (N := ["year"]) (ps := ["year"]) (g := M.b_is_leap) F sc_is_leap (fun _ _ _ _ _ _ us hl => match us, hl with | [_], _ => rfl) (fun f cdv A outer s H E T hr tk hp => ?_)
  have hu := hr.units
  have hu65 := hu65_of hr
  have hu1 := hu_of hr
  have hN := sc_is_leap.nd
  exact (ss_one (s_ret (d_and (d_eq hu (d_mod (d_var 0) d_int) d_int) (d_one (d_or (d_ne hu (d_mod (d_var 0) d_int) d_int) (d_one (d_eq hu (d_mod (d_var 0) d_int) d_int)))))))
theorem sc_days_ahead : FnScope ["year", "many", "before", "leaps"] ["year"] (defScope (topS 10)) := ⟨rfl, rfl, rfl, by decide +kernel, rfl, by decide +kernel, by decide +kernel⟩
theorem fd_days_ahead (F : FnAt K mg "days_ahead" (topS 10)) (c_FIRST_YEAR : GConst K mg cl "FIRST_YEAR" k_FIRST_YEAR) : FD P w K mg base cl 1 "days_ahead" 1 M.days_ahead := by
  refine fd_of (k := 0) (N := ["year", "many", "before", "leaps"]) (ps := ["year"]) (g := M.b_days_ahead) F sc_days_ahead (fun _ _ _ _ _ _ us hl => match us, hl with | [_], _ => rfl) (fun f cdv A outer s H E T hr tk hp => ?_)
  have hu := hr.units
  have hu65 := hu65_of hr
  have hu1 := hu_of hr
  have hN := sc_days_ahead.nd
  exact (ss_cons (s_set 1 hN (d_sub (d_var 0) (d_glob c_FIRST_YEAR)))
  (ss_cons (s_set 2 hN (d_sub (d_var 0) d_int))
  (ss_cons (s_set 3 hN (d_sub (d_add (d_sub (d_fdiv (d_var 2) d_int) (d_fdiv (d_var 2) d_int)) (d_fdiv (d_var 2) d_int)) d_int))
  (ss_one (s_ret (d_add (d_mul d_int (d_var 1)) (d_var 3)))))))
theorem sc_month_length : FnScope ["month", "year", "place"] ["month"] (defScope (topS 11)) := ⟨rfl, rfl, rfl, by decide +kernel, rfl, by decide +kernel, by decide +kernel⟩
theorem fd_month_length (F : FnAt K mg "month_length" (topS 11)) (m_divmod : mg "divmod" = none) (c_FIRST_YEAR : GConst K mg cl "FIRST_YEAR" k_FIRST_YEAR) (c_LENGTHS : GConst K mg cl "LENGTHS" k_LENGTHS) (h_is_leap : FD P w K mg base cl 1 "is_leap" 1 M.is_leap) : FD P w K mg base cl 2 "month_length" 1 M.month_length := by
  refine fd_of (k := 1) (N := ["month", "year", "place"]) (ps := ["month"]) (g := M.b_month_length) F sc_month_length (fun _ _ _ _ _ _ us hl => match us, hl with | [_], _ => rfl) (fun f cdv A outer s H E T hr tk hp => ?_)
  have hu := hr.units
  have hu65 := hu65_of hr
  have hu1 := hu_of hr
  have hN := sc_month_length.nd
  exact (ss_cons (s_tg (d_divmod (a_cons (d_var 0) (a_cons d_int a_nil)) m_divmod) (g_tup (gs_cons (g_name 1 hN) (gs_cons (g_name 2 hN) gs_nil))))
  (ss_cons (s_if (t_of (w_and (t_eq hu (d_var 2) d_int) (w_and1 (t_val (d_call h_is_leap hr tk (a_cons (d_add (d_glob c_FIRST_YEAR) (d_var 1)) a_nil)))))) (ss_one (s_ret d_int)) ss_nil)
  (ss_one (s_ret (d_ix (d_glob c_LENGTHS) (d_var 2))))))
theorem sc_first_of : FnScope ["month", "year", "place", "day", "ahead"] ["month"] (defScope (topS 12)) := ⟨rfl, rfl, rfl, by decide +kernel, rfl, by decide +kernel, by decide +kernel⟩
theorem fd_first_of (F : FnAt K mg "first_of" (topS 12)) (m_divmod : mg "divmod" = none) (c_FIRST_YEAR : GConst K mg cl "FIRST_YEAR" k_FIRST_YEAR) (m_range : mg "range" = none) (h_days_ahead : FD P w K mg base cl 1 "days_ahead" 1 M.days_ahead) (h_month_length : FD P w K mg base cl 2 "month_length" 1 M.month_length) : FD P w K mg base cl 3 "first_of" 1 M.first_of := by
  refine fd_of (k := 2) (N := ["month", "year", "place", "day", "ahead"]) (ps := ["month"]) (g := M.b_first_of) F sc_first_of (fun _ _ _ _ _ _ us hl => match us, hl with | [_], _ => rfl) (fun f cdv A outer s H E T hr tk hp => ?_)
  have hu := hr.units
  have hu65 := hu65_of hr
  have hu1 := hu_of hr
  have hN := sc_first_of.nd
  exact (ss_cons (s_tg (d_divmod (a_cons (d_var 0) (a_cons d_int a_nil)) m_divmod) (g_tup (gs_cons (g_name 1 hN) (gs_cons (g_name 2 hN) gs_nil))))
  (ss_cons (s_set 3 hN (d_call h_days_ahead hr tk (a_cons (d_add (d_glob c_FIRST_YEAR) (d_var 1)) a_nil)))
  (ss_cons (s_for hp (i_range1 (d_var 2) m_range) (g_name 4 hN) fun _ => (ss_one (s_set 3 hN (d_add (d_var 3) (d_call h_month_length hr tk (a_cons (d_add (d_mul d_int (d_var 1)) (d_var 4)) a_nil))))))
  (ss_one (s_ret (d_var 3))))))
theorem sc_month_of : FnScope ["day", "year", "month", "rest"] ["day"] (defScope (topS 13)) := ⟨rfl, rfl, rfl, by decide +kernel, rfl, by decide +kernel, by decide +kernel⟩
theorem fd_month_of (F : FnAt K mg "month_of" (topS 13)) (c_FIRST_YEAR : GConst K mg cl "FIRST_YEAR" k_FIRST_YEAR) (h_days_ahead : FD P w K mg base cl 1 "days_ahead" 1 M.days_ahead) (h_month_length : FD P w K mg base cl 2 "month_length" 1 M.month_length) : FD P w K mg base cl 3 "month_of" 1 M.month_of := by
  refine fd_of (k := 2) (N := ["day", "year", "month", "rest"]) (ps := ["day"]) (g := M.b_month_of) F sc_month_of (fun _ _ _ _ _ _ us hl => match us, hl with | [_], _ => rfl) (fun f cdv A outer s H E T hr tk hp => ?_)
  have hu := hr.units
  have hu65 := hu65_of hr
  have hu1 := hu_of hr
  have hN := sc_month_of.nd
  exact (ss_cons (s_set 1 hN (d_add (d_glob c_FIRST_YEAR) (d_fdiv (d_var 0) d_int)))
  (ss_cons (s_while fuel hp (t_le (d_call h_days_ahead hr tk (a_cons (d_add (d_var 1) d_int) a_nil)) (d_var 0)) (ss_one (s_set 1 hN (d_add (d_var 1) d_int))))
  (ss_cons (s_set 2 hN (d_mul d_int (d_sub (d_var 1) (d_glob c_FIRST_YEAR))))
  (ss_cons (s_set 3 hN (d_sub (d_var 0) (d_call h_days_ahead hr tk (a_cons (d_var 1) a_nil))))
  (ss_cons (s_while fuel hp (t_ge (d_var 3) (d_call h_month_length hr tk (a_cons (d_var 2) a_nil))) (ss_cons (s_set 3 hN (d_sub (d_var 3) (d_call h_month_length hr tk (a_cons (d_var 2) a_nil))))
  (ss_one (s_set 2 hN (d_add (d_var 2) d_int)))))
  (ss_one (s_ret (d_var 2))))))))
theorem sc_date_of : FnScope ["day", "month"] ["day"] (defScope (topS 14)) := ⟨rfl, rfl, rfl, by decide +kernel, rfl, by decide +kernel, by decide +kernel⟩
theorem fd_date_of (F : FnAt K mg "date_of" (topS 14)) (c_FIRST_YEAR : GConst K mg cl "FIRST_YEAR" k_FIRST_YEAR) (h_first_of : FD P w K mg base cl 3 "first_of" 1 M.first_of) (h_month_of : FD P w K mg base cl 3 "month_of" 1 M.month_of) : FD P w K mg base cl 4 "date_of" 1 M.date_of := by
  refine fd_of (k := 3) (N := ["day", "month"]) (ps := ["day"]) (g := M.b_date_of) F sc_date_of (fun _ _ _ _ _ _ us hl => match us, hl with | [_], _ => rfl) (fun f cdv A outer s H E T hr tk hp => ?_)
  have hu := hr.units
  have hu65 := hu65_of hr
  have hu1 := hu_of hr
  have hN := sc_date_of.nd
  exact (ss_cons (s_set 1 hN (d_call h_month_of hr tk (a_cons (d_var 0) a_nil)))
  (ss_one (s_ret (d_tup (a_cons (d_add (d_glob c_FIRST_YEAR) (d_fdiv (d_var 1) d_int)) (a_cons (d_add (d_mod (d_var 1) d_int) d_int) (a_cons (d_add (d_sub (d_var 0) (d_call h_first_of hr tk (a_cons (d_var 1) a_nil))) d_int) a_nil)))))))
theorem sc_day_of : FnScope ["thing", "year", "month", "date", "number", "day"] ["thing"] (defScope (topS 15)) := ⟨rfl, rfl, rfl, by decide +kernel, rfl, by decide +kernel, by decide +kernel⟩
theorem fd_day_of (F : FnAt K mg "day_of" (topS 15)) (m_isinstance : mg "isinstance" = none) (m_tuple : mg "tuple" = none) (m_len : mg "len" = none) (x_NoDate : ExcAt K mg "NoDate" (cl 21)) (xn_NoDate : ExcNew K (cl 21)) (c_FIRST_YEAR : GConst K mg cl "FIRST_YEAR" k_FIRST_YEAR) (c_LAST_DAY : GConst K mg cl "LAST_DAY" k_LAST_DAY_v2) (h_first_of : FD P w K mg base cl 3 "first_of" 1 M.first_of) (h_is_whole : FD P w K mg base cl 1 "is_whole" 3 M.is_whole) (h_month_length : FD P w K mg base cl 2 "month_length" 1 M.month_length) : FD P w K mg base cl 4 "day_of" 1 M.day_of := by
  refine fd_of (k := 3) (N := ["thing", "year", "month", "date", "number", "day"]) (ps := ["thing"]) (g := M.b_day_of) F sc_day_of (fun _ _ _ _ _ _ us hl => match us, hl with | [_], _ => rfl) (fun f cdv A outer s H E T hr tk hp => ?_)
  have hu := hr.units
  have hu65 := hu65_of hr
  have hu1 := hu_of hr
  have hN := sc_day_of.nd
  exact (ss_cons (s_if (t_of (w_or (t_not (t_val (d_isi (T := .tuple) (d_var 0) m_isinstance m_tuple))) (w_or1 (t_ne hu (d_len (a_cons (d_var 0) a_nil) m_len) d_int)))) (ss_one (s_raise x_NoDate xn_NoDate tk)) ss_nil)
  (ss_cons (s_tg (d_var 0) (g_tup (gs_cons (g_name 1 hN) (gs_cons (g_name 2 hN) (gs_cons (g_name 3 hN) gs_nil)))))
  (ss_cons (s_if (t_of (w_or (t_not (t_val (d_call h_is_whole hr tk (a_cons (d_var 1) (a_cons (d_glob c_FIRST_YEAR) (a_cons d_int a_nil)))))) (w_or (t_not (t_val (d_call h_is_whole hr tk (a_cons (d_var 2) (a_cons d_int (a_cons d_int a_nil)))))) (w_or1 (t_not (t_val (d_call h_is_whole hr tk (a_cons (d_var 3) (a_cons d_int (a_cons d_int a_nil)))))))))) (ss_one (s_raise x_NoDate xn_NoDate tk)) ss_nil)
  (ss_cons (s_set 4 hN (d_sub (d_add (d_mul d_int (d_sub (d_var 1) (d_glob c_FIRST_YEAR))) (d_var 2)) d_int))
  (ss_cons (s_set 5 hN (d_sub (d_add (d_call h_first_of hr tk (a_cons (d_var 4) a_nil)) (d_var 3)) d_int))
  (ss_cons (s_if (t_of (w_or (t_gt (d_var 3) (d_call h_month_length hr tk (a_cons (d_var 4) a_nil))) (w_or1 (t_gt (d_var 5) (d_glob c_LAST_DAY))))) (ss_one (s_raise x_NoDate xn_NoDate tk)) ss_nil)
  (ss_one (s_ret (d_var 5)))))))))
theorem sc_are_figures : FnScope ["word", "many", "sign"] ["word", "many"] (defScope (topS 19)) := ⟨rfl, rfl, rfl, by decide +kernel, rfl, by decide +kernel, by decide +kernel⟩
theorem fd_are_figures (F : FnAt K mg "are_figures" (topS 19)) (m_len : mg "len" = none) (m_all : mg "all" = none) (c_FIGURES : GConst K mg cl "FIGURES" k_FIGURES) : FD P w K mg base cl 1 "are_figures" 2 M.are_figures := by
  refine fd_of (k := 0) (N := ["word", "many", "sign"]) (ps := ["word", "many"]) (g := M.b_are_figures) F sc_are_figures (fun _ _ _ _ _ _ us hl => match us, hl with | [_, _], _ => rfl) (fun f cdv A outer s H E T hr tk hp => ?_)
  have hu := hr.units
  have hu65 := hu65_of hr
  have hu1 := hu_of hr
  have hN := sc_are_figures.nd
  exact (ss_one (s_ret (d_and (d_eq hu (d_len (a_cons (d_var 0) a_nil) m_len) (d_var 1)) (d_one (d_all (a_cons (d_frz (n_lc (own := [("sign", 2)]) hN (i_seq (d_var 0)) (by show blkC ["word", "many", "sign"] (defScope (topS 19)) _ _ = true; decide +kernel) (fun _ _ _ _ _ => (g_name 2 hN)) (fun _ _ _ _ _ => p_nil) (fun _ _ _ _ _ => (d_in hu65 (d_var 2) (d_glob c_FIGURES))))) a_nil) m_all)))))
theorem sc_wide : FnScope ["number", "many"] ["number", "many"] (defScope (topS 20)) := ⟨rfl, rfl, rfl, by decide +kernel, rfl, by decide +kernel, by decide +kernel⟩
theorem fd_wide (F : FnAt K mg "wide" (topS 20)) (m_str : mg "str" = none) : FD P w K mg base cl 1 "wide" 2 M.wide := by
  refine fd_of (k := 0) (N := ["number", "many"]) (ps := ["number", "many"]) (g := M.b_wide) F sc_wide (fun _ _ _ _ _ _ us hl => match us, hl with | [_, _], _ => rfl) (fun f cdv A outer s H E T hr tk hp => ?_)
  have hu := hr.units
  have hu65 := hu65_of hr
  have hu1 := hu_of hr
  have hN := sc_wide.nd
  exact (ss_one (s_ret (d_zfill (d_strOf (a_cons (d_var 0) a_nil) m_str) (a_cons (d_var 1) a_nil))))
theorem sc_show_day : FnScope ["day", "year", "month", "date"] ["day"] (defScope (topS 21)) := ⟨rfl, rfl, rfl, by decide +kernel, rfl, by decide +kernel, by decide +kernel⟩
theorem fd_show_day (F : FnAt K mg "show_day" (topS 21)) (h_date_of : FD P w K mg base cl 4 "date_of" 1 M.date_of) (h_wide : FD P w K mg base cl 1 "wide" 2 M.wide) : FD P w K mg base cl 5 "show_day" 1 M.show_day := by
  refine fd_of (k := 4) (N := ["day", "year", "month", "date"]) (ps := ["day"]) (g := M.b_show_day) F sc_show_day (fun _ _ _ _ _ _ us hl => match us, hl with | [_], _ => rfl) (fun f cdv A outer s H E T hr tk hp => ?_)
  have hu := hr.units
  have hu65 := hu65_of hr
  have hu1 := hu_of hr
  have hN := sc_show_day.nd
  exact (ss_cons (s_tg (d_call h_date_of hr tk (a_cons (d_var 0) a_nil)) (g_tup (gs_cons (g_name 1 hN) (gs_cons (g_name 2 hN) (gs_cons (g_name 3 hN) gs_nil)))))
  (ss_one (s_ret (d_add (d_add (d_add (d_add (d_call h_wide hr tk (a_cons (d_var 1) (a_cons d_int a_nil))) d_str) (d_call h_wide hr tk (a_cons (d_var 2) (a_cons d_int a_nil)))) d_str) (d_call h_wide hr tk (a_cons (d_var 3) (a_cons d_int a_nil)))))))
theorem sc_day_in : FnScope ["word", "found"] ["word"] (defScope (topS 22)) := ⟨rfl, rfl, rfl, by decide +kernel, rfl, by decide +kernel, by decide +kernel⟩
theorem fd_day_in (F : FnAt K mg "day_in" (topS 22)) (m_len : mg "len" = none) (x_NoDate : ExcAt K mg "NoDate" (cl 21)) (hexm_NoDate_21 : ∀ p ∈ [(21, true)], PySem.W.exmOne K (.ref (cl p.1)) (.ref (cl 21)) = some p.2) (m_int : mg "int" = none) (h_are_figures : FD P w K mg base cl 1 "are_figures" 2 M.are_figures) (h_day_of : FD P w K mg base cl 4 "day_of" 1 M.day_of) : FD P w K mg base cl 5 "day_in" 1 M.day_in := by
  refine fd_of (k := 4) (N := ["word", "found"]) (ps := ["word"]) (g := M.b_day_in) F sc_day_in (fun _ _ _ _ _ _ us hl => match us, hl with | [_], _ => rfl) (fun f cdv A outer s H E T hr tk hp => ?_)
  have hu := hr.units
  have hu65 := hu65_of hr
  have hu1 := hu_of hr
  have hN := sc_day_in.nd
  exact (ss_cons (s_if (t_of (w_or (t_ne hu (d_len (a_cons (d_var 0) a_nil) m_len) d_int) (w_or (t_ne hu (d_ix (d_var 0) d_int) d_str) (w_or1 (t_ne hu (d_ix (d_var 0) d_int) d_str))))) (ss_one (s_ret d_non)) ss_nil)
  (ss_cons (s_if (t_of (w_or (t_not (t_val (d_call h_are_figures hr tk (a_cons (d_sl (d_var 0) o_none (o_some d_int)) (a_cons d_int a_nil))))) (w_or (t_not (t_val (d_call h_are_figures hr tk (a_cons (d_sl (d_var 0) (o_some d_int) (o_some d_int)) (a_cons d_int a_nil))))) (w_or1 (t_not (t_val (d_call h_are_figures hr tk (a_cons (d_sl (d_var 0) (o_some d_int) o_none) (a_cons d_int a_nil))))))))) (ss_one (s_ret d_non)) ss_nil)
  (ss_cons (s_set 1 hN d_non)
  (ss_cons (s_try x_NoDate.g hexm_NoDate_21 tk (fun _ _ _ tk hp => (ss_one (s_set 1 hN (d_call h_day_of hr tk (a_cons (d_tup (a_cons (d_intS (a_cons (d_sl (d_var 0) o_none (o_some d_int)) a_nil) m_int) (a_cons (d_intS (a_cons (d_sl (d_var 0) (o_some d_int) (o_some d_int)) a_nil) m_int) (a_cons (d_intS (a_cons (d_sl (d_var 0) (o_some d_int) o_none) a_nil) m_int) a_nil)))) a_nil))))) (fun _ _ => (ss_one (s_ret d_non))))
  (ss_one (s_ret (d_var 1)))))))
theorem sc_show_minute : FnScope ["minute"] ["minute"] (defScope (topS 23)) := ⟨rfl, rfl, rfl, by decide +kernel, rfl, by decide +kernel, by decide +kernel⟩
theorem fd_show_minute (F : FnAt K mg "show_minute" (topS 23)) (h_wide : FD P w K mg base cl 1 "wide" 2 M.wide) : FD P w K mg base cl 2 "show_minute" 1 M.show_minute := by
  refine fd_of (k := 1) (N := ["minute"]) (ps := ["minute"]) (g := M.b_show_minute) F sc_show_minute (fun _ _ _ _ _ _ us hl => match us, hl with | [_], _ => rfl) (fun f cdv A outer s H E T hr tk hp => ?_)
  have hu := hr.units
  have hu65 := hu65_of hr
  have hu1 := hu_of hr
  have hN := sc_show_minute.nd
  exact (ss_one (s_ret (d_add (d_add (d_call h_wide hr tk (a_cons (d_fdiv (d_var 0) d_int) (a_cons d_int a_nil))) d_str) (d_call h_wide hr tk (a_cons (d_mod (d_var 0) d_int) (a_cons d_int a_nil))))))
theorem sc_minute_in : FnScope ["word"] ["word"] (defScope (topS 24)) := ⟨rfl, rfl, rfl, by decide +kernel, rfl, by decide +kernel, by decide +kernel⟩
theorem fd_minute_in (F : FnAt K mg "minute_in" (topS 24)) (m_len : mg "len" = none) (m_int : mg "int" = none) (h_are_figures : FD P w K mg base cl 1 "are_figures" 2 M.are_figures) : FD P w K mg base cl 2 "minute_in" 1 M.minute_in := by
  refine fd_of (k := 1) (N := ["word"]) (ps := ["word"]) (g := M.b_minute_in) F sc_minute_in (fun _ _ _ _ _ _ us hl => match us, hl with | [_], _ => rfl) (fun f cdv A outer s H E T hr tk hp => ?_)
  have hu := hr.units
  have hu65 := hu65_of hr
  have hu1 := hu_of hr
  have hN := sc_minute_in.nd
  exact (ss_cons (s_if (t_of (w_or (t_ne hu (d_len (a_cons (d_var 0) a_nil) m_len) d_int) (w_or (t_ne hu (d_ix (d_var 0) d_int) d_str) (w_or (t_not (t_val (d_call h_are_figures hr tk (a_cons (d_sl (d_var 0) o_none (o_some d_int)) (a_cons d_int a_nil))))) (w_or1 (t_not (t_val (d_call h_are_figures hr tk (a_cons (d_sl (d_var 0) (o_some d_int) o_none) (a_cons d_int a_nil)))))))))) (ss_one (s_ret d_non)) ss_nil)
  (ss_cons (s_if (t_of (w_or (t_gt (d_intS (a_cons (d_sl (d_var 0) o_none (o_some d_int)) a_nil) m_int) d_int) (w_or1 (t_gt (d_intS (a_cons (d_sl (d_var 0) (o_some d_int) o_none) a_nil) m_int) d_int)))) (ss_one (s_ret d_non)) ss_nil)
  (ss_one (s_ret (d_add (d_mul d_int (d_intS (a_cons (d_sl (d_var 0) o_none (o_some d_int)) a_nil) m_int)) (d_intS (a_cons (d_sl (d_var 0) (o_some d_int) o_none) a_nil) m_int))))))
theorem sc_show_time : FnScope ["time"] ["time"] (defScope (topS 25)) := ⟨rfl, rfl, rfl, by decide +kernel, rfl, by decide +kernel, by decide +kernel⟩
theorem fd_show_time (F : FnAt K mg "show_time" (topS 25)) (c_DAY_MINUTES : GConst K mg cl "DAY_MINUTES" k_DAY_MINUTES) (h_show_day : FD P w K mg base cl 5 "show_day" 1 M.show_day) (h_show_minute : FD P w K mg base cl 2 "show_minute" 1 M.show_minute) : FD P w K mg base cl 6 "show_time" 1 M.show_time := by
  refine fd_of (k := 5) (N := ["time"]) (ps := ["time"]) (g := M.b_show_time) F sc_show_time (fun _ _ _ _ _ _ us hl => match us, hl with | [_], _ => rfl) (fun f cdv A outer s H E T hr tk hp => ?_)
  have hu := hr.units
  have hu65 := hu65_of hr
  have hu1 := hu_of hr
  have hN := sc_show_time.nd
  exact (ss_one (s_ret (d_add (d_add (d_call h_show_day hr tk (a_cons (d_fdiv (d_var 0) (d_glob c_DAY_MINUTES)) a_nil)) d_str) (d_call h_show_minute hr tk (a_cons (d_mod (d_var 0) (d_glob c_DAY_MINUTES)) a_nil)))))
theorem sc_NoText__init : FnScope ["self", "row"] ["self", "row"] (defScope (inClass (topS 3) 0)) := ⟨rfl, rfl, rfl, by decide +kernel, rfl, by decide +kernel, by decide +kernel⟩
theorem xi_of_NoText {C : Addr} (F : XiAt K mg "NoText" "GuestError" "row" C "NoText.__init__" (inClass (topS 3) 0)) : XInit P w K mg base "NoText" "row" C :=
  xinit_of (m := "no such text") F sc_NoText__init (fun _ _ _ _ _ _ us hl => match us, hl with | [_, _], _ => rfl) rfl fun fI cdv A outer s H E CB mB rB fv => pss_cons (ps_expr (pe_xinit rfl mB rB fv (pa_cons (pv 0) (pa_cons pe_str pa_nil)))) (pss_one (ps_ost (pv 0) (pv 1)))
theorem sc_read_time : FnScope ["text", "words", "day", "minute"] ["text"] (defScope (topS 26)) := ⟨rfl, rfl, rfl, by decide +kernel, rfl, by decide +kernel, by decide +kernel⟩
theorem fd_read_time (F : FnAt K mg "read_time" (topS 26)) (m_isinstance : mg "isinstance" = none) (m_str : mg "str" = none) (m_len : mg "len" = none) (xi_NoText : XInit P w K mg base "NoText" "row" (cl 28)) (c_DAY_MINUTES : GConst K mg cl "DAY_MINUTES" k_DAY_MINUTES) (h_day_in : FD P w K mg base cl 5 "day_in" 1 M.day_in) (h_minute_in : FD P w K mg base cl 2 "minute_in" 1 M.minute_in) : FD P w K mg base cl 6 "read_time" 1 M.read_time := by
  refine fd_of (k := 5) (N := ["text", "words", "day", "minute"]) (ps := ["text"]) (g := M.b_read_time) F sc_read_time (fun _ _ _ _ _ _ us hl => match us, hl with | [_], _ => rfl) (fun f cdv A outer s H E T hr tk hp => ?_)
  have hu := hr.units
  have hu65 := hu65_of hr
  have hu1 := hu_of hr
  have hN := sc_read_time.nd
  exact (ss_cons (s_set 1 hN (d_if (t_val (d_isi (T := .str) (d_var 0) m_isinstance m_str)) (d_frz (n_split (d_var 0) d_str)) (d_frz (n_lst a_nil))))
  (ss_cons (s_if (t_ne hu (d_len (a_cons (d_var 1) a_nil) m_len) d_int) (ss_one (s_raise1 xi_NoText hr tk d_int)) ss_nil)
  (ss_cons (s_set 2 hN (d_call h_day_in hr tk (a_cons (d_ix (d_var 1) d_int) a_nil)))
  (ss_cons (s_set 3 hN (d_call h_minute_in hr tk (a_cons (d_ix (d_var 1) d_int) a_nil)))
  (ss_cons (s_if (t_of (w_or (t_is (d_var 2) d_non) (w_or1 (t_is (d_var 3) d_non)))) (ss_one (s_raise1 xi_NoText hr tk d_int)) ss_nil)
  (ss_one (s_ret (d_add (d_mul (d_glob c_DAY_MINUTES) (d_var 2)) (d_var 3)))))))))
theorem sc_law_tape : FnScope ["_law_script"] ["_law_script"] (defScope (topS 28)) := ⟨rfl, rfl, rfl, by decide +kernel, rfl, by decide +kernel, by decide +kernel⟩
theorem fd_law_tape (F : FnAt K mg "_law_tape" (topS 28)) : FD P w K mg base cl 1 "_law_tape" 1 M.law_tape := by
  refine fd_of (k := 0) (N := ["_law_script"]) (ps := ["_law_script"]) (g := M.b_law_tape) F sc_law_tape (fun _ _ _ _ _ _ us hl => match us, hl with | [_], _ => rfl) (fun f cdv A outer s H E T hr tk hp => ?_)
  have hu := hr.units
  have hu65 := hu65_of hr
  have hu1 := hu_of hr
  have hN := sc_law_tape.nd
  exact (ss_one (s_ret (d_dict (PpD.cons d_str (d_sl (d_var 0) o_none (o_some d_int)) (PpD.cons d_str d_int (PpD.cons d_str d_int PpD.nil))))))
theorem sc_law_draw : FnScope ["_law_tape_here", "_law_many", "_law_spot", "_law_cells", "_law_cell", "_law_primes", "_law_prime", "_law_seed", "_law_found"] ["_law_tape_here", "_law_many"] (defScope (topS 29)) := ⟨rfl, rfl, rfl, by decide +kernel, rfl, by decide +kernel, by decide +kernel⟩
theorem fd_law_draw (F : FnAt K mg "_law_draw" (topS 29)) (m_len : mg "len" = none) : ∀ k, FD P w K mg base cl (0 + k) "_law_draw" 2 (M.law_draw k)
  | 0 => fd_bad (ps := ["_law_tape_here", "_law_many"]) F (fun _ _ _ _ _ _ us hl => match us, hl with | [_, _], _ => rfl)
  | k + 1 => by
    have h_law_draw : FD P w K mg base cl (0 + k) "_law_draw" 2 (M.law_draw k) := fd_law_draw F m_len k
    refine fd_of (k := 0 + k) (N := ["_law_tape_here", "_law_many", "_law_spot", "_law_cells", "_law_cell", "_law_primes", "_law_prime", "_law_seed", "_law_found"]) (ps := ["_law_tape_here", "_law_many"]) (g := M.b_law_draw (M.law_draw k)) F sc_law_draw (fun _ _ _ _ _ _ us hl => match us, hl with | [_, _], _ => rfl) (fun f cdv A outer s H E T hr tk hp => ?_)
    have hu := hr.units
    have hu65 := hu65_of hr
    have hu1 := hu_of hr
    have hN := sc_law_draw.nd
    exact (ss_cons (s_if (t_gt (d_get hu1 (d_var 0) d_str) d_int) (ss_cons (s_set 8 hN (d_mod (d_get hu1 (d_var 0) d_str) (d_var 1)))
  (ss_cons (s_put hu1 (d_var 0) d_str (d_fdiv (d_get hu1 (d_var 0) d_str) (d_var 1)))
  (ss_one (s_ret (d_var 8))))) ss_nil)
  (ss_cons (s_set 2 hN (d_get hu1 (d_var 0) d_str))
  (ss_cons (s_put hu1 (d_var 0) d_str (d_add (d_var 2) d_int))
  (ss_cons (s_set 3 hN (d_or (d_get hu1 (d_var 0) d_str) (d_one (d_frz (n_lst (a_cons d_int a_nil))))))
  (ss_cons (s_set 4 hN (d_ix (d_var 3) (d_mod (d_var 2) (d_len (a_cons (d_var 3) a_nil) m_len))))
  (ss_cons (s_if (t_of (w_and (t_ge (d_var 4) (d_pow d_int d_int)) (w_and1 (t_lt (d_var 2) (d_len (a_cons (d_var 3) a_nil) m_len))))) (ss_cons (s_put hu1 (d_var 0) d_str (d_fdiv (d_sub (d_var 4) (d_pow d_int d_int)) (d_var 1)))
  (ss_one (s_ret (d_mod (d_sub (d_var 4) (d_pow d_int d_int)) (d_var 1))))) ss_nil)
  (ss_cons (s_set 5 hN (d_frz (n_lst (a_cons d_int (a_cons d_int (a_cons d_int (a_cons d_int (a_cons d_int (a_cons d_int (a_cons d_int a_nil))))))))))
  (ss_cons (s_set 6 hN (d_ix (d_var 5) (d_mod (d_var 2) d_int)))
  (ss_cons (s_set 7 hN (d_mod (d_add (d_add (d_add (d_mul (d_mod (d_var 4) (d_var 6)) d_int) (d_mul (d_mul d_int (d_var 2)) (d_var 2))) (d_mul d_int (d_var 2))) d_int) (d_var 6)))
  (ss_cons (s_set 7 hN (d_mod (d_mul (d_var 7) (d_add (d_var 7) d_int)) (d_ix (d_var 5) (d_mod (d_add (d_var 2) d_int) d_int))))
  (ss_cons (s_set 8 hN (d_fdiv (d_mod (d_mul (d_var 7) (d_var 7)) (d_var 6)) d_int))
  (ss_cons (s_if (t_gt (d_var 1) (d_pow d_int d_int)) (ss_one (s_set 8 hN (d_add (d_mod (d_var 8) (d_pow d_int d_int)) (d_mul (d_pow d_int d_int) (d_call h_law_draw hr tk (a_cons (d_var 0) (a_cons (d_add (d_fdiv (d_var 1) (d_pow d_int d_int)) d_int) a_nil))))))) ss_nil)
  (ss_one (s_ret (d_mod (d_var 8) (d_var 1))))))))))))))))
theorem sc_law_month_days : FnScope ["_law_year", "_law_month"] ["_law_year", "_law_month"] (defScope (topS 30)) := ⟨rfl, rfl, rfl, by decide +kernel, rfl, by decide +kernel, by decide +kernel⟩
theorem fd_law_month_days (F : FnAt K mg "_law_month_days" (topS 30)) (m_int : mg "int" = none) : FD P w K mg base cl 1 "_law_month_days" 2 M.law_month_days := by
  refine fd_of (k := 0) (N := ["_law_year", "_law_month"]) (ps := ["_law_year", "_law_month"]) (g := M.b_law_month_days) F sc_law_month_days (fun _ _ _ _ _ _ us hl => match us, hl with | [_, _], _ => rfl) (fun f cdv A outer s H E T hr tk hp => ?_)
  have hu := hr.units
  have hu65 := hu65_of hr
  have hu1 := hu_of hr
  have hN := sc_law_month_days.nd
  exact (ss_cons (s_if (t_eq hu (d_var 1) d_int) (ss_one (s_ret (d_add d_int (d_intOf (a_cons (d_and (d_eq hu (d_mod (d_var 0) d_int) d_int) (d_one (d_or (d_gt (d_mod (d_var 0) d_int) d_int) (d_one (d_eq hu (d_mod (d_var 0) d_int) d_int))))) a_nil) m_int)))) ss_nil)
  (ss_one (s_ret (d_add d_int (d_intOf (a_cons (d_in hu65 (d_var 1) (d_tup (a_cons d_int (a_cons d_int (a_cons d_int (a_cons d_int (a_cons d_int (a_cons d_int (a_cons d_int a_nil))))))))) a_nil) m_int)))))
theorem sc_law_day : FnScope ["_law_year", "_law_month", "_law_date", "_law_shifted", "_law_place", "_law_days"] ["_law_year", "_law_month", "_law_date"] (defScope (topS 31)) := ⟨rfl, rfl, rfl, by decide +kernel, rfl, by decide +kernel, by decide +kernel⟩
theorem fd_law_day (F : FnAt K mg "_law_day" (topS 31)) (m_int : mg "int" = none) : FD P w K mg base cl 1 "_law_day" 3 M.law_day_v2 := by
  refine fd_of (k := 0) (N := ["_law_year", "_law_month", "_law_date", "_law_shifted", "_law_place", "_law_days"]) (ps := ["_law_year", "_law_month", "_law_date"]) (g := M.b_law_day_v2) F sc_law_day (fun _ _ _ _ _ _ us hl => match us, hl with | [_, _, _], _ => rfl) (fun f cdv A outer s H E T hr tk hp => ?_)
  have hu := hr.units
  have hu65 := hu65_of hr
  have hu1 := hu_of hr
  have hN := sc_law_day.nd
  exact (ss_cons (s_set 3 hN (d_sub (d_var 0) (d_intOf (a_cons (d_lt (d_var 1) d_int) a_nil) m_int)))
  (ss_cons (s_set 4 hN (d_mod (d_add (d_var 1) d_int) d_int))
  (ss_cons (s_set 5 hN (d_sub (d_add (d_add (d_add (d_sub (d_add (d_mul d_int (d_var 3)) (d_fdiv (d_var 3) d_int)) (d_fdiv (d_var 3) d_int)) (d_fdiv (d_var 3) d_int)) (d_fdiv (d_add (d_mul d_int (d_var 4)) d_int) d_int)) (d_var 2)) d_int))
  (ss_one (s_ret (d_sub (d_var 5) d_int))))))
theorem sc_law_two : FnScope ["_law_number"] ["_law_number"] (defScope (topS 33)) := ⟨rfl, rfl, rfl, by decide +kernel, rfl, by decide +kernel, by decide +kernel⟩
theorem fd_law_two (F : FnAt K mg "_law_two" (topS 33)) (m_str : mg "str" = none) : FD P w K mg base cl 1 "_law_two" 1 M.law_two := by
  refine fd_of (k := 0) (N := ["_law_number"]) (ps := ["_law_number"]) (g := M.b_law_two) F sc_law_two (fun _ _ _ _ _ _ us hl => match us, hl with | [_], _ => rfl) (fun f cdv A outer s H E T hr tk hp => ?_)
  have hu := hr.units
  have hu65 := hu65_of hr
  have hu1 := hu_of hr
  have hN := sc_law_two.nd
  exact (ss_one (s_ret (d_add (d_strOf (a_cons (d_fdiv (d_var 0) d_int) a_nil) m_str) (d_strOf (a_cons (d_mod (d_var 0) d_int) a_nil) m_str))))
theorem sc_law_time_text : FnScope ["_law_time"] ["_law_time"] (defScope (topS 34)) := ⟨rfl, rfl, rfl, by decide +kernel, rfl, by decide +kernel, by decide +kernel⟩
theorem fd_law_time_text (F : FnAt K mg "_law_time_text" (topS 34)) (h_law_two : FD P w K mg base cl 1 "_law_two" 1 M.law_two) (h_show_day : FD P w K mg base cl 5 "show_day" 1 M.show_day) : FD P w K mg base cl 6 "_law_time_text" 1 M.law_time_text := by
  refine fd_of (k := 5) (N := ["_law_time"]) (ps := ["_law_time"]) (g := M.b_law_time_text) F sc_law_time_text (fun _ _ _ _ _ _ us hl => match us, hl with | [_], _ => rfl) (fun f cdv A outer s H E T hr tk hp => ?_)
  have hu := hr.units
  have hu65 := hu65_of hr
  have hu1 := hu_of hr
  have hN := sc_law_time_text.nd
  exact (ss_one (s_ret (d_add (d_add (d_add (d_add (d_call h_show_day hr tk (a_cons (d_fdiv (d_var 0) d_int) a_nil)) d_str) (d_call h_law_two hr tk (a_cons (d_fdiv (d_mod (d_var 0) d_int) d_int) a_nil))) d_str) (d_call h_law_two hr tk (a_cons (d_mod (d_var 0) d_int) a_nil)))))
theorem sc_law_due : FnScope ["_law_text", "_law_figures", "_law_year", "_law_month", "_law_date", "_law_day_here", "_law_sign"] ["_law_text"] (defScope (topS 35)) := ⟨rfl, rfl, rfl, by decide +kernel, rfl, by decide +kernel, by decide +kernel⟩
theorem fd_law_due (F : FnAt K mg "_law_due" (topS 35)) (m_isinstance : mg "isinstance" = none) (m_str : mg "str" = none) (m_len : mg "len" = none) (m_all : mg "all" = none) (m_int : mg "int" = none) (h_law_day : FD P w K mg base cl 1 "_law_day" 3 M.law_day_v2) (h_law_month_days : FD P w K mg base cl 1 "_law_month_days" 2 M.law_month_days) : FD P w K mg base cl 2 "_law_due" 1 M.law_due_v5 := by
  refine fd_of (k := 1) (N := ["_law_text", "_law_figures", "_law_year", "_law_month", "_law_date", "_law_day_here", "_law_sign"]) (ps := ["_law_text"]) (g := M.b_law_due_v5) F sc_law_due (fun _ _ _ _ _ _ us hl => match us, hl with | [_], _ => rfl) (fun f cdv A outer s H E T hr tk hp => ?_)
  have hu := hr.units
  have hu65 := hu65_of hr
  have hu1 := hu_of hr
  have hN := sc_law_due.nd
  exact (ss_cons (s_if (t_of (w_or (t_not (t_val (d_isi (T := .str) (d_var 0) m_isinstance m_str))) (w_or (t_ne hu (d_len (a_cons (d_var 0) a_nil) m_len) d_int) (w_or1 (t_ne hu (d_add (d_add (d_add (d_ix (d_var 0) d_int) (d_ix (d_var 0) d_int)) (d_ix (d_var 0) d_int)) (d_ix (d_var 0) d_int)) d_str))))) (ss_one (s_ret d_non)) ss_nil)
  (ss_cons (s_set 1 hN (d_add (d_add (d_add (d_add (d_sl (d_var 0) o_none (o_some d_int)) (d_sl (d_var 0) (o_some d_int) (o_some d_int))) (d_sl (d_var 0) (o_some d_int) (o_some d_int))) (d_sl (d_var 0) (o_some d_int) (o_some d_int))) (d_sl (d_var 0) (o_some d_int) o_none)))
  (ss_cons (s_if (t_not (t_val (d_all (a_cons (d_frz (n_lc (own := [("_law_sign", 6)]) hN (i_seq (d_var 1)) (by show blkC ["_law_text", "_law_figures", "_law_year", "_law_month", "_law_date", "_law_day_here", "_law_sign"] (defScope (topS 35)) _ _ = true; decide +kernel) (fun _ _ _ _ _ => (g_name 6 hN)) (fun _ _ _ _ _ => p_nil) (fun _ _ _ _ _ => (d_in hu65 (d_var 6) d_str)))) a_nil) m_all))) (ss_one (s_ret d_non)) ss_nil)
  (ss_cons (s_par3 2 3 4 hN (a_cons (d_intS (a_cons (d_sl (d_var 0) o_none (o_some d_int)) a_nil) m_int) (a_cons (d_intS (a_cons (d_sl (d_var 0) (o_some d_int) (o_some d_int)) a_nil) m_int) (a_cons (d_intS (a_cons (d_sl (d_var 0) (o_some d_int) (o_some d_int)) a_nil) m_int) a_nil))) (t := fun h => ps_par3 rfl hN rfl rfl rfl (by decide) (by decide) (by decide) rfl rfl rfl h rfl rfl))
  (ss_cons (s_if (t_of (w_or (t_not (t_lele d_int (d_var 2) d_int)) (w_or (t_not (t_lele d_int (d_var 3) d_int)) (w_or1 (t_not (t_lele d_int (d_var 4) (d_call h_law_month_days hr tk (a_cons (d_var 2) (a_cons (d_var 3) a_nil))))))))) (ss_one (s_ret d_non)) ss_nil)
  (ss_cons (s_set 5 hN (d_call h_law_day hr tk (a_cons (d_var 2) (a_cons (d_var 3) (a_cons (d_var 4) a_nil)))))
  (ss_cons (s_if (t_of (w_or (t_gt (d_var 5) d_int) (w_or (t_gt (d_intS (a_cons (d_sl (d_var 0) (o_some d_int) (o_some d_int)) a_nil) m_int) d_int) (w_or1 (t_gt (d_intS (a_cons (d_sl (d_var 0) (o_some d_int) o_none) a_nil) m_int) d_int))))) (ss_one (s_ret d_non)) ss_nil)
  (ss_one (s_ret (d_add (d_add (d_mul d_int (d_var 5)) (d_mul d_int (d_intS (a_cons (d_sl (d_var 0) (o_some d_int) (o_some d_int)) a_nil) m_int))) (d_intS (a_cons (d_sl (d_var 0) (o_some d_int) o_none) a_nil) m_int)))))))))))
theorem sc_law_told : FnScope ["_law_text", "_law_found", "_law_caught", "e"] ["_law_text"] (defScope (topS 36)) := ⟨rfl, rfl, rfl, by decide +kernel, rfl, by decide +kernel, by decide +kernel⟩
theorem fd_law_told (F : FnAt K mg "_law_told" (topS 36)) (x_GuestError : ExcAt K mg "GuestError" (cl 20)) (hexm_GuestError_21_28 : ∀ p ∈ [(21, true), (28, true)], PySem.W.exmOne K (.ref (cl p.1)) (.ref (cl 20)) = some p.2) (m_isinstance : mg "isinstance" = none) (x_NoText : ExcAt K mg "NoText" (cl 28)) (hexk_NoText_21_28 : ∀ p ∈ [(21, false), (28, true)], ExcC K (cl p.1) ∧ PySem.W.kitOne K (.ref (cl p.1)) (.ref (cl 28)) = some p.2) (hexf_row_28 : ∀ c ∈ [28], XfC K (cl c) ∧ PySem.W.findIn K (.ref (cl c)) "row" = some none) (h_read_time : FD P w K mg base cl 6 "read_time" 1 M.read_time) : FD P w K mg base cl 7 "_law_told" 1 M.law_told_v4 := by
  refine fd_of (k := 6) (N := ["_law_text", "_law_found", "_law_caught", "e"]) (ps := ["_law_text"]) (g := M.b_law_told_v4) F sc_law_told (fun _ _ _ _ _ _ us hl => match us, hl with | [_], _ => rfl) (fun f cdv A outer s H E T hr tk hp => ?_)
  have hu := hr.units
  have hu65 := hu65_of hr
  have hu1 := hu_of hr
  have hN := sc_law_told.nd
  exact (ss_cons (s_set 1 hN d_non)
  (ss_cons (s_set 2 hN d_non)
  (ss_cons (s_tryAs (i := 3) rfl x_GuestError.g hexm_GuestError_21_28 hN tk (fun _ _ _ tk hp => (ss_one (s_set 1 hN (d_call h_read_time hr tk (a_cons (d_var 0) a_nil))))) (fun _ _ => (ss_one (s_set 2 hN (d_var 3)))))
  (ss_cons (s_if (t_is (d_var 2) d_non) (ss_one (s_ret (d_var 1))) ss_nil)
  (ss_one (s_ret (d_if (t_of (w_and (t_val (d_isE (d_var 2) m_isinstance x_NoText.g hexk_NoText_21_28)) (w_and (t_eq hu (d_xf (d_var 2) hexf_row_28) d_int) (w_and1 (t_isnot (d_xf (d_var 2) hexf_row_28) d_bl))))) d_non d_str)))))))
theorem sc_law_bent : FnScope ["_law_tape_here", "_law_text", "_law_signs", "_law_at", "_law_sign", "_law_some"] ["_law_tape_here", "_law_text"] (defScope (topS 37)) := ⟨rfl, rfl, rfl, by decide +kernel, rfl, by decide +kernel, by decide +kernel⟩
theorem fd_law_bent (F : FnAt K mg "_law_bent" (topS 37)) (m_len : mg "len" = none) (h_law_draw : FD P w K mg base cl 20 "_law_draw" 2 (M.law_draw 20)) : FD P w K mg base cl 21 "_law_bent" 2 M.law_bent_v4 := by
  refine fd_of (k := 20) (N := ["_law_tape_here", "_law_text", "_law_signs", "_law_at", "_law_sign", "_law_some"]) (ps := ["_law_tape_here", "_law_text"]) (g := M.b_law_bent_v4) F sc_law_bent (fun _ _ _ _ _ _ us hl => match us, hl with | [_, _], _ => rfl) (fun f cdv A outer s H E T hr tk hp => ?_)
  have hu := hr.units
  have hu65 := hu65_of hr
  have hu1 := hu_of hr
  have hN := sc_law_bent.nd
  exact (ss_cons (s_set 2 hN d_str)
  (ss_cons (s_set 3 hN (d_call h_law_draw hr tk (a_cons (d_var 0) (a_cons (d_add (d_len (a_cons (d_var 1) a_nil) m_len) d_int) a_nil))))
  (ss_cons (s_set 4 hN (d_ix (d_var 2) (d_call h_law_draw hr tk (a_cons (d_var 0) (a_cons (d_len (a_cons (d_var 2) a_nil) m_len) a_nil)))))
  (ss_cons (s_set 5 hN (d_frz (n_lst (a_cons (d_add (d_add (d_sl (d_var 1) o_none (o_some (d_var 3))) (d_var 4)) (d_sl (d_var 1) (o_some (d_var 3)) o_none)) (a_cons (d_add (d_add (d_sl (d_var 1) o_none (o_some (d_var 3))) (d_var 4)) (d_sl (d_var 1) (o_some (d_add (d_var 3) d_int)) o_none)) (a_cons (d_add (d_sl (d_var 1) o_none (o_some (d_var 3))) (d_sl (d_var 1) (o_some (d_add (d_var 3) d_int)) o_none)) (a_cons (d_var 1) a_nil)))))))
  (ss_cons (s_set 5 hN (d_add (d_var 5) (d_frz (n_lst (a_cons (d_add (d_sl (d_var 1) o_none (o_some d_int)) d_str) (a_cons (d_add (d_sl (d_var 1) o_none (o_some d_int)) d_str) (a_cons (d_add (d_sl (d_var 1) o_none (o_some d_int)) (d_sl (d_var 1) (o_some d_int) o_none)) (a_cons (d_add (d_var 1) d_str) (a_cons (d_add (d_var 1) d_str) (a_cons (d_sl (d_var 1) o_none (o_some d_int)) a_nil))))))))))
  (ss_one (s_ret (d_ix (d_var 5) (d_call h_law_draw hr tk (a_cons (d_var 0) (a_cons d_int a_nil)))))))))))
theorem sc_law : FnScope ["_law_script", "_law_tape_here", "_law_turn", "_law_time", "_law_text", "_law_other", "_law_odd", "_law_hours"] ["_law_script"] (defScope (topS 38)) := ⟨rfl, rfl, rfl, by decide +kernel, rfl, by decide +kernel, by decide +kernel⟩
theorem fn_law {f : Addr} {fd : FuncData} (F : Fun K "law" "law" (topS 38) f fd) (m_range : mg "range" = none) (h_law_bent : FD P w K mg base cl 21 "_law_bent" 2 M.law_bent_v4) (h_law_draw : FD P w K mg base cl 20 "_law_draw" 2 (M.law_draw 20)) (h_law_due : FD P w K mg base cl 2 "_law_due" 1 M.law_due_v5) (h_law_tape : FD P w K mg base cl 1 "_law_tape" 1 M.law_tape) (h_law_time_text : FD P w K mg base cl 6 "_law_time_text" 1 M.law_time_text) (h_law_told : FD P w K mg base cl 7 "_law_told" 1 M.law_told_v4) (h_law_two : FD P w K mg base cl 1 "_law_two" 1 M.law_two) (h_show_time : FD P w K mg base cl 6 "show_time" 1 M.show_time) : FnOk P w K mg base (L2.CX P w) 22 f fd ["_law_script"] (spD K cl 1 M.law_v4) := by
  refine fn_D (k := 21) (N := ["_law_script", "_law_tape_here", "_law_turn", "_law_time", "_law_text", "_law_other", "_law_odd", "_law_hours"]) (ps := ["_law_script"]) (g := M.b_law_v4) F sc_law (fun cdv A outer s H E T hr tk hp => ?_)
  have hu := hr.units
  have hu65 := hu65_of hr
  have hu1 := hu_of hr
  have hN := sc_law.nd
  exact (ss_cons (s_set 1 hN (d_call h_law_tape hr tk (a_cons (d_var 0) a_nil)))
  (ss_cons (s_for hp (i_range1 d_int m_range) (g_name 2 hN) fun _ => (ss_cons (s_set 3 hN (d_ix (d_frz (n_lst (a_cons (d_add (d_mul d_int (d_call h_law_draw hr tk (a_cons (d_var 1) (a_cons d_int a_nil)))) (d_call h_law_draw hr tk (a_cons (d_var 1) (a_cons d_int a_nil)))) (a_cons d_int (a_cons d_int a_nil))))) (d_fdiv (d_call h_law_draw hr tk (a_cons (d_var 1) (a_cons d_int a_nil))) d_int)))
  (ss_cons (s_set 4 hN (d_call h_law_time_text hr tk (a_cons (d_var 3) a_nil)))
  (ss_cons (s_if (t_of (w_or (t_ne hu (d_call h_show_time hr tk (a_cons (d_var 3) a_nil)) (d_var 4)) (w_or1 (t_ne hu (d_call h_law_told hr tk (a_cons (d_var 4) a_nil)) (d_var 3))))) (ss_one (s_ret d_bl)) ss_nil)
  (ss_cons (s_set 5 hN (d_call h_law_bent hr tk (a_cons (d_var 1) (a_cons (d_var 4) a_nil))))
  (ss_cons (s_if (t_ne hu (d_call h_law_told hr tk (a_cons (d_var 5) a_nil)) (d_call h_law_due hr tk (a_cons (d_var 5) a_nil))) (ss_one (s_ret d_bl)) ss_nil)
  (ss_cons (s_set 6 hN (d_ix (d_frz (n_lst (a_cons d_non (a_cons d_int (a_cons d_bl (a_cons (d_tup (a_cons (d_var 4) a_nil)) (a_cons (d_frz (n_lst (a_cons (d_var 4) a_nil))) (a_cons (d_tup a_nil) (a_cons d_str a_nil))))))))) (d_call h_law_draw hr tk (a_cons (d_var 1) (a_cons d_int a_nil)))))
  (ss_cons (s_set 7 hN (d_add (d_add (d_add (d_sl (d_var 4) o_none (o_some d_int)) (d_call h_law_two hr tk (a_cons (d_call h_law_draw hr tk (a_cons (d_var 1) (a_cons d_int a_nil))) a_nil))) d_str) (d_call h_law_two hr tk (a_cons (d_call h_law_draw hr tk (a_cons (d_var 1) (a_cons d_int a_nil))) a_nil))))
  (ss_one (s_if (t_of (w_or (t_isnot (d_call h_law_told hr tk (a_cons (d_var 6) a_nil)) d_non) (w_or1 (t_ne hu (d_call h_law_told hr tk (a_cons (d_var 7) a_nil)) (d_call h_law_due hr tk (a_cons (d_var 7) a_nil)))))) (ss_one (s_ret d_bl)) ss_nil))))))))))
  (ss_one (s_ret d_bl))))
end
def clOf (l : List Addr) : Nat → Addr := fun n => l.getD n 0
structure Facts (a20 a21 a28 : Addr) (K : PySem.W.Frag) (mg : Str → Option Value) (cl : Nat → Addr) : Prop where
  f_is_whole : FnAt K mg "is_whole" (topS 8)
  f_is_leap : FnAt K mg "is_leap" (topS 9)
  f_days_ahead : FnAt K mg "days_ahead" (topS 10)
  f_month_length : FnAt K mg "month_length" (topS 11)
  f_first_of : FnAt K mg "first_of" (topS 12)
  f_month_of : FnAt K mg "month_of" (topS 13)
  f_date_of : FnAt K mg "date_of" (topS 14)
  f_day_of : FnAt K mg "day_of" (topS 15)
  f_are_figures : FnAt K mg "are_figures" (topS 19)
  f_wide : FnAt K mg "wide" (topS 20)
  f_show_day : FnAt K mg "show_day" (topS 21)
  f_day_in : FnAt K mg "day_in" (topS 22)
  f_show_minute : FnAt K mg "show_minute" (topS 23)
  f_minute_in : FnAt K mg "minute_in" (topS 24)
  f_show_time : FnAt K mg "show_time" (topS 25)
  f_read_time : FnAt K mg "read_time" (topS 26)
  f_law_tape : FnAt K mg "_law_tape" (topS 28)
  f_law_draw : FnAt K mg "_law_draw" (topS 29)
  f_law_month_days : FnAt K mg "_law_month_days" (topS 30)
  f_law_day : FnAt K mg "_law_day" (topS 31)
  f_law_two : FnAt K mg "_law_two" (topS 33)
  f_law_time_text : FnAt K mg "_law_time_text" (topS 34)
  f_law_due : FnAt K mg "_law_due" (topS 35)
  f_law_told : FnAt K mg "_law_told" (topS 36)
  f_law_bent : FnAt K mg "_law_bent" (topS 37)
  f_law : FnAt K mg "law" (topS 38)
  c_FIRST_YEAR : GConst K mg cl "FIRST_YEAR" k_FIRST_YEAR
  c_LENGTHS : GConst K mg cl "LENGTHS" k_LENGTHS
  c_LAST_DAY : GConst K mg cl "LAST_DAY" k_LAST_DAY_v2
  c_FIGURES : GConst K mg cl "FIGURES" k_FIGURES
  c_DAY_MINUTES : GConst K mg cl "DAY_MINUTES" k_DAY_MINUTES
  m_isinstance : mg "isinstance" = none
  m_int : mg "int" = none
  m_bool : mg "bool" = none
  m_divmod : mg "divmod" = none
  m_range : mg "range" = none
  m_tuple : mg "tuple" = none
  m_len : mg "len" = none
  m_all : mg "all" = none
  m_str : mg "str" = none
  x_NoDate : ExcAt K mg "NoDate" a21
  x_GuestError : ExcAt K mg "GuestError" a20
  x_NoText : ExcAt K mg "NoText" a28
  xn_NoDate : PySem.W.excIn K a21 [.type "ValueError", .type "Exception", .type "BaseException", .type "object"] "ValueError.__new__" = true
  xc_NoDate : ExcC K a21
  xc_NoText : ExcC K a28
  em_NoDate_NoDate : PySem.W.exmOne K (.ref a21) (.ref a21) = some true
  em_NoDate_GuestError : PySem.W.exmOne K (.ref a21) (.ref a20) = some true
  em_NoText_GuestError : PySem.W.exmOne K (.ref a28) (.ref a20) = some true
  ek_NoDate_NoText : PySem.W.kitOne K (.ref a21) (.ref a28) = some false
  ek_NoText_NoText : PySem.W.kitOne K (.ref a28) (.ref a28) = some true
  xna_NoText_row : PySem.W.findIn K (.ref a28) "row" = some none
  xi_NoText : XiAt K mg "NoText" "GuestError" "row" a28 "NoText.__init__" (inClass (topS 3) 0)
theorem all_law {P : Program} {w : World} {K : PySem.W.Frag} {mg : Str → Option Value} {base : Heap} {a20 a21 a28 : Addr} {f : Addr} {fd : FuncData} (F : Fun K "law" "law" (topS 38) f fd) (X : Facts a20 a21 a28 K mg (clOf [0, 0, 0, 0, 0, 0, 0, 0, 0, 0, 0, 0, 0, 0, 0, 0, 0, 0, 0, 0, a20, a21, 0, 0, 0, 0, 0, 0, a28])) : FnOk P w K mg base (L2.CX P w) 22 f fd ["_law_script"] (spD K (clOf [0, 0, 0, 0, 0, 0, 0, 0, 0, 0, 0, 0, 0, 0, 0, 0, 0, 0, 0, 0, a20, a21, 0, 0, 0, 0, 0, 0, a28]) 1 M.law_v4) := by
  let cl := (clOf [0, 0, 0, 0, 0, 0, 0, 0, 0, 0, 0, 0, 0, 0, 0, 0, 0, 0, 0, 0, a20, a21, 0, 0, 0, 0, 0, 0, a28])
  have xi_NoText := xi_of_NoText (P := P) (w := w) (base := base) X.xi_NoText
  have h_is_whole := fd_is_whole (P := P) (w := w) (base := base) (cl := cl) X.f_is_whole X.m_isinstance X.m_int X.m_bool
  have h_is_leap := fd_is_leap (P := P) (w := w) (base := base) (cl := cl) X.f_is_leap 
  have h_days_ahead := fd_days_ahead (P := P) (w := w) (base := base) (cl := cl) X.f_days_ahead X.c_FIRST_YEAR
  have h_month_length := fd_month_length (P := P) (w := w) (base := base) (cl := cl) X.f_month_length X.m_divmod X.c_FIRST_YEAR X.c_LENGTHS h_is_leap
  have h_first_of := fd_first_of (P := P) (w := w) (base := base) (cl := cl) X.f_first_of X.m_divmod X.c_FIRST_YEAR X.m_range h_days_ahead h_month_length
  have h_month_of := fd_month_of (P := P) (w := w) (base := base) (cl := cl) X.f_month_of X.c_FIRST_YEAR h_days_ahead h_month_length
  have h_date_of := fd_date_of (P := P) (w := w) (base := base) (cl := cl) X.f_date_of X.c_FIRST_YEAR h_first_of h_month_of
  have h_day_of := fd_day_of (P := P) (w := w) (base := base) (cl := cl) X.f_day_of X.m_isinstance X.m_tuple X.m_len X.x_NoDate X.xn_NoDate X.c_FIRST_YEAR X.c_LAST_DAY h_first_of h_is_whole h_month_length
  have h_are_figures := fd_are_figures (P := P) (w := w) (base := base) (cl := cl) X.f_are_figures X.m_len X.m_all X.c_FIGURES
  have h_wide := fd_wide (P := P) (w := w) (base := base) (cl := cl) X.f_wide X.m_str
  have h_show_day := fd_show_day (P := P) (w := w) (base := base) (cl := cl) X.f_show_day h_date_of h_wide
  have h_day_in := fd_day_in (P := P) (w := w) (base := base) (cl := cl) X.f_day_in X.m_len X.x_NoDate (alls_cons X.em_NoDate_NoDate alls_nil) X.m_int h_are_figures h_day_of
  have h_show_minute := fd_show_minute (P := P) (w := w) (base := base) (cl := cl) X.f_show_minute h_wide
  have h_minute_in := fd_minute_in (P := P) (w := w) (base := base) (cl := cl) X.f_minute_in X.m_len X.m_int h_are_figures
  have h_show_time := fd_show_time (P := P) (w := w) (base := base) (cl := cl) X.f_show_time X.c_DAY_MINUTES h_show_day h_show_minute
  have h_read_time := fd_read_time (P := P) (w := w) (base := base) (cl := cl) X.f_read_time X.m_isinstance X.m_str X.m_len xi_NoText X.c_DAY_MINUTES h_day_in h_minute_in
  have h_law_tape := fd_law_tape (P := P) (w := w) (base := base) (cl := cl) X.f_law_tape 
  have h_law_draw := fd_law_draw (P := P) (w := w) (base := base) (cl := cl) X.f_law_draw X.m_len 20
  have h_law_month_days := fd_law_month_days (P := P) (w := w) (base := base) (cl := cl) X.f_law_month_days X.m_int
  have h_law_day := fd_law_day (P := P) (w := w) (base := base) (cl := cl) X.f_law_day X.m_int
  have h_law_two := fd_law_two (P := P) (w := w) (base := base) (cl := cl) X.f_law_two X.m_str
  have h_law_time_text := fd_law_time_text (P := P) (w := w) (base := base) (cl := cl) X.f_law_time_text h_law_two h_show_day
  have h_law_due := fd_law_due (P := P) (w := w) (base := base) (cl := cl) X.f_law_due X.m_isinstance X.m_str X.m_len X.m_all X.m_int h_law_day h_law_month_days
  have h_law_told := fd_law_told (P := P) (w := w) (base := base) (cl := cl) X.f_law_told X.x_GuestError (alls_cons X.em_NoDate_GuestError (alls_cons X.em_NoText_GuestError alls_nil)) X.m_isinstance X.x_NoText (alls_cons ⟨X.xc_NoDate, X.ek_NoDate_NoText⟩ (alls_cons ⟨X.xc_NoText, X.ek_NoText_NoText⟩ alls_nil)) (alls_cons ⟨X.xc_NoText.xf, X.xna_NoText_row⟩ alls_nil) h_read_time
  have h_law_bent := fd_law_bent (P := P) (w := w) (base := base) (cl := cl) X.f_law_bent X.m_len h_law_draw
  exact fn_law (cl := cl) F X.m_range h_law_bent h_law_draw h_law_due h_law_tape h_law_time_text h_law_told h_law_two h_show_time
theorem law_end {P : Program} {w : World} {K : PySem.W.Frag} {h : Heap} {mg : Str → Option Value} {a20 a21 a28 : Addr} {fa : Addr} (_ : PySem.W.nsIn K mainGlobals "GuestError" = some (some (.ref a20))) (_ : PySem.W.nsIn K mainGlobals "NoDate" = some (some (.ref a21))) (_ : PySem.W.nsIn K mainGlobals "NoText" = some (some (.ref a28))) (X : Facts a20 a21 a28 K mg (clOf [0, 0, 0, 0, 0, 0, 0, 0, 0, 0, 0, 0, 0, 0, 0, 0, 0, 0, 0, 0, a20, a21, 0, 0, 0, 0, 0, 0, a28])) (hmg : mg "law" = some (.ref fa)) (hs : ∀ ns : List Int, ns.length ≤ 63 → ∃ S, M.law_v4 [scr ns] [] = .ok (.bl true) S) :
    ∃ fd : FuncData, (∀ (s : Shared) (u : Value), BindsTo s fd ⟨[u], []⟩ [("_law_script", u)]) ∧ ∀ base : Heap, K.In base → base.Ns mainGlobals mg → FnOk P w K mg base (L2.CX P w) 22 fa fd ["_law_script"] (spLaw K) := by
  obtain ⟨f, fd, hm, hk, F⟩ := X.f_law.ex
  rw [hmg] at hm
  cases hm
  obtain ⟨oc, od, kV, dc, pm, an, cdv, ct, osl, rfl, lk, hcd⟩ := F.ex
  exact ⟨_, fun s v => .of_eq rfl, fun base _ _ => law_fn (all_law F X) hs⟩
end G
end
open PySem PySem.W PyProof.Rows
set_option maxRecDepth 100000 in
set_option maxHeartbeats 0 in
theorem PySem.Challenge.cw_guestcopies_k04_times_as_texts_holds : PySem.Challenge.rw_guestcopies_k04_times_as_texts.Holds := by
  w_on; o_law; k_head; (case hw => w_witness2)
  k_fill
  refine G.walk (l := PySem.Challenge.rw_guestcopies_k04_times_as_texts) (k := 22) (x := "_law_script") rfl rfl ⟨⟨rfl, by decide, by decide⟩, rfl⟩ (fun w h Y => PySem.W.kIn_of Y) ?F
  case F =>
    intro w mg fa h KX GS hmg
    refine' G.law_end (h := h) ?cA20 ?cA21 ?cA28 ?factsX hmg ?mathX
    case cA20 => k_is
    case cA21 => k_is
    case cA28 => k_is
    case factsX =>
      constructor
      · exact G.fnAt_mk KX GS (by k_is) (by k_is) (by k_is) (by k_is)
      · exact G.fnAt_mk KX GS (by k_is) (by k_is) (by k_is) (by k_is)
      · exact G.fnAt_mk KX GS (by k_is) (by k_is) (by k_is) (by k_is)
      · exact G.fnAt_mk KX GS (by k_is) (by k_is) (by k_is) (by k_is)
      · exact G.fnAt_mk KX GS (by k_is) (by k_is) (by k_is) (by k_is)
      · exact G.fnAt_mk KX GS (by k_is) (by k_is) (by k_is) (by k_is)
      · exact G.fnAt_mk KX GS (by k_is) (by k_is) (by k_is) (by k_is)
      · exact G.fnAt_mk KX GS (by k_is) (by k_is) (by k_is) (by k_is)
      · exact G.fnAt_mk KX GS (by k_is) (by k_is) (by k_is) (by k_is)
      · exact G.fnAt_mk KX GS (by k_is) (by k_is) (by k_is) (by k_is)
      · exact G.fnAt_mk KX GS (by k_is) (by k_is) (by k_is) (by k_is)
      · exact G.fnAt_mk KX GS (by k_is) (by k_is) (by k_is) (by k_is)
      · exact G.fnAt_mk KX GS (by k_is) (by k_is) (by k_is) (by k_is)
      · exact G.fnAt_mk KX GS (by k_is) (by k_is) (by k_is) (by k_is)
      · exact G.fnAt_mk KX GS (by k_is) (by k_is) (by k_is) (by k_is)
      · exact G.fnAt_mk KX GS (by k_is) (by k_is) (by k_is) (by k_is)
      · exact G.fnAt_mk KX GS (by k_is) (by k_is) (by k_is) (by k_is)
      · exact G.fnAt_mk KX GS (by k_is) (by k_is) (by k_is) (by k_is)
      · exact G.fnAt_mk KX GS (by k_is) (by k_is) (by k_is) (by k_is)
      · exact G.fnAt_mk KX GS (by k_is) (by k_is) (by k_is) (by k_is)
      · exact G.fnAt_mk KX GS (by k_is) (by k_is) (by k_is) (by k_is)
      · exact G.fnAt_mk KX GS (by k_is) (by k_is) (by k_is) (by k_is)
      · exact G.fnAt_mk KX GS (by k_is) (by k_is) (by k_is) (by k_is)
      · exact G.fnAt_mk KX GS (by k_is) (by k_is) (by k_is) (by k_is)
      · exact G.fnAt_mk KX GS (by k_is) (by k_is) (by k_is) (by k_is)
      · exact G.fnAt_mk KX GS (by k_is) (by k_is) (by k_is) (by k_is)
      · exact G.gc_int KX GS (by k_is)
      · exact G.gc_tup (ds := [.int 31, .int 28, .int 31, .int 30, .int 31, .int 30, .int 31, .int 31, .int 30, .int 31, .int 30, .int 31]) (vs := [L2.V.int 31, L2.V.int 28, L2.V.int 31, L2.V.int 30, L2.V.int 31, L2.V.int 30, L2.V.int 31, L2.V.int 31, L2.V.int 30, L2.V.int 31, L2.V.int 30, L2.V.int 31]) KX GS (by k_is) (by k_is) (by decide) (.cons ⟨_, rfl⟩ (.cons ⟨_, rfl⟩ (.cons ⟨_, rfl⟩ (.cons ⟨_, rfl⟩ (.cons ⟨_, rfl⟩ (.cons ⟨_, rfl⟩ (.cons ⟨_, rfl⟩ (.cons ⟨_, rfl⟩ (.cons ⟨_, rfl⟩ (.cons ⟨_, rfl⟩ (.cons ⟨_, rfl⟩ (.cons ⟨_, rfl⟩ .nil)))))))))))) (G.RepL.cons rfl (G.RepL.cons rfl (G.RepL.cons rfl (G.RepL.cons rfl (G.RepL.cons rfl (G.RepL.cons rfl (G.RepL.cons rfl (G.RepL.cons rfl (G.RepL.cons rfl (G.RepL.cons rfl (G.RepL.cons rfl (G.RepL.cons rfl G.RepL.nil))))))))))))
      · exact G.gc_int KX GS (by k_is)
      · exact G.gc_str KX GS (by k_is)
      · exact G.gc_int KX GS (by k_is)
      · exact G.no_of KX GS (by k_is)
      · exact G.no_of KX GS (by k_is)
      · exact G.no_of KX GS (by k_is)
      · exact G.no_of KX GS (by k_is)
      · exact G.no_of KX GS (by k_is)
      · exact G.no_of KX GS (by k_is)
      · exact G.no_of KX GS (by k_is)
      · exact G.no_of KX GS (by k_is)
      · exact G.no_of KX GS (by k_is)
      · exact G.excAt_mk KX GS (by k_is) (by k_is) (by k_is) (by k_is)
      · exact G.excAt_mk KX GS (by k_is) (by k_is) (by k_is) (by k_is)
      · exact G.excAt_mk KX GS (by k_is) (by k_is) (by k_is) (by k_is)
      · k_exc
      · exact G.excC_mk (by k_is) (by k_is) (by k_is) (by k_is) (by k_is) (by k_is) (by k_is) (by k_is)
      · exact G.excC_mk (by k_is) (by k_is) (by k_is) (by k_is) (by k_is) (by k_is) (by k_is) (by k_is)
      · exact G.exm_mk (by k_is) (by k_is) (by k_is) (by k_is)
      · exact G.exm_mk (by k_is) (by k_is) (by k_is) (by k_is)
      · exact G.exm_mk (by k_is) (by k_is) (by k_is) (by k_is)
      · kit_is
      · kit_is
      · k_is
      · exact G.xiAt_mk KX GS (by k_is) (by rfl) (by k_is) (by k_is) (by k_is) (by k_is) (by k_is) (by k_is) (by k_is) (by k_is) (by k_is) (by k_is) (by k_is) (by k_is) (by k_is) (by k_is) (by k_is)
    case mathX => intro ns hns; exact G.s_law_k04 hns
