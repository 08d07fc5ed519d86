import PyProof.Rows.All
import Wide.All
import OpenK.AllK
import Wide.FinOn
import HandS.ForMost
import HandS.Walk
import HandS.Gcd
import HandS.Wide
import HandS.Defaults
import HandS.Zip
import HandS.SortRule
import HandS.SortInts
import HandS.IsInst
import HandS.Star
import HandS.Flow
import HandS.TupAny
import HandS.EndBits
import HandS.Head0
import HandS.Head1
import HandS.Head2
import HandS.Head3
import HandS.HeadHook1
import HandS.HeadHook2
import HandS.SetFor
import HandS.Strs
import HandS.Set
import HandS.DictComp
import HandS.TryOnly
import PySem.Challenge.RW_saltstairs_k66_whole_curves_put_together
/-! text BCore -/
set_option Elab.async false
set_option linter.all false
set_option maxRecDepth 100000
/-! A layer of pure data over the readings of HandS: Rep (a datum stands in the abstract heap), Ev and Ex (big steps). -/
namespace B
open PySem PySem.Spec PyProof.Rows L2

/-- pure data -/
inductive Dt where
  | non | bl (b : Bool) | int (i : Int) | str (s : Str) | obj (a : Addr) | ty (n : String)
  | tup (xs : List Dt) | lst (xs : List Dt) | ro (xs : List Dt) | dic (ks : List Int) (xs : List Dt)
abbrev MS := Addr → Prop
/-- keys and values -/
def kvz (ks : List Int) (vs : List V) : List (Key × V) := List.zipWith (fun k v => ((Sum.inl k : Key), v)) ks vs

/-- a list that is only read: tracked and unmarked, frozen, or of the top -/
def RoL (K : PySem.W.Frag) (H : Hp) (M : MS) (a : Addr) (vs : List V) : Prop := (¬ M a ∧ Rd H a (.lst vs)) ∨ SqL K (fun _ => none) a vs
theorem RoL.sqL {K : PySem.W.Frag} {H : Hp} {M : MS} {a : Addr} {vs : List V} (h : RoL K H M a vs) : SqL K H a vs := by
  rcases h with ⟨_, h⟩ | h
  · exact .inl h
  · rcases h with h | h
    · rcases h with h | ⟨_, h⟩ <;> cases h
    · exact .inr h
theorem RoL.of {K : PySem.W.Frag} {H : Hp} {a : Addr} {vs : List V} (h : SqL K H a vs) : RoL K H (fun _ => False) a vs := by
  rcases h with h | h
  · exact .inl ⟨fun z => z, h⟩
  · exact .inr (.inr h)
mutual
def Rep (K : PySem.W.Frag) (H : Hp) (M : MS) : Dt → V → Prop
  | .non, v => v = .non
  | .bl b, v => v = .bl b
  | .int i, v => v = .int i
  | .str s, v => v = .str s
  | .obj a, v => v = .ref a
  | .ty n, v => v = .ty n
  | .tup ds, v => ∃ a vs, v = .ref a ∧ SqT K H a vs ∧ Reps K H M ds vs
  | .lst ds, v => ∃ a vs, v = .ref a ∧ ¬ M a ∧ H a = some (.lst vs) ∧ Reps K H M ds vs
  | .ro ds, v => ∃ a vs, v = .ref a ∧ RoL K H M a vs ∧ Reps K H M ds vs
  | .dic ks ds, v => ∃ a vs, v = .ref a ∧ ¬ M a ∧ H a = some (.dK (kvz ks vs)) ∧ ks.length = ds.length ∧ Reps K H M ds vs
def Reps (K : PySem.W.Frag) (H : Hp) (M : MS) : List Dt → List V → Prop
  | [], vs => vs = []
  | d :: ds, vs => ∃ v r, vs = v :: r ∧ Rep K H M d v ∧ Reps K H M ds r
end

/-- the mutable addresses are lists, dicts -/
def Mut : HO → Prop
  | .lst _ => True
  | .dK _ => True
  | _ => False
structure Mu where
  ho : HO
  ok : Mut ho
def Mu.l (xs : List V) : Mu := ⟨.lst xs, trivial⟩
def MOk (H : Hp) (M : MS) : Prop := ∀ a, M a → ∃ xs : Mu, H a = some xs.ho
theorem mok_not {H : Hp} {M : MS} (mok : MOk H M) {a : Addr} {o : HO} (h : H a = some o) (hn : ¬ Mut o) : ¬ M a := fun q => by
  obtain ⟨xs, e⟩ := mok a q
  rw [h] at e
  cases e
  exact hn xs.ok

/-- what a step leaves: all that stands but the mutable lists in O; new mutable lists are new -/
structure Nxt (O : MS) (H : Hp) (M : MS) (H' : Hp) (M' : MS) : Prop where
  fix : ∀ a o, H a = some o → ¬ M a → H' a = some o
  keep : ∀ a, M a → ¬ O a → M' a
  fresh : ∀ a, M' a → M a ∨ H a = none
  oth : ∀ a, M a → ¬ O a → H' a = H a
  dom : ∀ a, H a ≠ none → H' a ≠ none

section
variable {K : PySem.W.Frag} {H H' H2 : Hp} {M M' M2 O O2 : MS}
theorem Nxt.refl : Nxt O H M H M := ⟨fun _ _ h _ => h, fun _ h _ => h, fun _ h => .inl h, fun _ _ _ => rfl, fun _ h => h⟩
theorem Nxt.nof (n : Nxt O H M H' M') {a : Addr} {o : HO} (h : H a = some o) (hm : ¬ M a) : ¬ M' a := fun q => by
  rcases n.fresh a q with z | z
  · exact hm z
  · rw [z] at h; cases h
theorem Nxt.trans (mok : MOk H M) (n : Nxt O H M H' M') (m : Nxt O2 H' M' H2 M2) (ho : ∀ a, O2 a → O a ∨ H a = none) : Nxt O H M H2 M2 := by
  have no2 : ∀ a, M a → ¬ O a → ¬ O2 a := fun a hm hn q => by
    obtain ⟨xs, e⟩ := mok a hm
    rcases ho a q with z | z
    · exact hn z
    · rw [z] at e; cases e
  refine ⟨fun a o h hm => m.fix a o (n.fix a o h hm) (n.nof h hm), fun a h q => m.keep a (n.keep a h q) (no2 a h q), fun a h => ?_, fun a h q => ?_, fun a h => m.dom a (n.dom a h)⟩
  · rcases m.fresh a h with z | z
    · exact n.fresh a z
    · by_cases e : H a = none
      · exact .inr e
      · exact absurd z (n.dom a e)
  · rw [m.oth a (n.keep a h q) (no2 a h q), n.oth a h q]
theorem Nxt.weak (n : Nxt O H M H' M') (h : ∀ a, O a → O2 a) : Nxt O2 H M H' M' :=
  ⟨n.fix, fun a x q => n.keep a x fun z => q (h a z), n.fresh, fun a x q => n.oth a x fun z => q (h a z), n.dom⟩
theorem sqT_keep (mok : MOk H M) (n : Nxt O H M H' M') {a : Addr} {vs : List V} (h : SqT K H a vs) : SqT K H' a vs := by
  rcases h with h | h
  · rcases h with h | ⟨o, h⟩
    · exact .inl (.inl (n.fix a _ h (mok_not mok h fun z => z)))
    · exact .inl (.inr ⟨o, n.fix a _ h (mok_not mok h fun z => z)⟩)
  · exact .inr h
theorem RoL.keep (n : Nxt O H M H' M') {a : Addr} {vs : List V} (h : RoL K H M a vs) : RoL K H' M' a vs := by
  rcases h with ⟨hm, h⟩ | h
  · rcases h with h | ⟨o, h⟩
    · exact .inl ⟨n.nof h hm, .inl (n.fix a _ h hm)⟩
    · exact .inl ⟨n.nof h hm, .inr ⟨o, n.fix a _ h hm⟩⟩
  · exact .inr h
theorem RoL.anti {M2 : MS} {a : Addr} {vs : List V} (h : RoL K H M a vs) (hm : ∀ a, M2 a → M a) : RoL K H M2 a vs := by
  rcases h with ⟨h1, h2⟩ | h
  · exact .inl ⟨fun q => h1 (hm a q), h2⟩
  · exact .inr h
end

mutual
theorem Rep.mono {K : PySem.W.Frag} {H H' : Hp} {M M' O : MS} (mok : MOk H M) (n : Nxt O H M H' M') : ∀ {d : Dt} {v : V}, Rep K H M d v → Rep K H' M' d v
  | .non, _, h => h
  | .bl _, _, h => h
  | .int _, _, h => h
  | .str _, _, h => h
  | .obj _, _, h => h
  | .ty _, _, h => h
  | .tup ds, v, h => by
    obtain ⟨a, vs, e, ht, hs⟩ := h
    exact ⟨a, vs, e, sqT_keep mok n ht, Reps.mono mok n hs⟩
  | .lst ds, v, h => by
    obtain ⟨a, vs, e, hm, hl, hs⟩ := h
    exact ⟨a, vs, e, n.nof hl hm, n.fix a _ hl hm, Reps.mono mok n hs⟩
  | .ro ds, v, h => by
    obtain ⟨a, vs, e, hl, hs⟩ := h
    exact ⟨a, vs, e, hl.keep n, Reps.mono mok n hs⟩
  | .dic ks ds, v, h => by
    obtain ⟨a, vs, e, hm, hl, hk, hs⟩ := h
    exact ⟨a, vs, e, n.nof hl hm, n.fix a _ hl hm, hk, Reps.mono mok n hs⟩
theorem Reps.mono {K : PySem.W.Frag} {H H' : Hp} {M M' O : MS} (mok : MOk H M) (n : Nxt O H M H' M') : ∀ {ds : List Dt} {vs : List V}, Reps K H M ds vs → Reps K H' M' ds vs
  | [], _, h => h
  | d :: ds, vs, h => by
    obtain ⟨v, r, e, h1, h2⟩ := h
    exact ⟨v, r, e, Rep.mono mok n h1, Reps.mono mok n h2⟩
end
mutual
theorem Rep.anti {K : PySem.W.Frag} {H : Hp} {M M2 : MS} (hm : ∀ a, M2 a → M a) : ∀ {d : Dt} {v : V}, Rep K H M d v → Rep K H M2 d v
  | .non, _, h => h
  | .bl _, _, h => h
  | .int _, _, h => h
  | .str _, _, h => h
  | .obj _, _, h => h
  | .ty _, _, h => h
  | .tup ds, v, h => by
    obtain ⟨a, vs, e, ht, hs⟩ := h
    exact ⟨a, vs, e, ht, Reps.anti hm hs⟩
  | .lst ds, v, h => by
    obtain ⟨a, vs, e, h1, hl, hs⟩ := h
    exact ⟨a, vs, e, fun q => h1 (hm a q), hl, Reps.anti hm hs⟩
  | .ro ds, v, h => by
    obtain ⟨a, vs, e, hl, hs⟩ := h
    exact ⟨a, vs, e, hl.anti hm, Reps.anti hm hs⟩
  | .dic ks ds, v, h => by
    obtain ⟨a, vs, e, h1, hl, hk, hs⟩ := h
    exact ⟨a, vs, e, fun q => h1 (hm a q), hl, hk, Reps.anti hm hs⟩
theorem Reps.anti {K : PySem.W.Frag} {H : Hp} {M M2 : MS} (hm : ∀ a, M2 a → M a) : ∀ {ds : List Dt} {vs : List V}, Reps K H M ds vs → Reps K H M2 ds vs
  | [], _, h => h
  | d :: ds, vs, h => by
    obtain ⟨v, r, e, h1, h2⟩ := h
    exact ⟨v, r, e, Rep.anti hm h1, Reps.anti hm h2⟩
end
/-! data without lists: what is marked does not matter -/
mutual
def nol : Dt → Bool
  | .tup ds => nols ds
  | .lst _ => false
  | .ro _ => false
  | .dic _ _ => false
  | _ => true
def nols : List Dt → Bool
  | [] => true
  | d :: ds => nol d && nols ds
end
mutual
theorem Rep.remark {K : PySem.W.Frag} {H : Hp} {M M2 : MS} : ∀ {d : Dt} {v : V}, nol d = true → Rep K H M d v → Rep K H M2 d v
  | .non, _, _, h => h
  | .bl _, _, _, h => h
  | .int _, _, _, h => h
  | .str _, _, _, h => h
  | .obj _, _, _, h => h
  | .ty _, _, _, h => h
  | .tup ds, v, q, h => by
    obtain ⟨a, vs, e, ht, hs⟩ := h
    exact ⟨a, vs, e, ht, Reps.remark q hs⟩
  | .lst ds, v, q, h => by cases q
  | .ro ds, v, q, h => by cases q
  | .dic ks ds, v, q, h => by cases q
theorem Reps.remark {K : PySem.W.Frag} {H : Hp} {M M2 : MS} : ∀ {ds : List Dt} {vs : List V}, nols ds = true → Reps K H M ds vs → Reps K H M2 ds vs
  | [], _, _, h => h
  | d :: ds, vs, q, h => by
    obtain ⟨v, r, e, h1, h2⟩ := h
    have q2 : (nol d && nols ds) = true := q
    rw [Bool.and_eq_true] at q2
    exact ⟨v, r, e, Rep.remark q2.1 h1, Reps.remark q2.2 h2⟩
end
theorem Reps.length {K : PySem.W.Frag} {H : Hp} {M : MS} : ∀ {ds : List Dt} {vs : List V}, Reps K H M ds vs → vs.length = ds.length
  | [], vs, h => by rw [show vs = [] from h]; rfl
  | d :: ds, vs, h => by
    obtain ⟨v, r, e, _, h2⟩ := h
    rw [e, List.length_cons, List.length_cons, Reps.length h2]
theorem Reps.get {K : PySem.W.Frag} {H : Hp} {M : MS} : ∀ {ds : List Dt} {vs : List V} {i : Nat} {d : Dt}, Reps K H M ds vs → ds[i]? = some d → ∃ v, vs[i]? = some v ∧ Rep K H M d v
  | [], _, _, _, _, e => by simp at e
  | d :: ds, vs, 0, d', h, e => by
    obtain ⟨v, r, e1, h1, h2⟩ := h
    simp at e
    subst e
    exact ⟨v, by rw [e1]; rfl, h1⟩
  | d :: ds, vs, i + 1, d', h, e => by
    obtain ⟨v, r, e1, h1, h2⟩ := h
    obtain ⟨w, q1, q2⟩ := Reps.get (i := i) h2 (by simpa using e)
    exact ⟨w, by rw [e1]; simpa using q1, q2⟩
theorem Reps.append {K : PySem.W.Frag} {H : Hp} {M : MS} : ∀ {ds : List Dt} {vs : List V} {es : List Dt} {us : List V}, Reps K H M ds vs → Reps K H M es us → Reps K H M (ds ++ es) (vs ++ us)
  | [], vs, _, _, h, g => by rw [show vs = [] from h]; exact g
  | d :: ds, vs, _, _, h, g => by
    obtain ⟨v, r, e1, h1, h2⟩ := h
    exact ⟨v, r ++ _, by rw [e1]; rfl, h1, Reps.append h2 g⟩
theorem Reps.drop {K : PySem.W.Frag} {H : Hp} {M : MS} : ∀ {ds : List Dt} {vs : List V} (n : Nat), Reps K H M ds vs → Reps K H M (ds.drop n) (vs.drop n)
  | _, _, 0, h => h
  | [], vs, n + 1, h => by rw [show vs = [] from h]; exact rfl
  | d :: ds, vs, n + 1, h => by
    obtain ⟨v, r, e1, h1, h2⟩ := h
    rw [e1]
    exact Reps.drop n h2
theorem Reps.take {K : PySem.W.Frag} {H : Hp} {M : MS} : ∀ {ds : List Dt} {vs : List V} (n : Nat), Reps K H M ds vs → Reps K H M (ds.take n) (vs.take n)
  | _, _, 0, h => rfl
  | [], vs, n + 1, h => by rw [show vs = [] from h]; exact rfl
  | d :: ds, vs, n + 1, h => by
    obtain ⟨v, r, e1, h1, h2⟩ := h
    rw [e1]
    exact ⟨v, r.take n, rfl, h1, Reps.take n h2⟩
theorem Reps.set {K : PySem.W.Frag} {H : Hp} {M : MS} {d : Dt} {v : V} (hd : Rep K H M d v) : ∀ {ds : List Dt} {vs : List V} (n : Nat), Reps K H M ds vs → Reps K H M (ds.set n d) (vs.set n v)
  | [], vs, n, h => by rw [show vs = [] from h]; exact rfl
  | e :: ds, vs, 0, h => by
    obtain ⟨w, r, e1, h1, h2⟩ := h
    rw [e1]
    exact ⟨v, r, rfl, hd, h2⟩
  | e :: ds, vs, n + 1, h => by
    obtain ⟨w, r, e1, h1, h2⟩ := h
    rw [e1]
    exact ⟨w, r.set n v, rfl, h1, Reps.set hd n h2⟩
theorem Reps.one {K : PySem.W.Frag} {H : Hp} {M : MS} {d : Dt} {v : V} (h : Rep K H M d v) : Reps K H M [d] [v] := ⟨v, [], rfl, h, rfl⟩
theorem Reps.dropLast {K : PySem.W.Frag} {H : Hp} {M : MS} {ds : List Dt} {vs : List V} (h : Reps K H M ds vs) : Reps K H M ds.dropLast vs.dropLast := by
  rw [List.dropLast_eq_take, List.dropLast_eq_take, h.length]
  exact h.take _
theorem Reps.ints {K : PySem.W.Frag} {H : Hp} {M : MS} : ∀ {ns : List Int} {vs : List V}, Reps K H M (ns.map Dt.int) vs → vs = ns.map V.int
  | [], vs, h => h
  | n :: ns, vs, h => by
    obtain ⟨v, r, e1, h1, h2⟩ := h
    rw [e1, show v = V.int n from h1, Reps.ints h2]
    rfl
theorem Reps.bls {K : PySem.W.Frag} {H : Hp} {M : MS} : ∀ {ns : List Bool} {vs : List V}, Reps K H M (ns.map Dt.bl) vs → vs = ns.map V.bl
  | [], vs, h => h
  | n :: ns, vs, h => by
    obtain ⟨v, r, e1, h1, h2⟩ := h
    rw [e1, show v = V.bl n from h1, Reps.bls h2]
    rfl

/-! ### the environment -/
inductive Slot where
  | val (d : Dt) | own (ds : List Dt)
abbrev En := List (Option Slot)
/-- np: the number of parameters; Fz: what stood at the entry -/
structure Cc where
  K : PySem.W.Frag
  np : Nat
  Fz : MS
def SlotOk (K : PySem.W.Frag) (H : Hp) (M : MS) : Slot → V → Prop
  | .val d, v => Rep K H M d v
  | .own ds, v => ∃ a vs, v = .ref a ∧ M a ∧ H a = some (.lst vs) ∧ Reps K H M ds vs
def Owned (σ : L2.St) (ρ : En) (a : Addr) : Prop := ∃ (i : Nat) (ds : List Dt), ρ[i]? = some (some (.own ds)) ∧ σ[i]? = some (some (.ref a))
def Ow (p : Bool) (σ : L2.St) (ρ : En) (a : Addr) : Prop := p = false ∧ Owned σ ρ a
structure EnvOk (C : Cc) (H : Hp) (M : MS) (σ : L2.St) (ρ : En) : Prop where
  mok : MOk H M
  len : ρ.length = σ.length
  get : ∀ (i : Nat) (s : Slot), ρ[i]? = some (some s) → ∃ v, σ[i]? = some (some v) ∧ SlotOk C.K H M s v
  dist : ∀ (i j : Nat) (s t : List Dt) (a : Addr), ρ[i]? = some (some (.own s)) → ρ[j]? = some (some (.own t)) → σ[i]? = some (some (.ref a)) → σ[j]? = some (some (.ref a)) → i = j
  fz : ∀ (i : Nat) (s : List Dt) (a : Addr), ρ[i]? = some (some (.own s)) → σ[i]? = some (some (.ref a)) → (C.Fz a ↔ i < C.np)
  fzd : ∀ a, C.Fz a → H a ≠ none
/-- an expression's end: a datum, or a new list of its own -/
inductive R where
  | val (d : Dt) | fr (ds : List Dt)
def ResOk (K : PySem.W.Frag) (H0 H : Hp) (M : MS) : R → V → Prop
  | .val d, v => Rep K H M d v
  | .fr ds, v => ∃ a vs, v = .ref a ∧ H0 a = none ∧ M a ∧ H a = some (.lst vs) ∧ Reps K H M ds vs
structure Post (C : Cc) (p : Bool) (σ : L2.St) (ρ : En) (H : Hp) (M : MS) (ρ' : En) (H' : Hp) (M' : MS) : Prop where
  env : EnvOk C H' M' σ ρ'
  nxt : Nxt (Ow p σ ρ) H M H' M'
  own : ∀ a, Owned σ ρ' a → Owned σ ρ a
def Ev (C : Cc) (p : Bool) (t : TE) (ρ : En) (r : R) (ρ' : En) : Prop :=
  ∀ σ H M, EnvOk C H M σ ρ → ∀ Q : VK, (∀ v H' M', Post C p σ ρ H M ρ' H' M' → ResOk C.K H H' M' r v → Q v H') → t σ H Q
def EvT (C : Cc) (p : Bool) (t : TT) (ρ : En) (b : Bool) (ρ' : En) : Prop :=
  ∀ σ H M, EnvOk C H M σ ρ → ∀ Q : Bool → Hp → Prop, (∀ H' M', Post C p σ ρ H M ρ' H' M' → Q b H') → t σ H Q
def EvA (C : Cc) (p : Bool) (t : TA) (ρ : En) (ds : List Dt) (ρ' : En) : Prop :=
  ∀ σ H M, EnvOk C H M σ ρ → ∀ Q : List V → Hp → Prop, (∀ vs H' M', Post C p σ ρ H M ρ' H' M' → Reps C.K H' M' ds vs → Q vs H') → t σ H Q

section
variable {C : Cc} {p : Bool} {σ : L2.St} {ρ ρ' ρ2 : En} {H H' H2 : Hp} {M M' M2 : MS}
theorem EnvOk.ownedM (e : EnvOk C H M σ ρ) {a : Addr} (h : Owned σ ρ a) : M a ∧ H a ≠ none := by
  obtain ⟨i, ds, h1, h2⟩ := h
  obtain ⟨v, e1, b, vs, e2, e3, e4, _⟩ := e.get i _ h1
  rw [h2] at e1
  cases e1
  cases e2
  exact ⟨e3, by rw [e4]; exact fun z => nomatch z⟩
theorem Post.refl (e : EnvOk C H M σ ρ) : Post C p σ ρ H M ρ H M := ⟨e, .refl, fun _ h => h⟩
theorem Post.trans (e : EnvOk C H M σ ρ) (a : Post C p σ ρ H M ρ' H' M') (b : Post C p σ ρ' H' M' ρ2 H2 M2) : Post C p σ ρ H M ρ2 H2 M2 :=
  ⟨b.env, a.nxt.trans e.mok b.nxt fun x h => .inl ⟨h.1, a.own x h.2⟩, fun x h => a.own x (b.own x h)⟩
/-- a new object that is not marked -/
theorem EnvOk.new {a : Addr} {o : HO} (e : EnvOk C H M σ ρ) (h : H a = none) : Post C p σ ρ H M ρ (upd H a o) M := by
  have na : ∀ b, H b ≠ none → b ≠ a := fun b q z => by rw [z] at q; exact q h
  have ma : ∀ b, M b → b ≠ a := fun b q => na b (by obtain ⟨xs, e⟩ := e.mok b q; rw [e]; exact fun z => nomatch z)
  have n : Nxt (fun _ => False) H M (upd H a o) M := ⟨fun b u q _ => by rw [upd_ne (na b (by rw [q]; exact fun z => nomatch z))]; exact q, fun _ q _ => q, fun _ q => .inl q, fun b q _ => upd_ne (ma b q), fun b q => by rw [upd_ne (na b q)]; exact q⟩
  have mok' : MOk (upd H a o) M := fun b q => by rw [upd_ne (ma b q)]; exact e.mok b q
  refine ⟨⟨mok', e.len, fun i s q => ?_, e.dist, e.fz, fun b q => n.dom b (e.fzd b q)⟩, n.weak fun _ z => z.elim, fun _ q => q⟩
  obtain ⟨v, h1, h2⟩ := e.get i s q
  refine ⟨v, h1, ?_⟩
  cases s with
  | val d => exact Rep.mono e.mok n h2
  | own ds =>
    obtain ⟨b, vs, e1, e2, e3, e4⟩ := h2
    exact ⟨b, vs, e1, e2, by rw [upd_ne (ma b e2)]; exact e3, Reps.mono e.mok n e4⟩
/-- a new list that is marked -/
theorem EnvOk.newM {a : Addr} {vs : List V} (e : EnvOk C H M σ ρ) (h : H a = none) : Post C p σ ρ H M ρ (upd H a (.lst vs)) (fun b => M b ∨ b = a) := by
  have na : ∀ b, H b ≠ none → b ≠ a := fun b q z => by rw [z] at q; exact q h
  have ma : ∀ b, M b → b ≠ a := fun b q => na b (by obtain ⟨xs, e⟩ := e.mok b q; rw [e]; exact fun z => nomatch z)
  have n : Nxt (fun _ => False) H M (upd H a (.lst vs)) (fun b => M b ∨ b = a) := ⟨fun b u q _ => by rw [upd_ne (na b (by rw [q]; exact fun z => nomatch z))]; exact q, fun _ q _ => .inl q, fun b q => q.elim .inl fun z => .inr (by rw [z]; exact h), fun b q _ => upd_ne (ma b q), fun b q => by rw [upd_ne (na b q)]; exact q⟩
  have mok' : MOk (upd H a (.lst vs)) (fun b => M b ∨ b = a) := fun b q => by
    rcases q with q | q
    · rw [upd_ne (ma b q)]; exact e.mok b q
    · rw [q, upd_same]; exact ⟨.l vs, rfl⟩
  refine ⟨⟨mok', e.len, fun i s q => ?_, e.dist, e.fz, fun b q => n.dom b (e.fzd b q)⟩, n.weak fun _ z => z.elim, fun _ q => q⟩
  obtain ⟨v, h1, h2⟩ := e.get i s q
  refine ⟨v, h1, ?_⟩
  cases s with
  | val d => exact Rep.mono e.mok n h2
  | own ds =>
    obtain ⟨b, ws, e1, e2, e3, e4⟩ := h2
    exact ⟨b, ws, e1, .inl e2, by rw [upd_ne (ma b e2)]; exact e3, Reps.mono e.mok n e4⟩
/-- a marked list that no slot owns is frozen -/
theorem Post.freeze {a : Addr} (e : EnvOk C H M σ ρ) (q : Post C p σ ρ H M ρ' H' M') (h : H a = none) : Post C p σ ρ H M ρ' H' (fun b => M' b ∧ b ≠ a) := by
  have sub : ∀ b, (M' b ∧ b ≠ a) → M' b := fun b z => z.1
  have mne : ∀ b, M b → b ≠ a := fun b z y => by obtain ⟨xs, e⟩ := e.mok b z; rw [y, h] at e; cases e
  refine ⟨⟨fun b z => q.env.mok b z.1, q.env.len, fun i s z => ?_, q.env.dist, q.env.fz, q.env.fzd⟩, ⟨q.nxt.fix, fun b z y => ⟨q.nxt.keep b z y, mne b z⟩, fun b z => q.nxt.fresh b z.1, q.nxt.oth, q.nxt.dom⟩, q.own⟩
  obtain ⟨v, h1, h2⟩ := q.env.get i s z
  refine ⟨v, h1, ?_⟩
  cases s with
  | val d => exact Rep.anti sub h2
  | own ds =>
    obtain ⟨b, vs, e1, e2, e3, e4⟩ := h2
    subst e1
    exact ⟨b, vs, rfl, ⟨e2, mne b (e.ownedM (q.own b ⟨i, ds, z, h1⟩)).1⟩, e3, Reps.anti sub e4⟩
end
end B
/-! text BRules -/
set_option Elab.async false
set_option linter.all false
set_option maxRecDepth 100000
namespace B
open PySem PySem.Spec PyProof.Rows L2

theorem leb {a b : Nat} (h : Nat.ble a b = true) : a ≤ b := Nat.le_of_ble_eq_true h
theorem ltb {a b : Nat} (h : Nat.ble (a + 1) b = true) : a < b := Nat.le_of_ble_eq_true h
abbrev NoO : MS := fun _ => False
section
variable {C : Cc} {p : Bool} {σ : L2.St} {ρ ρ' ρ1 ρ2 ρ3 : En} {H H' : Hp} {M M' : MS}
/-- an environment over a step that touches nothing marked -/
theorem EnvOk.step (e : EnvOk C H M σ ρ) (n : Nxt NoO H M H' M') (mok' : MOk H' M') : Post C p σ ρ H M ρ H' M' := by
  refine ⟨⟨mok', e.len, fun i s q => ?_, e.dist, e.fz, fun b q => n.dom b (e.fzd b q)⟩, n.weak fun _ z => z.elim, fun _ q => q⟩
  obtain ⟨v, h1, h2⟩ := e.get i s q
  refine ⟨v, h1, ?_⟩
  cases s with
  | val d => exact Rep.mono e.mok n h2
  | own ds =>
    obtain ⟨b, vs, e1, e2, e3, e4⟩ := h2
    exact ⟨b, vs, e1, n.keep b e2 fun z => z, by rw [n.oth b e2 fun z => z]; exact e3, Reps.mono e.mok n e4⟩
theorem nxt_new {a : Addr} {o : HO} (mok : MOk H M) (h : H a = none) : Nxt NoO H M (upd H a o) M ∧ MOk (upd H a o) M := by
  have na : ∀ b, H b ≠ none → b ≠ a := fun b q z => by rw [z] at q; exact q h
  have ma : ∀ b, M b → b ≠ a := fun b q => na b (by obtain ⟨xs, e⟩ := mok b q; rw [e]; exact fun z => nomatch z)
  exact ⟨⟨fun b u q _ => by rw [upd_ne (na b (by rw [q]; exact fun z => nomatch z))]; exact q, fun _ q _ => q, fun _ q => .inl q, fun b q _ => upd_ne (ma b q), fun b q => by rw [upd_ne (na b q)]; exact q⟩,
    fun b q => by rw [upd_ne (ma b q)]; exact mok b q⟩
theorem nxt_newM {a : Addr} {vs : List V} (mok : MOk H M) (h : H a = none) : Nxt NoO H M (upd H a (.lst vs)) (fun b => M b ∨ b = a) ∧ MOk (upd H a (.lst vs)) (fun b => M b ∨ b = a) := by
  have na : ∀ b, H b ≠ none → b ≠ a := fun b q z => by rw [z] at q; exact q h
  have ma : ∀ b, M b → b ≠ a := fun b q => na b (by obtain ⟨xs, e⟩ := mok b q; rw [e]; exact fun z => nomatch z)
  refine ⟨⟨fun b u q _ => by rw [upd_ne (na b (by rw [q]; exact fun z => nomatch z))]; exact q, fun _ q _ => .inl q, fun b q => q.elim .inl fun z => .inr (by rw [z]; exact h), fun b q _ => upd_ne (ma b q), fun b q => by rw [upd_ne (na b q)]; exact q⟩, fun b q => ?_⟩
  rcases q with q | q
  · rw [upd_ne (ma b q)]; exact mok b q
  · rw [q, upd_same]; exact ⟨.l vs, rfl⟩
theorem not_marked (mok : MOk H M) {a : Addr} (h : H a = none) : ¬ M a := fun q => by
  obtain ⟨xs, e⟩ := mok a q
  rw [h] at e; cases e

/-! ### names, constants -/
theorem e_var {i : Nat} {d : Dt} (h : ρ[i]? = some (some (.val d))) : Ev C p (tVar i) ρ (.val d) ρ := fun σ H M e Q q => by
  obtain ⟨v, h1, h2⟩ := e.get i _ h
  exact ⟨v, h1, q v H M (.refl e) h2⟩
theorem e_int {i : Int} : Ev C p (tC (.int i)) ρ (.val (.int i)) ρ := fun σ H M e Q q => q _ H M (.refl e) rfl
theorem e_bl {b : Bool} : Ev C p (tC (.bl b)) ρ (.val (.bl b)) ρ := fun σ H M e Q q => q _ H M (.refl e) rfl
theorem e_non : Ev C p (tC .non) ρ (.val .non) ρ := fun σ H M e Q q => q _ H M (.refl e) rfl
theorem e_str {s : Str} : Ev C p (tC (.str s)) ρ (.val (.str s)) ρ := fun σ H M e Q q => q _ H M (.refl e) rfl
theorem e_ty {n : String} : Ev C p (tC (.ty n)) ρ (.val (.ty n)) ρ := fun σ H M e Q q => q _ H M (.refl e) rfl
theorem e_obj {a : Addr} : Ev C p (tC (.ref a)) ρ (.val (.obj a)) ρ := fun σ H M e Q q => q _ H M (.refl e) rfl
/-- a constant of the top -/
theorem e_cK {v : V} {d : Dt} (h : ∀ H M, Rep C.K H M d v) : Ev C p (tC v) ρ (.val d) ρ := fun σ H M e Q q => q _ H M (.refl e) (h H M)
theorem e_cast {t : TE} {r r' : R} (h : Ev C p t ρ r ρ') (e : r = r') : Ev C p t ρ r' ρ' := e ▸ h
/-- a new list as a datum -/
theorem e_frz {t : TE} {ds : List Dt} (h : Ev C p t ρ (.fr ds) ρ') : Ev C p t ρ (.val (.lst ds)) ρ' := fun σ H M e Q q => h σ H M e Q fun v H' M' po ⟨a, vs, e1, e2, e3, e4, e5⟩ =>
  q v H' _ (po.freeze e e2) ⟨a, vs, e1, fun z => z.2 rfl, e4, Reps.anti (fun _ z => z.1) e5⟩

/-! ### operations by values -/
def Op2 (K : PySem.W.Frag) (r : R2) (x y : Dt) (z : R) : Prop :=
  ∀ H M u v, MOk H M → Rep K H M x u → Rep K H M y v → ∀ Q : VK, (∀ w H' M', Nxt NoO H M H' M' → MOk H' M' → ResOk K H H' M' z w → Q w H') → r u v H Q
def Op1 (K : PySem.W.Frag) (r : V → Hp → VK → Prop) (x : Dt) (z : R) : Prop :=
  ∀ H M u, MOk H M → Rep K H M x u → ∀ Q : VK, (∀ w H' M', Nxt NoO H M H' M' → MOk H' M' → ResOk K H H' M' z w → Q w H') → r u H Q
def OpN (K : PySem.W.Frag) (r : List V → Hp → VK → Prop) (xs : List Dt) (z : R) : Prop :=
  ∀ H M us, MOk H M → Reps K H M xs us → ∀ Q : VK, (∀ w H' M', Nxt NoO H M H' M' → MOk H' M' → ResOk K H H' M' z w → Q w H') → r us H Q
theorem res_back {H0 : Hp} {r : R} {v : V} (hd : ∀ a, H0 a ≠ none → H a ≠ none) (h : ResOk C.K H H' M r v) : ResOk C.K H0 H' M r v := by
  cases r with
  | val d => exact h
  | fr ds =>
    obtain ⟨a, vs, e1, e2, e3⟩ := h
    refine ⟨a, vs, e1, ?_, e3⟩
    by_cases z : H0 a = none
    · exact z
    · exact absurd e2 (hd a z)
theorem e_op {r : R2} {ta tb : TE} {x y : Dt} {z : R} (ha : Ev C p ta ρ (.val x) ρ1) (hb : Ev C p tb ρ1 (.val y) ρ2) (hr : Op2 C.K r x y z) : Ev C p (tOp r ta tb) ρ z ρ2 := fun σ H M e Q q =>
  ha σ H M e _ fun u H1 M1 p1 r1 => hb σ H1 M1 p1.env _ fun v H2 M2 p2 r2 => hr H2 M2 u v p2.env.mok (Rep.mono p1.env.mok p2.nxt r1) r2 Q fun w H3 M3 n mok r3 =>
    have po := (p1.trans e p2)
    q w H3 M3 (po.trans e (po.env.step n mok)) (res_back po.nxt.dom r3)
theorem e_un {r : V → Hp → VK → Prop} {ta : TE} {x : Dt} {z : R} (ha : Ev C p ta ρ (.val x) ρ1) (hr : Op1 C.K r x z) : Ev C p (tUn r ta) ρ z ρ1 := fun σ H M e Q q =>
  ha σ H M e _ fun u H1 M1 p1 r1 => hr H1 M1 u p1.env.mok r1 Q fun w H3 M3 n mok r3 => q w H3 M3 (p1.trans e (p1.env.step n mok)) (res_back p1.nxt.dom r3)
theorem e_cb {r : List V → Hp → VK → Prop} {t : TA} {xs : List Dt} {z : R} (ha : EvA C p t ρ xs ρ1) (hr : OpN C.K r xs z) : Ev C p (tCB r t) ρ z ρ1 := fun σ H M e Q q =>
  ha σ H M e _ fun u H1 M1 p1 r1 => hr H1 M1 u p1.env.mok r1 Q fun w H3 M3 n mok r3 => q w H3 M3 (p1.trans e (p1.env.step n mok)) (res_back p1.nxt.dom r3)
theorem a_nil : EvA C p tNil ρ [] ρ := fun σ H M e Q q => q [] H M (.refl e) rfl
theorem a_cons {ta : TE} {t : TA} {d : Dt} {ds : List Dt} (ha : Ev C p ta ρ (.val d) ρ1) (ht : EvA C p t ρ1 ds ρ2) : EvA C p (tCons ta t) ρ (d :: ds) ρ2 := fun σ H M e Q q =>
  ha σ H M e _ fun u H1 M1 p1 r1 => ht σ H1 M1 p1.env _ fun us H2 M2 p2 r2 => q (u :: us) H2 M2 (p1.trans e p2) ⟨u, us, rfl, Rep.mono p1.env.mok p2.nxt r1, r2⟩
theorem a_star {te : TE} {t : TA} {xs ds : List Dt} (ha : Ev C p te ρ (.val (.lst xs)) ρ1) (ht : EvA C p t ρ1 ds ρ2) : EvA C p (StX.tStar C.K te t) ρ (xs ++ ds) ρ2 := fun σ H M e Q q =>
  ha σ H M e _ fun u H1 M1 p1 r1 => by
    obtain ⟨a, vs, e1, e2, e3, e4⟩ := r1
    exact ⟨a, vs, e1, .inr (.of e3), ht σ H1 M1 p1.env _ fun us H2 M2 p2 r2 => q _ H2 M2 (p1.trans e p2) (Reps.append (Reps.mono p1.env.mok p2.nxt e4) r2)⟩
theorem a_starT {te : TE} {t : TA} {xs ds : List Dt} (ha : Ev C p te ρ (.val (.tup xs)) ρ1) (ht : EvA C p t ρ1 ds ρ2) : EvA C p (StX.tStar C.K te t) ρ (xs ++ ds) ρ2 := fun σ H M e Q q =>
  ha σ H M e _ fun u H1 M1 p1 r1 => by
    obtain ⟨a, vs, e1, e3, e4⟩ := r1
    exact ⟨a, vs, e1, .inl e3, ht σ H1 M1 p1.env _ fun us H2 M2 p2 r2 => q _ H2 M2 (p1.trans e p2) (Reps.append (Reps.mono p1.env.mok p2.nxt e4) r2)⟩
theorem e_tup {t : TA} {ds : List Dt} (h : EvA C p t ρ ds ρ') (hl : ds.length ≤ sizeLine := by exact leb rfl) : Ev C p (tTup t) ρ (.val (.tup ds)) ρ' := fun σ H M e Q q =>
  h σ H M e _ fun vs H1 M1 p1 r1 => ⟨by rw [r1.length]; exact hl, fun a ha => by
    obtain ⟨n, mok⟩ := nxt_new (o := .tup vs) p1.env.mok ha
    exact q _ _ _ (p1.trans e (p1.env.step n mok)) ⟨a, vs, rfl, .of upd_same, Reps.mono p1.env.mok n r1⟩⟩
theorem e_lst {t : TA} {ds : List Dt} (h : EvA C p t ρ ds ρ') (hl : ds.length ≤ sizeLine := by exact leb rfl) : Ev C p (tLst t) ρ (.fr ds) ρ' := fun σ H M e Q q =>
  h σ H M e _ fun vs H1 M1 p1 r1 => ⟨by rw [r1.length]; exact hl, fun a ha => by
    obtain ⟨n, mok⟩ := nxt_newM (vs := vs) p1.env.mok ha
    refine q _ _ _ (p1.trans e (p1.env.step n mok)) ⟨a, vs, rfl, ?_, .inr rfl, upd_same, Reps.mono p1.env.mok n r1⟩
    by_cases z : H a = none
    · exact z
    · exact absurd ha (p1.nxt.dom a z)⟩

/-! ### the operators -/
section
variable {K : PySem.W.Frag}
theorem Op2.pure {r : R2} {x y z : Dt} (h : ∀ H M u v, Rep K H M x u → Rep K H M y v → ∃ w, Rep K H M z w ∧ ∀ Q : VK, Q w H → r u v H Q) : Op2 K r x y (.val z) := fun H M u v mok hu hv Q q => by
  obtain ⟨w, h1, h2⟩ := h H M u v hu hv
  exact h2 Q (q w H M .refl mok h1)
theorem Op1.pure {r : V → Hp → VK → Prop} {x z : Dt} (h : ∀ H M u, Rep K H M x u → ∃ w, Rep K H M z w ∧ ∀ Q : VK, Q w H → r u H Q) : Op1 K r x (.val z) := fun H M u mok hu Q q => by
  obtain ⟨w, h1, h2⟩ := h H M u hu
  exact h2 Q (q w H M .refl mok h1)
theorem OpN.pure {r : List V → Hp → VK → Prop} {xs : List Dt} {z : Dt} (h : ∀ H M us, Reps K H M xs us → ∃ w, Rep K H M z w ∧ ∀ Q : VK, Q w H → r us H Q) : OpN K r xs (.val z) := fun H M u mok hu Q q => by
  obtain ⟨w, h1, h2⟩ := h H M u hu
  exact h2 Q (q w H M .refl mok h1)
theorem o_I0 {f : Int → Int → Int} {i j : Int} : Op2 K (rI0 fun i j => .int (f i j)) (.int i) (.int j) (.val (.int (f i j))) := .pure fun H M u v hu hv => ⟨_, rfl, fun Q q => ⟨i, j, hu, hv, q⟩⟩
theorem o_C0 {f : Int → Int → Bool} {i j : Int} : Op2 K (rI0 fun i j => .bl (f i j)) (.int i) (.int j) (.val (.bl (f i j))) := .pure fun H M u v hu hv => ⟨_, rfl, fun Q q => ⟨i, j, hu, hv, q⟩⟩
theorem o_I {Cd : Int → Int → Prop} {f : Int → Int → Int} {i j : Int} (h : Cd i j) : Op2 K (rI Cd fun i j => .int (f i j)) (.int i) (.int j) (.val (.int (f i j))) := .pure fun H M u v hu hv => ⟨_, rfl, fun Q q => ⟨i, j, hu, hv, h, q⟩⟩
theorem o_U {f : Int → Int} {i : Int} : Op1 K (rU fun i => .int (f i)) (.int i) (.val (.int (f i))) := .pure fun H M u hu => ⟨_, rfl, fun Q q => ⟨i, hu, q⟩⟩
theorem o_eqI {i j : Int} : Op2 K rEq (.int i) (.int j) (.val (.bl (i == j))) := .pure fun H M u v hu hv => ⟨_, rfl, fun Q q => by
  rw [show u = V.int i from hu, show v = V.int j from hv]
  exact ⟨rfl, by rw [dec_int]; exact q⟩⟩
theorem o_neI {i j : Int} : Op2 K rNe (.int i) (.int j) (.val (.bl (!(i == j)))) := .pure fun H M u v hu hv => ⟨_, rfl, fun Q q => by
  rw [show u = V.int i from hu, show v = V.int j from hv]
  exact ⟨rfl, by rw [dec_int]; exact q⟩⟩
theorem o_eqB {i j : Bool} : Op2 K rEq (.bl i) (.bl j) (.val (.bl (i == j))) := .pure fun H M u v hu hv => ⟨_, rfl, fun Q q => by
  rw [show u = V.bl i from hu, show v = V.bl j from hv]
  exact ⟨rfl, by rw [dec_bl]; exact q⟩⟩
theorem o_neB {i j : Bool} : Op2 K rNe (.bl i) (.bl j) (.val (.bl (!(i == j)))) := .pure fun H M u v hu hv => ⟨_, rfl, fun Q q => by
  rw [show u = V.bl i from hu, show v = V.bl j from hv]
  exact ⟨rfl, by rw [dec_bl]; exact q⟩⟩
/-- is None -/
def isNon : Dt → Bool
  | .non => true
  | _ => false
theorem isNon_rep {H : Hp} {M : MS} {d : Dt} {v : V} (h : Rep K H M d v) : decide (v = V.non) = isNon d := by
  cases d with
  | non => rw [show v = V.non from h]; rfl
  | bl b => rw [show v = V.bl b from h]; rfl
  | int b => rw [show v = V.int b from h]; rfl
  | str b => rw [show v = V.str b from h]; rfl
  | obj b => rw [show v = V.ref b from h]; rfl
  | ty b => rw [show v = V.ty b from h]; rfl
  | tup b => obtain ⟨a, vs, e, _⟩ := h; rw [e]; rfl
  | lst b => obtain ⟨a, vs, e, _⟩ := h; rw [e]; rfl
  | ro b => obtain ⟨a, vs, e, _⟩ := h; rw [e]; rfl
  | dic k b => obtain ⟨a, vs, e, _⟩ := h; rw [e]; rfl
theorem o_isN {x : Dt} : Op2 K (fun x y H Q => y = .non ∧ Q (.bl (decide (x = .non))) H) x .non (.val (.bl (isNon x))) := .pure fun H M u v hu hv => ⟨_, rfl, fun Q q => ⟨hv, by rw [isNon_rep hu]; exact q⟩⟩
theorem o_notN {x : Dt} : Op2 K (fun x y H Q => y = .non ∧ Q (.bl (!decide (x = .non))) H) x .non (.val (.bl (!isNon x))) := .pure fun H M u v hu hv => ⟨_, rfl, fun Q q => ⟨hv, by rw [isNon_rep hu]; exact q⟩⟩
theorem atI_map {ds : List Dt} {vs : List V} {i : Int} {d : Dt} {H : Hp} {M : MS} (h : Reps K H M ds vs) (e : atI ds i = some d) : ∃ v, atI vs i = some v ∧ Rep K H M d v := by
  unfold atI at e ⊢
  rw [h.length]
  cases q : ixN ds.length i with
  | none => rw [q] at e; cases e
  | some j =>
    rw [q] at e
    exact h.get e
theorem o_ixT {ds : List Dt} {i : Int} {d : Dt} (e : atI ds i = some d) : Op2 K (rIxT K) (.tup ds) (.int i) (.val d) := .pure fun H M u v hu hv => by
  obtain ⟨a, vs, e1, e2, e3⟩ := hu
  obtain ⟨w, h1, h2⟩ := atI_map e3 e
  exact ⟨w, h2, fun Q q => ⟨a, vs, i, w, e1, hv, e2, h1, q⟩⟩
theorem o_ixL {ds : List Dt} {i : Int} {d : Dt} (e : atI ds i = some d) : Op2 K (rIxL K) (.lst ds) (.int i) (.val d) := .pure fun H M u v hu hv => by
  obtain ⟨a, vs, e1, _, e2, e3⟩ := hu
  obtain ⟨w, h1, h2⟩ := atI_map e3 e
  exact ⟨w, h2, fun Q q => ⟨a, vs, i, w, e1, hv, .of e2, h1, q⟩⟩
theorem o_ixR {ds : List Dt} {i : Int} {d : Dt} (e : atI ds i = some d) : Op2 K (rIxL K) (.ro ds) (.int i) (.val d) := .pure fun H M u v hu hv => by
  obtain ⟨a, vs, e1, e2, e3⟩ := hu
  obtain ⟨w, h1, h2⟩ := atI_map e3 e
  exact ⟨w, h2, fun Q q => ⟨a, vs, i, w, e1, hv, e2.sqL, h1, q⟩⟩
/-- any of the three subscripts -/
theorem o_ixT' {ds : List Dt} {i : Int} {d : Dt} (e : atI ds i = some d) : Op2 K (rIx K) (.tup ds) (.int i) (.val d) := fun H M u v mok hu hv Q q => .inr (.inl (o_ixT e H M u v mok hu hv Q q))
theorem o_ixL' {ds : List Dt} {i : Int} {d : Dt} (e : atI ds i = some d) : Op2 K (rIx K) (.lst ds) (.int i) (.val d) := fun H M u v mok hu hv Q q => .inl (o_ixL e H M u v mok hu hv Q q)
theorem o_ixR' {ds : List Dt} {i : Int} {d : Dt} (e : atI ds i = some d) : Op2 K (rIx K) (.ro ds) (.int i) (.val d) := fun H M u v mok hu hv Q q => .inl (o_ixR e H M u v mok hu hv Q q)
/-- list + list -/
theorem res_new {H : Hp} {M : MS} {ds : List Dt} {vs : List V} {Q : VK} (mok : MOk H M) (h : Reps K H M ds vs) (q : ∀ w H' M', Nxt NoO H M H' M' → MOk H' M' → ResOk K H H' M' (.fr ds) w → Q w H') {a : Addr} (ha : H a = none) : Q (.ref a) (upd H a (.lst vs)) := by
  obtain ⟨n, mok'⟩ := nxt_newM (vs := vs) mok ha
  exact q _ _ _ n mok' ⟨a, vs, rfl, ha, .inr rfl, upd_same, Reps.mono mok n h⟩
theorem res_newT {H : Hp} {M : MS} {ds : List Dt} {vs : List V} {Q : VK} (mok : MOk H M) (h : Reps K H M ds vs) (q : ∀ w H' M', Nxt NoO H M H' M' → MOk H' M' → ResOk K H H' M' (.val (.tup ds)) w → Q w H') {a : Addr} (ha : H a = none) : Q (.ref a) (upd H a (.tup vs)) := by
  obtain ⟨n, mok'⟩ := nxt_new (o := .tup vs) mok ha
  exact q _ _ _ n mok' ⟨a, vs, rfl, .of upd_same, Reps.mono mok n h⟩
theorem o_cat {xs ys : List Dt} (hl : xs.length + ys.length ≤ sizeLine) : Op2 K rCat (.lst xs) (.lst ys) (.fr (xs ++ ys)) := fun H M u v mok hu hv Q q => by
  obtain ⟨a, vs, e1, _, e2, e3⟩ := hu
  obtain ⟨b, ws, f1, _, f2, f3⟩ := hv
  exact ⟨a, b, vs, ws, e1, f1, e2, f2, by rw [e3.length, f3.length]; exact hl, fun c hc => res_new mok (e3.append f3) q hc⟩
theorem o_catT {xs ys : List Dt} (hl : xs.length + ys.length ≤ sizeLine) (hx : xs ≠ []) : Op2 K (rCatT K) (.tup xs) (.tup ys) (.val (.tup (xs ++ ys))) := fun H M u v mok hu hv Q q => by
  obtain ⟨a, vs, e1, e2, e3⟩ := hu
  obtain ⟨b, ws, f1, f2, f3⟩ := hv
  refine ⟨a, b, vs, ws, e1, f1, e2, f2, fun z => hx ?_, by rw [e3.length, f3.length]; exact hl, fun z => ?_, fun z c hc => res_newT mok (e3.append f3) q hc⟩
  · have := e3.length
    rw [z] at this
    exact List.eq_nil_of_length_eq_zero this.symm
  · have y0 : ys = [] := by
      have := f3.length
      rw [z] at this
      exact List.eq_nil_of_length_eq_zero this.symm
    subst y0
    refine q _ H M .refl mok ⟨a, vs, rfl, e2, ?_⟩
    rw [List.append_nil]
    exact e3
/-! ### built-in functions -/
theorem n_lenT {ds : List Dt} : OpN K (fun xs H Q => ∃ p ys, xs = [.ref p] ∧ (SqL K H p ys ∨ SqT K H p ys) ∧ Q (.int ys.length) H) [.tup ds] (.val (.int ds.length)) := .pure fun H M us h => by
  obtain ⟨v, r, e, ⟨a, vs, e1, e2, e3⟩, h2⟩ := h
  rw [show r = [] from h2, e1] at e
  exact ⟨_, rfl, fun Q q => ⟨a, vs, e, .inr e2, by rw [e3.length]; exact q⟩⟩
theorem n_lenL {ds : List Dt} : OpN K (fun xs H Q => ∃ p ys, xs = [.ref p] ∧ (SqL K H p ys ∨ SqT K H p ys) ∧ Q (.int ys.length) H) [.lst ds] (.val (.int ds.length)) := .pure fun H M us h => by
  obtain ⟨v, r, e, ⟨a, vs, e1, _, e2, e3⟩, h2⟩ := h
  rw [show r = [] from h2, e1] at e
  exact ⟨_, rfl, fun Q q => ⟨a, vs, e, .inl (.of e2), by rw [e3.length]; exact q⟩⟩
theorem n_lenR {ds : List Dt} : OpN K (fun xs H Q => ∃ p ys, xs = [.ref p] ∧ (SqL K H p ys ∨ SqT K H p ys) ∧ Q (.int ys.length) H) [.ro ds] (.val (.int ds.length)) := .pure fun H M us h => by
  obtain ⟨v, r, e, ⟨a, vs, e1, e2, e3⟩, h2⟩ := h
  rw [show r = [] from h2, e1] at e
  exact ⟨_, rfl, fun Q q => ⟨a, vs, e, .inl e2.sqL, by rw [e3.length]; exact q⟩⟩
theorem n_listL {ds : List Dt} : OpN K (fun xs H Q => ∃ p ys, xs = [.ref p] ∧ (SqL K H p ys ∨ SqT K H p ys) ∧ ∀ l, H l = none → Q (.ref l) (upd H l (.lst ys))) [.lst ds] (.fr ds) := fun H M us mok h Q q => by
  obtain ⟨v, r, e, ⟨a, vs, e1, _, e2, e3⟩, h2⟩ := h
  rw [show r = [] from h2, e1] at e
  exact ⟨a, vs, e, .inl (.of e2), fun l hl => res_new mok e3 q hl⟩
theorem n_listT {ds : List Dt} : OpN K (fun xs H Q => ∃ p ys, xs = [.ref p] ∧ (SqL K H p ys ∨ SqT K H p ys) ∧ ∀ l, H l = none → Q (.ref l) (upd H l (.lst ys))) [.tup ds] (.fr ds) := fun H M us mok h Q q => by
  obtain ⟨v, r, e, ⟨a, vs, e1, e2, e3⟩, h2⟩ := h
  rw [show r = [] from h2, e1] at e
  exact ⟨a, vs, e, .inr e2, fun l hl => res_new mok e3 q hl⟩
theorem n_tupleL {ds : List Dt} : OpN K (fun xs H Q => ∃ p ys, xs = [.ref p] ∧ ((SqL K H p ys ∧ ∀ l, H l = none → Q (.ref l) (upd H l (.tup ys))) ∨ (SqT K H p ys ∧ Q (.ref p) H))) [.lst ds] (.val (.tup ds)) := fun H M us mok h Q q => by
  obtain ⟨v, r, e, ⟨a, vs, e1, _, e2, e3⟩, h2⟩ := h
  rw [show r = [] from h2, e1] at e
  exact ⟨a, vs, e, .inl ⟨.of e2, fun l hl => res_newT mok e3 q hl⟩⟩
theorem n_tupleT {ds : List Dt} : OpN K (fun xs H Q => ∃ p ys, xs = [.ref p] ∧ ((SqL K H p ys ∧ ∀ l, H l = none → Q (.ref l) (upd H l (.tup ys))) ∨ (SqT K H p ys ∧ Q (.ref p) H))) [.tup ds] (.val (.tup ds)) := fun H M us mok h Q q => by
  obtain ⟨v, r, e, ⟨a, vs, e1, e2, e3⟩, h2⟩ := h
  rw [show r = [] from h2, e1] at e
  exact ⟨a, vs, e, .inr ⟨e2, q _ H M .refl mok ⟨a, vs, rfl, e2, e3⟩⟩⟩
theorem n_all {bs : List Bool} : OpN K (rAll K) [.lst (bs.map .bl)] (.val (.bl (bs.all id))) := .pure fun H M us h => by
  obtain ⟨v, r, e, ⟨a, vs, e1, _, e2, e3⟩, h2⟩ := h
  rw [show r = [] from h2, e1] at e
  exact ⟨_, rfl, fun Q q => ⟨a, bs, e, by rw [← e3.bls]; exact .of e2, q⟩⟩
theorem n_abs {i : Int} : OpN K (fun xs H Q => ∃ i, xs = [.int i] ∧ Q (.int (if i < 0 then -i else i)) H) [.int i] (.val (.int (if i < 0 then -i else i))) := .pure fun H M us h => by
  obtain ⟨v, r, e, h1, h2⟩ := h
  rw [show r = [] from h2, show v = V.int i from h1] at e
  exact ⟨_, rfl, fun Q q => ⟨i, e, q⟩⟩
theorem n_intI {i : Int} : OpN K (fun xs H Q => (∃ i, xs = [.int i] ∧ Q (.int i) H) ∨ ∃ k, xs = [.bl k] ∧ Q (.int (if k then 1 else 0)) H) [.int i] (.val (.int i)) := .pure fun H M us h => by
  obtain ⟨v, r, e, h1, h2⟩ := h
  rw [show r = [] from h2, show v = V.int i from h1] at e
  exact ⟨_, rfl, fun Q q => .inl ⟨i, e, q⟩⟩
theorem n_intB {b : Bool} : OpN K (fun xs H Q => (∃ i, xs = [.int i] ∧ Q (.int i) H) ∨ ∃ k, xs = [.bl k] ∧ Q (.int (if k then 1 else 0)) H) [.bl b] (.val (.int (if b then 1 else 0))) := .pure fun H M us h => by
  obtain ⟨v, r, e, h1, h2⟩ := h
  rw [show r = [] from h2, show v = V.bl b from h1] at e
  exact ⟨_, rfl, fun Q q => .inr ⟨b, e, q⟩⟩
theorem n_gcd {a b : Int} : OpN K rGcd [.int a, .int b] (.val (.int ((Nat.gcd a.natAbs b.natAbs : Nat) : Int))) := .pure fun H M us h => by
  obtain ⟨v, r, e, h1, v2, r2, e2, h3, h4⟩ := h
  rw [e2, show r2 = [] from h4, show v = V.int a from h1, show v2 = V.int b from h3] at e
  exact ⟨_, rfl, fun Q q => ⟨a, b, e, q⟩⟩
end

/-! ### conditions -/
theorem t_test {t : TE} {b : Bool} (h : Ev C p t ρ (.val (.bl b)) ρ') : EvT C p (tTest t) ρ b ρ' := fun σ H M e Q q =>
  h σ H M e _ fun v H1 M1 p1 r1 => ⟨b, r1, q H1 M1 p1⟩
theorem t_b {t : TE} {b : Bool} (h : Ev C p t ρ (.val (.bl b)) ρ') : EvT C p (tB t) ρ b ρ' := fun σ H M e Q q =>
  h σ H M e _ fun v H1 M1 p1 r1 => ⟨b, r1, q H1 M1 p1⟩
theorem t_and {t u : TT} {b c : Bool} (h : EvT C p t ρ b ρ1) (h1 : b = true → EvT C p u ρ1 c ρ2) (h0 : b = false → c = false ∧ ρ2 = ρ1) : EvT C p (tAnd t u) ρ c ρ2 := fun σ H M e Q q =>
  h σ H M e _ fun H1 M1 p1 => by
    cases b with
    | true => rw [if_pos rfl]; exact h1 rfl σ H1 M1 p1.env Q fun H2 M2 p2 => q H2 M2 (p1.trans e p2)
    | false =>
      rw [if_neg Bool.false_ne_true]
      obtain ⟨rfl, rfl⟩ := h0 rfl
      exact q H1 M1 p1
theorem t_or {t u : TT} {b c : Bool} (h : EvT C p t ρ b ρ1) (h1 : b = false → EvT C p u ρ1 c ρ2) (h0 : b = true → c = true ∧ ρ2 = ρ1) : EvT C p (tOr t u) ρ c ρ2 := fun σ H M e Q q =>
  h σ H M e _ fun H1 M1 p1 => by
    cases b with
    | false => rw [if_neg Bool.false_ne_true]; exact h1 rfl σ H1 M1 p1.env Q fun H2 M2 p2 => q H2 M2 (p1.trans e p2)
    | true =>
      rw [if_pos rfl]
      obtain ⟨rfl, rfl⟩ := h0 rfl
      exact q H1 M1 p1
theorem t_not {t : TT} {b : Bool} (h : EvT C p t ρ b ρ') : EvT C p (tNot t) ρ (!b) ρ' := fun σ H M e Q q => h σ H M e _ fun H1 M1 p1 => q H1 M1 p1
theorem t_cast {t : TT} {b c : Bool} (h : EvT C p t ρ b ρ') (e : b = c) : EvT C p t ρ c ρ' := e ▸ h
/-- both sides asked in an environment that stays -/
theorem t_and' {t u : TT} {b c : Bool} (h : EvT C p t ρ b ρ) (h1 : b = true → EvT C p u ρ c ρ) : EvT C p (tAnd t u) ρ (b && c) ρ := by
  cases b with
  | true => exact t_and h (fun _ => h1 rfl) (fun z => nomatch z)
  | false => exact t_and h (fun z => nomatch z) (fun _ => ⟨rfl, rfl⟩)
theorem t_or' {t u : TT} {b c : Bool} (h : EvT C p t ρ b ρ) (h1 : b = false → EvT C p u ρ c ρ) : EvT C p (tOr t u) ρ (b || c) ρ := by
  cases b with
  | false => exact t_or h (fun _ => h1 rfl) (fun z => nomatch z)
  | true => exact t_or h (fun z => nomatch z) (fun _ => ⟨rfl, rfl⟩)
theorem e_and {ta tb : TE} {b c : Bool} (h : Ev C p ta ρ (.val (.bl b)) ρ) (h1 : b = true → Ev C p tb ρ (.val (.bl c)) ρ) : Ev C p (tAndV ta tb) ρ (.val (.bl (b && c))) ρ := fun σ H M e Q q =>
  h σ H M e _ fun v H1 M1 p1 r1 => ⟨b, r1, by
    cases b with
    | true => rw [if_pos rfl]; exact h1 rfl σ H1 M1 p1.env Q fun w H2 M2 p2 r2 => q w H2 M2 (p1.trans e p2) r2
    | false => rw [if_neg Bool.false_ne_true]; exact q _ H1 M1 p1 rfl⟩
theorem e_or {ta tb : TE} {b c : Bool} (h : Ev C p ta ρ (.val (.bl b)) ρ) (h1 : b = false → Ev C p tb ρ (.val (.bl c)) ρ) : Ev C p (tOrV ta tb) ρ (.val (.bl (b || c))) ρ := fun σ H M e Q q =>
  h σ H M e _ fun v H1 M1 p1 r1 => ⟨b, r1, by
    cases b with
    | false => rw [if_neg Bool.false_ne_true]; exact h1 rfl σ H1 M1 p1.env Q fun w H2 M2 p2 r2 => q w H2 M2 (p1.trans e p2) r2
    | true => rw [if_pos rfl]; exact q _ H1 M1 p1 rfl⟩
theorem e_not {ta : TE} {b : Bool} (h : Ev C p ta ρ (.val (.bl b)) ρ') : Ev C p (tNotV ta) ρ (.val (.bl (!b))) ρ' := fun σ H M e Q q =>
  h σ H M e _ fun v H1 M1 p1 r1 => ⟨b, r1, q _ H1 M1 p1 rfl⟩
theorem e_if {t : TT} {ta tb : TE} {b : Bool} {r : R} (h : EvT C p t ρ b ρ1) (h1 : b = true → Ev C p ta ρ1 r ρ2) (h0 : b = false → Ev C p tb ρ1 r ρ2) : Ev C p (tIf t ta tb) ρ r ρ2 := fun σ H M e Q q =>
  h σ H M e _ fun H1 M1 p1 => by
    cases b with
    | true => rw [if_pos rfl]; exact h1 rfl σ H1 M1 p1.env Q fun w H2 M2 p2 r2 => q w H2 M2 (p1.trans e p2) (res_back p1.nxt.dom r2)
    | false => rw [if_neg Bool.false_ne_true]; exact h0 rfl σ H1 M1 p1.env Q fun w H2 M2 p2 r2 => q w H2 M2 (p1.trans e p2) (res_back p1.nxt.dom r2)
theorem e_chain {r r' : R2} {ta tb tc : TE} {x y z : Dt} {b c : Bool} (ha : Ev C p ta ρ (.val x) ρ) (hb : Ev C p tb ρ (.val y) ρ) (hr : Op2 C.K r x y (.val (.bl b))) (hc : b = true → Ev C p tc ρ (.val z) ρ) (hr' : b = true → Op2 C.K r' y z (.val (.bl c))) : Ev C p (tChain r r' ta tb tc) ρ (.val (.bl (b && c))) ρ := fun σ H M e Q q =>
  ha σ H M e _ fun u H1 M1 p1 r1 => hb σ H1 M1 p1.env _ fun v H2 M2 p2 r2 => hr H2 M2 u v p2.env.mok (Rep.mono p1.env.mok p2.nxt r1) r2 _ fun w H3 M3 n mok r3 => by
    have po := (p1.trans e p2)
    have po3 := po.trans e (po.env.step (p := p) n mok)
    refine ⟨b, r3, ?_⟩
    cases b with
    | false => rw [if_neg Bool.false_ne_true]; exact q _ H3 M3 po3 rfl
    | true =>
      rw [if_pos rfl]
      refine hc rfl σ H3 M3 po3.env _ fun w4 H4 M4 p4 r4 => ?_
      refine hr' rfl H4 M4 v w4 p4.env.mok (Rep.mono mok p4.nxt (Rep.mono po.env.mok n r2)) r4 Q fun w5 H5 M5 n5 mok5 r5 => ?_
      have po4 := po3.trans e p4
      exact q _ H5 M5 (po4.trans e (po4.env.step n5 mok5)) r5
end
end B
/-! text BStm -/
set_option Elab.async false
set_option linter.all false
set_option maxRecDepth 100000
namespace B
open PySem PySem.Spec PyProof.Rows L2

/-- how a statement ends -/
inductive Out where
  | nx (ρ : En) | ct (ρ : En) | bk (ρ : En) | rt (r : R) (ρ : En)
structure PostS (C : Cc) (σ : L2.St) (ρ : En) (H : Hp) (M : MS) (σ' : L2.St) (ρ' : En) (H' : Hp) (M' : MS) : Prop where
  env : EnvOk C H' M' σ' ρ'
  nxt : Nxt (Owned σ ρ) H M H' M'
  own : ∀ a, Owned σ' ρ' a → Owned σ ρ a ∨ H a = none
/-- what is handed back: a datum, or a list that nobody ahead of the def knows -/
def RetOk (C : Cc) (H : Hp) (M : MS) : R → V → Prop
  | .val d, v => Rep C.K H M d v
  | .fr ds, v => ∃ a vs, v = .ref a ∧ ¬ C.Fz a ∧ M a ∧ H a = some (.lst vs) ∧ Reps C.K H M ds vs
def Ends.to (C : Cc) (D : Ends) (σ : L2.St) (ρ : En) (H : Hp) (M : MS) : Out → Prop
  | .nx ρ' => ∀ σ' H' M', PostS C σ ρ H M σ' ρ' H' M' → D.nx σ' H'
  | .ct ρ' => ∀ σ' H' M', PostS C σ ρ H M σ' ρ' H' M' → D.ct σ' H'
  | .bk ρ' => ∀ σ' H' M', PostS C σ ρ H M σ' ρ' H' M' → D.bk σ' H'
  | .rt r ρ' => ∀ v σ' H' M', PostS C σ ρ H M σ' ρ' H' M' → RetOk C H' M' r v → D.rt v H'
def Ex (C : Cc) (t : TS) (ρ : En) (o : Out) : Prop := ∀ σ H M, EnvOk C H M σ ρ → ∀ D : Ends, Ends.to C D σ ρ H M o → t D σ H

section
variable {C : Cc} {p : Bool} {σ σ' σ2 : L2.St} {ρ ρ' ρ1 ρ2 ρ3 : En} {H H' H2 : Hp} {M M' M2 : MS} {o : Out}
theorem Post.s (q : Post C p σ ρ H M ρ' H' M') : PostS C σ ρ H M σ ρ' H' M' := ⟨q.env, q.nxt.weak fun _ z => z.2, fun a z => .inl (q.own a z)⟩
theorem PostS.refl (e : EnvOk C H M σ ρ) : PostS C σ ρ H M σ ρ H M := ⟨e, .refl, fun _ z => .inl z⟩
theorem PostS.trans (e : EnvOk C H M σ ρ) (a : PostS C σ ρ H M σ' ρ' H' M') (b : PostS C σ' ρ' H' M' σ2 ρ2 H2 M2) : PostS C σ ρ H M σ2 ρ2 H2 M2 :=
  ⟨b.env, a.nxt.trans e.mok b.nxt a.own, fun x z => by
    rcases b.own x z with y | y
    · exact a.own x y
    · by_cases w : H x = none
      · exact .inr w
      · exact absurd y (a.nxt.dom x w)⟩
theorem Ends.of {D : Ends} (e : EnvOk C H M σ ρ) (a : PostS C σ ρ H M σ' ρ' H' M') (h : Ends.to C D σ ρ H M o) : Ends.to C D σ' ρ' H' M' o := by
  cases o with
  | nx r => exact fun s2 H2 M2 b => h s2 H2 M2 (a.trans e b)
  | ct r => exact fun s2 H2 M2 b => h s2 H2 M2 (a.trans e b)
  | bk r => exact fun s2 H2 M2 b => h s2 H2 M2 (a.trans e b)
  | rt v r => exact fun u s2 H2 M2 b k => h u s2 H2 M2 (a.trans e b) k
theorem x_cast {t : TS} {o' : Out} (h : Ex C t ρ o) (e : o = o') : Ex C t ρ o' := e ▸ h

/-! ### a slot is stored -/
theorem getElem?_set_some {α : Type} {l : List α} {i j : Nat} {x : α} (hi : i < l.length) : (l.set i x)[j]? = if j = i then some x else l[j]? := by
  by_cases h : j = i
  · subst h; rw [if_pos rfl, List.getElem?_set_self hi]
  · rw [if_neg h, List.getElem?_set_ne (Ne.symm h)]
theorem EnvOk.set {i : Nat} {d : Dt} {v : V} (e : EnvOk C H M σ ρ) (hi : i < ρ.length) (h : Rep C.K H M d v) : PostS C σ ρ H M (σ.set i (some v)) (ρ.set i (some (.val d))) H M := by
  have hs : i < σ.length := by rw [← e.len]; exact hi
  have key : ∀ (j : Nat) (ds : List Dt), (ρ.set i (some (.val d)))[j]? = some (some (.own ds)) → j ≠ i ∧ ρ[j]? = some (some (.own ds)) := fun j ds q => by
    rw [getElem?_set_some hi] at q
    by_cases z : j = i
    · rw [if_pos z] at q; cases q
    · rw [if_neg z] at q; exact ⟨z, q⟩
  have low : ∀ (a : Addr), Owned (σ.set i (some v)) (ρ.set i (some (.val d))) a → Owned σ ρ a := fun a ⟨j, ds, h1, h2⟩ => by
    obtain ⟨n, q⟩ := key j ds h1
    rw [List.getElem?_set_ne (Ne.symm n)] at h2
    exact ⟨j, ds, q, h2⟩
  refine ⟨⟨e.mok, by rw [List.length_set, List.length_set]; exact e.len, fun j s q => ?_, fun j k s t a q1 q2 q3 q4 => ?_, fun j s a q1 q2 => ?_, e.fzd⟩, .refl, fun a z => .inl (low a z)⟩
  · rw [getElem?_set_some hi] at q
    rw [getElem?_set_some hs]
    by_cases z : j = i
    · rw [if_pos z] at q ⊢
      cases q
      exact ⟨v, rfl, h⟩
    · rw [if_neg z] at q ⊢
      exact e.get j s q
  · obtain ⟨n1, r1⟩ := key j s q1
    obtain ⟨n2, r2⟩ := key k t q2
    rw [List.getElem?_set_ne (Ne.symm n1)] at q3
    rw [List.getElem?_set_ne (Ne.symm n2)] at q4
    exact e.dist j k s t a r1 r2 q3 q4
  · obtain ⟨n1, r1⟩ := key j s q1
    rw [List.getElem?_set_ne (Ne.symm n1)] at q2
    exact e.fz j s a r1 q2
/-- a list of its own, new since (σ₀, ρ₀, H₀) -/
theorem EnvOk.setO {i : Nat} {ds : List Dt} {vs : List V} {a : Addr} (e : EnvOk C H M σ ρ) (hi : i < ρ.length) (hm : M a) (hl : H a = some (.lst vs)) (hr : Reps C.K H M ds vs) (hn : ¬ Owned σ ρ a) (hf : ¬ C.Fz a) (hp : C.np ≤ i) :
    EnvOk C H M (σ.set i (some (.ref a))) (ρ.set i (some (.own ds))) := by
  have hs : i < σ.length := by rw [← e.len]; exact hi
  have key : ∀ (j : Nat) (es : List Dt) (b : Addr), (ρ.set i (some (.own ds)))[j]? = some (some (.own es)) → (σ.set i (some (.ref a)))[j]? = some (some (.ref b)) → (j = i ∧ b = a) ∨ (j ≠ i ∧ ρ[j]? = some (some (.own es)) ∧ σ[j]? = some (some (.ref b))) := fun j es b q q2 => by
    rw [getElem?_set_some hi] at q
    rw [getElem?_set_some hs] at q2
    by_cases z : j = i
    · rw [if_pos z] at q2; cases q2; exact .inl ⟨z, rfl⟩
    · rw [if_neg z] at q q2; exact .inr ⟨z, q, q2⟩
  refine ⟨e.mok, by rw [List.length_set, List.length_set]; exact e.len, fun j s q => ?_, fun j k s t b q1 q2 q3 q4 => ?_, fun j s b q1 q2 => ?_, e.fzd⟩
  · rw [getElem?_set_some hi] at q
    rw [getElem?_set_some hs]
    by_cases z : j = i
    · rw [if_pos z] at q ⊢
      cases q
      exact ⟨.ref a, rfl, a, vs, rfl, hm, hl, hr⟩
    · rw [if_neg z] at q ⊢
      exact e.get j s q
  · rcases key j s b q1 q3 with ⟨z1, z2⟩ | ⟨n1, r1, r2⟩
    · rcases key k t b q2 q4 with ⟨y1, y2⟩ | ⟨m1, m2, m3⟩
      · rw [z1, y1]
      · rw [z2] at m3; exact absurd ⟨k, t, m2, m3⟩ hn
    · rcases key k t b q2 q4 with ⟨y1, y2⟩ | ⟨m1, m2, m3⟩
      · rw [y2] at r2; exact absurd ⟨j, s, r1, r2⟩ hn
      · exact e.dist j k s t b r1 m2 r2 m3
  · rcases key j s b q1 q2 with ⟨z1, z2⟩ | ⟨n1, r1, r2⟩
    · rw [z2, z1]; exact ⟨fun y => absurd y hf, fun y => absurd y (Nat.not_lt.mpr hp)⟩
    · exact e.fz j s b r1 r2
theorem ownedO {i : Nat} {ds : List Dt} {a : Addr} (hi : i < ρ.length) (hs : i < σ.length) (b : Addr) (h : Owned (σ.set i (some (.ref a))) (ρ.set i (some (.own ds))) b) : b = a ∨ Owned σ ρ b := by
  obtain ⟨j, es, h1, h2⟩ := h
  rw [getElem?_set_some hi] at h1
  rw [getElem?_set_some hs] at h2
  by_cases z : j = i
  · rw [if_pos z] at h2; cases h2; exact .inl rfl
  · rw [if_neg z] at h1 h2; exact .inr ⟨j, es, h1, h2⟩
theorem x_set {i : Nat} {t : TE} {d : Dt} (h : Ev C p t ρ (.val d) ρ1) (hi : i < ρ1.length) : Ex C (tAsg t (gName i)) ρ (.nx (ρ1.set i (some (.val d)))) := fun σ H M e D q =>
  h σ H M e _ fun v H1 M1 p1 r1 => q _ H1 M1 (p1.s.trans e (p1.env.set hi r1))
theorem x_setO {i : Nat} {t : TE} {ds : List Dt} (h : Ev C p t ρ (.fr ds) ρ1) (hi : i < ρ1.length) (hp : C.np ≤ i) : Ex C (tAsg t (gName i)) ρ (.nx (ρ1.set i (some (.own ds)))) := fun σ H M e D q =>
  h σ H M e _ fun v H1 M1 p1 ⟨a, vs, e1, e2, e3, e4, e5⟩ => by
    subst e1
    have hn : ¬ Owned σ ρ1 a := fun z => (e.ownedM (p1.own a z)).2 e2
    refine q _ H1 M1 ⟨p1.env.setO hi e3 e4 e5 hn (fun z => e.fzd a z e2) hp, p1.nxt.weak fun _ z => z.2, fun b z => ?_⟩
    rcases ownedO hi (by rw [← p1.env.len]; exact hi) b z with y | y
    · exact .inr (by rw [y]; exact e2)
    · exact .inl (p1.own b y)

/-! ### a marked list in a slot is written -/
theorem EnvOk.write {i : Nat} {ds es : List Dt} {vs us : List V} {a : Addr} (e : EnvOk C H M σ ρ) (hi : ρ[i]? = some (some (.own ds))) (ha : σ[i]? = some (some (.ref a))) (hl : H a = some (.lst vs)) (hm : M a)
    (hr : Reps C.K H M es us) : PostS C σ ρ H M σ (ρ.set i (some (.own es))) (upd H a (.lst us)) M := by
  have hi' : i < ρ.length := (List.getElem?_eq_some_iff.mp hi).1
  have oa : Owned σ ρ a := ⟨i, ds, hi, ha⟩
  have n : Nxt (Owned σ ρ) H M (upd H a (.lst us)) M := ⟨fun b u q z => by rw [upd_ne fun y => z (by rw [y]; exact hm)]; exact q, fun _ q _ => q, fun _ q => .inl q, fun b q z => upd_ne fun y => z (by rw [y]; exact oa), fun b q => by
    by_cases z : b = a
    · rw [z, upd_same]; exact fun y => nomatch y
    · rw [upd_ne z]; exact q⟩
  have mok' : MOk (upd H a (.lst us)) M := fun b q => by
    by_cases z : b = a
    · rw [z, upd_same]; exact ⟨.l us, rfl⟩
    · rw [upd_ne z]; exact e.mok b q
  have key : ∀ (j : Nat) (fs : List Dt), (ρ.set i (some (.own es)))[j]? = some (some (.own fs)) → ∃ gs, ρ[j]? = some (some (.own gs)) := fun j fs q => by
    rw [getElem?_set_some hi'] at q
    by_cases z : j = i
    · rw [z]; exact ⟨ds, hi⟩
    · rw [if_neg z] at q; exact ⟨fs, q⟩
  refine ⟨⟨mok', by rw [List.length_set]; exact e.len, fun j s q => ?_, fun j k s t b q1 q2 q3 q4 => ?_, fun j s b q1 q2 => ?_, fun b q => n.dom b (e.fzd b q)⟩, n, fun b ⟨j, fs, h1, h2⟩ => ?_⟩
  · rw [getElem?_set_some hi'] at q
    by_cases z : j = i
    · rw [if_pos z] at q
      cases q
      rw [z]
      exact ⟨.ref a, ha, a, us, rfl, hm, upd_same, Reps.mono e.mok n hr⟩
    · rw [if_neg z] at q
      obtain ⟨v, h1, h2⟩ := e.get j s q
      refine ⟨v, h1, ?_⟩
      cases s with
      | val d => exact Rep.mono e.mok n h2
      | own fs =>
        obtain ⟨b, ws, e1, e2, e3, e4⟩ := h2
        subst e1
        refine ⟨b, ws, rfl, e2, ?_, Reps.mono e.mok n e4⟩
        rw [upd_ne fun y => z (by rw [y] at h1; exact e.dist j i fs ds a q hi h1 ha)]
        exact e3
  · obtain ⟨g1, r1⟩ := key j s q1
    obtain ⟨g2, r2⟩ := key k t q2
    exact e.dist j k g1 g2 b r1 r2 q3 q4
  · obtain ⟨g1, r1⟩ := key j s q1
    exact e.fz j g1 b r1 q2
  · obtain ⟨g1, r1⟩ := key j fs h1
    exact .inl ⟨j, g1, r1, h2⟩
theorem EnvOk.ownAt {i : Nat} {ds : List Dt} (e : EnvOk C H M σ ρ) (hi : ρ[i]? = some (some (.own ds))) : ∃ a vs, σ[i]? = some (some (.ref a)) ∧ M a ∧ H a = some (.lst vs) ∧ Reps C.K H M ds vs := by
  obtain ⟨v, h1, a, vs, e1, e2, e3, e4⟩ := e.get i _ hi
  subst e1
  exact ⟨a, vs, h1, e2, e3, e4⟩
theorem slot_same {i : Nat} {ds : List Dt} {a : Addr} (e : EnvOk C H M σ ρ) (ha : σ[i]? = some (some (.ref a))) (hi : ρ[i]? = some (some (.own ds))) : ∃ vs, M a ∧ H a = some (.lst vs) ∧ Reps C.K H M ds vs := by
  obtain ⟨b, vs, h1, h2⟩ := e.ownAt hi
  rw [ha] at h1
  cases h1
  exact ⟨vs, h2⟩
/-- x.append(e) -/
theorem x_append {i : Nat} {te : TE} {d : Dt} {ds : List Dt} (h : Ev C p te ρ (.val d) ρ1) (h0 : ∃ ds0, ρ[i]? = some (some (.own ds0))) (hi : ρ1[i]? = some (some (.own ds))) (hz : ds.length < sizeLine) :
    Ex C (tDrop (tBM C.K "list" rAppend (tVar i) (tCons te tNil))) ρ (.nx (ρ1.set i (some (.own (ds ++ [d]))))) := fun σ H M e D q => by
  obtain ⟨ds0, h0⟩ := h0
  obtain ⟨a, vs0, ha, hm, hl, _⟩ := e.ownAt h0
  refine ⟨.ref a, ha, .inl ⟨rfl, _, .of hl⟩, ?_⟩
  refine h σ H M e _ fun v H1 M1 p1 r1 => ?_
  obtain ⟨vs, hm1, hl1, hr1⟩ := slot_same p1.env ha hi
  exact ⟨a, vs, v, rfl, rfl, hl1, by rw [hr1.length]; exact hz, q _ _ _ (p1.s.trans e (p1.env.write hi ha hl1 hm1 (hr1.append (.one r1))))⟩
/-- x.pop() -/
theorem x_pop {i : Nat} {ds : List Dt} (hi : ρ[i]? = some (some (.own ds))) (hz : ds ≠ []) :
    Ex C (tDrop (tBM0 C.K "list" rPop (tVar i))) ρ (.nx (ρ.set i (some (.own ds.dropLast)))) := fun σ H M e D q => by
  obtain ⟨a, vs, ha, hm, hl, hr⟩ := e.ownAt hi
  have hlen := hr.length
  have hv : vs.length - 1 < vs.length := by
    cases ds with
    | nil => exact absurd rfl hz
    | cons x r => rw [hlen, List.length_cons]; omega
  exact ⟨.ref a, ha, .inl ⟨rfl, _, .of hl⟩, a, vs, vs[vs.length - 1], rfl, rfl, hl, List.getElem?_eq_getElem hv, q _ _ _ (e.write hi ha hl hm hr.dropLast)⟩
/-- x[k] = e -/
theorem x_store {i : Nat} {te tk : TE} {d : Dt} {k : Int} {j : Nat} {ds : List Dt} (h : Ev C p te ρ (.val d) ρ1) (hi : ρ2[i]? = some (some (.own ds))) (h1 : ∃ ds0, ρ1[i]? = some (some (.own ds0)))
    (hk : Ev C p tk ρ1 (.val (.int k)) ρ2) (hj : ixN ds.length k = some j) : Ex C (tAsg te (gSub (tVar i) tk rSetL)) ρ (.nx (ρ2.set i (some (.own (ds.set j d))))) := fun σ H M e D q =>
  h σ H M e _ fun v H1 M1 p1 r1 => by
    obtain ⟨ds0, h1⟩ := h1
    obtain ⟨a, vs0, ha, _⟩ := p1.env.ownAt h1
    refine ⟨.ref a, ha, ?_⟩
    refine hk σ H1 M1 p1.env _ fun w H2 M2 p2 r2 => ?_
    have po := p1.trans e p2
    obtain ⟨vs, hm2, hl2, hr2⟩ := slot_same po.env ha hi
    exact ⟨a, vs, k, j, rfl, r2, hl2, by rw [hr2.length]; exact hj, q _ _ _ (po.s.trans e (po.env.write hi ha hl2 hm2 (Reps.set (Rep.mono p1.env.mok p2.nxt r1) j hr2)))⟩

/-! ### statements -/
theorem x_drop {t : TE} {r : R} (h : Ev C p t ρ r ρ1) : Ex C (tDrop t) ρ (.nx ρ1) := fun σ H M e D q => h σ H M e _ fun v H1 M1 p1 r1 => q _ H1 M1 p1.s
theorem x_next : Ex C tNext ρ (.nx ρ) := fun σ H M e D q => q σ H M (.refl e)
theorem x_cont : Ex C tCont ρ (.ct ρ) := fun σ H M e D q => q σ H M (.refl e)
theorem x_brk : Ex C tBreak ρ (.bk ρ) := fun σ H M e D q => q σ H M (.refl e)
theorem x_ret {t : TE} {d : Dt} (h : Ev C p t ρ (.val d) ρ1) : Ex C (tRet t) ρ (.rt (.val d) ρ1) := fun σ H M e D q => h σ H M e _ fun v H1 M1 p1 r1 => q v σ H1 M1 p1.s r1
theorem x_retF {t : TE} {ds : List Dt} (h : Ev C p t ρ (.fr ds) ρ1) : Ex C (tRet t) ρ (.rt (.fr ds) ρ1) := fun σ H M e D q => h σ H M e _ fun v H1 M1 p1 ⟨a, vs, e1, e2, e3⟩ => q v σ H1 M1 p1.s ⟨a, vs, e1, fun z => e.fzd a z e2, e3⟩
/-- a list of its own is handed back -/
theorem x_retO {i : Nat} {ds : List Dt} (hi : ρ[i]? = some (some (.own ds))) (hp : C.np ≤ i) : Ex C (tRet (tVar i)) ρ (.rt (.fr ds) ρ) := fun σ H M e D q => by
  obtain ⟨a, vs, ha, hm, hl, hr⟩ := e.ownAt hi
  exact ⟨.ref a, ha, q _ σ H M (.refl e) ⟨a, vs, rfl, fun z => absurd ((e.fz i ds a hi ha).mp z) (Nat.not_lt.mpr hp), hm, hl, hr⟩⟩
theorem x_retN : Ex C tRetN ρ (.rt (.val .non) ρ) := fun σ H M e D q => q _ σ H M (.refl e) rfl
theorem xs_cons {t u : TS} (h1 : Ex C t ρ (.nx ρ1)) (h2 : Ex C u ρ1 o) : Ex C (tSeq t u) ρ o := fun σ H M e D q =>
  h1 σ H M e { D with nx := u D } fun s1 H1 M1 p1 => h2 s1 H1 M1 p1.env D (Ends.of e p1 q)
/-- the block ends there -/
def Out.stops : Out → Bool
  | .nx _ => false
  | _ => true
theorem xs_stop {t u : TS} (h1 : Ex C t ρ o) (hs : o.stops = true) : Ex C (tSeq t u) ρ o := fun σ H M e D q => by
  cases o with
  | nx r => cases hs
  | ct r => exact h1 σ H M e { D with nx := u D } q
  | bk r => exact h1 σ H M e { D with nx := u D } q
  | rt v r => exact h1 σ H M e { D with nx := u D } q
theorem x_if {c : TT} {t u : TS} {b : Bool} (h : EvT C p c ρ b ρ1) (h1 : b = true → Ex C t ρ1 o) (h0 : b = false → Ex C u ρ1 o) : Ex C (tIfS c t u) ρ o := fun σ H M e D q =>
  h σ H M e _ fun H1 M1 p1 => by
    cases b with
    | true => rw [if_pos rfl]; exact h1 rfl σ H1 M1 p1.env D (Ends.of e p1.s q)
    | false => rw [if_neg Bool.false_ne_true]; exact h0 rfl σ H1 M1 p1.env D (Ends.of e p1.s q)
theorem x_ifT {c : TT} {t u : TS} (h : EvT C p c ρ true ρ1) (h1 : Ex C t ρ1 o) : Ex C (tIfS c t u) ρ o := x_if h (fun _ => h1) fun z => nomatch z
theorem x_ifF {c : TT} {t u : TS} (h : EvT C p c ρ false ρ1) (h1 : Ex C u ρ1 o) : Ex C (tIfS c t u) ρ o := x_if h (fun z => nomatch z) fun _ => h1
/-- if c: (ends here); the rest -/
theorem xs_if {c : TT} {t u r : TS} {b : Bool} (h : EvT C p c ρ b ρ1) (h1 : b = true → Ex C t ρ1 o) (hs : o.stops = true) (h0 : b = false → Ex C u ρ1 (.nx ρ2)) (h2 : b = false → Ex C r ρ2 o) : Ex C (tSeq (tIfS c t u) r) ρ o := by
  cases b with
  | true => exact xs_stop (x_ifT h (h1 rfl)) hs
  | false => exact xs_cons (x_ifF h (h0 rfl)) (h2 rfl)

/-! ### while -/
inductive WhX (C : Cc) (c : TT) (tb : TS) : Nat → En → Out → Prop
  | stop {p : Bool} {ρ ρ1 : En} : EvT C p c ρ false ρ1 → WhX C c tb 0 ρ (.nx ρ1)
  | next {p : Bool} {n : Nat} {ρ ρ1 ρ2 : En} {o : Out} : EvT C p c ρ true ρ1 → Ex C tb ρ1 (.nx ρ2) → WhX C c tb n ρ2 o → WhX C c tb (n + 1) ρ o
  | cont {p : Bool} {n : Nat} {ρ ρ1 ρ2 : En} {o : Out} : EvT C p c ρ true ρ1 → Ex C tb ρ1 (.ct ρ2) → WhX C c tb n ρ2 o → WhX C c tb (n + 1) ρ o
  | brk {p : Bool} {ρ ρ1 ρ2 : En} : EvT C p c ρ true ρ1 → Ex C tb ρ1 (.bk ρ2) → WhX C c tb 0 ρ (.nx ρ2)
  | ret {p : Bool} {ρ ρ1 ρ2 : En} {r : R} : EvT C p c ρ true ρ1 → Ex C tb ρ1 (.rt r ρ2) → WhX C c tb 0 ρ (.rt r ρ2)
theorem x_while {c : TT} {tb : TS} {n : Nat} (h : WhX C c tb n ρ o) : Ex C (tWhile c tb) ρ o := fun σ H M e D q => by
  refine ⟨fun m σ1 H1 => ∃ M1 ρ1, WhX C c tb m ρ1 o ∧ PostS C σ ρ H M σ1 ρ1 H1 M1, ⟨n, M, ρ, h, .refl e⟩, ?_⟩
  rintro m σ1 H1 ⟨M1, ρ1, w, po⟩
  have q1 := Ends.of e po q
  cases w with
  | stop ht => exact ht σ1 H1 M1 po.env _ fun H2 M2 p2 => q1 σ1 H2 M2 p2.s
  | next ht hb w2 =>
    refine ht σ1 H1 M1 po.env _ fun H2 M2 p2 => ?_
    rw [if_pos rfl]
    refine ⟨fun σ3 H3 => ∃ M3, PostS C σ ρ H M σ3 _ H3 M3, fun σ3 H3 ⟨M3, p3⟩ => ⟨_, Nat.lt_succ_self _, M3, _, w2, p3⟩, ?_⟩
    exact hb σ1 H2 M2 p2.env _ fun σ3 H3 M3 p3 => ⟨M3, po.trans e (p2.s.trans po.env p3)⟩
  | cont ht hb w2 =>
    refine ht σ1 H1 M1 po.env _ fun H2 M2 p2 => ?_
    rw [if_pos rfl]
    refine ⟨fun σ3 H3 => ∃ M3, PostS C σ ρ H M σ3 _ H3 M3, fun σ3 H3 ⟨M3, p3⟩ => ⟨_, Nat.lt_succ_self _, M3, _, w2, p3⟩, ?_⟩
    exact hb σ1 H2 M2 p2.env _ fun σ3 H3 M3 p3 => ⟨M3, po.trans e (p2.s.trans po.env p3)⟩
  | brk ht hb =>
    refine ht σ1 H1 M1 po.env _ fun H2 M2 p2 => ?_
    rw [if_pos rfl]
    exact ⟨fun _ _ => False, fun _ _ z => z.elim, hb σ1 H2 M2 p2.env _ fun σ3 H3 M3 p3 => q1 σ3 H3 M3 (p2.s.trans po.env p3)⟩
  | ret ht hb =>
    refine ht σ1 H1 M1 po.env _ fun H2 M2 p2 => ?_
    rw [if_pos rfl]
    exact ⟨fun _ _ => False, fun _ _ z => z.elim, hb σ1 H2 M2 p2.env _ fun v σ3 H3 M3 p3 r3 => q1 v σ3 H3 M3 (p2.s.trans po.env p3) r3⟩
end
end B
/-! text BLoop -/
set_option Elab.async false
set_option linter.all false
set_option maxRecDepth 100000
set_option autoImplicit false
namespace B
open PySem PySem.Spec PyProof.Rows L2

/-! ### targets -/
/-- the target's slots lie in ts; the heap stays -/
def EvG (C : Cc) (g : TG) (ts : List Nat) (d : Dt) (ρ ρ' : En) : Prop :=
  ∀ σ H M v, EnvOk C H M σ ρ → Rep C.K H M d v → ∀ Q : L2.St → Hp → Prop, (∀ σ', EnvOk C H M σ' ρ' → (∀ a, Owned σ' ρ' a → Owned σ ρ a) → (∀ j, j ∉ ts → σ'[j]? = σ[j]?) → σ'.length = σ.length → Q σ' H) → g v σ H Q
def EvGs (C : Cc) (g : TGs) (ts : List Nat) (ds : List Dt) (ρ ρ' : En) : Prop :=
  ∀ σ H M vs, EnvOk C H M σ ρ → Reps C.K H M ds vs → ∀ Q : L2.St → Hp → Prop, (∀ σ', EnvOk C H M σ' ρ' → (∀ a, Owned σ' ρ' a → Owned σ ρ a) → (∀ j, j ∉ ts → σ'[j]? = σ[j]?) → σ'.length = σ.length → Q σ' H) → g vs σ H Q
section
variable {C : Cc} {p : Bool} {σ σ' σ2 : L2.St} {ρ ρ' ρ1 ρ2 ρ3 : En} {H H' H2 : Hp} {M M' M2 : MS} {o : Out}
theorem owned_set {i : Nat} {d : Dt} {v : V} (hi : i < ρ.length) (hs : i < σ.length) (a : Addr) (h : Owned (σ.set i (some v)) (ρ.set i (some (.val d))) a) : Owned σ ρ a := by
  obtain ⟨j, ds, h1, h2⟩ := h
  rw [getElem?_set_some hi] at h1
  rw [getElem?_set_some hs] at h2
  by_cases z : j = i
  · rw [if_pos z] at h1; cases h1
  · rw [if_neg z] at h1 h2; exact ⟨j, ds, h1, h2⟩
theorem g_name {i : Nat} {d : Dt} (hi : i < ρ.length) : EvG C (gName i) [i] d ρ (ρ.set i (some (.val d))) := fun σ H M v e r Q q => by
  refine q _ (e.set hi r).env (owned_set hi (by rw [← e.len]; exact hi)) (fun j hj => ?_) (List.length_set)
  rw [List.getElem?_set_ne fun z => hj (by rw [z]; exact List.mem_singleton_self _)]
theorem gs_nil : EvGs C gNil [] [] ρ ρ := fun σ H M vs e r Q q => ⟨r, q σ e (fun _ z => z) (fun _ _ => rfl) rfl⟩
theorem gs_cons {g : TG} {gs : TGs} {ts us : List Nat} {d : Dt} {ds : List Dt} (h : EvG C g ts d ρ ρ1) (h2 : EvGs C gs us ds ρ1 ρ2) : EvGs C (gCons g gs) (ts ++ us) (d :: ds) ρ ρ2 := fun σ H M vs e r Q q => by
  obtain ⟨v, w, e1, r1, r2⟩ := r
  refine ⟨v, w, e1, h σ H M v e r1 _ fun s1 p1 o1 k1 l1 => ?_⟩
  exact h2 s1 H M w p1 r2 Q fun s2 p2 o2 k2 l2 => q s2 p2 (fun a z => o1 a (o2 a z)) (fun j hj => (k2 j fun z => hj (List.mem_append_right _ z)).trans (k1 j fun z => hj (List.mem_append_left _ z))) (l2.trans l1)
theorem g_tup {gs : TGs} {ts : List Nat} {ds : List Dt} {n : Nat} (h : EvGs C gs ts ds ρ ρ1) (hn : ds.length = n := by rfl) : EvG C (gTup C.K n gs) ts (.tup ds) ρ ρ1 := fun σ H M v e r Q q => by
  obtain ⟨a, vs, e1, e2, e3⟩ := r
  exact ⟨a, vs, e1, e2, e3.length.trans hn, h σ H M vs e e3 Q q⟩
theorem posts_g (e : EnvOk C H M σ ρ) (e' : EnvOk C H M σ' ρ') (h : ∀ a, Owned σ' ρ' a → Owned σ ρ a) : PostS C σ ρ H M σ' ρ' H M := ⟨e', .refl, fun a z => .inl (h a z)⟩
theorem x_asg {t : TE} {g : TG} {ts : List Nat} {d : Dt} (h : Ev C p t ρ (.val d) ρ1) (hg : EvG C g ts d ρ1 ρ2) : Ex C (tAsg t g) ρ (.nx ρ2) := fun σ H M e D q =>
  h σ H M e _ fun v H1 M1 p1 r1 => hg σ H1 M1 v p1.env r1 _ fun s2 e2 o2 _ _ => q s2 H1 M1 (p1.s.trans e (posts_g p1.env e2 o2))
/-- a, b = x, y -/
theorem x_par {i j : Nat} {t : TA} {d1 d2 : Dt} (h : EvA C p t ρ [d1, d2] ρ1) (hi : i < ρ1.length) (hj : j < ρ1.length) : Ex C (tPar i j t) ρ (.nx ((ρ1.set i (some (.val d1))).set j (some (.val d2)))) := fun σ H M e D q =>
  h σ H M e _ fun vs H1 M1 p1 r1 => by
    obtain ⟨v, r, e1, h1, w, r2, e2, h2, h3⟩ := r1
    refine ⟨v, w, by rw [e1, e2, show r2 = [] from h3], ?_⟩
    have q1 := p1.env.set hi h1
    have q2 := q1.env.set (i := j) (by rw [List.length_set]; exact hj) (Rep.mono p1.env.mok q1.nxt h2)
    exact q _ H1 M1 (p1.s.trans e (q1.trans p1.env q2))

/-! ### what is walked -/
/-- the data that come, one a turn -/
structure Src (K : PySem.W.Frag) (J : It) (ds : List Dt) (G : Hp → Prop) (Y : Nat → Hp → V → Hp → Prop) (Kp : Hp → MS → Prop) : Prop where
  walk : Walk J ds.length G Y
  here : ∀ H M, Kp H M → G H
  stay : ∀ O H M H' M', MOk H M → Kp H M → Nxt O H M H' M' → Kp H' M'
  item : ∀ i H M x H' d, MOk H M → Kp H M → ds[i]? = some d → Y i H x H' → ∃ M', Nxt NoO H M H' M' ∧ MOk H' M' ∧ Rep K H' M' d x
def EvI (C : Cc) (p : Bool) (wi : TI) (ρ : En) (ds : List Dt) (ρ' : En) : Prop :=
  ∀ σ H M, EnvOk C H M σ ρ → ∀ R : It → Hp → Prop, (∀ J G Y Kp H' M', Post C p σ ρ H M ρ' H' M' → Src C.K J ds G Y Kp → Kp H' M' → R J H') → wi σ H R
theorem src_list {K : PySem.W.Frag} {a : Addr} {vs : List V} {ds : List Dt} (hl : vs.length = ds.length) :
    Src K (Itl K a) ds (fun H => SqL K H a vs) (YAt vs) (fun H M => RoL K H M a vs ∧ Reps K H M ds vs) where
  walk := hl ▸ walk_list
  here := fun H M h => h.1.sqL
  stay := fun O H M H' M' mok h n => ⟨h.1.keep n, Reps.mono mok n h.2⟩
  item := fun i H M x H' d mok h e y => by
    obtain ⟨e1, e2⟩ := y
    subst e1
    obtain ⟨v, h1, h2⟩ := h.2.get e
    rw [e2] at h1
    cases h1
    exact ⟨M, .refl, mok, h2⟩
theorem src_tup {K : PySem.W.Frag} {a : Addr} {vs : List V} {ds : List Dt} (hl : vs.length = ds.length) :
    Src K (Itt K a) ds (fun H => SqT K H a vs) (YAt vs) (fun H M => SqT K H a vs ∧ Reps K H M ds vs) where
  walk := hl ▸ walk_tup
  here := fun H M h => h.1
  stay := fun O H M H' M' mok h n => ⟨sqT_keep mok n h.1, Reps.mono mok n h.2⟩
  item := fun i H M x H' d mok h e y => by
    obtain ⟨e1, e2⟩ := y
    subst e1
    obtain ⟨v, h1, h2⟩ := h.2.get e
    rw [e2] at h1
    cases h1
    exact ⟨M, .refl, mok, h2⟩
theorem i_list {tl : TE} {ds : List Dt} (h : Ev C p tl ρ (.val (.lst ds)) ρ1) : EvI C p (iList C.K tl) ρ ds ρ1 := fun σ H M e R q =>
  h σ H M e _ fun v H1 M1 p1 ⟨a, vs, e1, e2, e3, e4⟩ => ⟨a, e1, ⟨vs, .of e3⟩, q _ _ _ _ H1 M1 p1 (src_list e4.length) ⟨.inl ⟨e2, .inl e3⟩, e4⟩⟩
theorem i_ro {tl : TE} {ds : List Dt} (h : Ev C p tl ρ (.val (.ro ds)) ρ1) : EvI C p (iList C.K tl) ρ ds ρ1 := fun σ H M e R q =>
  h σ H M e _ fun v H1 M1 p1 ⟨a, vs, e1, e2, e3⟩ => ⟨a, e1, ⟨vs, e2.sqL⟩, q _ _ _ _ H1 M1 p1 (src_list e3.length) ⟨e2, e3⟩⟩
theorem i_tup {tl : TE} {ds : List Dt} (h : Ev C p tl ρ (.val (.tup ds)) ρ1) : EvI C p (iTup C.K tl) ρ ds ρ1 := fun σ H M e R q =>
  h σ H M e _ fun v H1 M1 p1 ⟨a, vs, e1, e2, e3⟩ => ⟨a, e1, ⟨vs, e2⟩, q _ _ _ _ H1 M1 p1 (src_tup e3.length) ⟨e2, e3⟩⟩
/-- 0, 1, .. as data -/
def upto (n : Nat) : List Dt := (List.range n).map fun k => Dt.int (k : Nat)
theorem src_range {K : PySem.W.Frag} {lo : Int} {n : Nat} : Src K (Itr lo n) ((List.range n).map fun k => Dt.int (lo + (k : Nat))) (fun _ => True) (YFn fun i => .int (lo + i)) (fun _ _ => True) where
  walk := by rw [List.length_map, List.length_range]; exact walk_range
  here := fun _ _ _ => trivial
  stay := fun _ _ _ _ _ _ _ _ => trivial
  item := fun i H M x H' d mok _ e y => by
    obtain ⟨e1, e2⟩ := y
    subst e1
    refine ⟨M, .refl, mok, ?_⟩
    rw [List.getElem?_map] at e
    cases q : (List.range n)[i]? with
    | none => rw [q] at e; cases e
    | some k =>
      rw [q] at e
      cases e
      obtain ⟨h1, h2⟩ := List.getElem?_eq_some_iff.mp q
      rw [List.getElem_range] at h2
      rw [e2, h2]
      rfl
theorem i_rng1 {t : TA} {j : Int} (h : EvA C p t ρ [.int j] ρ1) (h0 : -(2 ^ 62) ≤ j) (h1 : j < 2 ^ 62) : EvI C p (iRng1 t) ρ (upto j.toNat) ρ1 := fun σ H M e R q =>
  h σ H M e _ fun vs H1 M1 p1 ⟨v, r, e1, e2, e3⟩ => ⟨j, by rw [e1, show r = [] from e3, show v = V.int j from e2], h0, h1, by
    have s := src_range (K := C.K) (lo := 0) (n := j.toNat)
    have e : ((List.range j.toNat).map fun k => Dt.int ((0 : Int) + (k : Nat))) = upto j.toNat := by
      unfold upto
      exact List.map_congr_left fun a _ => by rw [Int.zero_add]
    rw [e] at s
    exact q _ _ _ _ H1 M1 p1 s trivial⟩
theorem i_rng2 {t : TA} {i j : Int} (h : EvA C p t ρ [.int i, .int j] ρ1) (hb : -(2 ^ 62) ≤ i ∧ i < 2 ^ 62 ∧ -(2 ^ 62) ≤ j ∧ j < 2 ^ 62) : EvI C p (iRng2 t) ρ ((List.range (j - i).toNat).map fun k => Dt.int (i + (k : Nat))) ρ1 := fun σ H M e R q =>
  h σ H M e _ fun vs H1 M1 p1 ⟨v, r, e1, e2, v2, r2, f1, f2, f3⟩ => ⟨i, j, by rw [e1, f1, show r2 = [] from f3, show v = V.int i from e2, show v2 = V.int j from f2], hb, q _ _ _ _ H1 M1 p1 src_range trivial⟩
/-- pairs -/
def pairs (xs ys : List Dt) : List Dt := List.zipWith (fun x y => Dt.tup [x, y]) xs ys
theorem src_pair {K : PySem.W.Frag} {J : It} {xs ys : List Dt} {fx fy : Nat → Option V} {G : Hp → Prop} {Kp : Hp → MS → Prop} (w : Walk J (pairs xs ys).length G (YPair fx fy)) (hh : ∀ H M, Kp H M → G H)
    (hs : ∀ O H M H' M', MOk H M → Kp H M → Nxt O H M H' M' → Kp H' M') (h1 : ∀ i H M x d, Kp H M → xs[i]? = some d → fx i = some x → Rep K H M d x) (h2 : ∀ i H M x d, Kp H M → ys[i]? = some d → fy i = some x → Rep K H M d x) :
    Src K J (pairs xs ys) G (YPair fx fy) Kp where
  walk := w
  here := hh
  stay := hs
  item := fun i H M x H' d mok h e y => by
    obtain ⟨T, u, v, e1, e2, e3, e4, e5⟩ := y
    obtain ⟨d1, d2, q1, q2, q3⟩ := List.getElem?_zipWith_eq_some.mp e
    obtain ⟨n, mok'⟩ := nxt_new (o := .tup [u, v]) mok e2
    subst e3
    refine ⟨M, n, mok', ?_⟩
    rw [← q3, e1]
    exact ⟨T, [u, v], rfl, .of upd_same, u, [v], rfl, Rep.mono mok n (h1 i H M u d1 h q1 e4), v, [], rfl, Rep.mono mok n (h2 i H M v d2 h q2 e5), rfl⟩
theorem i_zipL {t : TA} {xs ys : List Dt} (h : EvA C p t ρ [.lst xs, .lst ys] ρ1) : EvI C p (RZ.iZipA C.K t) ρ (pairs xs ys) ρ1 := fun σ H M e R q =>
  h σ H M e _ fun vs H1 M1 p1 ⟨v, r, e1, ⟨a, us, a1, a2, a3, a4⟩, v2, r2, f1, ⟨b, ws, b1, b2, b3, b4⟩, f3⟩ => by
    refine ⟨a, b, us, ws, by rw [e1, f1, show r2 = [] from f3, a1, b1], .inl ⟨.of a3, .of b3, ?_⟩⟩
    refine q (Itz C.K a b) (fun H => SqL C.K H a us ∧ SqL C.K H b ws) _ (fun H M => (RoL C.K H M a us ∧ Reps C.K H M xs us) ∧ RoL C.K H M b ws ∧ Reps C.K H M ys ws) H1 M1 p1 (src_pair (fx := fun i => us[i]?) (fy := fun i => ws[i]?) (walk_zip (by unfold pairs; rw [List.length_zipWith, a4.length, b4.length])) (fun H M k => ⟨k.1.1.sqL, k.2.1.sqL⟩) (fun O H M H' M' mok k n => ⟨⟨k.1.1.keep n, Reps.mono mok n k.1.2⟩, k.2.1.keep n, Reps.mono mok n k.2.2⟩) (fun i H M x d k e1 e2 => ?_) (fun i H M x d k e1 e2 => ?_)) ⟨⟨.inl ⟨a2, .inl a3⟩, a4⟩, .inl ⟨b2, .inl b3⟩, b4⟩
    · obtain ⟨z, z1, z2⟩ := k.1.2.get e1
      rw [e2] at z1; cases z1; exact z2
    · obtain ⟨z, z1, z2⟩ := k.2.2.get e1
      rw [e2] at z1; cases z1; exact z2
theorem walk_zipT {K : PySem.W.Frag} {a b : Addr} {xs ys : List V} {n : Nat} (hn : n = min xs.length ys.length) : Walk (RZ.ItzT K a b) n (fun H => SqT K H a xs ∧ SqT K H b ys) (YPair (fun i => xs[i]?) (fun i => ys[i]?)) := by
  subst hn
  refine ⟨fun i _ hi q => ?_, fun _ q => ⟨xs, ys, q.1, q.2, by omega⟩, fun i H v H' _ q y => ?_⟩
  · have h1 : i < xs.length := by omega
    have h2 : i < ys.length := by omega
    exact ⟨xs, ys, xs[i], ys[i], q.1, q.2, by simp [h1], by simp [h2]⟩
  · obtain ⟨T, x, z, h1, h2, h3, h4, h5⟩ := y
    exact ⟨T, x, z, h1, h2, h3, h4 xs q.1, h5 ys q.2⟩
theorem i_zipT {t : TA} {xs ys : List Dt} (h : EvA C p t ρ [.tup xs, .tup ys] ρ1) : EvI C p (RZ.iZipA C.K t) ρ (pairs xs ys) ρ1 := fun σ H M e R q =>
  h σ H M e _ fun vs H1 M1 p1 ⟨v, r, e1, ⟨a, us, a1, a3, a4⟩, v2, r2, f1, ⟨b, ws, b1, b3, b4⟩, f3⟩ => by
    refine ⟨a, b, us, ws, by rw [e1, f1, show r2 = [] from f3, a1, b1], .inr ⟨a3, b3, ?_⟩⟩
    refine q (RZ.ItzT C.K a b) (fun H => SqT C.K H a us ∧ SqT C.K H b ws) _ (fun H M => (SqT C.K H a us ∧ Reps C.K H M xs us) ∧ SqT C.K H b ws ∧ Reps C.K H M ys ws) H1 M1 p1 (src_pair (fx := fun i => us[i]?) (fy := fun i => ws[i]?) (walk_zipT (by unfold pairs; rw [List.length_zipWith, a4.length, b4.length])) (fun H M k => ⟨k.1.1, k.2.1⟩) (fun O H M H' M' mok k n => ⟨⟨sqT_keep mok n k.1.1, Reps.mono mok n k.1.2⟩, sqT_keep mok n k.2.1, Reps.mono mok n k.2.2⟩) (fun i H M x d k e1 e2 => ?_) (fun i H M x d k e1 e2 => ?_)) ⟨⟨a3, a4⟩, b3, b4⟩
    · obtain ⟨z, z1, z2⟩ := k.1.2.get e1
      rw [e2] at z1; cases z1; exact z2
    · obtain ⟨z, z1, z2⟩ := k.2.2.get e1
      rw [e2] at z1; cases z1; exact z2
theorem upto_get {n i : Nat} {d : Dt} (h : (upto n)[i]? = some d) : d = .int (i : Nat) := by
  unfold upto at h
  rw [List.getElem?_map] at h
  cases q : (List.range n)[i]? with
  | none => rw [q] at h; cases h
  | some k =>
    rw [q] at h
    cases h
    obtain ⟨h1, h2⟩ := List.getElem?_eq_some_iff.mp q
    rw [List.getElem_range] at h2
    rw [h2]
theorem i_enum {t : TA} {xs : List Dt} (h : EvA C p t ρ [.lst xs] ρ1) : EvI C p (iEnum C.K t) ρ (pairs (upto xs.length) xs) ρ1 := fun σ H M e R q =>
  h σ H M e _ fun vs H1 M1 p1 ⟨v, r, e1, ⟨a, us, a1, a2, a3, a4⟩, f3⟩ => by
    refine ⟨a, us, by rw [e1, show r = [] from f3, a1], .of a3, ?_⟩
    have hn : (pairs (upto xs.length) xs).length = us.length := by
      unfold pairs upto
      rw [List.length_zipWith, List.length_map, List.length_range, a4.length, Nat.min_self]
    refine q (Ite C.K a) (fun H => SqL C.K H a us) _ (fun H M => RoL C.K H M a us ∧ Reps C.K H M xs us) H1 M1 p1 (src_pair (fx := fun i => some (.int (i : Nat))) (fy := fun i => us[i]?) (hn ▸ walk_enum) (fun H M k => k.1.sqL) (fun O H M H' M' mok k n => ⟨k.1.keep n, Reps.mono mok n k.2⟩) (fun i H M x d k e1 e2 => ?_) (fun i H M x d k e1 e2 => ?_)) ⟨.inl ⟨a2, .inl a3⟩, a4⟩
    · rw [upto_get e1]
      cases e2
      rfl
    · obtain ⟨z, z1, z2⟩ := k.2.get e1
      rw [e2] at z1; cases z1; exact z2

/-! ### for -/
/-- the turns of a loop over these data -/
def ForX (step : Dt → En → Out → Prop) : List Dt → En → Out → Prop
  | [], ρ, o => o = .nx ρ
  | d :: ds, ρ, o => (∃ ρ', (step d ρ (.nx ρ') ∨ step d ρ (.ct ρ')) ∧ ForX step ds ρ' o) ∨ (∃ ρ', step d ρ (.bk ρ') ∧ o = .nx ρ') ∨ (∃ r ρ', step d ρ (.rt r ρ') ∧ o = .rt r ρ')
theorem getElem?_of_drop {ds : List Dt} {i : Nat} {d : Dt} {r : List Dt} (h : ds.drop i = d :: r) : ds[i]? = some d ∧ ds.drop (i + 1) = r := by
  constructor
  · have : (ds.drop i)[0]? = some d := by rw [h]; rfl
    rw [List.getElem?_drop] at this
    simpa using this
  · have e : ds.drop (i + 1) = (ds.drop i).drop 1 := by rw [List.drop_drop]
    rw [e, h]
    rfl
/-- one turn -/
def TurnX (C : Cc) (g : TG) (tb : TS) (d : Dt) (ρ : En) (o : Out) : Prop := ∃ ts ρ', EvG C g ts d ρ ρ' ∧ Ex C tb ρ' o
theorem turn {g : TG} {tb : TS} {ts : List Nat} {d : Dt} (hg : EvG C g ts d ρ ρ1) (hb : Ex C tb ρ1 o) : TurnX C g tb d ρ o := ⟨ts, ρ1, hg, hb⟩
theorem x_for {wi : TI} {g : TG} {tb : TS} {ds : List Dt} (hi : EvI C p wi ρ ds ρ1) (h : ForX (TurnX C g tb) ds ρ1 o) : Ex C (tFor wi g tb) ρ o := fun σ H M e D q =>
  hi σ H M e _ fun J G Y Kp H1 M1 p1 s k => by
    have q1 := Ends.of e p1.s q
    refine for_it s.walk (fun i σ2 H2 => ∃ M2 ρ2, PostS C σ ρ1 H1 M1 σ2 ρ2 H2 M2 ∧ Kp H2 M2 ∧ ForX (TurnX C g tb) (ds.drop i) ρ2 o) ⟨M1, ρ1, .refl p1.env, k, h⟩ (fun i σ2 H2 _ ⟨M2, _, _, k2, _⟩ => s.here H2 M2 k2) ?_ ?_
    · rintro i x σ2 H2 H3 hlt ⟨M2, ρ2, p2, k2, f2⟩ y
      cases hd : ds.drop i with
      | nil =>
        have := congrArg List.length hd
        rw [List.length_drop, List.length_nil] at this
        omega
      | cons d r =>
        obtain ⟨ei, er⟩ := getElem?_of_drop hd
        obtain ⟨M3, n3, mok3, r3⟩ := s.item i H2 M2 x H3 d p2.env.mok k2 ei y
        have p3 := p2.env.step (p := true) n3 mok3
        have p23 := p2.trans p1.env p3.s
        have k3 := s.stay _ _ _ _ _ p2.env.mok k2 n3
        rw [hd] at f2
        rcases f2 with ⟨ρ', hs, hf⟩ | ⟨ρ', hs, ho⟩ | ⟨rv, ρ', hs, ho⟩
        · rcases hs with ⟨_, ρ4, hg, hb⟩ | ⟨_, ρ4, hg, hb⟩
          · refine hg σ2 H3 M3 x p3.env r3 _ fun σ4 e4 o4 _ _ => ?_
            have p4 := posts_g p3.env e4 o4
            refine hb σ4 H3 M3 p4.env _ fun σ5 H5 M5 p5 => ?_
            have p45 := p4.trans p3.env p5
            exact ⟨M5, ρ', p23.trans p1.env p45, s.stay _ _ _ _ _ mok3 k3 p45.nxt, er ▸ hf⟩
          · refine hg σ2 H3 M3 x p3.env r3 _ fun σ4 e4 o4 _ _ => ?_
            have p4 := posts_g p3.env e4 o4
            refine hb σ4 H3 M3 p4.env _ fun σ5 H5 M5 p5 => ?_
            have p45 := p4.trans p3.env p5
            exact ⟨M5, ρ', p23.trans p1.env p45, s.stay _ _ _ _ _ mok3 k3 p45.nxt, er ▸ hf⟩
        · obtain ⟨_, ρ4, hg, hb⟩ := hs
          subst ho
          refine hg σ2 H3 M3 x p3.env r3 _ fun σ4 e4 o4 _ _ => ?_
          have p4 := posts_g p3.env e4 o4
          refine hb σ4 H3 M3 p4.env _ fun σ5 H5 M5 p5 => ?_
          exact q1 σ5 H5 M5 (p23.trans p1.env (p4.trans p3.env p5))
        · obtain ⟨_, ρ4, hg, hb⟩ := hs
          subst ho
          refine hg σ2 H3 M3 x p3.env r3 _ fun σ4 e4 o4 _ _ => ?_
          have p4 := posts_g p3.env e4 o4
          refine hb σ4 H3 M3 p4.env _ fun v σ5 H5 M5 p5 r5 => ?_
          exact q1 v σ5 H5 M5 (p23.trans p1.env (p4.trans p3.env p5)) r5
    · rintro σ2 H2 ⟨M2, ρ2, p2, k2, f2⟩
      rw [List.drop_length] at f2
      rw [show o = .nx ρ2 from f2] at q1
      exact q1 σ2 H2 M2 p2
end
end B
/-! text BFun -/
set_option Elab.async false
set_option linter.all false
set_option maxRecDepth 100000
set_option autoImplicit false
namespace B
open PySem PySem.Spec PyProof.Rows L2
section
variable {C : Cc} {p : Bool} {σ σ' σ2 : L2.St} {ρ ρ' ρ1 ρ2 ρ3 : En} {H H' H2 : Hp} {M M' M2 : MS} {o : Out}
/-! ### comprehensions -/
def wipeE (ρ : En) : List Nat → En
  | [] => ρ
  | v :: vs => (wipeE ρ vs).set v none
theorem wipeE_length (ρ : En) : ∀ vs : List Nat, (wipeE ρ vs).length = ρ.length
  | [] => rfl
  | v :: vs => by unfold wipeE; rw [List.length_set, wipeE_length ρ vs]
theorem wipeE_some {i : Nat} {x : Slot} : ∀ {vs : List Nat}, (wipeE ρ vs)[i]? = some (some x) → ρ[i]? = some (some x) ∧ i ∉ vs
  | [], h => ⟨h, by simp⟩
  | v :: vs, h => by
    unfold wipeE at h
    by_cases hi : v = i
    · subst hi
      by_cases hv : v < (wipeE ρ vs).length
      · rw [List.getElem?_set_self hv] at h; cases h
      · rw [List.getElem?_eq_none (by simpa using hv)] at h; cases h
    · rw [List.getElem?_set_ne hi] at h
      obtain ⟨h1, h2⟩ := wipeE_some h
      exact ⟨h1, by simp only [List.mem_cons, not_or]; exact ⟨fun e => hi e.symm, h2⟩⟩
theorem wipe_in {i : Nat} : ∀ {vs : List Nat}, i ∈ vs → (wipe σ vs)[i]? = if i < σ.length then some none else none
  | [], h => by cases h
  | v :: vs, h => by
    unfold wipe
    by_cases hi : v = i
    · subst hi
      by_cases hv : v < σ.length
      · rw [if_pos hv, List.getElem?_set_self (by rw [wipe_length]; exact hv)]
      · rw [if_neg hv, List.getElem?_eq_none (by rw [List.length_set, wipe_length]; omega)]
    · rw [List.getElem?_set_ne hi]
      exact wipe_in (by rcases List.mem_cons.mp h with z | z; exact absurd z.symm hi; exact z)
theorem wipe_out' {i : Nat} : ∀ {vs : List Nat}, i ∉ vs → (wipe σ vs)[i]? = σ[i]?
  | [], _ => rfl
  | v :: vs, h => by
    unfold wipe
    rw [List.getElem?_set_ne fun z => h (by rw [z]; exact List.mem_cons_self ..)]
    exact wipe_out' fun z => h (List.mem_cons_of_mem _ z)
theorem wipe_eq {vs : List Nat} (hl : σ'.length = σ.length) (h : ∀ j, j ∉ vs → σ'[j]? = σ[j]?) : wipe σ' vs = wipe σ vs := by
  apply List.ext_getElem?
  intro j
  by_cases hj : j ∈ vs
  · rw [wipe_in hj, wipe_in hj, hl]
  · rw [wipe_out' hj, wipe_out' hj, h j hj]
theorem EnvOk.wipe {vs : List Nat} (e : EnvOk C H M σ ρ) : EnvOk C H M (L2.wipe σ vs) (wipeE ρ vs) := by
  refine ⟨e.mok, by rw [wipeE_length, wipe_length]; exact e.len, fun i s h => ?_, fun i j s t a h1 h2 h3 h4 => ?_, fun i s a h1 h2 => ?_, e.fzd⟩
  · obtain ⟨h1, h2⟩ := wipeE_some h
    rw [wipe_out' h2]
    exact e.get i s h1
  · obtain ⟨a1, a2⟩ := wipeE_some h1
    obtain ⟨b1, b2⟩ := wipeE_some h2
    rw [wipe_out' a2] at h3
    rw [wipe_out' b2] at h4
    exact e.dist i j s t a a1 b1 h3 h4
  · obtain ⟨a1, a2⟩ := wipeE_some h1
    rw [wipe_out' a2] at h2
    exact e.fz i s a a1 h2
theorem owned_wipe {vs : List Nat} {a : Addr} (h : Owned (L2.wipe σ vs) (wipeE ρ vs) a) : Owned σ ρ a := by
  obtain ⟨i, ds, h1, h2⟩ := h
  obtain ⟨a1, a2⟩ := wipeE_some h1
  rw [wipe_out' a2] at h2
  exact ⟨i, ds, a1, h2⟩
/-- behind a turn: the comprehension's own slots as they were ahead, the others as they are -/
def BackE (vs : List Nat) (ρ ρ3 ρn : En) : Prop := ρn.length = ρ.length ∧ (∀ j, j ∈ vs → ρn[j]? = ρ[j]? ∧ ∀ ds, ρ[j]? ≠ some (some (.own ds))) ∧ ∀ j, j ∉ vs → ρn[j]? = ρ3[j]?
theorem back_owned {vs : List Nat} {ρn : En} (b : BackE vs ρ ρ3 ρn) (hs : ∀ j, j ∉ vs → σ'[j]? = σ[j]?) {a : Addr} (h : Owned σ ρn a) : Owned σ' ρ3 a := by
  obtain ⟨i, ds, h1, h2⟩ := h
  by_cases z : i ∈ vs
  · rw [(b.2.1 i z).1] at h1
    exact absurd h1 ((b.2.1 i z).2 ds)
  · rw [b.2.2 i z] at h1
    exact ⟨i, ds, h1, by rw [hs i z]; exact h2⟩
theorem EnvOk.back {vs : List Nat} {ρn : En} {O : MS} (e : EnvOk C H M σ ρ) (e' : EnvOk C H' M' σ' ρ3) (n : Nxt O H M H' M') (b : BackE vs ρ ρ3 ρn) (hs : ∀ j, j ∉ vs → σ'[j]? = σ[j]?) : EnvOk C H' M' σ ρn := by
  have key : ∀ (i : Nat) (ds : List Dt), ρn[i]? = some (some (.own ds)) → i ∉ vs ∧ ρ3[i]? = some (some (.own ds)) := fun i ds h => by
    by_cases z : i ∈ vs
    · rw [(b.2.1 i z).1] at h
      exact absurd h ((b.2.1 i z).2 ds)
    · exact ⟨z, by rw [← b.2.2 i z]; exact h⟩
  refine ⟨e'.mok, b.1.trans e.len, fun i s h => ?_, fun i j s t a h1 h2 h3 h4 => ?_, fun i s a h1 h2 => ?_, e'.fzd⟩
  · by_cases z : i ∈ vs
    · rw [(b.2.1 i z).1] at h
      obtain ⟨v, q1, q2⟩ := e.get i s h
      refine ⟨v, q1, ?_⟩
      cases s with
      | val d => exact Rep.mono e.mok n q2
      | own ds => exact absurd h ((b.2.1 i z).2 ds)
    · rw [b.2.2 i z] at h
      rw [← hs i z]
      exact e'.get i s h
  · obtain ⟨a1, a2⟩ := key i s h1
    obtain ⟨b1, b2⟩ := key j t h2
    exact e'.dist i j s t a a2 b2 (by rw [hs i a1]; exact h3) (by rw [hs j b1]; exact h4)
  · obtain ⟨a1, a2⟩ := key i s h1
    exact e'.fz i s a a2 (by rw [hs i a1]; exact h2)
/-- a marked list that no slot owns is written -/
theorem EnvOk.poke {a : Addr} {us : List V} (e : EnvOk C H M σ ρ) (hm : M a) (hn : ¬ Owned σ ρ a) : EnvOk C (upd H a (.lst us)) M σ ρ := by
  have n : Nxt (· = a) H M (upd H a (.lst us)) M := ⟨fun b u q z => by rw [upd_ne fun y => z (by rw [y]; exact hm)]; exact q, fun _ q _ => q, fun _ q => .inl q, fun b q z => upd_ne z, fun b q => by
    by_cases z : b = a
    · rw [z, upd_same]; exact fun y => nomatch y
    · rw [upd_ne z]; exact q⟩
  refine ⟨fun b q => ?_, e.len, fun i s q => ?_, e.dist, e.fz, fun b q => n.dom b (e.fzd b q)⟩
  · by_cases z : b = a
    · rw [z, upd_same]; exact ⟨.l us, rfl⟩
    · rw [upd_ne z]; exact e.mok b q
  · obtain ⟨v, h1, h2⟩ := e.get i s q
    refine ⟨v, h1, ?_⟩
    cases s with
    | val d => exact Rep.mono e.mok n h2
    | own ds =>
      obtain ⟨b, vs, e1, e2, e3, e4⟩ := h2
      subst e1
      exact ⟨b, vs, rfl, e2, by rw [upd_ne fun y => hn (by rw [← y]; exact ⟨i, ds, q, h1⟩)]; exact e3, Reps.mono e.mok n e4⟩
theorem Reps.poke {K : PySem.W.Frag} {a : Addr} {us : List V} {ds : List Dt} {vs : List V} (mok : MOk H M) (hm : M a) (h : Reps K H M ds vs) : Reps K (upd H a (.lst us)) M ds vs :=
  Reps.mono (O := (· = a)) mok ⟨fun b u q z => by rw [upd_ne fun y => z (by rw [y]; exact hm)]; exact q, fun _ q _ => q, fun _ q => .inl q, fun b q z => upd_ne z, fun b q => by
    by_cases z : b = a
    · rw [z, upd_same]; exact fun y => nomatch y
    · rw [upd_ne z]; exact q⟩ h
def LcX (C : Cc) (p : Bool) (g : TG) (ts : List Nat) (tt : TT) (te : TE) (vs : List Nat) : List Dt → En → List Dt → En → Prop
  | [], ρ, ys, ρ' => ys = [] ∧ ρ' = ρ
  | d :: ds, ρ, ys, ρ' => ∃ ρ1 b ρ2 ρn, EvG C g ts d (wipeE ρ vs) ρ1 ∧ EvT C p tt ρ1 b ρ2 ∧
      ((b = true ∧ ∃ y ρ3 ys', Ev C p te ρ2 (.val y) ρ3 ∧ BackE vs ρ ρ3 ρn ∧ ys = y :: ys' ∧ LcX C p g ts tt te vs ds ρn ys' ρ') ∨ (b = false ∧ BackE vs ρ ρ2 ρn ∧ LcX C p g ts tt te vs ds ρn ys ρ'))
theorem Nxt.poke {O : MS} {a : Addr} {us : List V} (mok : MOk H M) (n : Nxt O H M H' M') (h : H a = none) : Nxt O H M (upd H' a (.lst us)) M' := by
  have ne : ∀ b, H b ≠ none → b ≠ a := fun b q z => by rw [z] at q; exact q h
  refine ⟨fun b u q z => ?_, n.keep, n.fresh, fun b q z => ?_, fun b q => ?_⟩
  · rw [upd_ne (ne b (by rw [q]; exact fun y => nomatch y))]; exact n.fix b u q z
  · rw [upd_ne (ne b (by obtain ⟨xs, e⟩ := mok b q; rw [e]; exact fun y => nomatch y))]; exact n.oth b q z
  · rw [upd_ne (ne b q)]; exact n.dom b q
/-- D stands and nobody here owns it -/
theorem oth_of {O : MS} (n : Nxt O H M H' M') {a : Addr} (hm : M a) (ho : ¬ O a) : M' a ∧ H' a = H a := ⟨n.keep a hm ho, n.oth a hm ho⟩
theorem e_lc {wi : TI} {g : TG} {tt : TT} {te : TE} {ts vs : List Nat} {ds ys : List Dt} (hi : EvI C p wi ρ ds ρ1) (hx : LcX C p g ts tt te vs ds ρ1 ys ρ') (ht : ∀ j ∈ ts, j ∈ vs) (hz : ds.length < sizeLine) :
    Ev C p (tLc wi g tt te vs) ρ (.fr ys) ρ' := fun σ H M e Q q =>
  hi σ H M e _ fun J G Y Kp H1 M1 p1 s k D hD => by
    have no_ : ∀ {ρ : En} {a : Addr}, ¬ Owned σ ρ a → ¬ Ow p σ ρ a := fun h z => h z.2
    have e0 := p1.env.newM (p := p) (vs := []) hD
    refine lc_it s.walk (fun i H2 => ∃ M2 ρ2 acc accV ys1, Post C p σ ρ1 H1 M1 ρ2 H2 M2 ∧ M2 D ∧ ¬ Owned σ ρ2 D ∧ H2 D = some (.lst accV) ∧ Reps C.K H2 M2 acc accV ∧ acc.length ≤ i ∧ Kp H2 M2 ∧ LcX C p g ts tt te vs (ds.drop i) ρ2 ys1 ρ' ∧ acc ++ ys1 = ys)
      ⟨_, ρ1, [], [], ys, e0, .inr rfl, fun z => (p1.env.ownedM z).2 hD, upd_same, rfl, Nat.le_refl _, s.stay _ _ _ _ _ p1.env.mok k e0.nxt, hx, rfl⟩ (fun i H2 _ ⟨M2, _, _, _, _, _, _, _, _, _, _, k2, _⟩ => s.here H2 M2 k2) ?_ ?_
    · rintro i x H2 H3 hlt ⟨M2, ρ2, acc, accV, ys1, p2, mD, nD, hD2, rA, lA, k2, x2, ea⟩ y
      cases hd : ds.drop i with
      | nil =>
        have := congrArg List.length hd
        rw [List.length_drop, List.length_nil] at this
        omega
      | cons d r =>
        obtain ⟨ei, er⟩ := getElem?_of_drop hd
        obtain ⟨M3, n3, mok3, r3⟩ := s.item i H2 M2 x H3 d p2.env.mok k2 ei y
        have p3 := p2.env.step (p := p) n3 mok3
        have k3 := s.stay _ _ _ _ _ p2.env.mok k2 n3
        rw [hd] at x2
        obtain ⟨ρa, b, ρb, ρn, hg, htt, rest⟩ := x2
        obtain ⟨mD3, hD3⟩ := oth_of n3 mD fun z => z
        refine hg (L2.wipe σ vs) H3 M3 x p3.env.wipe r3 _ fun σ4 e4 o4 s4 l4 => ?_
        have s4' : ∀ j, j ∉ vs → σ4[j]? = σ[j]? := fun j hj => (s4 j fun z => hj (ht j z)).trans (wipe_out' hj)
        have l4' : σ4.length = σ.length := l4.trans (wipe_length σ vs)
        refine ⟨wipe_eq l4' s4', ?_⟩
        have ow4 : ∀ a, Owned σ4 ρa a → Owned σ ρ2 a := fun a z => owned_wipe (o4 a z)
        refine htt σ4 H3 M3 e4 _ fun H5 M5 p5 => ?_
        obtain ⟨mD5, hD5⟩ := oth_of p5.nxt mD3 fun z => nD (ow4 D z.2)
        have n5 : Nxt (Ow p σ ρ2) H3 M3 H5 M5 := p5.nxt.weak fun a z => ⟨z.1, ow4 a z.2⟩
        have p23 : Post C p σ ρ1 H1 M1 ρ2 H3 M3 := p2.trans p1.env p3
        rcases rest with ⟨hb, yy, ρc, ys', hte, hback, hys, hrest⟩ | ⟨hb, hback, hrest⟩
        · subst hb
          rw [if_pos rfl]
          refine hte σ4 H5 M5 p5.env _ fun v H6 M6 p6 r6 => ?_
          have ow5 : ∀ a, Owned σ4 ρb a → Owned σ ρ2 a := fun a z => ow4 a (p5.own a z)
          obtain ⟨mD6, hD6⟩ := oth_of p6.nxt mD5 fun z => nD (ow5 D z.2)
          have n6 : Nxt (Ow p σ ρ2) H3 M3 H6 M6 := n5.trans mok3 (p6.nxt.weak fun a z => (⟨z.1, ow5 a z.2⟩ : Ow p σ ρ2 a)) fun a z => .inl z
          have eb := p3.env.back p6.env n6 hback fun j hj => (s4' j hj)
          have ow6 : ∀ a, Owned σ ρn a → Owned σ ρ2 a := fun a z => ow5 a (p6.own a (back_owned hback s4' z))
          have nDn : ¬ Owned σ ρn D := fun z => nD (ow6 D z)
          have hDD : H6 D = some (.lst accV) := by rw [hD6, hD5, hD3]; exact hD2
          have rA6 : Reps C.K H6 M6 acc accV := Reps.mono mok3 n6 (Reps.mono p2.env.mok n3 rA)
          refine ⟨accV, hDD, ?_, M6, ρn, acc ++ [yy], accV ++ [v], ys', ⟨eb.poke mD6 nDn, ?_, fun a z => p23.own a (ow6 a z)⟩, mD6, nDn, upd_same, Reps.poke eb.mok mD6 (rA6.append (.one r6)), ?_, ?_, er ▸ hrest, ?_⟩
          · rw [rA.length]; omega
          · exact (p23.nxt.trans p1.env.mok n6 fun a z => .inl ⟨z.1, p23.own a z.2⟩).poke p1.env.mok hD
          · rw [List.length_append, List.length_singleton]; omega
          · have k6 := s.stay _ _ _ _ _ mok3 k3 n6
            exact s.stay (· = D) _ _ _ _ eb.mok k6 ⟨fun b u q z => by rw [upd_ne fun y => z (by rw [y]; exact mD6)]; exact q, fun _ q _ => q, fun _ q => .inl q, fun b q z => upd_ne z, fun b q => by
              by_cases z : b = D
              · rw [z, upd_same]; exact fun y => nomatch y
              · rw [upd_ne z]; exact q⟩
          · rw [← ea, hys, List.append_assoc]; rfl
        · subst hb
          rw [if_neg Bool.false_ne_true]
          have eb := p3.env.back p5.env n5 hback fun j hj => (s4' j hj)
          have ow6 : ∀ a, Owned σ ρn a → Owned σ ρ2 a := fun a z => ow4 a (p5.own a (back_owned hback s4' z))
          exact ⟨M5, ρn, acc, accV, ys1, ⟨eb, p23.nxt.trans p1.env.mok n5 fun a z => .inl ⟨z.1, p23.own a z.2⟩, fun a z => p23.own a (ow6 a z)⟩, mD5, fun z => nD (ow6 D z), by rw [hD5, hD3]; exact hD2, Reps.mono mok3 n5 (Reps.mono p2.env.mok n3 rA), by omega, s.stay _ _ _ _ _ mok3 k3 n5, er ▸ hrest, ea⟩
    · rintro H2 ⟨M2, ρ2, acc, accV, ys1, p2, mD, nD, hD2, rA, lA, k2, x2, ea⟩
      rw [List.drop_length] at x2
      obtain ⟨z1, z2⟩ := x2
      subst z2
      rw [z1, List.append_nil] at ea
      subst ea
      refine q _ H2 M2 (p1.trans e p2) ⟨D, accV, rfl, ?_, mD, hD2, rA⟩
      by_cases z : H D = none
      · exact z
      · exact absurd hD (p1.nxt.dom D z)
end
end B
/-! text BCall -/
set_option Elab.async false
set_option linter.all false
set_option maxRecDepth 100000
set_option autoImplicit false
namespace B
open PySem PySem.Spec PyProof.Rows L2
section
variable {C : Cc} {p : Bool} {σ σ' σ2 : L2.St} {ρ ρ' ρ1 ρ2 ρ3 : En} {H H' H2 : Hp} {M M' M2 : MS} {o : Out}
/-! ### a list of its own is lent -/
theorem e_borrow {i : Nat} {t : TE} {d : Dt} {ds : List Dt} (hi : ρ[i]? = some (some (.own ds))) (h : Ev C true t (ρ.set i (some (.val (.lst ds)))) (.val d) (ρ.set i (some (.val (.lst ds))))) (hn : nol d = true) : Ev C p t ρ (.val d) ρ := fun σ H M e Q q => by
  obtain ⟨a, vs, ha, hm, hl, hr⟩ := e.ownAt hi
  have hi' : i < ρ.length := (List.getElem?_eq_some_iff.mp hi).1
  have key : ∀ (j : Nat) (fs : List Dt), (ρ.set i (some (.val (.lst ds))))[j]? = some (some (.own fs)) → j ≠ i ∧ ρ[j]? = some (some (.own fs)) := fun j fs w => by
    rw [getElem?_set_some hi'] at w
    by_cases z : j = i
    · rw [if_pos z] at w; cases w
    · rw [if_neg z] at w; exact ⟨z, w⟩
  have e1 : EnvOk C H (fun b => M b ∧ b ≠ a) σ (ρ.set i (some (.val (.lst ds)))) := by
    refine ⟨fun b z => e.mok b z.1, by rw [List.length_set]; exact e.len, fun j s w => ?_, fun j k s t b w1 w2 w3 w4 => ?_, fun j s b w1 w2 => ?_, e.fzd⟩
    · rw [getElem?_set_some hi'] at w
      by_cases z : j = i
      · rw [if_pos z] at w
        cases w
        rw [z]
        exact ⟨.ref a, ha, a, vs, rfl, fun y => y.2 rfl, hl, Reps.anti (fun _ y => y.1) hr⟩
      · rw [if_neg z] at w
        obtain ⟨v, h1, h2⟩ := e.get j s w
        refine ⟨v, h1, ?_⟩
        cases s with
        | val d => exact Rep.anti (fun _ y => y.1) h2
        | own fs =>
          obtain ⟨b, ws, g1, g2, g3, g4⟩ := h2
          subst g1
          exact ⟨b, ws, rfl, ⟨g2, fun y => z (by rw [y] at h1; exact e.dist j i fs ds a w hi h1 ha)⟩, g3, Reps.anti (fun _ y => y.1) g4⟩
    · obtain ⟨_, r1⟩ := key j s w1
      obtain ⟨_, r2⟩ := key k t w2
      exact e.dist j k s t b r1 r2 w3 w4
    · obtain ⟨_, r1⟩ := key j s w1
      exact e.fz j s b r1 w2
  refine h σ H _ e1 Q fun v H' M' po r => ?_
  have ha' : H' a = some (.lst vs) := po.nxt.fix a _ hl fun y => y.2 rfl
  have n : Nxt NoO H M H' (fun b => M' b ∨ b = a) := ⟨fun b u z y => po.nxt.fix b u z fun w => y w.1, fun b z _ => by
      by_cases y : b = a
      · exact .inr y
      · exact .inl (po.nxt.keep b ⟨z, y⟩ (fun w => nomatch w.1)), fun b z => by
      rcases z with z | z
      · rcases po.nxt.fresh b z with y | y
        · exact .inl y.1
        · exact .inr y
      · rw [z]; exact .inl hm, fun b z _ => by
      by_cases y : b = a
      · rw [y, ha', hl]
      · exact po.nxt.oth b ⟨z, y⟩ (fun w => nomatch w.1), po.nxt.dom⟩
  have mok' : MOk H' (fun b => M' b ∨ b = a) := fun b z => by
    rcases z with z | z
    · exact po.env.mok b z
    · rw [z]; exact ⟨.l vs, ha'⟩
  exact q v H' _ (e.step n mok') (Rep.remark hn r)
theorem t_borrow {i : Nat} {t : TE} {b : Bool} {ds : List Dt} (hi : ρ[i]? = some (some (.own ds))) (h : Ev C true t (ρ.set i (some (.val (.lst ds)))) (.val (.bl b)) (ρ.set i (some (.val (.lst ds))))) : EvT C p (tTest t) ρ b ρ :=
  t_test (e_borrow hi h rfl)
theorem t_borrowB {i : Nat} {t : TE} {b : Bool} {ds : List Dt} (hi : ρ[i]? = some (some (.own ds))) (h : Ev C true t (ρ.set i (some (.val (.lst ds)))) (.val (.bl b)) (ρ.set i (some (.val (.lst ds))))) : EvT C p (tB t) ρ b ρ :=
  t_b (e_borrow hi h rfl)
/-- what a pure expression does may stand where marked lists may change -/
theorem e_pure {t : TE} {r : R} (h : Ev C true t ρ r ρ) : Ev C p t ρ r ρ := fun σ H M e Q q => h σ H M e Q fun v H' M' po k => q v H' M' ⟨po.env, po.nxt.weak (fun a z => nomatch z.1), po.own⟩ k
theorem a_pure {t : TA} {r : List Dt} (h : EvA C true t ρ r ρ) : EvA C p t ρ r ρ := fun σ H M e Q q => h σ H M e Q fun v H' M' po k => q v H' M' ⟨po.env, po.nxt.weak (fun a z => nomatch z.1), po.own⟩ k

/-! ### defs -/
/-- the promise of a def that leaves all as it stood: S says what comes back for which arguments -/
def spP (K : PySem.W.Frag) (S : List Dt → R → Prop) : Sp := fun vs H Q _ => ∃ M ds r, MOk H M ∧ Reps K H M ds vs ∧ S ds r ∧ ∀ v H' M', Nxt NoO H M H' M' → MOk H' M' → ResOk K H H' M' r v → Q v H'
/-- .. of a def that changes its first argument, a list -/
def spI (K : PySem.W.Frag) (S : List Dt → List Dt → R → List Dt → Prop) : Sp := fun vs H Q _ => ∃ M a ls us ds vr r ls', vs = .ref a :: vr ∧ MOk H M ∧ M a ∧ H a = some (.lst us) ∧ Reps K H M ls us ∧ Reps K H M ds vr ∧ S ls ds r ls' ∧
  ∀ v H' M' us', Nxt (· = a) H M H' M' → MOk H' M' → M' a → H' a = some (.lst us') → Reps K H' M' ls' us' → ResOk K H H' M' r v → Q v H'
theorem e_call {S : List Dt → R → Prop} {t : TA} {ds : List Dt} {r : R} {E : XK} (ha : EvA C p t ρ ds ρ1) (h : S ds r) : Ev C p (tCall (spP C.K S) [] E t) ρ r ρ1 := fun σ H M e Q q =>
  ha σ H M e _ fun vs H1 M1 p1 r1 => ⟨M1, ds, r, p1.env.mok, by rw [List.append_nil]; exact r1, h, fun v H2 M2 n mok k => q v H2 M2 (p1.trans e (p1.env.step n mok)) (res_back p1.nxt.dom k)⟩
/-- a slot's list is changed by somebody else -/
theorem EnvOk.stepA {i : Nat} {ds es : List Dt} {us : List V} {a : Addr} (e : EnvOk C H M σ ρ) (hi : ρ[i]? = some (some (.own ds))) (ha : σ[i]? = some (some (.ref a))) (n : Nxt (· = a) H M H' M') (mok' : MOk H' M') (hm : M' a) (hl : H' a = some (.lst us))
    (hr : Reps C.K H' M' es us) : EnvOk C H' M' σ (ρ.set i (some (.own es))) ∧ Nxt (Owned σ ρ) H M H' M' ∧ ∀ b, Owned σ (ρ.set i (some (.own es))) b → Owned σ ρ b := by
  have hi' : i < ρ.length := (List.getElem?_eq_some_iff.mp hi).1
  have oa : Owned σ ρ a := ⟨i, ds, hi, ha⟩
  have key : ∀ (j : Nat) (fs : List Dt), (ρ.set i (some (.own es)))[j]? = some (some (.own fs)) → ∃ gs, ρ[j]? = some (some (.own gs)) := fun j fs q => by
    rw [getElem?_set_some hi'] at q
    by_cases z : j = i
    · rw [z]; exact ⟨ds, hi⟩
    · rw [if_neg z] at q; exact ⟨fs, q⟩
  refine ⟨⟨mok', by rw [List.length_set]; exact e.len, fun j s q => ?_, fun j k s t b q1 q2 q3 q4 => ?_, fun j s b q1 q2 => ?_, fun b q => n.dom b (e.fzd b q)⟩, n.weak fun b z => by rw [z]; exact oa, fun b ⟨j, fs, h1, h2⟩ => ?_⟩
  · rw [getElem?_set_some hi'] at q
    by_cases z : j = i
    · rw [if_pos z] at q
      cases q
      rw [z]
      exact ⟨.ref a, ha, a, us, rfl, hm, hl, hr⟩
    · rw [if_neg z] at q
      obtain ⟨v, h1, h2⟩ := e.get j s q
      refine ⟨v, h1, ?_⟩
      cases s with
      | val d => exact Rep.mono e.mok n h2
      | own fs =>
        obtain ⟨b, ws, e1, e2, e3, e4⟩ := h2
        subst e1
        have nb : b ≠ a := fun y => z (by rw [y] at h1; exact e.dist j i fs ds a q hi h1 ha)
        exact ⟨b, ws, rfl, n.keep b e2 nb, by rw [n.oth b e2 nb]; exact e3, Reps.mono e.mok n e4⟩
  · obtain ⟨g1, r1⟩ := key j s q1
    obtain ⟨g2, r2⟩ := key k t q2
    exact e.dist j k g1 g2 b r1 r2 q3 q4
  · obtain ⟨g1, r1⟩ := key j s q1
    exact e.fz j g1 b r1 q2
  · obtain ⟨g1, r1⟩ := key j fs h1
    exact ⟨j, g1, r1, h2⟩
theorem e_callI {S : List Dt → List Dt → R → List Dt → Prop} {i : Nat} {t : TA} {ds ls ls' : List Dt} {r : R} {E : XK} (h0 : ∃ ls0, ρ[i]? = some (some (.own ls0))) (ha : EvA C false t ρ ds ρ1) (hi : ρ1[i]? = some (some (.own ls))) (h : S ls ds r ls') :
    Ev C false (tCall (spI C.K S) [] E (tCons (tVar i) t)) ρ r (ρ1.set i (some (.own ls'))) := fun σ H M e Q q => by
  obtain ⟨ls0, h0⟩ := h0
  obtain ⟨a, vs0, ha0, _⟩ := e.ownAt h0
  refine ⟨.ref a, ha0, ?_⟩
  refine ha σ H M e _ fun vs H1 M1 p1 r1 => ?_
  obtain ⟨us, hm, hl, hr⟩ := slot_same p1.env ha0 hi
  refine ⟨M1, a, ls, us, ds, vs, r, ls', by rw [List.append_nil], p1.env.mok, hm, hl, hr, r1, h, fun v H2 M2 us' n mok m2 h2 k2 k => ?_⟩
  obtain ⟨x1, x2, x3⟩ := p1.env.stepA hi ha0 n mok m2 h2 k2
  exact q v H2 M2 (p1.trans e ⟨x1, x2.weak fun b z => ⟨rfl, z⟩, x3⟩) (res_back p1.nxt.dom k)

/-! ### bodies -/
def startE (n : Nat) (ds : List Dt) : En := ds.map (fun d => some (Slot.val d)) ++ List.replicate (n - ds.length) none
def FinX (C : Cc) (t : TS) (ρ : En) (r : R) : Prop := (∃ ρ', Ex C t ρ (.rt r ρ')) ∨ (r = .val .non ∧ ∃ ρ', Ex C t ρ (.nx ρ'))
theorem startE_get {n : Nat} {ds : List Dt} {i : Nat} {s : Slot} (h : (startE n ds)[i]? = some (some s)) : ∃ d, ds[i]? = some d ∧ s = .val d := by
  unfold startE at h
  by_cases hi : i < ds.length
  · rw [List.getElem?_append_left (by simpa using hi), List.getElem?_map] at h
    cases e : ds[i]? with
    | none => rw [e] at h; cases h
    | some d => rw [e] at h; cases h; exact ⟨d, rfl, rfl⟩
  · rw [List.getElem?_append_right (by simpa using hi), List.getElem?_replicate] at h
    split at h <;> cases h
theorem start_get {N : List Str} {vs : List V} {i : Nat} {v : V} (h : vs[i]? = some v) : (L2.start N vs)[i]? = some (some v) := by
  have hi := (List.getElem?_eq_some_iff.mp h).1
  unfold L2.start
  rw [List.getElem?_append_left (by simpa using hi), List.getElem?_map, h]
  rfl
theorem env_start {K : PySem.W.Frag} {N : List Str} {ds : List Dt} {vs : List V} (mok : MOk H M) (r : Reps K H M ds vs) : EnvOk ⟨K, 0, fun a => H a ≠ none⟩ H M (L2.start N vs) (startE N.length ds) := by
  have no : ∀ (i : Nat) (s : List Dt), (startE N.length ds)[i]? ≠ some (some (.own s)) := fun i s h => by
    obtain ⟨d, _, e⟩ := startE_get h
    cases e
  refine ⟨mok, ?_, fun i s h => ?_, fun i j s t a h1 => absurd h1 (no i s), fun i s a h1 => absurd h1 (no i s), fun a h => h⟩
  · unfold startE L2.start
    rw [List.length_append, List.length_append, List.length_map, List.length_map, List.length_replicate, List.length_replicate, r.length]
  · obtain ⟨d, h1, e⟩ := startE_get h
    subst e
    obtain ⟨v, q1, q2⟩ := r.get h1
    exact ⟨v, start_get q1, q2⟩
theorem not_owned_start {n : Nat} {ds : List Dt} {a : Addr} : ¬ Owned σ (startE n ds) a := fun ⟨i, s, h, _⟩ => by
  obtain ⟨d, _, e⟩ := startE_get h
  cases e
theorem fin_pure {K : PySem.W.Frag} {N : List Str} {t : TS} {ds : List Dt} {vs : List V} {r : R} {Q : VK} (mok : MOk H M) (rr : Reps K H M ds vs) (h : FinX ⟨K, 0, fun a => H a ≠ none⟩ t (startE N.length ds) r)
    (q : ∀ v H' M', Nxt NoO H M H' M' → MOk H' M' → ResOk K H H' M' r v → Q v H') : t { nx := fun _ H' => Q .non H', rt := Q } (L2.start N vs) H := by
  have e := env_start (N := N) mok rr
  rcases h with ⟨ρ', h⟩ | ⟨rfl, ρ', h⟩
  · refine h _ H M e _ fun v σ' H' M' po k => q v H' M' (po.nxt.weak fun a z => absurd z not_owned_start) po.env.mok ?_
    cases r with
    | val d => exact k
    | fr xs =>
      obtain ⟨a, us, k1, k2, k3⟩ := k
      exact ⟨a, us, k1, Classical.not_not.mp k2, k3⟩
  · exact h _ H M e _ fun σ' H' M' po => q .non H' M' (po.nxt.weak fun a z => absurd z not_owned_start) po.env.mok rfl
/-- a def whose first parameter is a list that it changes -/
def startI (n : Nat) (ls : List Dt) (ds : List Dt) : En := some (.own ls) :: (ds.map (fun d => some (Slot.val d)) ++ List.replicate (n - (ds.length + 1)) none)
theorem startI_get {n : Nat} {ls ds : List Dt} {i : Nat} {s : Slot} (h : (startI n ls ds)[i]? = some (some s)) : (i = 0 ∧ s = .own ls) ∨ ∃ j d, i = j + 1 ∧ ds[j]? = some d ∧ s = .val d := by
  cases i with
  | zero => cases h; exact .inl ⟨rfl, rfl⟩
  | succ j =>
    have h' : (ds.map (fun d => some (Slot.val d)) ++ List.replicate (n - (ds.length + 1)) none)[j]? = some (some s) := h
    by_cases hi : j < ds.length
    · rw [List.getElem?_append_left (by simpa using hi), List.getElem?_map] at h'
      cases e : ds[j]? with
      | none => rw [e] at h'; cases h'
      | some d => rw [e] at h'; cases h'; exact .inr ⟨j, d, rfl, e, rfl⟩
    · rw [List.getElem?_append_right (by simpa using hi), List.getElem?_replicate] at h'
      split at h' <;> cases h'
def FinI (C : Cc) (t : TS) (ρ : En) (r : R) (ls' : List Dt) : Prop := (∃ ρ', Ex C t ρ (.rt r ρ') ∧ ρ'[0]? = some (some (.own ls'))) ∨ (r = .val .non ∧ ∃ ρ', Ex C t ρ (.nx ρ') ∧ ρ'[0]? = some (some (.own ls')))
theorem env_startI {K : PySem.W.Frag} {N : List Str} {a : Addr} {ls us ds : List _} {vs : List V} (mok : MOk H M) (hm : M a) (hl : H a = some (.lst us)) (hr : Reps K H M ls us) (r : Reps K H M ds vs) :
    EnvOk ⟨K, 1, fun a => H a ≠ none⟩ H M (L2.start N (.ref a :: vs)) (startI N.length ls ds) := by
  refine ⟨mok, ?_, fun i s h => ?_, fun i j s t b h1 h2 _ _ => ?_, fun i s b h1 h2 => ?_, fun a h => h⟩
  · unfold startI L2.start
    simp only [List.length_cons, List.length_append, List.length_map, List.length_replicate, r.length]
    omega
  · rcases startI_get h with ⟨rfl, rfl⟩ | ⟨j, d, rfl, h1, rfl⟩
    · exact ⟨.ref a, rfl, a, us, rfl, hm, hl, hr⟩
    · obtain ⟨v, q1, q2⟩ := r.get h1
      exact ⟨v, start_get (by simpa using q1), q2⟩
  · rcases startI_get h1 with ⟨rfl, _⟩ | ⟨_, _, _, _, z⟩
    · rcases startI_get h2 with ⟨rfl, _⟩ | ⟨_, _, _, _, z⟩
      · rfl
      · cases z
    · cases z
  · rcases startI_get h1 with ⟨rfl, _⟩ | ⟨_, _, _, _, z⟩
    · have e : (L2.start N (.ref a :: vs))[0]? = some (some (.ref a)) := rfl
      rw [e] at h2
      cases h2
      exact ⟨fun _ => Nat.one_pos, fun _ => by show H a ≠ none; rw [hl]; exact fun z => nomatch z⟩
    · cases z
theorem owned_startI {N : List Str} {a b : Addr} {ls ds : List Dt} {vs : List V} (h : Owned (L2.start N (.ref a :: vs)) (startI N.length ls ds) b) : b = a := by
  obtain ⟨i, s, h1, h2⟩ := h
  rcases startI_get h1 with ⟨rfl, _⟩ | ⟨_, _, _, _, z⟩
  · have e : (L2.start N (.ref a :: vs))[0]? = some (some (.ref a)) := rfl
    rw [e] at h2
    cases h2
    rfl
  · cases z
theorem fin_io {K : PySem.W.Frag} {N : List Str} {t : TS} {a : Addr} {ls ls' ds : List Dt} {us vs : List V} {r : R} {Q : VK} (mok : MOk H M) (hm : M a) (hl : H a = some (.lst us)) (hr : Reps K H M ls us) (rr : Reps K H M ds vs)
    (h : FinI ⟨K, 1, fun a => H a ≠ none⟩ t (startI N.length ls ds) r ls')
    (q : ∀ v H' M' us', Nxt (· = a) H M H' M' → MOk H' M' → M' a → H' a = some (.lst us') → Reps K H' M' ls' us' → ResOk K H H' M' r v → Q v H') : t { nx := fun _ H' => Q .non H', rt := Q } (L2.start N (.ref a :: vs)) H := by
  have e := env_startI (N := N) mok hm hl hr rr
  have last : ∀ {σ' ρ' H' M'}, PostS ⟨K, 1, fun a => H a ≠ none⟩ (L2.start N (.ref a :: vs)) (startI N.length ls ds) H M σ' ρ' H' M' → ρ'[0]? = some (some (.own ls')) → Nxt (· = a) H M H' M' ∧ M' a ∧ ∃ us', H' a = some (.lst us') ∧ Reps K H' M' ls' us' := fun {σ' ρ' H' M'} po h0 => by
    obtain ⟨b, us', s1, s2, s3, s4⟩ := po.env.ownAt h0
    have fz : H b ≠ none := (po.env.fz 0 ls' b h0 s1).mpr Nat.one_pos
    have eb : b = a := by
      rcases po.own b ⟨0, ls', h0, s1⟩ with z | z
      · exact owned_startI z
      · exact absurd z fz
    subst eb
    exact ⟨po.nxt.weak fun c z => owned_startI z, s2, us', s3, s4⟩
  rcases h with ⟨ρ', h, h0⟩ | ⟨rfl, ρ', h, h0⟩
  · refine h _ H M e _ fun v σ' H' M' po k => ?_
    obtain ⟨n, m', us', l1, l2⟩ := last po h0
    refine q v H' M' us' n po.env.mok m' l1 l2 ?_
    cases r with
    | val d => exact k
    | fr xs =>
      obtain ⟨b, us, k1, k2, k3⟩ := k
      exact ⟨b, us, k1, Classical.not_not.mp k2, k3⟩
  · refine h _ H M e _ fun σ' H' M' po => ?_
    obtain ⟨n, m', us', l1, l2⟩ := last po h0
    exact q .non H' M' us' n po.env.mok m' l1 l2 rfl
end
section
variable {P : Program} {w : World} {K : PySem.W.Frag} {mg : Str → Option Value} {base : Heap} {x qual : Str} {params : Arguments} {body : List Stmt} {scope : Scope} {kws : List (Str × V)} {f : Addr} {fd : FuncData} {CX : CXT} {N ps : List Str} {k : Nat}
/-- THE RULE of a pure def: its body's reading t, and what its end is for the arguments that S knows -/
theorem fnP (F : FunD K x qual params body scope [] kws f fd) (Sc : FnScope N ps scope) {S : List Dt → R → Prop} (hl : ∀ ds r, S ds r → ds.length = ps.length)
    (hb : ∀ (cdv : Value) (A : Around) (outer : List Env) (s : Shared) (H : Hp) (E : XK), Room k (A.deeper (envOfC qual scope s.heap.objs.size f cdv)) →
      ∃ t, PSs (cxOf CX P w K mg base N qual scope f cdv A outer s H E) body t ∧ ∀ Fz ds r, S ds r → FinX ⟨K, 0, Fz⟩ t (startE N.length ds) r) :
    FnOk P w K mg base CX (k + 1) f fd ps (spP K S) := by
  refine F.ok Sc (fun vs H Q E h => ?_) fun cdv A outer s H vs Q E hr h => ?_
  · obtain ⟨M, ds, r, _, h1, h2, _⟩ := h
    rw [h1.length]
    exact hl ds r h2
  · obtain ⟨M, ds, r, mok, h1, h2, h3⟩ := h
    obtain ⟨t, ht, hx⟩ := hb cdv A outer s H E hr
    exact ⟨t, ht, fin_pure mok h1 (hx _ ds r h2) h3⟩
/-- .. of a def that changes its first argument -/
theorem fnI (F : FunD K x qual params body scope [] kws f fd) (Sc : FnScope N ps scope) {S : List Dt → List Dt → R → List Dt → Prop} (hl : ∀ ls ds r ls', S ls ds r ls' → ds.length + 1 = ps.length)
    (hb : ∀ (cdv : Value) (A : Around) (outer : List Env) (s : Shared) (H : Hp) (E : XK), Room k (A.deeper (envOfC qual scope s.heap.objs.size f cdv)) →
      ∃ t, PSs (cxOf CX P w K mg base N qual scope f cdv A outer s H E) body t ∧ ∀ Fz ls ds r ls', S ls ds r ls' → FinI ⟨K, 1, Fz⟩ t (startI N.length ls ds) r ls') :
    FnOk P w K mg base CX (k + 1) f fd ps (spI K S) := by
  refine F.ok Sc (fun vs H Q E h => ?_) fun cdv A outer s H vs Q E hr h => ?_
  · obtain ⟨M, a, ls, us, ds, vr, r, ls', rfl, _, _, _, _, h1, h2, _⟩ := h
    rw [List.length_cons, h1.length]
    exact hl ls ds r ls' h2
  · obtain ⟨M, a, ls, us, ds, vr, r, ls', rfl, mok, hm, hl', hr', h1, h2, h3⟩ := h
    obtain ⟨t, ht, hx⟩ := hb cdv A outer s H E hr
    exact ⟨t, ht, fin_io mok hm hl' hr' h1 (hx _ ls ds r ls' h2) h3⟩
end
end B
/-! text BMore -/
set_option Elab.async false
set_option linter.all false
set_option maxRecDepth 100000
set_option autoImplicit false
namespace B
open PySem PySem.Spec PyProof.Rows L2
/-! ### rules of the layer below, in wider forms -/
section
variable {X : Cx} {e : Expr} {es : List Expr} {t : TA} {pos p : Pos} {x : Str} {tg : Expr}
/-- * of ints -/
theorem op_mulB : OpR X (binaryOp .Mult) (rI IntMulOk fun i j => .int (i * j)) := opI fun _ _ _ _ _ _ _ hc q => mul_int q hc
/-- == and != of ints, or of data -/
theorem op_eqA {hu : X.A.units + 64 < cLine} : OpR X (compareOp .Eq) (fun x y H Q => rEq x y H Q ∨ rEqD X.K x y H Q) := op_eq.or (op_eqD hu)
theorem op_neA {hu : X.A.units + 64 < cLine} : OpR X (compareOp .NotEq) (fun x y H Q => rNe x y H Q ∨ rNeD X.K x y H Q) := op_ne.or (op_neD hu)
/-- a list or a tuple, walked -/
def iAny (K : PySem.W.Frag) (tl : TE) : TI := fun σ H R => tl σ H fun x H1 => ∃ a, x = .ref a ∧ (((∃ xs, SqL K H1 a xs) ∧ R (Itl K a) H1) ∨ ((∃ xs, SqT K H1 a xs) ∧ R (Itt K a) H1))
theorem pi_any {l : Expr} {tl : TE} (hl : PE X l tl) : PI X tg l (iAny X.K tl) := by
  refine ⟨fun pins s σ H R I h => ?_⟩
  refine thn (hl.run pins s σ H _ I h) fun v s1 ⟨x, H1, I1, r1, q1⟩ => ?_
  obtain ⟨a, e, q1⟩ := q1
  subst e
  cases r1
  rcases q1 with ⟨⟨xs, hq⟩, q⟩ | ⟨⟨xs, hq⟩, q⟩
  · obtain ⟨its, rv, p, hz⟩ := I1.list hq
    refine wpAny_pyIter_list p.isList ?_
    refine ⟨s1.heap.objs.size, [s1.heap.objs.size], _, _, H1, rfl, I1.kept (t' := s1.toks) fun b o e => Heap.get?_push_of_some _ e, turn_list a _, ⟨_, Heap.get?_push_size _ rfl, rfl, rfl⟩, fun b hb => ?_, q⟩
    have e : b = s1.heap.objs.size := by simpa using hb
    subst e
    exact I1.fpOk (Nat.le_refl _) (I1.hok.fresh (Nat.le_refl _))
  · obtain ⟨its, rv, p, hz⟩ := I1.tuple hq
    refine wpAny_pyIter_tuple (show s1.heap.IsTuple a its.toArray from p) ?_
    refine ⟨s1.heap.objs.size, [s1.heap.objs.size], _, _, H1, rfl, I1.kept (t' := s1.toks) fun b o e => Heap.get?_push_of_some _ e, turn_tuple a _, ⟨_, Heap.get?_push_size _ rfl, rfl, rfl⟩, fun b hb => ?_, q⟩
    have e : b = s1.heap.objs.size := by simpa using hb
    subst e
    exact I1.fpOk (Nat.le_refl _) (I1.hok.fresh (Nat.le_refl _))
end
/-- a def that may be called by its name -/
structure Cl (P : Program) (w : World) (K : PySem.W.Frag) (mg : Str → Option Value) (base : Heap) (CX : CXT) (k : Nat) (x : Str) (sp : Sp) : Prop where
  ex : ∃ (f : Addr) (fd : FuncData) (ps : List Str), FnOk P w K mg base CX k f fd ps sp ∧ mg x = some (.ref f) ∧ PySem.W.keepIn K (.ref f) = true ∧ Binds K fd ps []
section
variable {X : Cx} {CX : CXT} {k j : Nat} {x : Str} {sp : Sp} {p pos : Pos} {e : Expr} {es : List Expr} {t : TA} {E : XK}
theorem pe_cl (c : Cl X.prog X.w X.K X.mg X.base CX k x sp) (hr : Room j X.A) (hk : k ≤ j) (hg : Gl X x) (hx : Passes CX X E) (ha : PA X (e :: es) t)
    (hdb : (x == ("__debug__" : Str)) = false := by decide) (he : starEach (e :: es) X.env = (false, eval e X.env) :: starEach es X.env := by rfl) (hpl : (backTo pos (starEach es X.env)).any (·.1) = false := by rfl) :
    PE X (.Call (.Name x p) (e :: es) [] pos) (tCall sp [] E t) := by
  obtain ⟨f, fd, ps, F, hm, kp, b⟩ := c.ex
  exact pe_call F (hr.mono hk) hg hm kp b .nil hx ha hdb he hpl
end
/-- a def of the module as the head tells it -/
structure DefIs (K : PySem.W.Frag) (mg : Str → Option Value) (x : Str) (st : Stmt) : Prop where
  ex : ∃ (f : Addr) (fd : FuncData), FunD K x x (defArgs st) (defBody st) (defScope st) [] [] f fd ∧ mg x = some (.ref f)
section
variable {P : Program} {w : World} {K : PySem.W.Frag} {mg : Str → Option Value} {base : Heap} {CX : CXT} {N ps : List Str} {k : Nat} {x : Str} {st : Stmt}
def BindsD (x : Str) (st : Stmt) (ps : List Str) : Prop := ∀ (kV doc pm : Value) (an : Option Addr) (cdv ct : Value) (us : List Value), us.length = ps.length → bindArgs (PySem.W.fnOf x x (defArgs st) (defBody st) (defScope st) .none kV doc pm an cdv ct) ⟨us, []⟩ = pure (ps.zip us)
theorem clP (D : DefIs K mg x st) (b : BindsD x st ps) (Sc : FnScope N ps (defScope st)) {S : List Dt → R → Prop} (hl : ∀ ds r, S ds r → ds.length = ps.length)
    (hb : ∀ (f : Addr) (cdv : Value) (A : Around) (outer : List Env) (s : Shared) (H : Hp) (E : XK), Room k (A.deeper (envOfC x (defScope st) s.heap.objs.size f cdv)) →
      ∃ t, PSs (cxOf CX P w K mg base N x (defScope st) f cdv A outer s H E) (defBody st) t ∧ ∀ Fz ds r, S ds r → FinX ⟨K, 0, Fz⟩ t (startE N.length ds) r) :
    Cl P w K mg base CX (k + 1) x (spP K S) := by
  obtain ⟨f, fd, F, g⟩ := D.ex
  exact ⟨f, fd, ps, fnP F Sc hl (hb f), g, F.kp, F.bindsN b⟩
theorem clI (D : DefIs K mg x st) (b : BindsD x st ps) (Sc : FnScope N ps (defScope st)) {S : List Dt → List Dt → R → List Dt → Prop} (hl : ∀ ls ds r ls', S ls ds r ls' → ds.length + 1 = ps.length)
    (hb : ∀ (f : Addr) (cdv : Value) (A : Around) (outer : List Env) (s : Shared) (H : Hp) (E : XK), Room k (A.deeper (envOfC x (defScope st) s.heap.objs.size f cdv)) →
      ∃ t, PSs (cxOf CX P w K mg base N x (defScope st) f cdv A outer s H E) (defBody st) t ∧ ∀ Fz ls ds r ls', S ls ds r ls' → FinI ⟨K, 1, Fz⟩ t (startI N.length ls ds) r ls') :
    Cl P w K mg base CX (k + 1) x (spI K S) := by
  obtain ⟨f, fd, F, g⟩ := D.ex
  exact ⟨f, fd, ps, fnI F Sc hl (hb f), g, F.kp, F.bindsN b⟩
end
/-! ### more of the big steps -/
section
variable {C : Cc} {p : Bool} {σ σ' σ2 : L2.St} {ρ ρ' ρ1 ρ2 ρ3 : En} {H H' H2 : Hp} {M M' M2 : MS} {o : Out} {K : PySem.W.Frag}
theorem o_mul {i j : Int} (h : IntMulOk i j) : Op2 K (rI IntMulOk fun i j => .int (i * j)) (.int i) (.int j) (.val (.int (i * j))) := o_I h
theorem i_anyL {tl : TE} {ds : List Dt} (h : Ev C p tl ρ (.val (.lst ds)) ρ1) : EvI C p (iAny C.K tl) ρ ds ρ1 := fun σ H M e R q =>
  h σ H M e _ fun v H1 M1 p1 ⟨a, vs, e1, e2, e3, e4⟩ => ⟨a, e1, .inl ⟨⟨vs, .of e3⟩, q _ _ _ _ H1 M1 p1 (src_list e4.length) ⟨.inl ⟨e2, .inl e3⟩, e4⟩⟩⟩
theorem i_anyR {tl : TE} {ds : List Dt} (h : Ev C p tl ρ (.val (.ro ds)) ρ1) : EvI C p (iAny C.K tl) ρ ds ρ1 := fun σ H M e R q =>
  h σ H M e _ fun v H1 M1 p1 ⟨a, vs, e1, e2, e3⟩ => ⟨a, e1, .inl ⟨⟨vs, e2.sqL⟩, q _ _ _ _ H1 M1 p1 (src_list e3.length) ⟨e2, e3⟩⟩⟩
theorem i_anyT {tl : TE} {ds : List Dt} (h : Ev C p tl ρ (.val (.tup ds)) ρ1) : EvI C p (iAny C.K tl) ρ ds ρ1 := fun σ H M e R q =>
  h σ H M e _ fun v H1 M1 p1 ⟨a, vs, e1, e2, e3⟩ => ⟨a, e1, .inr ⟨⟨vs, e2⟩, q _ _ _ _ H1 M1 p1 (src_tup e3.length) ⟨e2, e3⟩⟩⟩
theorem o_orL {r r' : R2} {x y : Dt} {z : R} (h : Op2 K r x y z) : Op2 K (fun x y H Q => r x y H Q ∨ r' x y H Q) x y z := fun H M u v mok hu hv Q q => .inl (h H M u v mok hu hv Q q)
theorem o_orR {r r' : R2} {x y : Dt} {z : R} (h : Op2 K r' x y z) : Op2 K (fun x y H Q => r x y H Q ∨ r' x y H Q) x y z := fun H M u v mok hu hv Q q => .inr (h H M u v mok hu hv Q q)
/-! equality of data -/
mutual
def py : Dt → PyData
  | .non => .none
  | .bl b => .bool b
  | .int i => .int i
  | .str s => .str s
  | .tup ds => .tuple (pys ds)
  | .lst ds => .list (pys ds)
  | .obj _ => .none
  | .ty _ => .none
  | .ro _ => .none
  | .dic _ _ => .none
def pys : List Dt → List PyData
  | [] => []
  | d :: ds => py d :: pys ds
end
mutual
/-- data that == reads, at most n deep -/
def plain : Nat → Dt → Bool
  | _, .non => true
  | _, .bl _ => true
  | _, .int _ => true
  | _, .str _ => false
  | n, .tup ds => match n with
    | 0 => false
    | n + 1 => plains n ds
  | n, .lst ds => match n with
    | 0 => false
    | n + 1 => plains n ds
  | _, .obj _ => false
  | _, .ty _ => false
  | _, .ro _ => false
  | _, .dic _ _ => false
def plains : Nat → List Dt → Bool
  | _, [] => true
  | n, d :: ds => plain n d && plains n ds
end
mutual
theorem plain_dp {n : Nat} : ∀ {d : Dt} {v : V}, plain n d = true → Rep K H M d v → Dp K H v (py d)
  | .non, v, _, h => by rw [show v = V.non from h]; exact .non
  | .bl b, v, _, h => by rw [show v = V.bl b from h]; exact .bl b
  | .int b, v, _, h => by rw [show v = V.int b from h]; exact .int b
  | .str b, v, q, h => by rw [plain] at q; cases q
  | .obj b, v, q, h => by rw [plain] at q; cases q
  | .ty b, v, q, h => by rw [plain] at q; cases q
  | .ro b, v, q, h => by rw [plain] at q; cases q
  | .dic k b, v, q, h => by rw [plain] at q; cases q
  | .tup ds, v, q, h => by
    obtain ⟨a, vs, e1, e2, e3⟩ := h
    rw [e1, py]
    cases n with
    | zero => rw [plain] at q; cases q
    | succ n => rw [plain] at q; exact .tup e2 (plains_dp q e3)
  | .lst ds, v, q, h => by
    obtain ⟨a, vs, e1, _, e2, e3⟩ := h
    rw [e1, py]
    cases n with
    | zero => rw [plain] at q; cases q
    | succ n => rw [plain] at q; exact .lst (.of e2) (plains_dp q e3)
theorem plains_dp {n : Nat} : ∀ {ds : List Dt} {vs : List V}, plains n ds = true → Reps K H M ds vs → DpAll K H vs (pys ds)
  | [], vs, _, h => by rw [show vs = [] from h, pys]; exact .nil
  | d :: ds, vs, q, h => by
    obtain ⟨v, r, e, h1, h2⟩ := h
    rw [plains, Bool.and_eq_true] at q
    rw [e, pys]
    exact .cons (plain_dp q.1 h1) (plains_dp q.2 h2)
end
mutual
theorem plain_lay {n : Nat} : ∀ {d : Dt}, plain n d = true → (py d).canLay0 = true ∧ (py d).depth ≤ n
  | .non, _ => ⟨by rw [py, PyData.canLay0], by rw [py, PyData.depth]; exact Nat.zero_le _⟩
  | .bl b, _ => ⟨by rw [py, PyData.canLay0], by rw [py, PyData.depth]; exact Nat.zero_le _⟩
  | .int b, _ => ⟨by rw [py, PyData.canLay0], by rw [py, PyData.depth]; exact Nat.zero_le _⟩
  | .str b, q => by rw [plain] at q; cases q
  | .obj b, q => by rw [plain] at q; cases q
  | .ty b, q => by rw [plain] at q; cases q
  | .ro b, q => by rw [plain] at q; cases q
  | .dic k b, q => by rw [plain] at q; cases q
  | .tup ds, q => by
    cases n with
    | zero => rw [plain] at q; cases q
    | succ n =>
      rw [plain] at q
      obtain ⟨h1, h2⟩ := plains_lay q
      exact ⟨by rw [py, PyData.canLay0]; exact h1, by rw [py, PyData.depth]; omega⟩
  | .lst ds, q => by
    cases n with
    | zero => rw [plain] at q; cases q
    | succ n =>
      rw [plain] at q
      obtain ⟨h1, h2⟩ := plains_lay q
      exact ⟨by rw [py, PyData.canLay0]; exact h1, by rw [py, PyData.depth]; omega⟩
theorem plains_lay {n : Nat} : ∀ {ds : List Dt}, plains n ds = true → PyData.canLayAll0 (pys ds) = true ∧ PyData.depthAll (pys ds) ≤ n
  | [], _ => ⟨by rw [pys, PyData.canLayAll0], by rw [pys, PyData.depthAll]; exact Nat.zero_le _⟩
  | d :: ds, q => by
    rw [plains, Bool.and_eq_true] at q
    obtain ⟨h1, h2⟩ := plain_lay q.1
    obtain ⟨h3, h4⟩ := plains_lay q.2
    exact ⟨by rw [pys, PyData.canLayAll0, h1, h3]; rfl, by rw [pys, PyData.depthAll]; omega⟩
end
theorem plain_shaped {d : Dt} (h : plain 60 d = true) : SeqAt.shaped (py d) = true := by
  obtain ⟨h1, h2⟩ := plain_lay h
  unfold SeqAt.shaped
  rw [h1, Bool.true_and]
  exact decide_eq_true (by omega)
/-- the answer of == -/
def deq (x y : Dt) : Bool := PyData.eqv (py x) (py y)
def deqs (xs ys : List Dt) : Bool := PyData.eqvAll (pys xs) (pys ys)
theorem deq_int (i j : Int) : deq (.int i) (.int j) = (i == j) := by unfold deq; rw [py, py, PyData.eqv]
theorem deq_tup (xs ys : List Dt) : deq (.tup xs) (.tup ys) = deqs xs ys := by unfold deq deqs; rw [py, py, PyData.eqv]
theorem deq_lst (xs ys : List Dt) : deq (.lst xs) (.lst ys) = deqs xs ys := by unfold deq deqs; rw [py, py, PyData.eqv]
theorem deqs_cons (x y : Dt) (xs ys : List Dt) : deqs (x :: xs) (y :: ys) = (deq x y && deqs xs ys) := by unfold deq deqs; rw [pys, pys, PyData.eqvAll]
theorem deqs_nil : deqs [] [] = true := by unfold deqs; rw [pys, PyData.eqvAll]
theorem deqs_nc (y : Dt) (ys : List Dt) : deqs [] (y :: ys) = false := by unfold deqs; rw [pys, pys, PyData.eqvAll]
theorem deqs_cn (y : Dt) (ys : List Dt) : deqs (y :: ys) [] = false := by unfold deqs; rw [pys, pys, PyData.eqvAll]
theorem o_eqD {x y : Dt} (hx : plain 60 x = true) (hy : plain 60 y = true) : Op2 K (rEqD K) x y (.val (.bl (deq x y))) := .pure fun H M u v hu hv => ⟨_, rfl, fun Q q => ⟨py x, py y, plain_dp hx hu, plain_dp hy hv, plain_shaped hx, plain_shaped hy, q⟩⟩
theorem o_neD {x y : Dt} (hx : plain 60 x = true) (hy : plain 60 y = true) : Op2 K (rNeD K) x y (.val (.bl (!deq x y))) := .pure fun H M u v hu hv => ⟨_, rfl, fun Q q => ⟨py x, py y, plain_dp hx hu, plain_dp hy hv, plain_shaped hx, plain_shaped hy, q⟩⟩
/-! slots forgotten -/
theorem EnvOk.forget {i : Nat} (e : EnvOk C H M σ ρ) : EnvOk C H M σ (ρ.set i none) ∧ ∀ a, Owned σ (ρ.set i none) a → Owned σ ρ a := by
  have key : ∀ (j : Nat) (s : Slot), (ρ.set i none)[j]? = some (some s) → ρ[j]? = some (some s) := fun j s h => by
    by_cases z : i = j
    · subst z
      by_cases y : i < ρ.length
      · rw [List.getElem?_set_self y] at h; cases h
      · rw [List.getElem?_eq_none (by rw [List.length_set]; omega)] at h; cases h
    · rw [List.getElem?_set_ne z] at h; exact h
  exact ⟨⟨e.mok, by rw [List.length_set]; exact e.len, fun j s h => e.get j s (key j s h), fun j k s t a h1 h2 h3 h4 => e.dist j k s t a (key j _ h1) (key k _ h2) h3 h4, fun j s a h1 h2 => e.fz j s a (key j _ h1) h2, e.fzd⟩, fun a ⟨j, s, h1, h2⟩ => ⟨j, s, key j _ h1, h2⟩⟩
theorem x_forget {t : TS} {i : Nat} (h : Ex C t ρ (.nx ρ1)) (e : ρ1.set i none = ρ2) : Ex C t ρ (.nx ρ2) := fun σ H M en D q => by
  subst e
  exact h σ H M en D fun σ' H' M' po => q σ' H' M' ⟨(po.env.forget (i := i)).1, po.nxt, fun a z => po.own a ((po.env.forget (i := i)).2 a z)⟩
theorem x_forgetC {t : TS} {i : Nat} (h : Ex C t ρ (.ct ρ1)) (e : ρ1.set i none = ρ2) : Ex C t ρ (.ct ρ2) := fun σ H M en D q => by
  subst e
  exact h σ H M en D fun σ' H' M' po => q σ' H' M' ⟨(po.env.forget (i := i)).1, po.nxt, fun a z => po.own a ((po.env.forget (i := i)).2 a z)⟩
theorem x_weak0 {t : TS} {i : Nat} (h : Ex C t (ρ.set i none) o) : Ex C t ρ o := fun σ H M en D q => by
  have f := en.forget (i := i)
  refine h σ H M f.1 D ?_
  have po : PostS C σ ρ H M σ (ρ.set i none) H M := ⟨f.1, .refl, fun a z => .inl (f.2 a z)⟩
  exact Ends.of en po q
theorem x_setN {i : Nat} {t : TE} {d : Dt} (h : Ev C p t ρ (.val d) ρ1) (hi : i < ρ1.length) (e : ρ1.set i (some (.val d)) = ρ') : Ex C (tAsg t (gName i)) ρ (.nx ρ') := e ▸ x_set h hi
theorem x_setON {i : Nat} {t : TE} {ds : List Dt} (h : Ev C p t ρ (.fr ds) ρ1) (hi : i < ρ1.length) (hp : C.np ≤ i) (e : ρ1.set i (some (.own ds)) = ρ') : Ex C (tAsg t (gName i)) ρ (.nx ρ') := e ▸ x_setO h hi hp
/-! loops by a fold -/
theorem forx_fold {α β : Type} {step : Dt → En → Out → Prop} {f : α → Dt} {env : β → En} {g : β → α → β} : ∀ {xs : List α} {b : β}, (∀ b x, x ∈ xs → step (f x) (env b) (.nx (env (g b x))) ∨ step (f x) (env b) (.ct (env (g b x)))) → ForX step (xs.map f) (env b) (.nx (env (xs.foldl g b)))
  | [], b, _ => rfl
  | x :: xs, b, h => .inl ⟨env (g b x), h b x (List.mem_cons_self ..), forx_fold fun b y hy => h b y (List.mem_cons_of_mem _ hy)⟩
/-- a search: it leaves at the first item that is so -/
theorem forx_find {α : Type} {step : Dt → En → Out → Prop} {f : α → Dt} {ρ : En} {c : α → Bool} {r : R} {ρr : En} : ∀ {xs : List α}, (∀ x, x ∈ xs → c x = false → step (f x) ρ (.nx ρ) ∨ step (f x) ρ (.ct ρ)) → (∀ x, x ∈ xs → c x = true → step (f x) ρ (.rt r ρr)) →
    ForX step (xs.map f) ρ (if xs.any c then .rt r ρr else .nx ρ)
  | [], _, _ => rfl
  | x :: xs, h0, h1 => by
    cases hc : c x with
    | true =>
      rw [List.any_cons, hc, Bool.true_or, if_pos rfl]
      exact .inr (.inr ⟨r, ρr, h1 x (List.mem_cons_self ..) hc, rfl⟩)
    | false =>
      rw [List.any_cons, hc, Bool.false_or]
      exact .inl ⟨ρ, h0 x (List.mem_cons_self ..) hc, forx_find (fun y hy => h0 y (List.mem_cons_of_mem _ hy)) fun y hy => h1 y (List.mem_cons_of_mem _ hy)⟩
/-! comprehensions by map and filter -/
theorem lcx_map {α : Type} {g : TG} {ts vs : List Nat} {te : TE} {f h : α → Dt} {env : α → En} : ∀ {xs : List α}, (∀ x, x ∈ xs → EvG C g ts (f x) (wipeE ρ vs) (env x) ∧ Ev C p te (env x) (.val (h x)) (env x) ∧ BackE vs ρ (env x) ρ) → LcX C p g ts tYes te vs (xs.map f) ρ (xs.map h) ρ
  | [], _ => ⟨rfl, rfl⟩
  | x :: xs, k => by
    obtain ⟨k1, k2, k3⟩ := k x (List.mem_cons_self ..)
    exact ⟨env x, true, env x, ρ, k1, fun σ H M e Q q => q H M (.refl e), .inl ⟨rfl, h x, env x, xs.map h, k2, k3, rfl, lcx_map fun y hy => k y (List.mem_cons_of_mem _ hy)⟩⟩
theorem lcx_filter {α : Type} {g : TG} {ts vs : List Nat} {tt : TT} {te : TE} {f h : α → Dt} {c : α → Bool} {env : α → En} : ∀ {xs : List α}, (∀ x, x ∈ xs → EvG C g ts (f x) (wipeE ρ vs) (env x) ∧ EvT C p tt (env x) (c x) (env x) ∧ (c x = true → Ev C p te (env x) (.val (h x)) (env x)) ∧ BackE vs ρ (env x) ρ) → LcX C p g ts tt te vs (xs.map f) ρ ((xs.filter c).map h) ρ
  | [], _ => ⟨rfl, rfl⟩
  | x :: xs, k => by
    obtain ⟨k1, k2, k3, k4⟩ := k x (List.mem_cons_self ..)
    have ih := lcx_filter (xs := xs) fun y hy => k y (List.mem_cons_of_mem _ hy)
    cases hc : c x with
    | true =>
      rw [List.filter_cons_of_pos hc]
      exact ⟨env x, true, env x, ρ, k1, hc ▸ k2, .inl ⟨rfl, h x, env x, _, k3 hc, k4, rfl, ih⟩⟩
    | false =>
      rw [List.filter_cons_of_neg (by rw [hc]; decide)]
      exact ⟨env x, false, env x, ρ, k1, hc ▸ k2, .inr ⟨rfl, k4, ih⟩⟩
end
end B
/-! text BOps -/
set_option Elab.async false
set_option linter.all false
set_option maxRecDepth 100000
set_option autoImplicit false
namespace B
open PySem PySem.Spec PyProof.Rows L2
/-! ### division at any size -/
/-- the library may be asked for a great division: from any state over the base, in this frame -/
structure Seer (P : Program) (w : World) (A : Around) (base : Heap) (stack : List Env) : Prop where
  div : A.frames = some stack → ∀ s : Shared, (∀ b o, base.get? b = some o → s.heap.get? b = some o) → PylongRoom (model P w) A s
  inv : A.frames = some stack → ∀ s : Shared, (∀ b o, base.get? b = some o → s.heap.get? b = some o) → ∀ (u n : Nat) (E : Value → Shared → Prop) (Q : Unit → Shared → Prop), Q () s → wpAny (model P w) { A with units := u } (Builtin.roomForPylongsInverse n) Q E s
theorem seer_of {P : Program} {w : World} {A : Around} {base : Heap} {env : Env} {l : List Env} {k : Nat} (hN : base.NoSeer) (hL : base.NoLimit) (ht : P.given.tree = none) (hr : Room k A) (hk : 32 ≤ k)
    (hgen : env.scope.isGenerator = false) (hco : env.scope.isCoroutine = false) (hb : env.builtins = builtinsNs) (hg : env.globals = mainGlobals) : Seer P w A base (env :: l) := by
  have hd : A.depth + Builtin.pylongFrames < recursionLimit := by
    have q := hr.dp
    show A.depth + 100 < recursionLimit
    omega
  have hs : A.frames = some (env :: l) → ∀ s : Shared, (∀ b o, base.get? b = some o → s.heap.get? b = some o) → SeerAt (model P w) A s.heap := fun hf s kp => SeerAt.of (hN.keeps kp) ht hf hgen hco hb hg
  refine ⟨fun hf s kp => PylongRoom.of (hL.keeps kp) hd (hs hf s kp), fun hf s kp u n E Q q => ?_⟩
  unfold Builtin.roomForPylongsInverse
  by_cases hbig : n.log2 / 30 + 1 > 450
  · rw [if_pos hbig]
    exact wpAny_bind (hs hf s kp u s E _ rfl (wpAny_pylongFrames (A := { A with units := u }) (hL.keeps kp) hd q))
  · rw [if_neg hbig]
    exact wpAny_pure q
section
variable {X : Cx} {e : Expr} {es : List Expr} {t : TA} {pos p : Pos} {x : Str} {tg : Expr}
theorem op_fdivP (hs : Seer X.prog X.w X.A X.base X.stack) : OpR X (binaryOp .FloorDiv) (rI (fun _ j => j ≠ 0) fun i j => .int (i.fdiv j)) := by
  intro pins s σ H x y v u Q I rx ry h
  obtain ⟨i, j, rfl, rfl, hc, q⟩ := h
  obtain ⟨t, rfl⟩ := rx
  obtain ⟨t', rfl⟩ := ry
  exact floordiv_int hc ⟨.int (i.fdiv j), H, I.tok _, ⟨_, rfl⟩, q⟩ (.inr (hs.div I.ok.frames s I.bk))
/-- + of ints, lists, tuples -/
theorem op_addA : OpR X (binaryOp .Add) (fun x y H Q => rI0 (fun i j => .int (i + j)) x y H Q ∨ (fun x y H Q => rCat x y H Q ∨ rCatT X.K x y H Q) x y H Q) := op_add.or (op_cat.or op_catT)
/-- * of ints, of a list by an int -/
theorem op_mulA : OpR X (binaryOp .Mult) (fun x y H Q => rI IntMulOk (fun i j => .int (i * j)) x y H Q ∨ rRep x y H Q) := op_mulB.or op_rep
/-- slices of lists and tuples -/
theorem sl_any : SlR X (fun x lo hi H Q => rSlL X.K x lo hi H Q ∨ rSlT X.K x lo hi H Q) := sl_list.or sl_tup
theorem pe_globK {v : V} (h : ∃ u, X.mg x = some u ∧ RelV v u) (hg : Gl X x) (hd : (x == ("__debug__" : Str)) = false := by decide) : PE X (.Name x pos) (tC v) := by
  obtain ⟨u, hm, r⟩ := h
  exact pe_glob hg hm r hd
end
section
variable {C : Cc} {p : Bool} {σ σ' σ2 : L2.St} {ρ ρ' ρ1 ρ2 ρ3 : En} {H H' H2 : Hp} {M M' M2 : MS} {o : Out} {K : PySem.W.Frag}
theorem o_fdiv {i j : Int} (h : j ≠ 0) : Op2 K (rI (fun _ j => j ≠ 0) fun i j => .int (i.fdiv j)) (.int i) (.int j) (.val (.int (i.fdiv j))) := o_I (Cd := fun _ j => j ≠ 0) h
theorem o_mod {i j : Int} (h : j ≠ 0) : Op2 K (rI (fun _ j => j ≠ 0) fun i j => .int (i.fmod j)) (.int i) (.int j) (.val (.int (i.fmod j))) := o_I (Cd := fun _ j => j ≠ 0) h
theorem o_pow {i j : Int} (h : CPow i j) : Op2 K (rI CPow fun i j => .int (i ^ j.toNat)) (.int i) (.int j) (.val (.int (i ^ j.toNat))) := o_I h
theorem o_rep {xs : List Dt} {k : Int} (h1 : -(2 ^ 63) ≤ k) (h2 : k < 2 ^ 63) (hl : xs.length * k.toNat ≤ sizeLine) : Op2 K rRep (.lst xs) (.int k) (.fr (List.replicate k.toNat xs).flatten) := fun H M u v mok hu hv Q q => by
  obtain ⟨a, vs, e1, _, e2, e3⟩ := hu
  refine ⟨a, k, vs, e1, hv, e2, h1, h2, by rw [e3.length]; exact hl, fun c hc => res_new mok ?_ q hc⟩
  generalize k.toNat = n
  induction n with
  | zero => exact rfl
  | succ n ih => rw [List.replicate_succ, List.flatten_cons, List.replicate_succ, List.flatten_cons]; exact e3.append ih
/-! isinstance -/
def tyN : Dt → String
  | .non => "NoneType"
  | .bl _ => "bool"
  | .int _ => "int"
  | .str _ => "str"
  | .tup _ => "tuple"
  | .lst _ => "list"
  | .ro _ => "list"
  | .dic _ _ => "dict"
  | .obj _ => "function"
  | .ty _ => "type"
/-- data whose type isinstance reads -/
def tyOk : Dt → Bool
  | .obj _ => false
  | .ty _ => false
  | .ro _ => false
  | .dic _ _ => false
  | _ => true
theorem ty_rep {d : Dt} {v : V} (ok : tyOk d = true) (h : Rep K H M d v) : TyX K H v (.type (tyN d)) := by
  cases d with
  | non => rw [show v = V.non from h]; exact .base .non
  | bl b => rw [show v = V.bl b from h]; exact .base (.bl b)
  | int i => rw [show v = V.int i from h]; exact .base (.int i)
  | str s => rw [show v = V.str s from h]; exact .base (.str s)
  | obj a => cases ok
  | ty a => cases ok
  | ro a => cases ok
  | dic k a => cases ok
  | lst ds => obtain ⟨a, vs, e1, _, e2, _⟩ := h; rw [e1]; exact .base (.lst e2)
  | tup ds =>
    obtain ⟨a, vs, e1, e2, _⟩ := h
    rw [e1]
    rcases e2 with e2 | ⟨o, its, n, k1, k2, _⟩
    · rcases e2 with e2 | ⟨o, e2⟩
      · exact .base (.tup e2)
      · exact .fTuple e2
    · exact .kTuple k1 k2
theorem n_isi {d : Dt} {n : String} {b : Bool} (ok : tyOk d = true) (h : kitB (tyN d) n = some b) : OpN K (rIsi K) [d, .ty n] (.val (.bl b)) := .pure fun H M us h' => by
  obtain ⟨v, r, e1, h1, v2, r2, e2, h2, h3⟩ := h'
  exact ⟨_, rfl, fun Q q => ⟨v, .ty n, .type (tyN d), .type n, b, by rw [e1, e2, show r2 = [] from h3, show v2 = V.ty n from h2], .ty n, ty_rep ok h1, kit_ty h, q⟩⟩
/-- isinstance(x, (list, tuple)), the pair made on the way -/
theorem e_isiT {te : TE} {d : Dt} {n m : String} {b b1 b2 : Bool} (h : Ev C p te ρ (.val d) ρ1) (ok : tyOk d = true) (h1 : kitB (tyN d) n = some b1) (h2 : kitB (tyN d) m = some b2) (hb : (b1 || b2) = b) :
    Ev C p (tCB (rIsiT C.K) (tCons te (tCons (tTup (tCons (tC (.ty n)) (tCons (tC (.ty m)) tNil))) tNil))) ρ (.val (.bl b)) ρ1 := fun σ H M e Q q =>
  h σ H M e _ fun v H1 M1 p1 r1 => ⟨by show 2 ≤ sizeLine; decide, fun a ha => by
    obtain ⟨nx, mok⟩ := nxt_new (o := .tup [.ty n, .ty m]) p1.env.mok ha
    refine ⟨v, a, [.ty n, .ty m], .type (tyN d), [.type n, .type m], b, rfl, upd_same, .cons (.ty n) (.cons (.ty m) .nil), ty_rep ok (Rep.mono p1.env.mok nx r1), ?_, q _ _ _ (p1.trans e (p1.env.step nx mok)) rfl⟩
    refine kitAny_cons (kit_ty h1) (fun z => kitAny_cons (r := b) (kit_ty h2) (fun y => ?_) fun y => ?_) fun z => ?_
    · subst hb; subst z; subst y; exact kitAny_nil
    · subst hb; subst z; subst y; rfl
    · subst hb; subst z; rfl⟩
/-! slices -/
def EvO (C : Cc) (p : Bool) (t : TO) (ρ : En) (r : Option Int) (ρ' : En) : Prop :=
  ∀ σ H M, EnvOk C H M σ ρ → ∀ Q : Option Int → Hp → Prop, (∀ H' M', Post C p σ ρ H M ρ' H' M' → Q r H') → t σ H Q
theorem so_none : EvO C p tNoPart ρ none ρ := fun σ H M e Q q => q H M (.refl e)
theorem so_some {t : TE} {i : Int} (h : Ev C p t ρ (.val (.int i)) ρ1) : EvO C p (tPart t) ρ (some i) ρ1 := fun σ H M e Q q => h σ H M e _ fun v H1 M1 p1 r1 => ⟨i, r1, q H1 M1 p1⟩
/-- xs[lo:hi] -/
def cutD (xs : List Dt) (lo hi : Option Int) : List Dt := (xs.drop (HT.sIx xs.length 0 lo)).take (HT.sIx xs.length xs.length hi - HT.sIx xs.length 0 lo)
theorem cut_reps {xs : List Dt} {vs : List V} {lo hi : Option Int} (h : Reps K H M xs vs) : Reps K H M (cutD xs lo hi) (cutV vs lo hi) := by
  unfold cutD cutV
  rw [h.length]
  exact (h.drop _).take _
theorem e_slL {te : TE} {tl th : TO} {xs : List Dt} {lo hi : Option Int} (h : Ev C p te ρ (.val (.lst xs)) ρ1) (hl : EvO C p tl ρ1 lo ρ2) (hh : EvO C p th ρ2 hi ρ3) : Ev C p (tSl (fun x lo hi H Q => rSlL C.K x lo hi H Q ∨ rSlT C.K x lo hi H Q) te tl th) ρ (.fr (cutD xs lo hi)) ρ3 := fun σ H M e Q q =>
  h σ H M e _ fun v H1 M1 p1 r1 => hl σ H1 M1 p1.env _ fun H2 M2 p2 => hh σ H2 M2 p2.env _ fun H3 M3 p3 => by
    have po := p2.trans p1.env p3
    have pa := p1.trans e po
    obtain ⟨a, vs, e1, e2, e3, e4⟩ := (Rep.mono p1.env.mok po.nxt r1 : Rep C.K H3 M3 (.lst xs) v)
    exact .inl ⟨a, vs, e1, .of e3, fun l hl => res_new po.env.mok (cut_reps e4) (fun w H' M' n mok k => q w H' M' (pa.trans e (po.env.step n mok)) (res_back pa.nxt.dom k)) hl⟩
theorem e_slR {te : TE} {tl th : TO} {xs : List Dt} {lo hi : Option Int} (h : Ev C p te ρ (.val (.ro xs)) ρ1) (hl : EvO C p tl ρ1 lo ρ2) (hh : EvO C p th ρ2 hi ρ3) : Ev C p (tSl (fun x lo hi H Q => rSlL C.K x lo hi H Q ∨ rSlT C.K x lo hi H Q) te tl th) ρ (.fr (cutD xs lo hi)) ρ3 := fun σ H M e Q q =>
  h σ H M e _ fun v H1 M1 p1 r1 => hl σ H1 M1 p1.env _ fun H2 M2 p2 => hh σ H2 M2 p2.env _ fun H3 M3 p3 => by
    have po := p2.trans p1.env p3
    have pa := p1.trans e po
    obtain ⟨a, vs, e1, e2, e4⟩ := (Rep.mono p1.env.mok po.nxt r1 : Rep C.K H3 M3 (.ro xs) v)
    exact .inl ⟨a, vs, e1, e2.sqL, fun l hl => res_new po.env.mok (cut_reps e4) (fun w H' M' n mok k => q w H' M' (pa.trans e (po.env.step n mok)) (res_back pa.nxt.dom k)) hl⟩
theorem e_slT {te : TE} {tl th : TO} {xs : List Dt} {lo hi : Option Int} (h : Ev C p te ρ (.val (.tup xs)) ρ1) (hl : EvO C p tl ρ1 lo ρ2) (hh : EvO C p th ρ2 hi ρ3) (hw : ¬ (HT.sIx xs.length 0 lo = 0 ∧ HT.sIx xs.length xs.length hi = xs.length)) : Ev C p (tSl (fun x lo hi H Q => rSlL C.K x lo hi H Q ∨ rSlT C.K x lo hi H Q) te tl th) ρ (.val (.tup (cutD xs lo hi))) ρ3 := fun σ H M e Q q =>
  h σ H M e _ fun v H1 M1 p1 r1 => hl σ H1 M1 p1.env _ fun H2 M2 p2 => hh σ H2 M2 p2.env _ fun H3 M3 p3 => by
    have po := p2.trans p1.env p3
    have pa := p1.trans e po
    obtain ⟨a, vs, e1, e2, e4⟩ := (Rep.mono p1.env.mok po.nxt r1 : Rep C.K H3 M3 (.tup xs) v)
    exact .inr ⟨a, vs, e1, e2, by rw [e4.length]; exact hw, fun l hl => res_newT po.env.mok (cut_reps e4) (fun w H' M' n mok k => q w H' M' (pa.trans e (po.env.step n mok)) (res_back pa.nxt.dom k)) hl⟩
end
end B
/-! text BFr -/
set_option Elab.async false
set_option linter.all false
set_option maxRecDepth 100000
set_option autoImplicit false
namespace B
open PySem PySem.Spec PyProof.Rows L2
/-! ### AMOUNTS: exact fractions -/
/-- a fraction as its pair -/
def enc (q : Rat) : Dt := .tup [.int q.num, .int (q.den : Int)]
/-- a pair of fractions -/
def encB (b : Rat × Rat) : Dt := .tup [enc b.1, enc b.2]
@[irreducible] def BIG : Nat := 40000000
theorem big_eq : BIG = 40000000 := by unfold BIG; rfl
/-- fewer than k bits -/
def Sz (k : Nat) (q : Rat) : Prop := q.num.natAbs < 2 ^ k ∧ q.den < 2 ^ k
abbrev Sm (q : Rat) : Prop := Sz BIG q
theorem Sz.mono {j k : Nat} {q : Rat} (h : Sz j q) (l : j ≤ k) : Sz k q := ⟨Nat.lt_of_lt_of_le h.1 (Nat.pow_le_pow_right (by decide) l), Nat.lt_of_lt_of_le h.2 (Nat.pow_le_pow_right (by decide) l)⟩
theorem Sz.sm {j : Nat} {q : Rat} (h : Sz j q) (l : j ≤ 40000000) : Sm q := h.mono (by rw [big_eq]; exact l)
theorem mulOk_of {i j : Int} {a b : Nat} (ha : i.natAbs < 2 ^ a) (hb : j.natAbs < 2 ^ b) (h : a + b ≤ 100000000) : IntMulOk i j := by
  have bd : ∀ x : Int, Builtin.Int.intBits x ≤ x.natAbs.log2 + 1 := fun x => by
    unfold Builtin.Int.intBits
    split <;> omega
  have lg : ∀ (n k : Nat), n < 2 ^ k → n.log2 ≤ k := fun n k hn => by
    by_cases z : n = 0
    · rw [z, Nat.log2_zero]; exact Nat.zero_le _
    · exact Nat.le_of_lt ((Nat.log2_lt z).mpr hn)
  have h1 := bd i
  have h2 := bd j
  have h3 := lg _ _ ha
  have h4 := lg _ _ hb
  have e : bitsLine = 134217728 := by decide
  unfold IntMulOk
  intro z
  rw [Bool.and_eq_true] at z
  have z2 := z.2
  unfold Builtin.Int.intTooBig at z2
  have z3 := of_decide_eq_true z2
  rw [e] at z3
  omega
theorem big2 : BIG + BIG ≤ 100000000 := by rw [big_eq]; decide
theorem mul_nn {a b : Rat} (ha : Sm a) (hb : Sm b) : IntMulOk a.num b.num := mulOk_of ha.1 hb.1 big2
theorem mul_nd {a b : Rat} (ha : Sm a) (hb : Sm b) : IntMulOk a.num (b.den : Int) := mulOk_of ha.1 (by rw [Int.natAbs_natCast]; exact hb.2) big2
theorem mul_dn {a b : Rat} (ha : Sm a) (hb : Sm b) : IntMulOk (a.den : Int) b.num := mulOk_of (by rw [Int.natAbs_natCast]; exact ha.2) hb.1 big2
theorem mul_dd {a b : Rat} (ha : Sm a) (hb : Sm b) : IntMulOk (a.den : Int) (b.den : Int) := mulOk_of (by rw [Int.natAbs_natCast]; exact ha.2) (by rw [Int.natAbs_natCast]; exact hb.2) big2
theorem sz_divInt {n d : Int} {k : Nat} (hd : d ≠ 0) (hn : n.natAbs < 2 ^ k) (hk : d.natAbs < 2 ^ k) : Sz k (Rat.divInt n d) := by
  have hg : 0 < d.gcd n := Int.gcd_pos_of_ne_zero_left _ hd
  constructor
  · rw [Rat.num_divInt]
    refine Nat.lt_of_le_of_lt ?_ hn
    have e : (d.sign * n).natAbs = n.natAbs := by
      rw [Int.natAbs_mul, Int.natAbs_sign_of_ne_zero hd, Nat.one_mul]
    have dv : ((d.gcd n : Nat) : Int) ∣ d.sign * n := Int.dvd_trans (Int.gcd_dvd_right _ _) (Int.dvd_mul_left ..)
    rw [Int.natAbs_ediv_of_dvd dv, e]
    exact Nat.div_le_self _ _
  · rw [Rat.den_divInt, if_neg hd]
    exact Nat.lt_of_le_of_lt (Nat.div_le_self _ _) hk
theorem sz_mul {a b : Rat} {j k : Nat} (ha : Sz j a) (hb : Sz k b) : Sz (j + k) (a * b) := by
  rw [Rat.mul_def', ← Rat.divInt_ofNat]
  refine sz_divInt (by have := a.den_pos; have := b.den_pos; have := Nat.mul_pos this ‹0 < a.den›; rw [Nat.mul_comm] at this; omega) ?_ ?_
  · rw [Int.natAbs_mul, Nat.pow_add]
    exact Nat.mul_lt_mul'' ha.1 hb.1
  · rw [Int.natAbs_natCast, Nat.pow_add]
    exact Nat.mul_lt_mul'' ha.2 hb.2
theorem two_pow_succ (k : Nat) : 2 ^ (k + 1) = 2 ^ k + 2 ^ k := by rw [Nat.pow_succ]; omega
theorem sz_add {a b : Rat} {j k : Nat} (ha : Sz j a) (hb : Sz k b) : Sz (j + k + 1) (a + b) := by
  rw [Rat.add_def', ← Rat.divInt_ofNat]
  have h1 : (a.num * (b.den : Int)).natAbs < 2 ^ (j + k) := by
    rw [Int.natAbs_mul, Int.natAbs_natCast, Nat.pow_add]
    exact Nat.mul_lt_mul'' ha.1 hb.2
  have h2 : (b.num * (a.den : Int)).natAbs < 2 ^ (j + k) := by
    rw [Int.natAbs_mul, Int.natAbs_natCast, Nat.pow_add, Nat.mul_comm]
    exact Nat.mul_lt_mul'' ha.2 hb.1
  have h3 : a.den * b.den < 2 ^ (j + k) := by
    rw [Nat.pow_add]
    exact Nat.mul_lt_mul'' ha.2 hb.2
  refine sz_divInt (by have := a.den_pos; have := b.den_pos; have := Nat.mul_pos this ‹0 < a.den›; rw [Nat.mul_comm] at this; omega) ?_ ?_
  · have := Int.natAbs_add_le (a.num * (b.den : Int)) (b.num * (a.den : Int))
    rw [two_pow_succ]
    omega
  · rw [Int.natAbs_natCast, two_pow_succ]
    omega
theorem sz_neg {a : Rat} {j : Nat} (ha : Sz j a) : Sz j (-a) := ⟨by rw [Rat.neg_num, Int.natAbs_neg]; exact ha.1, by rw [Rat.neg_den]; exact ha.2⟩
theorem sz_sub {a b : Rat} {j k : Nat} (ha : Sz j a) (hb : Sz k b) : Sz (j + k + 1) (a - b) := by
  rw [Rat.sub_eq_add_neg]
  exact sz_add ha (sz_neg hb)
theorem sz_inv {a : Rat} {j : Nat} (ha : Sz j a) (h0 : a ≠ 0) : Sz j a⁻¹ := by
  have hn : a.num ≠ 0 := fun z => h0 (Rat.num_eq_zero.mp z)
  constructor
  · rw [Rat.num_inv, Int.natAbs_mul, Int.natAbs_sign_of_ne_zero hn, Nat.one_mul, Int.natAbs_natCast]
    exact ha.2
  · rw [Rat.den_inv, if_neg hn]
    exact ha.1
theorem sz_div {a b : Rat} {j k : Nat} (ha : Sz j a) (hb : Sz k b) (h0 : b ≠ 0) : Sz (j + k) (a / b) := by
  rw [Rat.div_def]
  exact sz_mul ha (sz_inv hb h0)
theorem sz_zero {k : Nat} (h : 0 < k) : Sz k 0 := by
  have : 2 ^ 1 ≤ 2 ^ k := Nat.pow_le_pow_right (by decide) h
  exact ⟨by show 0 < 2 ^ k; omega, by show 1 < 2 ^ k; omega⟩
/-! the pairs of sums, products, .. -/
theorem div_add (a b : Rat) : Rat.divInt (a.num * (b.den : Int) + b.num * (a.den : Int)) ((a.den : Int) * (b.den : Int)) = a + b := by
  rw [Rat.add_def', ← Rat.divInt_ofNat, Int.natCast_mul]
theorem div_sub (a b : Rat) : Rat.divInt (a.num * (b.den : Int) - b.num * (a.den : Int)) ((a.den : Int) * (b.den : Int)) = a - b := by
  rw [Rat.sub_def', ← Rat.divInt_ofNat, Int.natCast_mul]
theorem div_mul (a b : Rat) : Rat.divInt (a.num * b.num) ((a.den : Int) * (b.den : Int)) = a * b := by
  rw [Rat.mul_def', ← Rat.divInt_ofNat, Int.natCast_mul]
theorem div_div (a b : Rat) : Rat.divInt (a.num * (b.den : Int)) ((a.den : Int) * b.num) = a / b := by
  rw [Rat.div_def, Rat.inv_def, ← Rat.divInt_mul_divInt, Rat.num_divInt_den]
theorem den_ne (a : Rat) : (a.den : Int) ≠ 0 := by have := a.den_pos; omega
theorem num_ne {a : Rat} (h : a ≠ 0) : a.num ≠ 0 := fun z => h (Rat.num_eq_zero.mp z)
/-- what reduced hands back -/
theorem reduced_eq (n d : Int) (hd : d ≠ 0) : enc (Rat.divInt n d) = .tup [.int (n.fdiv (if d < 0 then -((Nat.gcd n.natAbs d.natAbs : Nat) : Int) else ((Nat.gcd n.natAbs d.natAbs : Nat) : Int))), .int (d.fdiv (if d < 0 then -((Nat.gcd n.natAbs d.natAbs : Nat) : Int) else ((Nat.gcd n.natAbs d.natAbs : Nat) : Int)))] := by
  have e : (Nat.gcd n.natAbs d.natAbs) = d.gcd n := Nat.gcd_comm ..
  rw [e]
  have hg : 0 < d.gcd n := Int.gcd_pos_of_ne_zero_left _ hd
  have g1 : ((d.gcd n : Nat) : Int) ∣ d := Int.gcd_dvd_left _ _
  have g2 : ((d.gcd n : Nat) : Int) ∣ n := Int.gcd_dvd_right _ _
  generalize hgg : d.gcd n = g at *
  obtain ⟨x, hx⟩ := g1
  obtain ⟨y, hy⟩ := g2
  have hg0 : (g : Int) ≠ 0 := by omega
  unfold enc
  rw [Rat.num_divInt, Rat.den_divInt, if_neg hd, hgg]
  by_cases hneg : d < 0
  · rw [if_pos hneg]
    have hs : d.sign = -1 := Int.sign_eq_neg_one_of_neg hneg
    rw [hs]
    have e1 : n.fdiv (-(g : Int)) = -y := by
      rw [hy, show (g : Int) * y = -(g : Int) * -y by rw [Int.neg_mul_neg]]
      exact Int.mul_fdiv_cancel_left _ (by omega)
    have e2 : d.fdiv (-(g : Int)) = -x := by
      rw [hx, show (g : Int) * x = -(g : Int) * -x by rw [Int.neg_mul_neg]]
      exact Int.mul_fdiv_cancel_left _ (by omega)
    have e3 : -1 * n / (g : Int) = -y := by
      rw [hy, show -1 * ((g : Int) * y) = (g : Int) * -y by rw [Int.mul_neg]; omega]
      exact Int.mul_ediv_cancel_left _ hg0
    have e4 : ((d.natAbs / g : Nat) : Int) = -x := by
      have : d.natAbs = g * x.natAbs := by rw [hx, Int.natAbs_mul, Int.natAbs_natCast]
      rw [this, Nat.mul_div_cancel_left _ hg]
      have xneg : x < 0 := by
        rcases Int.lt_or_le x 0 with h | h
        · exact h
        · have := Int.mul_nonneg (show (0 : Int) ≤ (g : Int) by omega) h
          omega
      omega
    rw [e1, e2, e3, e4]
  · rw [if_neg hneg]
    have hpos : 0 < d := by omega
    have hs : d.sign = 1 := Int.sign_eq_one_of_pos hpos
    rw [hs, Int.one_mul]
    have e1 : n.fdiv (g : Int) = y := by rw [hy]; exact Int.mul_fdiv_cancel_left _ hg0
    have e2 : d.fdiv (g : Int) = x := by rw [hx]; exact Int.mul_fdiv_cancel_left _ hg0
    have e3 : n / (g : Int) = y := by rw [hy]; exact Int.mul_ediv_cancel_left _ hg0
    have e4 : ((d.natAbs / g : Nat) : Int) = x := by
      have : d.natAbs = g * x.natAbs := by rw [hx, Int.natAbs_mul, Int.natAbs_natCast]
      rw [this, Nat.mul_div_cancel_left _ hg]
      have xpos : 0 < x := by
        rcases Int.lt_or_le 0 x with h | h
        · exact h
        · have := Int.mul_nonneg (show (0 : Int) ≤ (g : Int) by omega) (show (0 : Int) ≤ -x by omega)
          rw [Int.mul_neg] at this
          omega
      omega
    rw [e1, e2, e3, e4]
end B
/-! text KTxt -/
set_option Elab.async false
set_option linter.all false
set_option maxRecDepth 100000
set_option autoImplicit false
namespace B
open PySem PySem.Spec PyProof.Rows L2
/-! ### the text -/
def top (i : Nat) : Stmt := PySem.Challenge.pw_saltstairs_k66_whole_curves_put_together.main.body.getD i (.Pass ⟨0, 0, 0, 0⟩)
/-- what the head tells -/
structure Txt (P : Program) (w : World) (K : PySem.W.Frag) (mg : Str → Option Value) (base : Heap) (vN vS : V) : Prop where
  ns : base.NoSeer
  nl : base.NoLimit
  tree : P.given.tree = none
  m_gcd : mg "gcd" = some (.builtin "math.gcd")
  m_lcm : mg "lcm" = some (.builtin "math.lcm")
  k_NOTHING : ∃ u, mg "NOTHING" = some u ∧ RelV vN u
  r_NOTHING : ∀ H M, Rep K H M (enc 0) vN
  k_START : ∃ u, mg "START" = some u ∧ RelV vS u
  r_START : ∀ H M, Rep K H M (.tup [encB (0, 0)]) vS
  z_len : mg "len" = none
  z_isinstance : mg "isinstance" = none
  z_int : mg "int" = none
  z_bool : mg "bool" = none
  z_list : mg "list" = none
  z_tuple : mg "tuple" = none
  z_str : mg "str" = none
  z_all : mg "all" = none
  z_range : mg "range" = none
  z_zip : mg "zip" = none
  z_enumerate : mg "enumerate" = none
  z_sorted : mg "sorted" = none
  z_set : mg "set" = none
  z_abs : mg "abs" = none
  d_is_number : DefIs K mg "is_number" (top 5)
  d_is_from : DefIs K mg "is_from" (top 6)
  d_is_long : DefIs K mg "is_long" (top 7)
  d_tupled : DefIs K mg "tupled" (top 8)
  d_reduced : DefIs K mg "reduced" (top 11)
  d_added : DefIs K mg "added" (top 12)
  d_lessened : DefIs K mg "lessened" (top 13)
  d_scaled : DefIs K mg "scaled" (top 14)
  d_divided : DefIs K mg "divided" (top 15)
  d_side : DefIs K mg "side" (top 16)
  d_lesser_of : DefIs K mg "lesser_of" (top 17)
  d_greater_of : DefIs K mg "greater_of" (top 18)
  d_summed : DefIs K mg "summed" (top 19)
  d_in_one_measure : DefIs K mg "in_one_measure" (top 20)
  d_in_order : DefIs K mg "in_order" (top 21)
  d_is_amount : DefIs K mg "is_amount" (top 22)
  d_sure_amount : DefIs K mg "sure_amount" (top 23)
  d_are_amounts : DefIs K mg "are_amounts" (top 24)
  d_is_brine : DefIs K mg "is_brine" (top 26)
  d_is_stock : DefIs K mg "is_stock" (top 27)
  d_sure_brine : DefIs K mg "sure_brine" (top 28)
  d_sure_stock : DefIs K mg "sure_stock" (top 29)
  d_sure_line : DefIs K mg "sure_line" (top 30)
  d_poured_of : DefIs K mg "poured_of" (top 31)
  d_thinness_keys : DefIs K mg "thinness_keys" (top 32)
  d_strongest_first : DefIs K mg "strongest_first" (top 33)
  d_balance : DefIs K mg "balance" (top 34)
  d_worth_of : DefIs K mg "worth_of" (top 35)
  d_stock_worth : DefIs K mg "stock_worth" (top 36)
  d_rise : DefIs K mg "rise" (top 39)
  d_turns_down : DefIs K mg "turns_down" (top 40)
  d_hides : DefIs K mg "hides" (top 41)
  d_smoothed : DefIs K mg "smoothed" (top 42)
  d_is_curve : DefIs K mg "is_curve" (top 43)
  d_sure_curve : DefIs K mg "sure_curve" (top 44)
  d_curve_of : DefIs K mg "curve_of" (top 45)
  d_segment_at : DefIs K mg "segment_at" (top 46)
  d_height : DefIs K mg "height" (top 47)
  d_reach : DefIs K mg "reach" (top 48)
  d_steps_of : DefIs K mg "steps_of" (top 49)
  d_shifted : DefIs K mg "shifted" (top 50)
  d_first_under : DefIs K mg "first_under" (top 51)
  d_slope_at : DefIs K mg "slope_at" (top 52)
  d_crossings : DefIs K mg "crossings" (top 53)
  d_curve : DefIs K mg "curve" (top 54)
  d_salt_at : DefIs K mg "salt_at" (top 55)
  d_water_for : DefIs K mg "water_for" (top 56)
  d_stock_of : DefIs K mg "stock_of" (top 57)
  d_together : DefIs K mg "together" (top 58)
  d_sunned : DefIs K mg "sunned" (top 59)
  d_is_nowhere_below : DefIs K mg "is_nowhere_below" (top 60)
  d_first_below : DefIs K mg "first_below" (top 61)
  d_touching : DefIs K mg "touching" (top 62)
  d_excess : DefIs K mg "excess" (top 63)
  d_lower_of : DefIs K mg "lower_of" (top 64)
  d_upper_of : DefIs K mg "upper_of" (top 65)
  d_lesser : DefIs K mg "lesser" (top 66)
  d_greater : DefIs K mg "greater" (top 67)
  d__law_box : DefIs K mg "_law_box" (top 69)
  d__law_take : DefIs K mg "_law_take" (top 70)
  d__law_cells : DefIs K mg "_law_cells" (top 71)
  d__law_of : DefIs K mg "_law_of" (top 72)
  d__law_same : DefIs K mg "_law_same" (top 73)
  d__law_cut : DefIs K mg "_law_cut" (top 74)
  d__law_plus : DefIs K mg "_law_plus" (top 75)
  d__law_less : DefIs K mg "_law_less" (top 76)
  d__law_by : DefIs K mg "_law_by" (top 77)
  d__law_side : DefIs K mg "_law_side" (top 78)
  d__law_least : DefIs K mg "_law_least" (top 79)
  d__law_most : DefIs K mg "_law_most" (top 80)
  d__law_amount : DefIs K mg "_law_amount" (top 81)
  d__law_size : DefIs K mg "_law_size" (top 82)
  d__law_stock : DefIs K mg "_law_stock" (top 83)
  d_law : DefIs K mg "law" (top 84)
abbrev s_is_number : Stmt := top 5
abbrev n_is_number : List Str := ["thing"]
theorem sc_is_number : FnScope n_is_number ["thing"] (defScope s_is_number) := ⟨rfl, rfl, rfl, by decide +kernel, rfl, by decide +kernel, by decide +kernel⟩
theorem b_is_number : BindsD "is_number" s_is_number ["thing"] := fun _ _ _ _ _ _ us hl => match us, hl with | [_], _ => rfl

abbrev s_is_from : Stmt := top 6
abbrev n_is_from : List Str := ["thing", "least"]
theorem sc_is_from : FnScope n_is_from ["thing", "least"] (defScope s_is_from) := ⟨rfl, rfl, rfl, by decide +kernel, rfl, by decide +kernel, by decide +kernel⟩
theorem b_is_from : BindsD "is_from" s_is_from ["thing", "least"] := fun _ _ _ _ _ _ us hl => match us, hl with | [_, _], _ => rfl

abbrev s_is_long : Stmt := top 7
abbrev n_is_long : List Str := ["thing", "length"]
theorem sc_is_long : FnScope n_is_long ["thing", "length"] (defScope s_is_long) := ⟨rfl, rfl, rfl, by decide +kernel, rfl, by decide +kernel, by decide +kernel⟩
theorem b_is_long : BindsD "is_long" s_is_long ["thing", "length"] := fun _ _ _ _ _ _ us hl => match us, hl with | [_, _], _ => rfl

abbrev s_tupled : Stmt := top 8
abbrev n_tupled : List Str := ["value", "own"]
theorem sc_tupled : FnScope n_tupled ["value"] (defScope s_tupled) := ⟨rfl, rfl, rfl, by decide +kernel, rfl, by decide +kernel, by decide +kernel⟩
theorem b_tupled : BindsD "tupled" s_tupled ["value"] := fun _ _ _ _ _ _ us hl => match us, hl with | [_], _ => rfl

abbrev s_reduced : Stmt := top 11
abbrev n_reduced : List Str := ["number", "parts", "divisor"]
theorem sc_reduced : FnScope n_reduced ["number", "parts"] (defScope s_reduced) := ⟨rfl, rfl, rfl, by decide +kernel, rfl, by decide +kernel, by decide +kernel⟩
theorem b_reduced : BindsD "reduced" s_reduced ["number", "parts"] := fun _ _ _ _ _ _ us hl => match us, hl with | [_, _], _ => rfl

abbrev s_added : Stmt := top 12
abbrev n_added : List Str := ["one", "other"]
theorem sc_added : FnScope n_added ["one", "other"] (defScope s_added) := ⟨rfl, rfl, rfl, by decide +kernel, rfl, by decide +kernel, by decide +kernel⟩
theorem b_added : BindsD "added" s_added ["one", "other"] := fun _ _ _ _ _ _ us hl => match us, hl with | [_, _], _ => rfl

abbrev s_lessened : Stmt := top 13
abbrev n_lessened : List Str := ["one", "other"]
theorem sc_lessened : FnScope n_lessened ["one", "other"] (defScope s_lessened) := ⟨rfl, rfl, rfl, by decide +kernel, rfl, by decide +kernel, by decide +kernel⟩
theorem b_lessened : BindsD "lessened" s_lessened ["one", "other"] := fun _ _ _ _ _ _ us hl => match us, hl with | [_, _], _ => rfl

abbrev s_scaled : Stmt := top 14
abbrev n_scaled : List Str := ["one", "other"]
theorem sc_scaled : FnScope n_scaled ["one", "other"] (defScope s_scaled) := ⟨rfl, rfl, rfl, by decide +kernel, rfl, by decide +kernel, by decide +kernel⟩
theorem b_scaled : BindsD "scaled" s_scaled ["one", "other"] := fun _ _ _ _ _ _ us hl => match us, hl with | [_, _], _ => rfl

abbrev s_divided : Stmt := top 15
abbrev n_divided : List Str := ["one", "other"]
theorem sc_divided : FnScope n_divided ["one", "other"] (defScope s_divided) := ⟨rfl, rfl, rfl, by decide +kernel, rfl, by decide +kernel, by decide +kernel⟩
theorem b_divided : BindsD "divided" s_divided ["one", "other"] := fun _ _ _ _ _ _ us hl => match us, hl with | [_, _], _ => rfl

abbrev s_side : Stmt := top 16
abbrev n_side : List Str := ["one", "other", "first", "second"]
theorem sc_side : FnScope n_side ["one", "other"] (defScope s_side) := ⟨rfl, rfl, rfl, by decide +kernel, rfl, by decide +kernel, by decide +kernel⟩
theorem b_side : BindsD "side" s_side ["one", "other"] := fun _ _ _ _ _ _ us hl => match us, hl with | [_, _], _ => rfl

abbrev s_lesser_of : Stmt := top 17
abbrev n_lesser_of : List Str := ["one", "other"]
theorem sc_lesser_of : FnScope n_lesser_of ["one", "other"] (defScope s_lesser_of) := ⟨rfl, rfl, rfl, by decide +kernel, rfl, by decide +kernel, by decide +kernel⟩
theorem b_lesser_of : BindsD "lesser_of" s_lesser_of ["one", "other"] := fun _ _ _ _ _ _ us hl => match us, hl with | [_, _], _ => rfl

abbrev s_greater_of : Stmt := top 18
abbrev n_greater_of : List Str := ["one", "other"]
theorem sc_greater_of : FnScope n_greater_of ["one", "other"] (defScope s_greater_of) := ⟨rfl, rfl, rfl, by decide +kernel, rfl, by decide +kernel, by decide +kernel⟩
theorem b_greater_of : BindsD "greater_of" s_greater_of ["one", "other"] := fun _ _ _ _ _ _ us hl => match us, hl with | [_, _], _ => rfl

abbrev s_summed : Stmt := top 19
abbrev n_summed : List Str := ["row", "found", "own"]
theorem sc_summed : FnScope n_summed ["row"] (defScope s_summed) := ⟨rfl, rfl, rfl, by decide +kernel, rfl, by decide +kernel, by decide +kernel⟩
theorem b_summed : BindsD "summed" s_summed ["row"] := fun _ _ _ _ _ _ us hl => match us, hl with | [_], _ => rfl

abbrev s_in_one_measure : Stmt := top 20
abbrev n_in_one_measure : List Str := ["row", "parts", "own"]
theorem sc_in_one_measure : FnScope n_in_one_measure ["row"] (defScope s_in_one_measure) := ⟨rfl, rfl, rfl, by decide +kernel, rfl, by decide +kernel, by decide +kernel⟩
theorem b_in_one_measure : BindsD "in_one_measure" s_in_one_measure ["row"] := fun _ _ _ _ _ _ us hl => match us, hl with | [_], _ => rfl

abbrev s_in_order : Stmt := top 21
abbrev n_in_order : List Str := ["row", "keys", "kept", "key", "own"]
theorem sc_in_order : FnScope n_in_order ["row"] (defScope s_in_order) := ⟨rfl, rfl, rfl, by decide +kernel, rfl, by decide +kernel, by decide +kernel⟩
theorem b_in_order : BindsD "in_order" s_in_order ["row"] := fun _ _ _ _ _ _ us hl => match us, hl with | [_], _ => rfl

abbrev s_is_amount : Stmt := top 22
abbrev n_is_amount : List Str := ["thing"]
theorem sc_is_amount : FnScope n_is_amount ["thing"] (defScope s_is_amount) := ⟨rfl, rfl, rfl, by decide +kernel, rfl, by decide +kernel, by decide +kernel⟩
theorem b_is_amount : BindsD "is_amount" s_is_amount ["thing"] := fun _ _ _ _ _ _ us hl => match us, hl with | [_], _ => rfl

abbrev s_sure_amount : Stmt := top 23
abbrev n_sure_amount : List Str := ["value", "own"]
theorem sc_sure_amount : FnScope n_sure_amount ["value"] (defScope s_sure_amount) := ⟨rfl, rfl, rfl, by decide +kernel, rfl, by decide +kernel, by decide +kernel⟩
theorem b_sure_amount : BindsD "sure_amount" s_sure_amount ["value"] := fun _ _ _ _ _ _ us hl => match us, hl with | [_], _ => rfl

abbrev s_are_amounts : Stmt := top 24
abbrev n_are_amounts : List Str := ["thing", "own"]
theorem sc_are_amounts : FnScope n_are_amounts ["thing"] (defScope s_are_amounts) := ⟨rfl, rfl, rfl, by decide +kernel, rfl, by decide +kernel, by decide +kernel⟩
theorem b_are_amounts : BindsD "are_amounts" s_are_amounts ["thing"] := fun _ _ _ _ _ _ us hl => match us, hl with | [_], _ => rfl

abbrev s_is_brine : Stmt := top 26
abbrev n_is_brine : List Str := ["thing"]
theorem sc_is_brine : FnScope n_is_brine ["thing"] (defScope s_is_brine) := ⟨rfl, rfl, rfl, by decide +kernel, rfl, by decide +kernel, by decide +kernel⟩
theorem b_is_brine : BindsD "is_brine" s_is_brine ["thing"] := fun _ _ _ _ _ _ us hl => match us, hl with | [_], _ => rfl

abbrev s_is_stock : Stmt := top 27
abbrev n_is_stock : List Str := ["thing", "own"]
theorem sc_is_stock : FnScope n_is_stock ["thing"] (defScope s_is_stock) := ⟨rfl, rfl, rfl, by decide +kernel, rfl, by decide +kernel, by decide +kernel⟩
theorem b_is_stock : BindsD "is_stock" s_is_stock ["thing"] := fun _ _ _ _ _ _ us hl => match us, hl with | [_], _ => rfl

abbrev s_sure_brine : Stmt := top 28
abbrev n_sure_brine : List Str := ["value", "own"]
theorem sc_sure_brine : FnScope n_sure_brine ["value"] (defScope s_sure_brine) := ⟨rfl, rfl, rfl, by decide +kernel, rfl, by decide +kernel, by decide +kernel⟩
theorem b_sure_brine : BindsD "sure_brine" s_sure_brine ["value"] := fun _ _ _ _ _ _ us hl => match us, hl with | [_], _ => rfl

abbrev s_sure_stock : Stmt := top 29
abbrev n_sure_stock : List Str := ["value", "own"]
theorem sc_sure_stock : FnScope n_sure_stock ["value"] (defScope s_sure_stock) := ⟨rfl, rfl, rfl, by decide +kernel, rfl, by decide +kernel, by decide +kernel⟩
theorem b_sure_stock : BindsD "sure_stock" s_sure_stock ["value"] := fun _ _ _ _ _ _ us hl => match us, hl with | [_], _ => rfl

abbrev s_sure_line : Stmt := top 30
abbrev n_sure_line : List Str := ["value"]
theorem sc_sure_line : FnScope n_sure_line ["value"] (defScope s_sure_line) := ⟨rfl, rfl, rfl, by decide +kernel, rfl, by decide +kernel, by decide +kernel⟩
theorem b_sure_line : BindsD "sure_line" s_sure_line ["value"] := fun _ _ _ _ _ _ us hl => match us, hl with | [_], _ => rfl

abbrev s_poured_of : Stmt := top 31
abbrev n_poured_of : List Str := ["stock", "own"]
theorem sc_poured_of : FnScope n_poured_of ["stock"] (defScope s_poured_of) := ⟨rfl, rfl, rfl, by decide +kernel, rfl, by decide +kernel, by decide +kernel⟩
theorem b_poured_of : BindsD "poured_of" s_poured_of ["stock"] := fun _ _ _ _ _ _ us hl => match us, hl with | [_], _ => rfl

abbrev s_thinness_keys : Stmt := top 32
abbrev n_thinness_keys : List Str := ["stock", "thin", "parts", "own"]
theorem sc_thinness_keys : FnScope n_thinness_keys ["stock"] (defScope s_thinness_keys) := ⟨rfl, rfl, rfl, by decide +kernel, rfl, by decide +kernel, by decide +kernel⟩
theorem b_thinness_keys : BindsD "thinness_keys" s_thinness_keys ["stock"] := fun _ _ _ _ _ _ us hl => match us, hl with | [_], _ => rfl

abbrev s_strongest_first : Stmt := top 33
abbrev n_strongest_first : List Str := ["stock", "keys", "place", "key"]
theorem sc_strongest_first : FnScope n_strongest_first ["stock"] (defScope s_strongest_first) := ⟨rfl, rfl, rfl, by decide +kernel, rfl, by decide +kernel, by decide +kernel⟩
theorem b_strongest_first : BindsD "strongest_first" s_strongest_first ["stock"] := fun _ _ _ _ _ _ us hl => match us, hl with | [_], _ => rfl

abbrev s_balance : Stmt := top 34
abbrev n_balance : List Str := ["line", "brine"]
theorem sc_balance : FnScope n_balance ["line", "brine"] (defScope s_balance) := ⟨rfl, rfl, rfl, by decide +kernel, rfl, by decide +kernel, by decide +kernel⟩
theorem b_balance : BindsD "balance" s_balance ["line", "brine"] := fun _ _ _ _ _ _ us hl => match us, hl with | [_, _], _ => rfl

abbrev s_worth_of : Stmt := top 35
abbrev n_worth_of : List Str := ["line", "brine", "found"]
theorem sc_worth_of : FnScope n_worth_of ["line", "brine"] (defScope s_worth_of) := ⟨rfl, rfl, rfl, by decide +kernel, rfl, by decide +kernel, by decide +kernel⟩
theorem b_worth_of : BindsD "worth_of" s_worth_of ["line", "brine"] := fun _ _ _ _ _ _ us hl => match us, hl with | [_, _], _ => rfl

abbrev s_stock_worth : Stmt := top 36
abbrev n_stock_worth : List Str := ["line", "stock", "own", "brine"]
theorem sc_stock_worth : FnScope n_stock_worth ["line", "stock"] (defScope s_stock_worth) := ⟨rfl, rfl, rfl, by decide +kernel, rfl, by decide +kernel, by decide +kernel⟩
theorem b_stock_worth : BindsD "stock_worth" s_stock_worth ["line", "stock"] := fun _ _ _ _ _ _ us hl => match us, hl with | [_, _], _ => rfl

abbrev s_rise : Stmt := top 39
abbrev n_rise : List Str := ["one", "other"]
theorem sc_rise : FnScope n_rise ["one", "other"] (defScope s_rise) := ⟨rfl, rfl, rfl, by decide +kernel, rfl, by decide +kernel, by decide +kernel⟩
theorem b_rise : BindsD "rise" s_rise ["one", "other"] := fun _ _ _ _ _ _ us hl => match us, hl with | [_, _], _ => rfl

abbrev s_turns_down : Stmt := top 40
abbrev n_turns_down : List Str := ["one", "two", "three", "first", "second"]
theorem sc_turns_down : FnScope n_turns_down ["one", "two", "three"] (defScope s_turns_down) := ⟨rfl, rfl, rfl, by decide +kernel, rfl, by decide +kernel, by decide +kernel⟩
theorem b_turns_down : BindsD "turns_down" s_turns_down ["one", "two", "three"] := fun _ _ _ _ _ _ us hl => match us, hl with | [_, _, _], _ => rfl

abbrev s_hides : Stmt := top 41
abbrev n_hides : List Str := ["found", "point"]
theorem sc_hides : FnScope n_hides ["found", "point"] (defScope s_hides) := ⟨rfl, rfl, rfl, by decide +kernel, rfl, by decide +kernel, by decide +kernel⟩
theorem b_hides : BindsD "hides" s_hides ["found", "point"] := fun _ _ _ _ _ _ us hl => match us, hl with | [_, _], _ => rfl

abbrev s_smoothed : Stmt := top 42
abbrev n_smoothed : List Str := ["points", "found", "own"]
theorem sc_smoothed : FnScope n_smoothed ["points"] (defScope s_smoothed) := ⟨rfl, rfl, rfl, by decide +kernel, rfl, by decide +kernel, by decide +kernel⟩
theorem b_smoothed : BindsD "smoothed" s_smoothed ["points"] := fun _ _ _ _ _ _ us hl => match us, hl with | [_], _ => rfl

abbrev s_is_curve : Stmt := top 43
abbrev n_is_curve : List Str := ["thing", "place", "own", "k"]
theorem sc_is_curve : FnScope n_is_curve ["thing"] (defScope s_is_curve) := ⟨rfl, rfl, rfl, by decide +kernel, rfl, by decide +kernel, by decide +kernel⟩
theorem b_is_curve : BindsD "is_curve" s_is_curve ["thing"] := fun _ _ _ _ _ _ us hl => match us, hl with | [_], _ => rfl

abbrev s_sure_curve : Stmt := top 44
abbrev n_sure_curve : List Str := ["value", "own"]
theorem sc_sure_curve : FnScope n_sure_curve ["value"] (defScope s_sure_curve) := ⟨rfl, rfl, rfl, by decide +kernel, rfl, by decide +kernel, by decide +kernel⟩
theorem b_sure_curve : BindsD "sure_curve" s_sure_curve ["value"] := fun _ _ _ _ _ _ us hl => match us, hl with | [_], _ => rfl

abbrev s_curve_of : Stmt := top 45
abbrev n_curve_of : List Str := ["stock", "salty", "points", "place", "own"]
theorem sc_curve_of : FnScope n_curve_of ["stock"] (defScope s_curve_of) := ⟨rfl, rfl, rfl, by decide +kernel, rfl, by decide +kernel, by decide +kernel⟩
theorem b_curve_of : BindsD "curve_of" s_curve_of ["stock"] := fun _ _ _ _ _ _ us hl => match us, hl with | [_], _ => rfl

abbrev s_segment_at : Stmt := top 46
abbrev n_segment_at : List Str := ["curve", "water", "low", "high", "middle"]
theorem sc_segment_at : FnScope n_segment_at ["curve", "water"] (defScope s_segment_at) := ⟨rfl, rfl, rfl, by decide +kernel, rfl, by decide +kernel, by decide +kernel⟩
theorem b_segment_at : BindsD "segment_at" s_segment_at ["curve", "water"] := fun _ _ _ _ _ _ us hl => match us, hl with | [_, _], _ => rfl

abbrev s_height : Stmt := top 47
abbrev n_height : List Str := ["curve", "water", "place", "step"]
theorem sc_height : FnScope n_height ["curve", "water"] (defScope s_height) := ⟨rfl, rfl, rfl, by decide +kernel, rfl, by decide +kernel, by decide +kernel⟩
theorem b_height : BindsD "height" s_height ["curve", "water"] := fun _ _ _ _ _ _ us hl => match us, hl with | [_, _], _ => rfl

abbrev s_reach : Stmt := top 48
abbrev n_reach : List Str := ["curve", "salt", "place", "step", "own"]
theorem sc_reach : FnScope n_reach ["curve", "salt"] (defScope s_reach) := ⟨rfl, rfl, rfl, by decide +kernel, rfl, by decide +kernel, by decide +kernel⟩
theorem b_reach : BindsD "reach" s_reach ["curve", "salt"] := fun _ _ _ _ _ _ us hl => match us, hl with | [_, _], _ => rfl

abbrev s_steps_of : Stmt := top 49
abbrev n_steps_of : List Str := ["curve", "found", "k"]
theorem sc_steps_of : FnScope n_steps_of ["curve"] (defScope s_steps_of) := ⟨rfl, rfl, rfl, by decide +kernel, rfl, by decide +kernel, by decide +kernel⟩
theorem b_steps_of : BindsD "steps_of" s_steps_of ["curve"] := fun _ _ _ _ _ _ us hl => match us, hl with | [_], _ => rfl

abbrev s_shifted : Stmt := top 50
abbrev n_shifted : List Str := ["curve", "water", "first", "later", "own"]
theorem sc_shifted : FnScope n_shifted ["curve", "water"] (defScope s_shifted) := ⟨rfl, rfl, rfl, by decide +kernel, rfl, by decide +kernel, by decide +kernel⟩
theorem b_shifted : BindsD "shifted" s_shifted ["curve", "water"] := fun _ _ _ _ _ _ us hl => match us, hl with | [_, _], _ => rfl

abbrev s_first_under : Stmt := top 51
abbrev n_first_under : List Str := ["one", "other", "own"]
theorem sc_first_under : FnScope n_first_under ["one", "other"] (defScope s_first_under) := ⟨rfl, rfl, rfl, by decide +kernel, rfl, by decide +kernel, by decide +kernel⟩
theorem b_first_under : BindsD "first_under" s_first_under ["one", "other"] := fun _ _ _ _ _ _ us hl => match us, hl with | [_, _], _ => rfl

abbrev s_slope_at : Stmt := top 52
abbrev n_slope_at : List Str := ["curve", "water", "place", "step"]
theorem sc_slope_at : FnScope n_slope_at ["curve", "water"] (defScope s_slope_at) := ⟨rfl, rfl, rfl, by decide +kernel, rfl, by decide +kernel, by decide +kernel⟩
theorem b_slope_at : BindsD "slope_at" s_slope_at ["curve", "water"] := fun _ _ _ _ _ _ us hl => match us, hl with | [_, _], _ => rfl

abbrev s_crossings : Stmt := top 53
abbrev n_crossings : List Str := ["one", "other", "waters", "found", "near", "far", "before", "behind", "share", "own"]
theorem sc_crossings : FnScope n_crossings ["one", "other"] (defScope s_crossings) := ⟨rfl, rfl, rfl, by decide +kernel, rfl, by decide +kernel, by decide +kernel⟩
theorem b_crossings : BindsD "crossings" s_crossings ["one", "other"] := fun _ _ _ _ _ _ us hl => match us, hl with | [_, _], _ => rfl

abbrev s_curve : Stmt := top 54
abbrev n_curve : List Str := ["stock"]
theorem sc_curve : FnScope n_curve ["stock"] (defScope s_curve) := ⟨rfl, rfl, rfl, by decide +kernel, rfl, by decide +kernel, by decide +kernel⟩
theorem b_curve : BindsD "curve" s_curve ["stock"] := fun _ _ _ _ _ _ us hl => match us, hl with | [_], _ => rfl

abbrev s_salt_at : Stmt := top 55
abbrev n_salt_at : List Str := ["curve", "water", "own"]
theorem sc_salt_at : FnScope n_salt_at ["curve", "water"] (defScope s_salt_at) := ⟨rfl, rfl, rfl, by decide +kernel, rfl, by decide +kernel, by decide +kernel⟩
theorem b_salt_at : BindsD "salt_at" s_salt_at ["curve", "water"] := fun _ _ _ _ _ _ us hl => match us, hl with | [_, _], _ => rfl

abbrev s_water_for : Stmt := top 56
abbrev n_water_for : List Str := ["curve", "salt", "own", "found"]
theorem sc_water_for : FnScope n_water_for ["curve", "salt"] (defScope s_water_for) := ⟨rfl, rfl, rfl, by decide +kernel, rfl, by decide +kernel, by decide +kernel⟩
theorem b_water_for : BindsD "water_for" s_water_for ["curve", "salt"] := fun _ _ _ _ _ _ us hl => match us, hl with | [_, _], _ => rfl

abbrev s_stock_of : Stmt := top 57
abbrev n_stock_of : List Str := ["curve"]
theorem sc_stock_of : FnScope n_stock_of ["curve"] (defScope s_stock_of) := ⟨rfl, rfl, rfl, by decide +kernel, rfl, by decide +kernel, by decide +kernel⟩
theorem b_stock_of : BindsD "stock_of" s_stock_of ["curve"] := fun _ _ _ _ _ _ us hl => match us, hl with | [_], _ => rfl

abbrev s_together : Stmt := top 58
abbrev n_together : List Str := ["one", "other", "first", "second"]
theorem sc_together : FnScope n_together ["one", "other"] (defScope s_together) := ⟨rfl, rfl, rfl, by decide +kernel, rfl, by decide +kernel, by decide +kernel⟩
theorem b_together : BindsD "together" s_together ["one", "other"] := fun _ _ _ _ _ _ us hl => match us, hl with | [_, _], _ => rfl

abbrev s_sunned : Stmt := top 59
abbrev n_sunned : List Str := ["curve", "water", "own"]
theorem sc_sunned : FnScope n_sunned ["curve", "water"] (defScope s_sunned) := ⟨rfl, rfl, rfl, by decide +kernel, rfl, by decide +kernel, by decide +kernel⟩
theorem b_sunned : BindsD "sunned" s_sunned ["curve", "water"] := fun _ _ _ _ _ _ us hl => match us, hl with | [_, _], _ => rfl

abbrev s_is_nowhere_below : Stmt := top 60
abbrev n_is_nowhere_below : List Str := ["one", "other", "first", "second"]
theorem sc_is_nowhere_below : FnScope n_is_nowhere_below ["one", "other"] (defScope s_is_nowhere_below) := ⟨rfl, rfl, rfl, by decide +kernel, rfl, by decide +kernel, by decide +kernel⟩
theorem b_is_nowhere_below : BindsD "is_nowhere_below" s_is_nowhere_below ["one", "other"] := fun _ _ _ _ _ _ us hl => match us, hl with | [_, _], _ => rfl

abbrev s_first_below : Stmt := top 61
abbrev n_first_below : List Str := ["one", "other", "first", "second"]
theorem sc_first_below : FnScope n_first_below ["one", "other"] (defScope s_first_below) := ⟨rfl, rfl, rfl, by decide +kernel, rfl, by decide +kernel, by decide +kernel⟩
theorem b_first_below : BindsD "first_below" s_first_below ["one", "other"] := fun _ _ _ _ _ _ us hl => match us, hl with | [_, _], _ => rfl

abbrev s_touching : Stmt := top 62
abbrev n_touching : List Str := ["curve", "water", "own"]
theorem sc_touching : FnScope n_touching ["curve", "water"] (defScope s_touching) := ⟨rfl, rfl, rfl, by decide +kernel, rfl, by decide +kernel, by decide +kernel⟩
theorem b_touching : BindsD "touching" s_touching ["curve", "water"] := fun _ _ _ _ _ _ us hl => match us, hl with | [_, _], _ => rfl

abbrev s_excess : Stmt := top 63
abbrev n_excess : List Str := ["curve", "cost", "own", "price", "found", "corner"]
theorem sc_excess : FnScope n_excess ["curve", "cost"] (defScope s_excess) := ⟨rfl, rfl, rfl, by decide +kernel, rfl, by decide +kernel, by decide +kernel⟩
theorem b_excess : BindsD "excess" s_excess ["curve", "cost"] := fun _ _ _ _ _ _ us hl => match us, hl with | [_, _], _ => rfl

abbrev s_lower_of : Stmt := top 64
abbrev n_lower_of : List Str := ["one", "other", "points", "water"]
theorem sc_lower_of : FnScope n_lower_of ["one", "other"] (defScope s_lower_of) := ⟨rfl, rfl, rfl, by decide +kernel, rfl, by decide +kernel, by decide +kernel⟩
theorem b_lower_of : BindsD "lower_of" s_lower_of ["one", "other"] := fun _ _ _ _ _ _ us hl => match us, hl with | [_, _], _ => rfl

abbrev s_upper_of : Stmt := top 65
abbrev n_upper_of : List Str := ["one", "other", "waters", "own", "water"]
theorem sc_upper_of : FnScope n_upper_of ["one", "other"] (defScope s_upper_of) := ⟨rfl, rfl, rfl, by decide +kernel, rfl, by decide +kernel, by decide +kernel⟩
theorem b_upper_of : BindsD "upper_of" s_upper_of ["one", "other"] := fun _ _ _ _ _ _ us hl => match us, hl with | [_, _], _ => rfl

abbrev s_lesser : Stmt := top 66
abbrev n_lesser : List Str := ["one", "other", "first", "second"]
theorem sc_lesser : FnScope n_lesser ["one", "other"] (defScope s_lesser) := ⟨rfl, rfl, rfl, by decide +kernel, rfl, by decide +kernel, by decide +kernel⟩
theorem b_lesser : BindsD "lesser" s_lesser ["one", "other"] := fun _ _ _ _ _ _ us hl => match us, hl with | [_, _], _ => rfl

abbrev s_greater : Stmt := top 67
abbrev n_greater : List Str := ["one", "other", "first", "second"]
theorem sc_greater : FnScope n_greater ["one", "other"] (defScope s_greater) := ⟨rfl, rfl, rfl, by decide +kernel, rfl, by decide +kernel, by decide +kernel⟩
theorem b_greater : BindsD "greater" s_greater ["one", "other"] := fun _ _ _ _ _ _ us hl => match us, hl with | [_, _], _ => rfl

abbrev s__law_box : Stmt := top 69
abbrev n__law_box : List Str := ["script", "k", "bit_so"]
theorem sc__law_box : FnScope n__law_box ["script", "k"] (defScope s__law_box) := ⟨rfl, rfl, rfl, by decide +kernel, rfl, by decide +kernel, by decide +kernel⟩
theorem b__law_box : BindsD "_law_box" s__law_box ["script", "k"] := fun _ _ _ _ _ _ us hl => match us, hl with | [_, _], _ => rfl

abbrev s__law_take : Stmt := top 70
abbrev n__law_take : List Str := ["tin", "below_so", "drawn_so", "once_so", "wide_so", "twice_so"]
theorem sc__law_take : FnScope n__law_take ["tin", "below_so"] (defScope s__law_take) := ⟨rfl, rfl, rfl, by decide +kernel, rfl, by decide +kernel, by decide +kernel⟩
theorem b__law_take : BindsD "_law_take" s__law_take ["tin", "below_so"] := fun _ _ _ _ _ _ us hl => match us, hl with | [_, _], _ => rfl

abbrev s__law_cells : Stmt := top 71
abbrev n__law_cells : List Str := ["script", "most_so", "cells_so", "k", "bit_so", "at_so"]
theorem sc__law_cells : FnScope n__law_cells ["script", "most_so"] (defScope s__law_cells) := ⟨rfl, rfl, rfl, by decide +kernel, rfl, by decide +kernel, by decide +kernel⟩
theorem b__law_cells : BindsD "_law_cells" s__law_cells ["script", "most_so"] := fun _ _ _ _ _ _ us hl => match us, hl with | [_, _], _ => rfl

abbrev s__law_of : Stmt := top 72
abbrev n__law_of : List Str := ["tin", "goods_so"]
theorem sc__law_of : FnScope n__law_of ["tin", "goods_so"] (defScope s__law_of) := ⟨rfl, rfl, rfl, by decide +kernel, rfl, by decide +kernel, by decide +kernel⟩
theorem b__law_of : BindsD "_law_of" s__law_of ["tin", "goods_so"] := fun _ _ _ _ _ _ us hl => match us, hl with | [_, _], _ => rfl

abbrev s__law_same : Stmt := top 73
abbrev n__law_same : List Str := ["got", "due", "mine", "its"]
theorem sc__law_same : FnScope n__law_same ["got", "due"] (defScope s__law_same) := ⟨rfl, rfl, rfl, by decide +kernel, rfl, by decide +kernel, by decide +kernel⟩
theorem b__law_same : BindsD "_law_same" s__law_same ["got", "due"] := fun _ _ _ _ _ _ us hl => match us, hl with | [_, _], _ => rfl

abbrev s__law_cut : Stmt := top 74
abbrev n__law_cut : List Str := ["over_so", "parts_so", "one", "two"]
theorem sc__law_cut : FnScope n__law_cut ["over_so", "parts_so"] (defScope s__law_cut) := ⟨rfl, rfl, rfl, by decide +kernel, rfl, by decide +kernel, by decide +kernel⟩
theorem b__law_cut : BindsD "_law_cut" s__law_cut ["over_so", "parts_so"] := fun _ _ _ _ _ _ us hl => match us, hl with | [_, _], _ => rfl

abbrev s__law_plus : Stmt := top 75
abbrev n__law_plus : List Str := ["one", "two"]
theorem sc__law_plus : FnScope n__law_plus ["one", "two"] (defScope s__law_plus) := ⟨rfl, rfl, rfl, by decide +kernel, rfl, by decide +kernel, by decide +kernel⟩
theorem b__law_plus : BindsD "_law_plus" s__law_plus ["one", "two"] := fun _ _ _ _ _ _ us hl => match us, hl with | [_, _], _ => rfl

abbrev s__law_less : Stmt := top 76
abbrev n__law_less : List Str := ["one", "two"]
theorem sc__law_less : FnScope n__law_less ["one", "two"] (defScope s__law_less) := ⟨rfl, rfl, rfl, by decide +kernel, rfl, by decide +kernel, by decide +kernel⟩
theorem b__law_less : BindsD "_law_less" s__law_less ["one", "two"] := fun _ _ _ _ _ _ us hl => match us, hl with | [_, _], _ => rfl

abbrev s__law_by : Stmt := top 77
abbrev n__law_by : List Str := ["one", "two"]
theorem sc__law_by : FnScope n__law_by ["one", "two"] (defScope s__law_by) := ⟨rfl, rfl, rfl, by decide +kernel, rfl, by decide +kernel, by decide +kernel⟩
theorem b__law_by : BindsD "_law_by" s__law_by ["one", "two"] := fun _ _ _ _ _ _ us hl => match us, hl with | [_, _], _ => rfl

abbrev s__law_side : Stmt := top 78
abbrev n__law_side : List Str := ["one", "two", "gap_so"]
theorem sc__law_side : FnScope n__law_side ["one", "two"] (defScope s__law_side) := ⟨rfl, rfl, rfl, by decide +kernel, rfl, by decide +kernel, by decide +kernel⟩
theorem b__law_side : BindsD "_law_side" s__law_side ["one", "two"] := fun _ _ _ _ _ _ us hl => match us, hl with | [_, _], _ => rfl

abbrev s__law_least : Stmt := top 79
abbrev n__law_least : List Str := ["one", "two"]
theorem sc__law_least : FnScope n__law_least ["one", "two"] (defScope s__law_least) := ⟨rfl, rfl, rfl, by decide +kernel, rfl, by decide +kernel, by decide +kernel⟩
theorem b__law_least : BindsD "_law_least" s__law_least ["one", "two"] := fun _ _ _ _ _ _ us hl => match us, hl with | [_, _], _ => rfl

abbrev s__law_most : Stmt := top 80
abbrev n__law_most : List Str := ["one", "two"]
theorem sc__law_most : FnScope n__law_most ["one", "two"] (defScope s__law_most) := ⟨rfl, rfl, rfl, by decide +kernel, rfl, by decide +kernel, by decide +kernel⟩
theorem b__law_most : BindsD "_law_most" s__law_most ["one", "two"] := fun _ _ _ _ _ _ us hl => match us, hl with | [_, _], _ => rfl

abbrev s__law_amount : Stmt := top 81
abbrev n__law_amount : List Str := ["tin", "most_so", "kind_so"]
theorem sc__law_amount : FnScope n__law_amount ["tin", "most_so"] (defScope s__law_amount) := ⟨rfl, rfl, rfl, by decide +kernel, rfl, by decide +kernel, by decide +kernel⟩
theorem b__law_amount : BindsD "_law_amount" s__law_amount ["tin", "most_so"] := fun _ _ _ _ _ _ us hl => match us, hl with | [_, _], _ => rfl

abbrev s__law_size : Stmt := top 82
abbrev n__law_size : List Str := ["tin"]
theorem sc__law_size : FnScope n__law_size ["tin"] (defScope s__law_size) := ⟨rfl, rfl, rfl, by decide +kernel, rfl, by decide +kernel, by decide +kernel⟩
theorem b__law_size : BindsD "_law_size" s__law_size ["tin"] := fun _ _ _ _ _ _ us hl => match us, hl with | [_], _ => rfl

abbrev s__law_stock : Stmt := top 83
abbrev n__law_stock : List Str := ["tin", "count_so", "most_so", "k"]
theorem sc__law_stock : FnScope n__law_stock ["tin", "count_so", "most_so"] (defScope s__law_stock) := ⟨rfl, rfl, rfl, by decide +kernel, rfl, by decide +kernel, by decide +kernel⟩
theorem b__law_stock : BindsD "_law_stock" s__law_stock ["tin", "count_so", "most_so"] := fun _ _ _ _ _ _ us hl => match us, hl with | [_, _, _], _ => rfl

abbrev s_law : Stmt := top 84
abbrev n_law : List Str := ["script", "tin", "lap", "most_so", "stocks_so", "one", "two", "three", "sun_so", "light_so", "cost_so", "water_so", "both_so", "got", "due", "low_so", "high_so", "pairs_so", "high", "low", "height_so", "step_so", "rise_so", "k", "own"]
theorem sc_law : FnScope n_law ["script"] (defScope s_law) := ⟨rfl, rfl, rfl, by decide +kernel, rfl, by decide +kernel, by decide +kernel⟩
theorem b_law : BindsD "law" s_law ["script"] := fun _ _ _ _ _ _ us hl => match us, hl with | [_], _ => rfl

end B
/-! text KMac -/
set_option Elab.async false
set_option linter.all false
set_option maxRecDepth 100000
set_option autoImplicit false
namespace B
open PySem PySem.Spec PyProof.Rows L2
theorem hu_of {k : Nat} {A : Around} (h : Room k A) : A.units + 64 < cLine := by have := h.un; omega
theorem hu1_of {k : Nat} {A : Around} (h : Room k A) : A.units + 1 < cLine := by have := h.un; omega
/-! rules with the written part told -/
section
variable {X : Cx} (K : PySem.W.Frag) (hK : X.K = K)
include hK
theorem ix_sK : IxR X (rIx K) := hK ▸ ix_seq
theorem op_addK : OpR X (binaryOp .Add) (fun x y H Q => rI0 (fun i j => .int (i + j)) x y H Q ∨ (fun x y H Q => rCat x y H Q ∨ rCatA K x y H Q) x y H Q) := hK ▸ op_add.or (op_cat.or op_catA)
theorem op_eqK (hu : X.A.units + 64 < cLine) : OpR X (compareOp .Eq) (fun x y H Q => rEq x y H Q ∨ rEqD K x y H Q) := hK ▸ op_eqA (hu := hu)
theorem op_neK (hu : X.A.units + 64 < cLine) : OpR X (compareOp .NotEq) (fun x y H Q => rNe x y H Q ∨ rNeD K x y H Q) := hK ▸ op_neA (hu := hu)
theorem pg_tupK {pos : Pos} {es : List Expr} {k : Nat} {t : TGs} {n : Nat} (hc : X.calm = true) (h : PGs X es t)
    (hn : (assignEach es X.env).length = n := by rfl) (hst : (assignEach es X.env).findIdx? (·.1) = none := by rfl) : PG X (.Tuple es k pos) (gTup K n t) := hK ▸ pg_tup hc h hn hst
theorem pi_anyK {tg l : Expr} {tl : TE} (hl : PE X l tl) : PI X tg l (iAny K tl) := hK ▸ pi_any hl
end
theorem o_catA {K : PySem.W.Frag} {xs ys : List Dt} (hl : xs.length + ys.length ≤ sizeLine) : Op2 K (rCatA K) (.tup xs) (.tup ys) (.val (.tup (xs ++ ys))) := fun H M u v mok hu hv Q q => by
  obtain ⟨a, vs, e1, e2, e3⟩ := hu
  obtain ⟨b, ws, f1, f2, f3⟩ := hv
  refine ⟨a, b, vs, ws, e1, f1, e2, f2, by rw [e3.length, f3.length]; exact hl, fun z => ?_, fun _ z => ?_, fun _ _ c hc => res_newT mok (e3.append f3) q hc⟩
  · have x0 : xs = [] := by
      have := e3.length
      rw [z] at this
      exact List.eq_nil_of_length_eq_zero this.symm
    subst x0
    exact q _ H M .refl mok ⟨b, ws, rfl, f2, f3⟩
  · have y0 : ys = [] := by
      have := f3.length
      rw [z] at this
      exact List.eq_nil_of_length_eq_zero this.symm
    subst y0
    refine q _ H M .refl mok ⟨a, vs, rfl, e2, ?_⟩
    rw [List.append_nil]
    exact e3
/-! how a fraction is compared -/
def sideI (a b : Rat) : Int := if a = b then 0 else if a < b then -1 else 1
theorem sideI_le {a b : Rat} : decide (sideI a b ≤ 0) = decide (a ≤ b) := by
  unfold sideI
  by_cases h : a = b
  · rw [if_pos h]; simp [h, Rat.le_refl]
  · rw [if_neg h]
    by_cases h2 : a < b
    · rw [if_pos h2]; simp [Rat.le_of_lt h2]
    · rw [if_neg h2]
      have : ¬ a ≤ b := fun z => by
        have := Rat.le_iff_lt_or_eq.mp z
        grind
      simp [this]
theorem sideI_ge {a b : Rat} : decide (0 ≤ sideI a b) = decide (b ≤ a) := by
  unfold sideI
  by_cases h : a = b
  · rw [if_pos h]; simp [h, Rat.le_refl]
  · rw [if_neg h]
    by_cases h2 : a < b
    · rw [if_pos h2]; simp [Rat.not_le.mpr h2]
    · rw [if_neg h2]
      have : b ≤ a := Rat.not_lt.mp h2
      simp [this]
theorem sideI_lt {a b : Rat} : decide (sideI a b < 0) = decide (a < b) := by
  unfold sideI
  by_cases h : a = b
  · rw [if_pos h]; simp [h, Rat.lt_irrefl]
  · rw [if_neg h]
    by_cases h2 : a < b
    · rw [if_pos h2]; simp [h2]
    · rw [if_neg h2]; simp [h2]
theorem sideI_gt {a b : Rat} : decide (0 < sideI a b) = decide (b < a) := by
  unfold sideI
  by_cases h : a = b
  · rw [if_pos h]; simp [h, Rat.lt_irrefl]
  · rw [if_neg h]
    by_cases h2 : a < b
    · rw [if_pos h2]
      have := Rat.le_of_lt h2
      have h3 : ¬ b < a := Rat.not_lt.mpr this
      simp [h3]
    · rw [if_neg h2]
      have : b < a := by
        have h4 := Rat.not_lt.mp h2
        rcases Rat.le_iff_lt_or_eq.mp h4 with z | z
        · exact z
        · exact absurd z.symm h
      simp [this]
theorem cross_lt (a b : Rat) : (a.num * (b.den : Int) < b.num * (a.den : Int)) ↔ a < b := (Rat.lt_iff ..).symm
theorem cross_eq (a b : Rat) : (a.num * (b.den : Int) = b.num * (a.den : Int)) ↔ a = b := by
  have ha := a.den_pos
  have hb := b.den_pos
  constructor
  · intro h
    have h1 : a ≤ b := (Rat.le_iff a b).mpr (Int.le_of_eq h)
    have h2 : b ≤ a := (Rat.le_iff b a).mpr (Int.le_of_eq h.symm)
    exact Rat.le_antisymm h1 h2
  · intro h; rw [h]
theorem enc_inj {a b : Rat} (h : enc a = enc b) : a = b := by
  unfold enc at h
  injection h with h
  injection h with h1 h2
  injection h1 with h1
  injection h2 with h2
  injection h2 with h2
  exact Rat.ext h1 (by omega)
section
variable {P : Program} {w : World} {K : PySem.W.Frag} {mg : Str → Option Value} {base : Heap} {vN vS : V}
theorem seer_in (T : Txt P w K mg base vN vS) {x : Str} {sc : Scope} {n : Nat} {f : Addr} {cdv : Value} {A : Around} {k : Nat} (outer : List Env) (hr : Room k (A.deeper (envOfC x sc n f cdv))) (hk : 32 ≤ k) (h1 : sc.isGenerator = false) (h2 : sc.isCoroutine = false) :
    Seer P w (A.deeper (envOfC x sc n f cdv)) base (envOfC x sc n f cdv :: outer) := seer_of T.ns T.nl T.tree hr hk h1 h2 rfl rfl
end
section
variable {C : Cc} {ρ ρ' ρ1 ρ2 : En} {o : Out}
/-- nothing known -/
def blank (n : Nat) : En := List.replicate n none
theorem blank_no {n i : Nat} {s : Slot} : (blank n)[i]? ≠ some (some s) := fun h => by
  unfold blank at h
  rw [List.getElem?_replicate] at h
  split at h <;> cases h
theorem EnvOk.blank {σ : L2.St} {H : Hp} {M : MS} (e : EnvOk C H M σ ρ) {n : Nat} (h : ρ.length = n) : EnvOk C H M σ (B.blank n) :=
  ⟨e.mok, by unfold B.blank; rw [List.length_replicate, ← h]; exact e.len, fun i s q => absurd q blank_no, fun i j s t a q => absurd q blank_no, fun i s a q => absurd q blank_no, e.fzd⟩
theorem x_blank {t : TS} {r : R} {n : Nat} (h : Ex C t ρ (.rt r ρ')) (hl : ρ'.length = n) : Ex C t ρ (.rt r (blank n)) := fun σ H M e D q =>
  h σ H M e D fun v σ' H' M' po k => q v σ' H' M' ⟨po.env.blank hl, po.nxt, fun a ⟨i, ds, h1, _⟩ => absurd h1 blank_no⟩ k
theorem y_ret {t : TE} {d : Dt} {n : Nat} (h : Ev C true t ρ (.val d) ρ1) (hl : ρ1.length = n := by rfl) : Ex C (tRet t) ρ (.rt (.val d) (blank n)) := x_blank (x_ret h) hl
theorem y_retF {t : TE} {ds : List Dt} {n : Nat} (h : Ev C true t ρ (.fr ds) ρ1) (hl : ρ1.length = n := by rfl) : Ex C (tRet t) ρ (.rt (.fr ds) (blank n)) := x_blank (x_retF h) hl
theorem y_retO {i : Nat} {ds : List Dt} {n : Nat} (hi : ρ[i]? = some (some (.own ds))) (hp : C.np ≤ i := by exact Nat.zero_le _) (hl : ρ.length = n := by rfl) : Ex C (tRet (tVar i)) ρ (.rt (.fr ds) (blank n)) := x_blank (x_retO hi hp) hl
theorem fin_rt {t : TS} {r : R} (h : Ex C t ρ (.rt r (blank ρ.length))) : FinX C t ρ r := .inl ⟨_, h⟩
theorem y_set {i : Nat} {t : TE} {d : Dt} (h : Ev C true t ρ (.val d) ρ1) (hi : i < ρ1.length := by exact ltb rfl) : Ex C (tAsg t (gName i)) ρ (.nx (ρ1.set i (some (.val d)))) := x_set h hi
theorem y_setN {i : Nat} {t : TE} {d : Dt} (h : Ev C true t ρ (.val d) ρ1) (hi : i < ρ1.length := by exact ltb rfl) (e : ρ1.set i (some (.val d)) = ρ') : Ex C (tAsg t (gName i)) ρ (.nx ρ') := x_setN h hi e
theorem y_if {c : TT} {t u : TS} {b : Bool} (h : EvT C true c ρ b ρ1) (h1 : b = true → Ex C t ρ1 o) (h0 : b = false → Ex C u ρ1 o) : Ex C (tIfS c t u) ρ o := x_if h h1 h0
theorem y_ifT {c : TT} {t u : TS} (h : EvT C true c ρ true ρ1) (h1 : Ex C t ρ1 o) : Ex C (tIfS c t u) ρ o := x_ifT h h1
theorem y_ifF {c : TT} {t u : TS} (h : EvT C true c ρ false ρ1) (h1 : Ex C u ρ1 o) : Ex C (tIfS c t u) ρ o := x_ifF h h1
theorem ys_if {c : TT} {t u r : TS} {b : Bool} (h : EvT C true c ρ b ρ1) (h1 : b = true → Ex C t ρ1 o) (hs : o.stops = true) (h0 : b = false → Ex C u ρ1 (.nx ρ2)) (h2 : b = false → Ex C r ρ2 o) : Ex C (tSeq (tIfS c t u) r) ρ o := xs_if h h1 hs h0 h2
theorem y_par {i j : Nat} {t : TA} {d1 d2 : Dt} (h : EvA C true t ρ [d1, d2] ρ1) (hi : i < ρ1.length := by exact ltb rfl) (hj : j < ρ1.length := by exact ltb rfl) : Ex C (tPar i j t) ρ (.nx ((ρ1.set i (some (.val d1))).set j (some (.val d2)))) := x_par h hi hj
theorem y_asg {t : TE} {g : TG} {ts : List Nat} {d : Dt} (h : Ev C true t ρ (.val d) ρ1) (hg : EvG C g ts d ρ1 ρ2) : Ex C (tAsg t g) ρ (.nx ρ2) := x_asg h hg
theorem y_for {wi : TI} {g : TG} {tb : TS} {ds : List Dt} (hi : EvI C true wi ρ ds ρ1) (h : ForX (TurnX C g tb) ds ρ1 o) : Ex C (tFor wi g tb) ρ o := x_for hi h
/-- if of two values -/
theorem e_ifV {t : TT} {ta tb : TE} {b : Bool} {p : Bool} {x y : Dt} (h : EvT C p t ρ b ρ1) (h1 : b = true → Ev C p ta ρ1 (.val x) ρ2) (h0 : b = false → Ev C p tb ρ1 (.val y) ρ2) : Ev C p (tIf t ta tb) ρ (.val (if b then x else y)) ρ2 :=
  e_if h (fun z => by rw [if_pos z]; exact h1 z) (fun z => by rw [if_neg (by rw [z]; decide)]; exact h0 z)
end
/-! comprehensions over one name, over two names -/
section
variable {C : Cc} {p : Bool} {ρ ρ' ρ1 ρ2 : En} {o : Out}
theorem back_of {vs : List Nat} {ρ3 : En} (h1 : ∀ j, j ∈ vs → ∀ ds, ρ[j]? ≠ some (some (.own ds))) (h2 : ∀ j, j ∉ vs → ρ3[j]? = ρ[j]?) : BackE vs ρ ρ3 ρ := ⟨rfl, fun j hj => ⟨rfl, h1 j hj⟩, fun j hj => (h2 j hj).symm⟩
theorem wipeE_out {vs : List Nat} {j : Nat} (h : j ∉ vs) : (wipeE ρ vs)[j]? = ρ[j]? := by
  induction vs with
  | nil => rfl
  | cons v vs ih =>
    unfold wipeE
    rw [List.getElem?_set_ne fun z => h (by rw [z]; exact List.mem_cons_self ..)]
    exact ih fun z => h (List.mem_cons_of_mem _ z)
theorem set_out {i j : Nat} {x : Option Slot} (h : j ≠ i) : (ρ.set i x)[j]? = ρ[j]? := List.getElem?_set_ne (Ne.symm h)
theorem e_lc1 {α : Type} {wi : TI} {te : TE} {i : Nat} {f h : α → Dt} {xs : List α} (hi : EvI C p wi ρ (xs.map f) ρ) (he : ∀ x, x ∈ xs → Ev C p te ((wipeE ρ [i]).set i (some (.val (f x)))) (.val (h x)) ((wipeE ρ [i]).set i (some (.val (f x)))))
    (hz : xs.length < sizeLine) (hn : ∀ ds, ρ[i]? ≠ some (some (.own ds)) := by exact fun _ h => nomatch h) (hl : i < ρ.length := by exact ltb rfl) : Ev C p (tLc wi (gName i) tYes te [i]) ρ (.fr (xs.map h)) ρ :=
  e_lc (ts := [i]) hi (lcx_map (env := fun x => (wipeE ρ [i]).set i (some (.val (f x)))) fun x hx => ⟨g_name (by rw [wipeE_length]; exact hl), he x hx, back_of (fun j hj => by rw [List.mem_singleton.mp hj]; exact hn) fun j hj => by
    rw [set_out fun z => hj (by rw [z]; exact List.mem_singleton_self _)]
    exact wipeE_out hj⟩) (fun j hj => hj) (by rw [List.length_map]; exact hz)
theorem e_lcf1 {α : Type} {wi : TI} {te : TE} {tt : TT} {i : Nat} {f h : α → Dt} {c : α → Bool} {xs : List α} (hi : EvI C p wi ρ (xs.map f) ρ) (ht : ∀ x, x ∈ xs → EvT C p tt ((wipeE ρ [i]).set i (some (.val (f x)))) (c x) ((wipeE ρ [i]).set i (some (.val (f x)))))
    (he : ∀ x, x ∈ xs → c x = true → Ev C p te ((wipeE ρ [i]).set i (some (.val (f x)))) (.val (h x)) ((wipeE ρ [i]).set i (some (.val (f x)))))
    (hz : xs.length < sizeLine) (hn : ∀ ds, ρ[i]? ≠ some (some (.own ds)) := by exact fun _ h => nomatch h) (hl : i < ρ.length := by exact ltb rfl) : Ev C p (tLc wi (gName i) tt te [i]) ρ (.fr ((xs.filter c).map h)) ρ :=
  e_lc (ts := [i]) hi (lcx_filter (env := fun x => (wipeE ρ [i]).set i (some (.val (f x)))) fun x hx => ⟨g_name (by rw [wipeE_length]; exact hl), ht x hx, he x hx, back_of (fun j hj => by rw [List.mem_singleton.mp hj]; exact hn) fun j hj => by
    rw [set_out fun z => hj (by rw [z]; exact List.mem_singleton_self _)]
    exact wipeE_out hj⟩) (fun j hj => hj) (by rw [List.length_map]; exact hz)
/-- for a, b in .. -/
theorem e_lc2 {α : Type} {wi : TI} {te : TE} {i j : Nat} {f1 f2 h : α → Dt} {xs : List α} (hi : EvI C p wi ρ (xs.map fun x => .tup [f1 x, f2 x]) ρ) (he : ∀ x, x ∈ xs → Ev C p te (((wipeE ρ [i, j]).set i (some (.val (f1 x)))).set j (some (.val (f2 x)))) (.val (h x)) (((wipeE ρ [i, j]).set i (some (.val (f1 x)))).set j (some (.val (f2 x)))))
    (hz : xs.length < sizeLine) (hn : ∀ k, k ∈ [i, j] → ∀ ds, ρ[k]? ≠ some (some (.own ds))) (hl : i < ρ.length := by exact ltb rfl) (hl2 : j < ρ.length := by exact ltb rfl) : Ev C p (tLc wi (gTup C.K 2 (gCons (gName i) (gCons (gName j) gNil))) tYes te [i, j]) ρ (.fr (xs.map h)) ρ :=
  e_lc (ts := [i] ++ ([j] ++ [])) hi (lcx_map (env := fun x => ((wipeE ρ [i, j]).set i (some (.val (f1 x)))).set j (some (.val (f2 x)))) fun x hx => ⟨g_tup (gs_cons (g_name (by rw [wipeE_length]; exact hl)) (gs_cons (g_name (by rw [List.length_set, wipeE_length]; exact hl2)) gs_nil)), he x hx, back_of hn fun k hk => by
    rw [set_out fun z => hk (by rw [z]; simp), set_out fun z => hk (by rw [z]; simp)]
    exact wipeE_out hk⟩) (fun k hk => hk) (by rw [List.length_map]; exact hz)
end
theorem min_if (a b : Rat) : min a b = if a ≤ b then a else b := by
  show (if _ then _ else _) = _
  rfl
theorem max_if (a b : Rat) : max a b = if b ≤ a then a else b := by
  by_cases h : b ≤ a
  · rw [if_pos h]; grind
  · rw [if_neg h]; grind
theorem num_zero_iff {a : Rat} : a.num = 0 ↔ a = 0 := Rat.num_eq_zero
end B
/-! text HdL -/
set_option Elab.async false
set_option linter.all false
set_option maxRecDepth 100000
set_option autoImplicit false
/-! The head: what the top leaves, read at told addresses. -/
namespace B
open PySem PySem.Spec PyProof.Rows L2
/-- a def of the top, and where it stands -/
structure DR where
  x : Str
  a : Addr
  st : Stmt
def DR.dd (d : DR) : He.DefD := ⟨(d.x, none), d.x, d.x, defArgs d.st, defBody d.st, defScope d.st, [], []⟩
def DR.got (K : PySem.W.Frag) (d : DR) : He.FnW := match K.lookup d.a with
  | some o => (match o.data with
    | .func z => some (z.name, z.qualname, z.params, z.body, z.scope, z.globals, z.closure, z.builtins)
    | _ => none)
  | none => none
def DR.ok (K : PySem.W.Frag) (d : DR) : Bool := He.eqO (PySem.W.nsIn K mainGlobals d.x) (some (some (.ref d.a))) && (match K.lookup d.a with
  | some o => (match o.data with
    | .func z => PySem.W.codeIn K z.code d.x && (He.dflB K z.defaults [] && He.kwdB K z.kwdefaults [])
    | _ => false)
  | none => false)
theorem DR.glo {K : PySem.W.Frag} {d : DR} (h : d.ok K = true) : PySem.W.nsIn K mainGlobals d.x = some (some (.ref d.a)) := He.eqO_ok (He.ba h).1
theorem DR.funD {K : PySem.W.Frag} {d : DR} (e : d.got K = d.dd.val) (h : d.ok K = true) : ∃ fd, FunD K d.x d.x (defArgs d.st) (defBody d.st) (defScope d.st) [] [] d.a fd := by
  have eg : He.fAd K (d.x, none) = d.a := by
    show He.ga K d.x = d.a
    unfold He.ga
    rw [DR.glo h]
  obtain ⟨_, h2⟩ := He.ba h
  cases q : K.lookup d.a with
  | none => rw [q] at h2; cases h2
  | some o =>
    obtain ⟨oc, od, dt, sl⟩ := o
    unfold DR.got at e
    rw [q] at h2 e
    cases dt with
    | func z =>
      have hk : PySem.W.keepIn K (.ref d.a) = true := by
        unfold PySem.W.keepIn
        dsimp only
        rw [q]
      have r := He.DefD.funD (K := K) (d := d.dd) (by
        unfold He.fnW
        rw [show He.fAd K d.dd.at_ = d.a from eg, q]
        exact e) (by
        unfold He.DefD.ok
        rw [show He.fAd K d.dd.at_ = d.a from eg, hk, q]
        exact h2)
      rw [show He.fAd K d.dd.at_ = d.a from eg] at r
      exact r
    | _ => cases h2
/-- a tuple at an address -/
def tupA (K : PySem.W.Frag) (a : Addr) (vs : List V) : Bool := match K.lookup a with
  | some o => (match o.cls, o.data with
    | .type c, .seq its _ => c == "tuple" && (Nat.ble its.size sizeLine && He.relAll vs its.toList)
    | _, _ => false)
  | none => false
theorem tupA_ok {K : PySem.W.Frag} {a : Addr} {vs : List V} (h : tupA K a vs = true) (H : Hp) : SqT K H a vs := by
  unfold tupA at h
  cases q : K.lookup a with
  | none => rw [q] at h; cases h
  | some o =>
    obtain ⟨oc, od, dt, sl⟩ := o
    rw [q] at h
    cases oc with
    | type c =>
      cases dt with
      | seq its n =>
        have h' : (c == "tuple" && (Nat.ble its.size sizeLine && He.relAll vs its.toList)) = true := h
        obtain ⟨h1, h2⟩ := He.ba h'
        obtain ⟨h3, h4⟩ := He.ba h2
        refine .inr ⟨_, its, n, q, ?_, rfl, Nat.le_of_ble_eq_true h3, He.relAll_ok h4⟩
        rw [eq_of_beq h1]
      | _ => cases h
    | _ => cases dt <;> cases h
/-- what is looked at: values of names, tuples, defs -/
structure Look where
  is : List Addr
  glo : List (Str × Option Value)
  tup : List (Addr × List V)
  fn : List DR
def Look.chk (l : Look) (K : PySem.W.Frag) : Bool := (l.is.all fun a => (K.lookup a).isSome) && ((l.glo.all fun g => He.eqO (PySem.W.nsIn K mainGlobals g.1) (some g.2)) && ((l.tup.all fun t => tupA K t.1 t.2) && l.fn.all fun d => d.ok K))
def Look.obs (l : Look) (K : PySem.W.Frag) : Bool × List He.FnW := (l.chk K, l.fn.map fun d => d.got K)
def Look.val (l : Look) : Bool × List He.FnW := (true, l.fn.map fun d => d.dd.val)
def Look.hook (l : Look) (as : List Addr) : PySem.W.Hook where
  α := Bool × List He.FnW
  obs := fun s => l.obs (He.frG s.heap.get? as)
  val := fun _ => l.val
  says := fun _ h => ∃ K : PySem.W.Frag, K.In h ∧ l.obs K = l.val
  of := fun _ _ e => ⟨_, He.frG_in, e⟩
  keeps := fun _ _ _ ⟨K, hK, c⟩ k => ⟨K, PySem.W.Frag.In.keeps hK k, c⟩
def Look.ob (l : Look) (as : List Addr) (s : PySem.W.SharedT) : Bool × List He.FnW := l.obs (He.frG (HandSHeadRun.getT s) as)
theorem Look.ob_eq (l : Look) (as : List Addr) (s : PySem.W.SharedT) : l.ob as s = (l.hook as).obs s.abs := by
  have e : HandSHeadRun.getT s = s.abs.heap.get? := funext (HandSHeadRun.getT_eq s)
  unfold Look.ob
  rw [e]
  rfl
section
variable {l : Look} {K : PySem.W.Frag} (h : l.obs K = l.val)
include h
theorem Look.chk_ok : (l.is.all fun a => (K.lookup a).isSome) = true ∧ (l.glo.all fun g => He.eqO (PySem.W.nsIn K mainGlobals g.1) (some g.2)) = true ∧ (l.tup.all fun t => tupA K t.1 t.2) = true ∧ (l.fn.all fun d => d.ok K) = true := by
  have c : l.chk K = true := congrArg (fun z : Bool × List He.FnW => z.1) h
  obtain ⟨c0, c⟩ := He.ba c
  obtain ⟨c1, c2⟩ := He.ba c
  obtain ⟨c3, c4⟩ := He.ba c2
  exact ⟨c0, c1, c3, c4⟩
theorem Look.is_at (i : Nat) {a : Addr} (e : l.is[i]? = some a := by rfl) : (K.lookup a).isSome = true := List.all_eq_true.mp (Look.chk_ok h).1 a (List.mem_of_getElem? e)
theorem Look.val_at (i : Nat) {x : Str} {v : Option Value} (e : l.glo[i]? = some (x, v) := by rfl) : PySem.W.nsIn K mainGlobals x = some v :=
  He.eqO_ok (List.all_eq_true.mp (Look.chk_ok h).2.1 (x, v) (List.mem_of_getElem? e))
theorem Look.tup_at (i : Nat) {a : Addr} {vs : List V} (e : l.tup[i]? = some (a, vs) := by rfl) (H : Hp) : SqT K H a vs :=
  tupA_ok (List.all_eq_true.mp (Look.chk_ok h).2.2.1 (a, vs) (List.mem_of_getElem? e)) H
theorem Look.def_at (i : Nat) {d : DR} (e : l.fn[i]? = some d := by rfl) : PySem.W.nsIn K mainGlobals d.x = some (some (.ref d.a)) ∧ ∃ fd, FunD K d.x d.x (defArgs d.st) (defBody d.st) (defScope d.st) [] [] d.a fd := by
  have c := List.all_eq_true.mp (Look.chk_ok h).2.2.2 d (List.mem_of_getElem? e)
  have e1 : (l.fn.map fun d => d.got K) = l.fn.map fun d => d.dd.val := congrArg (fun z : Bool × List He.FnW => z.2) h
  have e2 : (l.fn.map fun d => d.got K)[i]? = (l.fn.map fun d => d.dd.val)[i]? := by rw [e1]
  rw [List.getElem?_map, List.getElem?_map, e] at e2
  exact ⟨DR.glo c, DR.funD (Option.some.inj e2) c⟩
theorem Look.def_is {mg : Str → Option Value} {hp : Heap} (X : K.In hp) (G : hp.Ns mainGlobals mg) (i : Nat) {d : DR} (e : l.fn[i]? = some d := by rfl) : DefIs K mg d.x d.st := by
  obtain ⟨g, fd, F⟩ := Look.def_at h i e
  exact ⟨d.a, fd, F, PySem.W.mg_of X G g⟩
end
/-! one run, looked at in parts -/
theorem map3 {α β γ δ : Type} {o : Option α} {f : α → β} {g : α → γ} {k : α → δ} {b : β} {c : γ} {d : δ} (h1 : o.map f = some b) (h2 : o.map g = some c) (h3 : o.map k = some d) : o.map (fun x => (f x, g x, k x)) = some (b, c, d) := by
  cases o with
  | none => cases h1
  | some x =>
    cases h1; cases h2; cases h3
    rfl
/-! the end -/
theorem ns_move {K : PySem.W.Frag} {h base : Heap} {a : Addr} {m : Str → Option Value} (X : K.In h) (Y : K.In base) (e : (K.lookup a).isSome = true) (n : h.Ns a m) : base.Ns a m := by
  obtain ⟨o, es, ep, h1, h2⟩ := n
  obtain ⟨o2, e2⟩ := Option.isSome_iff_exists.mp e
  have h3 := X a o2 e2
  rw [h1] at h3
  cases h3
  exact ⟨o, es, ep, Y a o e2, h2⟩
theorem seer_move {K : PySem.W.Frag} {h base : Heap} {bm : Addr} (X : K.In h) (Y : K.In base) (e1 : (K.lookup cStatics).isSome = true) (e2 : (K.lookup sysModules).isSome = true) (e3 : (K.lookup builtinsNs).isSome = true) (e4 : (K.lookup mainGlobals).isSome = true) (e5 : (K.lookup bm).isSome = true) (e6 : PySem.W.nsIn K mainGlobals "__builtins__" = some (some (.ref bm))) (n : h.NoSeer) : base.NoSeer where
  statics := by
    obtain ⟨mc, q1, q2⟩ := n.statics
    exact ⟨mc, ns_move X Y e1 q1, q2⟩
  mods := by
    obtain ⟨mc, q1, q2⟩ := n.mods
    exact ⟨mc, ns_move X Y e2 q1, q2⟩
  imp := by
    obtain ⟨mc, q1, q2⟩ := n.imp
    exact ⟨mc, ns_move X Y e3 q1, q2⟩
  main := by
    obtain ⟨mc, b, ob, q1, q2, q3, q4⟩ := n.main
    have e7 := PySem.W.mg_of X q1 e6
    rw [q2] at e7
    have eb : b = bm := Value.ref.inj (Option.some.inj e7)
    obtain ⟨o2, z⟩ := Option.isSome_iff_exists.mp e5
    rw [← eb] at z
    have h3 := X b o2 z
    rw [q3] at h3
    cases h3
    exact ⟨mc, b, ob, ns_move X Y e4 q1, q2, Y b ob z, q4⟩
theorem limit_move {K : PySem.W.Frag} {h base : Heap} (X : K.In h) (Y : K.In base) (e1 : (K.lookup cStatics).isSome = true) (n : h.NoLimit) : base.NoLimit := by
  obtain ⟨mc, q1, q2⟩ := n
  exact ⟨mc, ns_move X Y e1 q1, q2⟩
theorem walk_ofS {l : PySem.W.OpenLaw} {n k : Nat} {q : Program} {loose : List Str} {XP : (Str → Option Value) → Heap → Prop} {YP : World → Heap → Prop} {d : DefRec} {CX : CXT} {x : Str} (hn : l.most = some n) (hn2 : n ≤ sizeLine) (hdf : d.params.defaults = []) (hr : Room k callerA) (hi : importsNone q = true)
    (F : ∀ (w : World) (mg : Str → Option Value) (fa : Addr) (h : Heap), YP w h → h.NoSeer → h.NoLimit → h.Ns mainGlobals mg → mg d.name = some (.ref fa) → ∃ (K : PySem.W.Frag) (fd : FuncData) (sp : Sp), K.In h ∧ (∀ (s : Shared) (u : Value), BindsTo s fd ⟨[u], []⟩ [(x, u)]) ∧ (∀ (H : Hp) (a : Addr) (ns : List Int), ns.length ≤ n → (∀ z ∈ ns, Builtin.Int.intBits z ≤ 1048576) → SqL K H a (ns.map V.int) → sp [.ref a] H (fun v _ => v = .bl true) fun _ _ _ => False) ∧ ∀ base : Heap, K.In base → base.Ns mainGlobals mg → FnOk l.prog w K mg base CX k fa fd [x] sp)
    (hCX : ∀ (H : Hp) (s : Shared) (e : Value) (s' : Shared), CX [] H s (fun _ _ _ => False) e s' → False) : PySem.W.WalkO q loose XP YP l.row.toRowW d [] (fun f vs => PySem.call f vs) := by
  refine Att.attach_callB hn hdf ?_
  intro w s₀ s₁ mg mb fa o pm cd doc a vs ns G Y _ _ _ hmg hobj hints hlen hbits hg
  obtain ⟨K, fd, sp, KX, hb, hsp, hF⟩ := F w mg fa _ Y (G.T.seer hi) G.T.nolimit G.T.g hmg
  exact law_call KX G.T.g G.T.b G.T.builtins G.T.nolimit hg hobj hints (Nat.le_trans hlen hn2) hr hF hb (fun H _ hS => hsp H a ns hlen hbits hS) (fun H e s' => hCX H s₁ e s')
theorem reps_int {K : PySem.W.Frag} {H : Hp} {M : MS} : ∀ ns : List Int, Reps K H M (ns.map Dt.int) (ns.map V.int)
  | [] => rfl
  | n :: ns => ⟨_, _, rfl, rfl, reps_int ns⟩
/-- the promise of a law's own def -/
theorem law_sp {K : PySem.W.Frag} {S : List Dt → R → Prop} {H : Hp} {a : Addr} {ns : List Int} {E : XK} (hS : SqL K H a (ns.map V.int)) (h : S [.ro (ns.map .int)] (.val (.bl true))) : spP K S [.ref a] H (fun v _ => v = .bl true) E :=
  ⟨fun _ => False, [.ro (ns.map .int)], .val (.bl true), fun _ z => z.elim, ⟨_, _, rfl, ⟨a, _, rfl, .of hS, reps_int ns⟩, rfl⟩, h, fun v H' M' _ _ z => z⟩
end B
/-! text BLcm -/
set_option Elab.async false
set_option linter.all false
set_option maxRecDepth 100000
set_option autoImplicit false
namespace B
open PySem PySem.Spec PyProof.Rows L2
theorem lcm_run {P : Program} {w : World} {A : Around} {E : Value → Shared → Prop} {s : Shared} {Q : Value → Shared → Prop} {a b : Int} {t u : Tok}
    (room : ∀ (n : Nat) (E : Value → Shared → Prop) (Q : Unit → Shared → Prop), Q () s → wpAny (model P w) A.in1 (Builtin.roomForPylongsInverse n) Q E s)
    (hsz : (((Nat.lcm 1 a.natAbs).lcm b.natAbs : Nat) : Int).natAbs.log2 < bitsLine)
    (h : Q (.int (((Nat.lcm 1 a.natAbs).lcm b.natAbs : Nat) : Int) s.toks) { s with toks := s.toks + 1 }) : wpAny (model P w) A (call (.builtin "math.lcm") [.int a t, .int b u]) Q E s := by
  refine PySem.Calls.call_function_entry PySem.W.MGF.kind_lcm PySem.W.MGF.plain_lcm PySem.W.MGF.entry_lcm (PySem.W.MGF.args_lcm _ _) ?_
  unfold Builtin.«math.lcm»
  generalize Builtin.roomForPylongsInverse = RP at room ⊢
  obtain ⟨hp, g, d, tk, os⟩ := s
  wp_walk
  refine room _ _ _ ?_
  wp_walk
  refine room _ _ _ ?_
  wp_walk
  refine wpAny_ite_false (decide_eq_false (Nat.not_le.mpr hsz)) ?_
  wp_walk
  exact ⟨_, rfl, h⟩
section
variable {X : Cx}
def rLcm : List V → Hp → VK → Prop := fun vs H Q => ∃ a b : Int, vs = [.int a, .int b] ∧ (Nat.lcm a.natAbs b.natAbs).log2 < bitsLine ∧ Q (.int ((Nat.lcm a.natAbs b.natAbs : Nat) : Int)) H
theorem cr_lcm (hs : Seer X.prog X.w X.A X.base X.stack) : CallR X (.builtin "math.lcm") rLcm := by
  intro pins s σ H vs us Q I r h
  obtain ⟨a, b, rfl, hz, q⟩ := h
  obtain ⟨t, u, rfl⟩ := Vals.int2 r
  have e : (Nat.lcm 1 a.natAbs).lcm b.natAbs = Nat.lcm a.natAbs b.natAbs := by rw [Nat.lcm_one_left]
  refine lcm_run (fun n E Q q => ?_) (by rw [e, Int.natAbs_natCast]; exact hz) (by rw [e]; exact ⟨.int _, H, I.tok _, ⟨_, rfl⟩, q⟩)
  exact hs.inv I.ok.frames s I.bk (X.A.units + 1) n E Q q
/-! sets of a list's ints, sorted -/
def rSetL (K : PySem.W.Frag) (w : World) : List V → Hp → VK → Prop := fun vs H Q => ∃ (a : Addr) (ns : List Int), vs = [.ref a] ∧ SqL K H a (ns.map V.int) ∧ ns.length + 1 < scanBound ∧
  ∀ (p : Addr) (n : Nat), H p = none → n ≤ ns.length → Q (.ref p) (upd H p (SetO w p (fun j => decide (j ∈ ns)) n))
end
end B
/-! text BSet -/
set_option Elab.async false
set_option linter.all false
set_option maxRecDepth 100000
set_option autoImplicit false
namespace L2
open PySem PySem.Spec PyProof.Rows
section
variable {P : Program} {w : World} {A : Around} {E : Value → Shared → Prop} {s : Shared}
set_option maxHeartbeats 3200000 in
theorem call_set_lstI {l : Addr} {items : Array Value} (ns : List Int) {Q : Value → Shared → Prop} (hh : A.handled = none) (hl : s.heap.IsList l items) (hit : IntsAre items.toList ns) (hb : ns.length + 1 < scanBound)
    (h : ∀ (h' : Heap) (tk c : Nat), SetR w h' s.heap.objs.size (fun j => decide (j ∈ ns)) c → c ≤ ns.length → (∀ b o, s.heap.get? b = some o → h'.get? b = some o) → Q (.ref s.heap.objs.size) { s with heap := h', toks := tk }) :
    wpAny (model P w) A (call (.type "set") [.ref l]) Q E s := by
  have hisz : items.size = ns.length := by
    have q := IntsAre.length hit
    rw [Array.length_toList] at q
    exact q
  obtain ⟨c, tl, hmro⟩ := F.called_set.mro
  have hmade := F.called_set.made
  have hsub := F.called_set.sub
  refine wpAny_call (codeAny_of_tree ?_)
  show wpAny _ _ (callAny (.type "set") _) _ _ _
  refine wpAny_pure ⟨Code.quiet_builtin _ (by decide +kernel), codeAny_builtin F.entry_type_call ?_⟩
  rw [Around.under_plain (weight_type_call_type "set" [.ref l] []) rfl]
  have h1 := F.called_set.notType
  have h2 := F.called_set.canCreate
  have hct := F.typeCall_set_1 (.ref l)
  repeat (any_goals (first | assumption | wp_step))

  refine codeAny_mono (code_set_led1 (.ref l) (E := E) (Q₁ := fun obj s₁ => obj = .ref s.heap.objs.size ∧ s₁ = { s with heap := s.heap.push { cls := .type "set", dict := none, data := .set #[] 0 (.fresh 0 0 (!w.params.followText "set-order")) } }) ⟨rfl, rfl⟩) fun r s₁ hr => ?_
  cases r with
  | error e => exact hr
  | ok fl =>
    cases fl with
    | ret obj =>
      obtain ⟨rfl, rfl⟩ := hr
      have hS : (s.heap.push { cls := .type "set", dict := none, data := .set #[] 0 (.fresh 0 0 (!w.params.followText "set-order")) }).get? s.heap.objs.size = some { cls := .type "set", dict := none, data := .set #[] 0 (.fresh 0 0 (!w.params.followText "set-order")) } := Heap.get?_push_size _ rfl
      have hT : Shared.TypeIs { s with heap := s.heap.push { cls := .type "set", dict := none, data := .set #[] 0 (.fresh 0 0 (!w.params.followText "set-order")) } } (.ref s.heap.objs.size) "set" := ⟨_, hS, rfl⟩
      have hli := F.called_set.init.lookup
      have hbi := F.called_set.init.bind (.ref s.heap.objs.size)
      repeat (any_goals (first | assumption | wp_step))

      refine codeAny_mono (codeAny_call_builtin (R := wants (fun r s₂ => r = .none ∧ ∃ h' tk c, s₂ = { s with heap := h', toks := tk } ∧ SetR w h' s.heap.objs.size (fun j => decide (j ∈ ns)) c ∧ c ≤ ns.length ∧
          (∀ b o, s.heap.get? b = some o → h'.get? b = some o)) E) F.called_set.init.plain F.entry_set_init (check_set_init_1 hT ?_)) fun r₂ s₂ hr₂ => ?_
      · obtain ⟨ol, hol, hcl, nl, hdl⟩ := hl
        obtain ⟨ocls, odict, odata, oslots⟩ := ol
        simp only at hcl hdl
        subst hcl; subst hdl
        have hol' : (s.heap.push { cls := .type "set", dict := none, data := .set #[] 0 (.fresh 0 0 (!w.params.followText "set-order")) }).get? l = some { cls := .type "list", dict := odict, data := .seq items nl, slots := oslots } := Heap.get?_push_of_some _ hol
        have hsls := F.sub_list_set
        have hslf := F.sub_list_frozenset
        have hne : (Value.type "list" == Value.type "dict") = false := by decide
        have hl1 : (s.heap.push { cls := .type "set", dict := none, data := .set #[] 0 (.fresh 0 0 (!w.params.followText "set-order")) }).IsList l items := ⟨_, hol', rfl, nl, rfl⟩
        unfold Builtin.«set.__init__» noKeywords Builtin.Frozenset.updateFrom
        generalize hPI : pyIter = PI
        wp_walk
        subst hPI

        refine wpAny_pyIter_list hl1 ?_
        refine wpAny_bind (wpAny_runValue ?_)
        have hlS : l < s.heap.objs.size := Heap.lt_size hol
        have hh3 : A.in1.in1.in1.handled = none := by simp [hh]
        have hz1 : (s.heap.push { cls := .type "set", dict := none, data := .set #[] 0 (.fresh 0 0 (!w.params.followText "set-order")) }).objs.size = s.heap.objs.size + 1 := Heap.size_push ..
        have hneI : l ≠ (s.heap.push { cls := .type "set", dict := none, data := .set #[] 0 (.fresh 0 0 (!w.params.followText "set-order")) }).objs.size := by
          rw [Heap.size_push]; exact Nat.ne_of_lt (Nat.lt_succ_of_lt hlS)
        have hSf : s.heap.objs.size ∉ [(s.heap.push { cls := .type "set", dict := none, data := .set #[] 0 (.fresh 0 0 (!w.params.followText "set-order")) }).objs.size, l] := by
          rw [Heap.size_push]; simp only [List.mem_cons, List.mem_singleton, List.not_mem_nil, or_false, not_or]
          exact ⟨Nat.ne_of_lt (Nat.lt_succ_self _), Nat.ne_of_gt hlS⟩
        have hval : ∀ (i : Nat) (v : Value), items[i]? = some v → ∃ k t, ns[i]? = some k ∧ v = .int k t := fun i v hv => by
          have hi : i < ns.length := by rw [← hisz]; exact (Array.getElem?_eq_some_iff.mp hv).1
          obtain ⟨t, e⟩ := PyProof.Rows.IntsAre.int_at hit i v (by rw [Array.getElem?_toList]; exact hv)
          refine ⟨ns[i], t, List.getElem?_eq_getElem hi, ?_⟩
          rw [e, List.getD_eq_getElem?_getD, List.getElem?_eq_getElem hi] <;> rfl
        refine set_update_ints ((Walks.list hh3 _ l hneI items).toS) s.heap.objs.size
          hSf ns hisz hb hval (items.size - 0) 0 _ (by omega) (Nat.zero_le _)
          ⟨⟨_, Heap.get?_push_size _ rfl, rfl, rfl⟩, (hl1.push _)⟩ ?hS0 ?hR
        case hS0 =>
          have hget : ((s.heap.push { cls := .type "set", dict := none, data := .set #[] 0 (.fresh 0 0 (!w.params.followText "set-order")) }).push { cls := .type "list_iterator", data := .fields #[.ref l, .int 0 0] }).get? s.heap.objs.size
              = some { cls := .type "set", dict := none, data := .set #[] 0 (.fresh 0 0 (!w.params.followText "set-order")) } := Heap.get?_push_of_some _ hS
          exact ⟨0, Nat.le_refl 0, setR_new_at hget⟩
        case hR =>
          intro s' c' hm hc' hS'
          obtain ⟨h', g2, d', tk', os'⟩ := s'
          have eg : g2 = s.gens := hm.gens
          have ed : d' = s.drawn := hm.drawn
          have eo : os' = s.os := hm.os
          subst eg; subst ed; subst eo
          show wpAny _ _ _ _ _ _
          refine wpAny_pure ?_
          show wpAny _ _ (ret Value.none) _ _ _
          rw [hisz] at hc'
          refine wpAny_pure ⟨rfl, h', tk', c', rfl, hS', hc', fun b o e => ?_⟩
          have hb0 : b < s.heap.objs.size := Heap.lt_size e
          have hb1 : b ≠ s.heap.objs.size := Nat.ne_of_lt hb0
          have hb2 : b ≠ (s.heap.push { cls := .type "set", dict := none, data := .set #[] 0 (.fresh 0 0 (!w.params.followText "set-order")) }).objs.size := by
            rw [Heap.size_push]; exact Nat.ne_of_lt (Nat.lt_succ_of_lt hb0)
          exact hm.heap b o (by simp only [List.mem_cons, List.mem_singleton, List.not_mem_nil, or_false, not_or]; exact ⟨hb1, hb2⟩) (Heap.get?_push_of_some _ (Heap.get?_push_of_some _ e))

      · cases r₂ with
        | error e => exact hr₂
        | ok fl₂ =>
          cases fl₂ with
          | ret r =>
            obtain ⟨rfl, h', tk, c', rfl, hS', hc', hk'⟩ := hr₂
            repeat (any_goals (first | assumption | wp_step))
            exact h _ _ _ hS' hc' hk'
          | _ => exact hr₂.elim
    | _ => exact hr.elim
end
end L2
/-! text BDic -/
set_option Elab.async false
set_option linter.all false
set_option maxRecDepth 100000
set_option autoImplicit false
namespace B
open PySem PySem.Spec PyProof.Rows L2
section
variable {X : Cx}
theorem cr_setL (hc : X.calm = true) : CallR X (.type "set") (rSetL X.K X.w) := by
  intro pins s σ H vs us Q I r h
  obtain ⟨a, ns, rfl, hs, hb, q⟩ := h
  obtain ⟨its, rv, hl, hz⟩ := I.list hs
  rw [Vals.ref1 r]
  refine call_set_lstI ns (I.ok.hd hc) hl.isList (by simpa using rv.ints) hb fun h' tk c R hcn kp => ?_
  exact ⟨.ref s.heap.objs.size, upd H s.heap.objs.size (SetO X.w s.heap.objs.size (fun j => decide (j ∈ ns)) c), I.laid (t' := tk) kp (Nat.le_refl _) (setO_new R), rfl, q _ c (I.hok.fresh (Nat.le_refl _)) hcn⟩
end
/-! the row of the members, each once, from the least -/
def insI (k : Int) : List Int → List Int
  | [] => [k]
  | x :: xs => if k < x then k :: x :: xs else if k = x then x :: xs else x :: insI k xs
def sortI : List Int → List Int
  | [] => []
  | x :: xs => insI x (sortI xs)
theorem insI_mem {k y : Int} : ∀ {xs : List Int}, y ∈ insI k xs ↔ y = k ∨ y ∈ xs
  | [] => by simp [insI]
  | x :: xs => by
    unfold insI
    by_cases h : k < x
    · rw [if_pos h]; simp
    · rw [if_neg h]
      by_cases h2 : k = x
      · rw [if_pos h2, h2]; simp
      · rw [if_neg h2, List.mem_cons, insI_mem, List.mem_cons]
        constructor
        · rintro (h | h | h) <;> simp [h]
        · rintro (h | h | h) <;> simp [h]
theorem insI_pw {k : Int} : ∀ {xs : List Int}, xs.Pairwise (· < ·) → (insI k xs).Pairwise (· < ·)
  | [], _ => by simp [insI]
  | x :: xs, h => by
    obtain ⟨h1, h2⟩ := List.pairwise_cons.mp h
    unfold insI
    by_cases c : k < x
    · rw [if_pos c]
      refine List.pairwise_cons.mpr ⟨fun y hy => ?_, h⟩
      rcases List.mem_cons.mp hy with z | z
      · omega
      · have := h1 y z; omega
    · rw [if_neg c]
      by_cases c2 : k = x
      · rw [if_pos c2]; exact h
      · rw [if_neg c2]
        refine List.pairwise_cons.mpr ⟨fun y hy => ?_, insI_pw h2⟩
        rcases insI_mem.mp hy with z | z
        · omega
        · exact h1 y z
theorem sortI_mem {y : Int} : ∀ {xs : List Int}, y ∈ sortI xs ↔ y ∈ xs
  | [] => by simp [sortI]
  | x :: xs => by rw [sortI, insI_mem, sortI_mem, List.mem_cons]
theorem sortI_pw : ∀ {xs : List Int}, (sortI xs).Pairwise (· < ·)
  | [] => by simp [sortI]
  | x :: xs => insI_pw sortI_pw
theorem pw_uniq : ∀ {xs ys : List Int}, xs.Pairwise (· < ·) → ys.Pairwise (· < ·) → (∀ k, k ∈ xs ↔ k ∈ ys) → xs = ys
  | [], [], _, _, _ => rfl
  | [], y :: ys, _, _, h => by have := (h y).mpr (List.mem_cons_self ..); cases this
  | x :: xs, [], _, _, h => by have := (h x).mp (List.mem_cons_self ..); cases this
  | x :: xs, y :: ys, hx, hy, h => by
    obtain ⟨a1, a2⟩ := List.pairwise_cons.mp hx
    obtain ⟨b1, b2⟩ := List.pairwise_cons.mp hy
    have e : x = y := by
      rcases List.mem_cons.mp ((h x).mp (List.mem_cons_self ..)) with z | z
      · exact z
      · rcases List.mem_cons.mp ((h y).mpr (List.mem_cons_self ..)) with z2 | z2
        · exact z2.symm
        · have := b1 x z; have := a1 y z2; omega
    subst e
    congr 1
    refine pw_uniq a2 b2 fun k => ⟨fun hk => ?_, fun hk => ?_⟩
    · rcases List.mem_cons.mp ((h k).mp (List.mem_cons_of_mem _ hk)) with z | z
      · have := a1 k hk; omega
      · exact z
    · rcases List.mem_cons.mp ((h k).mpr (List.mem_cons_of_mem _ hk)) with z | z
      · have := b1 k hk; omega
      · exact z
section
variable {C : Cc} {p : Bool} {σ σ' σ2 : L2.St} {ρ ρ' ρ1 ρ2 ρ3 : En} {H H' H2 : Hp} {M M' M2 : MS} {o : Out} {K : PySem.W.Frag} {w : World}
/-- sorted(set(xs)), xs a list of ints -/
theorem e_sortset {te : TE} {ns : List Int} (h : Ev C p te ρ (.val (.lst (ns.map .int))) ρ1) (hl : ns.length < 64) : Ev C p (tCB (rSortedSet w) (tCons (tCB (rSetL C.K w) (tCons te tNil)) tNil)) ρ (.fr ((sortI ns).map .int)) ρ1 := fun σ H M e Q q =>
  h σ H M e _ fun v H1 M1 p1 ⟨a, vs, e1, e2, e3, e4⟩ => by
    refine ⟨a, ns, by rw [e1], by rw [← e4.ints]; exact .of e3, by unfold scanBound; omega, fun s n hs hn => ?_⟩
    obtain ⟨nx, mok⟩ := nxt_new (o := SetO w s (fun j => decide (j ∈ ns)) n) p1.env.mok hs
    refine ⟨s, fun j => decide (j ∈ ns), n, rfl, upd_same, by omega, fun ns' r h1 h2 h3 hr => ?_⟩
    have e5 : ns' = sortI ns := pw_uniq h1 sortI_pw fun k => by rw [h2 k, sortI_mem, decide_eq_true_iff]
    subst e5
    have po := p1.trans e (p1.env.step (p := p) nx mok)
    have rr : Reps C.K (upd H1 s (SetO w s (fun j => decide (j ∈ ns)) n)) M1 ((sortI ns).map .int) ((sortI ns).map V.int) := by
      generalize sortI ns = l
      induction l with
      | nil => exact rfl
      | cons x xs ih => exact ⟨.int x, _, rfl, rfl, ih⟩
    exact res_new mok rr (fun w' H' M' n' mok' k => q w' H' M' (po.trans e (po.env.step n' mok')) (res_back po.nxt.dom k)) hr
/-! dicts -/
def putD (kvs : List (Int × Dt)) (k : Int) (d : Dt) : List (Int × Dt) := if (kvs.any fun kv => decide (kv.1 = k)) = true then kvs.map (fun kv => if kv.1 = k then (kv.1, d) else kv) else kvs ++ [(k, d)]
def dicD (kvs : List (Int × Dt)) : Dt := .dic (kvs.map (·.1)) (kvs.map (·.2))
def getD' (kvs : List (Int × Dt)) (k : Int) : Option Dt := (kvs.find? fun kv => decide (kv.1 = k)).map (·.2)
theorem kvz_any {k : Int} : ∀ {kvs : List (Int × Dt)} {vs : List V}, Reps K H M (kvs.map (·.2)) vs → ((kvz (kvs.map (·.1)) vs).any fun kv => decide (kv.1 = (Sum.inl k : Key))) = kvs.any fun kv => decide (kv.1 = k)
  | [], vs, h => by rw [show vs = [] from h]; rfl
  | kv :: kvs, vs, h => by
    obtain ⟨v, r, e, h1, h2⟩ := h
    rw [e]
    show ((decide ((Sum.inl kv.1 : Key) = Sum.inl k)) || (kvz (kvs.map (·.1)) r).any fun kv => decide (kv.1 = (Sum.inl k : Key))) = (decide (kv.1 = k) || kvs.any fun kv => decide (kv.1 = k))
    rw [kvz_any h2]
    congr 1
    by_cases z : kv.1 = k
    · rw [decide_eq_true z, decide_eq_true (by rw [z])]
    · rw [decide_eq_false z, decide_eq_false fun y => z (Sum.inl.inj y)]
theorem kvz_map {k : Int} {d : Dt} {u : V} (hd : Rep K H M d u) : ∀ {kvs : List (Int × Dt)} {vs : List V}, Reps K H M (kvs.map (·.2)) vs → ∃ vs', (kvz (kvs.map (·.1)) vs).map (fun kv => if kv.1 = (Sum.inl k : Key) then (kv.1, u) else kv) = kvz (kvs.map (·.1)) vs' ∧ Reps K H M ((kvs.map (fun kv => if kv.1 = k then (kv.1, d) else kv)).map (·.2)) vs'
  | [], vs, h => by rw [show vs = [] from h]; exact ⟨[], rfl, rfl⟩
  | kv :: kvs, vs, h => by
    obtain ⟨v, r, e, h1, h2⟩ := h
    rw [e]
    obtain ⟨r', i1, i2⟩ := kvz_map hd h2
    by_cases z : kv.1 = k
    · refine ⟨u :: r', ?_, u, r', rfl, ?_, i2⟩
      · show (if (Sum.inl kv.1 : Key) = Sum.inl k then ((Sum.inl kv.1 : Key), u) else (Sum.inl kv.1, v)) :: List.map _ (kvz (kvs.map (·.1)) r) = _
        rw [i1, if_pos (by rw [z])]
        rfl
      · show Rep K H M (if kv.1 = k then (kv.1, d) else kv).2 u
        rw [if_pos z]
        exact hd
    · refine ⟨v :: r', ?_, v, r', rfl, ?_, i2⟩
      · show (if (Sum.inl kv.1 : Key) = Sum.inl k then ((Sum.inl kv.1 : Key), u) else (Sum.inl kv.1, v)) :: List.map _ (kvz (kvs.map (·.1)) r) = _
        rw [i1, if_neg fun y => z (Sum.inl.inj y)]
        rfl
      · show Rep K H M (if kv.1 = k then (kv.1, d) else kv).2 v
        rw [if_neg z]
        exact h1
theorem map_keys {k : Int} {d : Dt} : ∀ {kvs : List (Int × Dt)}, (kvs.map (fun kv => if kv.1 = k then (kv.1, d) else kv)).map (·.1) = kvs.map (·.1)
  | [] => rfl
  | kv :: kvs => by
    rw [List.map_cons, List.map_cons, List.map_cons, map_keys]
    by_cases z : kv.1 = k
    · rw [if_pos z]
    · rw [if_neg z]
theorem kvz_app {k : Int} {u : V} : ∀ {ks : List Int} {vs : List V}, ks.length = vs.length → kvz ks vs ++ [((Sum.inl k : Key), u)] = kvz (ks ++ [k]) (vs ++ [u])
  | [], [], _ => rfl
  | [], _ :: _, h => by cases h
  | _ :: _, [], h => by cases h
  | a :: ks, v :: vs, h => by
    show ((Sum.inl a : Key), v) :: (kvz ks vs ++ _) = ((Sum.inl a : Key), v) :: kvz (ks ++ [k]) (vs ++ [u])
    rw [kvz_app (by simpa using h)]
theorem kvz_put {k : Int} {d : Dt} {u : V} {kvs : List (Int × Dt)} {vs : List V} (hd : Rep K H M d u) (h : Reps K H M (kvs.map (·.2)) vs) : ∃ vs', putK (kvz (kvs.map (·.1)) vs) (Sum.inl k : Key) u = kvz ((putD kvs k d).map (·.1)) vs' ∧ Reps K H M ((putD kvs k d).map (·.2)) vs' := by
  unfold putK putD
  rw [kvz_any h]
  by_cases z : (kvs.any fun kv => decide (kv.1 = k)) = true
  · rw [if_pos z, if_pos z]
    obtain ⟨vs', h1, h2⟩ := kvz_map (k := k) hd h
    exact ⟨vs', by rw [h1, map_keys], h2⟩
  · rw [if_neg z, if_neg z]
    refine ⟨vs ++ [u], ?_, ?_⟩
    · rw [List.map_append]
      exact kvz_app (by rw [List.length_map, h.length, List.length_map])
    · rw [List.map_append]
      exact h.append (.one hd)
theorem putD_length (kvs : List (Int × Dt)) (k : Int) (d : Dt) : (putD kvs k d).length ≤ kvs.length + 1 := by
  unfold putD
  split
  · rw [List.length_map]; omega
  · rw [List.length_append, List.length_singleton]; omega
theorem kvz_len {ks : List Int} {vs : List V} : (kvz ks vs).length ≤ ks.length := by unfold kvz; rw [List.length_zipWith]; omega
theorem kvz_get {k : Int} {d : Dt} : ∀ {kvs : List (Int × Dt)} {vs : List V}, Reps K H M (kvs.map (·.2)) vs → getD' kvs k = some d → ∃ u, valV (kvz (kvs.map (·.1)) vs) (Sum.inl k : Key) = some u ∧ Rep K H M d u
  | [], vs, h, e => by cases e
  | kv :: kvs, vs, h, e => by
    obtain ⟨v, r, e1, h1, h2⟩ := h
    rw [e1]
    unfold getD' at e
    rw [List.find?_cons] at e
    by_cases z : kv.1 = k
    · rw [decide_eq_true z] at e
      cases e
      exact ⟨v, valV_pos (p := ((Sum.inl kv.1 : Key), v)) (by show (Sum.inl kv.1 : Key) = Sum.inl k; rw [z]), h1⟩
    · rw [decide_eq_false z] at e
      obtain ⟨u, q1, q2⟩ := kvz_get (k := k) h2 e
      exact ⟨u, (valV_neg (p := ((Sum.inl kv.1 : Key), v)) fun y => z (Sum.inl.inj y)).trans q1, q2⟩
theorem e_dget {td ty : TE} {kvs : List (Int × Dt)} {k : Int} {d : Dt} (hd : Ev C p td ρ (.val (dicD kvs)) ρ1) (hk : Ev C p ty ρ1 (.val (.int k)) ρ2) (hg : getD' kvs k = some d) : Ev C p (tDGet td ty) ρ (.val d) ρ2 := fun σ H M e Q q =>
  hd σ H M e _ fun v H1 M1 p1 r1 => hk σ H1 M1 p1.env _ fun u H2 M2 p2 r2 => by
    obtain ⟨a, vs, e1, e2, e3, e4, e5⟩ := (Rep.mono p1.env.mok p2.nxt r1 : Rep C.K H2 M2 (dicD kvs) v)
    obtain ⟨y, h1, h2⟩ := kvz_get (k := k) e5 hg
    refine ⟨a, y, e1, ?_, q y H2 M2 (p1.trans e p2) h2⟩
    rw [show u = kV (Sum.inl k : Key) from r2, ← h1]
    exact .k e3
end
end B
/-! text BDc -/
set_option Elab.async false
set_option linter.all false
set_option maxRecDepth 100000
set_option autoImplicit false
namespace B
open PySem PySem.Spec PyProof.Rows L2
section
variable {C : Cc} {p : Bool} {σ σ' σ2 : L2.St} {ρ ρ' ρ1 ρ2 ρ3 : En} {H H' H2 : Hp} {M M' M2 : MS} {o : Out} {K : PySem.W.Frag}
theorem nxt_newMO {a : Addr} {u : HO} (ho : Mut u) (mok : MOk H M) (h : H a = none) : Nxt NoO H M (upd H a u) (fun b => M b ∨ b = a) ∧ MOk (upd H a u) (fun b => M b ∨ b = a) := by
  have na : ∀ b, H b ≠ none → b ≠ a := fun b q z => by rw [z] at q; exact q h
  have ma : ∀ b, M b → b ≠ a := fun b q => na b (by obtain ⟨xs, e⟩ := mok b q; rw [e]; exact fun z => nomatch z)
  refine ⟨⟨fun b u q _ => by rw [upd_ne (na b (by rw [q]; exact fun z => nomatch z))]; exact q, fun _ q _ => .inl q, fun b q => q.elim .inl fun z => .inr (by rw [z]; exact h), fun b q _ => upd_ne (ma b q), fun b q => by rw [upd_ne (na b q)]; exact q⟩, fun b q => ?_⟩
  rcases q with q | q
  · rw [upd_ne (ma b q)]; exact mok b q
  · rw [q, upd_same]; exact ⟨⟨u, ho⟩, rfl⟩
theorem nxt_poke {a : Addr} {u : HO} (hm : M a) : Nxt (· = a) H M (upd H a u) M := ⟨fun b u q z => by rw [upd_ne fun y => z (by rw [y]; exact hm)]; exact q, fun _ q _ => q, fun _ q => .inl q, fun b q z => upd_ne z, fun b q => by
    by_cases z : b = a
    · rw [z, upd_same]; exact fun y => nomatch y
    · rw [upd_ne z]; exact q⟩
theorem EnvOk.pokeO {a : Addr} {u : HO} (ho : Mut u) (e : EnvOk C H M σ ρ) (hm : M a) (hn : ¬ Owned σ ρ a) : EnvOk C (upd H a u) M σ ρ := by
  have n : Nxt (· = a) H M (upd H a u) M := nxt_poke hm
  refine ⟨fun b q => ?_, e.len, fun i s q => ?_, e.dist, e.fz, fun b q => n.dom b (e.fzd b q)⟩
  · by_cases z : b = a
    · rw [z, upd_same]; exact ⟨⟨u, ho⟩, rfl⟩
    · rw [upd_ne z]; exact e.mok b q
  · obtain ⟨v, h1, h2⟩ := e.get i s q
    refine ⟨v, h1, ?_⟩
    cases s with
    | val d => exact Rep.mono e.mok n h2
    | own ds =>
      obtain ⟨b, vs, e1, e2, e3, e4⟩ := h2
      subst e1
      exact ⟨b, vs, rfl, e2, by rw [upd_ne fun y => hn (by rw [← y]; exact ⟨i, ds, q, h1⟩)]; exact e3, Reps.mono e.mok n e4⟩
theorem Nxt.pokeO {O : MS} {a : Addr} {u : HO} (mok : MOk H M) (n : Nxt O H M H' M') (h : H a = none) : Nxt O H M (upd H' a u) M' := by
  have ne : ∀ b, H b ≠ none → b ≠ a := fun b q z => by rw [z] at q; exact q h
  refine ⟨fun b u q z => ?_, n.keep, n.fresh, fun b q z => ?_, fun b q => ?_⟩
  · rw [upd_ne (ne b (by rw [q]; exact fun y => nomatch y))]; exact n.fix b u q z
  · rw [upd_ne (ne b (by obtain ⟨xs, e⟩ := mok b q; rw [e]; exact fun y => nomatch y))]; exact n.oth b q z
  · rw [upd_ne (ne b q)]; exact n.dom b q
/-- {k: v for k, v in ..}, the keys ints -/
theorem e_dc2 {α : Type} {wi : TI} {i j : Nat} {fk : α → Int} {fv : α → Dt} {xs : List α} (hi : EvI C p wi ρ (xs.map fun x => Dt.tup [.int (fk x), fv x]) ρ) (hz : xs.length < sizeLine) (hij : i ≠ j)
    (hn : ∀ k, k ∈ [i, j] → ∀ ds, ρ[k]? ≠ some (some (.own ds))) (hl : i < ρ.length := by exact ltb rfl) (hl2 : j < ρ.length := by exact ltb rfl) :
    Ev C p (tDc wi (gTup C.K 2 (gCons (gName i) (gCons (gName j) gNil))) tYes (tVar i) (tVar j) [i, j]) ρ (.val (dicD (xs.foldl (fun acc x => putD acc (fk x) (fv x)) []))) ρ := fun σ H M e Q q =>
  hi σ H M e _ fun J G Y Kp H1 M1 p1 s k D hD => by
    obtain ⟨n0, mok0⟩ := nxt_newMO (u := .dK []) trivial p1.env.mok hD
    have e0 := p1.env.step (p := p) n0 mok0
    have hlen : (xs.map fun x => Dt.tup [.int (fk x), fv x]).length = xs.length := List.length_map ..
    have wk := s.walk
    rw [hlen] at wk
    let fo : Nat → List (Int × Dt) := fun i => (xs.take i).foldl (fun acc x => putD acc (fk x) (fv x)) []
    have fol : ∀ i, (fo i).length ≤ i := fun i => by
      induction i with
      | zero => exact Nat.le_refl 0
      | succ i ih =>
        by_cases hh : i < xs.length
        · have : fo (i + 1) = putD (fo i) (fk xs[i]) (fv xs[i]) := by
            show (xs.take (i + 1)).foldl _ [] = _
            rw [List.take_succ_eq_append_getElem hh, List.foldl_append]
            rfl
          rw [this]
          have := putD_length (fo i) (fk xs[i]) (fv xs[i])
          omega
        · have : fo (i + 1) = fo i := by
            show (xs.take (i + 1)).foldl _ [] = (xs.take i).foldl _ []
            rw [List.take_of_length_le (by omega), List.take_of_length_le (by omega)]
          rw [this]; omega
    have fos : ∀ i (hh : i < xs.length), fo (i + 1) = putD (fo i) (fk xs[i]) (fv xs[i]) := fun i hh => by
      show (xs.take (i + 1)).foldl _ [] = _
      rw [List.take_succ_eq_append_getElem hh, List.foldl_append]
      rfl
    refine ⟨fun i m H2 => m = xs.length - i ∧ i ≤ xs.length ∧ ∃ M2 accV, Post C p σ ρ H1 M1 ρ H2 M2 ∧ M2 D ∧ ¬ Owned σ ρ D ∧ H2 D = some (.dK (kvz ((fo i).map (·.1)) accV)) ∧ Reps C.K H2 M2 ((fo i).map (·.2)) accV ∧ Kp H2 M2,
      ⟨xs.length, by simp, Nat.zero_le _, _, [], e0, .inr rfl, fun z => (p1.env.ownedM z).2 hD, upd_same, rfl, s.stay _ _ _ _ _ p1.env.mok k n0⟩, ?_⟩
    rintro t m H2 ⟨rfl, ht, M2, accV, p2, mD, nD, hD2, rA, k2⟩
    by_cases hlt : t < xs.length
    · refine .inr ⟨wk.goes t H2 hlt (s.here _ _ k2), fun H' => (t + 1 ≤ xs.length ∧ ∃ M2 accV, Post C p σ ρ H1 M1 ρ H' M2 ∧ M2 D ∧ ¬ Owned σ ρ D ∧ H' D = some (.dK (kvz ((fo (t + 1)).map (·.1)) accV)) ∧ Reps C.K H' M2 ((fo (t + 1)).map (·.2)) accV ∧ Kp H' M2), fun H' h' => ⟨xs.length - (t + 1), by omega, rfl, h'⟩, fun x H3 y => ?_⟩
      have ed : (xs.map fun x => Dt.tup [.int (fk x), fv x])[t]? = some (Dt.tup [.int (fk xs[t]), fv xs[t]]) := by rw [List.getElem?_map, List.getElem?_eq_getElem hlt]; rfl
      obtain ⟨M3, n3, mok3, r3⟩ := s.item t H2 M2 x H3 _ p2.env.mok k2 ed (wk.yields t H2 x H3 hlt (s.here _ _ k2) y)
      have p3 := p2.env.step (p := p) n3 mok3
      have k3 := s.stay _ _ _ _ _ p2.env.mok k2 n3
      obtain ⟨mD3, hD3⟩ := oth_of n3 mD fun z => z
      have hwl : i < (wipeE ρ [i, j]).length := by rw [wipeE_length]; exact hl
      have hwl2 : j < ((wipeE ρ [i, j]).set i (some (.val (.int (fk xs[t]))))).length := by rw [List.length_set, wipeE_length]; exact hl2
      have hg : EvG C (gTup C.K 2 (gCons (gName i) (gCons (gName j) gNil))) ([i] ++ ([j] ++ [])) (Dt.tup [.int (fk xs[t]), fv xs[t]]) (wipeE ρ [i, j]) (((wipeE ρ [i, j]).set i (some (.val (.int (fk xs[t]))))).set j (some (.val (fv xs[t])))) := g_tup (gs_cons (g_name hwl) (gs_cons (g_name hwl2) gs_nil))
      refine hg (L2.wipe σ [i, j]) H3 M3 x p3.env.wipe r3 _ fun σ4 e4 o4 s4 l4 => ?_
      have s4' : ∀ z, z ∉ [i, j] → σ4[z]? = σ[z]? := fun z hz => (s4 z hz).trans (wipe_out' hz)
      refine ⟨wipe_eq (l4.trans (wipe_length σ _)) s4', ?_⟩
      have hy : ∀ (Qb : Bool → Hp → Prop), Qb true H3 → tYes σ4 H3 Qb := fun _ h => h
      refine hy _ ?_
      simp only []
      rw [if_pos trivial]
      have gi : ((((wipeE ρ [i, j]).set i (some (.val (.int (fk xs[t]))))).set j (some (.val (fv xs[t]))))[i]?) = some (some (.val (.int (fk xs[t])))) := by
        rw [List.getElem?_set_ne (Ne.symm hij), List.getElem?_set_self hwl]
      have gj : ((((wipeE ρ [i, j]).set i (some (.val (.int (fk xs[t]))))).set j (some (.val (fv xs[t]))))[j]?) = some (some (.val (fv xs[t]))) := List.getElem?_set_self hwl2
      obtain ⟨u1, hu1, ru1⟩ := e4.get i _ gi
      obtain ⟨u2, hu2, ru2⟩ := e4.get j _ gj
      obtain ⟨accV', hp1, hp2⟩ := kvz_put (K := C.K) (H := H3) (M := M3) (k := fk xs[t]) (ru2 : Rep C.K H3 M3 (fv xs[t]) u2) (Reps.mono p2.env.mok n3 rA)
      refine ⟨u1, hu1, u2, hu2, kvz ((fo t).map (·.1)) accV, (Sum.inl (fk xs[t]) : Key), ru1, by rw [hD3]; exact hD2, ?_, hlt, M3, accV', ?_, mD3, nD, ?_, ?_, ?_⟩
      · have h1 := kvz_len (ks := (fo t).map (·.1)) (vs := accV)
        rw [List.length_map] at h1
        have h2 := fol t
        omega
      · have p23 := p2.trans p1.env p3
        exact ⟨p23.env.pokeO trivial mD3 nD, p23.nxt.pokeO p1.env.mok hD, p23.own⟩
      · rw [upd_same, hp1, fos t hlt]
      · rw [fos t hlt]
        exact Reps.mono (O := (· = D)) mok3 (nxt_poke mD3) hp2
      · exact s.stay (· = D) _ _ _ _ mok3 k3 (nxt_poke mD3)
    · have et : t = xs.length := by omega
      subst et
      have fe : fo xs.length = xs.foldl (fun acc x => putD acc (fk x) (fv x)) [] := by show (xs.take xs.length).foldl _ [] = _; rw [List.take_length]
      rw [fe] at hD2 rA
      refine .inl ⟨wk.stops H2 (s.here _ _ k2), ?_⟩
      have po := p1.trans e p2
      have hD0 : H D = none := by
        by_cases z : H D = none
        · exact z
        · exact absurd hD (p1.nxt.dom D z)
      exact q _ H2 _ (po.freeze e hD0) ⟨D, accV, rfl, fun z => z.2 rfl, hD2, by rw [List.length_map, List.length_map], Reps.anti (fun _ z => z.1) rA⟩
end
end B
/-! text BSort -/
set_option Elab.async false
set_option linter.all false
set_option maxRecDepth 100000
set_option autoImplicit false
namespace B
open PySem PySem.Spec PyProof.Rows L2
theorem isPair_inj {h : Heap} {v : Value} {i j i' j' : Int} (a : Srt.IsPair h v i j) (b : Srt.IsPair h v i' j') : (i, j) = (i', j') := by
  obtain ⟨t, o, t1, t2, n, e, e1, e2, e3⟩ := a
  obtain ⟨t', o', t1', t2', n', f, f1, f2, f3⟩ := b
  subst e
  cases f
  rw [e1] at f1
  cases f1
  rw [e3] at f3
  cases f3
  rfl
noncomputable def pairAt (h : Heap) (v : Value) : Int × Int := open Classical in if c : ∃ p : Int × Int, Srt.IsPair h v p.1 p.2 then Classical.choose c else (0, 0)
theorem pairAt_eq {h : Heap} {v : Value} {p : Int × Int} (c : Srt.IsPair h v p.1 p.2) : pairAt h v = p := by
  have c' : ∃ p : Int × Int, Srt.IsPair h v p.1 p.2 := ⟨p, c⟩
  unfold pairAt
  rw [dif_pos c']
  have := isPair_inj (Classical.choose_spec c') c
  exact this
def PrsAt (K : PySem.W.Frag) (H : Hp) : List V → List (Int × Int) → Prop
  | [], [] => True
  | x :: xs, p :: ps => (∃ t, x = .ref t ∧ SqT K H t [.int p.1, .int p.2]) ∧ PrsAt K H xs ps
  | _, _ => False
/-- sorted(xs), xs a list of pairs of ints -/
def rSortedPS (K : PySem.W.Frag) : List V → Hp → VK → Prop := fun vs H Q => ∃ (a : Addr) (xs : List V) (ps : List (Int × Int)), vs = [V.ref a] ∧ SqL K H a xs ∧ PrsAt K H xs ps ∧
  ∀ (ys : List V) (qs : List (Int × Int)) (p : Addr), PrsAt K H ys qs → qs.Perm ps → qs.Pairwise (fun x y => SrtO.lexB y x = false) → H p = none → Q (.ref p) (upd H p (.lst ys))
section
variable {X : Cx} {pins : List (Addr × Obj)} {σ : L2.St} {H : Hp} {s : Shared}
theorem prs_heap (I : Inv X pins σ H s) : ∀ {its : List Value} {ps : List (Int × Int)}, (∀ u ∈ its, ∃ a, u = Value.ref a) → PrsAt X.K H (its.map backV) ps → its.map (pairAt s.heap) = ps ∧ ∀ u ∈ its, Srt.IsPair s.heap u (pairAt s.heap u).1 (pairAt s.heap u).2 ∧ ∃ t, backV u = .ref t ∧ SqT X.K H t [.int (pairAt s.heap u).1, .int (pairAt s.heap u).2]
  | [], [], _, _ => ⟨rfl, fun u hu => nomatch hu⟩
  | [], _ :: _, _, h => h.elim
  | _ :: _, [], _, h => h.elim
  | u :: its, p :: ps, hr, h => by
    obtain ⟨⟨t, e, ht⟩, h2⟩ := h
    obtain ⟨i1, i2⟩ := prs_heap I (fun v hv => hr v (List.mem_cons_of_mem _ hv)) h2
    obtain ⟨a, ha⟩ := hr u (List.mem_cons_self ..)
    subst ha
    cases e
    obtain ⟨its2, r2, ⟨o, ho, hc, n, hd⟩, _⟩ := I.tuple ht
    obtain ⟨u1, u2, rfl, ri, rj⟩ := vals2 r2
    obtain ⟨t1, rfl⟩ := ri
    obtain ⟨t2, rfl⟩ := rj
    have pr : Srt.IsPair s.heap (.ref t) p.1 p.2 := ⟨t, o, t1, t2, n, rfl, ho, hc, hd⟩
    have pe := pairAt_eq pr
    refine ⟨by rw [List.map_cons, pe, i1], fun v hv => ?_⟩
    rcases List.mem_cons.mp hv with z | z
    · subst z
      rw [pe]
      exact ⟨pr, t, rfl, ht⟩
    · exact i2 v z
theorem prs_of {K : PySem.W.Frag} {H : Hp} {k : Value → Int × Int} : ∀ {out : List Value}, (∀ u ∈ out, ∃ t, backV u = .ref t ∧ SqT K H t [.int (k u).1, .int (k u).2]) → PrsAt K H (out.map backV) (out.map k)
  | [], _ => trivial
  | u :: out, h => ⟨h u (List.mem_cons_self ..), prs_of fun v hv => h v (List.mem_cons_of_mem _ hv)⟩
theorem prs_refs {K : PySem.W.Frag} {H : Hp} : ∀ {xs : List V} {ps : List (Int × Int)}, PrsAt K H xs ps → ∀ x ∈ xs, ∃ a, x = V.ref a
  | [], [], _, x, h => nomatch h
  | [], _ :: _, h, _, _ => h.elim
  | _ :: _, [], h, _, _ => h.elim
  | y :: xs, p :: ps, h, x, hx => by
    rcases List.mem_cons.mp hx with z | z
    · obtain ⟨⟨t, e, _⟩, _⟩ := h
      exact ⟨t, z.trans e⟩
    · exact prs_refs h.2 x z
theorem cr_sortedPS : CallR X (.builtin "sorted") (rSortedPS X.K) := by
  intro pins s σ H vs us Q I r h
  obtain ⟨a, xs, ps, rfl, hs, hx, q⟩ := h
  obtain ⟨its, rv, hl, hz⟩ := I.list hs
  rw [Vals.ref1 r]
  obtain ⟨e1, e2⟩ := refs_back rv (prs_refs hx)
  rw [e1] at hx
  obtain ⟨k1, k2⟩ := prs_heap I e2 hx
  refine SrtO.sorted_pairsO (k := pairAt s.heap) hl.isList (by rw [← rv.length]; exact hz) (fun v hv => (k2 v hv).1) fun h' d out h1 h2 kp hd hn => ?_
  obtain ⟨n, hn⟩ := hn
  have pm := h2.perm
  have h3 : ∀ u ∈ out, ∃ a, u = Value.ref a := fun u hu => e2 u (pm.mem_iff.mp hu)
  have hlen : (out.map backV).length ≤ sizeLine := by rw [List.length_map, pm.length_eq, ← rv.length]; exact hz
  refine ⟨.ref d, upd H d (.lst (out.map backV)), I.laid (t' := s.toks) kp hd ⟨hlen, out, n, vals_back h3, hn⟩, rfl, ?_⟩
  refine q _ (out.map (pairAt s.heap)) d (prs_of fun u hu => (k2 u (pm.mem_iff.mp hu)).2) (by rw [← k1]; exact pm.map _) ?_ (I.hok.fresh hd)
  exact List.pairwise_map.mpr h1
end
/-! the row of pairs from the least -/
def lexLe (p q : Int × Int) : Bool := decide (p.1 < q.1) || (decide (p.1 = q.1) && decide (p.2 ≤ q.2))
theorem lexLe_iff {p q : Int × Int} : lexLe p q = true ↔ p.1 < q.1 ∨ (p.1 = q.1 ∧ p.2 ≤ q.2) := by unfold lexLe; simp
def sortP (ps : List (Int × Int)) : List (Int × Int) := ps.mergeSort lexLe
theorem sortP_perm (ps : List (Int × Int)) : (sortP ps).Perm ps := List.mergeSort_perm _ _
theorem sortP_pw (ps : List (Int × Int)) : (sortP ps).Pairwise fun x y => lexLe x y = true := List.pairwise_mergeSort (fun a b c h1 h2 => by
    rw [lexLe_iff] at *
    omega) (fun a b => by
    rw [Bool.or_eq_true, lexLe_iff, lexLe_iff]
    omega) ps
theorem lexLe_anti {p q : Int × Int} (h1 : lexLe p q = true) (h2 : lexLe q p = true) : p = q := by
  rw [lexLe_iff] at h1 h2
  exact Prod.ext (by omega) (by omega)
theorem sortP_uniq {ps qs : List (Int × Int)} (h : qs.Perm ps) (w : qs.Pairwise (fun x y => SrtO.lexB y x = false)) : qs = sortP ps := by
  refine (h.trans (sortP_perm ps).symm).eq_of_pairwise (le := fun x y => lexLe x y = true) (fun a b _ _ => lexLe_anti) (w.imp fun {x y} z => ?_) (sortP_pw ps)
  have := SrtO.lexB_no.mp z
  rw [lexLe_iff]
  omega
section
variable {K : PySem.W.Frag} {H : Hp} {M : MS}
theorem prs_reps : ∀ {ps : List (Int × Int)} {vs : List V}, Reps K H M (ps.map fun q => Dt.tup [.int q.1, .int q.2]) vs → PrsAt K H vs ps
  | [], vs, h => by rw [show vs = [] from h]; exact trivial
  | p :: ps, vs, h => by
    obtain ⟨v, r, e, ⟨a, us, e1, e2, ⟨u1, r1, f1, g1, u2, r2, f2, g2, f3⟩⟩, h2⟩ := h
    rw [e]
    refine ⟨⟨a, e1, ?_⟩, prs_reps h2⟩
    rw [f1, f2, show r2 = [] from f3, show u1 = V.int p.1 from g1, show u2 = V.int p.2 from g2] at e2
    exact e2
theorem reps_prs : ∀ {ps : List (Int × Int)} {vs : List V}, PrsAt K H vs ps → Reps K H M (ps.map fun q => Dt.tup [.int q.1, .int q.2]) vs
  | [], [], _ => rfl
  | [], _ :: _, h => h.elim
  | _ :: _, [], h => h.elim
  | p :: ps, v :: vs, h => by
    obtain ⟨⟨t, e, ht⟩, h2⟩ := h
    exact ⟨v, vs, rfl, ⟨t, [.int p.1, .int p.2], e, ht, ⟨_, _, rfl, rfl, _, _, rfl, rfl, rfl⟩⟩, reps_prs h2⟩
theorem n_sortedP {ps : List (Int × Int)} : OpN K (rSortedPS K) [.lst (ps.map fun q => Dt.tup [.int q.1, .int q.2])] (.fr ((sortP ps).map fun q => Dt.tup [.int q.1, .int q.2])) := fun H M us mok h Q q => by
  obtain ⟨v, r, e, ⟨a, vs, e1, _, e2, e3⟩, h2⟩ := h
  rw [show r = [] from h2, e1] at e
  refine ⟨a, vs, ps, e, .of e2, prs_reps e3, fun ys qs p hy hp hw hn => ?_⟩
  have e4 := sortP_uniq hp hw
  subst e4
  exact res_new mok (reps_prs hy) q hn
theorem n_lcm {a b : Int} (h : (Nat.lcm a.natAbs b.natAbs).log2 < bitsLine) : OpN K rLcm [.int a, .int b] (.val (.int ((Nat.lcm a.natAbs b.natAbs : Nat) : Int))) := .pure fun H M us k => by
  obtain ⟨v, r, e, h1, v2, r2, e2, h3, h4⟩ := k
  rw [e2, show r2 = [] from h4, show v = V.int a from h1, show v2 = V.int b from h3] at e
  exact ⟨_, rfl, fun Q q => ⟨a, b, e, h, q⟩⟩
end
end B
/-! text KA -/
set_option Elab.async false
set_option linter.all false
set_option maxRecDepth 100000
set_option autoImplicit false
namespace B
open PySem PySem.Spec PyProof.Rows L2
local macro_rules | `(tactic| walk_at "o+") => `(tactic| first | exact o_orL o_I0 | (exact o_orR (o_orL (o_cat (by assumption)))) | (exact o_orR (o_orR (o_catT (by assumption) (by assumption)))))
local macro_rules | `(tactic| walk_at "o*") => `(tactic| exact o_orL (o_mul (by walk_at "mul")))
local macro_rules | `(tactic| walk_at "mul") => `(tactic| first | exact mul_nd (by assumption) (by assumption) | exact mul_dd (by assumption) (by assumption) | exact mul_nn (by assumption) (by assumption) | exact mul_dn (by assumption) (by assumption) | assumption)
local macro_rules | `(tactic| walk_at "nz") => `(tactic| assumption)
local macro_rules | `(tactic| walk_at "ix") => `(tactic| first | exact o_ixT' rfl | exact o_ixL' rfl)
local macro_rules | `(tactic| walk_at "o=") => `(tactic| first | exact o_orL o_eqI | exact o_orL o_neI | exact o_orL o_eqB | exact o_orL o_neB)
local macro_rules | `(tactic| walk_at "b_gcd") => `(tactic| exact n_gcd)
local macro_rules | `(tactic| walk_at "b_len") => `(tactic| first | exact n_lenT | exact n_lenL)
local macro_rules | `(tactic| walk_at "b_isinstance") => `(tactic| exact n_isi rfl rfl)
section
variable {P : Program} {w : World} {K : PySem.W.Frag} {mg : Str → Option Value} {base : Heap} {vN vS : V}
/-! reduced -/
inductive S_reduced : List Dt → R → Prop
  | mk {n d : Int} (h : d ≠ 0) : S_reduced [.int n, .int d] (.val (enc (Rat.divInt n d)))
theorem gcd_nz {n d : Int} (h : d ≠ 0) : ((Nat.gcd n.natAbs d.natAbs : Nat) : Int) ≠ 0 := fun z => h (by
  have := Nat.eq_zero_of_gcd_eq_zero_right (show Nat.gcd n.natAbs d.natAbs = 0 by omega)
  omega)
theorem c_reduced (T : Txt P w K mg base vN vS) : Cl P w K mg base CX0 34 "reduced" (spP K S_reduced) := by
  refine clP T.d_reduced b_reduced sc_reduced (fun ds r h => by cases h; rfl) fun f cdv A outer s H E hr => ?_
  have hs := seer_in T outer hr (by decide) rfl rfl
  refine ⟨_, (pss_cons (ps_set (i := 2) sc_reduced.nd rfl (Or.inl rfl) (pe_callBfun cr_gcd (by rfl) T.m_gcd (pa_cons (pv 0) (pa_cons (pv 1) pa_nil)))) (pss_cons (ps_if (pt_cmpR op_lt (pv 1) pe_int (nomark _)) (pss_one (ps_set (i := 2) sc_reduced.nd rfl (Or.inl rfl) (pe_un un_neg (pv 2)))) pss_nil) (pss_one (ps_ret (pe_tup (pa_cons (pe_op (op_fdivP hs) (pv 0) (pv 2)) (pa_cons (pe_op (op_fdivP hs) (pv 1) (pv 2)) pa_nil))))))), fun Fz ds r h => ?_⟩
  cases h with
  | mk h =>
    rename_i n d
    have g0 := gcd_nz (n := n) h
    refine fin_rt ?_
    refine xs_cons (y_set (e_cb (a_cons (e_var rfl) (a_cons (e_var rfl) a_nil)) (by walk_at "b_gcd"))) ?_
    refine xs_cons (ρ1 := [some (.val (.int n)), some (.val (.int d)), some (.val (.int (if d < 0 then -((Nat.gcd n.natAbs d.natAbs : Nat) : Int) else ((Nat.gcd n.natAbs d.natAbs : Nat) : Int))))]) ?_ ?_
    · refine y_if (t_test (e_op (e_var rfl) (e_int) o_C0)) (fun hd => ?_) (fun hd => ?_)
      · exact y_setN (e_un (e_var rfl) o_U) (ltb rfl) (by rw [if_pos (of_decide_eq_true hd)]; rfl)
      · rw [if_neg (of_decide_eq_false hd)]; exact x_next
    · rw [reduced_eq n d h]
      have hz : (if d < 0 then -((Nat.gcd n.natAbs d.natAbs : Nat) : Int) else ((Nat.gcd n.natAbs d.natAbs : Nat) : Int)) ≠ 0 := by split <;> omega
      exact y_ret (e_tup (a_cons (e_op (e_var rfl) (e_var rfl) (o_fdiv (by walk_at "nz"))) (a_cons (e_op (e_var rfl) (e_var rfl) (o_fdiv (by walk_at "nz"))) a_nil)))
/-! added .. -/
local macro_rules | `(tactic| walk_at "sp") => `(tactic| exact S_reduced.mk (by walk_at "nzd"))
theorem den2_ne (a b : Rat) : (a.den : Int) * (b.den : Int) ≠ 0 := Int.mul_ne_zero (den_ne a) (den_ne b)
local macro_rules | `(tactic| walk_at "nzd") => `(tactic| first | exact den2_ne _ _ | assumption)
inductive S_added : List Dt → R → Prop
  | mk {a b : Rat} (ha : Sm a) (hb : Sm b) : S_added [enc a, enc b] (.val (enc (a + b)))
inductive S_lessened : List Dt → R → Prop
  | mk {a b : Rat} (ha : Sm a) (hb : Sm b) : S_lessened [enc a, enc b] (.val (enc (a - b)))
inductive S_scaled : List Dt → R → Prop
  | mk {a b : Rat} (ha : Sm a) (hb : Sm b) : S_scaled [enc a, enc b] (.val (enc (a * b)))
inductive S_divided : List Dt → R → Prop
  | mk {a b : Rat} (ha : Sm a) (hb : Sm b) (h : b ≠ 0) : S_divided [enc a, enc b] (.val (enc (a / b)))
inductive S_side : List Dt → R → Prop
  | mk {a b : Rat} (ha : Sm a) (hb : Sm b) : S_side [enc a, enc b] (.val (.int (sideI a b)))
inductive S_lesser_of : List Dt → R → Prop
  | mk {a b : Rat} (ha : Sm a) (hb : Sm b) : S_lesser_of [enc a, enc b] (.val (enc (min a b)))
inductive S_greater_of : List Dt → R → Prop
  | mk {a b : Rat} (ha : Sm a) (hb : Sm b) : S_greater_of [enc a, enc b] (.val (enc (max a b)))
theorem c_added (T : Txt P w K mg base vN vS) : Cl P w K mg base CX0 35 "added" (spP K S_added) := by
  refine clP T.d_added b_added sc_added (fun ds r h => by cases h; rfl) fun f cdv A outer s H E hr => ?_
  refine ⟨_, (pss_one (ps_ret (pe_cl (c_reduced T) hr (by decide) (by rfl) pass0 (pa_cons (pe_op (op_addK K rfl) (pe_op op_mulA (pe_ix (ix_sK K rfl) (pv 0) pe_int (fun _ _ => rfl)) (pe_ix (ix_sK K rfl) (pv 1) pe_int (fun _ _ => rfl))) (pe_op op_mulA (pe_ix (ix_sK K rfl) (pv 1) pe_int (fun _ _ => rfl)) (pe_ix (ix_sK K rfl) (pv 0) pe_int (fun _ _ => rfl)))) (pa_cons (pe_op op_mulA (pe_ix (ix_sK K rfl) (pv 0) pe_int (fun _ _ => rfl)) (pe_ix (ix_sK K rfl) (pv 1) pe_int (fun _ _ => rfl))) pa_nil))))), fun Fz ds r h => ?_⟩
  cases h with
  | mk ha hb =>
    rw [← div_add]
    exact fin_rt (y_ret (e_call (a_cons (e_op (e_op (e_op (e_var rfl) (e_int) (by walk_at "ix")) (e_op (e_var rfl) (e_int) (by walk_at "ix")) (by walk_at "o*")) (e_op (e_op (e_var rfl) (e_int) (by walk_at "ix")) (e_op (e_var rfl) (e_int) (by walk_at "ix")) (by walk_at "o*")) (by walk_at "o+")) (a_cons (e_op (e_op (e_var rfl) (e_int) (by walk_at "ix")) (e_op (e_var rfl) (e_int) (by walk_at "ix")) (by walk_at "o*")) a_nil)) (by walk_at "sp")))
theorem c_lessened (T : Txt P w K mg base vN vS) : Cl P w K mg base CX0 35 "lessened" (spP K S_lessened) := by
  refine clP T.d_lessened b_lessened sc_lessened (fun ds r h => by cases h; rfl) fun f cdv A outer s H E hr => ?_
  refine ⟨_, (pss_one (ps_ret (pe_cl (c_reduced T) hr (by decide) (by rfl) pass0 (pa_cons (pe_op op_sub (pe_op op_mulA (pe_ix (ix_sK K rfl) (pv 0) pe_int (fun _ _ => rfl)) (pe_ix (ix_sK K rfl) (pv 1) pe_int (fun _ _ => rfl))) (pe_op op_mulA (pe_ix (ix_sK K rfl) (pv 1) pe_int (fun _ _ => rfl)) (pe_ix (ix_sK K rfl) (pv 0) pe_int (fun _ _ => rfl)))) (pa_cons (pe_op op_mulA (pe_ix (ix_sK K rfl) (pv 0) pe_int (fun _ _ => rfl)) (pe_ix (ix_sK K rfl) (pv 1) pe_int (fun _ _ => rfl))) pa_nil))))), fun Fz ds r h => ?_⟩
  cases h with
  | mk ha hb =>
    rw [← div_sub]
    exact fin_rt (y_ret (e_call (a_cons (e_op (e_op (e_op (e_var rfl) (e_int) (by walk_at "ix")) (e_op (e_var rfl) (e_int) (by walk_at "ix")) (by walk_at "o*")) (e_op (e_op (e_var rfl) (e_int) (by walk_at "ix")) (e_op (e_var rfl) (e_int) (by walk_at "ix")) (by walk_at "o*")) o_I0) (a_cons (e_op (e_op (e_var rfl) (e_int) (by walk_at "ix")) (e_op (e_var rfl) (e_int) (by walk_at "ix")) (by walk_at "o*")) a_nil)) (by walk_at "sp")))
theorem c_scaled (T : Txt P w K mg base vN vS) : Cl P w K mg base CX0 35 "scaled" (spP K S_scaled) := by
  refine clP T.d_scaled b_scaled sc_scaled (fun ds r h => by cases h; rfl) fun f cdv A outer s H E hr => ?_
  refine ⟨_, (pss_one (ps_ret (pe_cl (c_reduced T) hr (by decide) (by rfl) pass0 (pa_cons (pe_op op_mulA (pe_ix (ix_sK K rfl) (pv 0) pe_int (fun _ _ => rfl)) (pe_ix (ix_sK K rfl) (pv 1) pe_int (fun _ _ => rfl))) (pa_cons (pe_op op_mulA (pe_ix (ix_sK K rfl) (pv 0) pe_int (fun _ _ => rfl)) (pe_ix (ix_sK K rfl) (pv 1) pe_int (fun _ _ => rfl))) pa_nil))))), fun Fz ds r h => ?_⟩
  cases h with
  | mk ha hb =>
    rw [← div_mul]
    exact fin_rt (y_ret (e_call (a_cons (e_op (e_op (e_var rfl) (e_int) (by walk_at "ix")) (e_op (e_var rfl) (e_int) (by walk_at "ix")) (by walk_at "o*")) (a_cons (e_op (e_op (e_var rfl) (e_int) (by walk_at "ix")) (e_op (e_var rfl) (e_int) (by walk_at "ix")) (by walk_at "o*")) a_nil)) (by walk_at "sp")))
theorem c_divided (T : Txt P w K mg base vN vS) : Cl P w K mg base CX0 35 "divided" (spP K S_divided) := by
  refine clP T.d_divided b_divided sc_divided (fun ds r h => by cases h; rfl) fun f cdv A outer s H E hr => ?_
  refine ⟨_, (pss_one (ps_ret (pe_cl (c_reduced T) hr (by decide) (by rfl) pass0 (pa_cons (pe_op op_mulA (pe_ix (ix_sK K rfl) (pv 0) pe_int (fun _ _ => rfl)) (pe_ix (ix_sK K rfl) (pv 1) pe_int (fun _ _ => rfl))) (pa_cons (pe_op op_mulA (pe_ix (ix_sK K rfl) (pv 0) pe_int (fun _ _ => rfl)) (pe_ix (ix_sK K rfl) (pv 1) pe_int (fun _ _ => rfl))) pa_nil))))), fun Fz ds r h => ?_⟩
  cases h with
  | mk ha hb h =>
    rename_i a b
    have hz : (a.den : Int) * b.num ≠ 0 := Int.mul_ne_zero (den_ne a) (num_ne h)
    rw [← div_div]
    exact fin_rt (y_ret (e_call (a_cons (e_op (e_op (e_var rfl) (e_int) (by walk_at "ix")) (e_op (e_var rfl) (e_int) (by walk_at "ix")) (by walk_at "o*")) (a_cons (e_op (e_op (e_var rfl) (e_int) (by walk_at "ix")) (e_op (e_var rfl) (e_int) (by walk_at "ix")) (by walk_at "o*")) a_nil)) (by walk_at "sp")))
theorem c_side (T : Txt P w K mg base vN vS) : Cl P w K mg base CX0 34 "side" (spP K S_side) := by
  refine clP T.d_side b_side sc_side (fun ds r h => by cases h; rfl) fun f cdv A outer s H E hr => ?_
  refine ⟨_, (pss_cons (ps_par (i := 2) (j := 3) rfl sc_side.nd rfl rfl (by decide) rfl rfl (pa_cons (pe_op op_mulA (pe_ix (ix_sK K rfl) (pv 0) pe_int (fun _ _ => rfl)) (pe_ix (ix_sK K rfl) (pv 1) pe_int (fun _ _ => rfl))) (pa_cons (pe_op op_mulA (pe_ix (ix_sK K rfl) (pv 1) pe_int (fun _ _ => rfl)) (pe_ix (ix_sK K rfl) (pv 0) pe_int (fun _ _ => rfl))) pa_nil)) (by rfl)) (pss_cons (ps_if (pt_cmpR (op_eqK K rfl (hu_of hr)) (pv 2) (pv 3) (nomark _)) (pss_one (ps_ret pe_int)) pss_nil) (pss_one (ps_ret (pe_ifExp (pt_cmpR op_lt (pv 2) (pv 3) (nomark _)) (pe_un un_neg pe_int) pe_int))))), fun Fz ds r h => ?_⟩
  cases h with
  | mk ha hb =>
    rename_i a b
    refine fin_rt ?_
    refine xs_cons (y_par (a_cons (e_op (e_op (e_var rfl) (e_int) (by walk_at "ix")) (e_op (e_var rfl) (e_int) (by walk_at "ix")) (by walk_at "o*")) (a_cons (e_op (e_op (e_var rfl) (e_int) (by walk_at "ix")) (e_op (e_var rfl) (e_int) (by walk_at "ix")) (by walk_at "o*")) a_nil))) ?_
    unfold sideI
    refine ys_if (t_test (e_op (e_var rfl) (e_var rfl) (by walk_at "o="))) (fun h => ?_) rfl (fun h => x_next) (fun h => ?_)
    · rw [if_pos ((cross_eq a b).mp (eq_of_beq h))]
      exact y_ret e_int
    · rw [if_neg fun z => (ne_of_beq_false h) ((cross_eq a b).mpr z)]
      refine y_ret (e_cast (e_ifV (x := .int (-1)) (y := .int 1) (t_test (e_op (e_var rfl) (e_var rfl) o_C0)) (fun h => (e_un e_int o_U)) (fun h => e_int)) ?_)
      by_cases hl : a < b
      · rw [if_pos hl, if_pos (decide_eq_true ((cross_lt a b).mpr hl))]
      · rw [if_neg hl, if_neg (by simpa using fun z => hl ((cross_lt a b).mp z))]
local macro_rules | `(tactic| walk_at "sp") => `(tactic| exact S_side.mk (by assumption) (by assumption))
theorem c_lesser_of (T : Txt P w K mg base vN vS) : Cl P w K mg base CX0 35 "lesser_of" (spP K S_lesser_of) := by
  refine clP T.d_lesser_of b_lesser_of sc_lesser_of (fun ds r h => by cases h; rfl) fun f cdv A outer s H E hr => ?_
  refine ⟨_, (pss_one (ps_ret (pe_ifExp (pt_cmpR op_le (pe_cl (c_side T) hr (by decide) (by rfl) pass0 (pa_cons (pv 0) (pa_cons (pv 1) pa_nil))) pe_int (nomark _)) (pv 0) (pv 1)))), fun Fz ds r h => ?_⟩
  cases h with
  | mk ha hb =>
    rename_i a b
    refine fin_rt (y_ret (e_cast (e_ifV (x := enc a) (y := enc b) (t_test (e_op (e_call (a_cons (e_var rfl) (a_cons (e_var rfl) a_nil)) (by walk_at "sp")) (e_int) o_C0)) (fun h => (e_var rfl)) (fun h => (e_var rfl))) ?_))
    rw [sideI_le, min_if]
    by_cases h : a ≤ b <;> simp [h]
theorem c_greater_of (T : Txt P w K mg base vN vS) : Cl P w K mg base CX0 35 "greater_of" (spP K S_greater_of) := by
  refine clP T.d_greater_of b_greater_of sc_greater_of (fun ds r h => by cases h; rfl) fun f cdv A outer s H E hr => ?_
  refine ⟨_, (pss_one (ps_ret (pe_ifExp (pt_cmpR op_ge (pe_cl (c_side T) hr (by decide) (by rfl) pass0 (pa_cons (pv 0) (pa_cons (pv 1) pa_nil))) pe_int (nomark _)) (pv 0) (pv 1)))), fun Fz ds r h => ?_⟩
  cases h with
  | mk ha hb =>
    rename_i a b
    refine fin_rt (y_ret (e_cast (e_ifV (x := enc a) (y := enc b) (t_test (e_op (e_call (a_cons (e_var rfl) (a_cons (e_var rfl) a_nil)) (by walk_at "sp")) (e_int) o_C0)) (fun h => (e_var rfl)) (fun h => (e_var rfl))) ?_))
    rw [sideI_ge, max_if]
    by_cases h : b ≤ a <;> simp [h]
end
end B
/-! text KB -/
set_option Elab.async false
set_option linter.all false
set_option maxRecDepth 100000
set_option autoImplicit false
namespace B
open PySem PySem.Spec PyProof.Rows L2
local macro_rules | `(tactic| walk_at "o+") => `(tactic| first | exact o_orL o_I0 | (exact o_orR (o_orL (o_cat (by assumption)))) | (exact o_orR (o_orR (o_catA (by assumption)))))
local macro_rules | `(tactic| walk_at "o*") => `(tactic| exact o_orL (o_mul (by walk_at "mul")))
local macro_rules | `(tactic| walk_at "mul") => `(tactic| first | assumption | exact mul_nd (by assumption) (by assumption) | exact mul_dd (by assumption) (by assumption) | exact mul_nn (by assumption) (by assumption) | exact mul_dn (by assumption) (by assumption))
local macro_rules | `(tactic| walk_at "nz") => `(tactic| assumption)
local macro_rules | `(tactic| walk_at "nzd") => `(tactic| exact den2_ne _ _)
local macro_rules | `(tactic| walk_at "ix") => `(tactic| first | exact o_ixT' rfl | exact o_ixL' rfl | exact o_ixT' (by assumption) | exact o_ixL' (by assumption))
local macro_rules | `(tactic| walk_at "o=") => `(tactic| first | exact o_orL o_eqI | exact o_orL o_neI | exact o_orL o_eqB | exact o_orL o_neB | exact o_orR (o_eqD (by assumption) (by assumption)) | exact o_orR (o_neD (by assumption) (by assumption)) | exact o_orR (o_eqD rfl rfl) | exact o_orR (o_neD rfl rfl))
local macro_rules | `(tactic| walk_at "b_gcd") => `(tactic| exact n_gcd)
local macro_rules | `(tactic| walk_at "b_len") => `(tactic| first | exact n_lenT | exact n_lenL)
local macro_rules | `(tactic| walk_at "b_tuple") => `(tactic| first | exact n_tupleL | exact n_tupleT)
local macro_rules | `(tactic| walk_at "b_isinstance") => `(tactic| exact n_isi rfl rfl)
local macro_rules | `(tactic| walk_at "b_all") => `(tactic| exact n_all)
local macro_rules | `(tactic| walk_at "b_lcm") => `(tactic| exact n_lcm (by assumption))
local macro_rules | `(tactic| walk_at "b_sorted") => `(tactic| exact n_sortedP)
local macro_rules | `(tactic| walk_at "sp") => `(tactic| (constructor <;> first | assumption | rfl | walk_at "nzd"))
section
variable {P : Program} {w : World} {K : PySem.W.Frag} {mg : Str → Option Value} {base : Heap} {vN vS : V}
end
section
variable {α β : Type}
/-- a loop whose bindings go along with a state; J: what holds of the state and of what is to come -/
theorem forx_inv {step : Dt → En → Out → Prop} {f : α → Dt} {env : β → En} {g : β → α → β} {J : List α → β → Prop} (hs : ∀ x xs b, J (x :: xs) b → (step (f x) (env b) (.nx (env (g b x))) ∨ step (f x) (env b) (.ct (env (g b x)))) ∧ J xs (g b x)) :
    ∀ {xs : List α} {b : β}, J xs b → ForX step (xs.map f) (env b) (.nx (env (xs.foldl g b)))
  | [], b, _ => rfl
  | x :: xs, b, h => .inl ⟨env (g b x), (hs x xs b h).1, forx_inv hs (hs x xs b h).2⟩
end
/-! sums -/
def rsum (qs : List Rat) : Rat := qs.foldl (· + ·) 0
theorem sz_foldl {k : Nat} : ∀ {qs : List Rat} {a : Rat} {j : Nat}, Sz j a → (∀ q ∈ qs, Sz k q) → Sz (j + qs.length * (k + 1)) (qs.foldl (· + ·) a)
  | [], a, j, ha, _ => by rw [List.length_nil, Nat.zero_mul]; exact ha
  | q :: qs, a, j, ha, h => by
    have := sz_foldl (qs := qs) (sz_add ha (h q (List.mem_cons_self ..))) fun x hx => h x (List.mem_cons_of_mem _ hx)
    rw [List.length_cons, Nat.succ_mul]
    rw [List.foldl_cons]
    refine this.mono ?_
    omega
theorem sz_rsum {k : Nat} {qs : List Rat} (h : ∀ q ∈ qs, Sz k q) : Sz (1 + qs.length * (k + 1)) (rsum qs) := sz_foldl (sz_zero (by decide)) h
section
variable {P : Program} {w : World} {K : PySem.W.Frag} {mg : Str → Option Value} {base : Heap} {vN vS : V}
inductive S_summed : List Dt → R → Prop
  | mk {qs : List Rat} {k : Nat} (h : ∀ q ∈ qs, Sz k q) (hz : 1 + qs.length * (k + 1) ≤ 40000000) : S_summed [.lst (qs.map enc)] (.val (enc (rsum qs)))
section
local macro_rules | `(tactic| walk_at "sp") => `(tactic| exact S_added.mk (by assumption) (by assumption))
theorem c_summed (T : Txt P w K mg base vN vS) : Cl P w K mg base CX0 36 "summed" (spP K S_summed) := by
  refine clP T.d_summed b_summed sc_summed (fun ds r h => by cases h; rfl) fun f cdv A outer s H E hr => ?_
  refine ⟨_, (pss_cons (ps_set (i := 1) sc_summed.nd rfl (Or.inl rfl) (pe_globK (T.k_NOTHING) (by rfl))) (pss_cons (ps_for PassesOwn.leaving rfl (pi_anyK K rfl (pv 0)) (pg_name (i := 2) sc_summed.nd rfl (Or.inl rfl)) (pss_one (ps_set (i := 1) sc_summed.nd rfl (Or.inl rfl) (pe_cl (c_added T) hr (by decide) (by rfl) pass0 (pa_cons (pv 1) (pa_cons (pv 2) pa_nil)))))) (pss_one (ps_ret (pv 1))))), fun Fz ds r h => ?_⟩
  cases h with
  | mk h hz =>
    rename_i qs k
    refine fin_rt ?_
    refine xs_cons (y_set (e_cK T.r_NOTHING)) ?_
    refine xs_cons (y_for (i_anyL (e_var rfl)) (forx_inv (f := enc) (env := fun q => [some (.val (.lst (qs.map enc))), some (.val (enc q)), none]) (g := (· + ·)) (J := fun xs b => ∃ j, Sz j b ∧ (∀ q ∈ xs, Sz k q) ∧ j + xs.length * (k + 1) ≤ 40000000) ?_ (b := 0) ⟨1, sz_zero (by decide), h, hz⟩)) ?_
    · rintro x xs b ⟨j, hb, hx, hl⟩
      rw [List.length_cons, Nat.succ_mul] at hl
      have h1 := hx x (List.mem_cons_self ..)
      have hb' : Sm b := hb.sm (by omega)
      have hx' : Sm x := h1.sm (by omega)
      exact ⟨.inl (turn (g_name (ltb rfl)) (x_forget (i := 2) (y_set (e_call (a_cons (e_var rfl) (a_cons (e_var rfl) a_nil)) (by walk_at "sp"))) rfl)), j + k + 1, sz_add hb h1, fun q hq => hx q (List.mem_cons_of_mem _ hq), by omega⟩
    · exact y_ret (e_var rfl)
end
/-! what is what -/
inductive S_is_number : List Dt → R → Prop
  | mk {n : Int} : S_is_number [.int n] (.val (.bl true))
theorem c_is_number (T : Txt P w K mg base vN vS) : Cl P w K mg base CX0 34 "is_number" (spP K S_is_number) := by
  refine clP T.d_is_number b_is_number sc_is_number (fun ds r h => by cases h; rfl) fun f cdv A outer s H E hr => ?_
  refine ⟨_, (pss_one (ps_ret (pe_and (pe_callB call_isi (by rfl) T.z_isinstance (by decide +kernel) (pa_cons (pv 0) (pa_cons (pe_bltn (v := .ty "int") (by rfl) (T.z_int) (by decide +kernel) rfl) pa_nil))) (pe_one (pe_not (pe_callB call_isi (by rfl) T.z_isinstance (by decide +kernel) (pa_cons (pv 0) (pa_cons (pe_bltn (v := .ty "bool") (by rfl) (T.z_bool) (by decide +kernel) rfl) pa_nil)))))))), fun Fz ds r h => ?_⟩
  cases h with
  | mk => exact fin_rt (y_ret (e_cast (e_and (e_cb (a_cons (e_var rfl) (a_cons (e_ty) a_nil)) (by walk_at "b_isinstance")) (fun h => (e_not (e_cb (a_cons (e_var rfl) (a_cons (e_ty) a_nil)) (by walk_at "b_isinstance"))))) (by rfl)))
inductive S_is_from : List Dt → R → Prop
  | mk {n m : Int} (h : m ≤ n) : S_is_from [.int n, .int m] (.val (.bl true))
section
local macro_rules | `(tactic| walk_at "sp") => `(tactic| exact S_is_number.mk)
theorem c_is_from (T : Txt P w K mg base vN vS) : Cl P w K mg base CX0 35 "is_from" (spP K S_is_from) := by
  refine clP T.d_is_from b_is_from sc_is_from (fun ds r h => by cases h; rfl) fun f cdv A outer s H E hr => ?_
  refine ⟨_, (pss_one (ps_ret (pe_and (pe_cl (c_is_number T) hr (by decide) (by rfl) pass0 (pa_cons (pv 0) pa_nil)) (pe_one (pe_cmpR op_ge (pv 0) (pv 1) (nomark _)))))), fun Fz ds r h => ?_⟩
  cases h with
  | mk h => exact fin_rt (y_ret (e_cast (e_and (e_call (a_cons (e_var rfl) a_nil) (by walk_at "sp")) (fun h => (e_op (e_var rfl) (e_var rfl) o_C0))) (by rw [decide_eq_true h]; rfl)))
end
inductive S_is_long : List Dt → R → Prop
  | mk {xs : List Dt} {n : Int} (h : (xs.length : Int) = n) : S_is_long [.tup xs, .int n] (.val (.bl true))
theorem c_is_long (T : Txt P w K mg base vN vS) : Cl P w K mg base CX0 34 "is_long" (spP K S_is_long) := by
  refine clP T.d_is_long b_is_long sc_is_long (fun ds r h => by cases h; rfl) fun f cdv A outer s H E hr => ?_
  refine ⟨_, (pss_one (ps_ret (pe_and (pe_callB call_isi (by rfl) T.z_isinstance (by decide +kernel) (pa_cons (pv 0) (pa_cons (pe_bltn (v := .ty "tuple") (by rfl) (T.z_tuple) (by decide +kernel) rfl) pa_nil))) (pe_one (pe_cmpR (op_eqK K rfl (hu_of hr)) (pe_callB call_len_seq (by rfl) T.z_len (by decide +kernel) (pa_cons (pv 0) pa_nil)) (pv 1) (nomark _)))))), fun Fz ds r h => ?_⟩
  cases h with
  | mk h => exact fin_rt (y_ret (e_cast (e_and (e_cb (a_cons (e_var rfl) (a_cons (e_ty) a_nil)) (by walk_at "b_isinstance")) (fun h => (e_op (e_cb (a_cons (e_var rfl) a_nil) (by walk_at "b_len")) (e_var rfl) (by walk_at "o=")))) (by rw [h, beq_self_eq_true]; rfl)))
/-! tupled -/
mutual
def tdat : Nat → Dt → Bool
  | _, .int _ => true
  | n + 1, .tup ds => Nat.blt ds.length 1000000 && tdats n ds
  | _, _ => false
def tdats : Nat → List Dt → Bool
  | _, [] => true
  | n, d :: ds => tdat n d && tdats n ds
end
theorem tdats_all {n : Nat} : ∀ {ds : List Dt}, tdats n ds = true → ∀ d ∈ ds, tdat n d = true
  | [], _, d, h => by cases h
  | x :: xs, h, d, hd => by
    rw [tdats, Bool.and_eq_true] at h
    rcases List.mem_cons.mp hd with z | z
    · rw [z]; exact h.1
    · exact tdats_all h.2 d z
theorem tdat_tup {n : Nat} {xs : List Dt} (h : tdat n (.tup xs) = true) : ∃ m, n = m + 1 ∧ Nat.blt xs.length 1000000 = true ∧ tdats m xs = true := by
  cases n with
  | zero => simp [tdat] at h
  | succ m =>
    rw [tdat, Bool.and_eq_true] at h
    exact ⟨m, rfl, h⟩
inductive S_tupled : Nat → List Dt → R → Prop
  | mk {n : Nat} {d : Dt} (h : tdat n d = true) : S_tupled (n + 1) [d] (.val d)
/-- a def of which nothing is said -/
theorem c_tupled0 (T : Txt P w K mg base vN vS) : Cl P w K mg base CX0 33 "tupled" (spP K (S_tupled 0)) := by
  refine clP T.d_tupled b_tupled sc_tupled (fun ds r h => by cases h) fun f cdv A outer s H E hr => ?_
  exact ⟨_, pss_never, fun Fz ds r h => by cases h⟩
def tsz : Dt → Nat
  | .tup xs => xs.length
  | _ => 0
section
local macro_rules | `(tactic| walk_at "sp") => `(tactic| assumption)
theorem c_tupledN (T : Txt P w K mg base vN vS) : ∀ n : Nat, n ≤ 6 → Cl P w K mg base CX0 (33 + n) "tupled" (spP K (S_tupled n))
  | 0, _ => c_tupled0 T
  | n + 1, hn => by
    have c_ih := c_tupledN T n (by omega)
    refine clP (k := 33 + n) T.d_tupled b_tupled sc_tupled (fun ds r h => by cases h; rfl) fun f cdv A outer s H E hr => ?_
    refine ⟨_, (pss_one (ps_ret (pe_ifExp (pt_val (pe_callB call_isiT (by rfl) T.z_isinstance (by decide +kernel) (pa_cons (pv 0) (pa_cons (pe_tup (pa_cons (pe_bltn (v := .ty "list") (by rfl) (T.z_list) (by decide +kernel) rfl) (pa_cons (pe_bltn (v := .ty "tuple") (by rfl) (T.z_tuple) (by decide +kernel) rfl) pa_nil))) pa_nil)))) (pe_callTy call_tuple_of (by rfl) T.z_tuple (by decide +kernel) (pa_cons (pe_lc (own := [("own", 1)]) rfl sc_tupled.nd (pi_anyK K rfl (pv 0)) (blkOk_by (N := n_tupled) (sc := defScope s_tupled) (by decide +kernel)) (by exact fun _ _ _ _ _ => (pg_name (i := 1) sc_tupled.nd rfl (Or.inl rfl))) (by exact fun _ _ _ _ _ => pts_nil) (by exact fun _ _ _ _ _ => (pe_cl c_ih hr (by omega) (by rfl) pass0 (pa_cons (pv 1) pa_nil)))) pa_nil)) (pv 0)))), fun Fz ds r h => ?_⟩
    cases h with
    | mk h =>
      rename_i d
      refine fin_rt ?_
      cases d with
      | tup xs =>
        refine y_ret (e_if (t_b (e_isiT (e_var rfl) rfl (b := true) rfl rfl rfl)) (fun _ => ?_) fun z => nomatch z)
        obtain ⟨m, rfl, h', h2⟩ := tdat_tup h
        have hx := tdats_all h2
        have hl : xs.length < sizeLine := Nat.lt_trans (Nat.le_of_ble_eq_true h') (by decide)
        exact e_cb (a_cons (e_frz (e_cast (e_lc1 (f := id) (h := id) (xs := xs) (by rw [List.map_id]; exact i_anyT (e_var rfl)) (fun x hxm => e_call (a_cons (e_var rfl) a_nil) (.mk (hx x hxm))) hl) (by rw [List.map_id]))) a_nil) n_tupleL
      | int i =>
        refine y_ret (e_if (t_b (e_isiT (e_var rfl) rfl (b := false) rfl rfl rfl)) (fun z => nomatch z) fun _ => (e_var rfl))
      | _ => cases h
end
theorem c_tupled (T : Txt P w K mg base vN vS) : Cl P w K mg base CX0 39 "tupled" (spP K (S_tupled 6)) := c_tupledN T 6 (by decide)
end
end B
/-! text KC -/
set_option Elab.async false
set_option linter.all false
set_option maxRecDepth 100000
set_option autoImplicit false
namespace B
open PySem PySem.Spec PyProof.Rows L2
local macro_rules | `(tactic| walk_at "o+") => `(tactic| first | exact o_orL o_I0 | (exact o_orR (o_orL (o_cat (by assumption)))) | (exact o_orR (o_orR (o_catA (by assumption)))))
local macro_rules | `(tactic| walk_at "o*") => `(tactic| exact o_orL (o_mul (by walk_at "mul")))
local macro_rules | `(tactic| walk_at "mul") => `(tactic| first | assumption | exact mul_nd (by assumption) (by assumption) | exact mul_dd (by assumption) (by assumption) | exact mul_nn (by assumption) (by assumption) | exact mul_dn (by assumption) (by assumption))
local macro_rules | `(tactic| walk_at "nz") => `(tactic| assumption)
local macro_rules | `(tactic| walk_at "nzd") => `(tactic| exact den2_ne _ _)
local macro_rules | `(tactic| walk_at "ix") => `(tactic| first | exact o_ixT' rfl | exact o_ixL' rfl | exact o_ixT' (by assumption) | exact o_ixL' (by assumption))
local macro_rules | `(tactic| walk_at "o=") => `(tactic| first | exact o_orL o_eqI | exact o_orL o_neI | exact o_orL o_eqB | exact o_orL o_neB | exact o_orR (o_eqD (by assumption) (by assumption)) | exact o_orR (o_neD (by assumption) (by assumption)) | exact o_orR (o_eqD rfl rfl) | exact o_orR (o_neD rfl rfl))
local macro_rules | `(tactic| walk_at "b_gcd") => `(tactic| exact n_gcd)
local macro_rules | `(tactic| walk_at "b_len") => `(tactic| first | exact n_lenT | exact n_lenL)
local macro_rules | `(tactic| walk_at "b_tuple") => `(tactic| first | exact n_tupleL | exact n_tupleT)
local macro_rules | `(tactic| walk_at "b_isinstance") => `(tactic| exact n_isi rfl rfl)
local macro_rules | `(tactic| walk_at "b_all") => `(tactic| exact n_all)
local macro_rules | `(tactic| walk_at "b_lcm") => `(tactic| exact n_lcm (by assumption))
local macro_rules | `(tactic| walk_at "b_sorted") => `(tactic| exact n_sortedP)
local macro_rules | `(tactic| walk_at "sp") => `(tactic| (constructor <;> first | assumption | rfl | walk_at "nzd"))
section
variable {P : Program} {w : World} {K : PySem.W.Frag} {mg : Str → Option Value} {base : Heap} {vN vS : V}
/-! amounts, brines, stocks as they come in -/
theorem tdat_enc {n : Nat} {q : Rat} : tdat (n + 1) (enc q) = true := by unfold enc; rw [tdat, tdats, tdats, tdats, tdat, tdat]; rfl
theorem tdat_encB {n : Nat} {b : Rat × Rat} : tdat (n + 2) (encB b) = true := by unfold encB; rw [tdat, tdats, tdats, tdats, tdat_enc, tdat_enc]; rfl
/-- rows of brines -/
def encC (c : List (Rat × Rat)) : Dt := .tup (c.map encB)
theorem tdats_map {α : Type} {n : Nat} {f : α → Dt} (h : ∀ x, tdat n (f x) = true) : ∀ xs : List α, tdats n (xs.map f) = true
  | [] => by rw [List.map_nil, tdats]
  | x :: xs => by rw [List.map_cons, tdats, h, tdats_map h xs]; rfl
theorem tdat_encC {n : Nat} {c : List (Rat × Rat)} (h : c.length < 1000000) : tdat (n + 3) (encC c) = true := by
  unfold encC
  rw [tdat, tdats_map (fun x => tdat_encB), List.length_map]
  simp [h]
def Nn (b : Rat × Rat) : Prop := 0 ≤ b.1 ∧ 0 ≤ b.2
inductive S_is_amount : List Dt → R → Prop
  | mk {q : Rat} (h : 0 ≤ q) : S_is_amount [enc q] (.val (.bl true))
theorem c_is_amount (T : Txt P w K mg base vN vS) : Cl P w K mg base CX0 36 "is_amount" (spP K S_is_amount) := by
  refine clP T.d_is_amount b_is_amount sc_is_amount (fun ds r h => by cases h; rfl) fun f cdv A outer s H E hr => ?_
  refine ⟨_, (pss_cons (ps_if (PW.pt (pw_or (pt_not (pt_val (pe_cl (c_is_long T) hr (by decide) (by rfl) pass0 (pa_cons (pv 0) (pa_cons pe_int pa_nil))))) (pw_or (pt_not (pt_val (pe_cl (c_is_from T) hr (by decide) (by rfl) pass0 (pa_cons (pe_ix (ix_sK K rfl) (pv 0) pe_int (fun _ _ => rfl)) (pa_cons pe_int pa_nil))))) (pw_or1 (pt_not (pt_val (pe_cl (c_is_from T) hr (by decide) (by rfl) pass0 (pa_cons (pe_ix (ix_sK K rfl) (pv 0) pe_int (fun _ _ => rfl)) (pa_cons pe_int pa_nil))))))))) (pss_one (ps_ret pe_bl)) pss_nil) (pss_one (ps_ret (pe_cmpR (op_eqK K rfl (hu_of hr)) (pe_callBfun cr_gcd (by rfl) T.m_gcd (pa_cons (pe_ix (ix_sK K rfl) (pv 0) pe_int (fun _ _ => rfl)) (pa_cons (pe_ix (ix_sK K rfl) (pv 0) pe_int (fun _ _ => rfl)) pa_nil))) pe_int (nomark _))))), fun Fz ds r h => ?_⟩
  cases h with
  | mk h =>
    rename_i q
    have h0 : (0 : Int) ≤ q.num := Rat.num_nonneg.mpr h
    have h1 : (1 : Int) ≤ (q.den : Int) := by have := q.den_pos; omega
    refine fin_rt ?_
    refine xs_cons (y_ifF (t_cast (t_or' (t_not (t_b (e_call (a_cons (e_var rfl) (a_cons (e_int) a_nil)) (by walk_at "sp")))) (fun h => (t_or' (t_not (t_b (e_call (a_cons (e_op (e_var rfl) (e_int) (by walk_at "ix")) (a_cons (e_int) a_nil)) (by walk_at "sp")))) (fun h => (t_not (t_b (e_call (a_cons (e_op (e_var rfl) (e_int) (by walk_at "ix")) (a_cons (e_int) a_nil)) (by walk_at "sp")))))))) rfl) x_next) ?_
    refine y_ret (e_cast (e_op (e_cb (a_cons (e_op (e_var rfl) (e_int) (by walk_at "ix")) (a_cons (e_op (e_var rfl) (e_int) (by walk_at "ix")) a_nil)) (by walk_at "b_gcd")) (e_int) (by walk_at "o=")) ?_)
    rw [Int.natAbs_natCast, show Nat.gcd q.num.natAbs q.den = 1 from q.reduced]
    rfl
inductive S_sure_amount : List Dt → R → Prop
  | mk {q : Rat} (h : 0 ≤ q) : S_sure_amount [enc q] (.val (enc q))
theorem c_sure_amount (T : Txt P w K mg base vN vS) : Cl P w K mg base CX0 40 "sure_amount" (spP K S_sure_amount) := by
  refine clP T.d_sure_amount b_sure_amount sc_sure_amount (fun ds r h => by cases h; rfl) fun f cdv A outer s H E hr => ?_
  refine ⟨_, (pss_cons (ps_set (i := 1) sc_sure_amount.nd rfl (Or.inl rfl) (pe_cl (c_tupled T) hr (by decide) (by rfl) pass0 (pa_cons (pv 0) pa_nil))) (pss_cons (ps_if (pt_not (pt_val (pe_cl (c_is_amount T) hr (by decide) (by rfl) pass0 (pa_cons (pv 1) pa_nil)))) (pss_one ps_never) pss_nil) (pss_one (ps_ret (pv 1))))), fun Fz ds r h => ?_⟩
  cases h with
  | mk h =>
    rename_i q
    refine fin_rt ?_
    have ht : tdat 5 (enc q) = true := tdat_enc
    refine xs_cons (y_set (e_call (a_cons (e_var rfl) a_nil) (by walk_at "sp"))) ?_
    refine xs_cons (y_ifF (t_cast (t_not (t_b (e_call (a_cons (e_var rfl) a_nil) (by walk_at "sp")))) rfl) x_next) ?_
    exact y_ret (e_var rfl)
inductive S_are_amounts : List Dt → R → Prop
  | mk {b : Rat × Rat} (h : Nn b) : S_are_amounts [encB b] (.val (.bl true))
theorem c_are_amounts (T : Txt P w K mg base vN vS) : Cl P w K mg base CX0 37 "are_amounts" (spP K S_are_amounts) := by
  refine clP T.d_are_amounts b_are_amounts sc_are_amounts (fun ds r h => by cases h; rfl) fun f cdv A outer s H E hr => ?_
  refine ⟨_, (pss_one (ps_ret (pe_and (pe_callB call_isi (by rfl) T.z_isinstance (by decide +kernel) (pa_cons (pv 0) (pa_cons (pe_bltn (v := .ty "tuple") (by rfl) (T.z_tuple) (by decide +kernel) rfl) pa_nil))) (pe_one (pe_callB (cr_all rfl) (by rfl) T.z_all (by decide +kernel) (pa_cons (pe_lc (own := [("own", 1)]) rfl sc_are_amounts.nd (pi_anyK K rfl (pv 0)) (blkOk_by (N := n_are_amounts) (sc := defScope s_are_amounts) (by decide +kernel)) (by exact fun _ _ _ _ _ => (pg_name (i := 1) sc_are_amounts.nd rfl (Or.inl rfl))) (by exact fun _ _ _ _ _ => pts_nil) (by exact fun _ _ _ _ _ => (pe_cl (c_is_amount T) hr (by decide) (by rfl) pass0 (pa_cons (pv 1) pa_nil)))) pa_nil)))))), fun Fz ds r h => ?_⟩
  cases h with
  | mk h =>
    rename_i b
    refine fin_rt (y_ret (e_cast (e_and (e_cb (a_cons (e_var rfl) (a_cons (e_ty) a_nil)) (by walk_at "b_isinstance")) (fun _ => e_cb (a_cons (e_frz (e_lc1 (f := enc) (h := fun _ => .bl true) (xs := [b.1, b.2]) (i_anyT (e_var rfl)) (fun x hx => ?_) (ltb rfl))) a_nil) (n_all (bs := [true, true])))) rfl))
    have hq : 0 ≤ x := by
      rcases List.mem_cons.mp hx with z | z
      · rw [z]; exact h.1
      · rw [List.mem_singleton.mp z]; exact h.2
    exact e_call (a_cons (e_var rfl) a_nil) (.mk hq)
inductive S_is_brine : List Dt → R → Prop
  | mk {b : Rat × Rat} (h : Nn b) : S_is_brine [encB b] (.val (.bl true))
theorem c_is_brine (T : Txt P w K mg base vN vS) : Cl P w K mg base CX0 38 "is_brine" (spP K S_is_brine) := by
  refine clP T.d_is_brine b_is_brine sc_is_brine (fun ds r h => by cases h; rfl) fun f cdv A outer s H E hr => ?_
  refine ⟨_, (pss_one (ps_ret (pe_and (pe_cl (c_is_long T) hr (by decide) (by rfl) pass0 (pa_cons (pv 0) (pa_cons pe_int pa_nil))) (pe_one (pe_cl (c_are_amounts T) hr (by decide) (by rfl) pass0 (pa_cons (pv 0) pa_nil)))))), fun Fz ds r h => ?_⟩
  cases h with
  | mk h => exact fin_rt (y_ret (e_cast (e_and (e_call (a_cons (e_var rfl) (a_cons (e_int) a_nil)) (by walk_at "sp")) (fun h => (e_call (a_cons (e_var rfl) a_nil) (by walk_at "sp")))) rfl))
inductive S_is_stock : List Dt → R → Prop
  | mk {c : List (Rat × Rat)} (h : ∀ b ∈ c, Nn b) (hl : c.length < 1000000) : S_is_stock [encC c] (.val (.bl true))
theorem n_all1 {α : Type} {K : PySem.W.Frag} {xs : List α} : OpN K (rAll K) [.lst (xs.map fun _ => Dt.bl true)] (.val (.bl true)) := by
  have h := n_all (K := K) (bs := xs.map fun _ => true)
  rw [List.map_map] at h
  have e : (xs.map fun _ => true).all id = true := by simp
  rw [e] at h
  exact h
theorem lt_sz {n : Nat} (h : n < 1000000) : n < sizeLine := Nat.lt_trans h (by decide)
theorem c_is_stock (T : Txt P w K mg base vN vS) : Cl P w K mg base CX0 39 "is_stock" (spP K S_is_stock) := by
  refine clP T.d_is_stock b_is_stock sc_is_stock (fun ds r h => by cases h; rfl) fun f cdv A outer s H E hr => ?_
  refine ⟨_, (pss_one (ps_ret (pe_and (pe_callB call_isi (by rfl) T.z_isinstance (by decide +kernel) (pa_cons (pv 0) (pa_cons (pe_bltn (v := .ty "tuple") (by rfl) (T.z_tuple) (by decide +kernel) rfl) pa_nil))) (pe_one (pe_callB (cr_all rfl) (by rfl) T.z_all (by decide +kernel) (pa_cons (pe_lc (own := [("own", 1)]) rfl sc_is_stock.nd (pi_anyK K rfl (pv 0)) (blkOk_by (N := n_is_stock) (sc := defScope s_is_stock) (by decide +kernel)) (by exact fun _ _ _ _ _ => (pg_name (i := 1) sc_is_stock.nd rfl (Or.inl rfl))) (by exact fun _ _ _ _ _ => pts_nil) (by exact fun _ _ _ _ _ => (pe_cl (c_is_brine T) hr (by decide) (by rfl) pass0 (pa_cons (pv 1) pa_nil)))) pa_nil)))))), fun Fz ds r h => ?_⟩
  cases h with
  | mk h hl =>
    rename_i c
    refine fin_rt (y_ret (e_cast (e_and (e_cb (a_cons (e_var rfl) (a_cons (e_ty) a_nil)) (by walk_at "b_isinstance")) (fun _ => e_cb (a_cons (e_frz (e_lc1 (f := encB) (h := fun _ => .bl true) (xs := c) (i_anyT (e_var rfl)) (fun x hx => ?_) (lt_sz hl))) a_nil) n_all1)) rfl))
    exact e_call (a_cons (e_var rfl) a_nil) (.mk (h x hx))
inductive S_sure_brine : List Dt → R → Prop
  | mk {b : Rat × Rat} (h : Nn b) : S_sure_brine [encB b] (.val (encB b))
theorem c_sure_brine (T : Txt P w K mg base vN vS) : Cl P w K mg base CX0 40 "sure_brine" (spP K S_sure_brine) := by
  refine clP T.d_sure_brine b_sure_brine sc_sure_brine (fun ds r h => by cases h; rfl) fun f cdv A outer s H E hr => ?_
  refine ⟨_, (pss_cons (ps_set (i := 1) sc_sure_brine.nd rfl (Or.inl rfl) (pe_cl (c_tupled T) hr (by decide) (by rfl) pass0 (pa_cons (pv 0) pa_nil))) (pss_cons (ps_if (pt_not (pt_val (pe_cl (c_is_brine T) hr (by decide) (by rfl) pass0 (pa_cons (pv 1) pa_nil)))) (pss_one ps_never) pss_nil) (pss_one (ps_ret (pv 1))))), fun Fz ds r h => ?_⟩
  cases h with
  | mk h =>
    rename_i q
    refine fin_rt ?_
    have ht : tdat 5 (encB q) = true := tdat_encB
    refine xs_cons (y_set (e_call (a_cons (e_var rfl) a_nil) (by walk_at "sp"))) ?_
    refine xs_cons (y_ifF (t_cast (t_not (t_b (e_call (a_cons (e_var rfl) a_nil) (by walk_at "sp")))) rfl) x_next) ?_
    exact y_ret (e_var rfl)
inductive S_sure_stock : List Dt → R → Prop
  | mk {c : List (Rat × Rat)} (h : ∀ b ∈ c, Nn b) (hl : c.length < 1000000) : S_sure_stock [encC c] (.val (encC c))
theorem c_sure_stock (T : Txt P w K mg base vN vS) : Cl P w K mg base CX0 40 "sure_stock" (spP K S_sure_stock) := by
  refine clP T.d_sure_stock b_sure_stock sc_sure_stock (fun ds r h => by cases h; rfl) fun f cdv A outer s H E hr => ?_
  refine ⟨_, (pss_cons (ps_set (i := 1) sc_sure_stock.nd rfl (Or.inl rfl) (pe_cl (c_tupled T) hr (by decide) (by rfl) pass0 (pa_cons (pv 0) pa_nil))) (pss_cons (ps_if (pt_not (pt_val (pe_cl (c_is_stock T) hr (by decide) (by rfl) pass0 (pa_cons (pv 1) pa_nil)))) (pss_one ps_never) pss_nil) (pss_one (ps_ret (pv 1))))), fun Fz ds r h => ?_⟩
  cases h with
  | mk h hl =>
    rename_i q
    refine fin_rt ?_
    have ht : tdat 5 (encC q) = true := tdat_encC hl
    refine xs_cons (y_set (e_call (a_cons (e_var rfl) a_nil) (by walk_at "sp"))) ?_
    refine xs_cons (y_ifF (t_cast (t_not (t_b (e_call (a_cons (e_var rfl) a_nil) (by walk_at "sp")))) rfl) x_next) ?_
    exact y_ret (e_var rfl)
inductive S_sure_line : List Dt → R → Prop
  | mk {b : Rat × Rat} (h : Nn b) : S_sure_line [encB b] (.val (encB b))
theorem c_sure_line (T : Txt P w K mg base vN vS) : Cl P w K mg base CX0 41 "sure_line" (spP K S_sure_line) := by
  refine clP T.d_sure_line b_sure_line sc_sure_line (fun ds r h => by cases h; rfl) fun f cdv A outer s H E hr => ?_
  refine ⟨_, (pss_one (ps_ret (pe_cl (c_sure_brine T) hr (by decide) (by rfl) pass0 (pa_cons (pv 0) pa_nil)))), fun Fz ds r h => ?_⟩
  cases h with
  | mk h => exact fin_rt (y_ret (e_call (a_cons (e_var rfl) a_nil) (by walk_at "sp")))
end
end B
/-! text MDef -/
set_option Elab.async false
set_option linter.all false
set_option maxRecDepth 100000
set_option autoImplicit false
namespace B
/-! what is computed, in plain Lean -/
abbrev Pt := Rat × Rat
def BSz (k : Nat) (b : Pt) : Prop := Sz k b.1 ∧ Sz k b.2
def CSz (k : Nat) (c : List Pt) : Prop := ∀ b ∈ c, BSz k b
theorem BSz.mono {j k : Nat} {b : Pt} (h : BSz j b) (l : j ≤ k) : BSz k b := ⟨h.1.mono l, h.2.mono l⟩
theorem CSz.mono {j k : Nat} {c : List Pt} (h : CSz j c) (l : j ≤ k) : CSz k c := fun b hb => (h b hb).mono l
/-! one measure -/
def lcmL (qs : List Rat) : Nat := qs.foldl (fun l q => l.lcm q.den) 1
def keyL (L : Nat) (q : Rat) : Int := q.num * ((L : Int).fdiv (q.den : Int))
theorem keyL_lt {L : Nat} {q r : Rat} (hL : 0 < L) (hq : q.den ∣ L) (hr : r.den ∣ L) : keyL L q < keyL L r ↔ q < r := by
  obtain ⟨a, ha⟩ := hq
  obtain ⟨b, hb⟩ := hr
  have dq := q.den_pos
  have dr := r.den_pos
  have e1 : ((L : Int).fdiv (q.den : Int)) = a := by rw [ha, Int.natCast_mul]; exact Int.mul_fdiv_cancel_left _ (by omega)
  have e2 : ((L : Int).fdiv (r.den : Int)) = b := by rw [hb, Int.natCast_mul]; exact Int.mul_fdiv_cancel_left _ (by omega)
  unfold keyL
  rw [e1, e2, Rat.lt_iff]
  have hd : (0 : Int) < (q.den : Int) * (r.den : Int) := Int.mul_pos (by omega) (by omega)
  have hL' : (0 : Int) < (L : Int) := by omega
  have i1 : (q.den : Int) * (a : Int) = L := by rw [ha, Int.natCast_mul]
  have i2 : (r.den : Int) * (b : Int) = L := by rw [hb, Int.natCast_mul]
  have j1 : (q.num * (a : Int)) * ((q.den : Int) * (r.den : Int)) = (q.num * (r.den : Int)) * L := by rw [← i1]; grind
  have j2 : (r.num * (b : Int)) * ((q.den : Int) * (r.den : Int)) = (r.num * (q.den : Int)) * L := by rw [← i2]; grind
  rw [← Int.mul_lt_mul_right hd, j1, j2, Int.mul_lt_mul_right hL']
theorem lcm_fold {qs : List Rat} : ∀ {l : Nat}, 0 < l → 0 < qs.foldl (fun l q => l.lcm q.den) l ∧ l ∣ qs.foldl (fun l q => l.lcm q.den) l ∧ ∀ q ∈ qs, q.den ∣ qs.foldl (fun l q => l.lcm q.den) l := by
  induction qs with
  | nil => intro l h; exact ⟨h, Nat.dvd_refl _, fun q hq => nomatch hq⟩
  | cons q qs ih =>
    intro l h
    obtain ⟨h1, h2, h3⟩ := ih (l := l.lcm q.den) (Nat.lcm_pos h q.den_pos)
    refine ⟨h1, Nat.dvd_trans (Nat.dvd_lcm_left ..) h2, fun r hr => ?_⟩
    rcases List.mem_cons.mp hr with z | z
    · rw [z]; exact Nat.dvd_trans (Nat.dvd_lcm_right ..) h2
    · exact h3 r z
theorem lcmL_pos (qs : List Rat) : 0 < lcmL qs := (lcm_fold Nat.one_pos).1
theorem lcmL_dvd {qs : List Rat} {q : Rat} (h : q ∈ qs) : q.den ∣ lcmL qs := (lcm_fold Nat.one_pos).2.2 q h
theorem lcm_le {a b : Nat} : a.lcm b ≤ a * b := by
  unfold Nat.lcm
  exact Nat.div_le_self _ _
theorem sz_lcmL {k : Nat} : ∀ {qs : List Rat} {l j : Nat}, l < 2 ^ j → (∀ q ∈ qs, Sz k q) → qs.foldl (fun l q => l.lcm q.den) l < 2 ^ (j + qs.length * k)
  | [], l, j, h, _ => by simpa using h
  | q :: qs, l, j, h, hq => by
    have := sz_lcmL (qs := qs) (l := l.lcm q.den) (j := j + k) (by
      refine Nat.lt_of_le_of_lt lcm_le ?_
      rw [Nat.pow_add]
      exact Nat.mul_lt_mul'' h (hq q (List.mem_cons_self ..)).2) fun x hx => hq x (List.mem_cons_of_mem _ hx)
    rw [List.length_cons, Nat.succ_mul, List.foldl_cons]
    rw [show j + (qs.length * k + k) = j + k + qs.length * k by omega]
    exact this
/-! rows from the least, each once -/
def insR (k : Rat) : List Rat → List Rat
  | [] => [k]
  | x :: xs => if k < x then k :: x :: xs else if k = x then x :: xs else x :: insR k xs
def rsort : List Rat → List Rat
  | [] => []
  | x :: xs => insR x (rsort xs)
theorem insR_mem {k y : Rat} : ∀ {xs : List Rat}, y ∈ insR k xs ↔ y = k ∨ y ∈ xs
  | [] => by simp [insR]
  | x :: xs => by
    unfold insR
    by_cases h : k < x
    · rw [if_pos h]; simp
    · rw [if_neg h]
      by_cases h2 : k = x
      · rw [if_pos h2, h2]; simp
      · rw [if_neg h2, List.mem_cons, insR_mem, List.mem_cons]
        constructor
        · rintro (h | h | h) <;> simp [h]
        · rintro (h | h | h) <;> simp [h]
theorem insR_pw {k : Rat} : ∀ {xs : List Rat}, xs.Pairwise (· < ·) → (insR k xs).Pairwise (· < ·)
  | [], _ => by simp [insR]
  | x :: xs, h => by
    obtain ⟨h1, h2⟩ := List.pairwise_cons.mp h
    unfold insR
    by_cases c : k < x
    · rw [if_pos c]
      refine List.pairwise_cons.mpr ⟨fun y hy => ?_, h⟩
      rcases List.mem_cons.mp hy with z | z
      · rw [z]; exact c
      · have := h1 y z; grind
    · rw [if_neg c]
      by_cases c2 : k = x
      · rw [if_pos c2]; exact h
      · rw [if_neg c2]
        refine List.pairwise_cons.mpr ⟨fun y hy => ?_, insR_pw h2⟩
        rcases insR_mem.mp hy with z | z
        · grind
        · exact h1 y z
theorem rsort_mem {y : Rat} : ∀ {xs : List Rat}, y ∈ rsort xs ↔ y ∈ xs
  | [] => by simp [rsort]
  | x :: xs => by rw [rsort, insR_mem, rsort_mem, List.mem_cons]
theorem rsort_pw : ∀ {xs : List Rat}, (rsort xs).Pairwise (· < ·)
  | [] => by simp [rsort]
  | x :: xs => insR_pw rsort_pw
theorem insR_len {k : Rat} : ∀ {xs : List Rat}, (insR k xs).length ≤ xs.length + 1
  | [] => by simp [insR]
  | x :: xs => by
    unfold insR
    split
    · simp
    · split
      · simp
      · have := insR_len (k := k) (xs := xs); simp; omega
theorem rsort_len : ∀ {xs : List Rat}, (rsort xs).length ≤ xs.length
  | [] => by simp [rsort]
  | x :: xs => by
    have := insR_len (k := x) (xs := rsort xs)
    have := rsort_len (xs := xs)
    rw [rsort, List.length_cons]; omega
theorem sort_keys {qs : List Rat} : sortI (qs.map (keyL (lcmL qs))) = (rsort qs).map (keyL (lcmL qs)) := by
  refine pw_uniq sortI_pw (List.pairwise_map.mpr ((rsort_pw (xs := qs)).imp_of_mem fun {x y} hx hy h => ?_)) fun k => ?_
  · exact (keyL_lt (lcmL_pos qs) (lcmL_dvd (rsort_mem.mp hx)) (lcmL_dvd (rsort_mem.mp hy))).mpr h
  · rw [sortI_mem, List.mem_map, List.mem_map]
    constructor
    · rintro ⟨a, h1, h2⟩; exact ⟨a, rsort_mem.mpr h1, h2⟩
    · rintro ⟨a, h1, h2⟩; exact ⟨a, rsort_mem.mp h1, h2⟩
/-! the dict of keys -/
theorem getD_put {kvs : List (Int × Dt)} {k k' : Int} {d : Dt} : getD' (putD kvs k' d) k = if k' = k then some d else getD' kvs k := by
  unfold putD getD'
  by_cases c : (kvs.any fun kv => decide (kv.1 = k')) = true
  · rw [if_pos c]
    induction kvs with
    | nil => cases c
    | cons kv kvs ih =>
      rw [List.map_cons, List.find?_cons, List.find?_cons]
      by_cases z : kv.1 = k'
      · rw [if_pos z]
        by_cases y : k' = k
        · rw [if_pos y]
          simp [z, y]
        · rw [if_neg y]
          have : ¬ kv.1 = k := fun w => y (z.symm.trans w)
          simp only [this, decide_false]
          by_cases c2 : (kvs.any fun kv => decide (kv.1 = k')) = true
          · rw [ih c2, if_neg y]
          · have e : kvs.map (fun kv => if kv.1 = k' then (kv.1, d) else kv) = kvs := by
              rw [List.map_congr_left (g := id), List.map_id]
              intro a ha
              rw [if_neg fun w => c2 (List.any_eq_true.mpr ⟨a, ha, decide_eq_true w⟩)]
              rfl
            rw [e]
      · rw [if_neg z]
        have c2 : (kvs.any fun kv => decide (kv.1 = k')) = true := by
          rw [List.any_cons, decide_eq_false z, Bool.false_or] at c
          exact c
        by_cases y : kv.1 = k
        · have : ¬ k' = k := fun w => z (y.trans w.symm)
          simp [y, this]
        · simp only [y, decide_false]
          exact ih c2
  · rw [if_neg c, List.find?_append]
    cases e : kvs.find? fun kv => decide (kv.1 = k) with
    | none =>
      by_cases y : k' = k
      · simp [y]
      · simp [y]
    | some kv =>
      have h1 := List.find?_some e
      have h2 := List.mem_of_find?_eq_some e
      have : ¬ k' = k := fun w => c (List.any_eq_true.mpr ⟨kv, h2, by rw [w]; exact h1⟩)
      simp [this]
theorem getD_fold {α : Type} {fk : α → Int} {fv : α → Dt} {k : Int} {d : Dt} : ∀ {xs : List α} {acc : List (Int × Dt)}, (∀ x ∈ xs, fk x = k → fv x = d) → (getD' acc k = some d ∨ ∃ x ∈ xs, fk x = k) → getD' (xs.foldl (fun acc x => putD acc (fk x) (fv x)) acc) k = some d
  | [], acc, _, h => by
    rcases h with h | ⟨x, h, _⟩
    · exact h
    · cases h
  | x :: xs, acc, hv, h => by
    rw [List.foldl_cons]
    refine getD_fold (fun y hy => hv y (List.mem_cons_of_mem _ hy)) ?_
    rw [getD_put]
    by_cases z : fk x = k
    · rw [if_pos z, hv x (List.mem_cons_self ..) z]; exact .inl rfl
    · rw [if_neg z]
      rcases h with h | ⟨y, hy, e⟩
      · exact .inl h
      · rcases List.mem_cons.mp hy with w | w
        · rw [w] at e; exact absurd e z
        · exact .inr ⟨y, w, e⟩
/-! strength -/
def thinL (bs : List Pt) : List Rat := bs.map fun b => b.1 / b.2
def keysL (qs : List Rat) : List Int := qs.map (keyL (lcmL qs))
def kp (ks : List Int) : List (Int × Int) := List.zipWith (fun (n : Nat) k => (k, (n : Int))) (List.range ks.length) ks
def ordr (bs : List Pt) : List Int := (sortP (kp (keysL (thinL bs)))).map (·.2)
/-! turns -/
def td (a b c : Pt) : Bool := decide ((c.2 - b.2) * (b.1 - a.1) < (b.2 - a.2) * (c.1 - b.1))
def hid (st : List Pt) (p : Pt) : Bool := match st with
  | [] => true
  | [t] => decide (t.1 = p.1)
  | t :: u :: _ => decide (t.1 = p.1) || !td u t p
def popW (p : Pt) : List Pt → List Pt
  | [] => []
  | t :: r => if hid (t :: r) p = true then popW p r else t :: r
def sstep (st : List Pt) (p : Pt) : List Pt := match st with
  | [] => [p]
  | t :: r => if p.2 ≤ t.2 then t :: r else p :: popW p (t :: r)
def smooth (ps : List Pt) : List Pt := (ps.foldl sstep []).reverse
end B
/-! text KD -/
set_option Elab.async false
set_option linter.all false
set_option maxRecDepth 100000
set_option autoImplicit false
namespace B
open PySem PySem.Spec PyProof.Rows L2
local macro_rules | `(tactic| walk_at "o+") => `(tactic| first | exact o_orL o_I0 | (exact o_orR (o_orL (o_cat (by assumption)))) | (exact o_orR (o_orR (o_catA (by assumption)))))
local macro_rules | `(tactic| walk_at "o*") => `(tactic| exact o_orL (o_mul (by walk_at "mul")))
local macro_rules | `(tactic| walk_at "mul") => `(tactic| first | assumption | exact mul_nd (by assumption) (by assumption) | exact mul_dd (by assumption) (by assumption) | exact mul_nn (by assumption) (by assumption) | exact mul_dn (by assumption) (by assumption))
local macro_rules | `(tactic| walk_at "nz") => `(tactic| assumption)
local macro_rules | `(tactic| walk_at "nzd") => `(tactic| exact den2_ne _ _)
local macro_rules | `(tactic| walk_at "ix") => `(tactic| first | exact o_ixT' rfl | exact o_ixL' rfl | exact o_ixT' (by assumption) | exact o_ixL' (by assumption))
local macro_rules | `(tactic| walk_at "o=") => `(tactic| first | exact o_orL o_eqI | exact o_orL o_neI | exact o_orL o_eqB | exact o_orL o_neB | exact o_orR (o_eqD (by assumption) (by assumption)) | exact o_orR (o_neD (by assumption) (by assumption)) | exact o_orR (o_eqD rfl rfl) | exact o_orR (o_neD rfl rfl))
local macro_rules | `(tactic| walk_at "b_gcd") => `(tactic| exact n_gcd)
local macro_rules | `(tactic| walk_at "b_len") => `(tactic| first | exact n_lenT | exact n_lenL)
local macro_rules | `(tactic| walk_at "b_tuple") => `(tactic| first | exact n_tupleL | exact n_tupleT)
local macro_rules | `(tactic| walk_at "b_isinstance") => `(tactic| exact n_isi rfl rfl)
local macro_rules | `(tactic| walk_at "b_all") => `(tactic| exact n_all)
local macro_rules | `(tactic| walk_at "b_lcm") => `(tactic| exact n_lcm (by assumption))
local macro_rules | `(tactic| walk_at "b_sorted") => `(tactic| exact n_sortedP)
local macro_rules | `(tactic| walk_at "sp") => `(tactic| (constructor <;> first | assumption | rfl | walk_at "nzd"))
section
variable {P : Program} {w : World} {K : PySem.W.Frag} {mg : Str → Option Value} {base : Heap} {vN vS : V}
/-! sizes -/
theorem sm_of {k : Nat} {q : Rat} (h : Sz k q) (l : k ≤ 40000000) : Sm q := h.sm l
/-! one measure, in order -/
theorem map_encL {α : Type} {f : α → Rat} (bs : List α) : bs.map (fun b => enc (f b)) = (bs.map f).map enc := by rw [List.map_map]; rfl
theorem map_intL {α : Type} {f : α → Int} (bs : List α) : bs.map (fun b => Dt.int (f b)) = (bs.map f).map Dt.int := by rw [List.map_map]; rfl
inductive S_in_one_measure : List Dt → R → Prop
  | mk {qs : List Rat} {k : Nat} (h : ∀ q ∈ qs, Sz k q) (hz : qs.length * k ≤ 50000000) (hk : k ≤ 40000000) (hl : qs.length < 1000000) : S_in_one_measure [.lst (qs.map enc)] (.fr ((keysL qs).map .int))
theorem log_lt {n k : Nat} (h : n < 2 ^ k) (hk : k ≤ 60000000) : n.log2 < bitsLine := by
  have e : bitsLine = 134217728 := by decide
  rw [e]
  by_cases z : n = 0
  · rw [z, Nat.log2_zero]; decide
  · have := (Nat.log2_lt z).mpr h
    omega
/-- the loop of the least common multiple -/
theorem lcm_ok {k j : Nat} {l : Nat} {q : Rat} (hl : l < 2 ^ j) (hq : Sz k q) (hz : j + k ≤ 60000000) : (Nat.lcm (l : Int).natAbs (q.den : Int).natAbs).log2 < bitsLine := by
  rw [Int.natAbs_natCast, Int.natAbs_natCast]
  refine log_lt (k := j + k) (Nat.lt_of_le_of_lt lcm_le ?_) hz
  rw [Nat.pow_add]
  exact Nat.mul_lt_mul'' hl hq.2
theorem key_mul {k : Nat} {L : Nat} {q : Rat} (hL : L < 2 ^ 60000000) (hq : Sz k q) (hk : k ≤ 40000000) : IntMulOk q.num ((L : Int).fdiv (q.den : Int)) := by
  refine mulOk_of (a := k) (b := 60000000) hq.1 ?_ (by omega)
  have e : (L : Int).fdiv (q.den : Int) = ((L / q.den : Nat) : Int) := by
    rw [Int.fdiv_eq_ediv_of_nonneg _ (by omega)]
    rfl
  rw [e, Int.natAbs_natCast]
  exact Nat.lt_of_le_of_lt (Nat.div_le_self _ _) hL
theorem c_in_one_measure (T : Txt P w K mg base vN vS) : Cl P w K mg base CX0 34 "in_one_measure" (spP K S_in_one_measure) := by
  refine clP T.d_in_one_measure b_in_one_measure sc_in_one_measure (fun ds r h => by cases h; rfl) fun f cdv A outer s H E hr => ?_
  have hs := seer_in T outer hr (by decide) rfl rfl
  refine ⟨_, (pss_cons (ps_set (i := 1) sc_in_one_measure.nd rfl (Or.inr rfl) pe_int) (pss_cons (ps_for PassesOwn.leaving rfl (pi_anyK K rfl (pv 0)) (pg_name (i := 2) sc_in_one_measure.nd rfl (Or.inl rfl)) (pss_one (ps_set (i := 1) sc_in_one_measure.nd rfl (Or.inr rfl) (pe_callBfun (cr_lcm hs) (by rfl) T.m_lcm (pa_cons (pv 1) (pa_cons (pe_ix (ix_sK K rfl) (pv 2) pe_int (fun _ _ => rfl)) pa_nil)))))) (pss_one (ps_ret (pe_lc (own := [("own", 2)]) rfl sc_in_one_measure.nd (pi_anyK K rfl (pv 0)) (blkOk_by (N := n_in_one_measure) (sc := defScope s_in_one_measure) (by decide +kernel)) (by exact fun _ _ _ _ _ => (pg_name (i := 2) sc_in_one_measure.nd rfl (Or.inl rfl))) (by exact fun _ _ _ _ _ => pts_nil) (by exact fun _ _ _ _ _ => (pe_op op_mulA (pe_ix (ix_sK K rfl) (pv 2) pe_int (fun _ _ => rfl)) (pe_op (op_fdivP hs) (pv 1) (pe_ix (ix_sK K rfl) (pv 2) pe_int (fun _ _ => rfl)))))))))), fun Fz ds r h => ?_⟩
  cases h with
  | mk h hz hk hl =>
    rename_i qs k
    refine fin_rt ?_
    refine xs_cons (y_set (e_int)) ?_
    refine xs_cons (y_for (i_anyL (e_var rfl)) (forx_inv (f := enc) (env := fun (l : Nat) => [some (.val (.lst (qs.map enc))), some (.val (.int (l : Int))), none]) (g := fun l q => l.lcm q.den) (J := fun xs b => ∃ j, b < 2 ^ j ∧ (∀ q ∈ xs, Sz k q) ∧ j + xs.length * k ≤ 50000001) ?_ (b := 1) ⟨1, by decide, h, by omega⟩)) ?_
    · rintro x xs b ⟨j, hb, hx, hj⟩
      rw [List.length_cons, Nat.succ_mul] at hj
      have h1 := hx x (List.mem_cons_self ..)
      have hz1 := lcm_ok hb h1 (by omega)
      have e : (Nat.lcm (b : Int).natAbs (x.den : Int).natAbs) = b.lcm x.den := by rw [Int.natAbs_natCast, Int.natAbs_natCast]
      refine ⟨.inl (turn (g_name (ltb rfl)) (x_forget (i := 2) (y_set (e_cb (a_cons (e_var rfl) (a_cons (e_op (e_var rfl) (e_int) (by walk_at "ix")) a_nil)) (by walk_at "b_lcm"))) ?_)), j + k, ?_, fun q hq => hx q (List.mem_cons_of_mem _ hq), by omega⟩
      · rw [e]; rfl
      · refine Nat.lt_of_le_of_lt lcm_le ?_
        rw [Nat.pow_add]
        exact Nat.mul_lt_mul'' hb h1.2
    · have hL : lcmL qs < 2 ^ 60000000 := Nat.lt_of_lt_of_le (sz_lcmL (qs := qs) (l := 1) (j := 1) (by decide) h) (Nat.pow_le_pow_right (by decide) (by omega))
      refine y_retF (e_cast (e_lc1 (f := enc) (h := fun q => .int (keyL (lcmL qs) q)) (xs := qs) (i_anyL (e_var rfl)) (fun x hx => ?_) (lt_sz hl)) (by rw [map_intL]; rfl))
      have hm := key_mul hL (h x hx) hk
      have nz := den_ne x
      exact (e_op (e_op (e_var rfl) (e_int) (by walk_at "ix")) (e_op (e_var rfl) (e_op (e_var rfl) (e_int) (by walk_at "ix")) (o_fdiv (by walk_at "nz"))) (by walk_at "o*"))
inductive S_in_order : List Dt → R → Prop
  | mk {qs : List Rat} {k : Nat} (h : ∀ q ∈ qs, Sz k q) (hz : qs.length * k ≤ 50000000) (hk : k ≤ 40000000) (hl : qs.length < 64) : S_in_order [.lst (qs.map enc)] (.fr ((rsort qs).map enc))
theorem pairs_map {α : Type} {f g : α → Dt} : ∀ xs : List α, pairs (xs.map f) (xs.map g) = xs.map fun x => Dt.tup [f x, g x]
  | [] => rfl
  | x :: xs => by
    have := pairs_map (f := f) (g := g) xs
    unfold pairs at this ⊢
    rw [List.map_cons, List.map_cons, List.zipWith_cons_cons, this, List.map_cons]
theorem keyL_inj {qs : List Rat} {q r : Rat} (hq : q ∈ qs) (hr : r ∈ qs) (h : keyL (lcmL qs) q = keyL (lcmL qs) r) : q = r := by
  have h1 := keyL_lt (lcmL_pos qs) (lcmL_dvd hq) (lcmL_dvd hr)
  have h2 := keyL_lt (lcmL_pos qs) (lcmL_dvd hr) (lcmL_dvd hq)
  rw [h] at h1 h2
  have n1 : ¬ q < r := fun z => absurd (h1.mpr z) (Int.lt_irrefl _)
  have n2 : ¬ r < q := fun z => absurd (h2.mpr z) (Int.lt_irrefl _)
  grind
theorem c_in_order (T : Txt P w K mg base vN vS) : Cl P w K mg base CX0 36 "in_order" (spP K S_in_order) := by
  refine clP T.d_in_order b_in_order sc_in_order (fun ds r h => by cases h; rfl) fun f cdv A outer s H E hr => ?_
  refine ⟨_, (pss_cons (ps_set (i := 1) sc_in_order.nd rfl (Or.inl rfl) (pe_cl (c_in_one_measure T) hr (by decide) (by rfl) pass0 (pa_cons (pv 0) pa_nil))) (pss_cons (ps_set (i := 2) sc_in_order.nd rfl (Or.inr rfl) (pe_dc (own := [("key", 3), ("own", 4)]) rfl sc_in_order.nd (RZ.pi_zipA (by rfl) T.z_zip (pa_cons (pv 1) (pa_cons (pv 0) pa_nil))) (blkOk_by (N := n_in_order) (sc := defScope s_in_order) (by decide +kernel)) (by exact fun _ _ _ _ _ => (pg_tupK (n := 2) K rfl rfl (pgs_cons (pg_name (i := 3) sc_in_order.nd rfl (Or.inl rfl)) (pgs_cons (pg_name (i := 4) sc_in_order.nd rfl (Or.inl rfl)) pgs_nil)))) (by exact fun _ _ _ _ _ => pts_nil) (by exact fun _ _ _ _ _ => (pv 3)) (by exact fun _ _ _ _ _ => (pv 4)))) (pss_one (ps_ret (pe_lc (own := [("key", 3)]) rfl sc_in_order.nd (pi_anyK K rfl (pe_callB (cr_sortedSet rfl) (by rfl) T.z_sorted (by decide +kernel) (pa_cons (pe_callTy (cr_setL rfl) (by rfl) T.z_set (by decide +kernel) (pa_cons (pv 1) pa_nil)) pa_nil))) (blkOk_by (N := n_in_order) (sc := defScope s_in_order) (by decide +kernel)) (by exact fun _ _ _ _ _ => (pg_name (i := 3) sc_in_order.nd rfl (Or.inl rfl))) (by exact fun _ _ _ _ _ => pts_nil) (by exact fun _ _ _ _ _ => (pe_dget (hu1_of hr) (pv 2) (pv 3) (fun _ _ => rfl)))))))), fun Fz ds r h => ?_⟩
  cases h with
  | mk h hz hk hl =>
    rename_i qs k
    have hl' : qs.length < 1000000 := by omega
    refine fin_rt ?_
    refine xs_cons (y_set (e_frz (e_call (a_cons (e_var rfl) a_nil) (by walk_at "sp")))) ?_
    refine xs_cons (y_set (e_dc2 (fk := keyL (lcmL qs)) (fv := enc) (xs := qs) ?_ (lt_sz hl') (by decide) (fun k hk ds => ?_))) ?_
    · have hp := pairs_map (f := fun q => Dt.int (keyL (lcmL qs) q)) (g := enc) qs
      rw [map_intL (f := keyL (lcmL qs)) qs] at hp
      exact hp ▸ i_zipL (a_cons (e_var rfl) (a_cons (e_var rfl) a_nil))
    · rcases List.mem_cons.mp hk with z | z
      · rw [z]; exact fun y => nomatch y
      · rw [List.mem_singleton.mp z]; exact fun y => nomatch y
    · refine y_retF (e_lc1 (f := fun q => .int (keyL (lcmL qs) q)) (h := enc) (xs := rsort qs) ?_ (fun x hx => ?_) (lt_sz (Nat.lt_of_le_of_lt rsort_len hl')))
      · have hm : (rsort qs).map (fun q => Dt.int (keyL (lcmL qs) q)) = (sortI (keysL qs)).map Dt.int := by
          rw [show sortI (keysL qs) = _ from sort_keys, List.map_map]
          rfl
        rw [hm]
        exact i_anyL (e_frz (e_sortset (e_var rfl) (by unfold keysL; rw [List.length_map]; exact hl)))
      · refine e_dget (e_var rfl) (e_var rfl) (getD_fold (fun y hy e => ?_) (.inr ⟨x, rsort_mem.mp hx, rfl⟩))
        rw [keyL_inj hy (rsort_mem.mp hx) e]
end
end B
/-! text KP -/
set_option Elab.async false
set_option linter.all false
set_option maxRecDepth 100000
set_option autoImplicit false
namespace B
open PySem PySem.Spec PyProof.Rows L2
local macro_rules | `(tactic| walk_at "o+") => `(tactic| first | exact o_orL o_I0 | (exact o_orR (o_orL (o_cat (by assumption)))) | (exact o_orR (o_orR (o_catA (by assumption)))))
local macro_rules | `(tactic| walk_at "o*") => `(tactic| exact o_orL (o_mul (by walk_at "mul")))
local macro_rules | `(tactic| walk_at "mul") => `(tactic| first | assumption | exact mul_nd (by assumption) (by assumption) | exact mul_dd (by assumption) (by assumption) | exact mul_nn (by assumption) (by assumption) | exact mul_dn (by assumption) (by assumption))
local macro_rules | `(tactic| walk_at "nz") => `(tactic| assumption)
local macro_rules | `(tactic| walk_at "nzd") => `(tactic| exact den2_ne _ _)
local macro_rules | `(tactic| walk_at "ix") => `(tactic| first | exact o_ixT' rfl | exact o_ixL' rfl | exact o_ixT' (by assumption) | exact o_ixL' (by assumption))
local macro_rules | `(tactic| walk_at "o=") => `(tactic| first | exact o_orL o_eqI | exact o_orL o_neI | exact o_orL o_eqB | exact o_orL o_neB | exact o_orR (o_eqD (by assumption) (by assumption)) | exact o_orR (o_neD (by assumption) (by assumption)) | exact o_orR (o_eqD rfl rfl) | exact o_orR (o_neD rfl rfl))
local macro_rules | `(tactic| walk_at "b_gcd") => `(tactic| exact n_gcd)
local macro_rules | `(tactic| walk_at "b_len") => `(tactic| first | exact n_lenT | exact n_lenL)
local macro_rules | `(tactic| walk_at "b_tuple") => `(tactic| first | exact n_tupleL | exact n_tupleT)
local macro_rules | `(tactic| walk_at "b_isinstance") => `(tactic| exact n_isi rfl rfl)
local macro_rules | `(tactic| walk_at "b_all") => `(tactic| exact n_all)
local macro_rules | `(tactic| walk_at "b_lcm") => `(tactic| exact n_lcm (by assumption))
local macro_rules | `(tactic| walk_at "b_sorted") => `(tactic| exact n_sortedP)
local macro_rules | `(tactic| walk_at "sp") => `(tactic| (constructor <;> first | assumption | rfl | walk_at "nzd"))
section
variable {P : Program} {w : World} {K : PySem.W.Frag} {mg : Str → Option Value} {base : Heap} {vN vS : V}
theorem n_lt {k : Nat} (h : k ≤ 40000000) {q : Rat} (s : Sz k q) : Sm q := s.sm h
theorem encB_fst {bs : List Pt} : bs.map (fun b => enc b.1) = (bs.map (·.1)).map enc := by rw [List.map_map]; rfl
theorem encB_snd {bs : List Pt} : bs.map (fun b => enc b.2) = (bs.map (·.2)).map enc := by rw [List.map_map]; rfl
/-- what is poured together -/
def poured (bs : List Pt) : Pt := (rsum (bs.map (·.1)), rsum (bs.map (·.2)))
inductive S_poured_of : List Dt → R → Prop
  | mk {bs : List Pt} {k : Nat} (h : CSz k bs) (hz : 1 + bs.length * (k + 1) ≤ 40000000) (hl : bs.length < 1000000) : S_poured_of [.lst (bs.map encB)] (.val (encB (poured bs)))
theorem c_poured_of (T : Txt P w K mg base vN vS) : Cl P w K mg base CX0 37 "poured_of" (spP K S_poured_of) := by
  refine clP T.d_poured_of b_poured_of sc_poured_of (fun ds r h => by cases h; rfl) fun f cdv A outer s H E hr => ?_
  refine ⟨_, (pss_one (ps_ret (pe_tup (pa_cons (pe_cl (c_summed T) hr (by decide) (by rfl) pass0 (pa_cons (pe_lc (own := [("own", 1)]) rfl sc_poured_of.nd (pi_anyK K rfl (pv 0)) (blkOk_by (N := n_poured_of) (sc := defScope s_poured_of) (by decide +kernel)) (by exact fun _ _ _ _ _ => (pg_name (i := 1) sc_poured_of.nd rfl (Or.inl rfl))) (by exact fun _ _ _ _ _ => pts_nil) (by exact fun _ _ _ _ _ => (pe_ix (ix_sK K rfl) (pv 1) pe_int (fun _ _ => rfl)))) pa_nil)) (pa_cons (pe_cl (c_summed T) hr (by decide) (by rfl) pass0 (pa_cons (pe_lc (own := [("own", 1)]) rfl sc_poured_of.nd (pi_anyK K rfl (pv 0)) (blkOk_by (N := n_poured_of) (sc := defScope s_poured_of) (by decide +kernel)) (by exact fun _ _ _ _ _ => (pg_name (i := 1) sc_poured_of.nd rfl (Or.inl rfl))) (by exact fun _ _ _ _ _ => pts_nil) (by exact fun _ _ _ _ _ => (pe_ix (ix_sK K rfl) (pv 1) pe_int (fun _ _ => rfl)))) pa_nil)) pa_nil))))), fun Fz ds r h => ?_⟩
  cases h with
  | mk h hz hl =>
    rename_i bs k
    have h1 : ∀ q ∈ bs.map (·.1), Sz k q := fun q hq => by
      obtain ⟨b, hb, e⟩ := List.mem_map.mp hq
      rw [← e]; exact (h b hb).1
    have h2 : ∀ q ∈ bs.map (·.2), Sz k q := fun q hq => by
      obtain ⟨b, hb, e⟩ := List.mem_map.mp hq
      rw [← e]; exact (h b hb).2
    have z1 : 1 + (bs.map (·.1)).length * (k + 1) ≤ 40000000 := by rw [List.length_map]; exact hz
    have z2 : 1 + (bs.map (·.2)).length * (k + 1) ≤ 40000000 := by rw [List.length_map]; exact hz
    refine fin_rt (y_ret (e_tup (a_cons (e_call (a_cons (e_frz (e_cast (e_lc1 (f := encB) (h := fun b => enc b.1) (xs := bs) (i_anyL (e_var rfl)) (fun x hx => (e_op (e_var rfl) (e_int) (by walk_at "ix"))) (lt_sz hl)) (by rw [encB_fst]))) a_nil) (.mk h1 z1)) (a_cons (e_call (a_cons (e_frz (e_cast (e_lc1 (f := encB) (h := fun b => enc b.2) (xs := bs) (i_anyL (e_var rfl)) (fun x hx => (e_op (e_var rfl) (e_int) (by walk_at "ix"))) (lt_sz hl)) (by rw [encB_snd]))) a_nil) (.mk h2 z2)) a_nil))))
/-! the strongest first -/
inductive S_thinness_keys : List Dt → R → Prop
  | mk {bs : List Pt} {k : Nat} (h : CSz k bs) (h0 : ∀ b ∈ bs, b.2 ≠ 0) (hz : bs.length * (2 * k) ≤ 50000000) (hk : 2 * k ≤ 40000000) (hl : bs.length < 1000000) : S_thinness_keys [.lst (bs.map encB)] (.fr ((keysL (thinL bs)).map .int))
theorem thin_sz {bs : List Pt} {k : Nat} (h : CSz k bs) (h0 : ∀ b ∈ bs, b.2 ≠ 0) : ∀ q ∈ thinL bs, Sz (2 * k) q := fun q hq => by
  obtain ⟨b, hb, e⟩ := List.mem_map.mp hq
  rw [← e]
  exact (sz_div (h b hb).1 (h b hb).2 (h0 b hb)).mono (by omega)
theorem c_thinness_keys (T : Txt P w K mg base vN vS) : Cl P w K mg base CX0 36 "thinness_keys" (spP K S_thinness_keys) := by
  refine clP T.d_thinness_keys b_thinness_keys sc_thinness_keys (fun ds r h => by cases h; rfl) fun f cdv A outer s H E hr => ?_
  have hs := seer_in T outer hr (by decide) rfl rfl
  refine ⟨_, (pss_cons (ps_setLc (i := 1) (own := [("own", 3)]) rfl sc_thinness_keys.nd rfl rfl (sw_true rfl rfl rfl (by decide +kernel)) (pi_anyK K rfl (pv 0)) (blkOk_by (N := n_thinness_keys) (sc := defScope s_thinness_keys) (by decide +kernel)) (by exact fun _ _ _ _ _ => (pg_name (i := 3) sc_thinness_keys.nd rfl (Or.inl rfl))) (by exact fun _ _ _ _ _ => pts_nil) (by exact fun _ _ _ _ _ => (pe_cl (c_divided T) hr (by decide) (by rfl) pass0 (pa_cons (pe_ix (ix_sK K rfl) (pv 3) pe_int (fun _ _ => rfl)) (pa_cons (pe_ix (ix_sK K rfl) (pv 3) pe_int (fun _ _ => rfl)) pa_nil))))) (pss_cons (ps_set (i := 2) sc_thinness_keys.nd rfl (Or.inr rfl) pe_int) (pss_cons (ps_for PassesOwn.leaving rfl (pi_anyK K rfl (pv 1)) (pg_name (i := 3) sc_thinness_keys.nd rfl (Or.inl rfl)) (pss_one (ps_set (i := 2) sc_thinness_keys.nd rfl (Or.inr rfl) (pe_callBfun (cr_lcm hs) (by rfl) T.m_lcm (pa_cons (pv 2) (pa_cons (pe_ix (ix_sK K rfl) (pv 3) pe_int (fun _ _ => rfl)) pa_nil)))))) (pss_one (ps_ret (pe_lc (own := [("own", 3)]) rfl sc_thinness_keys.nd (pi_anyK K rfl (pv 1)) (blkOk_by (N := n_thinness_keys) (sc := defScope s_thinness_keys) (by decide +kernel)) (by exact fun _ _ _ _ _ => (pg_name (i := 3) sc_thinness_keys.nd rfl (Or.inl rfl))) (by exact fun _ _ _ _ _ => pts_nil) (by exact fun _ _ _ _ _ => (pe_op op_mulA (pe_ix (ix_sK K rfl) (pv 3) pe_int (fun _ _ => rfl)) (pe_op (op_fdivP hs) (pv 2) (pe_ix (ix_sK K rfl) (pv 3) pe_int (fun _ _ => rfl))))))))))), fun Fz ds r h => ?_⟩
  cases h with
  | mk h h0 hz hk hl =>
    rename_i bs k
    have hq := thin_sz h h0
    have hql : (thinL bs).length = bs.length := List.length_map ..
    refine fin_rt ?_
    refine xs_cons (y_set (e_frz (e_lc1 (f := encB) (h := fun b => enc (b.1 / b.2)) (xs := bs) (i_anyL (e_var rfl)) (fun x hx => ?_) (lt_sz hl)))) ?_
    · have s1 : Sm x.1 := (h x hx).1.sm (by omega)
      have s2 : Sm x.2 := (h x hx).2.sm (by omega)
      have n0 := h0 x hx
      exact (e_call (a_cons (e_op (e_var rfl) (e_int) (by walk_at "ix")) (a_cons (e_op (e_var rfl) (e_int) (by walk_at "ix")) a_nil)) (by walk_at "sp"))
    rw [map_encL (f := fun b : Pt => b.1 / b.2) bs]
    show Ex _ _ ((startE n_thinness_keys.length [Dt.lst (bs.map encB)]).set 1 (some (.val (.lst ((thinL bs).map enc))))) _
    generalize thinL bs = qs at hq hql
    refine xs_cons (y_set (e_int)) ?_
    refine xs_cons (y_for (i_anyL (e_var rfl)) (forx_inv (f := enc) (env := fun (l : Nat) => [some (.val (.lst (bs.map encB))), some (.val (.lst (qs.map enc))), some (.val (.int (l : Int))), none]) (g := fun l q => l.lcm q.den) (J := fun xs b => ∃ j, b < 2 ^ j ∧ (∀ q ∈ xs, Sz (2 * k) q) ∧ j + xs.length * (2 * k) ≤ 50000001) ?_ (b := 1) ⟨1, by decide, hq, by rw [hql]; omega⟩)) ?_
    · rintro x xs b ⟨j, hb, hx, hj⟩
      rw [List.length_cons, Nat.succ_mul] at hj
      have h1 := hx x (List.mem_cons_self ..)
      have hz1 := lcm_ok hb h1 (by omega)
      have e : (Nat.lcm (b : Int).natAbs (x.den : Int).natAbs) = b.lcm x.den := by rw [Int.natAbs_natCast, Int.natAbs_natCast]
      refine ⟨.inl (turn (g_name (ltb rfl)) (x_forget (i := 3) (y_set (e_cb (a_cons (e_var rfl) (a_cons (e_op (e_var rfl) (e_int) (by walk_at "ix")) a_nil)) (by walk_at "b_lcm"))) ?_)), j + 2 * k, ?_, fun q hq => hx q (List.mem_cons_of_mem _ hq), by omega⟩
      · rw [e]; rfl
      · refine Nat.lt_of_le_of_lt lcm_le ?_
        rw [Nat.pow_add]
        exact Nat.mul_lt_mul'' hb h1.2
    · have hL : lcmL qs < 2 ^ 60000000 := Nat.lt_of_lt_of_le (sz_lcmL (qs := qs) (l := 1) (j := 1) (by decide) hq) (Nat.pow_le_pow_right (by decide) (by rw [hql]; omega))
      refine y_retF (e_cast (e_lc1 (f := enc) (h := fun q => .int (keyL (lcmL qs) q)) (xs := qs) (i_anyL (e_var rfl)) (fun x hx => ?_) (lt_sz (by omega))) (by rw [map_intL]; rfl))
      have hm := key_mul hL (hq x hx) hk
      have nz := den_ne x
      exact (e_op (e_op (e_var rfl) (e_int) (by walk_at "ix")) (e_op (e_var rfl) (e_op (e_var rfl) (e_int) (by walk_at "ix")) (o_fdiv (by walk_at "nz"))) (by walk_at "o*"))
inductive S_strongest_first : List Dt → R → Prop
  | mk {bs : List Pt} {k : Nat} (h : CSz k bs) (h0 : ∀ b ∈ bs, b.2 ≠ 0) (hz : bs.length * (2 * k) ≤ 50000000) (hk : 2 * k ≤ 40000000) (hl : bs.length < 1000000) : S_strongest_first [.lst (bs.map encB)] (.fr ((ordr bs).map .int))
theorem enum_kp (ks : List Int) : pairs (upto (ks.map Dt.int).length) (ks.map Dt.int) = (kp ks).map fun q => Dt.tup [.int q.2, .int q.1] := by
  rw [List.length_map]
  unfold pairs upto kp
  generalize List.range ks.length = l
  induction l generalizing ks with
  | nil => rfl
  | cons a l ih =>
    cases ks with
    | nil => rfl
    | cons x ks => rw [List.map_cons, List.map_cons, List.zipWith_cons_cons, ih, List.zipWith_cons_cons, List.map_cons]
theorem kp_len (ks : List Int) : (kp ks).length = ks.length := by unfold kp; rw [List.length_zipWith, List.length_range, Nat.min_self]
theorem c_strongest_first (T : Txt P w K mg base vN vS) : Cl P w K mg base CX0 37 "strongest_first" (spP K S_strongest_first) := by
  refine clP T.d_strongest_first b_strongest_first sc_strongest_first (fun ds r h => by cases h; rfl) fun f cdv A outer s H E hr => ?_
  refine ⟨_, (pss_cons (ps_set (i := 1) sc_strongest_first.nd rfl (Or.inl rfl) (pe_cl (c_thinness_keys T) hr (by decide) (by rfl) pass0 (pa_cons (pv 0) pa_nil))) (pss_one (ps_ret (pe_lc (own := [("key", 3), ("place", 2)]) rfl sc_strongest_first.nd (pi_anyK K rfl (pe_callB cr_sortedPS (by rfl) T.z_sorted (by decide +kernel) (pa_cons (pe_lc (own := [("place", 2), ("key", 3)]) rfl sc_strongest_first.nd (pi_enum (by rfl) T.z_enumerate (pa_cons (pv 1) pa_nil)) (blkOk_by (N := n_strongest_first) (sc := defScope s_strongest_first) (by decide +kernel)) (by exact fun _ _ _ _ _ => (pg_tupK (n := 2) K rfl rfl (pgs_cons (pg_name (i := 2) sc_strongest_first.nd rfl (Or.inl rfl)) (pgs_cons (pg_name (i := 3) sc_strongest_first.nd rfl (Or.inl rfl)) pgs_nil)))) (by exact fun _ _ _ _ _ => pts_nil) (by exact fun _ _ _ _ _ => (pe_tup (pa_cons (pv 3) (pa_cons (pv 2) pa_nil))))) pa_nil))) (blkOk_by (N := n_strongest_first) (sc := defScope s_strongest_first) (by decide +kernel)) (by exact fun _ _ _ _ _ => (pg_tupK (n := 2) K rfl rfl (pgs_cons (pg_name (i := 3) sc_strongest_first.nd rfl (Or.inl rfl)) (pgs_cons (pg_name (i := 2) sc_strongest_first.nd rfl (Or.inl rfl)) pgs_nil)))) (by exact fun _ _ _ _ _ => pts_nil) (by exact fun _ _ _ _ _ => (pv 2)))))), fun Fz ds r h => ?_⟩
  cases h with
  | mk h h0 hz hk hl =>
    rename_i bs k
    have hkl : (keysL (thinL bs)).length < 1000000 := by unfold keysL thinL; rw [List.length_map, List.length_map]; exact hl
    have hn : ∀ (i j : Nat) (ρ : En), ρ[i]? = some none → ρ[j]? = some none → ∀ k, k ∈ [i, j] → ∀ ds, ρ[k]? ≠ some (some (.own ds)) := fun i j ρ e1 e2 k hk ds z => by
      rcases List.mem_cons.mp hk with y | y
      · rw [y, e1] at z; cases z
      · rw [List.mem_singleton.mp y, e2] at z; cases z
    refine fin_rt ?_
    refine xs_cons (y_set (e_frz (e_call (a_cons (e_var rfl) a_nil) (by walk_at "sp")))) ?_
    have hs : (sortP (kp (keysL (thinL bs)))).length < sizeLine := lt_sz (by rw [(sortP_perm _).length_eq, kp_len]; exact hkl)
    refine y_retF (e_cast (e_lc2 (f1 := fun q => .int q.1) (f2 := fun q => .int q.2) (h := fun q => .int q.2) (xs := sortP (kp (keysL (thinL bs)))) (i_anyL (e_frz (e_cb (a_cons (e_frz (e_lc2 (f1 := fun q => .int q.2) (f2 := fun q => .int q.1) (h := fun q => .tup [.int q.1, .int q.2]) (xs := kp (keysL (thinL bs))) ?_ (fun x hx => ?_) (lt_sz (by rw [kp_len]; exact hkl)) (hn _ _ _ rfl rfl))) a_nil) n_sortedP))) (fun x hx => ?_) hs (hn _ _ _ rfl rfl)) ?_)
    · rw [← enum_kp]
      exact i_enum (a_cons (e_var rfl) a_nil)
    · exact (e_tup (a_cons (e_var rfl) (a_cons (e_var rfl) a_nil)))
    · exact (e_var rfl)
    · rw [map_intL (f := fun q : Int × Int => q.2)]; rfl
end
end B
/-! text KQ -/
set_option Elab.async false
set_option linter.all false
set_option maxRecDepth 100000
set_option autoImplicit false
namespace B
open PySem PySem.Spec PyProof.Rows L2
local macro_rules | `(tactic| walk_at "o+") => `(tactic| first | exact o_orL o_I0 | (exact o_orR (o_orL (o_cat (by assumption)))) | (exact o_orR (o_orR (o_catA (by assumption)))))
local macro_rules | `(tactic| walk_at "o*") => `(tactic| exact o_orL (o_mul (by walk_at "mul")))
local macro_rules | `(tactic| walk_at "mul") => `(tactic| first | assumption | exact mul_nd (by assumption) (by assumption) | exact mul_dd (by assumption) (by assumption) | exact mul_nn (by assumption) (by assumption) | exact mul_dn (by assumption) (by assumption))
local macro_rules | `(tactic| walk_at "nz") => `(tactic| assumption)
local macro_rules | `(tactic| walk_at "nzd") => `(tactic| exact den2_ne _ _)
local macro_rules | `(tactic| walk_at "ix") => `(tactic| first | exact o_ixT' rfl | exact o_ixL' rfl | exact o_ixT' (by assumption) | exact o_ixL' (by assumption))
local macro_rules | `(tactic| walk_at "o=") => `(tactic| first | exact o_orL o_eqI | exact o_orL o_neI | exact o_orL o_eqB | exact o_orL o_neB | exact o_orR (o_eqD (by assumption) (by assumption)) | exact o_orR (o_neD (by assumption) (by assumption)) | exact o_orR (o_eqD rfl rfl) | exact o_orR (o_neD rfl rfl))
local macro_rules | `(tactic| walk_at "b_gcd") => `(tactic| exact n_gcd)
local macro_rules | `(tactic| walk_at "b_len") => `(tactic| first | exact n_lenT | exact n_lenL)
local macro_rules | `(tactic| walk_at "b_tuple") => `(tactic| first | exact n_tupleL | exact n_tupleT)
local macro_rules | `(tactic| walk_at "b_isinstance") => `(tactic| exact n_isi rfl rfl)
local macro_rules | `(tactic| walk_at "b_all") => `(tactic| exact n_all)
local macro_rules | `(tactic| walk_at "b_lcm") => `(tactic| exact n_lcm (by assumption))
local macro_rules | `(tactic| walk_at "b_sorted") => `(tactic| exact n_sortedP)
local macro_rules | `(tactic| walk_at "sp") => `(tactic| (constructor <;> first | assumption | rfl | walk_at "nzd"))
section
variable {P : Program} {w : World} {K : PySem.W.Frag} {mg : Str → Option Value} {base : Heap} {vN vS : V}
/-! lines -/
def bal (l b : Pt) : Rat := l.1 * b.2 - l.2 * b.1
inductive S_balance : List Dt → R → Prop
  | mk {l b : Pt} {k : Nat} (hl : BSz k l) (hb : BSz k b) (hk : 2 * k ≤ 40000000) : S_balance [encB l, encB b] (.val (enc (bal l b)))
theorem c_balance (T : Txt P w K mg base vN vS) : Cl P w K mg base CX0 36 "balance" (spP K S_balance) := by
  refine clP T.d_balance b_balance sc_balance (fun ds r h => by cases h; rfl) fun f cdv A outer s H E hr => ?_
  refine ⟨_, (pss_one (ps_ret (pe_cl (c_lessened T) hr (by decide) (by rfl) pass0 (pa_cons (pe_cl (c_scaled T) hr (by decide) (by rfl) pass0 (pa_cons (pe_ix (ix_sK K rfl) (pv 0) pe_int (fun _ _ => rfl)) (pa_cons (pe_ix (ix_sK K rfl) (pv 1) pe_int (fun _ _ => rfl)) pa_nil))) (pa_cons (pe_cl (c_scaled T) hr (by decide) (by rfl) pass0 (pa_cons (pe_ix (ix_sK K rfl) (pv 0) pe_int (fun _ _ => rfl)) (pa_cons (pe_ix (ix_sK K rfl) (pv 1) pe_int (fun _ _ => rfl)) pa_nil))) pa_nil))))), fun Fz ds r h => ?_⟩
  cases h with
  | mk hl hb hk =>
    rename_i l b k
    have s1 : Sm l.1 := hl.1.sm (by omega)
    have s2 : Sm l.2 := hl.2.sm (by omega)
    have s3 : Sm b.1 := hb.1.sm (by omega)
    have s4 : Sm b.2 := hb.2.sm (by omega)
    have s5 : Sm (l.1 * b.2) := (sz_mul hl.1 hb.2).sm (by omega)
    have s6 : Sm (l.2 * b.1) := (sz_mul hl.2 hb.1).sm (by omega)
    exact fin_rt (y_ret (e_call (a_cons (e_call (a_cons (e_op (e_var rfl) (e_int) (by walk_at "ix")) (a_cons (e_op (e_var rfl) (e_int) (by walk_at "ix")) a_nil)) (by walk_at "sp")) (a_cons (e_call (a_cons (e_op (e_var rfl) (e_int) (by walk_at "ix")) (a_cons (e_op (e_var rfl) (e_int) (by walk_at "ix")) a_nil)) (by walk_at "sp")) a_nil)) (by walk_at "sp")))
def worth (l b : Pt) : Rat := if 0 < bal l b then bal l b else 0
inductive S_worth_of : List Dt → R → Prop
  | mk {l b : Pt} {k : Nat} (hl : BSz k l) (hb : BSz k b) (hk : 2 * k ≤ 40000000) : S_worth_of [encB l, encB b] (.val (enc (worth l b)))
theorem num_pos {q : Rat} : decide (0 < q.num) = decide (0 < q) := by
  have h := Rat.lt_iff 0 q
  by_cases c : 0 < q
  · rw [decide_eq_true c, decide_eq_true]
    have := h.mp c
    simpa using this
  · rw [decide_eq_false c, decide_eq_false]
    intro z
    exact c (h.mpr (by simpa using z))
theorem c_worth_of (T : Txt P w K mg base vN vS) : Cl P w K mg base CX0 37 "worth_of" (spP K S_worth_of) := by
  refine clP T.d_worth_of b_worth_of sc_worth_of (fun ds r h => by cases h; rfl) fun f cdv A outer s H E hr => ?_
  refine ⟨_, (pss_cons (ps_set (i := 2) sc_worth_of.nd rfl (Or.inl rfl) (pe_cl (c_balance T) hr (by decide) (by rfl) pass0 (pa_cons (pv 0) (pa_cons (pv 1) pa_nil)))) (pss_one (ps_ret (pe_ifExp (pt_cmpR op_gt (pe_ix (ix_sK K rfl) (pv 2) pe_int (fun _ _ => rfl)) pe_int (nomark _)) (pv 2) (pe_globK (T.k_NOTHING) (by rfl)))))), fun Fz ds r h => ?_⟩
  cases h with
  | mk hl hb hk =>
    rename_i l b k
    refine fin_rt ?_
    refine xs_cons (y_set (e_call (a_cons (e_var rfl) (a_cons (e_var rfl) a_nil)) (by walk_at "sp"))) ?_
    refine y_ret (e_cast (e_ifV (x := enc (bal l b)) (y := enc 0) (t_test (e_op (e_op (e_var rfl) (e_int) (by walk_at "ix")) (e_int) o_C0)) (fun h => (e_var rfl)) (fun h => (e_cK T.r_NOTHING))) ?_)
    rw [num_pos]
    unfold worth
    by_cases h : 0 < bal l b <;> simp [h]
theorem sz_worth {l b : Pt} {k : Nat} (hl : BSz k l) (hb : BSz k b) : Sz (4 * k + 1) (worth l b) := by
  unfold worth
  split
  · exact (sz_sub (sz_mul hl.1 hb.2) (sz_mul hl.2 hb.1)).mono (by omega)
  · exact sz_zero (by omega)
def worths (l : Pt) (c : List Pt) : Rat := rsum (c.map (worth l))
inductive S_stock_worth : List Dt → R → Prop
  | mk {l : Pt} {c : List Pt} {k : Nat} (hl : BSz k l) (hc : CSz k c) (nl : Nn l) (nc : ∀ b ∈ c, Nn b) (hk : 4 * k ≤ 40000000) (hz : 1 + c.length * (4 * k + 2) ≤ 40000000) (hs : c.length < 1000000) : S_stock_worth [encB l, encC c] (.val (enc (worths l c)))
theorem c_stock_worth (T : Txt P w K mg base vN vS) : Cl P w K mg base CX0 42 "stock_worth" (spP K S_stock_worth) := by
  refine clP T.d_stock_worth b_stock_worth sc_stock_worth (fun ds r h => by cases h; rfl) fun f cdv A outer s H E hr => ?_
  refine ⟨_, (pss_cons (ps_set (i := 2) sc_stock_worth.nd rfl (Or.inr rfl) (pe_cl (c_sure_line T) hr (by decide) (by rfl) pass0 (pa_cons (pv 0) pa_nil))) (pss_one (ps_ret (pe_cl (c_summed T) hr (by decide) (by rfl) pass0 (pa_cons (pe_lc (own := [("brine", 3)]) rfl sc_stock_worth.nd (pi_anyK K rfl (pe_cl (c_sure_stock T) hr (by decide) (by rfl) pass0 (pa_cons (pv 1) pa_nil))) (blkOk_by (N := n_stock_worth) (sc := defScope s_stock_worth) (by decide +kernel)) (by exact fun _ _ _ _ _ => (pg_name (i := 3) sc_stock_worth.nd rfl (Or.inl rfl))) (by exact fun _ _ _ _ _ => pts_nil) (by exact fun _ _ _ _ _ => (pe_cl (c_worth_of T) hr (by decide) (by rfl) pass0 (pa_cons (pv 2) (pa_cons (pv 3) pa_nil))))) pa_nil))))), fun Fz ds r h => ?_⟩
  cases h with
  | mk hl hc nl nc hk hz hs =>
    rename_i l c k
    refine fin_rt ?_
    refine xs_cons (y_set (e_call (a_cons (e_var rfl) a_nil) (by walk_at "sp"))) ?_
    have h1 : ∀ q ∈ c.map (worth l), Sz (4 * k + 1) q := fun q hq => by
      obtain ⟨b, hb, e⟩ := List.mem_map.mp hq
      rw [← e]
      exact sz_worth hl (hc b hb)
    have z1 : 1 + (c.map (worth l)).length * (4 * k + 1 + 1) ≤ 40000000 := by rw [List.length_map]; exact hz
    refine y_ret (e_call (a_cons (e_frz (e_cast (e_lc1 (f := encB) (h := fun b => enc (worth l b)) (xs := c) (i_anyT (e_call (a_cons (e_var rfl) a_nil) (by walk_at "sp"))) (fun x hx => ?_) (lt_sz hs)) (by rw [map_encL (f := worth l)]))) a_nil) (.mk h1 z1))
    exact e_call (a_cons (e_var rfl) (a_cons (e_var rfl) a_nil)) (.mk hl (hc x hx) (by omega))
/-! curves -/
def bsub (b a : Pt) : Pt := (b.1 - a.1, b.2 - a.2)
theorem sz_bsub {a b : Pt} {k : Nat} (ha : BSz k a) (hb : BSz k b) : BSz (2 * k + 1) (bsub b a) := ⟨(sz_sub hb.1 ha.1).mono (by omega), (sz_sub hb.2 ha.2).mono (by omega)⟩
inductive S_rise : List Dt → R → Prop
  | mk {a b : Pt} {k : Nat} (ha : BSz k a) (hb : BSz k b) (hk : k ≤ 40000000) : S_rise [encB a, encB b] (.val (encB (bsub b a)))
theorem c_rise (T : Txt P w K mg base vN vS) : Cl P w K mg base CX0 36 "rise" (spP K S_rise) := by
  refine clP T.d_rise b_rise sc_rise (fun ds r h => by cases h; rfl) fun f cdv A outer s H E hr => ?_
  refine ⟨_, (pss_one (ps_ret (pe_tup (pa_cons (pe_cl (c_lessened T) hr (by decide) (by rfl) pass0 (pa_cons (pe_ix (ix_sK K rfl) (pv 1) pe_int (fun _ _ => rfl)) (pa_cons (pe_ix (ix_sK K rfl) (pv 0) pe_int (fun _ _ => rfl)) pa_nil))) (pa_cons (pe_cl (c_lessened T) hr (by decide) (by rfl) pass0 (pa_cons (pe_ix (ix_sK K rfl) (pv 1) pe_int (fun _ _ => rfl)) (pa_cons (pe_ix (ix_sK K rfl) (pv 0) pe_int (fun _ _ => rfl)) pa_nil))) pa_nil))))), fun Fz ds r h => ?_⟩
  cases h with
  | mk ha hb hk =>
    have s1 := ha.1.sm hk
    have s2 := ha.2.sm hk
    have s3 := hb.1.sm hk
    have s4 := hb.2.sm hk
    exact fin_rt (y_ret (e_tup (a_cons (e_call (a_cons (e_op (e_var rfl) (e_int) (by walk_at "ix")) (a_cons (e_op (e_var rfl) (e_int) (by walk_at "ix")) a_nil)) (by walk_at "sp")) (a_cons (e_call (a_cons (e_op (e_var rfl) (e_int) (by walk_at "ix")) (a_cons (e_op (e_var rfl) (e_int) (by walk_at "ix")) a_nil)) (by walk_at "sp")) a_nil))))
inductive S_turns_down : List Dt → R → Prop
  | mk {a b c : Pt} {k : Nat} (ha : BSz k a) (hb : BSz k b) (hc : BSz k c) (hk : 4 * k + 2 ≤ 40000000) : S_turns_down [encB a, encB b, encB c] (.val (.bl (td a b c)))
theorem c_turns_down (T : Txt P w K mg base vN vS) : Cl P w K mg base CX0 37 "turns_down" (spP K S_turns_down) := by
  refine clP T.d_turns_down b_turns_down sc_turns_down (fun ds r h => by cases h; rfl) fun f cdv A outer s H E hr => ?_
  refine ⟨_, (pss_cons (ps_par (i := 3) (j := 4) rfl sc_turns_down.nd rfl rfl (by decide) rfl rfl (pa_cons (pe_cl (c_rise T) hr (by decide) (by rfl) pass0 (pa_cons (pv 0) (pa_cons (pv 1) pa_nil))) (pa_cons (pe_cl (c_rise T) hr (by decide) (by rfl) pass0 (pa_cons (pv 1) (pa_cons (pv 2) pa_nil))) pa_nil)) (by rfl)) (pss_one (ps_ret (pe_cmpR op_gt (pe_cl (c_side T) hr (by decide) (by rfl) pass0 (pa_cons (pe_cl (c_scaled T) hr (by decide) (by rfl) pass0 (pa_cons (pe_ix (ix_sK K rfl) (pv 3) pe_int (fun _ _ => rfl)) (pa_cons (pe_ix (ix_sK K rfl) (pv 4) pe_int (fun _ _ => rfl)) pa_nil))) (pa_cons (pe_cl (c_scaled T) hr (by decide) (by rfl) pass0 (pa_cons (pe_ix (ix_sK K rfl) (pv 4) pe_int (fun _ _ => rfl)) (pa_cons (pe_ix (ix_sK K rfl) (pv 3) pe_int (fun _ _ => rfl)) pa_nil))) pa_nil))) pe_int (nomark _))))), fun Fz ds r h => ?_⟩
  cases h with
  | mk ha hb hc hk =>
    rename_i a b c k
    have hk1 : k ≤ 40000000 := by omega
    refine fin_rt ?_
    refine xs_cons (y_par (a_cons (e_call (a_cons (e_var rfl) (a_cons (e_var rfl) a_nil)) (by walk_at "sp")) (a_cons (e_call (a_cons (e_var rfl) (a_cons (e_var rfl) a_nil)) (by walk_at "sp")) a_nil))) ?_
    have b1 := sz_bsub ha hb
    have b2 := sz_bsub hb hc
    have s1 := b1.1.sm (by omega)
    have s2 := b1.2.sm (by omega)
    have s3 := b2.1.sm (by omega)
    have s4 := b2.2.sm (by omega)
    have s5 : Sm ((bsub b a).2 * (bsub c b).1) := (sz_mul b1.2 b2.1).sm (by omega)
    have s6 : Sm ((bsub c b).2 * (bsub b a).1) := (sz_mul b2.2 b1.1).sm (by omega)
    exact y_ret (e_cast (e_op (e_call (a_cons (e_call (a_cons (e_op (e_var rfl) (e_int) (by walk_at "ix")) (a_cons (e_op (e_var rfl) (e_int) (by walk_at "ix")) a_nil)) (by walk_at "sp")) (a_cons (e_call (a_cons (e_op (e_var rfl) (e_int) (by walk_at "ix")) (a_cons (e_op (e_var rfl) (e_int) (by walk_at "ix")) a_nil)) (by walk_at "sp")) a_nil)) (by walk_at "sp")) (e_int) o_C0) (by rw [sideI_gt]; rfl))
theorem atI_last1 {l : List Dt} {x : Dt} : atI (l ++ [x]) (-1) = some x := by
  unfold atI ixN
  simp
  rw [if_pos (by omega), show (-1 + ((l.length : Int) + 1)).toNat = l.length by omega]
  simp
theorem atI_last2 {l : List Dt} {x y : Dt} : atI (l ++ [y, x]) (-2) = some y := by
  unfold atI ixN
  simp
  rw [if_pos (by omega), show (-2 + ((l.length : Int) + 2)).toNat = l.length by omega]
  simp
theorem rev_map1 (t : Pt) (r : List Pt) : (t :: r).reverse.map encB = r.reverse.map encB ++ [encB t] := by simp
theorem rev_map2 (t u : Pt) (r : List Pt) : (t :: u :: r).reverse.map encB = r.reverse.map encB ++ [encB u, encB t] := by simp
theorem deq_enc (a b : Rat) : deq (enc a) (enc b) = decide (a = b) := by
  unfold enc
  rw [deq_tup, deqs_cons, deqs_cons, deqs_nil, deq_int, deq_int, Bool.and_true]
  by_cases h : a = b
  · rw [h]; simp
  · rw [decide_eq_false h]
    by_cases c : a.num = b.num
    · have : ¬ (a.den : Int) = (b.den : Int) := fun z => h (Rat.ext c (by omega))
      rw [beq_eq_false_iff_ne.mpr this, Bool.and_false]
    · rw [beq_eq_false_iff_ne.mpr c, Bool.false_and]
inductive S_hides : List Dt → R → Prop
  | mk {t : Pt} {r : List Pt} {p : Pt} {k : Nat} (hs : CSz k (t :: r)) (hp : BSz k p) (hk : 4 * k + 2 ≤ 40000000) : S_hides [.lst ((t :: r).reverse.map encB), encB p] (.val (.bl (hid (t :: r) p)))
theorem c_hides (T : Txt P w K mg base vN vS) : Cl P w K mg base CX0 38 "hides" (spP K S_hides) := by
  refine clP T.d_hides b_hides sc_hides (fun ds r h => by cases h; rfl) fun f cdv A outer s H E hr => ?_
  refine ⟨_, (pss_cons (ps_if (pt_cmpR (op_eqK K rfl (hu_of hr)) (pe_ix (ix_sK K rfl) (pe_ix (ix_sK K rfl) (pv 0) (pe_un un_neg pe_int) (fun _ _ => rfl)) pe_int (fun _ _ => rfl)) (pe_ix (ix_sK K rfl) (pv 1) pe_int (fun _ _ => rfl)) (nomark _)) (pss_one (ps_ret pe_bl)) pss_nil) (pss_one (ps_ret (pe_and (pe_cmpR op_gt (pe_callB call_len_seq (by rfl) T.z_len (by decide +kernel) (pa_cons (pv 0) pa_nil)) pe_int (nomark _)) (pe_one (pe_not (pe_cl (c_turns_down T) hr (by decide) (by rfl) pass0 (pa_cons (pe_ix (ix_sK K rfl) (pv 0) (pe_un un_neg pe_int) (fun _ _ => rfl)) (pa_cons (pe_ix (ix_sK K rfl) (pv 0) (pe_un un_neg pe_int) (fun _ _ => rfl)) (pa_cons (pv 1) pa_nil)))))))))), fun Fz ds r h => ?_⟩
  cases h with
  | mk hs hp hk =>
    rename_i t r p k
    refine fin_rt ?_
    have i1 : atI ((t :: r).reverse.map encB) (-1) = some (encB t) := by rw [rev_map1]; exact atI_last1
    have ht := hs t (List.mem_cons_self ..)
    refine ys_if (b := decide (t.1 = p.1)) (t_cast (t_test (e_op (e_op (e_op (e_var rfl) (e_un (e_int) o_U) (by walk_at "ix")) (e_int) (by walk_at "ix")) (e_op (e_var rfl) (e_int) (by walk_at "ix")) (by walk_at "o="))) (deq_enc _ _)) (fun h => ?_) rfl (fun h => x_next) (fun h => ?_)
    · have e : hid (t :: r) p = true := by cases r <;> simp only [hid, h] <;> rfl
      rw [e]
      exact y_ret e_bl
    · cases r with
      | nil =>
        have e : hid [t] p = false := by simp only [hid, h]
        rw [e]
        refine y_ret (e_cast (e_and (b := false) (c := false) (e_cast (e_op (e_cb (a_cons (e_var rfl) a_nil) (by walk_at "b_len")) (e_int) o_C0) rfl) (fun z => nomatch z)) rfl)
      | cons u r =>
        have e : hid (t :: u :: r) p = !td u t p := by simp only [hid, h]; rfl
        rw [e]
        have i2 : atI ((t :: u :: r).reverse.map encB) (-2) = some (encB u) := by rw [rev_map2]; exact atI_last2
        have hu := hs u (List.mem_cons_of_mem _ (List.mem_cons_self ..))
        have el : decide ((1 : Int) < (((t :: u :: r).reverse.map encB).length : Int)) = true := decide_eq_true (by simp; omega)
        refine y_ret (e_cast (e_and (b := true) (c := !td u t p) (e_cast (e_op (e_cb (a_cons (e_var rfl) a_nil) (by walk_at "b_len")) (e_int) o_C0) (by rw [el])) (fun z => (e_not (e_call (a_cons (e_op (e_var rfl) (e_un (e_int) o_U) (by walk_at "ix")) (a_cons (e_op (e_var rfl) (e_un (e_int) o_U) (by walk_at "ix")) (a_cons (e_var rfl) a_nil))) (by walk_at "sp"))))) rfl)
end
end B
/-! text MCv -/
set_option Elab.async false
set_option linter.all false
set_option maxRecDepth 100000
set_option autoImplicit false
namespace B
/-! curves -/
def Inc : List Pt → Prop
  | a :: b :: r => (a.1 < b.1 ∧ a.2 < b.2) ∧ Inc (b :: r)
  | _ => True
def Con : List Pt → Prop
  | a :: b :: c :: r => td a b c = true ∧ Con (b :: c :: r)
  | _ => True
structure Cv (c : List Pt) : Prop where
  hd : ∃ (s : Rat) (r : List Pt), c = (0, s) :: r ∧ 0 ≤ s
  inc : Inc c
  con : Con c
theorem Inc.tail {a : Pt} {r : List Pt} (h : Inc (a :: r)) : Inc r := by
  cases r with
  | nil => exact trivial
  | cons b r => exact h.2
theorem Con.tail {a : Pt} {r : List Pt} (h : Con (a :: r)) : Con r := by
  match r, h with
  | [], _ => exact trivial
  | [b], _ => exact trivial
  | b :: c :: r, h => exact h.2
theorem Inc.get : ∀ {c : List Pt} {i : Nat} {a b : Pt}, Inc c → c[i]? = some a → c[i + 1]? = some b → a.1 < b.1 ∧ a.2 < b.2
  | [], _, _, _, _, h, _ => by simp at h
  | [x], 0, _, _, _, _, h => by simp at h
  | [x], i + 1, _, _, _, h, _ => by simp at h
  | x :: y :: r, 0, a, b, hi, h1, h2 => by
    simp at h1 h2
    subst h1; subst h2
    exact hi.1
  | x :: y :: r, i + 1, a, b, hi, h1, h2 => Inc.get (c := y :: r) (i := i) hi.2 (by simpa using h1) (by simpa using h2)
theorem Con.get : ∀ {l : List Pt} {i : Nat} {a b c : Pt}, Con l → l[i]? = some a → l[i + 1]? = some b → l[i + 2]? = some c → td a b c = true
  | [], _, _, _, _, _, h, _, _ => by simp at h
  | [x], 0, _, _, _, _, _, h, _ => by simp at h
  | [x], i + 1, _, _, _, _, h, _, _ => by simp at h
  | [x, y], 0, _, _, _, _, _, _, h => by simp at h
  | [x, y], i + 1, _, _, _, _, _, h, _ => by simp at h
  | x :: y :: z :: r, 0, a, b, c, hi, h1, h2, h3 => by
    simp at h1 h2 h3
    subst h1; subst h2; subst h3
    exact hi.1
  | x :: y :: z :: r, i + 1, a, b, c, hi, h1, h2, h3 => Con.get (l := y :: z :: r) (i := i) hi.2 (by simpa using h1) (by simpa using h2) (by simpa using h3)
theorem Inc.ge : ∀ {r : List Pt} {a : Pt}, Inc (a :: r) → ∀ b ∈ a :: r, a.1 ≤ b.1 ∧ a.2 ≤ b.2
  | [], a, _, b, hb => by
    rw [List.mem_singleton.mp hb]
    exact ⟨Rat.le_refl, Rat.le_refl⟩
  | x :: r, a, h, b, hb => by
    rcases List.mem_cons.mp hb with z | z
    · rw [z]; exact ⟨Rat.le_refl, Rat.le_refl⟩
    · have := Inc.ge (r := r) (a := x) h.2 b z
      have := h.1
      constructor <;> grind
theorem Cv.nn {c : List Pt} (h : Cv c) : ∀ b ∈ c, Nn b := by
  obtain ⟨s, r, e, hs⟩ := h.hd
  subst e
  intro b hb
  have := h.inc.ge b hb
  exact ⟨this.1, by have := this.2; show (0 : Rat) ≤ b.2; grind⟩
theorem Cv.ne {c : List Pt} (h : Cv c) : c ≠ [] := by
  obtain ⟨s, r, e, hs⟩ := h.hd
  rw [e]
  exact fun z => nomatch z
/-! what the steps leave -/
theorem popW_sub {p : Pt} : ∀ {st : List Pt}, ∀ b ∈ popW p st, b ∈ st
  | [], b, h => by rw [popW] at h; exact h
  | t :: r, b, h => by
    rw [popW] at h
    split at h
    · exact List.mem_cons_of_mem _ (popW_sub b h)
    · exact h
theorem popW_len {p : Pt} : ∀ {st : List Pt}, (popW p st).length ≤ st.length
  | [] => by rw [popW]; exact Nat.le_refl _
  | t :: r => by
    rw [popW]
    split
    · have := popW_len (p := p) (st := r); simp; omega
    · exact Nat.le_refl _
theorem sstep_sub {p : Pt} {st : List Pt} : ∀ b ∈ sstep st p, b = p ∨ b ∈ st := by
  intro b h
  cases st with
  | nil => exact .inl (List.mem_singleton.mp h)
  | cons t r =>
    unfold sstep at h
    simp only at h
    split at h
    · exact .inr h
    · rcases List.mem_cons.mp h with z | z
      · exact .inl z
      · exact .inr (popW_sub b z)
theorem sstep_len {p : Pt} {st : List Pt} : (sstep st p).length ≤ st.length + 1 := by
  cases st with
  | nil => exact Nat.le_refl _
  | cons t r =>
    unfold sstep
    simp only
    split
    · omega
    · have := popW_len (p := p) (st := t :: r)
      rw [List.length_cons]; omega
theorem fold_sub : ∀ {ps st : List Pt}, ∀ b ∈ ps.foldl sstep st, b ∈ ps ∨ b ∈ st
  | [], st, b, h => .inr h
  | p :: ps, st, b, h => by
    rw [List.foldl_cons] at h
    rcases fold_sub b h with z | z
    · exact .inl (List.mem_cons_of_mem _ z)
    · rcases sstep_sub b z with y | y
      · exact .inl (by rw [y]; exact List.mem_cons_self ..)
      · exact .inr y
theorem smooth_sub {ps : List Pt} : ∀ b ∈ smooth ps, b ∈ ps := fun b h => by
  unfold smooth at h
  rcases fold_sub b (List.mem_reverse.mp h) with z | z
  · exact z
  · cases z
theorem fold_len : ∀ {ps st : List Pt}, (ps.foldl sstep st).length ≤ ps.length + st.length
  | [], st => by simp
  | p :: ps, st => by
    have := fold_len (ps := ps) (st := sstep st p)
    have := sstep_len (p := p) (st := st)
    rw [List.foldl_cons, List.length_cons]; omega
theorem smooth_len {ps : List Pt} : (smooth ps).length ≤ ps.length := by
  have := fold_len (ps := ps) (st := [])
  unfold smooth
  rw [List.length_reverse]
  simpa using this
end B
/-! text MCo -/
set_option Elab.async false
set_option linter.all false
set_option maxRecDepth 100000
set_option autoImplicit false
namespace B
def padd (t b : Pt) : Pt := (t.1 + b.1, t.2 + b.2)
/-- the stocks with salt -/
def salt (c : List Pt) : List Pt := c.filter fun b => !decide (b.2 = 0)
def pick (bs : List Pt) (i : Int) : Pt := bs.getD i.toNat (0, 0)
def obs (bs : List Pt) : List Pt := (ordr bs).map (pick bs)
def cumI (bs : List Pt) (st : List Pt) (i : Int) : List Pt := padd (st.headD (0, 0)) (pick bs i) :: st
def corners (c : List Pt) : List Pt := ((ordr (salt c)).foldl (cumI (salt c)) [(0, 0)]).reverse
def curveOf (c : List Pt) : List Pt := smooth (corners c)
theorem kp_snd (ks : List Int) : (kp ks).map (·.2) = (List.range ks.length).map fun n : Nat => (n : Int) := by
  unfold kp
  apply List.ext_getElem?
  intro i
  rw [List.getElem?_map, List.getElem?_map, List.getElem?_zipWith]
  by_cases h : i < ks.length
  · rw [List.getElem?_range h, List.getElem?_eq_getElem h]; rfl
  · have h1 : (List.range ks.length)[i]? = none := List.getElem?_eq_none (by rw [List.length_range]; omega)
    rw [h1]; rfl
theorem ordr_perm (bs : List Pt) : (ordr bs).Perm ((List.range bs.length).map fun n : Nat => (n : Int)) := by
  have h := (sortP_perm (kp (keysL (thinL bs)))).map (·.2)
  rw [kp_snd] at h
  unfold ordr
  have e : (keysL (thinL bs)).length = bs.length := by unfold keysL thinL; rw [List.length_map, List.length_map]
  rw [e] at h
  exact h
theorem ordr_len (bs : List Pt) : (ordr bs).length = bs.length := by
  rw [(ordr_perm bs).length_eq, List.length_map, List.length_range]
theorem ordr_mem {bs : List Pt} {i : Int} (h : i ∈ ordr bs) : ∃ n : Nat, i = (n : Int) ∧ n < bs.length := by
  have := (ordr_perm bs).mem_iff.mp h
  obtain ⟨n, hn, e⟩ := List.mem_map.mp this
  exact ⟨n, e.symm, List.mem_range.mp hn⟩
theorem pick_mem {bs : List Pt} {i : Int} (h : i ∈ ordr bs) : pick bs i ∈ bs := by
  obtain ⟨n, rfl, hn⟩ := ordr_mem h
  unfold pick
  rw [Int.toNat_natCast, List.getD_eq_getElem?_getD, List.getElem?_eq_getElem hn]
  exact List.getElem_mem hn
theorem obs_perm (bs : List Pt) : (obs bs).Perm bs := by
  have h := (ordr_perm bs).map (pick bs)
  rw [List.map_map] at h
  have e : (List.range bs.length).map (pick bs ∘ fun n : Nat => (n : Int)) = bs := by
    apply List.ext_getElem?
    intro i
    rw [List.getElem?_map]
    by_cases hi : i < bs.length
    · rw [List.getElem?_range hi, List.getElem?_eq_getElem hi]
      show some (pick bs (i : Int)) = _
      unfold pick
      rw [Int.toNat_natCast, List.getD_eq_getElem?_getD, List.getElem?_eq_getElem hi]
      rfl
    · rw [List.getElem?_eq_none (by rw [List.length_range]; omega), List.getElem?_eq_none (by omega)]
      rfl
  rw [e] at h
  exact h
theorem corners_eq (c : List Pt) : corners c = ((obs (salt c)).foldl (fun st b => padd (st.headD (0, 0)) b :: st) [(0, 0)]).reverse := by
  unfold corners obs
  rw [List.foldl_map]
  rfl
theorem salt_sub {c : List Pt} {b : Pt} (h : b ∈ salt c) : b ∈ c ∧ b.2 ≠ 0 := by
  have := List.mem_filter.mp h
  exact ⟨this.1, by simpa using this.2⟩
theorem salt_len {c : List Pt} : (salt c).length ≤ c.length := List.length_filter_le _ _
theorem cum_len {bs : List Pt} : ∀ {xs : List Int} {st : List Pt}, (xs.foldl (cumI bs) st).length = xs.length + st.length
  | [], st => by simp
  | x :: xs, st => by
    rw [List.foldl_cons, cum_len, List.length_cons]
    unfold cumI
    rw [List.length_cons]; omega
theorem corners_len (c : List Pt) : (corners c).length ≤ c.length + 1 := by
  unfold corners
  rw [List.length_reverse, cum_len, ordr_len]
  have := salt_len (c := c)
  simpa using this
theorem cum_sz {bs : List Pt} {k : Nat} (h : CSz k bs) : ∀ {xs : List Int} {st : List Pt} {j : Nat}, (∀ i ∈ xs, pick bs i ∈ bs) → BSz j (st.headD (0, 0)) → CSz (j + xs.length * (k + 1)) st → CSz (j + xs.length * (k + 1)) (xs.foldl (cumI bs) st)
  | [], st, j, _, _, hs => hs
  | x :: xs, st, j, hx, hj, hs => by
    rw [List.foldl_cons, List.length_cons, Nat.succ_mul]
    have hp := h _ (hx x (List.mem_cons_self ..))
    have hn : BSz (j + k + 1) (padd (st.headD (0, 0)) (pick bs x)) := ⟨sz_add hj.1 hp.1, sz_add hj.2 hp.2⟩
    have e : j + (xs.length * (k + 1) + (k + 1)) = (j + k + 1) + xs.length * (k + 1) := by omega
    rw [List.length_cons, Nat.succ_mul, e] at hs
    rw [e]
    refine cum_sz h (st := cumI bs st x) (fun i hi => hx i (List.mem_cons_of_mem _ hi)) hn fun b hb => ?_
    rcases List.mem_cons.mp hb with z | z
    · rw [z]; exact hn.mono (by omega)
    · exact hs b z
theorem bsz0 {k : Nat} (h : 0 < k) : BSz k (0, 0) := ⟨sz_zero h, sz_zero h⟩
theorem corners_sz {c : List Pt} {k : Nat} (h : CSz k c) : CSz (1 + c.length * (k + 1)) (corners c) := by
  have hs : CSz k (salt c) := fun b hb => h b (salt_sub hb).1
  have := cum_sz hs (xs := ordr (salt c)) (st := [(0, 0)]) (j := 1) (fun i hi => pick_mem hi) (bsz0 (by decide)) (fun b hb => by
    rw [List.mem_singleton.mp hb]
    exact bsz0 (by omega))
  intro b hb
  unfold corners at hb
  have := this b (List.mem_reverse.mp hb)
  refine this.mono ?_
  rw [ordr_len]
  have := salt_len (c := c)
  have := Nat.mul_le_mul_right (k + 1) this
  omega
theorem curveOf_sz {c : List Pt} {k : Nat} (h : CSz k c) : CSz (1 + c.length * (k + 1)) (curveOf c) := fun b hb => corners_sz h b (smooth_sub b hb)
theorem curveOf_len (c : List Pt) : (curveOf c).length ≤ c.length + 1 := Nat.le_trans smooth_len (corners_len c)
end B
/-! text MHt -/
set_option Elab.async false
set_option linter.all false
set_option maxRecDepth 100000
set_option autoImplicit false
namespace B
/-! heights -/
def seg : List Pt → Rat → Nat
  | a :: b :: r, x => if b.1 ≤ x then seg (b :: r) x + 1 else 0
  | _, _ => 0
def hgt : List Pt → Rat → Rat
  | a :: b :: r, x => if b.1 ≤ x then hgt (b :: r) x else a.2 + (b.2 - a.2) * (x - a.1) / (b.1 - a.1)
  | [a], _ => a.2
  | [], _ => 0
def slp : List Pt → Rat → Rat
  | a :: b :: r, x => if b.1 ≤ x then slp (b :: r) x else (b.2 - a.2) / (b.1 - a.1)
  | _, _ => 0
theorem seg_lt : ∀ {c : List Pt} {x : Rat}, c ≠ [] → seg c x < c.length
  | [], _, h => absurd rfl h
  | [a], _, _ => by simp [seg]
  | a :: b :: r, x, _ => by
    unfold seg
    split
    · have := seg_lt (c := b :: r) (x := x) (by simp)
      simp at this ⊢; omega
    · simp
theorem seg_uniq : ∀ {c : List Pt} {x : Rat} {i : Nat} {a : Pt}, Inc c → c[i]? = some a → (i = 0 ∨ a.1 ≤ x) → (∀ b, c[i + 1]? = some b → x < b.1) → seg c x = i
  | [], _, _, _, _, h, _, _ => by simp at h
  | [a], x, 0, _, _, _, _, _ => by simp [seg]
  | [a], x, i + 1, _, _, h, _, _ => by simp at h
  | a :: b :: r, x, 0, d, hi, h, _, hb => by
    have := hb b rfl
    unfold seg
    rw [if_neg (Rat.not_le.mpr this)]
  | a :: b :: r, x, i + 1, d, hi, h, hd, hb => by
    have hd' : d.1 ≤ x := by
      rcases hd with z | z
      · omega
      · exact z
    have h' : (b :: r)[i]? = some d := by simpa using h
    have hbd : b.1 ≤ d.1 := (hi.2.ge d (List.mem_of_getElem? h')).1
    have hbx : b.1 ≤ x := by grind
    unfold seg
    rw [if_pos hbx, seg_uniq (c := b :: r) (i := i) hi.2 h' (.inr hd') fun e he => hb e (by simpa using he)]
theorem hgt_last : ∀ {c : List Pt} {x : Rat} {a : Pt}, c[seg c x]? = some a → seg c x + 1 = c.length → hgt c x = a.2
  | [], _, _, h, _ => by simp at h
  | [b], x, a, h, _ => by
    simp [seg] at h
    rw [hgt, h]
  | b :: d :: r, x, a, h, hl => by
    unfold seg at h hl
    unfold hgt
    by_cases c : d.1 ≤ x
    · rw [if_pos c] at h hl ⊢
      exact hgt_last (c := d :: r) (by simpa using h) (by simpa using hl)
    · rw [if_neg c] at hl
      simp at hl
theorem hgt_mid : ∀ {c : List Pt} {x : Rat} {a b : Pt}, c[seg c x]? = some a → c[seg c x + 1]? = some b → hgt c x = a.2 + (b.2 - a.2) * (x - a.1) / (b.1 - a.1)
  | [], _, _, _, h, _ => by simp at h
  | [d], x, a, b, _, h => by simp [seg] at h
  | d :: e :: r, x, a, b, h1, h2 => by
    unfold seg at h1 h2
    unfold hgt
    by_cases c : e.1 ≤ x
    · rw [if_pos c] at h1 h2 ⊢
      exact hgt_mid (c := e :: r) (by simpa using h1) (by simpa using h2)
    · rw [if_neg c] at h1 h2 ⊢
      simp at h1 h2
      rw [h1, h2]
theorem slp_last : ∀ {c : List Pt} {x : Rat}, seg c x + 1 = c.length → slp c x = 0
  | [], _, h => by simp [seg] at h
  | [b], x, _ => by simp [slp]
  | b :: d :: r, x, hl => by
    unfold seg at hl
    unfold slp
    by_cases c : d.1 ≤ x
    · rw [if_pos c] at hl ⊢
      exact slp_last (c := d :: r) (by simpa using hl)
    · rw [if_neg c] at hl
      simp at hl
theorem slp_mid : ∀ {c : List Pt} {x : Rat} {a b : Pt}, c[seg c x]? = some a → c[seg c x + 1]? = some b → slp c x = (b.2 - a.2) / (b.1 - a.1)
  | [], _, _, _, h, _ => by simp at h
  | [d], x, a, b, _, h => by simp [seg] at h
  | d :: e :: r, x, a, b, h1, h2 => by
    unfold seg at h1 h2
    unfold slp
    by_cases c : e.1 ≤ x
    · rw [if_pos c] at h1 h2 ⊢
      exact slp_mid (c := e :: r) (by simpa using h1) (by simpa using h2)
    · rw [if_neg c] at h1 h2 ⊢
      simp at h1 h2
      rw [h1, h2]
theorem sz_hgt {c : List Pt} {x : Rat} {k j : Nat} (hs : CSz k c) (hi : Inc c) (hx : Sz j x) (hne : c ≠ []) : Sz (6 * k + j + 4) (hgt c x) := by
  have hl := seg_lt (x := x) hne
  obtain ⟨a, ha⟩ : ∃ a, c[seg c x]? = some a := ⟨_, List.getElem?_eq_getElem hl⟩
  have sa := hs a (List.mem_of_getElem? ha)
  by_cases hz : seg c x + 1 = c.length
  · rw [hgt_last ha hz]
    exact sa.2.mono (by omega)
  · obtain ⟨b, hb⟩ : ∃ b, c[seg c x + 1]? = some b := ⟨_, List.getElem?_eq_getElem (by omega)⟩
    have sb := hs b (List.mem_of_getElem? hb)
    rw [hgt_mid ha hb]
    have := (hi.get ha hb).1
    have h1 := sz_sub sb.2 sa.2
    have h2 := sz_sub sb.1 sa.1
    have h3 := sz_sub hx sa.1
    exact (sz_add sa.2 (sz_div (sz_mul h1 h3) h2 (by grind))).mono (by omega)
theorem sz_slp {c : List Pt} {x : Rat} {k : Nat} (hs : CSz k c) (hi : Inc c) (hne : c ≠ []) : Sz (4 * k + 2) (slp c x) := by
  have hl := seg_lt (x := x) hne
  obtain ⟨a, ha⟩ : ∃ a, c[seg c x]? = some a := ⟨_, List.getElem?_eq_getElem hl⟩
  have sa := hs a (List.mem_of_getElem? ha)
  by_cases hz : seg c x + 1 = c.length
  · rw [slp_last hz]
    exact sz_zero (by omega)
  · obtain ⟨b, hb⟩ : ∃ b, c[seg c x + 1]? = some b := ⟨_, List.getElem?_eq_getElem (by omega)⟩
    have sb := hs b (List.mem_of_getElem? hb)
    rw [slp_mid ha hb]
    have := (hi.get ha hb).1
    exact (sz_div (sz_sub sb.2 sa.2) (sz_sub sb.1 sa.1) (by grind)).mono (by omega)
/-! the least water for a salt -/
def cnt (c : List Pt) (y : Rat) : Nat := (c.filter fun b => decide (b.2 < y)).length
def rch (c : List Pt) (y : Rat) : Rat := if cnt c y = 0 then 0 else match c[cnt c y - 1]?, c[cnt c y]? with
  | some a, some b => a.1 + (b.1 - a.1) * (y - a.2) / (b.2 - a.2)
  | _, _ => 0
theorem cnt_cons {a : Pt} {r : List Pt} {y : Rat} : cnt (a :: r) y = if a.2 < y then cnt r y + 1 else cnt r y := by
  unfold cnt
  by_cases h : a.2 < y
  · rw [if_pos h, List.filter_cons_of_pos (by simpa using h), List.length_cons]
  · rw [if_neg h, List.filter_cons_of_neg (by simpa using h)]
theorem cnt_zero : ∀ {r : List Pt} {a : Pt} {y : Rat}, Inc (a :: r) → y ≤ a.2 → cnt (a :: r) y = 0
  | [], a, y, _, h => by rw [cnt_cons, if_neg (Rat.not_lt.mpr h)]; rfl
  | b :: r, a, y, hi, h => by
    have := hi.1.2
    rw [cnt_cons, if_neg (Rat.not_lt.mpr h)]
    exact cnt_zero hi.2 (by grind)
/-- the first corner that is no lower -/
theorem cnt_at : ∀ {c : List Pt} {y : Rat}, Inc c → (∀ i a, c[i]? = some a → (i < cnt c y ↔ a.2 < y))
  | [], _, _, i, a, h => by simp at h
  | a :: r, y, hi, i, d, h => by
    by_cases ha : a.2 < y
    · rw [cnt_cons, if_pos ha]
      cases i with
      | zero =>
        simp at h
        subst h
        simp [ha]
      | succ i =>
        have := cnt_at (c := r) (y := y) hi.tail i d (by simpa using h)
        rw [← this]; omega
    · have hz := cnt_zero hi (Rat.not_lt.mp ha)
      rw [hz]
      have := (hi.ge d (List.mem_of_getElem? h)).2
      constructor
      · omega
      · intro z; exact absurd z (by grind)
/-! steps -/
def diffs : List Pt → List Pt
  | a :: b :: r => bsub b a :: diffs (b :: r)
  | _ => []
def steps (c : List Pt) : List Pt := (match c with
  | a :: _ => if a.2 = 0 then [] else [a]
  | [] => []) ++ diffs c
theorem diffs_range : ∀ (c : List Pt), (List.range (c.length - 1)).map (fun k => bsub (c.getD (k + 1) (0, 0)) (c.getD k (0, 0))) = diffs c
  | [] => rfl
  | [a] => rfl
  | a :: b :: r => by
    have ih := diffs_range (b :: r)
    rw [diffs, ← ih]
    show (List.range (r.length + 1)).map _ = _
    rw [List.range_succ_eq_map, List.map_cons, List.map_map]
    rfl
theorem diffs_len : ∀ (c : List Pt), (diffs c).length = c.length - 1
  | [] => rfl
  | [a] => rfl
  | a :: b :: r => by rw [diffs, List.length_cons, diffs_len (b :: r)]; simp
theorem diffs_sz {k : Nat} : ∀ {c : List Pt}, CSz k c → CSz (2 * k + 1) (diffs c)
  | [], _, b, hb => by cases hb
  | [a], _, b, hb => by cases hb
  | a :: d :: r, h, b, hb => by
    rw [diffs] at hb
    rcases List.mem_cons.mp hb with z | z
    · rw [z]
      exact sz_bsub (h a (by simp)) (h d (by simp))
    · exact diffs_sz (c := d :: r) (fun x hx => h x (List.mem_cons_of_mem _ hx)) b z
theorem steps_sz {k : Nat} {c : List Pt} (h : CSz k c) : CSz (2 * k + 1) (steps c) := by
  intro b hb
  unfold steps at hb
  rcases List.mem_append.mp hb with z | z
  · cases c with
    | nil => cases z
    | cons a r =>
      simp only at z
      split at z
      · cases z
      · rw [List.mem_singleton.mp z]
        exact (h a (List.mem_cons_self ..)).mono (by omega)
  · exact diffs_sz h b z
theorem steps_len (c : List Pt) : (steps c).length ≤ c.length := by
  unfold steps
  rw [List.length_append, diffs_len]
  cases c with
  | nil => simp
  | cons a r =>
    simp only
    split
    · simp
    · simp; omega
/-! dried -/
def shf (c : List Pt) (w : Rat) : List Pt := (0, hgt c w) :: (c.filter fun b => decide (w < b.1)).map fun b => (b.1 - w, b.2)
/-! side by side -/
def fstU (one other : List Pt) : Option Rat := (other.find? fun b => decide (hgt one b.1 < b.2)).map (·.1)
/-! where they cross -/
def dif (one other : List Pt) (x : Rat) : Rat := hgt one x - hgt other x
def crs (one other : List Pt) (n f : Rat) : Option Rat := if dif one other n * dif one other f < 0 then some (n + dif one other n / (dif one other n - dif one other f) * (f - n)) else none
def waters (one other : List Pt) : List Rat := rsort ((one ++ other).map (·.1))
def crossAll (one other : List Pt) : List Rat → List Rat
  | n :: f :: r => (match crs one other n f with
    | some x => [x]
    | none => []) ++ crossAll one other (f :: r)
  | _ => []
def crossings (one other : List Pt) : List Rat := rsort (waters one other ++ crossAll one other (waters one other))
def lowPts (one other : List Pt) : List Pt := (crossings one other).map fun w => (w, min (hgt one w) (hgt other w))
def uppPts (one other : List Pt) : List Pt := (waters one other).map fun w => (w, max (hgt one w) (hgt other w))
def exc (c : List Pt) (k : Rat) : Rat := c.foldl (fun f b => max f (b.2 - k * b.1)) 0
end B
/-! text KR -/
set_option Elab.async false
set_option linter.all false
set_option maxRecDepth 100000
set_option autoImplicit false
namespace B
open PySem PySem.Spec PyProof.Rows L2
local macro_rules | `(tactic| walk_at "o+") => `(tactic| first | exact o_orL o_I0 | (exact o_orR (o_orL (o_cat (by assumption)))) | (exact o_orR (o_orR (o_catA (by assumption)))))
local macro_rules | `(tactic| walk_at "o*") => `(tactic| exact o_orL (o_mul (by walk_at "mul")))
local macro_rules | `(tactic| walk_at "mul") => `(tactic| first | assumption | exact mul_nd (by assumption) (by assumption) | exact mul_dd (by assumption) (by assumption) | exact mul_nn (by assumption) (by assumption) | exact mul_dn (by assumption) (by assumption))
local macro_rules | `(tactic| walk_at "nz") => `(tactic| assumption)
local macro_rules | `(tactic| walk_at "nzd") => `(tactic| exact den2_ne _ _)
local macro_rules | `(tactic| walk_at "ix") => `(tactic| first | exact o_ixT' rfl | exact o_ixL' rfl | exact o_ixT' (by assumption) | exact o_ixL' (by assumption))
local macro_rules | `(tactic| walk_at "o=") => `(tactic| first | exact o_orL o_eqI | exact o_orL o_neI | exact o_orL o_eqB | exact o_orL o_neB | exact o_orR (o_eqD (by assumption) (by assumption)) | exact o_orR (o_neD (by assumption) (by assumption)) | exact o_orR (o_eqD rfl rfl) | exact o_orR (o_neD rfl rfl))
local macro_rules | `(tactic| walk_at "b_gcd") => `(tactic| exact n_gcd)
local macro_rules | `(tactic| walk_at "b_len") => `(tactic| first | exact n_lenT | exact n_lenL)
local macro_rules | `(tactic| walk_at "b_tuple") => `(tactic| first | exact n_tupleL | exact n_tupleT)
local macro_rules | `(tactic| walk_at "b_isinstance") => `(tactic| exact n_isi rfl rfl)
local macro_rules | `(tactic| walk_at "b_all") => `(tactic| exact n_all)
local macro_rules | `(tactic| walk_at "b_lcm") => `(tactic| exact n_lcm (by assumption))
local macro_rules | `(tactic| walk_at "b_sorted") => `(tactic| exact n_sortedP)
local macro_rules | `(tactic| walk_at "sp") => `(tactic| (constructor <;> first | assumption | rfl | walk_at "nzd"))
section
variable {P : Program} {w : World} {K : PySem.W.Frag} {mg : Str → Option Value} {base : Heap} {vN vS : V}
theorem plains_map {α : Type} {n : Nat} {f : α → Dt} (h : ∀ x, plain n (f x) = true) : ∀ xs : List α, plains n (xs.map f) = true
  | [] => by rw [List.map_nil, plains]
  | x :: xs => by rw [List.map_cons, plains, h, plains_map h xs]; rfl
theorem plain_enc {n : Nat} {q : Rat} : plain (n + 1) (enc q) = true := by unfold enc; rw [plain, plains, plains, plains, plain, plain]; rfl
theorem plain_encB {n : Nat} {b : Pt} : plain (n + 2) (encB b) = true := by unfold encB; rw [plain, plains, plains, plains, plain_enc, plain_enc]; rfl
theorem plain_lstB {c : List Pt} : plain 60 (.lst (c.map encB)) = true := by rw [plain]; exact plains_map (fun x => plain_encB) c
theorem plain_encC {n : Nat} {c : List Pt} : plain (n + 3) (encC c) = true := by unfold encC; rw [plain]; exact plains_map (fun x => plain_encB) c
theorem nol_enc {q : Rat} : nol (enc q) = true := by simp [enc, nol, nols]
theorem nol_encB {b : Pt} : nol (encB b) = true := by simp [encB, nol, nols, nol_enc]
theorem nols_map {α : Type} {f : α → Dt} (h : ∀ x, nol (f x) = true) : ∀ xs : List α, nols (xs.map f) = true
  | [] => by rw [List.map_nil, nols]
  | x :: xs => by rw [List.map_cons, nols, h, nols_map h xs]; rfl
theorem nol_encC {c : List Pt} : nol (encC c) = true := by unfold encC; rw [nol]; exact nols_map (fun x => nol_encB) c
theorem ne_nil0 : (!deq (.lst []) (.lst [])) = false := by rw [deq_lst, deqs_nil]; rfl
theorem ne_nil1 {x : Dt} {xs : List Dt} : (!deq (.lst (x :: xs)) (.lst [])) = true := by rw [deq_lst, deqs_cn]; rfl
theorem ne_nilR {t : Pt} {r : List Pt} : (!deq (.lst ((t :: r).reverse.map encB)) (.lst [])) = true := by
  cases h : (t :: r).reverse.map encB with
  | nil => simp at h
  | cons x xs => exact ne_nil1
inductive S_smoothed : List Dt → R → Prop
  | mk {ps : List Pt} {k : Nat} (hs : CSz k ps) (hk : 4 * k + 2 ≤ 40000000) (hl : ps.length < 1000000) : S_smoothed [.lst (ps.map encB)] (.val (encC (smooth ps)))
theorem eq_set1 {a b c : Option Slot} {x : Option Slot} : [a, b, c].set 1 x = [a, x, c] := rfl
theorem x_whileE {C : Cc} {c : TT} {tb : TS} {ρ : En} {o : Out} (h : ∃ n, WhX C c tb n ρ o) : Ex C (tWhile c tb) ρ o := by
  obtain ⟨n, w⟩ := h
  exact x_while w
theorem wh_popW {C : Cc} {c : TT} {tb : TS} {env : List Pt → En} {p : Pt} {k : Nat} (h0 : EvT C true c (env []) false (env [])) (h1 : ∀ t r, CSz k (t :: r) → EvT C true c (env (t :: r)) (hid (t :: r) p) (env (t :: r))) (hb : ∀ t r, Ex C tb (env (t :: r)) (.nx (env r))) :
    ∀ st : List Pt, CSz k st → ∃ n, WhX C c tb n (env st) (.nx (env (popW p st)))
  | [], _ => ⟨0, .stop h0⟩
  | t :: r, h => by
    have hc := h1 t r h
    rw [popW]
    by_cases hh : hid (t :: r) p = true
    · rw [hh] at hc
      obtain ⟨n, w⟩ := wh_popW h0 h1 hb r fun b hb => h b (List.mem_cons_of_mem _ hb)
      rw [if_pos hh]
      exact ⟨n + 1, .next hc (hb t r) w⟩
    · rw [if_neg hh]
      rw [Bool.not_eq_true] at hh
      rw [hh] at hc
      exact ⟨0, .stop hc⟩
theorem t_and2 {C : Cc} {p : Bool} {ρ : En} {t u : TT} {b c d : Bool} (h : EvT C p t ρ b ρ) (h1 : b = true → EvT C p u ρ c ρ) (e : (b && c) = d) : EvT C p (tAnd t u) ρ d ρ := e ▸ t_and' h h1
theorem c_smoothed (T : Txt P w K mg base vN vS) : Cl P w K mg base CX0 39 "smoothed" (spP K S_smoothed) := by
  refine clP T.d_smoothed b_smoothed sc_smoothed (fun ds r h => by cases h; rfl) fun f cdv A outer s H E hr => ?_
  refine ⟨_, (pss_cons (ps_set (i := 1) sc_smoothed.nd rfl (Or.inl rfl) (pe_lst pa_nil)) (pss_cons (ps_for PassesOwn.leaving rfl (pi_anyK K rfl (pv 0)) (pg_name (i := 2) sc_smoothed.nd rfl (Or.inl rfl)) (pss_cons (ps_if (PW.pt (pw_and (pt_cmpR (op_neK K rfl (hu_of hr)) (pv 1) (pe_lst pa_nil) (nomark _)) (pw_and1 (pt_cmpR op_le (pe_cl (c_side T) hr (by decide) (by rfl) pass0 (pa_cons (pe_ix (ix_sK K rfl) (pv 2) pe_int (fun _ _ => rfl)) (pa_cons (pe_ix (ix_sK K rfl) (pe_ix (ix_sK K rfl) (pv 1) (pe_un un_neg pe_int) (fun _ _ => rfl)) pe_int (fun _ _ => rfl)) pa_nil))) pe_int (nomark _))))) (pss_one ps_continue) pss_nil) (pss_cons (ps_while PassesOwn.leaving (PW.pt (pw_and (pt_cmpR (op_neK K rfl (hu_of hr)) (pv 1) (pe_lst pa_nil) (nomark _)) (pw_and1 (pt_val (pe_cl (c_hides T) hr (by decide) (by rfl) pass0 (pa_cons (pv 1) (pa_cons (pv 2) pa_nil))))))) (pss_one (ps_expr (pe_bm0 PySem.F.plainAttrs_list PySem.F.slot_list_pop PySem.F.type_list_pop mt_pop (pv 1))))) (pss_one (ps_expr (pe_bm PySem.F.plainAttrs_list PySem.F.slot_list_append PySem.F.type_list_append mt_append (pv 1) (pa_cons (pv 2) pa_nil))))))) (pss_one (ps_ret (pe_callTy call_tuple_of (by rfl) T.z_tuple (by decide +kernel) (pa_cons (pv 1) pa_nil)))))), fun Fz ds r h => ?_⟩
  cases h with
  | mk hs hk hl =>
    rename_i ps k
    refine fin_rt ?_
    refine xs_cons (x_setON (p := true) (e_lst a_nil) (ltb rfl) (Nat.zero_le _) rfl) ?_
    refine xs_cons (y_for (i_anyL (e_var rfl)) (forx_inv (f := encB) (env := fun (st : List Pt) => [some (.val (.lst (ps.map encB))), some (.own (st.reverse.map encB)), none]) (g := sstep) (J := fun xs st => CSz k st ∧ CSz k xs ∧ st.length + xs.length < 1000000) ?_ (b := []) ⟨fun b hb => (nomatch hb), hs, by simpa using hl⟩)) ?_
    · rintro p xs st ⟨hst, hxs, hlen⟩
      have hp := hxs p (List.mem_cons_self ..)
      rw [List.length_cons] at hlen
      have hp2 : Sm p.2 := hp.2.sm (by omega)
      have hnew : CSz k (sstep st p) := fun b hb => by
        rcases sstep_sub b hb with z | z
        · rw [z]; exact hp
        · exact hst b z
      refine ⟨?_, hnew, fun b hb => hxs b (List.mem_cons_of_mem _ hb), by have := sstep_len (p := p) (st := st); omega⟩
      cases st with
      | nil =>
        refine .inl (turn (g_name (ltb rfl)) ?_)
        refine xs_cons (y_ifF (t_and2 (b := false) (c := false) (t_cast (t_borrow (i := 1) rfl (e_op (e_var rfl) (e_frz (e_lst a_nil)) (o_orR (o_neD rfl rfl)))) ne_nil0) (fun z => nomatch z) rfl) x_next) ?_
        refine xs_cons (x_whileE (wh_popW (p := p) (k := k) (env := fun (st : List Pt) => [some (.val (.lst (ps.map encB))), some (.own (st.reverse.map encB)), some (.val (encB p))]) ?_ ?_ ?_ [] hst)) ?_
        · exact t_and2 (b := false) (c := false) (t_cast (t_borrow (i := 1) rfl (e_op (e_var rfl) (e_frz (e_lst a_nil)) (o_orR (o_neD rfl rfl)))) ne_nil0) (fun z => nomatch z) rfl
        · exact fun t r h2 => t_and2 (b := true) (c := hid (t :: r) p) (t_cast (t_borrow (i := 1) rfl (e_op (e_var rfl) (e_frz (e_lst a_nil)) (o_orR (o_neD plain_lstB rfl)))) ne_nilR) (fun _ => t_borrowB (i := 1) rfl (e_call (a_cons (e_var rfl) (a_cons (e_var rfl) a_nil)) (S_hides.mk h2 hp hk))) rfl
        · exact fun t r => x_cast (x_pop rfl (by simp)) (by rw [rev_map1, List.dropLast_concat]; rfl)
        · exact x_forget (i := 2) (x_append (p := true) (e_var rfl) ⟨_, rfl⟩ rfl (by rw [popW]; decide)) rfl
      | cons t r =>
        have ht := hst t (List.mem_cons_self ..)
        have ht2 : Sm t.2 := ht.2.sm (by omega)
        have i1 : atI ((t :: r).reverse.map encB) (-1) = some (encB t) := by rw [rev_map1]; exact atI_last1
        by_cases hle : p.2 ≤ t.2
        · refine .inr (turn (g_name (ltb rfl)) ?_)
          have e : sstep (t :: r) p = t :: r := by unfold sstep; simp only [hle, if_true]
          rw [e]
          refine xs_stop (y_ifT (t_and2 (b := true) (c := true) (t_cast (t_borrow (i := 1) rfl (e_op (e_var rfl) (e_frz (e_lst a_nil)) (o_orR (o_neD plain_lstB rfl)))) ne_nilR) (fun _ => t_cast (t_borrow (i := 1) rfl (e_op (e_call (a_cons (e_op (e_var rfl) (e_int) (by walk_at "ix")) (a_cons (e_op (e_op (e_var rfl) (e_un (e_int) o_U) (by walk_at "ix")) (e_int) (by walk_at "ix")) a_nil)) (by walk_at "sp")) (e_int) o_C0)) (by rw [sideI_le, decide_eq_true hle])) rfl) (x_forgetC (i := 2) x_cont rfl)) rfl
        · have e : sstep (t :: r) p = p :: popW p (t :: r) := by unfold sstep; simp only [hle, if_false]
          rw [e]
          refine .inl (turn (g_name (ltb rfl)) ?_)
          refine xs_cons (y_ifF (t_and2 (b := true) (c := false) (t_cast (t_borrow (i := 1) rfl (e_op (e_var rfl) (e_frz (e_lst a_nil)) (o_orR (o_neD plain_lstB rfl)))) ne_nilR) (fun _ => t_cast (t_borrow (i := 1) rfl (e_op (e_call (a_cons (e_op (e_var rfl) (e_int) (by walk_at "ix")) (a_cons (e_op (e_op (e_var rfl) (e_un (e_int) o_U) (by walk_at "ix")) (e_int) (by walk_at "ix")) a_nil)) (by walk_at "sp")) (e_int) o_C0)) (by rw [sideI_le, decide_eq_false hle])) rfl) x_next) ?_
          refine xs_cons (x_whileE (wh_popW (p := p) (k := k) (env := fun (st : List Pt) => [some (.val (.lst (ps.map encB))), some (.own (st.reverse.map encB)), some (.val (encB p))]) ?_ ?_ ?_ (t :: r) hst)) ?_
          · exact t_and2 (b := false) (c := false) (t_cast (t_borrow (i := 1) rfl (e_op (e_var rfl) (e_frz (e_lst a_nil)) (o_orR (o_neD rfl rfl)))) ne_nil0) (fun z => nomatch z) rfl
          · exact fun t r h2 => t_and2 (b := true) (c := hid (t :: r) p) (t_cast (t_borrow (i := 1) rfl (e_op (e_var rfl) (e_frz (e_lst a_nil)) (o_orR (o_neD plain_lstB rfl)))) ne_nilR) (fun _ => t_borrowB (i := 1) rfl (e_call (a_cons (e_var rfl) (a_cons (e_var rfl) a_nil)) (S_hides.mk h2 hp hk))) rfl
          · exact fun t r => x_cast (x_pop rfl (by simp)) (by rw [rev_map1, List.dropLast_concat]; rfl)
          · refine x_forget (i := 2) (x_append (p := true) (e_var rfl) ⟨_, rfl⟩ rfl ?_) ?_
            · rw [List.length_map, List.length_reverse]
              have := popW_len (p := p) (st := t :: r)
              exact lt_sz (by omega)
            · rw [rev_map1]; rfl
    · exact y_ret (e_borrow (i := 1) rfl (e_cb (a_cons (e_var rfl) a_nil) n_tupleL) nol_encC)
end
end B
/-! text KS -/
set_option Elab.async false
set_option linter.all false
set_option maxRecDepth 100000
set_option autoImplicit false
namespace B
open PySem PySem.Spec PyProof.Rows L2
local macro_rules | `(tactic| walk_at "o+") => `(tactic| first | exact o_orL o_I0 | (exact o_orR (o_orL (o_cat (by assumption)))) | (exact o_orR (o_orR (o_catA (by assumption)))))
local macro_rules | `(tactic| walk_at "o*") => `(tactic| exact o_orL (o_mul (by walk_at "mul")))
local macro_rules | `(tactic| walk_at "mul") => `(tactic| first | assumption | exact mul_nd (by assumption) (by assumption) | exact mul_dd (by assumption) (by assumption) | exact mul_nn (by assumption) (by assumption) | exact mul_dn (by assumption) (by assumption))
local macro_rules | `(tactic| walk_at "nz") => `(tactic| assumption)
local macro_rules | `(tactic| walk_at "nzd") => `(tactic| exact den2_ne _ _)
local macro_rules | `(tactic| walk_at "ix") => `(tactic| first | exact o_ixT' rfl | exact o_ixL' rfl | exact o_ixT' (by assumption) | exact o_ixL' (by assumption))
local macro_rules | `(tactic| walk_at "o=") => `(tactic| first | exact o_orL o_eqI | exact o_orL o_neI | exact o_orL o_eqB | exact o_orL o_neB | exact o_orR (o_eqD (by assumption) (by assumption)) | exact o_orR (o_neD (by assumption) (by assumption)) | exact o_orR (o_eqD rfl rfl) | exact o_orR (o_neD rfl rfl))
local macro_rules | `(tactic| walk_at "b_gcd") => `(tactic| exact n_gcd)
local macro_rules | `(tactic| walk_at "b_len") => `(tactic| first | exact n_lenT | exact n_lenL)
local macro_rules | `(tactic| walk_at "b_tuple") => `(tactic| first | exact n_tupleL | exact n_tupleT)
local macro_rules | `(tactic| walk_at "b_isinstance") => `(tactic| exact n_isi rfl rfl)
local macro_rules | `(tactic| walk_at "b_all") => `(tactic| exact n_all)
local macro_rules | `(tactic| walk_at "b_lcm") => `(tactic| exact n_lcm (by assumption))
local macro_rules | `(tactic| walk_at "b_sorted") => `(tactic| exact n_sortedP)
local macro_rules | `(tactic| walk_at "sp") => `(tactic| (constructor <;> first | assumption | rfl | walk_at "nzd"))
section
variable {P : Program} {w : World} {K : PySem.W.Frag} {mg : Str → Option Value} {base : Heap} {vN vS : V}
theorem atI_nat {c : List Pt} {i : Nat} {a : Pt} (h : c[i]? = some a) : atI (c.map encB) (i : Int) = some (encB a) := by
  unfold atI ixN
  obtain ⟨hi, e⟩ := List.getElem?_eq_some_iff.mp h
  rw [if_pos (by omega), if_pos (by rw [List.length_map]; omega)]
  show (c.map encB)[((i : Int)).toNat]? = _
  rw [Int.toNat_natCast, List.getElem?_map, h]
  rfl
theorem atI_natP {c : List Pt} {i j : Nat} {a : Pt} (h : c[i + j]? = some a) : atI (c.map encB) ((i : Int) + (j : Nat)) = some (encB a) := by
  rw [← Int.natCast_add]
  exact atI_nat h
theorem forx_unit {step : Dt → En → Out → Prop} {α : Type} {f : α → Dt} {ρ : En} {xs : List α} (h : ∀ x, x ∈ xs → step (f x) ρ (.nx ρ) ∨ step (f x) ρ (.ct ρ)) : ForX step (xs.map f) ρ (.nx ρ) := by
  have := forx_fold (step := step) (f := f) (env := fun (_ : Unit) => ρ) (g := fun b _ => b) (xs := xs) (b := ()) fun b x hx => h x hx
  exact this
inductive S_is_curve : List Dt → R → Prop
  | mk {c : List Pt} {k : Nat} (hc : Cv c) (hs : CSz k c) (hk : 4 * k + 2 ≤ 40000000) (hl : c.length < 1000000) : S_is_curve [encC c] (.val (.bl true))
theorem eq_nilT {x : Dt} {xs : List Dt} : deq (.tup (x :: xs)) (.tup []) = false := by rw [deq_tup, deqs_cn]
theorem i_rngN {C : Cc} {p : Bool} {t : TA} {ρ ρ1 : En} {j : Int} {n : Nat} (h : EvA C p t ρ [.int j] ρ1) (e : j.toNat = n) (h0 : -(2 ^ 62) ≤ j) (h1 : j < 2 ^ 62) : EvI C p (iRng1 t) ρ ((List.range n).map fun k => Dt.int (k : Nat)) ρ1 := by
  have := i_rng1 h h0 h1
  rw [e] at this
  exact this
theorem c_is_curve (T : Txt P w K mg base vN vS) : Cl P w K mg base CX0 39 "is_curve" (spP K S_is_curve) := by
  refine clP T.d_is_curve b_is_curve sc_is_curve (fun ds r h => by cases h; rfl) fun f cdv A outer s H E hr => ?_
  refine ⟨_, (pss_cons (ps_if (PW.pt (pw_or (pt_not (pt_val (pe_callB call_isi (by rfl) T.z_isinstance (by decide +kernel) (pa_cons (pv 0) (pa_cons (pe_bltn (v := .ty "tuple") (by rfl) (T.z_tuple) (by decide +kernel) rfl) pa_nil))))) (pw_or (pt_cmpR (op_eqK K rfl (hu_of hr)) (pv 0) (pe_tup pa_nil) (nomark _)) (pw_or1 (pt_not (pt_val (pe_callB (cr_all rfl) (by rfl) T.z_all (by decide +kernel) (pa_cons (pe_lc (own := [("own", 2)]) rfl sc_is_curve.nd (pi_anyK K rfl (pv 0)) (blkOk_by (N := n_is_curve) (sc := defScope s_is_curve) (by decide +kernel)) (by exact fun _ _ _ _ _ => (pg_name (i := 2) sc_is_curve.nd rfl (Or.inl rfl))) (by exact fun _ _ _ _ _ => pts_nil) (by exact fun _ _ _ _ _ => (pe_cl (c_is_brine T) hr (by decide) (by rfl) pass0 (pa_cons (pv 2) pa_nil)))) pa_nil)))))))) (pss_one (ps_ret pe_bl)) pss_nil) (pss_cons (ps_if (pt_cmpR (op_neK K rfl (hu_of hr)) (pe_ix (ix_sK K rfl) (pe_ix (ix_sK K rfl) (pv 0) pe_int (fun _ _ => rfl)) pe_int (fun _ _ => rfl)) (pe_globK (T.k_NOTHING) (by rfl)) (nomark _)) (pss_one (ps_ret pe_bl)) pss_nil) (pss_cons (ps_for PassesOwn.leaving rfl (pi_range1 (by rfl) T.z_range (pa_cons (pe_op op_sub (pe_callB call_len_seq (by rfl) T.z_len (by decide +kernel) (pa_cons (pv 0) pa_nil)) pe_int) pa_nil)) (pg_name (i := 1) sc_is_curve.nd rfl (Or.inl rfl)) (pss_one (ps_if (PW.pt (pw_or (pt_cmpR op_ge (pe_cl (c_side T) hr (by decide) (by rfl) pass0 (pa_cons (pe_ix (ix_sK K rfl) (pe_ix (ix_sK K rfl) (pv 0) (pv 1) (fun _ _ => rfl)) pe_int (fun _ _ => rfl)) (pa_cons (pe_ix (ix_sK K rfl) (pe_ix (ix_sK K rfl) (pv 0) (pe_op (op_addK K rfl) (pv 1) pe_int) (fun _ _ => rfl)) pe_int (fun _ _ => rfl)) pa_nil))) pe_int (nomark _)) (pw_or1 (pt_cmpR op_ge (pe_cl (c_side T) hr (by decide) (by rfl) pass0 (pa_cons (pe_ix (ix_sK K rfl) (pe_ix (ix_sK K rfl) (pv 0) (pv 1) (fun _ _ => rfl)) pe_int (fun _ _ => rfl)) (pa_cons (pe_ix (ix_sK K rfl) (pe_ix (ix_sK K rfl) (pv 0) (pe_op (op_addK K rfl) (pv 1) pe_int) (fun _ _ => rfl)) pe_int (fun _ _ => rfl)) pa_nil))) pe_int (nomark _))))) (pss_one (ps_ret pe_bl)) pss_nil))) (pss_one (ps_ret (pe_callB (cr_all rfl) (by rfl) T.z_all (by decide +kernel) (pa_cons (pe_lc (own := [("k", 3)]) rfl sc_is_curve.nd (pi_range1 (by rfl) T.z_range (pa_cons (pe_op op_sub (pe_callB call_len_seq (by rfl) T.z_len (by decide +kernel) (pa_cons (pv 0) pa_nil)) pe_int) pa_nil)) (blkOk_by (N := n_is_curve) (sc := defScope s_is_curve) (by decide +kernel)) (by exact fun _ _ _ _ _ => (pg_name (i := 3) sc_is_curve.nd rfl (Or.inl rfl))) (by exact fun _ _ _ _ _ => pts_nil) (by exact fun _ _ _ _ _ => (pe_cl (c_turns_down T) hr (by decide) (by rfl) pass0 (pa_cons (pe_ix (ix_sK K rfl) (pv 0) (pv 3) (fun _ _ => rfl)) (pa_cons (pe_ix (ix_sK K rfl) (pv 0) (pe_op (op_addK K rfl) (pv 3) pe_int) (fun _ _ => rfl)) (pa_cons (pe_ix (ix_sK K rfl) (pv 0) (pe_op (op_addK K rfl) (pv 3) pe_int) (fun _ _ => rfl)) pa_nil)))))) pa_nil))))))), fun Fz ds r h => ?_⟩
  cases h with
  | mk hc hs hk hl =>
    rename_i c k
    obtain ⟨s0, r0, e0, hs0⟩ := hc.hd
    have hnn := hc.nn
    have hlen : 0 < c.length := by rw [e0]; simp
    refine fin_rt ?_
    have hfirst : atI (c.map encB) 0 = some (encB (0, s0)) := atI_nat (i := 0) (by rw [e0]; rfl)
    refine xs_cons (y_ifF (t_cast (t_or' (b := !true) (c := false) (t_not (t_b (e_cb (a_cons (e_var rfl) (a_cons (e_ty) a_nil)) (by walk_at "b_isinstance")))) (fun _ => t_cast (t_or' (b := false) (c := false) (t_cast (t_test (e_op (e_var rfl) (e_tup a_nil) (o_orR (o_eqD plain_encC rfl)))) (by rw [e0]; exact eq_nilT)) (fun _ => t_cast (t_not (t_b (e_cb (a_cons (e_frz (e_lc1 (f := encB) (h := fun _ => .bl true) (xs := c) (i_anyT (e_var (i := 0) rfl)) (fun x hx => e_call (a_cons (e_var rfl) a_nil) (S_is_brine.mk (hnn x hx))) (lt_sz hl))) a_nil) n_all1))) rfl)) rfl)) rfl) x_next) ?_
    refine xs_cons (y_ifF (t_cast (t_test (e_op (e_op (e_op (e_var rfl) e_int (o_ixT' hfirst)) e_int (by walk_at "ix")) (e_cK T.r_NOTHING) (o_orR (o_neD plain_enc plain_enc)))) (by rw [deq_enc, decide_eq_true rfl]; rfl)) x_next) ?_
    refine xs_cons (y_for (i_rngN (n := c.length - 1) (a_cons (e_op (e_cb (a_cons (e_var rfl) a_nil) n_lenT) e_int o_I0) a_nil) (by rw [List.length_map]; omega) (by rw [List.length_map]; omega) (by rw [List.length_map]; omega)) (forx_unit (f := fun k : Nat => Dt.int (k : Int)) (ρ := startE n_is_curve.length [encC c]) fun i hi => ?_)) ?_
    · have hi' := List.mem_range.mp hi
      obtain ⟨a, ha⟩ : ∃ a, c[i]? = some a := ⟨_, List.getElem?_eq_getElem (by omega)⟩
      obtain ⟨b, hb⟩ : ∃ b, c[i + 1]? = some b := ⟨_, List.getElem?_eq_getElem (by omega)⟩
      have ma := List.mem_of_getElem? ha
      have mb := List.mem_of_getElem? hb
      obtain ⟨l1, l2⟩ := hc.inc.get ha hb
      have i1 := atI_nat ha
      have i2 : atI (c.map encB) ((i : Int) + 1) = some (encB b) := atI_natP (j := 1) hb
      have s1 : Sm a.1 := (hs a ma).1.sm (by omega)
      have s2 : Sm a.2 := (hs a ma).2.sm (by omega)
      have s3 : Sm b.1 := (hs b mb).1.sm (by omega)
      have s4 : Sm b.2 := (hs b mb).2.sm (by omega)
      have c1 : decide (0 ≤ sideI a.1 b.1) = false := by rw [sideI_ge]; exact decide_eq_false (Rat.not_le.mpr l1)
      have c2 : decide (0 ≤ sideI a.2 b.2) = false := by rw [sideI_ge]; exact decide_eq_false (Rat.not_le.mpr l2)
      refine .inl (turn (g_name (ltb rfl)) (x_forget (i := 1) (y_ifF (t_cast (t_or' (b := false) (c := false) (t_cast (t_test (e_op (e_call (a_cons (e_op (e_op (e_var rfl) (e_var rfl) (o_ixT' i1)) e_int (by walk_at "ix")) (a_cons (e_op (e_op (e_var rfl) (e_op (e_var rfl) e_int (by walk_at "o+")) (o_ixT' i2)) e_int (by walk_at "ix")) a_nil)) (S_side.mk s1 s3)) e_int o_C0)) c1) (fun _ => t_cast (t_test (e_op (e_call (a_cons (e_op (e_op (e_var rfl) (e_var rfl) (o_ixT' i1)) e_int (by walk_at "ix")) (a_cons (e_op (e_op (e_var rfl) (e_op (e_var rfl) e_int (by walk_at "o+")) (o_ixT' i2)) e_int (by walk_at "ix")) a_nil)) (S_side.mk s2 s4)) e_int o_C0)) c2)) rfl) x_next) rfl))
    · refine y_ret (e_cb (a_cons (e_frz (e_lc1 (f := fun k : Nat => Dt.int (k : Int)) (h := fun _ => .bl true) (xs := List.range (c.length - 2)) (i_rngN (n := c.length - 2) (a_cons (e_op (e_cb (a_cons (e_var rfl) a_nil) n_lenT) e_int o_I0) a_nil) (by rw [List.length_map]; omega) (by rw [List.length_map]; omega) (by rw [List.length_map]; omega)) (fun i hi => ?_) (lt_sz (by rw [List.length_range]; omega)))) a_nil) n_all1)
      have hi' := List.mem_range.mp hi
      obtain ⟨a, ha⟩ : ∃ a, c[i]? = some a := ⟨_, List.getElem?_eq_getElem (by omega)⟩
      obtain ⟨b, hb⟩ : ∃ b, c[i + 1]? = some b := ⟨_, List.getElem?_eq_getElem (by omega)⟩
      obtain ⟨d, hd⟩ : ∃ d, c[i + 2]? = some d := ⟨_, List.getElem?_eq_getElem (by omega)⟩
      have ht := hc.con.get ha hb hd
      have i1 := atI_nat ha
      have i2 : atI (c.map encB) ((i : Int) + 1) = some (encB b) := atI_natP (j := 1) hb
      have i3 : atI (c.map encB) ((i : Int) + 2) = some (encB d) := atI_natP (j := 2) hd
      refine e_cast (e_call (a_cons (e_op (e_var rfl) (e_var rfl) (o_ixT' i1)) (a_cons (e_op (e_var rfl) (e_op (e_var rfl) e_int (by walk_at "o+")) (o_ixT' i2)) (a_cons (e_op (e_var rfl) (e_op (e_var rfl) e_int (by walk_at "o+")) (o_ixT' i3)) a_nil))) (S_turns_down.mk (hs a (List.mem_of_getElem? ha)) (hs b (List.mem_of_getElem? hb)) (hs d (List.mem_of_getElem? hd)) hk)) (by rw [ht])
inductive S_sure_curve : List Dt → R → Prop
  | mk {c : List Pt} {k : Nat} (hc : Cv c) (hs : CSz k c) (hk : 4 * k + 2 ≤ 40000000) (hl : c.length < 1000000) : S_sure_curve [encC c] (.val (encC c))
theorem c_sure_curve (T : Txt P w K mg base vN vS) : Cl P w K mg base CX0 40 "sure_curve" (spP K S_sure_curve) := by
  refine clP T.d_sure_curve b_sure_curve sc_sure_curve (fun ds r h => by cases h; rfl) fun f cdv A outer s H E hr => ?_
  refine ⟨_, (pss_cons (ps_set (i := 1) sc_sure_curve.nd rfl (Or.inl rfl) (pe_cl (c_tupled T) hr (by decide) (by rfl) pass0 (pa_cons (pv 0) pa_nil))) (pss_cons (ps_if (pt_not (pt_val (pe_cl (c_is_curve T) hr (by decide) (by rfl) pass0 (pa_cons (pv 1) pa_nil)))) (pss_one ps_never) pss_nil) (pss_one (ps_ret (pv 1))))), fun Fz ds r h => ?_⟩
  cases h with
  | mk hc hs hk hl =>
    rename_i q k
    refine fin_rt ?_
    have ht : tdat 5 (encC q) = true := tdat_encC hl
    refine xs_cons (y_set (e_call (a_cons (e_var rfl) a_nil) (by walk_at "sp"))) ?_
    refine xs_cons (y_ifF (t_cast (t_not (t_b (e_call (a_cons (e_var rfl) a_nil) (by walk_at "sp")))) rfl) x_next) ?_
    exact y_ret (e_var rfl)
end
end B
/-! text KT -/
set_option Elab.async false
set_option linter.all false
set_option maxRecDepth 100000
set_option autoImplicit false
namespace B
open PySem PySem.Spec PyProof.Rows L2
local macro_rules | `(tactic| walk_at "o+") => `(tactic| first | exact o_orL o_I0 | (exact o_orR (o_orL (o_cat (by assumption)))) | (exact o_orR (o_orR (o_catA (by assumption)))))
local macro_rules | `(tactic| walk_at "o*") => `(tactic| exact o_orL (o_mul (by walk_at "mul")))
local macro_rules | `(tactic| walk_at "mul") => `(tactic| first | assumption | exact mul_nd (by assumption) (by assumption) | exact mul_dd (by assumption) (by assumption) | exact mul_nn (by assumption) (by assumption) | exact mul_dn (by assumption) (by assumption))
local macro_rules | `(tactic| walk_at "nz") => `(tactic| assumption)
local macro_rules | `(tactic| walk_at "nzd") => `(tactic| exact den2_ne _ _)
local macro_rules | `(tactic| walk_at "ix") => `(tactic| first | exact o_ixT' rfl | exact o_ixL' rfl | exact o_ixT' (by assumption) | exact o_ixL' (by assumption))
local macro_rules | `(tactic| walk_at "o=") => `(tactic| first | exact o_orL o_eqI | exact o_orL o_neI | exact o_orL o_eqB | exact o_orL o_neB | exact o_orR (o_eqD (by assumption) (by assumption)) | exact o_orR (o_neD (by assumption) (by assumption)) | exact o_orR (o_eqD rfl rfl) | exact o_orR (o_neD rfl rfl))
local macro_rules | `(tactic| walk_at "b_gcd") => `(tactic| exact n_gcd)
local macro_rules | `(tactic| walk_at "b_len") => `(tactic| first | exact n_lenT | exact n_lenL)
local macro_rules | `(tactic| walk_at "b_tuple") => `(tactic| first | exact n_tupleL | exact n_tupleT)
local macro_rules | `(tactic| walk_at "b_isinstance") => `(tactic| exact n_isi rfl rfl)
local macro_rules | `(tactic| walk_at "b_all") => `(tactic| exact n_all)
local macro_rules | `(tactic| walk_at "b_lcm") => `(tactic| exact n_lcm (by assumption))
local macro_rules | `(tactic| walk_at "b_sorted") => `(tactic| exact n_sortedP)
local macro_rules | `(tactic| walk_at "sp") => `(tactic| (constructor <;> first | assumption | rfl | walk_at "nzd"))
section
variable {P : Program} {w : World} {K : PySem.W.Frag} {mg : Str → Option Value} {base : Heap} {vN vS : V}
theorem n_eqS {b : Pt} : (!deq (enc b.2) (enc 0)) = !decide (b.2 = 0) := by rw [deq_enc]
/-- a datum or a new list, while a list of its own is lent -/
def nolR : R → Bool
  | .val d => nol d
  | .fr ds => nols ds
theorem e_borrowR {C : Cc} {p : Bool} {ρ : En} {i : Nat} {t : TE} {r : R} {ds : List Dt} (hi : ρ[i]? = some (some (.own ds))) (h : Ev C true t (ρ.set i (some (.val (.lst ds)))) r (ρ.set i (some (.val (.lst ds))))) (hn : nolR r = true) : Ev C p t ρ r ρ := fun σ H M e Q q => by
  obtain ⟨a, vs, ha, hm, hl, hr⟩ := e.ownAt hi
  have hi' : i < ρ.length := (List.getElem?_eq_some_iff.mp hi).1
  have key : ∀ (j : Nat) (fs : List Dt), (ρ.set i (some (.val (.lst ds))))[j]? = some (some (.own fs)) → j ≠ i ∧ ρ[j]? = some (some (.own fs)) := fun j fs w => by
    rw [getElem?_set_some hi'] at w
    by_cases z : j = i
    · rw [if_pos z] at w; cases w
    · rw [if_neg z] at w; exact ⟨z, w⟩
  have e1 : EnvOk C H (fun b => M b ∧ b ≠ a) σ (ρ.set i (some (.val (.lst ds)))) := by
    refine ⟨fun b z => e.mok b z.1, by rw [List.length_set]; exact e.len, fun j s w => ?_, fun j k s t b w1 w2 w3 w4 => ?_, fun j s b w1 w2 => ?_, e.fzd⟩
    · rw [getElem?_set_some hi'] at w
      by_cases z : j = i
      · rw [if_pos z] at w
        cases w
        rw [z]
        exact ⟨.ref a, ha, a, vs, rfl, fun y => y.2 rfl, hl, Reps.anti (fun _ y => y.1) hr⟩
      · rw [if_neg z] at w
        obtain ⟨v, h1, h2⟩ := e.get j s w
        refine ⟨v, h1, ?_⟩
        cases s with
        | val d => exact Rep.anti (fun _ y => y.1) h2
        | own fs =>
          obtain ⟨b, ws, g1, g2, g3, g4⟩ := h2
          subst g1
          exact ⟨b, ws, rfl, ⟨g2, fun y => z (by rw [y] at h1; exact e.dist j i fs ds a w hi h1 ha)⟩, g3, Reps.anti (fun _ y => y.1) g4⟩
    · obtain ⟨_, r1⟩ := key j s w1
      obtain ⟨_, r2⟩ := key k t w2
      exact e.dist j k s t b r1 r2 w3 w4
    · obtain ⟨_, r1⟩ := key j s w1
      exact e.fz j s b r1 w2
  refine h σ H _ e1 Q fun v H' M' po rr => ?_
  have ha' : H' a = some (.lst vs) := po.nxt.fix a _ hl fun y => y.2 rfl
  have n : Nxt NoO H M H' (fun b => M' b ∨ b = a) := ⟨fun b u z y => po.nxt.fix b u z fun w => y w.1, fun b z _ => by
      by_cases y : b = a
      · exact .inr y
      · exact .inl (po.nxt.keep b ⟨z, y⟩ (fun w => nomatch w.1)), fun b z => by
      rcases z with z | z
      · rcases po.nxt.fresh b z with y | y
        · exact .inl y.1
        · exact .inr y
      · rw [z]; exact .inl hm, fun b z _ => by
      by_cases y : b = a
      · rw [y, ha', hl]
      · exact po.nxt.oth b ⟨z, y⟩ (fun w => nomatch w.1), po.nxt.dom⟩
  have mok' : MOk H' (fun b => M' b ∨ b = a) := fun b z => by
    rcases z with z | z
    · exact po.env.mok b z
    · rw [z]; exact ⟨.l vs, ha'⟩
  refine q v H' _ (e.step n mok') ?_
  cases r with
  | val d => exact Rep.remark hn rr
  | fr es =>
    obtain ⟨b, us, b1, b2, b3, b4, b5⟩ := rr
    exact ⟨b, us, b1, b2, .inl b3, b4, Reps.remark hn b5⟩
theorem poured2 (t b : Pt) : poured [t, b] = padd t b := by
  unfold poured padd rsum
  simp [Rat.zero_add]
inductive S_curve_of : List Dt → R → Prop
  | mk {c : List Pt} {k : Nat} (hs : CSz k c) (hk : (c.length + 1) * (k + 1) ≤ 4000000) (hl0 : c.length < 100000) : S_curve_of [encC c] (.val (encC (curveOf c)))
theorem c_curve_of (T : Txt P w K mg base vN vS) : Cl P w K mg base CX0 40 "curve_of" (spP K S_curve_of) := by
  refine clP T.d_curve_of b_curve_of sc_curve_of (fun ds r h => by cases h; rfl) fun f cdv A outer s H E hr => ?_
  refine ⟨_, (pss_cons (ps_setLc (i := 1) (own := [("own", 4)]) rfl sc_curve_of.nd rfl rfl (sw_true rfl rfl rfl (by decide +kernel)) (pi_anyK K rfl (pv 0)) (blkOk_by (N := n_curve_of) (sc := defScope s_curve_of) (by decide +kernel)) (by exact fun _ _ _ _ _ => (pg_name (i := 4) sc_curve_of.nd rfl (Or.inl rfl))) (by exact fun _ _ _ _ _ => (pts_one (pt_cmpR (op_neK K rfl (hu_of hr)) (pe_ix (ix_sK K rfl) (pv 4) pe_int (fun _ _ => rfl)) (pe_globK (T.k_NOTHING) (by rfl)) (nomark _)))) (by exact fun _ _ _ _ _ => (pv 4))) (pss_cons (ps_set (i := 2) sc_curve_of.nd rfl (Or.inl rfl) (pe_lst (pa_cons (pe_ix (ix_sK K rfl) (pe_globK (T.k_START) (by rfl)) pe_int (fun _ _ => rfl)) pa_nil))) (pss_cons (ps_for PassesOwn.leaving rfl (pi_anyK K rfl (pe_cl (c_strongest_first T) hr (by decide) (by rfl) pass0 (pa_cons (pv 1) pa_nil))) (pg_name (i := 3) sc_curve_of.nd rfl (Or.inl rfl)) (pss_one (ps_expr (pe_bm PySem.F.plainAttrs_list PySem.F.slot_list_append PySem.F.type_list_append mt_append (pv 2) (pa_cons (pe_cl (c_poured_of T) hr (by decide) (by rfl) pass0 (pa_cons (pe_lst (pa_cons (pe_ix (ix_sK K rfl) (pv 2) (pe_un un_neg pe_int) (fun _ _ => rfl)) (pa_cons (pe_ix (ix_sK K rfl) (pv 1) (pv 3) (fun _ _ => rfl)) pa_nil))) pa_nil)) pa_nil))))) (pss_one (ps_ret (pe_cl (c_smoothed T) hr (by decide) (by rfl) pass0 (pa_cons (pv 2) pa_nil))))))), fun Fz ds r h => ?_⟩
  cases h with
  | mk hs hk hl0 =>
    rename_i c k
    rw [Nat.succ_mul] at hk
    have hcl : c.length * 1 ≤ c.length * (k + 1) := Nat.mul_le_mul_left _ (by omega)
    have hsl := salt_len (c := c)
    have hsk : (salt c).length * (k + 1) ≤ c.length * (k + 1) := Nat.mul_le_mul_right _ hsl
    have hlen : c.length < 4000001 := by omega
    have hss : CSz k (salt c) := fun b hb => hs b (salt_sub hb).1
    have hlz : c.length < sizeLine := Nat.lt_of_lt_of_le hlen (by decide)
    have hz2 : (salt c).length * (2 * k) ≤ 50000000 := by
      have : (salt c).length * (2 * k) ≤ (salt c).length * (2 * (k + 1)) := Nat.mul_le_mul_left _ (by omega)
      have e : (salt c).length * (2 * (k + 1)) = 2 * ((salt c).length * (k + 1)) := by rw [Nat.mul_left_comm]
      omega
    refine fin_rt ?_
    refine xs_cons (y_set (e_frz (e_lcf1 (f := encB) (h := encB) (c := fun b => !decide (b.2 = 0)) (xs := c) (i_anyT (e_var rfl)) (fun x hx => t_cast (t_test (e_op (e_op (e_var rfl) e_int (by walk_at "ix")) (e_cK T.r_NOTHING) (o_orR (o_neD plain_enc plain_enc)))) n_eqS) (fun x hx _ => e_var rfl) hlz))) ?_
    refine xs_cons (x_setON (p := true) (e_lst (a_cons (e_op (e_cK T.r_START) e_int (by walk_at "ix")) a_nil)) (ltb rfl) (Nat.zero_le _) rfl) ?_
    refine xs_cons (y_for (i_anyL (e_frz (e_call (a_cons (e_var rfl) a_nil) (S_strongest_first.mk (bs := salt c) (k := k) hss (fun b hb => (salt_sub hb).2) hz2 (by omega) (by omega))))) (forx_inv (f := Dt.int) (env := fun (st : List Pt) => [some (.val (encC c)), some (.val (.lst ((salt c).map encB))), some (.own (st.reverse.map encB)), none, none]) (g := cumI (salt c)) (J := fun xs st => (∃ t r j, st = t :: r ∧ BSz j t ∧ j + xs.length * (k + 1) ≤ 4000001) ∧ (∀ i ∈ xs, i ∈ ordr (salt c)) ∧ st.length + xs.length ≤ 4000001) ?_ (b := [(0, 0)]) ⟨⟨(0, 0), [], 1, rfl, bsz0 (by decide), by rw [ordr_len]; omega⟩, fun i hi => hi, by rw [ordr_len]; simp; omega⟩)) ?_
    · rintro i xs st ⟨⟨t, r, j, rfl, ht, hj⟩, hx, hn⟩
      rw [List.length_cons, Nat.succ_mul] at hj
      rw [List.length_cons, List.length_cons] at hn
      have hi := hx i (List.mem_cons_self ..)
      have hpm := pick_mem hi
      have hp := hss _ hpm
      have i1 : atI ((t :: r).reverse.map encB) (-1) = some (encB t) := by rw [rev_map1]; exact atI_last1
      obtain ⟨n, hn1, hn2⟩ := ordr_mem hi
      have i2 : atI ((salt c).map encB) i = some (encB (pick (salt c) i)) := by
        rw [hn1]
        refine atI_nat ?_
        unfold pick
        rw [Int.toNat_natCast, List.getD_eq_getElem?_getD, List.getElem?_eq_getElem hn2]
        rfl
      have hB : CSz 4000001 [t, pick (salt c) i] := fun b hb => by
        rcases List.mem_cons.mp hb with z | z
        · rw [z]; exact ht.mono (by omega)
        · rw [List.mem_singleton.mp z]; exact hp.mono (by omega)
      refine ⟨.inl (turn (g_name (ltb rfl)) (x_forget (i := 3) (x_append (p := true) (e_borrow (i := 2) rfl (e_cast (e_call (a_cons (e_frz (e_lst (a_cons (e_op (e_var rfl) (e_un e_int o_U) (o_ixL' i1)) (a_cons (e_op (e_var rfl) (e_var rfl) (o_ixL' i2)) a_nil)))) a_nil) (S_poured_of.mk (bs := [t, pick (salt c) i]) hB (by simp) (by simp))) (by rw [poured2])) nol_encB) ⟨_, rfl⟩ rfl ?_) ?_)), ⟨padd t (pick (salt c) i), t :: r, j + k + 1, rfl, ⟨sz_add ht.1 hp.1, sz_add ht.2 hp.2⟩, by omega⟩, fun x hx' => hx x (List.mem_cons_of_mem _ hx'), ?_⟩
      · rw [List.length_map, List.length_reverse, List.length_cons]
        exact Nat.lt_of_lt_of_le (show r.length + 1 < 4000002 by omega) (by decide)
      · have e : cumI (salt c) (t :: r) i = padd t (pick (salt c) i) :: t :: r := rfl
        rw [e, rev_map1 (padd t (pick (salt c) i)) (t :: r)]
        rfl
      · show (padd t (pick (salt c) i) :: t :: r).length + _ ≤ _
        rw [List.length_cons, List.length_cons]
        omega
    · have hc2 : CSz (1 + c.length * (k + 1)) (corners c) := corners_sz hs
      have hc3 := corners_len c
      refine y_ret (e_borrow (i := 2) rfl (e_call (a_cons (e_var rfl) a_nil) (S_smoothed.mk (ps := corners c) hc2 (by omega) (by omega))) nol_encC)
end
end B
/-! text KU -/
set_option Elab.async false
set_option linter.all false
set_option maxRecDepth 100000
set_option autoImplicit false
namespace B
open PySem PySem.Spec PyProof.Rows L2
local macro_rules | `(tactic| walk_at "o+") => `(tactic| first | exact o_orL o_I0 | (exact o_orR (o_orL (o_cat (by assumption)))) | (exact o_orR (o_orR (o_catA (by assumption)))))
local macro_rules | `(tactic| walk_at "o*") => `(tactic| exact o_orL (o_mul (by walk_at "mul")))
local macro_rules | `(tactic| walk_at "mul") => `(tactic| first | assumption | exact mul_nd (by assumption) (by assumption) | exact mul_dd (by assumption) (by assumption) | exact mul_nn (by assumption) (by assumption) | exact mul_dn (by assumption) (by assumption))
local macro_rules | `(tactic| walk_at "nz") => `(tactic| assumption)
local macro_rules | `(tactic| walk_at "nzd") => `(tactic| exact den2_ne _ _)
local macro_rules | `(tactic| walk_at "ix") => `(tactic| first | exact o_ixT' rfl | exact o_ixL' rfl | exact o_ixT' (by assumption) | exact o_ixL' (by assumption))
local macro_rules | `(tactic| walk_at "o=") => `(tactic| first | exact o_orL o_eqI | exact o_orL o_neI | exact o_orL o_eqB | exact o_orL o_neB | exact o_orR (o_eqD (by assumption) (by assumption)) | exact o_orR (o_neD (by assumption) (by assumption)) | exact o_orR (o_eqD rfl rfl) | exact o_orR (o_neD rfl rfl))
local macro_rules | `(tactic| walk_at "b_gcd") => `(tactic| exact n_gcd)
local macro_rules | `(tactic| walk_at "b_len") => `(tactic| first | exact n_lenT | exact n_lenL)
local macro_rules | `(tactic| walk_at "b_tuple") => `(tactic| first | exact n_tupleL | exact n_tupleT)
local macro_rules | `(tactic| walk_at "b_isinstance") => `(tactic| exact n_isi rfl rfl)
local macro_rules | `(tactic| walk_at "b_all") => `(tactic| exact n_all)
local macro_rules | `(tactic| walk_at "b_lcm") => `(tactic| exact n_lcm (by assumption))
local macro_rules | `(tactic| walk_at "b_sorted") => `(tactic| exact n_sortedP)
local macro_rules | `(tactic| walk_at "sp") => `(tactic| (constructor <;> first | assumption | rfl | walk_at "nzd"))
section
variable {P : Program} {w : World} {K : PySem.W.Frag} {mg : Str → Option Value} {base : Heap} {vN vS : V}
inductive S_segment_at : List Dt → R → Prop
  | mk {c : List Pt} {x : Rat} {k j : Nat} (hc : Cv c) (hs : CSz k c) (hx : Sz j x) (h0 : 0 ≤ x) (hk : k ≤ 40000000) (hj : j ≤ 40000000) (hl : c.length < 1000000) : S_segment_at [encC c, enc x] (.val (.int (seg c x : Nat)))
theorem atI_natE {c : List Pt} {i : Nat} {n : Int} {a : Pt} (h : c[i]? = some a) (e : n = (i : Int)) : atI (c.map encB) n = some (encB a) := by rw [e]; exact atI_nat h
/-- halving -/
theorem wh_seg {C : Cc} {cc : TT} {tb : TS} {env : Nat → Nat → En} {c : List Pt} {x : Rat} (hc : Cv c) (hcond : ∀ l h, h ≤ c.length → l ≤ h → EvT C true cc (env l h) (decide (1 < h - l)) (env l h))
    (hb : ∀ l h m a, m = (l + h) / 2 → c[m]? = some a → h ≤ c.length → l < h → Ex C tb (env l h) (.nx (if a.1 ≤ x then env m h else env l m))) :
    ∀ (n l h : Nat), h - l = n → l < h → h ≤ c.length → (l = 0 ∨ ∃ a, c[l]? = some a ∧ a.1 ≤ x) → (∀ b, c[h]? = some b → x < b.1) → ∃ m, ∃ h', WhX C cc tb m (env l h) (.nx (env (seg c x) h')) := fun n => by
  induction n using Nat.strongRecOn with
  | ind n ih =>
    intro l h hn hlt hle h1 h2
    have hcd := hcond l h hle (by omega)
    by_cases hbig : 1 < h - l
    · rw [decide_eq_true hbig] at hcd
      obtain ⟨a, ha⟩ : ∃ a, c[(l + h) / 2]? = some a := ⟨_, List.getElem?_eq_getElem (by omega)⟩
      have hbd := hb l h _ a rfl ha hle hlt
      by_cases hax : a.1 ≤ x
      · rw [if_pos hax] at hbd
        obtain ⟨m, h', w⟩ := ih (h - (l + h) / 2) (by omega) ((l + h) / 2) h rfl (by omega) hle (.inr ⟨a, ha, hax⟩) h2
        exact ⟨m + 1, h', .next hcd hbd w⟩
      · rw [if_neg hax] at hbd
        obtain ⟨m, h', w⟩ := ih ((l + h) / 2 - l) (by omega) l ((l + h) / 2) rfl (by omega) (by omega) h1 (fun b hb => by
          rw [ha] at hb
          cases hb
          exact Rat.not_le.mp hax)
        exact ⟨m + 1, h', .next hcd hbd w⟩
    · rw [decide_eq_false hbig] at hcd
      have e : h = l + 1 := by omega
      obtain ⟨a, ha⟩ : ∃ a, c[l]? = some a := ⟨_, List.getElem?_eq_getElem (by omega)⟩
      have es : seg c x = l := seg_uniq hc.inc ha (by
        rcases h1 with z | ⟨b, hb, hbx⟩
        · exact .inl z
        · rw [ha] at hb; cases hb; exact .inr hbx) (fun b hb => h2 b (by rw [e]; exact hb))
      rw [es]
      exact ⟨0, h, .stop hcd⟩
theorem x_whileS {C : Cc} {c : TT} {tb u : TS} {ρ : En} {o : Out} {β : Type} {env : β → En} (h : ∃ n, ∃ b, WhX C c tb n ρ (.nx (env b))) (hu : ∀ b, Ex C u (env b) o) : Ex C (tSeq (tWhile c tb) u) ρ o := by
  obtain ⟨n, b, w⟩ := h
  exact xs_cons (x_while w) (hu b)
theorem c_segment_at (T : Txt P w K mg base vN vS) : Cl P w K mg base CX0 35 "segment_at" (spP K S_segment_at) := by
  refine clP T.d_segment_at b_segment_at sc_segment_at (fun ds r h => by cases h; rfl) fun f cdv A outer s H E hr => ?_
  have hs := seer_in T outer hr (by decide) rfl rfl
  refine ⟨_, (pss_cons (ps_par (i := 2) (j := 3) rfl sc_segment_at.nd rfl rfl (by decide) rfl rfl (pa_cons pe_int (pa_cons (pe_callB call_len_seq (by rfl) T.z_len (by decide +kernel) (pa_cons (pv 0) pa_nil)) pa_nil)) (by rfl)) (pss_cons (ps_while PassesOwn.leaving (pt_cmpR op_gt (pe_op op_sub (pv 3) (pv 2)) pe_int (nomark _)) (pss_cons (ps_set (i := 4) sc_segment_at.nd rfl (Or.inl rfl) (pe_op (op_fdivP hs) (pe_op (op_addK K rfl) (pv 2) (pv 3)) pe_int)) (pss_one (ps_if (pt_cmpR op_le (pe_cl (c_side T) hr (by decide) (by rfl) pass0 (pa_cons (pe_ix (ix_sK K rfl) (pe_ix (ix_sK K rfl) (pv 0) (pv 4) (fun _ _ => rfl)) pe_int (fun _ _ => rfl)) (pa_cons (pv 1) pa_nil))) pe_int (nomark _)) (pss_one (ps_set (i := 2) sc_segment_at.nd rfl (Or.inl rfl) (pv 4))) (pss_one (ps_set (i := 3) sc_segment_at.nd rfl (Or.inl rfl) (pv 4))))))) (pss_one (ps_ret (pv 2))))), fun Fz ds r h => ?_⟩
  cases h with
  | mk hc hs hx h0 hk hj hl =>
    rename_i c x k j
    have sx : Sm x := hx.sm hj
    refine fin_rt ?_
    refine xs_cons (y_par (a_cons (e_int) (a_cons (e_cb (a_cons (e_var rfl) a_nil) (by walk_at "b_len")) a_nil))) ?_
    have hlen : 0 < c.length := by
      obtain ⟨s0, r0, e0, _⟩ := hc.hd
      rw [e0]; simp
    refine x_whileS (env := fun h' : Nat => [some (.val (encC c)), some (.val (enc x)), some (.val (.int (seg c x : Nat))), some (.val (.int (h' : Nat))), none]) ?_ (fun h' => y_ret (e_var rfl))
    rw [List.length_map]
    refine wh_seg (env := fun l h => [some (.val (encC c)), some (.val (enc x)), some (.val (.int (l : Nat))), some (.val (.int (h : Nat))), none]) (x := x) hc ?_ ?_ (c.length - 0) 0 c.length rfl (by omega) (by omega) (.inl rfl) (fun b hb => by
      rw [List.getElem?_eq_none (by omega)] at hb
      cases hb)
    · intro l h h1 h2
      refine t_cast (t_test (e_op (e_op (e_var rfl) (e_var rfl) o_I0) (e_int) o_C0)) ?_
      by_cases hb : 1 < h - l
      · rw [decide_eq_true hb, decide_eq_true (by omega)]
      · rw [decide_eq_false hb, decide_eq_false (by omega)]
    · intro l h m a hm ha h1 h2
      have em : ((l : Int) + (h : Int)).fdiv 2 = (m : Int) := by
        rw [Int.fdiv_eq_ediv_of_nonneg _ (by decide)]
        omega
      have i1 := atI_natE ha em
      have sa : Sm a.1 := (hs a (List.mem_of_getElem? ha)).1.sm hk
      have n2 : (2 : Int) ≠ 0 := by decide
      refine xs_cons (y_set (e_op (e_op (e_var rfl) (e_var rfl) (by walk_at "o+")) (e_int) (o_fdiv (by walk_at "nz")))) ?_
      refine y_if (t_cast (t_test (e_op (e_call (a_cons (e_op (e_op (e_var rfl) (e_var rfl) (by walk_at "ix")) (e_int) (by walk_at "ix")) (a_cons (e_var rfl) a_nil)) (by walk_at "sp")) (e_int) o_C0)) sideI_le) (fun h => ?_) (fun h => ?_)
      · rw [if_pos (of_decide_eq_true h)]
        refine x_forget (i := 4) (y_set (e_var rfl)) ?_
        rw [em]
        rfl
      · rw [if_neg (of_decide_eq_false h)]
        refine x_forget (i := 4) (y_set (e_var rfl)) ?_
        rw [em]
        rfl
end
end B
/-! text KV -/
set_option Elab.async false
set_option linter.all false
set_option maxRecDepth 100000
set_option autoImplicit false
namespace B
open PySem PySem.Spec PyProof.Rows L2
local macro_rules | `(tactic| walk_at "o+") => `(tactic| first | exact o_orL o_I0 | (exact o_orR (o_orL (o_cat (by assumption)))) | (exact o_orR (o_orR (o_catA (by assumption)))))
local macro_rules | `(tactic| walk_at "o*") => `(tactic| exact o_orL (o_mul (by walk_at "mul")))
local macro_rules | `(tactic| walk_at "mul") => `(tactic| first | assumption | exact mul_nd (by assumption) (by assumption) | exact mul_dd (by assumption) (by assumption) | exact mul_nn (by assumption) (by assumption) | exact mul_dn (by assumption) (by assumption))
local macro_rules | `(tactic| walk_at "nz") => `(tactic| assumption)
local macro_rules | `(tactic| walk_at "nzd") => `(tactic| exact den2_ne _ _)
local macro_rules | `(tactic| walk_at "ix") => `(tactic| first | exact o_ixT' rfl | exact o_ixL' rfl | exact o_ixT' (by assumption) | exact o_ixL' (by assumption))
local macro_rules | `(tactic| walk_at "o=") => `(tactic| first | exact o_orL o_eqI | exact o_orL o_neI | exact o_orL o_eqB | exact o_orL o_neB | exact o_orR (o_eqD (by assumption) (by assumption)) | exact o_orR (o_neD (by assumption) (by assumption)) | exact o_orR (o_eqD rfl rfl) | exact o_orR (o_neD rfl rfl))
local macro_rules | `(tactic| walk_at "b_gcd") => `(tactic| exact n_gcd)
local macro_rules | `(tactic| walk_at "b_len") => `(tactic| first | exact n_lenT | exact n_lenL)
local macro_rules | `(tactic| walk_at "b_tuple") => `(tactic| first | exact n_tupleL | exact n_tupleT)
local macro_rules | `(tactic| walk_at "b_isinstance") => `(tactic| exact n_isi rfl rfl)
local macro_rules | `(tactic| walk_at "b_all") => `(tactic| exact n_all)
local macro_rules | `(tactic| walk_at "b_lcm") => `(tactic| exact n_lcm (by assumption))
local macro_rules | `(tactic| walk_at "b_sorted") => `(tactic| exact n_sortedP)
local macro_rules | `(tactic| walk_at "sp") => `(tactic| (constructor <;> first | assumption | rfl | walk_at "nzd"))
section
variable {P : Program} {w : World} {K : PySem.W.Frag} {mg : Str → Option Value} {base : Heap} {vN vS : V}
theorem seg_ge : ∀ {c : List Pt} {x : Rat} {a : Pt}, Inc c → c[seg c x]? = some a → (seg c x = 0 ∨ a.1 ≤ x)
  | [], _, _, _, h => by simp at h
  | [b], x, a, _, h => by simp [seg]
  | b :: d :: r, x, a, hi, h => by
    unfold seg at h ⊢
    by_cases c : d.1 ≤ x
    · rw [if_pos c] at h ⊢
      have h' : (d :: r)[seg (d :: r) x]? = some a := by simpa using h
      rcases seg_ge hi.2 h' with z | z
      · rw [z] at h'
        simp at h'
        rw [← h']
        exact .inr c
      · exact .inr z
    · rw [if_neg c]; exact .inl rfl
inductive S_height : List Dt → R → Prop
  | mk {c : List Pt} {x : Rat} {k j : Nat} (hc : Cv c) (hs : CSz k c) (hx : Sz j x) (h0 : 0 ≤ x) (hk : 6 * k + j + 4 ≤ 40000000) (hl : c.length < 1000000) : S_height [encC c, enc x] (.val (enc (hgt c x)))
theorem len_eqI {n : Nat} {i : Nat} (hn : 0 < n) : ((i : Int) == (n : Int) - 1) = decide (i + 1 = n) := by
  by_cases h : i + 1 = n
  · rw [decide_eq_true h, beq_iff_eq]; omega
  · rw [decide_eq_false h, beq_eq_false_iff_ne]; omega
theorem c_height (T : Txt P w K mg base vN vS) : Cl P w K mg base CX0 38 "height" (spP K S_height) := by
  refine clP T.d_height b_height sc_height (fun ds r h => by cases h; rfl) fun f cdv A outer s H E hr => ?_
  refine ⟨_, (pss_cons (ps_set (i := 2) sc_height.nd rfl (Or.inl rfl) (pe_cl (c_segment_at T) hr (by decide) (by rfl) pass0 (pa_cons (pv 0) (pa_cons (pv 1) pa_nil)))) (pss_cons (ps_if (pt_cmpR (op_eqK K rfl (hu_of hr)) (pv 2) (pe_op op_sub (pe_callB call_len_seq (by rfl) T.z_len (by decide +kernel) (pa_cons (pv 0) pa_nil)) pe_int) (nomark _)) (pss_one (ps_ret (pe_ix (ix_sK K rfl) (pe_ix (ix_sK K rfl) (pv 0) (pv 2) (fun _ _ => rfl)) pe_int (fun _ _ => rfl)))) pss_nil) (pss_cons (ps_set (i := 3) sc_height.nd rfl (Or.inl rfl) (pe_cl (c_rise T) hr (by decide) (by rfl) pass0 (pa_cons (pe_ix (ix_sK K rfl) (pv 0) (pv 2) (fun _ _ => rfl)) (pa_cons (pe_ix (ix_sK K rfl) (pv 0) (pe_op (op_addK K rfl) (pv 2) pe_int) (fun _ _ => rfl)) pa_nil)))) (pss_one (ps_ret (pe_cl (c_added T) hr (by decide) (by rfl) pass0 (pa_cons (pe_ix (ix_sK K rfl) (pe_ix (ix_sK K rfl) (pv 0) (pv 2) (fun _ _ => rfl)) pe_int (fun _ _ => rfl)) (pa_cons (pe_cl (c_divided T) hr (by decide) (by rfl) pass0 (pa_cons (pe_cl (c_scaled T) hr (by decide) (by rfl) pass0 (pa_cons (pe_ix (ix_sK K rfl) (pv 3) pe_int (fun _ _ => rfl)) (pa_cons (pe_cl (c_lessened T) hr (by decide) (by rfl) pass0 (pa_cons (pv 1) (pa_cons (pe_ix (ix_sK K rfl) (pe_ix (ix_sK K rfl) (pv 0) (pv 2) (fun _ _ => rfl)) pe_int (fun _ _ => rfl)) pa_nil))) pa_nil))) (pa_cons (pe_ix (ix_sK K rfl) (pv 3) pe_int (fun _ _ => rfl)) pa_nil))) pa_nil)))))))), fun Fz ds r h => ?_⟩
  cases h with
  | mk hc hs hx h0 hk hl =>
    rename_i c x k j
    have sx : Sm x := hx.sm (by omega)
    have hlt := seg_lt (x := x) hc.ne
    obtain ⟨a, ha⟩ : ∃ a, c[seg c x]? = some a := ⟨_, List.getElem?_eq_getElem hlt⟩
    have sa := hs a (List.mem_of_getElem? ha)
    have sa1 : Sm a.1 := sa.1.sm (by omega)
    have sa2 : Sm a.2 := sa.2.sm (by omega)
    have i1 := atI_nat ha
    have hlen : 0 < c.length := by omega
    refine fin_rt ?_
    refine xs_cons (y_set (e_call (a_cons (e_var rfl) (a_cons (e_var rfl) a_nil)) (S_segment_at.mk hc hs hx h0 (by omega) (by omega) hl))) ?_
    refine ys_if (b := decide (seg c x + 1 = c.length)) (t_cast (t_test (e_op (e_var rfl) (e_op (e_cb (a_cons (e_var rfl) a_nil) (by walk_at "b_len")) (e_int) o_I0) (by walk_at "o="))) (by rw [List.length_map]; exact len_eqI hlen)) (fun h => ?_) rfl (fun h => x_next) (fun h => ?_)
    · rw [hgt_last ha (of_decide_eq_true h)]
      exact y_ret (e_op (e_op (e_var rfl) (e_var rfl) (o_ixT' i1)) e_int (by walk_at "ix"))
    · obtain ⟨b, hb⟩ : ∃ b, c[seg c x + 1]? = some b := ⟨_, List.getElem?_eq_getElem (by have := of_decide_eq_false h; omega)⟩
      have sb := hs b (List.mem_of_getElem? hb)
      have i2 : atI (c.map encB) ((seg c x : Int) + 1) = some (encB b) := atI_natP (j := 1) hb
      have hlt1 := (hc.inc.get ha hb).1
      have h1 := sz_sub sb.2 sa.2
      have h2 := sz_sub sb.1 sa.1
      have h3 := sz_sub hx sa.1
      have nz : b.1 - a.1 ≠ 0 := by grind
      have s1 : Sm (bsub b a).2 := h1.sm (by omega)
      have s2 : Sm (bsub b a).1 := h2.sm (by omega)
      have s3 : Sm (x - a.1) := h3.sm (by omega)
      have s4 : Sm ((bsub b a).2 * (x - a.1)) := (sz_mul h1 h3).sm (by omega)
      have s5 : Sm ((bsub b a).2 * (x - a.1) / (bsub b a).1) := (sz_div (sz_mul h1 h3) h2 nz).sm (by omega)
      rw [hgt_mid ha hb]
      refine xs_cons (y_set (e_call (a_cons (e_op (e_var rfl) (e_var rfl) (o_ixT' i1)) (a_cons (e_op (e_var rfl) (e_op (e_var rfl) e_int (by walk_at "o+")) (o_ixT' i2)) a_nil)) (S_rise.mk sa sb (by omega)))) ?_
      exact y_ret (e_call (a_cons (e_op (e_op (e_var rfl) (e_var rfl) (o_ixT' i1)) e_int (by walk_at "ix")) (a_cons (e_call (a_cons (e_call (a_cons (e_op (e_var rfl) e_int (by walk_at "ix")) (a_cons (e_call (a_cons (e_var rfl) (a_cons (e_op (e_op (e_var rfl) (e_var rfl) (o_ixT' i1)) e_int (by walk_at "ix")) a_nil)) (S_lessened.mk sx sa1)) a_nil)) (S_scaled.mk s1 s3)) (a_cons (e_op (e_var rfl) e_int (by walk_at "ix")) a_nil)) (S_divided.mk s4 s2 nz)) a_nil)) (S_added.mk sa2 s5))
inductive S_slope_at : List Dt → R → Prop
  | mk {c : List Pt} {x : Rat} {k j : Nat} (hc : Cv c) (hs : CSz k c) (hx : Sz j x) (h0 : 0 ≤ x) (hk : 4 * k + 2 ≤ 40000000) (hj : j ≤ 40000000) (hl : c.length < 1000000) : S_slope_at [encC c, enc x] (.val (enc (slp c x)))
theorem c_slope_at (T : Txt P w K mg base vN vS) : Cl P w K mg base CX0 38 "slope_at" (spP K S_slope_at) := by
  refine clP T.d_slope_at b_slope_at sc_slope_at (fun ds r h => by cases h; rfl) fun f cdv A outer s H E hr => ?_
  refine ⟨_, (pss_cons (ps_set (i := 2) sc_slope_at.nd rfl (Or.inl rfl) (pe_cl (c_segment_at T) hr (by decide) (by rfl) pass0 (pa_cons (pv 0) (pa_cons (pv 1) pa_nil)))) (pss_cons (ps_if (pt_cmpR (op_eqK K rfl (hu_of hr)) (pv 2) (pe_op op_sub (pe_callB call_len_seq (by rfl) T.z_len (by decide +kernel) (pa_cons (pv 0) pa_nil)) pe_int) (nomark _)) (pss_one (ps_ret (pe_globK (T.k_NOTHING) (by rfl)))) pss_nil) (pss_cons (ps_set (i := 3) sc_slope_at.nd rfl (Or.inl rfl) (pe_cl (c_rise T) hr (by decide) (by rfl) pass0 (pa_cons (pe_ix (ix_sK K rfl) (pv 0) (pv 2) (fun _ _ => rfl)) (pa_cons (pe_ix (ix_sK K rfl) (pv 0) (pe_op (op_addK K rfl) (pv 2) pe_int) (fun _ _ => rfl)) pa_nil)))) (pss_one (ps_ret (pe_cl (c_divided T) hr (by decide) (by rfl) pass0 (pa_cons (pe_ix (ix_sK K rfl) (pv 3) pe_int (fun _ _ => rfl)) (pa_cons (pe_ix (ix_sK K rfl) (pv 3) pe_int (fun _ _ => rfl)) pa_nil)))))))), fun Fz ds r h => ?_⟩
  cases h with
  | mk hc hs hx h0 hk hj hl =>
    rename_i c x k j
    have hlt := seg_lt (x := x) hc.ne
    obtain ⟨a, ha⟩ : ∃ a, c[seg c x]? = some a := ⟨_, List.getElem?_eq_getElem hlt⟩
    have sa := hs a (List.mem_of_getElem? ha)
    have i1 := atI_nat ha
    have hlen : 0 < c.length := by omega
    refine fin_rt ?_
    refine xs_cons (y_set (e_call (a_cons (e_var rfl) (a_cons (e_var rfl) a_nil)) (S_segment_at.mk hc hs hx h0 (by omega) (by omega) hl))) ?_
    refine ys_if (b := decide (seg c x + 1 = c.length)) (t_cast (t_test (e_op (e_var rfl) (e_op (e_cb (a_cons (e_var rfl) a_nil) (by walk_at "b_len")) (e_int) o_I0) (by walk_at "o="))) (by rw [List.length_map]; exact len_eqI hlen)) (fun h => ?_) rfl (fun h => x_next) (fun h => ?_)
    · rw [slp_last (of_decide_eq_true h)]
      exact y_ret (e_cK T.r_NOTHING)
    · obtain ⟨b, hb⟩ : ∃ b, c[seg c x + 1]? = some b := ⟨_, List.getElem?_eq_getElem (by have := of_decide_eq_false h; omega)⟩
      have sb := hs b (List.mem_of_getElem? hb)
      have i2 : atI (c.map encB) ((seg c x : Int) + 1) = some (encB b) := atI_natP (j := 1) hb
      have hlt1 := (hc.inc.get ha hb).1
      have h1 := sz_sub sb.2 sa.2
      have h2 := sz_sub sb.1 sa.1
      have nz : b.1 - a.1 ≠ 0 := by grind
      have s1 : Sm (bsub b a).2 := h1.sm (by omega)
      have s2 : Sm (bsub b a).1 := h2.sm (by omega)
      rw [slp_mid ha hb]
      refine xs_cons (y_set (e_call (a_cons (e_op (e_var rfl) (e_var rfl) (o_ixT' i1)) (a_cons (e_op (e_var rfl) (e_op (e_var rfl) e_int (by walk_at "o+")) (o_ixT' i2)) a_nil)) (S_rise.mk sa sb (by omega)))) ?_
      exact y_ret (e_call (a_cons (e_op (e_var rfl) e_int (by walk_at "ix")) (a_cons (e_op (e_var rfl) e_int (by walk_at "ix")) a_nil)) (S_divided.mk s1 s2 nz))
/-! reach -/
inductive S_reach : List Dt → R → Prop
  | mk {c : List Pt} {y : Rat} {k j : Nat} {l : Pt} (hc : Cv c) (hs : CSz k c) (hy : Sz j y) (hl1 : c.getLast? = some l) (hle : y ≤ l.2) (hk : 6 * k + j + 4 ≤ 40000000) (hl : c.length < 1000000) : S_reach [encC c, enc y] (.val (enc (rch c y)))
theorem atI_m1 {c : List Pt} {l : Pt} (h : c.getLast? = some l) : atI (c.map encB) (-1) = some (encB l) := by
  obtain ⟨c', rfl⟩ := List.getLast?_eq_some_iff.mp h
  rw [List.map_append]
  exact atI_last1
theorem rch_mid {c : List Pt} {y : Rat} {a b : Pt} (h0 : cnt c y ≠ 0) (h1 : c[cnt c y - 1]? = some a) (h2 : c[cnt c y]? = some b) : rch c y = a.1 + (b.1 - a.1) * (y - a.2) / (b.2 - a.2) := by
  unfold rch
  rw [if_neg h0, h1, h2]
theorem cnt_lt {c : List Pt} {y : Rat} {l : Pt} (hi : Inc c) (h : c.getLast? = some l) (hle : y ≤ l.2) : cnt c y < c.length := by
  obtain ⟨c', rfl⟩ := List.getLast?_eq_some_iff.mp h
  have := cnt_at hi (y := y) c'.length l (by simp)
  rcases Nat.lt_or_ge c'.length (cnt (c' ++ [l]) y) with z | z
  · exact absurd (this.mp z) (by grind)
  · rw [List.length_append, List.length_singleton]; omega
theorem c_reach (T : Txt P w K mg base vN vS) : Cl P w K mg base CX0 37 "reach" (spP K S_reach) := by
  refine clP T.d_reach b_reach sc_reach (fun ds r h => by cases h; rfl) fun f cdv A outer s H E hr => ?_
  refine ⟨_, (pss_cons (ps_if (pt_cmpR op_lt (pe_cl (c_side T) hr (by decide) (by rfl) pass0 (pa_cons (pe_ix (ix_sK K rfl) (pe_ix (ix_sK K rfl) (pv 0) (pe_un un_neg pe_int) (fun _ _ => rfl)) pe_int (fun _ _ => rfl)) (pa_cons (pv 1) pa_nil))) pe_int (nomark _)) (pss_one (ps_ret pe_non)) pss_nil) (pss_cons (ps_set (i := 2) sc_reach.nd rfl (Or.inl rfl) (pe_callB call_len_seq (by rfl) T.z_len (by decide +kernel) (pa_cons (pe_lc (own := [("own", 4)]) rfl sc_reach.nd (pi_anyK K rfl (pv 0)) (blkOk_by (N := n_reach) (sc := defScope s_reach) (by decide +kernel)) (by exact fun _ _ _ _ _ => (pg_name (i := 4) sc_reach.nd rfl (Or.inl rfl))) (by exact fun _ _ _ _ _ => (pts_one (pt_cmpR op_lt (pe_cl (c_side T) hr (by decide) (by rfl) pass0 (pa_cons (pe_ix (ix_sK K rfl) (pv 4) pe_int (fun _ _ => rfl)) (pa_cons (pv 1) pa_nil))) pe_int (nomark _)))) (by exact fun _ _ _ _ _ => (pv 4))) pa_nil))) (pss_cons (ps_if (pt_cmpR (op_eqK K rfl (hu_of hr)) (pv 2) pe_int (nomark _)) (pss_one (ps_ret (pe_globK (T.k_NOTHING) (by rfl)))) pss_nil) (pss_cons (ps_set (i := 3) sc_reach.nd rfl (Or.inl rfl) (pe_cl (c_rise T) hr (by decide) (by rfl) pass0 (pa_cons (pe_ix (ix_sK K rfl) (pv 0) (pe_op op_sub (pv 2) pe_int) (fun _ _ => rfl)) (pa_cons (pe_ix (ix_sK K rfl) (pv 0) (pv 2) (fun _ _ => rfl)) pa_nil)))) (pss_one (ps_ret (pe_cl (c_added T) hr (by decide) (by rfl) pass0 (pa_cons (pe_ix (ix_sK K rfl) (pe_ix (ix_sK K rfl) (pv 0) (pe_op op_sub (pv 2) pe_int) (fun _ _ => rfl)) pe_int (fun _ _ => rfl)) (pa_cons (pe_cl (c_divided T) hr (by decide) (by rfl) pass0 (pa_cons (pe_cl (c_scaled T) hr (by decide) (by rfl) pass0 (pa_cons (pe_ix (ix_sK K rfl) (pv 3) pe_int (fun _ _ => rfl)) (pa_cons (pe_cl (c_lessened T) hr (by decide) (by rfl) pass0 (pa_cons (pv 1) (pa_cons (pe_ix (ix_sK K rfl) (pe_ix (ix_sK K rfl) (pv 0) (pe_op op_sub (pv 2) pe_int) (fun _ _ => rfl)) pe_int (fun _ _ => rfl)) pa_nil))) pa_nil))) (pa_cons (pe_ix (ix_sK K rfl) (pv 3) pe_int (fun _ _ => rfl)) pa_nil))) pa_nil))))))))), fun Fz ds r h => ?_⟩
  cases h with
  | mk hc hs hy hl1 hle hk hl =>
    rename_i c y k j l
    have sy : Sm y := hy.sm (by omega)
    have sl := hs l (List.mem_of_getLast? hl1)
    have sl2 : Sm l.2 := sl.2.sm (by omega)
    have i0 := atI_m1 hl1
    have hcl := cnt_lt hc.inc hl1 hle
    refine fin_rt ?_
    refine xs_cons (y_ifF (t_cast (t_test (e_op (e_call (a_cons (e_op (e_op (e_var rfl) (e_un e_int o_U) (o_ixT' i0)) e_int (by walk_at "ix")) (a_cons (e_var rfl) a_nil)) (S_side.mk sl2 sy)) e_int o_C0)) (by rw [sideI_lt]; exact decide_eq_false (Rat.not_lt.mpr hle))) x_next) ?_
    refine xs_cons (y_set (e_cb (a_cons (e_frz (e_lcf1 (f := encB) (h := encB) (c := fun b => decide (b.2 < y)) (xs := c) (i_anyT (e_var rfl)) (fun b hb => ?_) (fun x hx _ => e_var rfl) (lt_sz hl))) a_nil) n_lenL)) ?_
    · have sb2 : Sm b.2 := (hs b hb).2.sm (by omega)
      exact t_cast (t_test (e_op (e_call (a_cons (e_op (e_var rfl) (e_int) (by walk_at "ix")) (a_cons (e_var rfl) a_nil)) (by walk_at "sp")) (e_int) o_C0)) sideI_lt
    rw [List.length_map]
    show Ex _ _ ((startE n_reach.length [encC c, enc y]).set 2 (some (.val (.int (cnt c y : Nat))))) _
    refine ys_if (b := decide (cnt c y = 0)) (t_cast (t_test (e_op (e_var rfl) (e_int) (by walk_at "o="))) (by
      by_cases h : cnt c y = 0
      · rw [decide_eq_true h, h]; rfl
      · rw [decide_eq_false h, beq_eq_false_iff_ne]; omega)) (fun h => ?_) rfl (fun h => x_next) (fun h => ?_)
    · have : rch c y = 0 := by unfold rch; rw [if_pos (of_decide_eq_true h)]
      rw [this]
      exact y_ret (e_cK T.r_NOTHING)
    · have h0 := of_decide_eq_false h
      obtain ⟨a, ha⟩ : ∃ a, c[cnt c y - 1]? = some a := ⟨_, List.getElem?_eq_getElem (by omega)⟩
      obtain ⟨b, hb⟩ : ∃ b, c[cnt c y]? = some b := ⟨_, List.getElem?_eq_getElem hcl⟩
      have sa := hs a (List.mem_of_getElem? ha)
      have sb := hs b (List.mem_of_getElem? hb)
      have i1 : atI (c.map encB) ((cnt c y : Int) - 1) = some (encB a) := atI_natE ha (by omega)
      have i2 := atI_nat hb
      have hlt := (hc.inc.get ha (by rw [show cnt c y - 1 + 1 = cnt c y by omega]; exact hb)).2
      have h1 := sz_sub sb.1 sa.1
      have h2 := sz_sub sb.2 sa.2
      have h3 := sz_sub hy sa.2
      have nz : b.2 - a.2 ≠ 0 := by grind
      have sa1 : Sm a.1 := sa.1.sm (by omega)
      have sa2 : Sm a.2 := sa.2.sm (by omega)
      have s1 : Sm (bsub b a).1 := h1.sm (by omega)
      have s2 : Sm (bsub b a).2 := h2.sm (by omega)
      have s3 : Sm (y - a.2) := h3.sm (by omega)
      have s4 : Sm ((bsub b a).1 * (y - a.2)) := (sz_mul h1 h3).sm (by omega)
      have s5 : Sm ((bsub b a).1 * (y - a.2) / (bsub b a).2) := (sz_div (sz_mul h1 h3) h2 nz).sm (by omega)
      rw [rch_mid h0 ha hb]
      refine xs_cons (y_set (e_call (a_cons (e_op (e_var rfl) (e_op (e_var rfl) e_int o_I0) (o_ixT' i1)) (a_cons (e_op (e_var rfl) (e_var rfl) (o_ixT' i2)) a_nil)) (S_rise.mk sa sb (by omega)))) ?_
      exact y_ret (e_call (a_cons (e_op (e_op (e_var rfl) (e_op (e_var rfl) e_int o_I0) (o_ixT' i1)) e_int (by walk_at "ix")) (a_cons (e_call (a_cons (e_call (a_cons (e_op (e_var rfl) e_int (by walk_at "ix")) (a_cons (e_call (a_cons (e_var rfl) (a_cons (e_op (e_op (e_var rfl) (e_op (e_var rfl) e_int o_I0) (o_ixT' i1)) e_int (by walk_at "ix")) a_nil)) (S_lessened.mk sy sa2)) a_nil)) (S_scaled.mk s1 s3)) (a_cons (e_op (e_var rfl) e_int (by walk_at "ix")) a_nil)) (S_divided.mk s4 s2 nz)) a_nil)) (S_added.mk sa1 s5))
/-! steps -/
inductive S_steps_of : List Dt → R → Prop
  | mk {c : List Pt} {k : Nat} (hc : Cv c) (hs : CSz k c) (hk : k ≤ 40000000) (hl : c.length < 1000000) : S_steps_of [encC c] (.val (encC (steps c)))
theorem e_ifF {C : Cc} {ρ ρ1 ρ2 : En} {t : TT} {ta tb : TE} {b : Bool} {p : Bool} {x y z : List Dt} (h : EvT C p t ρ b ρ1) (h1 : b = true → Ev C p ta ρ1 (.fr x) ρ2 ∧ x = z) (h0 : b = false → Ev C p tb ρ1 (.fr y) ρ2 ∧ y = z) : Ev C p (tIf t ta tb) ρ (.fr z) ρ2 :=
  e_if h (fun w => (h1 w).2 ▸ (h1 w).1) (fun w => (h0 w).2 ▸ (h0 w).1)
def fstS (c : List Pt) : List Pt := match c with
  | a :: _ => if a.2 = 0 then [] else [a]
  | [] => []
theorem c_steps_of (T : Txt P w K mg base vN vS) : Cl P w K mg base CX0 37 "steps_of" (spP K S_steps_of) := by
  refine clP T.d_steps_of b_steps_of sc_steps_of (fun ds r h => by cases h; rfl) fun f cdv A outer s H E hr => ?_
  refine ⟨_, (pss_cons (ps_set (i := 1) sc_steps_of.nd rfl (Or.inl rfl) (pe_ifExp (pt_cmpR (op_neK K rfl (hu_of hr)) (pe_ix (ix_sK K rfl) (pe_ix (ix_sK K rfl) (pv 0) pe_int (fun _ _ => rfl)) pe_int (fun _ _ => rfl)) (pe_globK (T.k_NOTHING) (by rfl)) (nomark _)) (pe_lst (pa_cons (pe_ix (ix_sK K rfl) (pv 0) pe_int (fun _ _ => rfl)) pa_nil)) (pe_lst pa_nil))) (pss_one (ps_ret (pe_callTy call_tuple_of (by rfl) T.z_tuple (by decide +kernel) (pa_cons (pe_op (op_addK K rfl) (pv 1) (pe_lc (own := [("k", 2)]) rfl sc_steps_of.nd (pi_range1 (by rfl) T.z_range (pa_cons (pe_op op_sub (pe_callB call_len_seq (by rfl) T.z_len (by decide +kernel) (pa_cons (pv 0) pa_nil)) pe_int) pa_nil)) (blkOk_by (N := n_steps_of) (sc := defScope s_steps_of) (by decide +kernel)) (by exact fun _ _ _ _ _ => (pg_name (i := 2) sc_steps_of.nd rfl (Or.inl rfl))) (by exact fun _ _ _ _ _ => pts_nil) (by exact fun _ _ _ _ _ => (pe_cl (c_rise T) hr (by decide) (by rfl) pass0 (pa_cons (pe_ix (ix_sK K rfl) (pv 0) (pv 2) (fun _ _ => rfl)) (pa_cons (pe_ix (ix_sK K rfl) (pv 0) (pe_op (op_addK K rfl) (pv 2) pe_int) (fun _ _ => rfl)) pa_nil)))))) pa_nil))))), fun Fz ds r h => ?_⟩
  cases h with
  | mk hc hs hk hl =>
    rename_i c k
    obtain ⟨s0, r0, e0, hs0⟩ := hc.hd
    have hlen : 0 < c.length := by rw [e0]; simp
    have i0 : atI (c.map encB) 0 = some (encB (0, s0)) := atI_nat (i := 0) (by rw [e0]; rfl)
    refine fin_rt ?_
    refine xs_cons (y_set (e_frz (e_ifF (z := (fstS c).map encB) (b := !decide (s0 = 0)) (t_cast (t_test (e_op (e_op (e_op (e_var rfl) e_int (o_ixT' i0)) e_int (by walk_at "ix")) (e_cK T.r_NOTHING) (o_orR (o_neD plain_enc plain_enc)))) (by rw [deq_enc])) (fun h => ⟨e_lst (a_cons (e_op (e_var rfl) e_int (o_ixT' i0)) a_nil), ?_⟩) (fun h => ⟨e_lst a_nil, ?_⟩)))) ?_
    · have : s0 ≠ 0 := by simpa using h
      rw [e0]
      unfold fstS
      simp [this]
    · have : s0 = 0 := by simpa using h
      rw [e0]
      unfold fstS
      simp [this]
    have hf : (fstS c).length ≤ 1 := by
      rw [e0]
      unfold fstS
      simp only
      split <;> simp
    have hd : (diffs c).length = c.length - 1 := diffs_len c
    have hsum : ((fstS c).map encB).length + ((diffs c).map encB).length ≤ sizeLine := by
      rw [List.length_map, List.length_map, hd]
      exact Nat.le_of_lt (lt_sz (by omega))
    refine y_ret (e_cast (e_cb (a_cons (e_frz (e_op (e_var rfl) (e_frz (e_cast (e_lc1 (f := fun k : Nat => Dt.int (k : Int)) (h := fun k => encB (bsub (c.getD (k + 1) (0, 0)) (c.getD k (0, 0)))) (xs := List.range (c.length - 1)) (i_rngN (n := c.length - 1) (a_cons (e_op (e_cb (a_cons (e_var rfl) a_nil) n_lenT) e_int o_I0) a_nil) (by rw [List.length_map]; omega) (by rw [List.length_map]; omega) (by rw [List.length_map]; omega)) (fun i hi => ?_) (lt_sz (by rw [List.length_range]; omega))) (r' := .fr ((diffs c).map encB)) (by rw [← diffs_range c, List.map_map]; rfl))) (o_orR (o_orL (o_cat hsum))))) a_nil) n_tupleL) ?_)
    · have hi' := List.mem_range.mp hi
      obtain ⟨a, ha⟩ : ∃ a, c[i]? = some a := ⟨_, List.getElem?_eq_getElem (by omega)⟩
      obtain ⟨b, hb⟩ : ∃ b, c[i + 1]? = some b := ⟨_, List.getElem?_eq_getElem (by omega)⟩
      have i1 := atI_nat ha
      have i2 : atI (c.map encB) ((i : Int) + 1) = some (encB b) := atI_natP (j := 1) hb
      have ga : c.getD i (0, 0) = a := by rw [List.getD_eq_getElem?_getD, ha]; rfl
      have gb : c.getD (i + 1) (0, 0) = b := by rw [List.getD_eq_getElem?_getD, hb]; rfl
      rw [ga, gb]
      exact e_call (a_cons (e_op (e_var rfl) (e_var rfl) (o_ixT' i1)) (a_cons (e_op (e_var rfl) (e_op (e_var rfl) e_int (by walk_at "o+")) (o_ixT' i2)) a_nil)) (S_rise.mk (hs a (List.mem_of_getElem? ha)) (hs b (List.mem_of_getElem? hb)) hk)
    · rw [← List.map_append]
      rfl
end
end B
/-! text KW -/
set_option Elab.async false
set_option linter.all false
set_option maxRecDepth 100000
set_option autoImplicit false
namespace B
open PySem PySem.Spec PyProof.Rows L2
local macro_rules | `(tactic| walk_at "o+") => `(tactic| first | exact o_orL o_I0 | (exact o_orR (o_orL (o_cat (by assumption)))) | (exact o_orR (o_orR (o_catA (by assumption)))))
local macro_rules | `(tactic| walk_at "o*") => `(tactic| exact o_orL (o_mul (by walk_at "mul")))
local macro_rules | `(tactic| walk_at "mul") => `(tactic| first | assumption | exact mul_nd (by assumption) (by assumption) | exact mul_dd (by assumption) (by assumption) | exact mul_nn (by assumption) (by assumption) | exact mul_dn (by assumption) (by assumption))
local macro_rules | `(tactic| walk_at "nz") => `(tactic| assumption)
local macro_rules | `(tactic| walk_at "nzd") => `(tactic| exact den2_ne _ _)
local macro_rules | `(tactic| walk_at "ix") => `(tactic| first | exact o_ixT' rfl | exact o_ixL' rfl | exact o_ixT' (by assumption) | exact o_ixL' (by assumption))
local macro_rules | `(tactic| walk_at "o=") => `(tactic| first | exact o_orL o_eqI | exact o_orL o_neI | exact o_orL o_eqB | exact o_orL o_neB | exact o_orR (o_eqD (by assumption) (by assumption)) | exact o_orR (o_neD (by assumption) (by assumption)) | exact o_orR (o_eqD rfl rfl) | exact o_orR (o_neD rfl rfl))
local macro_rules | `(tactic| walk_at "b_gcd") => `(tactic| exact n_gcd)
local macro_rules | `(tactic| walk_at "b_len") => `(tactic| first | exact n_lenT | exact n_lenL)
local macro_rules | `(tactic| walk_at "b_tuple") => `(tactic| first | exact n_tupleL | exact n_tupleT)
local macro_rules | `(tactic| walk_at "b_isinstance") => `(tactic| exact n_isi rfl rfl)
local macro_rules | `(tactic| walk_at "b_all") => `(tactic| exact n_all)
local macro_rules | `(tactic| walk_at "b_lcm") => `(tactic| exact n_lcm (by assumption))
local macro_rules | `(tactic| walk_at "b_sorted") => `(tactic| exact n_sortedP)
local macro_rules | `(tactic| walk_at "sp") => `(tactic| (constructor <;> first | assumption | rfl | walk_at "nzd"))
section
variable {P : Program} {w : World} {K : PySem.W.Frag} {mg : Str → Option Value} {base : Heap} {vN vS : V}
/-! shifted -/
inductive S_shifted : List Dt → R → Prop
  | mk {c : List Pt} {x : Rat} {k j : Nat} (hc : Cv c) (hs : CSz k c) (hx : Sz j x) (h0 : 0 ≤ x) (hk : 6 * k + j + 4 ≤ 40000000) (hl : c.length < 1000000) : S_shifted [encC c, enc x] (.val (encC (shf c x)))
theorem c_shifted (T : Txt P w K mg base vN vS) : Cl P w K mg base CX0 39 "shifted" (spP K S_shifted) := by
  refine clP T.d_shifted b_shifted sc_shifted (fun ds r h => by cases h; rfl) fun f cdv A outer s H E hr => ?_
  refine ⟨_, (pss_cons (ps_set (i := 2) sc_shifted.nd rfl (Or.inl rfl) (pe_tup (pa_cons (pe_globK (T.k_NOTHING) (by rfl)) (pa_cons (pe_cl (c_height T) hr (by decide) (by rfl) pass0 (pa_cons (pv 0) (pa_cons (pv 1) pa_nil))) pa_nil)))) (pss_cons (ps_setLc (i := 3) (own := [("own", 4)]) rfl sc_shifted.nd rfl rfl (sw_true rfl rfl rfl (by decide +kernel)) (pi_anyK K rfl (pv 0)) (blkOk_by (N := n_shifted) (sc := defScope s_shifted) (by decide +kernel)) (by exact fun _ _ _ _ _ => (pg_name (i := 4) sc_shifted.nd rfl (Or.inl rfl))) (by exact fun _ _ _ _ _ => (pts_one (pt_cmpR op_gt (pe_cl (c_side T) hr (by decide) (by rfl) pass0 (pa_cons (pe_ix (ix_sK K rfl) (pv 4) pe_int (fun _ _ => rfl)) (pa_cons (pv 1) pa_nil))) pe_int (nomark _)))) (by exact fun _ _ _ _ _ => (pe_tup (pa_cons (pe_cl (c_lessened T) hr (by decide) (by rfl) pass0 (pa_cons (pe_ix (ix_sK K rfl) (pv 4) pe_int (fun _ _ => rfl)) (pa_cons (pv 1) pa_nil))) (pa_cons (pe_ix (ix_sK K rfl) (pv 4) pe_int (fun _ _ => rfl)) pa_nil))))) (pss_one (ps_ret (pe_callTy call_tuple_of (by rfl) T.z_tuple (by decide +kernel) (pa_cons (pe_lst (pa_cons (pv 2) (StX.pa_star (pv 3) pa_nil))) pa_nil)))))), fun Fz ds r h => ?_⟩
  cases h with
  | mk hc hs hx h0 hk hl =>
    rename_i c x k j
    have sx : Sm x := hx.sm (by omega)
    refine fin_rt ?_
    refine xs_cons (y_set (e_tup (a_cons (e_cK T.r_NOTHING) (a_cons (e_call (a_cons (e_var rfl) (a_cons (e_var rfl) a_nil)) (S_height.mk hc hs hx h0 hk hl)) a_nil)))) ?_
    refine xs_cons (y_set (e_frz (e_lcf1 (f := encB) (h := fun b => encB (b.1 - x, b.2)) (c := fun b => decide (x < b.1)) (xs := c) (i_anyT (e_var rfl)) (fun b hb => ?_) (fun b hb _ => ?_) (lt_sz hl)))) ?_
    · have s1 : Sm b.1 := (hs b hb).1.sm (by omega)
      exact t_cast (t_test (e_op (e_call (a_cons (e_op (e_var rfl) (e_int) (by walk_at "ix")) (a_cons (e_var rfl) a_nil)) (by walk_at "sp")) (e_int) o_C0)) sideI_gt
    · have s1 : Sm b.1 := (hs b hb).1.sm (by omega)
      exact (e_tup (a_cons (e_call (a_cons (e_op (e_var rfl) (e_int) (by walk_at "ix")) (a_cons (e_var rfl) a_nil)) (by walk_at "sp")) (a_cons (e_op (e_var rfl) (e_int) (by walk_at "ix")) a_nil)))
    · have hlen : ((c.filter fun b => decide (x < b.1)).map fun b => encB (b.1 - x, b.2)).length < 1000000 := by
        rw [List.length_map]
        exact Nat.lt_of_le_of_lt (List.length_filter_le _ _) hl
      have e : (Dt.tup [enc 0, enc (hgt c x)] :: ((c.filter fun b => decide (x < b.1)).map fun b => encB (b.1 - x, b.2)) ++ []) = (shf c x).map encB := by
        unfold shf
        rw [List.append_nil, List.map_cons, List.map_map]
        rfl
      refine y_ret (e_cast (e_cb (a_cons (e_frz (e_lst (a_cons (e_var rfl) (a_star (e_var rfl) a_nil)) ?_)) a_nil) n_tupleL) ?_)
      · rw [List.append_nil, List.length_cons]
        exact Nat.le_of_lt (Nat.lt_of_lt_of_le (Nat.succ_lt_succ hlen) (by decide))
      · exact congrArg (fun z => R.val (.tup z)) e
/-! first_under -/
theorem forx_first {step : Dt → En → Out → Prop} {α : Type} {f : α → Dt} {ρ : En} {c : α → Bool} {r : α → R} {ρr : En} : ∀ {xs : List α}, (∀ x, x ∈ xs → c x = false → step (f x) ρ (.nx ρ) ∨ step (f x) ρ (.ct ρ)) → (∀ x, x ∈ xs → c x = true → step (f x) ρ (.rt (r x) ρr)) →
    ForX step (xs.map f) ρ (match xs.find? c with
      | some x => .rt (r x) ρr
      | none => .nx ρ)
  | [], _, _ => rfl
  | x :: xs, h0, h1 => by
    rw [List.find?_cons]
    cases hc : c x with
    | true => exact .inr (.inr ⟨r x, ρr, h1 x (List.mem_cons_self ..) hc, rfl⟩)
    | false => exact .inl ⟨ρ, h0 x (List.mem_cons_self ..) hc, forx_first (fun y hy => h0 y (List.mem_cons_of_mem _ hy)) fun y hy => h1 y (List.mem_cons_of_mem _ hy)⟩
theorem xs_first {C : Cc} {wi : TI} {g : TG} {tb u : TS} {α : Type} {f : α → Dt} {ρ : En} {c : α → Bool} {r : α → R} {r0 : R} {ρr : En} {xs : List α} (hi : EvI C true wi ρ (xs.map f) ρ) (h0 : ∀ x, x ∈ xs → c x = false → TurnX C g tb (f x) ρ (.nx ρ)) (h1 : ∀ x, x ∈ xs → c x = true → TurnX C g tb (f x) ρ (.rt (r x) ρr)) (hu : Ex C u ρ (.rt r0 ρr)) :
    Ex C (tSeq (tFor wi g tb) u) ρ (.rt (match xs.find? c with
      | some x => r x
      | none => r0) ρr) := by
  have hf := forx_first (step := TurnX C g tb) (f := f) (ρ := ρ) (c := c) (r := r) (ρr := ρr) (xs := xs) (fun x hx hc => .inl (h0 x hx hc)) h1
  cases hfi : xs.find? c with
  | some x => rw [hfi] at hf; exact xs_stop (x_for hi hf) rfl
  | none => rw [hfi] at hf; exact xs_cons (x_for hi hf) hu
/-- an amount or None -/
def encO : Option Rat → Dt
  | some q => enc q
  | none => .non
inductive S_first_under : List Dt → R → Prop
  | mk {c d : List Pt} {k j : Nat} (hc : Cv c) (hs : CSz k c) (hn : ∀ b ∈ d, Nn b) (hd : CSz j d) (hk : 6 * k + j + 4 ≤ 40000000) (hl : c.length < 1000000) : S_first_under [encC c, encC d] (.val (encO (fstU c d)))
theorem c_first_under (T : Txt P w K mg base vN vS) : Cl P w K mg base CX0 39 "first_under" (spP K S_first_under) := by
  refine clP T.d_first_under b_first_under sc_first_under (fun ds r h => by cases h; rfl) fun f cdv A outer s H E hr => ?_
  refine ⟨_, (pss_cons (ps_for PassesOwn.leaving rfl (pi_anyK K rfl (pv 1)) (pg_name (i := 2) sc_first_under.nd rfl (Or.inl rfl)) (pss_one (ps_if (pt_cmpR op_lt (pe_cl (c_side T) hr (by decide) (by rfl) pass0 (pa_cons (pe_cl (c_height T) hr (by decide) (by rfl) pass0 (pa_cons (pv 0) (pa_cons (pe_ix (ix_sK K rfl) (pv 2) pe_int (fun _ _ => rfl)) pa_nil))) (pa_cons (pe_ix (ix_sK K rfl) (pv 2) pe_int (fun _ _ => rfl)) pa_nil))) pe_int (nomark _)) (pss_one (ps_ret (pe_ix (ix_sK K rfl) (pv 2) pe_int (fun _ _ => rfl)))) pss_nil))) (pss_one (ps_ret pe_non))), fun Fz ds r h => ?_⟩
  cases h with
  | mk hc hs hn hd hk hl =>
    rename_i c d k j
    refine fin_rt ?_
    refine x_cast (xs_first (f := encB) (c := fun b : Pt => decide (hgt c b.1 < b.2)) (r := fun b => .val (enc b.1)) (r0 := .val .non) (ρr := blank 3) (xs := d) (i_anyT (e_var rfl)) (fun b hb hcb => ?_) (fun b hb hcb => ?_) (y_ret e_non)) ?_
    · have hb1 := hd b hb
      have sh : Sm (hgt c b.1) := (sz_hgt hs hc.inc hb1.1 hc.ne).sm hk
      have s2 : Sm b.2 := hb1.2.sm (by omega)
      exact turn (g_name (ltb rfl)) (x_forget (i := 2) (y_ifF (t_cast (t_test (e_op (e_call (a_cons (e_call (a_cons (e_var rfl) (a_cons (e_op (e_var rfl) e_int (by walk_at "ix")) a_nil)) (S_height.mk hc hs hb1.1 (hn b hb).1 hk hl)) (a_cons (e_op (e_var rfl) e_int (by walk_at "ix")) a_nil)) (S_side.mk sh s2)) e_int o_C0)) (by rw [sideI_lt]; exact hcb)) x_next) rfl)
    · have hb1 := hd b hb
      have sh : Sm (hgt c b.1) := (sz_hgt hs hc.inc hb1.1 hc.ne).sm hk
      have s2 : Sm b.2 := hb1.2.sm (by omega)
      exact turn (g_name (ltb rfl)) (y_ifT (t_cast (t_test (e_op (e_call (a_cons (e_call (a_cons (e_var rfl) (a_cons (e_op (e_var rfl) e_int (by walk_at "ix")) a_nil)) (S_height.mk hc hs hb1.1 (hn b hb).1 hk hl)) (a_cons (e_op (e_var rfl) e_int (by walk_at "ix")) a_nil)) (S_side.mk sh s2)) e_int o_C0)) (by rw [sideI_lt]; exact hcb)) (y_ret (e_op (e_var rfl) e_int (by walk_at "ix"))))
    · unfold fstU
      cases d.find? fun b => decide (hgt c b.1 < b.2) <;> rfl
end
end B
/-! text KX -/
set_option Elab.async false
set_option linter.all false
set_option maxRecDepth 100000
set_option autoImplicit false
namespace B
open PySem PySem.Spec PyProof.Rows L2
local macro_rules | `(tactic| walk_at "o+") => `(tactic| first | exact o_orL o_I0 | (exact o_orR (o_orL (o_cat (by assumption)))) | (exact o_orR (o_orR (o_catA (by assumption)))))
local macro_rules | `(tactic| walk_at "o*") => `(tactic| exact o_orL (o_mul (by walk_at "mul")))
local macro_rules | `(tactic| walk_at "mul") => `(tactic| first | assumption | exact mul_nd (by assumption) (by assumption) | exact mul_dd (by assumption) (by assumption) | exact mul_nn (by assumption) (by assumption) | exact mul_dn (by assumption) (by assumption))
local macro_rules | `(tactic| walk_at "nz") => `(tactic| assumption)
local macro_rules | `(tactic| walk_at "nzd") => `(tactic| exact den2_ne _ _)
local macro_rules | `(tactic| walk_at "ix") => `(tactic| first | exact o_ixT' rfl | exact o_ixL' rfl | exact o_ixT' (by assumption) | exact o_ixL' (by assumption))
local macro_rules | `(tactic| walk_at "o=") => `(tactic| first | exact o_orL o_eqI | exact o_orL o_neI | exact o_orL o_eqB | exact o_orL o_neB | exact o_orR (o_eqD (by assumption) (by assumption)) | exact o_orR (o_neD (by assumption) (by assumption)) | exact o_orR (o_eqD rfl rfl) | exact o_orR (o_neD rfl rfl))
local macro_rules | `(tactic| walk_at "b_gcd") => `(tactic| exact n_gcd)
local macro_rules | `(tactic| walk_at "b_len") => `(tactic| first | exact n_lenT | exact n_lenL)
local macro_rules | `(tactic| walk_at "b_tuple") => `(tactic| first | exact n_tupleL | exact n_tupleT)
local macro_rules | `(tactic| walk_at "b_isinstance") => `(tactic| exact n_isi rfl rfl)
local macro_rules | `(tactic| walk_at "b_all") => `(tactic| exact n_all)
local macro_rules | `(tactic| walk_at "b_lcm") => `(tactic| exact n_lcm (by assumption))
local macro_rules | `(tactic| walk_at "b_sorted") => `(tactic| exact n_sortedP)
local macro_rules | `(tactic| walk_at "sp") => `(tactic| (constructor <;> first | assumption | rfl | walk_at "nzd"))
section
variable {P : Program} {w : World} {K : PySem.W.Frag} {mg : Str → Option Value} {base : Heap} {vN vS : V}
theorem i_anyF {C : Cc} {p : Bool} {ρ ρ1 : En} {tl : TE} {ds : List Dt} (h : Ev C p tl ρ (.fr ds) ρ1) : EvI C p (iAny C.K tl) ρ ds ρ1 := i_anyL (e_frz h)
theorem tri (x : Rat) : x < 0 ∨ x = 0 ∨ 0 < x := by
  by_cases h : x < 0
  · exact .inl h
  · by_cases h2 : 0 < x
    · exact .inr (.inr h2)
    · exact .inr (.inl (by grind))
theorem rsq (x : Rat) : 0 ≤ x * x := by
  rcases tri x with h | h | h
  · have := Rat.mul_lt_mul_of_pos_right (c := -x) h (by grind)
    grind
  · rw [h]; grind
  · have := Rat.mul_lt_mul_of_pos_right (c := x) h h
    grind
/-! crossings -/
structure Two (one other : List Pt) (k : Nat) : Prop where
  c1 : Cv one
  c2 : Cv other
  s1 : CSz k one
  s2 : CSz k other
  l : one.length + other.length < 33
theorem waters_mem {one other : List Pt} {x : Rat} : x ∈ waters one other ↔ ∃ b ∈ one ++ other, b.1 = x := by
  unfold waters
  rw [rsort_mem, List.mem_map]
theorem waters_nn {one other : List Pt} {k : Nat} (h : Two one other k) : ∀ x ∈ waters one other, 0 ≤ x ∧ Sz k x := fun x hx => by
  obtain ⟨b, hb, rfl⟩ := waters_mem.mp hx
  rcases List.mem_append.mp hb with z | z
  · exact ⟨(h.c1.nn b z).1, (h.s1 b z).1⟩
  · exact ⟨(h.c2.nn b z).1, (h.s2 b z).1⟩
theorem waters_len {one other : List Pt} : (waters one other).length ≤ one.length + other.length := by
  unfold waters
  refine Nat.le_trans rsort_len ?_
  rw [List.length_map, List.length_append]
  exact Nat.le_refl _
theorem sz_dif {one other : List Pt} {k : Nat} (h : Two one other k) {x : Rat} (hx : Sz k x) : Sz (14 * k + 9) (dif one other x) :=
  (sz_sub (sz_hgt h.s1 h.c1.inc hx h.c1.ne) (sz_hgt h.s2 h.c2.inc hx h.c2.ne)).mono (by omega)
theorem crs_sz {one other : List Pt} {k : Nat} (h : Two one other k) {n f x : Rat} (hn : Sz k n) (hf : Sz k f) (e : crs one other n f = some x) : Sz (46 * k + 30) x := by
  unfold crs at e
  split at e
  · rename_i hl
    cases e
    have d1 := sz_dif h hn
    have d2 := sz_dif h hf
    have nz : dif one other n - dif one other f ≠ 0 := by
      intro z
      have : dif one other n = dif one other f := by grind
      rw [this] at hl
      exact absurd (rsq _) (Rat.not_le.mpr hl)
    exact (sz_add hn (sz_mul (sz_div d1 (sz_sub d1 d2) nz) (sz_sub hf hn))).mono (by omega)
  · cases e
theorem crossAll_sz {one other : List Pt} {k : Nat} (h : Two one other k) : ∀ {ws : List Rat}, (∀ x ∈ ws, Sz k x) → ∀ x ∈ crossAll one other ws, Sz (46 * k + 30) x
  | [], _, x, hx => by simp [crossAll] at hx
  | [a], _, x, hx => by simp [crossAll] at hx
  | a :: b :: r, hw, x, hx => by
    rw [crossAll] at hx
    rcases List.mem_append.mp hx with z | z
    · cases e : crs one other a b with
      | none => rw [e] at z; cases z
      | some y =>
        rw [e] at z
        rw [List.mem_singleton.mp z]
        exact crs_sz h (hw a (by simp)) (hw b (by simp)) e
    · exact crossAll_sz h (fun y hy => hw y (List.mem_cons_of_mem _ hy)) x z
theorem crossAll_len {one other : List Pt} : ∀ {ws : List Rat}, (crossAll one other ws).length ≤ ws.length - 1
  | [] => by simp [crossAll]
  | [a] => by simp [crossAll]
  | a :: b :: r => by
    have h1 := crossAll_len (one := one) (other := other) (ws := b :: r)
    rw [crossAll, List.length_append]
    cases crs one other a b with
    | none => simp at h1 ⊢; omega
    | some x => simp at h1 ⊢; omega
inductive S_crossings : List Dt → R → Prop
  | mk {one other : List Pt} {k : Nat} (h : Two one other k) (hk : k ≤ 16000) : S_crossings [encC one, encC other] (.fr ((crossings one other).map enc))
theorem zip_tail (ws : List Rat) : pairs (ws.map enc) (cutD (ws.map enc) (some 1) none) = (ws.zip ws.tail).map fun x => Dt.tup [enc x.1, enc x.2] := by
  have e : cutD (ws.map enc) (some 1) none = ws.tail.map enc := by
    unfold cutD HT.sIx
    cases ws with
    | nil => rfl
    | cons a r => simp; rw [List.take_of_length_le (by simp)]
  rw [e]
  clear e
  generalize ws.tail = l
  induction ws generalizing l with
  | nil => rfl
  | cons a r ih =>
    cases l with
    | nil => rfl
    | cons b l =>
      unfold pairs at ih ⊢
      rw [List.map_cons, List.map_cons, List.zipWith_cons_cons, ih l, List.zip_cons_cons, List.map_cons]
/-- the crossings one by one, at the end -/
def crsO (one other : List Pt) (x : Rat × Rat) : List Rat := match crs one other x.1 x.2 with
  | some x => [x]
  | none => []
theorem crossAll_fold {one other : List Pt} : ∀ {ws acc : List Rat}, (ws.zip ws.tail).foldl (fun acc x => acc ++ crsO one other x) acc = acc ++ crossAll one other ws
  | [], acc => by simp [crossAll]
  | [a], acc => by simp [crossAll]
  | a :: b :: r, acc => by
    have := crossAll_fold (one := one) (other := other) (ws := b :: r) (acc := acc ++ crsO one other (a, b))
    simp only [List.tail_cons, List.zip_cons_cons, List.foldl_cons] at this ⊢
    rw [this, crossAll, List.append_assoc]
    rfl
theorem num_mul_neg {a b : Rat} : decide (a.num * b.num < 0) = decide (a * b < 0) := by
  have h : (a.num * b.num < 0) ↔ a * b < 0 := by
    have sa : a.num < 0 ↔ a < 0 := by
      have := Rat.lt_iff a 0
      simpa using this.symm
    have sb : b.num < 0 ↔ b < 0 := by
      have := Rat.lt_iff b 0
      simpa using this.symm
    have pa : 0 < a.num ↔ 0 < a := by
      have := Rat.lt_iff 0 a
      simpa using this.symm
    have pb : 0 < b.num ↔ 0 < b := by
      have := Rat.lt_iff 0 b
      simpa using this.symm
    have za : a.num = 0 ↔ a = 0 := Rat.num_eq_zero
    have zb : b.num = 0 ↔ b = 0 := Rat.num_eq_zero
    rcases tri a with ha | ha | ha
    · have ia := sa.mpr ha
      rcases tri b with hb | hb | hb
      · have i1 := Int.mul_pos_of_neg_of_neg ia (sb.mpr hb)
        have r1 := Rat.mul_lt_mul_of_pos_right (c := -b) ha (by grind)
        constructor
        · intro z; omega
        · intro z; grind
      · rw [hb]; simp
      · have i1 := Int.mul_neg_of_neg_of_pos ia (pb.mpr hb)
        have r1 := Rat.mul_lt_mul_of_pos_right (c := b) ha hb
        constructor
        · intro z; grind
        · intro z; omega
    · rw [ha]; simp
    · have ia := pa.mpr ha
      rcases tri b with hb | hb | hb
      · have i1 := Int.mul_neg_of_pos_of_neg ia (sb.mpr hb)
        have r1 := Rat.mul_lt_mul_of_pos_right (c := -b) ha (by grind)
        constructor
        · intro z; grind
        · intro z; omega
      · rw [hb]; simp
      · have i1 := Int.mul_pos ia (pb.mpr hb)
        have r1 := Rat.mul_lt_mul_of_pos_right (c := b) ha hb
        constructor
        · intro z; omega
        · intro z; grind
  by_cases c : a * b < 0
  · rw [decide_eq_true c, decide_eq_true (h.mpr c)]
  · rw [decide_eq_false c, decide_eq_false fun z => c (h.mp z)]
end
end B
/-! text KY -/
set_option Elab.async false
set_option linter.all false
set_option maxRecDepth 100000
set_option autoImplicit false
namespace B
open PySem PySem.Spec PyProof.Rows L2
local macro_rules | `(tactic| walk_at "o+") => `(tactic| first | exact o_orL o_I0 | (exact o_orR (o_orL (o_cat (by assumption)))) | (exact o_orR (o_orR (o_catA (by assumption)))))
local macro_rules | `(tactic| walk_at "o*") => `(tactic| exact o_orL (o_mul (by walk_at "mul")))
local macro_rules | `(tactic| walk_at "mul") => `(tactic| first | assumption | exact mul_nd (by assumption) (by assumption) | exact mul_dd (by assumption) (by assumption) | exact mul_nn (by assumption) (by assumption) | exact mul_dn (by assumption) (by assumption))
local macro_rules | `(tactic| walk_at "nz") => `(tactic| assumption)
local macro_rules | `(tactic| walk_at "nzd") => `(tactic| exact den2_ne _ _)
local macro_rules | `(tactic| walk_at "ix") => `(tactic| first | exact o_ixT' rfl | exact o_ixL' rfl | exact o_ixT' (by assumption) | exact o_ixL' (by assumption))
local macro_rules | `(tactic| walk_at "o=") => `(tactic| first | exact o_orL o_eqI | exact o_orL o_neI | exact o_orL o_eqB | exact o_orL o_neB | exact o_orR (o_eqD (by assumption) (by assumption)) | exact o_orR (o_neD (by assumption) (by assumption)) | exact o_orR (o_eqD rfl rfl) | exact o_orR (o_neD rfl rfl))
local macro_rules | `(tactic| walk_at "b_gcd") => `(tactic| exact n_gcd)
local macro_rules | `(tactic| walk_at "b_len") => `(tactic| first | exact n_lenT | exact n_lenL)
local macro_rules | `(tactic| walk_at "b_tuple") => `(tactic| first | exact n_tupleL | exact n_tupleT)
local macro_rules | `(tactic| walk_at "b_isinstance") => `(tactic| exact n_isi rfl rfl)
local macro_rules | `(tactic| walk_at "b_all") => `(tactic| exact n_all)
local macro_rules | `(tactic| walk_at "b_lcm") => `(tactic| exact n_lcm (by assumption))
local macro_rules | `(tactic| walk_at "b_sorted") => `(tactic| exact n_sortedP)
local macro_rules | `(tactic| walk_at "sp") => `(tactic| (constructor <;> first | assumption | rfl | walk_at "nzd"))
section
variable {P : Program} {w : World} {K : PySem.W.Frag} {mg : Str → Option Value} {base : Heap} {vN vS : V}
theorem le_mul {a b c : Rat} (h : a ≤ b) (hc : 0 ≤ c) : a * c ≤ b * c := Rat.mul_le_mul_of_nonneg_right h hc
theorem lt_mul {a b c : Rat} (h : a < b) (hc : 0 < c) : a * c < b * c := Rat.mul_lt_mul_of_pos_right h hc
theorem dmc {a b : Rat} (h : b ≠ 0) : a / b * b = a := by grind
/-- a part between -/
theorem share_bd {a b : Rat} (h : a * b < 0) : a - b ≠ 0 ∧ 0 < a / (a - b) ∧ a / (a - b) < 1 := by
  have nz : a - b ≠ 0 := by
    intro z
    have e : a = b := by grind
    rw [e] at h
    exact absurd (rsq b) (Rat.not_le.mpr h)
  have d := dmc (a := a) nz
  refine ⟨nz, ?_⟩
  generalize a / (a - b) = t at d
  rcases tri a with ha | ha | ha
  · have hb : 0 < b := by
      by_cases c : 0 < b
      · exact c
      · have := le_mul (a := 0) (b := -a) (c := -b) (by grind) (by grind)
        grind
    constructor
    · by_cases c : 0 < t
      · exact c
      · have := le_mul (a := t) (b := 0) (c := b - a) (by grind) (by grind)
        grind
    · by_cases c : t < 1
      · exact c
      · have := le_mul (a := 1) (b := t) (c := b - a) (by grind) (by grind)
        grind
  · rw [ha] at h; grind
  · have hb : b < 0 := by
      by_cases c : b < 0
      · exact c
      · have := le_mul (a := 0) (b := a) (c := b) (by grind) (by grind)
        grind
    constructor
    · by_cases c : 0 < t
      · exact c
      · have := le_mul (a := t) (b := 0) (c := a - b) (by grind) (by grind)
        grind
    · by_cases c : t < 1
      · exact c
      · have := le_mul (a := 1) (b := t) (c := a - b) (by grind) (by grind)
        grind
theorem crs_bd {one other : List Pt} {n f x : Rat} (hnf : n < f) (e : crs one other n f = some x) : n < x ∧ x < f := by
  unfold crs at e
  split at e
  · rename_i hl
    cases e
    obtain ⟨_, h1, h2⟩ := share_bd hl
    generalize dif one other n / (dif one other n - dif one other f) = t at h1 h2
    have a1 := lt_mul h1 (show 0 < f - n by grind)
    have a2 := lt_mul h2 (show 0 < f - n by grind)
    constructor <;> grind
  · cases e
theorem crossAll_bd {one other : List Pt} : ∀ {ws : List Rat}, ws.Pairwise (· < ·) → ∀ x ∈ crossAll one other ws, ∃ n ∈ ws, n < x
  | [], _, x, hx => by simp [crossAll] at hx
  | [a], _, x, hx => by simp [crossAll] at hx
  | a :: b :: r, hp, x, hx => by
    rw [crossAll] at hx
    obtain ⟨h1, h2⟩ := List.pairwise_cons.mp hp
    rcases List.mem_append.mp hx with z | z
    · cases e : crs one other a b with
      | none => rw [e] at z; cases z
      | some y =>
        rw [e] at z
        rw [List.mem_singleton.mp z]
        exact ⟨a, by simp, (crs_bd (h1 b (by simp)) e).1⟩
    · obtain ⟨n, hn, hl⟩ := crossAll_bd h2 x z
      exact ⟨n, List.mem_cons_of_mem _ hn, hl⟩
theorem waters_pw {one other : List Pt} : (waters one other).Pairwise (· < ·) := rsort_pw
theorem crossings_nn {one other : List Pt} {k : Nat} (h : Two one other k) : ∀ x ∈ crossings one other, 0 ≤ x ∧ Sz (46 * k + 30) x := fun x hx => by
  unfold crossings at hx
  rcases List.mem_append.mp (rsort_mem.mp hx) with z | z
  · have := waters_nn h x z
    exact ⟨this.1, this.2.mono (by omega)⟩
  · obtain ⟨n, hn, hl⟩ := crossAll_bd waters_pw x z
    have := (waters_nn h n hn).1
    exact ⟨by grind, crossAll_sz h (fun y hy => (waters_nn h y hy).2) x z⟩
theorem crossings_len {one other : List Pt} : (crossings one other).length ≤ 2 * (one.length + other.length) - 1 := by
  unfold crossings
  have h1 := waters_len (one := one) (other := other)
  have h2 := crossAll_len (one := one) (other := other) (ws := waters one other)
  have h3 := rsort_len (xs := waters one other ++ crossAll one other (waters one other))
  rw [List.length_append] at h3
  omega
theorem crossO_len {one other : List Pt} {x : Rat × Rat} : (crsO one other x).length ≤ 1 := by
  unfold crsO
  split <;> simp
theorem zip_mem {ws : List Rat} {x : Rat × Rat} (h : x ∈ ws.zip ws.tail) : x.1 ∈ ws ∧ x.2 ∈ ws := by
  have := List.of_mem_zip h
  exact ⟨this.1, List.mem_of_mem_tail this.2⟩
theorem nolE {xs : List Rat} : nolR (.fr (xs.map enc)) = true := nols_map (fun x => nol_enc) xs
/-- the waters of two rows of corners -/
theorem hsumT {one other : List Pt} (h : one.length + other.length < 33) : (one.map encB).length + (other.map encB).length ≤ sizeLine := by
  rw [List.length_map, List.length_map]
  exact Nat.le_trans (Nat.le_of_lt h) (by decide)
theorem sz_all {one other : List Pt} {k : Nat} (h : Two one other k) : ∀ q ∈ (one ++ other).map (·.1), Sz k q := fun q hq => by
  obtain ⟨b, hb, rfl⟩ := List.mem_map.mp hq
  rcases List.mem_append.mp hb with z | z
  · exact (h.s1 b z).1
  · exact (h.s2 b z).1
theorem c_crossings (T : Txt P w K mg base vN vS) : Cl P w K mg base CX0 39 "crossings" (spP K S_crossings) := by
  refine clP T.d_crossings b_crossings sc_crossings (fun ds r h => by cases h; rfl) fun f cdv A outer s H E hr => ?_
  refine ⟨_, (pss_cons (ps_set (i := 2) sc_crossings.nd rfl (Or.inl rfl) (pe_cl (c_in_order T) hr (by decide) (by rfl) pass0 (pa_cons (pe_lc (own := [("own", 9)]) rfl sc_crossings.nd (pi_anyK K rfl (pe_op (op_addK K rfl) (pe_callTy call_list_of (by rfl) T.z_list (by decide +kernel) (pa_cons (pv 0) pa_nil)) (pe_callTy call_list_of (by rfl) T.z_list (by decide +kernel) (pa_cons (pv 1) pa_nil)))) (blkOk_by (N := n_crossings) (sc := defScope s_crossings) (by decide +kernel)) (by exact fun _ _ _ _ _ => (pg_name (i := 9) sc_crossings.nd rfl (Or.inl rfl))) (by exact fun _ _ _ _ _ => pts_nil) (by exact fun _ _ _ _ _ => (pe_ix (ix_sK K rfl) (pv 9) pe_int (fun _ _ => rfl)))) pa_nil))) (pss_cons (ps_set (i := 3) sc_crossings.nd rfl (Or.inl rfl) (pe_callTy call_list_of (by rfl) T.z_list (by decide +kernel) (pa_cons (pv 2) pa_nil))) (pss_cons (ps_for PassesOwn.leaving rfl (RZ.pi_zipA (by rfl) T.z_zip (pa_cons (pv 2) (pa_cons (pe_slice sl_any (pv 2) (po_some pe_int) po_none) pa_nil))) (pg_tupK (n := 2) K rfl rfl (pgs_cons (pg_name (i := 4) sc_crossings.nd rfl (Or.inl rfl)) (pgs_cons (pg_name (i := 5) sc_crossings.nd rfl (Or.inl rfl)) pgs_nil))) (pss_cons (ps_set (i := 6) sc_crossings.nd rfl (Or.inl rfl) (pe_cl (c_lessened T) hr (by decide) (by rfl) pass0 (pa_cons (pe_cl (c_height T) hr (by decide) (by rfl) pass0 (pa_cons (pv 0) (pa_cons (pv 4) pa_nil))) (pa_cons (pe_cl (c_height T) hr (by decide) (by rfl) pass0 (pa_cons (pv 1) (pa_cons (pv 4) pa_nil))) pa_nil)))) (pss_cons (ps_set (i := 7) sc_crossings.nd rfl (Or.inl rfl) (pe_cl (c_lessened T) hr (by decide) (by rfl) pass0 (pa_cons (pe_cl (c_height T) hr (by decide) (by rfl) pass0 (pa_cons (pv 0) (pa_cons (pv 5) pa_nil))) (pa_cons (pe_cl (c_height T) hr (by decide) (by rfl) pass0 (pa_cons (pv 1) (pa_cons (pv 5) pa_nil))) pa_nil)))) (pss_one (ps_if (pt_cmpR op_lt (pe_op op_mulA (pe_ix (ix_sK K rfl) (pv 6) pe_int (fun _ _ => rfl)) (pe_ix (ix_sK K rfl) (pv 7) pe_int (fun _ _ => rfl))) pe_int (nomark _)) (pss_cons (ps_set (i := 8) sc_crossings.nd rfl (Or.inl rfl) (pe_cl (c_divided T) hr (by decide) (by rfl) pass0 (pa_cons (pv 6) (pa_cons (pe_cl (c_lessened T) hr (by decide) (by rfl) pass0 (pa_cons (pv 6) (pa_cons (pv 7) pa_nil))) pa_nil)))) (pss_one (ps_expr (pe_bm PySem.F.plainAttrs_list PySem.F.slot_list_append PySem.F.type_list_append mt_append (pv 3) (pa_cons (pe_cl (c_added T) hr (by decide) (by rfl) pass0 (pa_cons (pv 4) (pa_cons (pe_cl (c_scaled T) hr (by decide) (by rfl) pass0 (pa_cons (pv 8) (pa_cons (pe_cl (c_lessened T) hr (by decide) (by rfl) pass0 (pa_cons (pv 5) (pa_cons (pv 4) pa_nil))) pa_nil))) pa_nil))) pa_nil))))) pss_nil))))) (pss_one (ps_ret (pe_cl (c_in_order T) hr (by decide) (by rfl) pass0 (pa_cons (pv 3) pa_nil))))))), fun Fz ds r h => ?_⟩
  cases h with
  | mk h hk =>
    rename_i one other k
    have hsum := hsumT h.l
    have hl3 := h.l
    have hlA : ((one ++ other).map (·.1)).length < 33 := by rw [List.length_map, List.length_append]; exact h.l
    have hzA : ((one ++ other).map (·.1)).length * k ≤ 50000000 := by
      have := Nat.mul_le_mul (Nat.le_of_lt hlA) hk
      omega
    have hlt1 : one.length < 1000000 := by omega
    have hlt2 : other.length < 1000000 := by omega
    refine fin_rt ?_
    refine xs_cons (y_set (e_frz (e_call (a_cons (e_frz (e_cast (e_lc1 (f := encB) (h := fun b => enc b.1) (xs := one ++ other) (i_anyF (e_cast (e_op (e_frz (e_cb (a_cons (e_var rfl) a_nil) n_listT)) (e_frz (e_cb (a_cons (e_var rfl) a_nil) n_listT)) (o_orR (o_orL (o_cat hsum)))) (by rw [List.map_append]))) (fun b hb => (e_op (e_var rfl) (e_int) (by walk_at "ix"))) (by rw [List.length_append]; exact Nat.lt_trans h.l (by decide))) (by rw [encB_fst]))) a_nil) (S_in_order.mk (sz_all h) hzA (by omega) (by omega))))) ?_
    have hwn := waters_nn h
    have hwl := waters_len (one := one) (other := other)
    have hcl := crossAll_len (one := one) (other := other) (ws := waters one other)
    have hwz : ∀ x : Rat × Rat, x ∈ (waters one other).zip (waters one other).tail → x.1 ∈ waters one other ∧ x.2 ∈ waters one other := fun x hx => zip_mem hx
    have hcs := crossAll_sz (one := one) (other := other) h (ws := waters one other) (fun y hy => (hwn y hy).2)
    have hfo := crossAll_fold (one := one) (other := other) (ws := waters one other) (acc := waters one other)
    show Ex _ _ ((startE n_crossings.length [encC one, encC other]).set 2 (some (.val (.lst ((waters one other).map enc))))) (.rt (.fr ((rsort (waters one other ++ crossAll one other (waters one other))).map enc)) _)
    rw [← hfo]
    have hql : ((waters one other).zip (waters one other).tail).length ≤ 32 := by
      rw [List.length_zip]; omega
    have hqm : ∀ x ∈ (waters one other).zip (waters one other).tail, (0 ≤ x.1 ∧ Sz k x.1) ∧ (0 ≤ x.2 ∧ Sz k x.2) := fun x hx => ⟨hwn _ (hwz x hx).1, hwn _ (hwz x hx).2⟩
    have hzt := zip_tail (waters one other)
    have hws : ∀ q ∈ ((waters one other).zip (waters one other).tail).foldl (fun acc x => acc ++ crsO one other x) (waters one other), Sz (46 * k + 30) q := fun q hq => by
      rw [hfo] at hq
      rcases List.mem_append.mp hq with z | z
      · exact (hwn q z).2.mono (by omega)
      · exact hcs q z
    have hwl2 : (((waters one other).zip (waters one other).tail).foldl (fun acc x => acc ++ crsO one other x) (waters one other)).length < 64 := by
      rw [hfo, List.length_append]; omega
    generalize waters one other = ws at *
    refine xs_cons (x_setON (p := true) (e_cb (a_cons (e_var rfl) a_nil) n_listL) (ltb rfl) (Nat.zero_le _) rfl) ?_
    refine xs_cons (y_for (hzt ▸ i_zipL (a_cons (e_var rfl) (a_cons (e_frz (e_slL (e_var rfl) (so_some e_int) so_none)) a_nil))) (forx_inv (f := fun x : Rat × Rat => Dt.tup [enc x.1, enc x.2]) (env := fun (acc : List Rat) => [some (.val (encC one)), some (.val (encC other)), some (.val (.lst (ws.map enc))), some (.own (acc.map enc)), none, none, none, none, none, none]) (g := fun acc x => acc ++ crsO one other x) (J := fun xs acc => (∀ x ∈ xs, (0 ≤ x.1 ∧ Sz k x.1) ∧ (0 ≤ x.2 ∧ Sz k x.2)) ∧ acc.length + xs.length ≤ 100) ?_ (b := ws) ⟨hqm, by omega⟩)) ?_
    · rintro x xs acc ⟨hx, hn⟩
      obtain ⟨⟨p1, z1⟩, p2, z2⟩ := hx x (List.mem_cons_self ..)
      rw [List.length_cons] at hn
      have sh1 : Sm (hgt one x.1) := (sz_hgt h.s1 h.c1.inc z1 h.c1.ne).sm (by omega)
      have sh2 : Sm (hgt other x.1) := (sz_hgt h.s2 h.c2.inc z1 h.c2.ne).sm (by omega)
      have sh3 : Sm (hgt one x.2) := (sz_hgt h.s1 h.c1.inc z2 h.c1.ne).sm (by omega)
      have sh4 : Sm (hgt other x.2) := (sz_hgt h.s2 h.c2.inc z2 h.c2.ne).sm (by omega)
      have d1 := sz_dif h z1
      have d2 := sz_dif h z2
      have sd1 : Sm (dif one other x.1) := d1.sm (by omega)
      have sd2 : Sm (dif one other x.2) := d2.sm (by omega)
      have sx1 : Sm x.1 := z1.sm (by omega)
      have sx2 : Sm x.2 := z2.sm (by omega)
      refine ⟨.inl (turn (g_tup (gs_cons (g_name (ltb rfl)) (gs_cons (g_name (ltb rfl)) gs_nil))) (xs_cons (y_set (e_call (a_cons (e_call (a_cons (e_var rfl) (a_cons (e_var rfl) a_nil)) (S_height.mk h.c1 h.s1 z1 p1 (by omega) hlt1)) (a_cons (e_call (a_cons (e_var rfl) (a_cons (e_var rfl) a_nil)) (S_height.mk h.c2 h.s2 z1 p1 (by omega) hlt2)) a_nil)) (S_lessened.mk sh1 sh2))) (xs_cons (y_set (e_call (a_cons (e_call (a_cons (e_var rfl) (a_cons (e_var rfl) a_nil)) (S_height.mk h.c1 h.s1 z2 p2 (by omega) hlt1)) (a_cons (e_call (a_cons (e_var rfl) (a_cons (e_var rfl) a_nil)) (S_height.mk h.c2 h.s2 z2 p2 (by omega) hlt2)) a_nil)) (S_lessened.mk sh3 sh4))) ?_))), fun y hy => hx y (List.mem_cons_of_mem _ hy), by rw [List.length_append]; have := crossO_len (one := one) (other := other) (x := x); omega⟩
      refine x_forget (i := 4) (x_forget (i := 5) (x_forget (i := 6) (x_forget (i := 7) (x_forget (i := 8) (y_if (o := .nx [some (.val (encC one)), some (.val (encC other)), some (.val (.lst (ws.map enc))), some (.own ((acc ++ crsO one other x).map enc)), some (.val (enc x.1)), some (.val (enc x.2)), some (.val (enc (dif one other x.1))), some (.val (enc (dif one other x.2))), none, none]) (b := decide (dif one other x.1 * dif one other x.2 < 0)) (t_cast (t_test (e_op (e_op (e_op (e_var rfl) e_int (by walk_at "ix")) (e_op (e_var rfl) e_int (by walk_at "ix")) (o_orL (o_mul (mul_nn sd1 sd2)))) e_int o_C0)) num_mul_neg) (fun hc => ?_) (fun hc => ?_)) rfl) rfl) rfl) rfl) rfl
      · have hc' := of_decide_eq_true hc
        have nz := (share_bd hc').1
        have e : crsO one other x = [x.1 + dif one other x.1 / (dif one other x.1 - dif one other x.2) * (x.2 - x.1)] := by unfold crsO crs; rw [if_pos hc']
        have s3 := sz_sub d1 d2
        have s4 := sz_div d1 s3 nz
        have s5 := sz_sub z2 z1
        have m3 : Sm (dif one other x.1 - dif one other x.2) := s3.sm (by omega)
        have m4 : Sm (dif one other x.1 / (dif one other x.1 - dif one other x.2)) := s4.sm (by omega)
        have m5 : Sm (x.2 - x.1) := s5.sm (by omega)
        have m6 : Sm (dif one other x.1 / (dif one other x.1 - dif one other x.2) * (x.2 - x.1)) := (sz_mul s4 s5).sm (by omega)
        rw [e, List.map_append]
        refine x_forget (i := 8) (xs_cons (y_set (e_call (a_cons (e_var rfl) (a_cons (e_call (a_cons (e_var rfl) (a_cons (e_var rfl) a_nil)) (S_lessened.mk sd1 sd2)) a_nil)) (S_divided.mk sd1 m3 nz))) (x_append (p := true) (e_call (a_cons (e_var rfl) (a_cons (e_call (a_cons (e_var rfl) (a_cons (e_call (a_cons (e_var rfl) (a_cons (e_var rfl) a_nil)) (S_lessened.mk sx2 sx1)) a_nil)) (S_scaled.mk m4 m5)) a_nil)) (S_added.mk sx1 m6)) ⟨_, rfl⟩ rfl ?_)) rfl
        rw [List.length_map]
        exact Nat.lt_of_le_of_lt (show acc.length ≤ 100 by omega) (by decide)
      · have e : crsO one other x = [] := by unfold crsO crs; rw [if_neg (of_decide_eq_false hc)]
        rw [e, List.append_nil]
        exact x_next
    · refine y_retF (e_borrowR (i := 3) rfl (e_call (a_cons (e_var rfl) a_nil) (S_in_order.mk hws ?_ (by omega) hwl2)) nolE)
      have := Nat.mul_le_mul (Nat.le_of_lt_succ hwl2) (show 46 * k + 30 ≤ 736030 by omega)
      omega
end
end B
/-! text KZ -/
set_option Elab.async false
set_option linter.all false
set_option maxRecDepth 100000
set_option autoImplicit false
namespace B
open PySem PySem.Spec PyProof.Rows L2
local macro_rules | `(tactic| walk_at "o+") => `(tactic| first | exact o_orL o_I0 | (exact o_orR (o_orL (o_cat (by assumption)))) | (exact o_orR (o_orR (o_catA (by assumption)))))
local macro_rules | `(tactic| walk_at "o*") => `(tactic| exact o_orL (o_mul (by walk_at "mul")))
local macro_rules | `(tactic| walk_at "mul") => `(tactic| first | assumption | exact mul_nd (by assumption) (by assumption) | exact mul_dd (by assumption) (by assumption) | exact mul_nn (by assumption) (by assumption) | exact mul_dn (by assumption) (by assumption))
local macro_rules | `(tactic| walk_at "nz") => `(tactic| assumption)
local macro_rules | `(tactic| walk_at "nzd") => `(tactic| exact den2_ne _ _)
local macro_rules | `(tactic| walk_at "ix") => `(tactic| first | exact o_ixT' rfl | exact o_ixL' rfl | exact o_ixT' (by assumption) | exact o_ixL' (by assumption))
local macro_rules | `(tactic| walk_at "o=") => `(tactic| first | exact o_orL o_eqI | exact o_orL o_neI | exact o_orL o_eqB | exact o_orL o_neB | exact o_orR (o_eqD (by assumption) (by assumption)) | exact o_orR (o_neD (by assumption) (by assumption)) | exact o_orR (o_eqD rfl rfl) | exact o_orR (o_neD rfl rfl))
local macro_rules | `(tactic| walk_at "b_gcd") => `(tactic| exact n_gcd)
local macro_rules | `(tactic| walk_at "b_len") => `(tactic| first | exact n_lenT | exact n_lenL)
local macro_rules | `(tactic| walk_at "b_tuple") => `(tactic| first | exact n_tupleL | exact n_tupleT)
local macro_rules | `(tactic| walk_at "b_isinstance") => `(tactic| exact n_isi rfl rfl)
local macro_rules | `(tactic| walk_at "b_all") => `(tactic| exact n_all)
local macro_rules | `(tactic| walk_at "b_lcm") => `(tactic| exact n_lcm (by assumption))
local macro_rules | `(tactic| walk_at "b_sorted") => `(tactic| exact n_sortedP)
local macro_rules | `(tactic| walk_at "sp") => `(tactic| (constructor <;> first | assumption | rfl | walk_at "nzd"))
section
variable {P : Program} {w : World} {K : PySem.W.Frag} {mg : Str → Option Value} {base : Heap} {vN vS : V}
theorem sz_max {a b : Rat} {k : Nat} (ha : Sz k a) (hb : Sz k b) : Sz k (max a b) := by
  rw [max_if]; split <;> assumption
theorem sz_min {a b : Rat} {k : Nat} (ha : Sz k a) (hb : Sz k b) : Sz k (min a b) := by
  rw [min_if]; split <;> assumption
inductive S_excess : List Dt → R → Prop
  | mk {c : List Pt} {x : Rat} {k j : Nat} (hc : Cv c) (hs : CSz k c) (hx : Sz j x) (h0 : 0 ≤ x) (hk : 4 * k + 2 + j ≤ 30000000) (hl : c.length < 1000000) : S_excess [encC c, enc x] (.val (enc (exc c x)))
theorem c_excess (T : Txt P w K mg base vN vS) : Cl P w K mg base CX0 41 "excess" (spP K S_excess) := by
  refine clP T.d_excess b_excess sc_excess (fun ds r h => by cases h; rfl) fun f cdv A outer s H E hr => ?_
  refine ⟨_, (pss_cons (ps_set (i := 2) sc_excess.nd rfl (Or.inl rfl) (pe_cl (c_sure_curve T) hr (by decide) (by rfl) pass0 (pa_cons (pv 0) pa_nil))) (pss_cons (ps_set (i := 3) sc_excess.nd rfl (Or.inl rfl) (pe_cl (c_sure_amount T) hr (by decide) (by rfl) pass0 (pa_cons (pv 1) pa_nil))) (pss_cons (ps_set (i := 4) sc_excess.nd rfl (Or.inl rfl) (pe_globK (T.k_NOTHING) (by rfl))) (pss_cons (ps_for PassesOwn.leaving rfl (pi_anyK K rfl (pv 2)) (pg_name (i := 5) sc_excess.nd rfl (Or.inl rfl)) (pss_one (ps_set (i := 4) sc_excess.nd rfl (Or.inl rfl) (pe_cl (c_greater_of T) hr (by decide) (by rfl) pass0 (pa_cons (pv 4) (pa_cons (pe_cl (c_lessened T) hr (by decide) (by rfl) pass0 (pa_cons (pe_ix (ix_sK K rfl) (pv 5) pe_int (fun _ _ => rfl)) (pa_cons (pe_cl (c_scaled T) hr (by decide) (by rfl) pass0 (pa_cons (pv 3) (pa_cons (pe_ix (ix_sK K rfl) (pv 5) pe_int (fun _ _ => rfl)) pa_nil))) pa_nil))) pa_nil)))))) (pss_one (ps_ret (pv 4))))))), fun Fz ds r h => ?_⟩
  cases h with
  | mk hc hs hx h0 hk hl =>
    rename_i c x k j
    have sx : Sm x := hx.sm (by omega)
    have hk2 : 4 * k + 2 ≤ 40000000 := by omega
    refine fin_rt ?_
    refine xs_cons (y_set (e_call (a_cons (e_var rfl) a_nil) (S_sure_curve.mk hc hs hk2 hl))) ?_
    refine xs_cons (y_set (e_call (a_cons (e_var rfl) a_nil) (S_sure_amount.mk h0))) ?_
    refine xs_cons (y_set (e_cK T.r_NOTHING)) ?_
    refine xs_cons (y_for (i_anyT (e_var rfl)) (forx_inv (f := encB) (env := fun q => [some (.val (encC c)), some (.val (enc x)), some (.val (encC c)), some (.val (enc x)), some (.val (enc q)), none]) (g := fun f b => max f (b.2 - x * b.1)) (J := fun xs q => Sz (2 * k + j + 2) q ∧ CSz k xs) ?_ (b := 0) ⟨sz_zero (by omega), hs⟩)) ?_
    · rintro b xs q ⟨hq, hb⟩
      have h1 := hb b (List.mem_cons_self ..)
      have s1 : Sm b.1 := h1.1.sm (by omega)
      have s2 : Sm b.2 := h1.2.sm (by omega)
      have s3 : Sm (x * b.1) := (sz_mul hx h1.1).sm (by omega)
      have s4 : Sz (2 * k + j + 2) (b.2 - x * b.1) := (sz_sub h1.2 (sz_mul hx h1.1)).mono (by omega)
      have s5 : Sm (b.2 - x * b.1) := s4.sm (by omega)
      have s6 : Sm q := hq.sm (by omega)
      exact ⟨.inl (turn (g_name (ltb rfl)) (x_forget (i := 5) (y_set (e_call (a_cons (e_var rfl) (a_cons (e_call (a_cons (e_op (e_var rfl) (e_int) (by walk_at "ix")) (a_cons (e_call (a_cons (e_var rfl) (a_cons (e_op (e_var rfl) (e_int) (by walk_at "ix")) a_nil)) (by walk_at "sp")) a_nil)) (by walk_at "sp")) a_nil)) (by walk_at "sp"))) rfl)), sz_max hq s4, fun y hy => hb y (List.mem_cons_of_mem _ hy)⟩
    · exact y_ret (e_var rfl)
theorem sz_lowPts {one other : List Pt} {k : Nat} (h : Two one other k) : CSz (52 * k + 34) (lowPts one other) := fun b hb => by
  obtain ⟨w, hw, rfl⟩ := List.mem_map.mp hb
  have hwn := (crossings_nn h w hw).2
  exact ⟨hwn.mono (by omega), sz_min ((sz_hgt h.s1 h.c1.inc hwn h.c1.ne).mono (by omega)) ((sz_hgt h.s2 h.c2.inc hwn h.c2.ne).mono (by omega))⟩
theorem sz_uppPts {one other : List Pt} {k : Nat} (h : Two one other k) : CSz (7 * k + 4) (uppPts one other) := fun b hb => by
  obtain ⟨w, hw, rfl⟩ := List.mem_map.mp hb
  have hwn := (waters_nn h w hw).2
  exact ⟨hwn.mono (by omega), sz_max ((sz_hgt h.s1 h.c1.inc hwn h.c1.ne).mono (by omega)) ((sz_hgt h.s2 h.c2.inc hwn h.c2.ne).mono (by omega))⟩
theorem map_pts {ws : List Rat} {g : Rat → Rat} : (ws.map fun w => Dt.tup [enc w, enc (g w)]) = (ws.map fun w => ((w, g w) : Pt)).map encB := by rw [List.map_map]; rfl
def lower (one other : List Pt) : List Pt := smooth (lowPts one other)
def upper (one other : List Pt) : List Pt := smooth (uppPts one other)
inductive S_lower_of : List Dt → R → Prop
  | mk {one other : List Pt} {k : Nat} (h : Two one other k) (hk : k ≤ 16000) : S_lower_of [encC one, encC other] (.val (encC (lower one other)))
theorem c_lower_of (T : Txt P w K mg base vN vS) : Cl P w K mg base CX0 41 "lower_of" (spP K S_lower_of) := by
  refine clP T.d_lower_of b_lower_of sc_lower_of (fun ds r h => by cases h; rfl) fun f cdv A outer s H E hr => ?_
  refine ⟨_, (pss_cons (ps_setLc (i := 2) (own := [("water", 3)]) rfl sc_lower_of.nd rfl rfl (sw_true rfl rfl rfl (by decide +kernel)) (pi_anyK K rfl (pe_cl (c_crossings T) hr (by decide) (by rfl) pass0 (pa_cons (pv 0) (pa_cons (pv 1) pa_nil)))) (blkOk_by (N := n_lower_of) (sc := defScope s_lower_of) (by decide +kernel)) (by exact fun _ _ _ _ _ => (pg_name (i := 3) sc_lower_of.nd rfl (Or.inl rfl))) (by exact fun _ _ _ _ _ => pts_nil) (by exact fun _ _ _ _ _ => (pe_tup (pa_cons (pv 3) (pa_cons (pe_cl (c_lesser_of T) hr (by decide) (by rfl) pass0 (pa_cons (pe_cl (c_height T) hr (by decide) (by rfl) pass0 (pa_cons (pv 0) (pa_cons (pv 3) pa_nil))) (pa_cons (pe_cl (c_height T) hr (by decide) (by rfl) pass0 (pa_cons (pv 1) (pa_cons (pv 3) pa_nil))) pa_nil))) pa_nil))))) (pss_one (ps_ret (pe_cl (c_smoothed T) hr (by decide) (by rfl) pass0 (pa_cons (pv 2) pa_nil))))), fun Fz ds r h => ?_⟩
  cases h with
  | mk h hk =>
    rename_i one other k
    have hl3 := h.l
    have hlt1 : one.length < 1000000 := by omega
    have hlt2 : other.length < 1000000 := by omega
    have hcl := crossings_len (one := one) (other := other)
    refine fin_rt ?_
    refine xs_cons (y_set (e_frz (e_lc1 (f := enc) (h := fun w => Dt.tup [enc w, enc (min (hgt one w) (hgt other w))]) (xs := crossings one other) (i_anyF (e_call (a_cons (e_var rfl) (a_cons (e_var rfl) a_nil)) (S_crossings.mk h hk))) (fun w hw => ?_) (lt_sz (by omega))))) ?_
    · obtain ⟨p1, z1⟩ := crossings_nn h w hw
      have sh1 : Sm (hgt one w) := (sz_hgt h.s1 h.c1.inc z1 h.c1.ne).sm (by omega)
      have sh2 : Sm (hgt other w) := (sz_hgt h.s2 h.c2.inc z1 h.c2.ne).sm (by omega)
      exact e_tup (a_cons (e_var rfl) (a_cons (e_call (a_cons (e_call (a_cons (e_var rfl) (a_cons (e_var rfl) a_nil)) (S_height.mk h.c1 h.s1 z1 p1 (by omega) hlt1)) (a_cons (e_call (a_cons (e_var rfl) (a_cons (e_var rfl) a_nil)) (S_height.mk h.c2 h.s2 z1 p1 (by omega) hlt2)) a_nil)) (S_lesser_of.mk sh1 sh2)) a_nil))
    · rw [map_pts]
      exact y_ret (e_call (a_cons (e_var rfl) a_nil) (S_smoothed.mk (ps := lowPts one other) (sz_lowPts h) (by omega) (by unfold lowPts; rw [List.length_map]; omega)))
inductive S_upper_of : List Dt → R → Prop
  | mk {one other : List Pt} {k : Nat} (h : Two one other k) (hk : k ≤ 1000000) : S_upper_of [encC one, encC other] (.val (encC (upper one other)))
theorem c_upper_of (T : Txt P w K mg base vN vS) : Cl P w K mg base CX0 40 "upper_of" (spP K S_upper_of) := by
  refine clP T.d_upper_of b_upper_of sc_upper_of (fun ds r h => by cases h; rfl) fun f cdv A outer s H E hr => ?_
  refine ⟨_, (pss_cons (ps_set (i := 2) sc_upper_of.nd rfl (Or.inl rfl) (pe_cl (c_in_order T) hr (by decide) (by rfl) pass0 (pa_cons (pe_lc (own := [("own", 3)]) rfl sc_upper_of.nd (pi_anyK K rfl (pe_op (op_addK K rfl) (pe_callTy call_list_of (by rfl) T.z_list (by decide +kernel) (pa_cons (pv 0) pa_nil)) (pe_callTy call_list_of (by rfl) T.z_list (by decide +kernel) (pa_cons (pv 1) pa_nil)))) (blkOk_by (N := n_upper_of) (sc := defScope s_upper_of) (by decide +kernel)) (by exact fun _ _ _ _ _ => (pg_name (i := 3) sc_upper_of.nd rfl (Or.inl rfl))) (by exact fun _ _ _ _ _ => pts_nil) (by exact fun _ _ _ _ _ => (pe_ix (ix_sK K rfl) (pv 3) pe_int (fun _ _ => rfl)))) pa_nil))) (pss_one (ps_ret (pe_cl (c_smoothed T) hr (by decide) (by rfl) pass0 (pa_cons (pe_lc (own := [("water", 4)]) rfl sc_upper_of.nd (pi_anyK K rfl (pv 2)) (blkOk_by (N := n_upper_of) (sc := defScope s_upper_of) (by decide +kernel)) (by exact fun _ _ _ _ _ => (pg_name (i := 4) sc_upper_of.nd rfl (Or.inl rfl))) (by exact fun _ _ _ _ _ => pts_nil) (by exact fun _ _ _ _ _ => (pe_tup (pa_cons (pv 4) (pa_cons (pe_cl (c_greater_of T) hr (by decide) (by rfl) pass0 (pa_cons (pe_cl (c_height T) hr (by decide) (by rfl) pass0 (pa_cons (pv 0) (pa_cons (pv 4) pa_nil))) (pa_cons (pe_cl (c_height T) hr (by decide) (by rfl) pass0 (pa_cons (pv 1) (pa_cons (pv 4) pa_nil))) pa_nil))) pa_nil))))) pa_nil))))), fun Fz ds r h => ?_⟩
  cases h with
  | mk h hk =>
    rename_i one other k
    have hsum := hsumT h.l
    have hl3 := h.l
    have hlA : ((one ++ other).map (·.1)).length < 33 := by rw [List.length_map, List.length_append]; exact h.l
    have hzA : ((one ++ other).map (·.1)).length * k ≤ 50000000 := by
      have := Nat.mul_le_mul (Nat.le_of_lt hlA) hk
      omega
    have hlt1 : one.length < 1000000 := by omega
    have hlt2 : other.length < 1000000 := by omega
    have hwl := waters_len (one := one) (other := other)
    refine fin_rt ?_
    refine xs_cons (y_set (e_frz (e_call (a_cons (e_frz (e_cast (e_lc1 (f := encB) (h := fun b => enc b.1) (xs := one ++ other) (i_anyF (e_cast (e_op (e_frz (e_cb (a_cons (e_var rfl) a_nil) n_listT)) (e_frz (e_cb (a_cons (e_var rfl) a_nil) n_listT)) (o_orR (o_orL (o_cat hsum)))) (by rw [List.map_append]))) (fun b hb => (e_op (e_var rfl) (e_int) (by walk_at "ix"))) (by rw [List.length_append]; exact Nat.lt_trans h.l (by decide))) (by rw [encB_fst]))) a_nil) (S_in_order.mk (sz_all h) hzA (by omega) (by omega))))) ?_
    show Ex _ _ ((startE n_upper_of.length [encC one, encC other]).set 2 (some (.val (.lst ((waters one other).map enc))))) _
    refine y_ret (e_call (a_cons (e_frz (e_cast (e_lc1 (f := enc) (h := fun w => Dt.tup [enc w, enc (max (hgt one w) (hgt other w))]) (xs := waters one other) (i_anyL (e_var rfl)) (fun w hw => ?_) (lt_sz (by omega))) (by rw [map_pts]; rfl))) a_nil) (S_smoothed.mk (ps := uppPts one other) (sz_uppPts h) (by omega) (by unfold uppPts; rw [List.length_map]; omega)))
    obtain ⟨p1, z1⟩ := waters_nn h w hw
    have sh1 : Sm (hgt one w) := (sz_hgt h.s1 h.c1.inc z1 h.c1.ne).sm (by omega)
    have sh2 : Sm (hgt other w) := (sz_hgt h.s2 h.c2.inc z1 h.c2.ne).sm (by omega)
    exact e_tup (a_cons (e_var rfl) (a_cons (e_call (a_cons (e_call (a_cons (e_var rfl) (a_cons (e_var rfl) a_nil)) (S_height.mk h.c1 h.s1 z1 p1 (by omega) hlt1)) (a_cons (e_call (a_cons (e_var rfl) (a_cons (e_var rfl) a_nil)) (S_height.mk h.c2 h.s2 z1 p1 (by omega) hlt2)) a_nil)) (S_greater_of.mk sh1 sh2)) a_nil))
/-! the interface -/
inductive S_curve : List Dt → R → Prop
  | mk {c : List Pt} {k : Nat} (hn : ∀ b ∈ c, Nn b) (hs : CSz k c) (hk : (c.length + 1) * (k + 1) ≤ 4000000) (hl : c.length < 100000) : S_curve [encC c] (.val (encC (curveOf c)))
theorem c_curve (T : Txt P w K mg base vN vS) : Cl P w K mg base CX0 42 "curve" (spP K S_curve) := by
  refine clP T.d_curve b_curve sc_curve (fun ds r h => by cases h; rfl) fun f cdv A outer s H E hr => ?_
  refine ⟨_, (pss_one (ps_ret (pe_cl (c_curve_of T) hr (by decide) (by rfl) pass0 (pa_cons (pe_cl (c_sure_stock T) hr (by decide) (by rfl) pass0 (pa_cons (pv 0) pa_nil)) pa_nil)))), fun Fz ds r h => ?_⟩
  cases h with
  | mk hn hs hk hl => exact fin_rt (y_ret (e_call (a_cons (e_call (a_cons (e_var rfl) a_nil) (S_sure_stock.mk hn (by omega))) a_nil) (S_curve_of.mk hs hk hl)))
inductive S_salt_at : List Dt → R → Prop
  | mk {c : List Pt} {x : Rat} {k j : Nat} (hc : Cv c) (hs : CSz k c) (hx : Sz j x) (h0 : 0 ≤ x) (hk : 6 * k + j + 4 ≤ 40000000) (hl : c.length < 1000000) : S_salt_at [encC c, enc x] (.val (enc (hgt c x)))
theorem c_salt_at (T : Txt P w K mg base vN vS) : Cl P w K mg base CX0 42 "salt_at" (spP K S_salt_at) := by
  refine clP T.d_salt_at b_salt_at sc_salt_at (fun ds r h => by cases h; rfl) fun f cdv A outer s H E hr => ?_
  refine ⟨_, (pss_cons (ps_set (i := 2) sc_salt_at.nd rfl (Or.inl rfl) (pe_cl (c_sure_curve T) hr (by decide) (by rfl) pass0 (pa_cons (pv 0) pa_nil))) (pss_one (ps_ret (pe_cl (c_height T) hr (by decide) (by rfl) pass0 (pa_cons (pv 2) (pa_cons (pe_cl (c_sure_amount T) hr (by decide) (by rfl) pass0 (pa_cons (pv 1) pa_nil)) pa_nil)))))), fun Fz ds r h => ?_⟩
  cases h with
  | mk hc hs hx h0 hk hl =>
    exact fin_rt (xs_cons (y_set (e_call (a_cons (e_var rfl) a_nil) (S_sure_curve.mk hc hs (by omega) hl))) (y_ret (e_call (a_cons (e_var rfl) (a_cons (e_call (a_cons (e_var rfl) a_nil) (S_sure_amount.mk h0)) a_nil)) (S_height.mk hc hs hx h0 hk hl))))
inductive S_water_for : List Dt → R → Prop
  | mk {c : List Pt} {y : Rat} {k j : Nat} {l : Pt} (hc : Cv c) (hs : CSz k c) (hy : Sz j y) (h0 : 0 ≤ y) (hl1 : c.getLast? = some l) (hle : y ≤ l.2) (hk : 6 * k + j + 4 ≤ 40000000) (hl : c.length < 1000000) : S_water_for [encC c, enc y] (.val (enc (rch c y)))
theorem c_water_for (T : Txt P w K mg base vN vS) : Cl P w K mg base CX0 42 "water_for" (spP K S_water_for) := by
  refine clP T.d_water_for b_water_for sc_water_for (fun ds r h => by cases h; rfl) fun f cdv A outer s H E hr => ?_
  refine ⟨_, (pss_cons (ps_set (i := 2) sc_water_for.nd rfl (Or.inl rfl) (pe_cl (c_sure_curve T) hr (by decide) (by rfl) pass0 (pa_cons (pv 0) pa_nil))) (pss_cons (ps_set (i := 3) sc_water_for.nd rfl (Or.inl rfl) (pe_cl (c_reach T) hr (by decide) (by rfl) pass0 (pa_cons (pv 2) (pa_cons (pe_cl (c_sure_amount T) hr (by decide) (by rfl) pass0 (pa_cons (pv 1) pa_nil)) pa_nil)))) (pss_cons (ps_if (pt_cmpR op_isN (pv 3) pe_non (nomark _)) (pss_one ps_never) pss_nil) (pss_one (ps_ret (pv 3)))))), fun Fz ds r h => ?_⟩
  cases h with
  | mk hc hs hy h0 hl1 hle hk hl =>
    exact fin_rt (xs_cons (y_set (e_call (a_cons (e_var rfl) a_nil) (S_sure_curve.mk hc hs (by omega) hl))) (xs_cons (y_set (e_call (a_cons (e_var rfl) (a_cons (e_call (a_cons (e_var rfl) a_nil) (S_sure_amount.mk h0)) a_nil)) (S_reach.mk hc hs hy hl1 hle hk hl))) (xs_cons (y_ifF (t_cast (t_test (e_op (e_var rfl) (e_non) o_isN)) rfl) x_next) (y_ret (e_var rfl)))))
inductive S_stock_of : List Dt → R → Prop
  | mk {c : List Pt} {k : Nat} (hc : Cv c) (hs : CSz k c) (hk : 4 * k + 2 ≤ 40000000) (hl : c.length < 1000000) : S_stock_of [encC c] (.val (encC (steps c)))
theorem c_stock_of (T : Txt P w K mg base vN vS) : Cl P w K mg base CX0 41 "stock_of" (spP K S_stock_of) := by
  refine clP T.d_stock_of b_stock_of sc_stock_of (fun ds r h => by cases h; rfl) fun f cdv A outer s H E hr => ?_
  refine ⟨_, (pss_one (ps_ret (pe_cl (c_steps_of T) hr (by decide) (by rfl) pass0 (pa_cons (pe_cl (c_sure_curve T) hr (by decide) (by rfl) pass0 (pa_cons (pv 0) pa_nil)) pa_nil)))), fun Fz ds r h => ?_⟩
  cases h with
  | mk hc hs hk hl => exact fin_rt (y_ret (e_call (a_cons (e_call (a_cons (e_var rfl) a_nil) (S_sure_curve.mk hc hs hk hl)) a_nil) (S_steps_of.mk hc hs (by omega) hl)))
def tog (one other : List Pt) : List Pt := curveOf (steps one ++ steps other)
inductive S_together : List Dt → R → Prop
  | mk {one other : List Pt} {k : Nat} (c1 : Cv one) (c2 : Cv other) (s1 : CSz k one) (s2 : CSz k other) (hk : (one.length + other.length + 1) * (2 * k + 2) ≤ 4000000) (hl : one.length + other.length < 1000) : S_together [encC one, encC other] (.val (encC (tog one other)))
theorem c_together (T : Txt P w K mg base vN vS) : Cl P w K mg base CX0 41 "together" (spP K S_together) := by
  refine clP T.d_together b_together sc_together (fun ds r h => by cases h; rfl) fun f cdv A outer s H E hr => ?_
  refine ⟨_, (pss_cons (ps_par (i := 2) (j := 3) rfl sc_together.nd rfl rfl (by decide) rfl rfl (pa_cons (pe_cl (c_sure_curve T) hr (by decide) (by rfl) pass0 (pa_cons (pv 0) pa_nil)) (pa_cons (pe_cl (c_sure_curve T) hr (by decide) (by rfl) pass0 (pa_cons (pv 1) pa_nil)) pa_nil)) (by rfl)) (pss_one (ps_ret (pe_cl (c_curve_of T) hr (by decide) (by rfl) pass0 (pa_cons (pe_op (op_addK K rfl) (pe_cl (c_steps_of T) hr (by decide) (by rfl) pass0 (pa_cons (pv 2) pa_nil)) (pe_cl (c_steps_of T) hr (by decide) (by rfl) pass0 (pa_cons (pv 3) pa_nil))) pa_nil))))), fun Fz ds r h => ?_⟩
  cases h with
  | mk c1 c2 s1 s2 hk hl =>
    rename_i one other k
    have l1 := steps_len one
    have l2 := steps_len other
    have hlA : (steps one ++ steps other).length ≤ one.length + other.length := by rw [List.length_append]; omega
    have hz : ((steps one).map encB).length + ((steps other).map encB).length ≤ sizeLine := by
      rw [List.length_map, List.length_map]
      exact Nat.le_trans (show _ ≤ 1000 by omega) (by decide)
    have hkk : k ≤ 2000000 := by
      rw [Nat.succ_mul] at hk
      omega
    have hs : CSz (2 * k + 1) (steps one ++ steps other) := fun b hb => by
      rcases List.mem_append.mp hb with z | z
      · exact steps_sz s1 b z
      · exact steps_sz s2 b z
    have hk2 : ((steps one ++ steps other).length + 1) * (2 * k + 1 + 1) ≤ 4000000 := Nat.le_trans (Nat.mul_le_mul_right _ (Nat.succ_le_succ hlA)) hk
    refine fin_rt ?_
    refine xs_cons (y_par (a_cons (e_call (a_cons (e_var rfl) a_nil) (S_sure_curve.mk c1 s1 (by omega) (by omega))) (a_cons (e_call (a_cons (e_var rfl) a_nil) (S_sure_curve.mk c2 s2 (by omega) (by omega))) a_nil))) ?_
    exact y_ret (e_call (a_cons (e_cast (e_op (e_call (a_cons (e_var rfl) a_nil) (S_steps_of.mk c1 s1 (by omega) (by omega))) (e_call (a_cons (e_var rfl) a_nil) (S_steps_of.mk c2 s2 (by omega) (by omega))) (o_orR (o_orR (o_catA hz)))) (r' := .val (encC (steps one ++ steps other))) (by unfold encC; rw [List.map_append])) a_nil) (S_curve_of.mk hs hk2 (by omega)))
inductive S_sunned : List Dt → R → Prop
  | mk {c : List Pt} {x : Rat} {k j : Nat} (hc : Cv c) (hs : CSz k c) (hx : Sz j x) (h0 : 0 ≤ x) (hk : 6 * k + j + 4 ≤ 40000000) (hl : c.length < 1000000) : S_sunned [encC c, enc x] (.val (encC (shf c x)))
theorem c_sunned (T : Txt P w K mg base vN vS) : Cl P w K mg base CX0 42 "sunned" (spP K S_sunned) := by
  refine clP T.d_sunned b_sunned sc_sunned (fun ds r h => by cases h; rfl) fun f cdv A outer s H E hr => ?_
  refine ⟨_, (pss_cons (ps_set (i := 2) sc_sunned.nd rfl (Or.inl rfl) (pe_cl (c_sure_curve T) hr (by decide) (by rfl) pass0 (pa_cons (pv 0) pa_nil))) (pss_one (ps_ret (pe_cl (c_shifted T) hr (by decide) (by rfl) pass0 (pa_cons (pv 2) (pa_cons (pe_cl (c_sure_amount T) hr (by decide) (by rfl) pass0 (pa_cons (pv 1) pa_nil)) pa_nil)))))), fun Fz ds r h => ?_⟩
  cases h with
  | mk hc hs hx h0 hk hl =>
    exact fin_rt (xs_cons (y_set (e_call (a_cons (e_var rfl) a_nil) (S_sure_curve.mk hc hs (by omega) hl))) (y_ret (e_call (a_cons (e_var rfl) (a_cons (e_call (a_cons (e_var rfl) a_nil) (S_sure_amount.mk h0)) a_nil)) (S_shifted.mk hc hs hx h0 hk hl))))
inductive S_is_nowhere_below : List Dt → R → Prop
  | mk {c d : List Pt} {k : Nat} (hc : Cv c) (hs : CSz k c) (hd : Cv d) (hs2 : CSz k d) (hk : 7 * k + 4 ≤ 40000000) (hl : c.length < 1000000) (hl2 : d.length < 1000000) : S_is_nowhere_below [encC c, encC d] (.val (.bl (fstU c d).isNone))
theorem isNon_encO {o : Option Rat} : isNon (encO o) = o.isNone := by cases o <;> rfl
theorem c_is_nowhere_below (T : Txt P w K mg base vN vS) : Cl P w K mg base CX0 41 "is_nowhere_below" (spP K S_is_nowhere_below) := by
  refine clP T.d_is_nowhere_below b_is_nowhere_below sc_is_nowhere_below (fun ds r h => by cases h; rfl) fun f cdv A outer s H E hr => ?_
  refine ⟨_, (pss_cons (ps_par (i := 2) (j := 3) rfl sc_is_nowhere_below.nd rfl rfl (by decide) rfl rfl (pa_cons (pe_cl (c_sure_curve T) hr (by decide) (by rfl) pass0 (pa_cons (pv 0) pa_nil)) (pa_cons (pe_cl (c_sure_curve T) hr (by decide) (by rfl) pass0 (pa_cons (pv 1) pa_nil)) pa_nil)) (by rfl)) (pss_one (ps_ret (pe_cmpR op_isN (pe_cl (c_first_under T) hr (by decide) (by rfl) pass0 (pa_cons (pv 2) (pa_cons (pv 3) pa_nil))) pe_non (nomark _))))), fun Fz ds r h => ?_⟩
  cases h with
  | mk hc hs hd hs2 hk hl hl2 =>
    refine fin_rt ?_
    refine xs_cons (y_par (a_cons (e_call (a_cons (e_var rfl) a_nil) (S_sure_curve.mk hc hs (by omega) hl)) (a_cons (e_call (a_cons (e_var rfl) a_nil) (S_sure_curve.mk hd hs2 (by omega) hl2)) a_nil))) ?_
    exact y_ret (e_cast (e_op (e_call (a_cons (e_var rfl) (a_cons (e_var rfl) a_nil)) (S_first_under.mk hc hs hd.nn hs2 (by omega) hl)) e_non o_isN) (by rw [isNon_encO]))
inductive S_first_below : List Dt → R → Prop
  | mk {c d : List Pt} {k : Nat} (hc : Cv c) (hs : CSz k c) (hd : Cv d) (hs2 : CSz k d) (hk : 7 * k + 4 ≤ 40000000) (hl : c.length < 1000000) (hl2 : d.length < 1000000) : S_first_below [encC c, encC d] (.val (encO (fstU c d)))
theorem c_first_below (T : Txt P w K mg base vN vS) : Cl P w K mg base CX0 41 "first_below" (spP K S_first_below) := by
  refine clP T.d_first_below b_first_below sc_first_below (fun ds r h => by cases h; rfl) fun f cdv A outer s H E hr => ?_
  refine ⟨_, (pss_cons (ps_par (i := 2) (j := 3) rfl sc_first_below.nd rfl rfl (by decide) rfl rfl (pa_cons (pe_cl (c_sure_curve T) hr (by decide) (by rfl) pass0 (pa_cons (pv 0) pa_nil)) (pa_cons (pe_cl (c_sure_curve T) hr (by decide) (by rfl) pass0 (pa_cons (pv 1) pa_nil)) pa_nil)) (by rfl)) (pss_one (ps_ret (pe_cl (c_first_under T) hr (by decide) (by rfl) pass0 (pa_cons (pv 2) (pa_cons (pv 3) pa_nil)))))), fun Fz ds r h => ?_⟩
  cases h with
  | mk hc hs hd hs2 hk hl hl2 =>
    refine fin_rt ?_
    refine xs_cons (y_par (a_cons (e_call (a_cons (e_var rfl) a_nil) (S_sure_curve.mk hc hs (by omega) hl)) (a_cons (e_call (a_cons (e_var rfl) a_nil) (S_sure_curve.mk hd hs2 (by omega) hl2)) a_nil))) ?_
    exact y_ret (e_call (a_cons (e_var rfl) (a_cons (e_var rfl) a_nil)) (S_first_under.mk hc hs hd.nn hs2 (by omega) hl))
inductive S_touching : List Dt → R → Prop
  | mk {c : List Pt} {x : Rat} {k j : Nat} (hc : Cv c) (hs : CSz k c) (hx : Sz j x) (h0 : 0 ≤ x) (hk : 4 * k + 2 ≤ 40000000) (hj : j ≤ 40000000) (hl : c.length < 1000000) : S_touching [encC c, enc x] (.val (enc (slp c x)))
theorem c_touching (T : Txt P w K mg base vN vS) : Cl P w K mg base CX0 42 "touching" (spP K S_touching) := by
  refine clP T.d_touching b_touching sc_touching (fun ds r h => by cases h; rfl) fun f cdv A outer s H E hr => ?_
  refine ⟨_, (pss_cons (ps_set (i := 2) sc_touching.nd rfl (Or.inl rfl) (pe_cl (c_sure_curve T) hr (by decide) (by rfl) pass0 (pa_cons (pv 0) pa_nil))) (pss_one (ps_ret (pe_cl (c_slope_at T) hr (by decide) (by rfl) pass0 (pa_cons (pv 2) (pa_cons (pe_cl (c_sure_amount T) hr (by decide) (by rfl) pass0 (pa_cons (pv 1) pa_nil)) pa_nil)))))), fun Fz ds r h => ?_⟩
  cases h with
  | mk hc hs hx h0 hk hj hl =>
    exact fin_rt (xs_cons (y_set (e_call (a_cons (e_var rfl) a_nil) (S_sure_curve.mk hc hs (by omega) hl))) (y_ret (e_call (a_cons (e_var rfl) (a_cons (e_call (a_cons (e_var rfl) a_nil) (S_sure_amount.mk h0)) a_nil)) (S_slope_at.mk hc hs hx h0 hk hj hl))))
inductive S_lesser : List Dt → R → Prop
  | mk {one other : List Pt} {k : Nat} (h : Two one other k) (hk : k ≤ 16000) : S_lesser [encC one, encC other] (.val (encC (lower one other)))
theorem c_lesser (T : Txt P w K mg base vN vS) : Cl P w K mg base CX0 42 "lesser" (spP K S_lesser) := by
  refine clP T.d_lesser b_lesser sc_lesser (fun ds r h => by cases h; rfl) fun f cdv A outer s H E hr => ?_
  refine ⟨_, (pss_cons (ps_par (i := 2) (j := 3) rfl sc_lesser.nd rfl rfl (by decide) rfl rfl (pa_cons (pe_cl (c_sure_curve T) hr (by decide) (by rfl) pass0 (pa_cons (pv 0) pa_nil)) (pa_cons (pe_cl (c_sure_curve T) hr (by decide) (by rfl) pass0 (pa_cons (pv 1) pa_nil)) pa_nil)) (by rfl)) (pss_one (ps_ret (pe_cl (c_lower_of T) hr (by decide) (by rfl) pass0 (pa_cons (pv 2) (pa_cons (pv 3) pa_nil)))))), fun Fz ds r h => ?_⟩
  cases h with
  | mk h hk =>
    have hl := h.l
    exact fin_rt (xs_cons (y_par (a_cons (e_call (a_cons (e_var rfl) a_nil) (S_sure_curve.mk h.c1 h.s1 (by omega) (by omega))) (a_cons (e_call (a_cons (e_var rfl) a_nil) (S_sure_curve.mk h.c2 h.s2 (by omega) (by omega))) a_nil))) (y_ret (e_call (a_cons (e_var rfl) (a_cons (e_var rfl) a_nil)) (S_lower_of.mk h hk))))
inductive S_greater : List Dt → R → Prop
  | mk {one other : List Pt} {k : Nat} (h : Two one other k) (hk : k ≤ 1000000) : S_greater [encC one, encC other] (.val (encC (upper one other)))
theorem c_greater (T : Txt P w K mg base vN vS) : Cl P w K mg base CX0 42 "greater" (spP K S_greater) := by
  refine clP T.d_greater b_greater sc_greater (fun ds r h => by cases h; rfl) fun f cdv A outer s H E hr => ?_
  refine ⟨_, (pss_cons (ps_par (i := 2) (j := 3) rfl sc_greater.nd rfl rfl (by decide) rfl rfl (pa_cons (pe_cl (c_sure_curve T) hr (by decide) (by rfl) pass0 (pa_cons (pv 0) pa_nil)) (pa_cons (pe_cl (c_sure_curve T) hr (by decide) (by rfl) pass0 (pa_cons (pv 1) pa_nil)) pa_nil)) (by rfl)) (pss_one (ps_ret (pe_cl (c_upper_of T) hr (by decide) (by rfl) pass0 (pa_cons (pv 2) (pa_cons (pv 3) pa_nil)))))), fun Fz ds r h => ?_⟩
  cases h with
  | mk h hk =>
    have hl := h.l
    exact fin_rt (xs_cons (y_par (a_cons (e_call (a_cons (e_var rfl) a_nil) (S_sure_curve.mk h.c1 h.s1 (by omega) (by omega))) (a_cons (e_call (a_cons (e_var rfl) a_nil) (S_sure_curve.mk h.c2 h.s2 (by omega) (by omega))) a_nil))) (y_ret (e_call (a_cons (e_var rfl) (a_cons (e_var rfl) a_nil)) (S_upper_of.mk h hk))))
end
end B
/-! text KL -/
set_option Elab.async false
set_option linter.all false
set_option maxRecDepth 100000
set_option autoImplicit false
namespace B
open PySem PySem.Spec PyProof.Rows L2
local macro_rules | `(tactic| walk_at "o+") => `(tactic| first | exact o_orL o_I0 | (exact o_orR (o_orL (o_cat (by assumption)))) | (exact o_orR (o_orR (o_catA (by assumption)))))
local macro_rules | `(tactic| walk_at "o*") => `(tactic| exact o_orL (o_mul (by walk_at "mul")))
local macro_rules | `(tactic| walk_at "mul") => `(tactic| first | assumption | exact mul_nd (by assumption) (by assumption) | exact mul_dd (by assumption) (by assumption) | exact mul_nn (by assumption) (by assumption) | exact mul_dn (by assumption) (by assumption))
local macro_rules | `(tactic| walk_at "nz") => `(tactic| assumption)
local macro_rules | `(tactic| walk_at "nzd") => `(tactic| exact den2_ne _ _)
local macro_rules | `(tactic| walk_at "ix") => `(tactic| first | exact o_ixT' rfl | exact o_ixL' rfl | exact o_ixT' (by assumption) | exact o_ixL' (by assumption))
local macro_rules | `(tactic| walk_at "o=") => `(tactic| first | exact o_orL o_eqI | exact o_orL o_neI | exact o_orL o_eqB | exact o_orL o_neB | exact o_orR (o_eqD (by assumption) (by assumption)) | exact o_orR (o_neD (by assumption) (by assumption)) | exact o_orR (o_eqD rfl rfl) | exact o_orR (o_neD rfl rfl))
local macro_rules | `(tactic| walk_at "b_gcd") => `(tactic| exact n_gcd)
local macro_rules | `(tactic| walk_at "b_len") => `(tactic| first | exact n_lenT | exact n_lenL)
local macro_rules | `(tactic| walk_at "b_tuple") => `(tactic| first | exact n_tupleL | exact n_tupleT)
local macro_rules | `(tactic| walk_at "b_isinstance") => `(tactic| exact n_isi rfl rfl)
local macro_rules | `(tactic| walk_at "b_all") => `(tactic| exact n_all)
local macro_rules | `(tactic| walk_at "b_lcm") => `(tactic| exact n_lcm (by assumption))
local macro_rules | `(tactic| walk_at "b_sorted") => `(tactic| exact n_sortedP)
local macro_rules | `(tactic| walk_at "sp") => `(tactic| (constructor <;> first | assumption | rfl | walk_at "nzd"))
section
variable {P : Program} {w : World} {K : PySem.W.Frag} {mg : Str → Option Value} {base : Heap} {vN vS : V}
/-! the law's own arithmetic -/
inductive S__law_cut : List Dt → R → Prop
  | mk {n d : Int} (h : 0 < d) : S__law_cut [.int n, .int d] (.val (enc (Rat.divInt n d)))
theorem wh_gcd {C : Cc} {c : TT} {tb : TS} {env : Nat → Nat → En} (h0 : ∀ a b : Nat, EvT C true c (env a b) (!decide (b = 0)) (env a b)) (hb : ∀ a b : Nat, b ≠ 0 → Ex C tb (env a b) (.nx (env b (a % b)))) : ∀ b a : Nat, ∃ n, WhX C c tb n (env a b) (.nx (env (Nat.gcd a b) 0)) := fun b => by
  induction b using Nat.strongRecOn with
  | ind b ih =>
    intro a
    have hc := h0 a b
    by_cases hz : b = 0
    · subst hz
      rw [Nat.gcd_zero_right]
      exact ⟨0, .stop hc⟩
    · rw [decide_eq_false hz] at hc
      obtain ⟨n, w⟩ := ih (a % b) (Nat.mod_lt _ (Nat.pos_of_ne_zero hz)) b
      refine ⟨n + 1, .next hc (hb a b hz) ?_⟩
      rw [show Nat.gcd a b = Nat.gcd b (a % b) by rw [Nat.gcd_comm a b, Nat.gcd_rec b a, Nat.gcd_comm]]
      exact w
theorem abs_nat {i : Int} : (if i < 0 then -i else i) = (i.natAbs : Int) := by split <;> omega
local macro_rules | `(tactic| walk_at "b_int") => `(tactic| first | exact n_intI | exact n_intB)
local macro_rules | `(tactic| walk_at "b_abs") => `(tactic| exact n_abs)
theorem c__law_cut (T : Txt P w K mg base vN vS) : Cl P w K mg base CX0 34 "_law_cut" (spP K S__law_cut) := by
  refine clP T.d__law_cut b__law_cut sc__law_cut (fun ds r h => by cases h; rfl) fun f cdv A outer s H E hr => ?_
  have hs := seer_in T outer hr (by decide) rfl rfl
  refine ⟨_, (pss_cons (ps_par (i := 2) (j := 3) rfl sc__law_cut.nd rfl rfl (by decide) rfl rfl (pa_cons (pe_callB call_abs (by rfl) T.z_abs (by decide +kernel) (pa_cons (pv 0) pa_nil)) (pa_cons (pv 1) pa_nil)) (by rfl)) (pss_cons (ps_while PassesOwn.leaving (pt_cmpR (op_neK K rfl (hu_of hr)) (pv 3) pe_int (nomark _)) (pss_one (ps_par (i := 2) (j := 3) rfl sc__law_cut.nd rfl rfl (by decide) rfl rfl (pa_cons (pv 3) (pa_cons (pe_op op_modN (pe_callTy call_int1 (by rfl) T.z_int (by decide +kernel) (pa_cons (pv 2) pa_nil)) (pv 3)) pa_nil)) (by rfl)))) (pss_one (ps_ret (pe_tup (pa_cons (pe_op (op_fdivP hs) (pv 0) (pv 2)) (pa_cons (pe_op (op_fdivP hs) (pv 1) (pv 2)) pa_nil))))))), fun Fz ds r h => ?_⟩
  cases h with
  | mk h =>
    rename_i n d
    have dnn : ((d.toNat : Nat) : Int) = d := by omega
    refine fin_rt ?_
    refine xs_cons (y_par (a_cons (e_cb (a_cons (e_var rfl) a_nil) (by walk_at "b_abs")) (a_cons (e_var rfl) a_nil))) ?_
    have g0 : 0 < Nat.gcd n.natAbs d.toNat := Nat.gcd_pos_of_pos_right _ (by omega)
    have gz : ((Nat.gcd n.natAbs d.toNat : Nat) : Int) ≠ 0 := by omega
    have e1 : (if n < 0 then -n else n) = (n.natAbs : Int) := abs_nat
    rw [e1]
    have hs0 : ((startE n__law_cut.length [Dt.int n, Dt.int d]).set 2 (some (.val (.int (n.natAbs : Int))))).set 3 (some (.val (.int d))) = [some (.val (.int n)), some (.val (.int d)), some (.val (.int (n.natAbs : Int))), some (.val (.int ((d.toNat : Nat) : Int)))] := by rw [dnn]; rfl
    rw [hs0]
    refine xs_cons (x_whileE (wh_gcd (env := fun a b : Nat => [some (.val (.int n)), some (.val (.int d)), some (.val (.int (a : Int))), some (.val (.int (b : Int)))]) (fun a b => ?_) (fun a b hb => ?_) d.toNat n.natAbs)) ?_
    · refine t_cast (t_test (e_op (e_var rfl) (e_int) (by walk_at "o="))) ?_
      by_cases z : b = 0
      · rw [decide_eq_true z, z]; rfl
      · rw [decide_eq_false z, show ((b : Int) == 0) = false from beq_eq_false_iff_ne.mpr (by omega)]
    · have nz : (b : Int) ≠ 0 := by omega
      refine x_cast (y_par (a_cons (e_var rfl) (a_cons (e_op (e_cb (a_cons (e_var rfl) a_nil) (by walk_at "b_int")) (e_var rfl) (o_mod (by walk_at "nz"))) a_nil))) ?_
      have : (a : Int).fmod (b : Int) = ((a % b : Nat) : Int) := by
        rw [Int.fmod_eq_emod_of_nonneg _ (by omega)]
        rfl
      rw [this]
      rfl
    · rw [reduced_eq n d (by omega), if_neg (by omega), show d.natAbs = d.toNat by omega]
      exact y_ret (e_tup (a_cons (e_op (e_var rfl) (e_var rfl) (o_fdiv (by walk_at "nz"))) (a_cons (e_op (e_var rfl) (e_var rfl) (o_fdiv (by walk_at "nz"))) a_nil)))
theorem den2_pos (a b : Rat) : 0 < (a.den : Int) * (b.den : Int) := by
  have := a.den_pos
  have := b.den_pos
  exact Int.mul_pos (by omega) (by omega)
local macro_rules | `(tactic| walk_at "nzd") => `(tactic| exact den2_pos _ _)
inductive S__law_plus : List Dt → R → Prop
  | mk {a b : Rat} (ha : Sm a) (hb : Sm b) : S__law_plus [enc a, enc b] (.val (enc (a + b)))
theorem c__law_plus (T : Txt P w K mg base vN vS) : Cl P w K mg base CX0 35 "_law_plus" (spP K S__law_plus) := by
  refine clP T.d__law_plus b__law_plus sc__law_plus (fun ds r h => by cases h; rfl) fun f cdv A outer s H E hr => ?_
  refine ⟨_, (pss_one (ps_ret (pe_cl (c__law_cut T) hr (by decide) (by rfl) pass0 (pa_cons (pe_op (op_addK K rfl) (pe_op op_mulA (pe_ix (ix_sK K rfl) (pv 0) pe_int (fun _ _ => rfl)) (pe_ix (ix_sK K rfl) (pv 1) pe_int (fun _ _ => rfl))) (pe_op op_mulA (pe_ix (ix_sK K rfl) (pv 1) pe_int (fun _ _ => rfl)) (pe_ix (ix_sK K rfl) (pv 0) pe_int (fun _ _ => rfl)))) (pa_cons (pe_op op_mulA (pe_ix (ix_sK K rfl) (pv 0) pe_int (fun _ _ => rfl)) (pe_ix (ix_sK K rfl) (pv 1) pe_int (fun _ _ => rfl))) pa_nil))))), fun Fz ds r h => ?_⟩
  cases h with
  | mk ha hb =>
    rw [← div_add]
    exact fin_rt (y_ret (e_call (a_cons (e_op (e_op (e_op (e_var rfl) (e_int) (by walk_at "ix")) (e_op (e_var rfl) (e_int) (by walk_at "ix")) (by walk_at "o*")) (e_op (e_op (e_var rfl) (e_int) (by walk_at "ix")) (e_op (e_var rfl) (e_int) (by walk_at "ix")) (by walk_at "o*")) (by walk_at "o+")) (a_cons (e_op (e_op (e_var rfl) (e_int) (by walk_at "ix")) (e_op (e_var rfl) (e_int) (by walk_at "ix")) (by walk_at "o*")) a_nil)) (by walk_at "sp")))
inductive S__law_less : List Dt → R → Prop
  | mk {a b : Rat} (ha : Sm a) (hb : Sm b) : S__law_less [enc a, enc b] (.val (enc (a - b)))
theorem c__law_less (T : Txt P w K mg base vN vS) : Cl P w K mg base CX0 35 "_law_less" (spP K S__law_less) := by
  refine clP T.d__law_less b__law_less sc__law_less (fun ds r h => by cases h; rfl) fun f cdv A outer s H E hr => ?_
  refine ⟨_, (pss_one (ps_ret (pe_cl (c__law_cut T) hr (by decide) (by rfl) pass0 (pa_cons (pe_op op_sub (pe_op op_mulA (pe_ix (ix_sK K rfl) (pv 0) pe_int (fun _ _ => rfl)) (pe_ix (ix_sK K rfl) (pv 1) pe_int (fun _ _ => rfl))) (pe_op op_mulA (pe_ix (ix_sK K rfl) (pv 1) pe_int (fun _ _ => rfl)) (pe_ix (ix_sK K rfl) (pv 0) pe_int (fun _ _ => rfl)))) (pa_cons (pe_op op_mulA (pe_ix (ix_sK K rfl) (pv 0) pe_int (fun _ _ => rfl)) (pe_ix (ix_sK K rfl) (pv 1) pe_int (fun _ _ => rfl))) pa_nil))))), fun Fz ds r h => ?_⟩
  cases h with
  | mk ha hb =>
    rw [← div_sub]
    exact fin_rt (y_ret (e_call (a_cons (e_op (e_op (e_op (e_var rfl) (e_int) (by walk_at "ix")) (e_op (e_var rfl) (e_int) (by walk_at "ix")) (by walk_at "o*")) (e_op (e_op (e_var rfl) (e_int) (by walk_at "ix")) (e_op (e_var rfl) (e_int) (by walk_at "ix")) (by walk_at "o*")) o_I0) (a_cons (e_op (e_op (e_var rfl) (e_int) (by walk_at "ix")) (e_op (e_var rfl) (e_int) (by walk_at "ix")) (by walk_at "o*")) a_nil)) (by walk_at "sp")))
inductive S__law_by : List Dt → R → Prop
  | mk {a b : Rat} (ha : Sm a) (hb : Sm b) : S__law_by [enc a, enc b] (.val (enc (a * b)))
theorem c__law_by (T : Txt P w K mg base vN vS) : Cl P w K mg base CX0 35 "_law_by" (spP K S__law_by) := by
  refine clP T.d__law_by b__law_by sc__law_by (fun ds r h => by cases h; rfl) fun f cdv A outer s H E hr => ?_
  refine ⟨_, (pss_one (ps_ret (pe_cl (c__law_cut T) hr (by decide) (by rfl) pass0 (pa_cons (pe_op op_mulA (pe_ix (ix_sK K rfl) (pv 0) pe_int (fun _ _ => rfl)) (pe_ix (ix_sK K rfl) (pv 1) pe_int (fun _ _ => rfl))) (pa_cons (pe_op op_mulA (pe_ix (ix_sK K rfl) (pv 0) pe_int (fun _ _ => rfl)) (pe_ix (ix_sK K rfl) (pv 1) pe_int (fun _ _ => rfl))) pa_nil))))), fun Fz ds r h => ?_⟩
  cases h with
  | mk ha hb =>
    rw [← div_mul]
    exact fin_rt (y_ret (e_call (a_cons (e_op (e_op (e_var rfl) (e_int) (by walk_at "ix")) (e_op (e_var rfl) (e_int) (by walk_at "ix")) (by walk_at "o*")) (a_cons (e_op (e_op (e_var rfl) (e_int) (by walk_at "ix")) (e_op (e_var rfl) (e_int) (by walk_at "ix")) (by walk_at "o*")) a_nil)) (by walk_at "sp")))
inductive S__law_side : List Dt → R → Prop
  | mk {a b : Rat} (ha : Sm a) (hb : Sm b) : S__law_side [enc a, enc b] (.val (.int (sideI a b)))
theorem c__law_side (T : Txt P w K mg base vN vS) : Cl P w K mg base CX0 34 "_law_side" (spP K S__law_side) := by
  refine clP T.d__law_side b__law_side sc__law_side (fun ds r h => by cases h; rfl) fun f cdv A outer s H E hr => ?_
  refine ⟨_, (pss_cons (ps_set (i := 2) sc__law_side.nd rfl (Or.inl rfl) (pe_op op_sub (pe_op op_mulA (pe_ix (ix_sK K rfl) (pv 0) pe_int (fun _ _ => rfl)) (pe_ix (ix_sK K rfl) (pv 1) pe_int (fun _ _ => rfl))) (pe_op op_mulA (pe_ix (ix_sK K rfl) (pv 1) pe_int (fun _ _ => rfl)) (pe_ix (ix_sK K rfl) (pv 0) pe_int (fun _ _ => rfl))))) (pss_one (ps_ret (pe_op op_sub (pe_callTy call_int1 (by rfl) T.z_int (by decide +kernel) (pa_cons (pe_cmpR op_gt (pv 2) pe_int (nomark _)) pa_nil)) (pe_callTy call_int1 (by rfl) T.z_int (by decide +kernel) (pa_cons (pe_cmpR op_lt (pv 2) pe_int (nomark _)) pa_nil)))))), fun Fz ds r h => ?_⟩
  cases h with
  | mk ha hb =>
    rename_i a b
    refine fin_rt ?_
    refine xs_cons (y_set (e_op (e_op (e_op (e_var rfl) (e_int) (by walk_at "ix")) (e_op (e_var rfl) (e_int) (by walk_at "ix")) (by walk_at "o*")) (e_op (e_op (e_var rfl) (e_int) (by walk_at "ix")) (e_op (e_var rfl) (e_int) (by walk_at "ix")) (by walk_at "o*")) o_I0)) ?_
    refine y_ret (e_cast (e_op (e_cb (a_cons (e_op (e_var rfl) (e_int) o_C0) a_nil) (by walk_at "b_int")) (e_cb (a_cons (e_op (e_var rfl) (e_int) o_C0) a_nil) (by walk_at "b_int")) o_I0) ?_)
    unfold sideI
    have l1 := cross_lt a b
    have l2 := cross_lt b a
    have l3 := cross_eq a b
    by_cases h1 : a = b
    · have z := l3.mpr h1
      rw [if_pos h1, z]
      simp
    · rw [if_neg h1]
      by_cases h2 : a < b
      · have z := l1.mpr h2
        rw [if_pos h2, decide_eq_false (by omega), decide_eq_true (by omega)]
        rfl
      · rw [if_neg h2]
        have z1 : ¬ _ := fun z => h2 (l1.mp z)
        have z2 : ¬ _ := fun z => h1 (l3.mp z)
        rw [decide_eq_true (by omega), decide_eq_false (by omega)]
        rfl
inductive S__law_least : List Dt → R → Prop
  | mk {a b : Rat} (ha : Sm a) (hb : Sm b) : S__law_least [enc a, enc b] (.val (enc (min a b)))
theorem c__law_least (T : Txt P w K mg base vN vS) : Cl P w K mg base CX0 35 "_law_least" (spP K S__law_least) := by
  refine clP T.d__law_least b__law_least sc__law_least (fun ds r h => by cases h; rfl) fun f cdv A outer s H E hr => ?_
  refine ⟨_, (pss_one (ps_ret (pe_ifExp (pt_cmpR op_le (pe_cl (c__law_side T) hr (by decide) (by rfl) pass0 (pa_cons (pv 0) (pa_cons (pv 1) pa_nil))) pe_int (nomark _)) (pv 0) (pv 1)))), fun Fz ds r h => ?_⟩
  cases h with
  | mk ha hb =>
    rename_i a b
    refine fin_rt (y_ret (e_cast (e_ifV (x := enc a) (y := enc b) (t_test (e_op (e_call (a_cons (e_var rfl) (a_cons (e_var rfl) a_nil)) (by walk_at "sp")) (e_int) o_C0)) (fun h => (e_var rfl)) (fun h => (e_var rfl))) ?_))
    rw [sideI_le, min_if]
    by_cases h : a ≤ b <;> simp [h]
inductive S__law_most : List Dt → R → Prop
  | mk {a b : Rat} (ha : Sm a) (hb : Sm b) : S__law_most [enc a, enc b] (.val (enc (max a b)))
theorem c__law_most (T : Txt P w K mg base vN vS) : Cl P w K mg base CX0 35 "_law_most" (spP K S__law_most) := by
  refine clP T.d__law_most b__law_most sc__law_most (fun ds r h => by cases h; rfl) fun f cdv A outer s H E hr => ?_
  refine ⟨_, (pss_one (ps_ret (pe_ifExp (pt_cmpR op_ge (pe_cl (c__law_side T) hr (by decide) (by rfl) pass0 (pa_cons (pv 0) (pa_cons (pv 1) pa_nil))) pe_int (nomark _)) (pv 0) (pv 1)))), fun Fz ds r h => ?_⟩
  cases h with
  | mk ha hb =>
    rename_i a b
    refine fin_rt (y_ret (e_cast (e_ifV (x := enc a) (y := enc b) (t_test (e_op (e_call (a_cons (e_var rfl) (a_cons (e_var rfl) a_nil)) (by walk_at "sp")) (e_int) o_C0)) (fun h => (e_var rfl)) (fun h => (e_var rfl))) ?_))
    rw [sideI_ge, max_if]
    by_cases h : b ≤ a <;> simp [h]
/-! _law_same -/
mutual
def sdat : Nat → Dt → Bool
  | _, .non => true
  | _, .bl _ => true
  | _, .int _ => true
  | n + 1, .tup ds => Nat.blt ds.length 1000000 && sdats n ds
  | n + 1, .lst ds => Nat.blt ds.length 1000000 && sdats n ds
  | _, _ => false
def sdats : Nat → List Dt → Bool
  | _, [] => true
  | n, d :: ds => sdat n d && sdats n ds
end
theorem sdats_all {n : Nat} : ∀ {ds : List Dt}, sdats n ds = true → ∀ d ∈ ds, sdat n d = true
  | [], _, d, h => by cases h
  | x :: xs, h, d, hd => by
    rw [sdats, Bool.and_eq_true] at h
    rcases List.mem_cons.mp hd with z | z
    · rw [z]; exact h.1
    · exact sdats_all h.2 d z
theorem sdat_tup {n : Nat} {xs : List Dt} (h : sdat n (.tup xs) = true) : ∃ m, n = m + 1 ∧ xs.length < 1000000 ∧ sdats m xs = true := by
  cases n with
  | zero => simp [sdat] at h
  | succ m =>
    rw [sdat, Bool.and_eq_true] at h
    exact ⟨m, rfl, Nat.le_of_ble_eq_true h.1, h.2⟩
theorem sdat_lst {n : Nat} {xs : List Dt} (h : sdat n (.lst xs) = true) : ∃ m, n = m + 1 ∧ xs.length < 1000000 ∧ sdats m xs = true := by
  cases n with
  | zero => simp [sdat] at h
  | succ m =>
    rw [sdat, Bool.and_eq_true] at h
    exact ⟨m, rfl, Nat.le_of_ble_eq_true h.1, h.2⟩
inductive S__law_same : Nat → List Dt → R → Prop
  | mk {n : Nat} {d : Dt} (h : sdat n d = true) : S__law_same (n + 1) [d, d] (.val (.bl true))
theorem c__law_same0 (T : Txt P w K mg base vN vS) : Cl P w K mg base CX0 33 "_law_same" (spP K (S__law_same 0)) := by
  refine clP T.d__law_same b__law_same sc__law_same (fun ds r h => by cases h) fun f cdv A outer s H E hr => ?_
  exact ⟨_, pss_never, fun Fz ds r h => by cases h⟩
theorem pairs_id (xs : List Dt) : pairs xs xs = xs.map fun x => Dt.tup [x, x] := by
  have := pairs_map (f := id) (g := id) xs
  rw [List.map_id] at this
  exact this
theorem c__law_sameN (T : Txt P w K mg base vN vS) : ∀ n : Nat, n ≤ 8 → Cl P w K mg base CX0 (33 + n) "_law_same" (spP K (S__law_same n))
  | 0, _ => c__law_same0 T
  | n + 1, hn => by
    have c_ih := c__law_sameN T n (by omega)
    refine clP (k := 33 + n) T.d__law_same b__law_same sc__law_same (fun ds r h => by cases h; rfl) fun f cdv A outer s H E hr => ?_
    refine ⟨_, (pss_cons (ps_if (pt_val (pe_callB call_isiT (by rfl) T.z_isinstance (by decide +kernel) (pa_cons (pv 1) (pa_cons (pe_tup (pa_cons (pe_bltn (v := .ty "list") (by rfl) (T.z_list) (by decide +kernel) rfl) (pa_cons (pe_bltn (v := .ty "tuple") (by rfl) (T.z_tuple) (by decide +kernel) rfl) pa_nil))) pa_nil)))) (pss_cons (ps_if (PW.pt (pw_or (pt_cmpR (op_neK K rfl (hu_of hr)) (pe_callB call_isi (by rfl) T.z_isinstance (by decide +kernel) (pa_cons (pv 0) (pa_cons (pe_bltn (v := .ty "list") (by rfl) (T.z_list) (by decide +kernel) rfl) pa_nil))) (pe_callB call_isi (by rfl) T.z_isinstance (by decide +kernel) (pa_cons (pv 1) (pa_cons (pe_bltn (v := .ty "list") (by rfl) (T.z_list) (by decide +kernel) rfl) pa_nil))) (nomark _)) (pw_or1 (pt_cmpR (op_neK K rfl (hu_of hr)) (pe_callB call_isi (by rfl) T.z_isinstance (by decide +kernel) (pa_cons (pv 0) (pa_cons (pe_bltn (v := .ty "tuple") (by rfl) (T.z_tuple) (by decide +kernel) rfl) pa_nil))) (pe_callB call_isi (by rfl) T.z_isinstance (by decide +kernel) (pa_cons (pv 1) (pa_cons (pe_bltn (v := .ty "tuple") (by rfl) (T.z_tuple) (by decide +kernel) rfl) pa_nil))) (nomark _))))) (pss_one (ps_ret pe_bl)) pss_nil) (pss_one (ps_ret (pe_and (pe_cmpR (op_eqK K rfl (hu_of hr)) (pe_callB call_len_seq (by rfl) T.z_len (by decide +kernel) (pa_cons (pv 0) pa_nil)) (pe_callB call_len_seq (by rfl) T.z_len (by decide +kernel) (pa_cons (pv 1) pa_nil)) (nomark _)) (pe_one (pe_callB (cr_all rfl) (by rfl) T.z_all (by decide +kernel) (pa_cons (pe_lc (own := [("mine", 2), ("its", 3)]) rfl sc__law_same.nd (RZ.pi_zipA (by rfl) T.z_zip (pa_cons (pv 0) (pa_cons (pv 1) pa_nil))) (blkOk_by (N := n__law_same) (sc := defScope s__law_same) (by decide +kernel)) (by exact fun _ _ _ _ _ => (pg_tupK (n := 2) K rfl rfl (pgs_cons (pg_name (i := 2) sc__law_same.nd rfl (Or.inl rfl)) (pgs_cons (pg_name (i := 3) sc__law_same.nd rfl (Or.inl rfl)) pgs_nil)))) (by exact fun _ _ _ _ _ => pts_nil) (by exact fun _ _ _ _ _ => (pe_cl c_ih hr (by omega) (by rfl) pass0 (pa_cons (pv 2) (pa_cons (pv 3) pa_nil))))) pa_nil))))))) pss_nil) (pss_cons (ps_if (pt_cmpR op_isN (pv 1) pe_non (nomark _)) (pss_one (ps_ret (pe_cmpR op_isN (pv 0) pe_non (nomark _)))) pss_nil) (pss_cons (ps_if (pt_val (pe_callB call_isiT (by rfl) T.z_isinstance (by decide +kernel) (pa_cons (pv 1) (pa_cons (pe_tup (pa_cons (pe_bltn (v := .ty "bool") (by rfl) (T.z_bool) (by decide +kernel) rfl) (pa_cons (pe_bltn (v := .ty "str") (by rfl) (T.z_str) (by decide +kernel) rfl) pa_nil))) pa_nil)))) (pss_one (ps_ret (pe_and (pe_cmpR (op_eqK K rfl (hu_of hr)) (pe_callB call_isi (by rfl) T.z_isinstance (by decide +kernel) (pa_cons (pv 0) (pa_cons (pe_bltn (v := .ty "bool") (by rfl) (T.z_bool) (by decide +kernel) rfl) pa_nil))) (pe_callB call_isi (by rfl) T.z_isinstance (by decide +kernel) (pa_cons (pv 1) (pa_cons (pe_bltn (v := .ty "bool") (by rfl) (T.z_bool) (by decide +kernel) rfl) pa_nil))) (nomark _)) (pe_and (pe_cmpR (op_eqK K rfl (hu_of hr)) (pe_callB call_isi (by rfl) T.z_isinstance (by decide +kernel) (pa_cons (pv 0) (pa_cons (pe_bltn (v := .ty "str") (by rfl) (T.z_str) (by decide +kernel) rfl) pa_nil))) (pe_callB call_isi (by rfl) T.z_isinstance (by decide +kernel) (pa_cons (pv 1) (pa_cons (pe_bltn (v := .ty "str") (by rfl) (T.z_str) (by decide +kernel) rfl) pa_nil))) (nomark _)) (pe_one (pe_cmpR (op_eqK K rfl (hu_of hr)) (pv 0) (pv 1) (nomark _))))))) pss_nil) (pss_one (ps_ret (pe_and (pe_callB call_isi (by rfl) T.z_isinstance (by decide +kernel) (pa_cons (pv 0) (pa_cons (pe_bltn (v := .ty "int") (by rfl) (T.z_int) (by decide +kernel) rfl) pa_nil))) (pe_and (pe_not (pe_callB call_isi (by rfl) T.z_isinstance (by decide +kernel) (pa_cons (pv 0) (pa_cons (pe_bltn (v := .ty "bool") (by rfl) (T.z_bool) (by decide +kernel) rfl) pa_nil)))) (pe_one (pe_cmpR (op_eqK K rfl (hu_of hr)) (pv 0) (pv 1) (nomark _)))))))))), fun Fz ds r h => ?_⟩
    cases h with
    | mk h =>
      rename_i d
      refine fin_rt ?_
      have hnn : ∀ k, k ∈ [2, 3] → ∀ ds, (startE n__law_same.length [d, d])[k]? ≠ some (some (.own ds)) := fun k hk ds z => by
        rcases List.mem_cons.mp hk with y | y
        · rw [y] at z; cases z
        · rw [List.mem_singleton.mp y] at z; cases z
      cases d with
      | tup xs =>
        obtain ⟨m, rfl, h', h2⟩ := sdat_tup h
        have hx := sdats_all h2
        refine xs_stop (y_ifT (t_b (e_isiT (e_var rfl) rfl (b := true) rfl rfl rfl)) (xs_cons (y_ifF (t_cast (t_or' (b := false) (c := false) (t_cast (t_test (e_op (e_cb (a_cons (e_var rfl) (a_cons e_ty a_nil)) (n_isi rfl rfl)) (e_cb (a_cons (e_var rfl) (a_cons e_ty a_nil)) (n_isi rfl rfl)) (o_orL o_neB))) rfl) (fun _ => t_cast (t_test (e_op (e_cb (a_cons (e_var rfl) (a_cons e_ty a_nil)) (n_isi rfl rfl)) (e_cb (a_cons (e_var rfl) (a_cons e_ty a_nil)) (n_isi rfl rfl)) (o_orL o_neB))) rfl)) rfl) x_next) (y_ret (e_cast (e_and (b := true) (c := true) (e_cast (e_op (e_cb (a_cons (e_var rfl) a_nil) n_lenT) (e_cb (a_cons (e_var rfl) a_nil) n_lenT) (o_orL o_eqI)) (by rw [beq_self_eq_true])) (fun _ => e_cb (a_cons (e_frz (e_lc2 (f1 := id) (f2 := id) (h := fun _ => .bl true) (xs := xs) (pairs_id xs ▸ i_zipT (a_cons (e_var rfl) (a_cons (e_var rfl) a_nil))) (fun x hxm => e_call (a_cons (e_var rfl) (a_cons (e_var rfl) a_nil)) (.mk (hx x hxm))) (lt_sz h') hnn)) a_nil) n_all1)) rfl)))) rfl
      | lst xs =>
        obtain ⟨m, rfl, h', h2⟩ := sdat_lst h
        have hx := sdats_all h2
        refine xs_stop (y_ifT (t_b (e_isiT (e_var rfl) rfl (b := true) rfl rfl rfl)) (xs_cons (y_ifF (t_cast (t_or' (b := false) (c := false) (t_cast (t_test (e_op (e_cb (a_cons (e_var rfl) (a_cons e_ty a_nil)) (n_isi rfl rfl)) (e_cb (a_cons (e_var rfl) (a_cons e_ty a_nil)) (n_isi rfl rfl)) (o_orL o_neB))) rfl) (fun _ => t_cast (t_test (e_op (e_cb (a_cons (e_var rfl) (a_cons e_ty a_nil)) (n_isi rfl rfl)) (e_cb (a_cons (e_var rfl) (a_cons e_ty a_nil)) (n_isi rfl rfl)) (o_orL o_neB))) rfl)) rfl) x_next) (y_ret (e_cast (e_and (b := true) (c := true) (e_cast (e_op (e_cb (a_cons (e_var rfl) a_nil) n_lenL) (e_cb (a_cons (e_var rfl) a_nil) n_lenL) (o_orL o_eqI)) (by rw [beq_self_eq_true])) (fun _ => e_cb (a_cons (e_frz (e_lc2 (f1 := id) (f2 := id) (h := fun _ => .bl true) (xs := xs) (pairs_id xs ▸ i_zipL (a_cons (e_var rfl) (a_cons (e_var rfl) a_nil))) (fun x hxm => e_call (a_cons (e_var rfl) (a_cons (e_var rfl) a_nil)) (.mk (hx x hxm))) (lt_sz h') hnn)) a_nil) n_all1)) rfl)))) rfl
      | non =>
        refine xs_cons (y_ifF (t_b (e_isiT (e_var rfl) rfl (b := false) rfl rfl rfl)) x_next) ?_
        exact xs_stop (y_ifT (t_cast (t_test (e_op (e_var rfl) e_non o_isN)) rfl) (y_ret (e_cast (e_op (e_var rfl) e_non o_isN) rfl))) rfl
      | bl b =>
        refine xs_cons (y_ifF (t_b (e_isiT (e_var rfl) rfl (b := false) rfl rfl rfl)) x_next) ?_
        refine xs_cons (y_ifF (t_cast (t_test (e_op (e_var rfl) e_non o_isN)) rfl) x_next) ?_
        exact xs_stop (y_ifT (t_b (e_isiT (e_var rfl) rfl (b := true) rfl rfl rfl)) (y_ret (e_cast (e_and (b := true) (c := true) (e_cast (e_op (e_cb (a_cons (e_var rfl) (a_cons e_ty a_nil)) (n_isi rfl rfl)) (e_cb (a_cons (e_var rfl) (a_cons e_ty a_nil)) (n_isi rfl rfl)) (o_orL o_eqB)) rfl) (fun _ => e_cast (e_and (b := true) (c := true) (e_cast (e_op (e_cb (a_cons (e_var rfl) (a_cons e_ty a_nil)) (n_isi rfl rfl)) (e_cb (a_cons (e_var rfl) (a_cons e_ty a_nil)) (n_isi rfl rfl)) (o_orL o_eqB)) rfl) (fun _ => e_cast (e_op (e_var rfl) (e_var rfl) (o_orL o_eqB)) (by rw [beq_self_eq_true]))) rfl)) rfl))) rfl
      | int i =>
        refine xs_cons (y_ifF (t_b (e_isiT (e_var rfl) rfl (b := false) rfl rfl rfl)) x_next) ?_
        refine xs_cons (y_ifF (t_cast (t_test (e_op (e_var rfl) e_non o_isN)) rfl) x_next) ?_
        refine xs_cons (y_ifF (t_b (e_isiT (e_var rfl) rfl (b := false) rfl rfl rfl)) x_next) ?_
        exact y_ret (e_cast (e_and (b := true) (c := true) (e_cast (e_cb (a_cons (e_var rfl) (a_cons e_ty a_nil)) (n_isi rfl rfl)) rfl) (fun _ => e_cast (e_and (b := true) (c := true) (e_cast (e_not (e_cb (a_cons (e_var rfl) (a_cons e_ty a_nil)) (n_isi rfl rfl))) rfl) (fun _ => e_cast (e_op (e_var rfl) (e_var rfl) (o_orL o_eqI)) (by rw [beq_self_eq_true]))) rfl)) rfl)
      | _ => simp [sdat] at h
theorem c__law_same (T : Txt P w K mg base vN vS) : Cl P w K mg base CX0 41 "_law_same" (spP K (S__law_same 8)) := c__law_sameN T 8 (by decide)
end
end B
/-! text KM -/
set_option Elab.async false
set_option linter.all false
set_option maxRecDepth 100000
set_option autoImplicit false
namespace B
open PySem PySem.Spec PyProof.Rows L2
local macro_rules | `(tactic| walk_at "o+") => `(tactic| first | exact o_orL o_I0 | (exact o_orR (o_orL (o_cat (by assumption)))) | (exact o_orR (o_orR (o_catA (by assumption)))))
local macro_rules | `(tactic| walk_at "o*") => `(tactic| exact o_orL (o_mul (by walk_at "mul")))
local macro_rules | `(tactic| walk_at "mul") => `(tactic| first | assumption | exact mul_nd (by assumption) (by assumption) | exact mul_dd (by assumption) (by assumption) | exact mul_nn (by assumption) (by assumption) | exact mul_dn (by assumption) (by assumption))
local macro_rules | `(tactic| walk_at "nz") => `(tactic| assumption)
local macro_rules | `(tactic| walk_at "nzd") => `(tactic| exact den2_ne _ _)
local macro_rules | `(tactic| walk_at "ix") => `(tactic| first | exact o_ixT' rfl | exact o_ixL' rfl | exact o_ixT' (by assumption) | exact o_ixL' (by assumption))
local macro_rules | `(tactic| walk_at "o=") => `(tactic| first | exact o_orL o_eqI | exact o_orL o_neI | exact o_orL o_eqB | exact o_orL o_neB | exact o_orR (o_eqD (by assumption) (by assumption)) | exact o_orR (o_neD (by assumption) (by assumption)) | exact o_orR (o_eqD rfl rfl) | exact o_orR (o_neD rfl rfl))
local macro_rules | `(tactic| walk_at "b_gcd") => `(tactic| exact n_gcd)
local macro_rules | `(tactic| walk_at "b_len") => `(tactic| first | exact n_lenT | exact n_lenL)
local macro_rules | `(tactic| walk_at "b_tuple") => `(tactic| first | exact n_tupleL | exact n_tupleT)
local macro_rules | `(tactic| walk_at "b_isinstance") => `(tactic| exact n_isi rfl rfl)
local macro_rules | `(tactic| walk_at "b_all") => `(tactic| exact n_all)
local macro_rules | `(tactic| walk_at "b_lcm") => `(tactic| exact n_lcm (by assumption))
local macro_rules | `(tactic| walk_at "b_sorted") => `(tactic| exact n_sortedP)
local macro_rules | `(tactic| walk_at "sp") => `(tactic| (constructor <;> first | assumption | rfl | walk_at "nzd"))
section
variable {P : Program} {w : World} {K : PySem.W.Frag} {mg : Str → Option Value} {base : Heap} {vN vS : V}
local macro_rules | `(tactic| walk_at "b_int") => `(tactic| first | exact n_intI | exact n_intB)
local macro_rules | `(tactic| walk_at "b_abs") => `(tactic| exact n_abs)
/-! environments cut down -/
theorem EnvOk.sub {C : Cc} {σ : L2.St} {ρ ρ2 : En} {H : Hp} {M : MS} (e : EnvOk C H M σ ρ) (hs : ∀ (i : Nat) (s : Slot), ρ2[i]? = some (some s) → ρ[i]? = some (some s)) (hl : ρ2.length = ρ.length) : EnvOk C H M σ ρ2 ∧ ∀ a, Owned σ ρ2 a → Owned σ ρ a :=
  ⟨⟨e.mok, hl.trans e.len, fun i s h => e.get i s (hs i s h), fun i j s t a h1 h2 => e.dist i j s t a (hs i _ h1) (hs j _ h2), fun i s a h => e.fz i s a (hs i _ h), e.fzd⟩, fun a ⟨i, ds, h1, h2⟩ => ⟨i, ds, hs i _ h1, h2⟩⟩
theorem x_rtSub {C : Cc} {ρ ρ' ρ2 : En} {t : TS} {r : R} (h : Ex C t ρ (.rt r ρ')) (hs : ∀ (i : Nat) (s : Slot), ρ2[i]? = some (some s) → ρ'[i]? = some (some s)) (hl : ρ2.length = ρ'.length) : Ex C t ρ (.rt r ρ2) := fun σ H M e D q =>
  h σ H M e D fun v σ' H' M' po k => have f := po.env.sub hs hl; q v σ' H' M' ⟨f.1, po.nxt, fun a z => po.own a (f.2 a z)⟩ k
theorem x_nxSub {C : Cc} {ρ ρ' ρ2 : En} {t : TS} (h : Ex C t ρ (.nx ρ')) (hs : ∀ (i : Nat) (s : Slot), ρ2[i]? = some (some s) → ρ'[i]? = some (some s)) (hl : ρ2.length = ρ'.length) : Ex C t ρ (.nx ρ2) := fun σ H M e D q =>
  h σ H M e D fun σ' H' M' po => have f := po.env.sub hs hl; q σ' H' M' ⟨f.1, po.nxt, fun a z => po.own a (f.2 a z)⟩
def keep0 (n : Nat) (ls : List Dt) : En := some (.own ls) :: List.replicate n none
theorem keep_sub {n : Nat} {ls : List Dt} {ρ : En} (h : ρ[0]? = some (some (.own ls))) : ∀ (i : Nat) (s : Slot), (keep0 n ls)[i]? = some (some s) → ρ[i]? = some (some s) := fun i s q => by
  cases i with
  | zero => rw [h]; exact q
  | succ i =>
    unfold keep0 at q
    rw [List.getElem?_cons_succ, List.getElem?_replicate] at q
    split at q <;> cases q
theorem z_ret {C : Cc} {p : Bool} {ρ ρ1 : En} {t : TE} {d : Dt} {n : Nat} {ls : List Dt} (h : Ev C p t ρ (.val d) ρ1) (h0 : ρ1[0]? = some (some (.own ls))) (hl : n + 1 = ρ1.length := by rfl) : Ex C (tRet t) ρ (.rt (.val d) (keep0 n ls)) := x_rtSub (x_ret h) (keep_sub h0) (by unfold keep0; rw [List.length_cons, List.length_replicate]; exact hl)
theorem fin_I {C : Cc} {t : TS} {ρ : En} {r : R} {n : Nat} {ls : List Dt} (h : Ex C t ρ (.rt r (keep0 n ls))) : FinI C t ρ r ls := .inl ⟨_, h, rfl⟩
/-! the tin -/
structure Tin where
  a : Int
  b : Int
  c : Int
def tdt (s : Tin) : List Dt := [.int s.a, .int s.b, .int s.c]
structure TOk (m : Int) (s : Tin) : Prop where
  b0 : 0 ≤ s.b
  b1 : s.b < 2 ^ 62
  c0 : 0 ≤ s.c
  c1 : s.c ≤ m
def onceF (b c : Int) : Int := ((b + 48271 * c) * (40961 + c)).fmod 2147483647
def twiceF (b c : Int) : Int := ((onceF b c + c + b.fdiv 1000003) * ((onceF b c).fmod 40009 + 7)).fmod 2147483629
def takeF (s : Tin) (n : Int) : Int × Tin :=
  if 0 < s.a then (s.a.fmod n, ⟨s.a.fdiv n, s.b, s.c⟩) else
    ((((twiceF s.b (s.c + 1) * 48271 + onceF s.b (s.c + 1)).fmod 2147483587).fdiv 64).fmod n, ⟨s.a, s.b, s.c + 1⟩)
theorem fm_bd {x n : Int} (h : 0 < n) : 0 ≤ x.fmod n ∧ x.fmod n < n := by
  rw [Int.fmod_eq_emod_of_nonneg _ (by omega)]
  exact ⟨Int.emod_nonneg _ (by omega), Int.emod_lt_of_pos _ h⟩
theorem take_bd {s : Tin} {n : Int} (h : 0 < n) : 0 ≤ (takeF s n).1 ∧ (takeF s n).1 < n := by
  unfold takeF
  split <;> exact fm_bd h
theorem take_ok {s : Tin} {n m : Int} (h : TOk m s) : TOk (m + 1) (takeF s n).2 := by
  unfold takeF
  have := h.c0
  have := h.c1
  split
  · exact ⟨h.b0, h.b1, h.c0, by show s.c ≤ m + 1; omega⟩
  · exact ⟨h.b0, h.b1, by show 0 ≤ s.c + 1; omega, by show s.c + 1 ≤ m + 1; omega⟩
inductive S__law_take : List Dt → List Dt → R → List Dt → Prop
  | mk {s : Tin} {n m : Int} (ok : TOk m s) (hm : m ≤ 1000000) (hn : 0 < n) : S__law_take (tdt s) [.int n] (.val (.int (takeF s n).1)) (tdt (takeF s n).2)
theorem mulL {a b : Int} (h1 : -(2 ^ 64) < a) (h2 : a < 2 ^ 64) : IntMulOk a b := IntMulOk.of_left (intBits_le_64 h1 h2)
theorem mulR {a b : Int} (h1 : -(2 ^ 64) < b) (h2 : b < 2 ^ 64) : IntMulOk a b := IntMulOk.of_right (intBits_le_64 h1 h2)
local macro_rules | `(tactic| walk_at "mul") => `(tactic| first | assumption | exact mulL (by decide) (by decide) | exact mulR (by decide) (by decide))
local macro_rules | `(tactic| walk_at "nz") => `(tactic| first | assumption | decide)
theorem c__law_take (T : Txt P w K mg base vN vS) : Cl P w K mg base CX0 34 "_law_take" (spI K S__law_take) := by
  refine clI T.d__law_take b__law_take sc__law_take (fun ls ds r ls' h => by cases h; rfl) fun f cdv A outer s H E hr => ?_
  have hs := seer_in T outer hr (by decide) rfl rfl
  refine ⟨_, (pss_cons (ps_if (pt_cmpR op_gt (pe_ix (ix_sK K rfl) (pv 0) pe_int (fun _ _ => rfl)) pe_int (nomark _)) (pss_cons (ps_set (i := 2) sc__law_take.nd rfl (Or.inl rfl) (pe_op op_modN (pe_callTy call_int1 (by rfl) T.z_int (by decide +kernel) (pa_cons (pe_ix (ix_sK K rfl) (pv 0) pe_int (fun _ _ => rfl)) pa_nil)) (pv 1))) (pss_cons (ps_asg (pe_op (op_fdivP hs) (pe_ix (ix_sK K rfl) (pv 0) pe_int (fun _ _ => rfl)) (pv 1)) (pg_sub (pv 0) pe_int set_list)) (pss_one (ps_ret (pv 2))))) pss_nil) (pss_cons (ps_asg (pe_op (op_addK K rfl) (pe_ix (ix_sK K rfl) (pv 0) pe_int (fun _ _ => rfl)) pe_int) (pg_sub (pv 0) pe_int set_list)) (pss_cons (ps_set (i := 3) sc__law_take.nd rfl (Or.inl rfl) (pe_op op_modN (pe_callTy call_int1 (by rfl) T.z_int (by decide +kernel) (pa_cons (pe_op op_mulA (pe_op (op_addK K rfl) (pe_ix (ix_sK K rfl) (pv 0) pe_int (fun _ _ => rfl)) (pe_op op_mulA pe_int (pe_ix (ix_sK K rfl) (pv 0) pe_int (fun _ _ => rfl)))) (pe_op (op_addK K rfl) pe_int (pe_ix (ix_sK K rfl) (pv 0) pe_int (fun _ _ => rfl)))) pa_nil)) pe_int)) (pss_cons (ps_set (i := 4) sc__law_take.nd rfl (Or.inl rfl) (pe_op (op_addK K rfl) (pe_op op_modN (pe_callTy call_int1 (by rfl) T.z_int (by decide +kernel) (pa_cons (pv 3) pa_nil)) pe_int) pe_int)) (pss_cons (ps_set (i := 5) sc__law_take.nd rfl (Or.inl rfl) (pe_op op_modN (pe_callTy call_int1 (by rfl) T.z_int (by decide +kernel) (pa_cons (pe_op op_mulA (pe_op (op_addK K rfl) (pe_op (op_addK K rfl) (pv 3) (pe_ix (ix_sK K rfl) (pv 0) pe_int (fun _ _ => rfl))) (pe_op (op_fdivP hs) (pe_ix (ix_sK K rfl) (pv 0) pe_int (fun _ _ => rfl)) pe_int)) (pv 4)) pa_nil)) pe_int)) (pss_one (ps_ret (pe_op op_modN (pe_callTy call_int1 (by rfl) T.z_int (by decide +kernel) (pa_cons (pe_op (op_fdivP hs) (pe_op op_modN (pe_callTy call_int1 (by rfl) T.z_int (by decide +kernel) (pa_cons (pe_op (op_addK K rfl) (pe_op op_mulA (pv 5) pe_int) (pv 3)) pa_nil)) pe_int) pe_int) pa_nil)) (pv 1))))))))), fun Fz ls ds r ls' h => ?_⟩
  cases h with
  | mk ok hm hn =>
    rename_i s n m
    have b0 := ok.b0
    have b1 := ok.b1
    have c0 := ok.c0
    have c1 := ok.c1
    have nz : n ≠ 0 := by omega
    refine fin_I (n := 5) ?_
    by_cases ha : 0 < s.a
    · have e : takeF s n = (s.a.fmod n, ⟨s.a.fdiv n, s.b, s.c⟩) := by unfold takeF; rw [if_pos ha]
      rw [e]
      refine xs_stop (y_ifT (t_cast (t_borrow (i := 0) rfl (e_op (e_op (e_var rfl) (e_int) (by walk_at "ix")) (e_int) o_C0)) (decide_eq_true ha)) ?_) rfl
      refine xs_cons (y_set (e_borrow (i := 0) rfl (e_op (e_cb (a_cons (e_op (e_var rfl) (e_int) (by walk_at "ix")) a_nil) (by walk_at "b_int")) (e_var rfl) (o_mod (by walk_at "nz"))) rfl)) ?_
      refine xs_cons (x_store (p := true) (j := 0) (k := 0) (e_borrow (i := 0) rfl (e_op (e_op (e_var rfl) (e_int) (by walk_at "ix")) (e_var rfl) (o_fdiv (by walk_at "nz"))) rfl) rfl ⟨_, rfl⟩ e_int rfl) ?_
      exact z_ret (p := true) (e_var rfl) rfl
    · have e : takeF s n = ((((twiceF s.b (s.c + 1) * 48271 + onceF s.b (s.c + 1)).fmod 2147483587).fdiv 64).fmod n, ⟨s.a, s.b, s.c + 1⟩) := by unfold takeF; rw [if_neg ha]
      rw [e]
      have o1 := fm_bd (x := (s.b + 48271 * (s.c + 1)) * (40961 + (s.c + 1))) (n := 2147483647) (by decide)
      have o2 := fm_bd (x := onceF s.b (s.c + 1)) (n := 40009) (by decide)
      have m1 : IntMulOk (s.b + 48271 * (s.c + 1)) (40961 + (s.c + 1)) := mulR (by omega) (by omega)
      have m2 : IntMulOk (onceF s.b (s.c + 1) + (s.c + 1) + s.b.fdiv 1000003) ((onceF s.b (s.c + 1)).fmod 40009 + 7) := mulR (by omega) (by omega)
      refine xs_cons (y_ifF (t_cast (t_borrow (i := 0) rfl (e_op (e_op (e_var rfl) (e_int) (by walk_at "ix")) (e_int) o_C0)) (decide_eq_false ha)) x_next) ?_
      refine xs_cons (x_store (p := true) (j := 2) (k := 2) (e_borrow (i := 0) rfl (e_op (e_op (e_var rfl) (e_int) (by walk_at "ix")) (e_int) (by walk_at "o+")) rfl) rfl ⟨_, rfl⟩ e_int rfl) ?_
      refine xs_cons (y_set (e_borrow (i := 0) (d := .int (onceF s.b (s.c + 1))) rfl (e_op (e_cb (a_cons (e_op (e_op (e_op (e_var rfl) (e_int) (by walk_at "ix")) (e_op (e_int) (e_op (e_var rfl) (e_int) (by walk_at "ix")) (by walk_at "o*")) (by walk_at "o+")) (e_op (e_int) (e_op (e_var rfl) (e_int) (by walk_at "ix")) (by walk_at "o+")) (by walk_at "o*")) a_nil) (by walk_at "b_int")) (e_int) (o_mod (by walk_at "nz"))) rfl)) ?_
      refine xs_cons (y_set (e_op (e_op (e_cb (a_cons (e_var rfl) a_nil) (by walk_at "b_int")) (e_int) (o_mod (by walk_at "nz"))) (e_int) (by walk_at "o+"))) ?_
      refine xs_cons (y_set (e_borrow (i := 0) (d := .int (twiceF s.b (s.c + 1))) rfl (e_op (e_cb (a_cons (e_op (e_op (e_op (e_var rfl) (e_op (e_var rfl) (e_int) (by walk_at "ix")) (by walk_at "o+")) (e_op (e_op (e_var rfl) (e_int) (by walk_at "ix")) (e_int) (o_fdiv (by walk_at "nz"))) (by walk_at "o+")) (e_var rfl) (by walk_at "o*")) a_nil) (by walk_at "b_int")) (e_int) (o_mod (by walk_at "nz"))) rfl)) ?_
      exact z_ret (p := true) (e_op (e_cb (a_cons (e_op (e_op (e_cb (a_cons (e_op (e_op (e_var rfl) (e_int) (by walk_at "o*")) (e_var rfl) (by walk_at "o+")) a_nil) (by walk_at "b_int")) (e_int) (o_mod (by walk_at "nz"))) (e_int) (o_fdiv (by walk_at "nz"))) a_nil) (by walk_at "b_int")) (e_var rfl) (o_mod (by walk_at "nz"))) rfl
end
end B
/-! text KN -/
set_option Elab.async false
set_option linter.all false
set_option maxRecDepth 100000
set_option autoImplicit false
namespace B
open PySem PySem.Spec PyProof.Rows L2
local macro_rules | `(tactic| walk_at "o+") => `(tactic| first | exact o_orL o_I0 | (exact o_orR (o_orL (o_cat (by assumption)))) | (exact o_orR (o_orR (o_catA (by assumption)))))
local macro_rules | `(tactic| walk_at "o*") => `(tactic| exact o_orL (o_mul (by walk_at "mul")))
local macro_rules | `(tactic| walk_at "mul") => `(tactic| first | assumption | exact mul_nd (by assumption) (by assumption) | exact mul_dd (by assumption) (by assumption) | exact mul_nn (by assumption) (by assumption) | exact mul_dn (by assumption) (by assumption))
local macro_rules | `(tactic| walk_at "nz") => `(tactic| assumption)
local macro_rules | `(tactic| walk_at "nzd") => `(tactic| exact den2_ne _ _)
local macro_rules | `(tactic| walk_at "ix") => `(tactic| first | exact o_ixT' rfl | exact o_ixL' rfl | exact o_ixT' (by assumption) | exact o_ixL' (by assumption))
local macro_rules | `(tactic| walk_at "o=") => `(tactic| first | exact o_orL o_eqI | exact o_orL o_neI | exact o_orL o_eqB | exact o_orL o_neB | exact o_orR (o_eqD (by assumption) (by assumption)) | exact o_orR (o_neD (by assumption) (by assumption)) | exact o_orR (o_eqD rfl rfl) | exact o_orR (o_neD rfl rfl))
local macro_rules | `(tactic| walk_at "b_gcd") => `(tactic| exact n_gcd)
local macro_rules | `(tactic| walk_at "b_len") => `(tactic| first | exact n_lenT | exact n_lenL)
local macro_rules | `(tactic| walk_at "b_tuple") => `(tactic| first | exact n_tupleL | exact n_tupleT)
local macro_rules | `(tactic| walk_at "b_isinstance") => `(tactic| exact n_isi rfl rfl)
local macro_rules | `(tactic| walk_at "b_all") => `(tactic| exact n_all)
local macro_rules | `(tactic| walk_at "b_lcm") => `(tactic| exact n_lcm (by assumption))
local macro_rules | `(tactic| walk_at "b_sorted") => `(tactic| exact n_sortedP)
local macro_rules | `(tactic| walk_at "sp") => `(tactic| (constructor <;> first | assumption | rfl | walk_at "nzd"))
section
variable {P : Program} {w : World} {K : PySem.W.Frag} {mg : Str → Option Value} {base : Heap} {vN vS : V}
local macro_rules | `(tactic| walk_at "b_int") => `(tactic| first | exact n_intI | exact n_intB)
local macro_rules | `(tactic| walk_at "b_abs") => `(tactic| exact n_abs)
local macro_rules | `(tactic| walk_at "mul") => `(tactic| first | assumption | exact mulL (by decide) (by decide) | exact mulR (by decide) (by decide))
local macro_rules | `(tactic| walk_at "nz") => `(tactic| first | assumption | decide)
inductive S__law_of : List Dt → List Dt → R → List Dt → Prop
  | mk {s : Tin} {gs : List Dt} {g : Dt} {m : Int} (ok : TOk m s) (hm : m ≤ 1000000) (hn : 0 < gs.length) (hg : gs[(takeF s gs.length).1.toNat]? = some g) : S__law_of (tdt s) [.lst gs] (.val g) (tdt (takeF s gs.length).2)
theorem atI_toNat {gs : List Dt} {i : Int} {g : Dt} (h0 : 0 ≤ i) (h : gs[i.toNat]? = some g) : atI gs i = some g := by
  unfold atI ixN
  have hlt := (List.getElem?_eq_some_iff.mp h).1
  rw [if_pos h0, if_pos (by omega)]
  exact h
theorem c__law_of (T : Txt P w K mg base vN vS) : Cl P w K mg base CX0 35 "_law_of" (spI K S__law_of) := by
  refine clI T.d__law_of b__law_of sc__law_of (fun ls ds r ls' h => by cases h; rfl) fun f cdv A outer s H E hr => ?_
  refine ⟨_, (pss_one (ps_ret (pe_ix (ix_sK K rfl) (pv 1) (pe_cl (c__law_take T) hr (by decide) (by rfl) pass0 (pa_cons (pv 0) (pa_cons (pe_callB call_len_seq (by rfl) T.z_len (by decide +kernel) (pa_cons (pv 1) pa_nil)) pa_nil))) (fun _ _ => rfl)))), fun Fz ls ds r ls' h => ?_⟩
  cases h with
  | mk ok hm hn hg =>
    rename_i s gs g m
    have hn' : (0 : Int) < (gs.length : Int) := by omega
    have i1 := atI_toNat (take_bd (s := s) hn').1 hg
    refine fin_I (n := 1) ?_
    exact z_ret (p := false) (e_op (e_var rfl) (e_callI ⟨_, rfl⟩ (a_cons (e_cb (a_cons (e_var rfl) a_nil) n_lenL) a_nil) rfl (S__law_take.mk ok hm hn')) (o_ixL' i1)) rfl
def SZ : List Int := [1, 2, 3, 5, 8, 12, 30, 1000000000000]
def sizeF (s : Tin) : Int := SZ.getD (takeF s 8).1.toNat 0
theorem size_bd (s : Tin) : 1 ≤ sizeF s ∧ sizeF s ≤ 1000000000000 := by
  have := take_bd (s := s) (n := 8) (by decide)
  unfold sizeF
  generalize (takeF s 8).1 = i at this
  obtain ⟨n, rfl⟩ : ∃ n : Nat, i = (n : Int) := ⟨i.toNat, by omega⟩
  rw [Int.toNat_natCast]
  have hn : n < 8 := by omega
  match n, hn with
  | 0, _ => decide
  | 1, _ => decide
  | 2, _ => decide
  | 3, _ => decide
  | 4, _ => decide
  | 5, _ => decide
  | 6, _ => decide
  | 7, _ => decide
inductive S__law_size : List Dt → List Dt → R → List Dt → Prop
  | mk {s : Tin} {m : Int} (ok : TOk m s) (hm : m ≤ 1000000) : S__law_size (tdt s) [] (.val (.int (sizeF s))) (tdt (takeF s 8).2)
theorem c__law_size (T : Txt P w K mg base vN vS) : Cl P w K mg base CX0 36 "_law_size" (spI K S__law_size) := by
  refine clI T.d__law_size b__law_size sc__law_size (fun ls ds r ls' h => by cases h; rfl) fun f cdv A outer s H E hr => ?_
  refine ⟨_, (pss_one (ps_ret (pe_cl (c__law_of T) hr (by decide) (by rfl) pass0 (pa_cons (pv 0) (pa_cons (pe_lst (pa_cons pe_int (pa_cons pe_int (pa_cons pe_int (pa_cons pe_int (pa_cons pe_int (pa_cons pe_int (pa_cons pe_int (pa_cons (pe_op op_pow pe_int pe_int) pa_nil))))))))) pa_nil))))), fun Fz ls ds r ls' h => ?_⟩
  cases h with
  | mk ok hm =>
    rename_i s m
    have hg : (SZ.map Dt.int)[(takeF s 8).1.toNat]? = some (.int (sizeF s)) := by
      have := take_bd (s := s) (n := 8) (by decide)
      unfold sizeF
      have hl : (takeF s 8).1.toNat < SZ.length := by
        show _ < 8
        omega
      rw [List.getElem?_map, List.getElem?_eq_getElem hl, List.getD_eq_getElem?_getD, List.getElem?_eq_getElem hl]
      rfl
    refine fin_I (n := 0) ?_
    exact z_ret (p := false) (e_callI ⟨_, rfl⟩ (a_cons (e_frz (e_lst (a_cons e_int (a_cons e_int (a_cons e_int (a_cons e_int (a_cons e_int (a_cons e_int (a_cons e_int (a_cons (e_op e_int e_int (o_pow ⟨by decide, by decide, by decide⟩)) a_nil)))))))))) a_nil) rfl (S__law_of.mk (gs := SZ.map Dt.int) ok hm (by decide) hg)) rfl
/-! amounts -/
def amtF (s : Tin) (n : Int) : Rat × Tin :=
  if (takeF s 6).1 = 0 then (0, (takeF s 6).2)
  else if (takeF s 6).1 < 3 then (Rat.divInt (1 + (takeF (takeF s 6).2 n).1) (1 + (takeF (takeF (takeF s 6).2 n).2 5).1), (takeF (takeF (takeF s 6).2 n).2 5).2)
  else (((takeF (takeF s 6).2 (n + 1)).1 : Int), (takeF (takeF s 6).2 (n + 1)).2)
theorem TOk.mono {m m' : Int} {s : Tin} (h : TOk m s) (l : m ≤ m') : TOk m' s := ⟨h.b0, h.b1, h.c0, Int.le_trans h.c1 l⟩
theorem amt_ok {s : Tin} {n m : Int} (h : TOk m s) : TOk (m + 3) (amtF s n).2 := by
  have h1 := take_ok (n := 6) h
  unfold amtF
  split
  · exact h1.mono (by omega)
  · split
    · exact (take_ok (n := 5) (take_ok (n := n) h1)).mono (by omega)
    · exact (take_ok (n := n + 1) h1).mono (by omega)
theorem amt_bd {s : Tin} {n : Int} (h0 : 0 < n) (h1 : n < 2 ^ 42) : 0 ≤ (amtF s n).1 ∧ Sz 43 (amtF s n).1 := by
  unfold amtF
  have b1 := take_bd (s := (takeF s 6).2) (n := n) h0
  have b2 := take_bd (s := (takeF (takeF s 6).2 n).2) (n := 5) (by decide)
  have b3 := take_bd (s := (takeF s 6).2) (n := n + 1) (by omega)
  split
  · exact ⟨Rat.le_refl, sz_zero (by decide)⟩
  · split
    · refine ⟨?_, sz_divInt (by omega) ?_ ?_⟩
      · rw [← Rat.num_nonneg, Rat.num_divInt, Int.sign_eq_one_of_pos (by omega), Int.one_mul]
        exact Int.ediv_nonneg (by omega) (by omega)
      · exact Nat.lt_trans (show _ < 2 ^ 42 + 1 by omega) (by decide)
      · exact Nat.lt_trans (show _ < 6 by omega) (by decide)
    · refine ⟨Rat.intCast_nonneg.mpr b3.1, ?_, show 1 < 2 ^ 43 by decide⟩
      show (takeF (takeF s 6).2 (n + 1)).1.natAbs < _
      exact Nat.lt_trans (show _ < 2 ^ 42 + 1 by omega) (by decide)
inductive S__law_amount : List Dt → List Dt → R → List Dt → Prop
  | mk {s : Tin} {n m : Int} (ok : TOk m s) (hm : m ≤ 900000) (hn : 0 < n) : S__law_amount (tdt s) [.int n] (.val (enc (amtF s n).1)) (tdt (amtF s n).2)
local macro_rules | `(tactic| walk_at "nzd") => `(tactic| assumption)
theorem c__law_amount (T : Txt P w K mg base vN vS) : Cl P w K mg base CX0 37 "_law_amount" (spI K S__law_amount) := by
  refine clI T.d__law_amount b__law_amount sc__law_amount (fun ls ds r ls' h => by cases h; rfl) fun f cdv A outer s H E hr => ?_
  refine ⟨_, (pss_cons (ps_set (i := 2) sc__law_amount.nd rfl (Or.inl rfl) (pe_cl (c__law_take T) hr (by decide) (by rfl) pass0 (pa_cons (pv 0) (pa_cons pe_int pa_nil)))) (pss_cons (ps_if (pt_cmpR (op_eqK K rfl (hu_of hr)) (pv 2) pe_int (nomark _)) (pss_one (ps_ret (pe_tup (pa_cons pe_int (pa_cons pe_int pa_nil))))) pss_nil) (pss_cons (ps_if (pt_cmpR op_lt (pv 2) pe_int (nomark _)) (pss_one (ps_ret (pe_cl (c__law_cut T) hr (by decide) (by rfl) pass0 (pa_cons (pe_op (op_addK K rfl) pe_int (pe_cl (c__law_take T) hr (by decide) (by rfl) pass0 (pa_cons (pv 0) (pa_cons (pv 1) pa_nil)))) (pa_cons (pe_op (op_addK K rfl) pe_int (pe_cl (c__law_take T) hr (by decide) (by rfl) pass0 (pa_cons (pv 0) (pa_cons pe_int pa_nil)))) pa_nil))))) pss_nil) (pss_one (ps_ret (pe_tup (pa_cons (pe_cl (c__law_take T) hr (by decide) (by rfl) pass0 (pa_cons (pv 0) (pa_cons (pe_op (op_addK K rfl) (pv 1) pe_int) pa_nil))) (pa_cons pe_int pa_nil)))))))), fun Fz ls ds r ls' h => ?_⟩
  cases h with
  | mk ok hm hn =>
    rename_i s n m
    have h1 := take_ok (n := 6) ok
    have b0 := take_bd (s := s) (n := 6) (by decide)
    have b1 := take_bd (s := (takeF s 6).2) (n := n) hn
    have b2 := take_bd (s := (takeF (takeF s 6).2 n).2) (n := 5) (by decide)
    refine fin_I (n := 2) ?_
    refine xs_cons (x_set (p := false) (e_callI ⟨_, rfl⟩ (a_cons e_int a_nil) rfl (S__law_take.mk ok (by omega) (by decide))) (ltb rfl)) ?_
    unfold amtF
    by_cases c1 : (takeF s 6).1 = 0
    · rw [if_pos c1]
      exact xs_stop (x_ifT (p := false) (t_cast (t_test (e_op (e_var rfl) (e_int) (by walk_at "o="))) (by rw [c1]; rfl)) (z_ret (p := false) (e_tup (a_cons e_int (a_cons e_int a_nil))) rfl)) rfl
    · rw [if_neg c1]
      refine xs_cons (x_ifF (p := false) (t_cast (t_test (e_op (e_var rfl) (e_int) (by walk_at "o="))) (beq_eq_false_iff_ne.mpr c1)) x_next) ?_
      by_cases c2 : (takeF s 6).1 < 3
      · rw [if_pos c2]
        refine xs_stop (x_ifT (p := false) (t_cast (t_test (e_op (e_var rfl) (e_int) o_C0)) (decide_eq_true c2)) ?_) rfl
        exact z_ret (p := false) (e_call (a_cons (e_op e_int (e_callI ⟨_, rfl⟩ (a_cons (e_var rfl) a_nil) rfl (S__law_take.mk h1 (by omega) hn)) (by walk_at "o+")) (a_cons (e_op e_int (e_callI ⟨_, rfl⟩ (a_cons e_int a_nil) rfl (S__law_take.mk (take_ok (n := n) h1) (by omega) (by decide))) (by walk_at "o+")) a_nil)) (S__law_cut.mk (by omega))) rfl
      · rw [if_neg c2]
        refine xs_cons (x_ifF (p := false) (t_cast (t_test (e_op (e_var rfl) (e_int) o_C0)) (decide_eq_false c2)) x_next) ?_
        exact z_ret (p := false) (e_tup (a_cons (e_callI ⟨_, rfl⟩ (a_cons (e_op (e_var rfl) e_int (by walk_at "o+")) a_nil) rfl (S__law_take.mk h1 (by omega) (by omega))) (a_cons e_int a_nil))) rfl
end
end B
/-! text KO -/
set_option Elab.async false
set_option linter.all false
set_option maxRecDepth 100000
set_option autoImplicit false
namespace B
open PySem PySem.Spec PyProof.Rows L2
local macro_rules | `(tactic| walk_at "o+") => `(tactic| first | exact o_orL o_I0 | (exact o_orR (o_orL (o_cat (by assumption)))) | (exact o_orR (o_orR (o_catA (by assumption)))))
local macro_rules | `(tactic| walk_at "o*") => `(tactic| exact o_orL (o_mul (by walk_at "mul")))
local macro_rules | `(tactic| walk_at "mul") => `(tactic| first | assumption | exact mul_nd (by assumption) (by assumption) | exact mul_dd (by assumption) (by assumption) | exact mul_nn (by assumption) (by assumption) | exact mul_dn (by assumption) (by assumption))
local macro_rules | `(tactic| walk_at "nz") => `(tactic| assumption)
local macro_rules | `(tactic| walk_at "nzd") => `(tactic| exact den2_ne _ _)
local macro_rules | `(tactic| walk_at "ix") => `(tactic| first | exact o_ixT' rfl | exact o_ixL' rfl | exact o_ixT' (by assumption) | exact o_ixL' (by assumption))
local macro_rules | `(tactic| walk_at "o=") => `(tactic| first | exact o_orL o_eqI | exact o_orL o_neI | exact o_orL o_eqB | exact o_orL o_neB | exact o_orR (o_eqD (by assumption) (by assumption)) | exact o_orR (o_neD (by assumption) (by assumption)) | exact o_orR (o_eqD rfl rfl) | exact o_orR (o_neD rfl rfl))
local macro_rules | `(tactic| walk_at "b_gcd") => `(tactic| exact n_gcd)
local macro_rules | `(tactic| walk_at "b_len") => `(tactic| first | exact n_lenT | exact n_lenL)
local macro_rules | `(tactic| walk_at "b_tuple") => `(tactic| first | exact n_tupleL | exact n_tupleT)
local macro_rules | `(tactic| walk_at "b_isinstance") => `(tactic| exact n_isi rfl rfl)
local macro_rules | `(tactic| walk_at "b_all") => `(tactic| exact n_all)
local macro_rules | `(tactic| walk_at "b_lcm") => `(tactic| exact n_lcm (by assumption))
local macro_rules | `(tactic| walk_at "b_sorted") => `(tactic| exact n_sortedP)
local macro_rules | `(tactic| walk_at "sp") => `(tactic| (constructor <;> first | assumption | rfl | walk_at "nzd"))
section
variable {P : Program} {w : World} {K : PySem.W.Frag} {mg : Str → Option Value} {base : Heap} {vN vS : V}
local macro_rules | `(tactic| walk_at "b_int") => `(tactic| first | exact n_intI | exact n_intB)
local macro_rules | `(tactic| walk_at "b_abs") => `(tactic| exact n_abs)
local macro_rules | `(tactic| walk_at "mul") => `(tactic| first | assumption | exact mulL (by decide) (by decide) | exact mulR (by decide) (by decide))
local macro_rules | `(tactic| walk_at "nz") => `(tactic| first | assumption | decide)
/-! comprehensions that change the tin -/
def mapF {α β γ : Type} (g : β → α → γ × β) : β → List α → List γ × β
  | b, [] => ([], b)
  | b, x :: xs => ((g b x).1 :: (mapF g (g b x).2 xs).1, (mapF g (g b x).2 xs).2)
theorem mapF_len {α β γ : Type} {g : β → α → γ × β} : ∀ {xs : List α} {b : β}, (mapF g b xs).1.length = xs.length
  | [], b => rfl
  | x :: xs, b => by unfold mapF; rw [List.length_cons, mapF_len, List.length_cons]
theorem lcx_fold {C : Cc} {p : Bool} {α β γ : Type} {gg : TG} {ts vs : List Nat} {te : TE} {f : α → Dt} {h : γ → Dt} {env : β → En} {g : β → α → γ × β} {J : List α → β → Prop}
    (hs : ∀ x xs b, J (x :: xs) b → (∃ ρ1 ρ3, EvG C gg ts (f x) (wipeE (env b) vs) ρ1 ∧ Ev C p te ρ1 (.val (h (g b x).1)) ρ3 ∧ BackE vs (env b) ρ3 (env (g b x).2)) ∧ J xs (g b x).2) :
    ∀ {xs : List α} {b : β}, J xs b → LcX C p gg ts tYes te vs (xs.map f) (env b) ((mapF g b xs).1.map h) (env (mapF g b xs).2)
  | [], b, _ => ⟨rfl, rfl⟩
  | x :: xs, b, hj => by
    obtain ⟨⟨ρ1, ρ3, k1, k2, k3⟩, hj2⟩ := hs x xs b hj
    exact ⟨ρ1, true, ρ1, env (g b x).2, k1, fun σ H M e Q q => q H M (.refl e), .inl ⟨rfl, h (g b x).1, ρ3, _, k2, k3, rfl, lcx_fold hs hj2⟩⟩
/-- the stock: two amounts a time -/
def brnF (n : Int) (s : Tin) : Pt × Tin := (((amtF s (2 * n)).1, (amtF (amtF s (2 * n)).2 n).1), (amtF (amtF s (2 * n)).2 n).2)
def stkF (s : Tin) (cnt : Nat) (n : Int) : List Pt × Tin := mapF (fun b (_ : Nat) => brnF n b) s (List.range cnt)
theorem brn_ok {s : Tin} {n m : Int} (h : TOk m s) : TOk (m + 6) (brnF n s).2 := (amt_ok (amt_ok h)).mono (by omega)
theorem brn_bd {s : Tin} {n : Int} (h0 : 0 < n) (h1 : n < 2 ^ 41) : Nn (brnF n s).1 ∧ BSz 43 (brnF n s).1 := by
  have a1 := amt_bd (s := s) (n := 2 * n) (by omega) (by omega)
  have a2 := amt_bd (s := (amtF s (2 * n)).2) (n := n) (by omega) (by omega)
  exact ⟨⟨a1.1, a2.1⟩, a1.2, a2.2⟩
theorem stk_all {n : Int} (h0 : 0 < n) (h1 : n < 2 ^ 41) {xs : List Nat} : ∀ {s : Tin} {m : Int}, TOk m s → (∀ b ∈ (mapF (fun b (_ : Nat) => brnF n b) s xs).1, Nn b ∧ BSz 43 b) ∧ TOk (m + 6 * xs.length) (mapF (fun b (_ : Nat) => brnF n b) s xs).2 := by
  induction xs with
  | nil => intro s m h; exact ⟨fun b hb => (nomatch hb), h.mono (by simp)⟩
  | cons x xs ih =>
    intro s m h
    obtain ⟨i1, i2⟩ := ih (brn_ok (n := n) h)
    refine ⟨fun b hb => ?_, i2.mono (by rw [List.length_cons]; omega)⟩
    rcases List.mem_cons.mp hb with z | z
    · rw [z]; exact brn_bd h0 h1
    · exact i1 b z
inductive S__law_stock : List Dt → List Dt → R → List Dt → Prop
  | mk {s : Tin} {n m : Int} {cnt : Nat} (ok : TOk m s) (hm : m ≤ 800000) (hn : 0 < n) (hc : cnt ≤ 1000) : S__law_stock (tdt s) [.int (cnt : Int), .int n] (.val (encC (stkF s cnt n).1)) (tdt (stkF s cnt n).2)
theorem c__law_stock (T : Txt P w K mg base vN vS) : Cl P w K mg base CX0 38 "_law_stock" (spI K S__law_stock) := by
  refine clI T.d__law_stock b__law_stock sc__law_stock (fun ls ds r ls' h => by cases h; rfl) fun f cdv A outer s H E hr => ?_
  refine ⟨_, (pss_one (ps_ret (pe_callTy call_tuple_of (by rfl) T.z_tuple (by decide +kernel) (pa_cons (pe_lc (own := [("k", 3)]) rfl sc__law_stock.nd (pi_range1 (by rfl) T.z_range (pa_cons (pv 1) pa_nil)) (blkOk_by (N := n__law_stock) (sc := defScope s__law_stock) (by decide +kernel)) (by exact fun _ _ _ _ _ => (pg_name (i := 3) sc__law_stock.nd rfl (Or.inl rfl))) (by exact fun _ _ _ _ _ => pts_nil) (by exact fun _ _ _ _ _ => (pe_tup (pa_cons (pe_cl (c__law_amount T) hr (by decide) (by rfl) pass0 (pa_cons (pv 0) (pa_cons (pe_op op_mulA pe_int (pv 2)) pa_nil))) (pa_cons (pe_cl (c__law_amount T) hr (by decide) (by rfl) pass0 (pa_cons (pv 0) (pa_cons (pv 2) pa_nil))) pa_nil))))) pa_nil)))), fun Fz ls ds r ls' h => ?_⟩
  cases h with
  | mk ok hm hn hc =>
    rename_i s n m cnt
    refine fin_I (n := 3) ?_
    have hx := lcx_fold (C := ⟨K, 1, Fz⟩) (p := false) (gg := gName 3) (ts := [3]) (vs := [3]) (f := fun k : Nat => Dt.int (k : Int)) (h := encB) (env := fun s : Tin => [some (.own (tdt s)), some (.val (.int (cnt : Int))), some (.val (.int n)), none]) (g := fun b (_ : Nat) => brnF n b) (J := fun xs b => TOk (m + 6 * (cnt - xs.length)) b ∧ xs.length ≤ cnt) (te := tTup (tCons (tCall (spI K S__law_amount) [] E0 (tCons (tVar 0) (tCons (tOp (fun x y H Q => rI IntMulOk (fun i j => V.int (i * j)) x y H Q ∨ rRep x y H Q) (tC (V.int 2)) (tVar 2)) tNil))) (tCons (tCall (spI K S__law_amount) [] E0 (tCons (tVar 0) (tCons (tVar 2) tNil))) tNil))) (xs := List.range cnt) (b := s) ?_ ⟨ok.mono (by rw [List.length_range]; omega), by rw [List.length_range]; exact Nat.le_refl _⟩
    · refine z_ret (p := false) (e_cb (a_cons (e_frz (e_lc (ts := [3]) (i_rngN (n := cnt) (a_cons (e_var rfl) a_nil) (by omega) (by omega) (by omega)) hx (fun j hj => hj) (lt_sz (by rw [List.length_map, List.length_range]; omega)))) a_nil) n_tupleL) rfl
    · rintro x xs b ⟨hb, hl⟩
      rw [List.length_cons] at hb hl
      have o1 := amt_ok (n := 2 * n) hb
      have m2 : IntMulOk 2 n := mulL (by decide) (by decide)
      refine ⟨⟨[some (.own (tdt b)), some (.val (.int (cnt : Int))), some (.val (.int n)), some (.val (.int (x : Int)))], [some (.own (tdt (brnF n b).2)), some (.val (.int (cnt : Int))), some (.val (.int n)), some (.val (.int (x : Int)))], g_name (ltb rfl), ?_, rfl, fun j hj => ?_, fun j hj => ?_⟩, (brn_ok (n := n) hb).mono (by omega), by omega⟩
      · exact e_tup (a_cons (e_callI ⟨_, rfl⟩ (a_cons (e_op e_int (e_var rfl) (by walk_at "o*")) a_nil) rfl (S__law_amount.mk hb (by omega) (by omega))) (a_cons (e_callI ⟨_, rfl⟩ (a_cons (e_var rfl) a_nil) rfl (S__law_amount.mk o1 (by omega) hn)) a_nil))
      · rw [List.mem_singleton.mp hj]
        exact ⟨rfl, fun ds z => nomatch z⟩
      · match j with
        | 0 => rfl
        | 1 => rfl
        | 2 => rfl
        | 3 => exact absurd (List.mem_singleton.mpr rfl) hj
        | j + 4 => rfl
/-! the box, the cells -/
def boxF (v : Int) : Tin := ⟨(v.natAbs : Int) * (if decide (10 ^ 18 ≤ (v.natAbs : Int)) = true then 1 else 0), v.fmod 2305843009213693951 + 40961 * 0 + 6125066, 0⟩
theorem box_ok (v : Int) : TOk 0 (boxF v) := by
  have := fm_bd (x := v) (n := 2305843009213693951) (by decide)
  exact ⟨by show 0 ≤ _ + _ + _; omega, by show _ + _ + _ < _; omega, Int.le_refl 0, Int.le_refl 0⟩
inductive S__law_box : List Dt → R → Prop
  | mk {v : Int} : S__law_box [.lst [.int v], .int 0] (.fr (tdt (boxF v)))
theorem c__law_box (T : Txt P w K mg base vN vS) : Cl P w K mg base CX0 34 "_law_box" (spP K S__law_box) := by
  refine clP T.d__law_box b__law_box sc__law_box (fun ds r h => by cases h; rfl) fun f cdv A outer s H E hr => ?_
  refine ⟨_, (pss_cons (ps_set (i := 2) sc__law_box.nd rfl (Or.inl rfl) (pe_ifExp (pt_cmpR op_lt (pv 1) (pe_callB call_len_seq (by rfl) T.z_len (by decide +kernel) (pa_cons (pv 0) pa_nil)) (nomark _)) (pe_ix (ix_sK K rfl) (pv 0) (pv 1) (fun _ _ => rfl)) pe_int)) (pss_one (ps_ret (pe_lst (pa_cons (pe_op op_mulA (pe_callB call_abs (by rfl) T.z_abs (by decide +kernel) (pa_cons (pv 2) pa_nil)) (pe_callTy call_int1 (by rfl) T.z_int (by decide +kernel) (pa_cons (pe_cmpR op_ge (pe_callB call_abs (by rfl) T.z_abs (by decide +kernel) (pa_cons (pv 2) pa_nil)) (pe_op op_pow pe_int pe_int) (nomark _)) pa_nil))) (pa_cons (pe_op (op_addK K rfl) (pe_op (op_addK K rfl) (pe_op op_modN (pe_callTy call_int1 (by rfl) T.z_int (by decide +kernel) (pa_cons (pv 2) pa_nil)) pe_int) (pe_op op_mulA pe_int (pv 1))) pe_int) (pa_cons pe_int pa_nil))))))), fun Fz ds r h => ?_⟩
  cases h with
  | mk =>
    rename_i v
    have e1 : (if v < 0 then -v else v) = (v.natAbs : Int) := abs_nat
    refine fin_rt ?_
    refine xs_cons (y_set (e_cast (e_ifV (b := true) (x := .int v) (y := .int 0) (t_cast (t_test (e_op (e_var rfl) (e_cb (a_cons (e_var rfl) a_nil) (by walk_at "b_len")) o_C0)) rfl) (fun _ => e_op (e_var rfl) (e_var rfl) (by walk_at "ix")) (fun z => nomatch z)) rfl)) ?_
    have mk : IntMulOk (v.natAbs : Int) (if decide (10 ^ 18 ≤ (v.natAbs : Int)) = true then 1 else 0) := mulR (by split <;> decide) (by split <;> decide)
    refine y_retF (e_lst (a_cons (e_op (e_cast (e_cb (a_cons (e_var rfl) a_nil) n_abs) (by rw [e1])) (e_cb (a_cons (e_op (e_cast (e_cb (a_cons (e_var rfl) a_nil) n_abs) (by rw [e1])) (e_op e_int e_int (o_pow ⟨by decide, by decide, by decide⟩)) o_C0) a_nil) n_intB) (o_orL (o_mul mk))) (a_cons (e_op (e_op (e_op (e_cb (a_cons (e_var rfl) a_nil) (by walk_at "b_int")) (e_int) (o_mod (by walk_at "nz"))) (e_op (e_int) (e_var rfl) (by walk_at "o*")) (by walk_at "o+")) (e_int) (by walk_at "o+")) (a_cons e_int a_nil))))
/-- the first number, the others added -/
def cellV (ns : List Int) : Int := ((ns.drop 1).zipIdx).foldl (fun v x => v + x.1 * ((x.2 : Int) + 2)) (ns.headD 0)
inductive S__law_cells : List Dt → R → Prop
  | mk {ns : List Int} (hl : ns.length ≤ 63) : S__law_cells [.ro (ns.map .int), .int 1] (.fr [.int (cellV ns)])
theorem e_orF {C : Cc} {p : Bool} {ρ ρ1 : En} {ta tb : TE} {xs zs : List Dt} (ha : Ev C p ta ρ (.fr xs) ρ1) (h1 : xs ≠ [] → xs = zs) (h0 : xs = [] → Ev C p tb ρ1 (.fr zs) ρ1) : Ev C p (tOrT C.K ta tb) ρ (.fr zs) ρ1 := fun σ H M e Q q =>
  ha σ H M e _ fun v H1 M1 p1 ⟨a, vs, e1, e2, e3, e4, e5⟩ => by
    subst e1
    refine ⟨!vs.isEmpty, .inl ⟨vs, .of e4, rfl⟩, ?_⟩
    have el := e5.length
    by_cases hx : xs = []
    · have : vs = [] := List.eq_nil_of_length_eq_zero (by rw [el, hx]; rfl)
      rw [this, if_neg (by decide)]
      exact h0 hx σ H1 M1 p1.env Q fun w H2 M2 p2 r2 => q w H2 M2 (p1.trans e p2) (res_back p1.nxt.dom r2)
    · have : (!vs.isEmpty) = true := by
        cases vs with
        | nil => exact absurd (List.eq_nil_of_length_eq_zero (by rw [← el]; rfl)) hx
        | cons => rfl
      rw [if_pos this]
      exact q _ H1 M1 p1 ⟨a, vs, rfl, e2, e3, e4, h1 hx ▸ e5⟩
theorem cut_head (ns : List Int) : cutD (ns.map Dt.int) none (some 1) = (ns.take 1).map Dt.int := by
  cases ns with
  | nil => rfl
  | cons a r =>
    unfold cutD HT.sIx
    simp
theorem cut_tail {ns : List Int} (h : ns.length ≤ 63) : cutD (ns.map Dt.int) (some 1) (some 63) = (ns.drop 1).map Dt.int := by
  cases ns with
  | nil => rfl
  | cons a r =>
    have h' : r.length ≤ 62 := by simpa using h
    unfold cutD HT.sIx
    simp
    rw [List.take_of_length_le]
    rw [List.length_map]
    omega
theorem enum_idx (l : List Int) : pairs (upto (l.map Dt.int).length) (l.map Dt.int) = l.zipIdx.map fun x => Dt.tup [.int (x.2 : Int), .int x.1] := by
  rw [List.length_map]
  unfold pairs upto
  apply List.ext_getElem?
  intro i
  rw [List.getElem?_zipWith, List.getElem?_map, List.getElem?_map, List.getElem?_map, List.getElem?_zipIdx]
  by_cases h : i < l.length
  · rw [List.getElem?_range h, List.getElem?_eq_getElem h]
    simp
  · rw [List.getElem?_eq_none (by rw [List.length_range]; omega), List.getElem?_eq_none (by omega)]
    rfl
theorem c__law_cells (T : Txt P w K mg base vN vS) : Cl P w K mg base CX0 34 "_law_cells" (spP K S__law_cells) := by
  refine clP T.d__law_cells b__law_cells sc__law_cells (fun ds r h => by cases h; rfl) fun f cdv A outer s H E hr => ?_
  refine ⟨_, (pss_cons (ps_set (i := 2) sc__law_cells.nd rfl (Or.inl rfl) (pe_orT (pe_callTy call_list_of (by rfl) T.z_list (by decide +kernel) (pa_cons (pe_slice sl_any (pv 0) po_none (po_some (pv 1))) pa_nil)) (pe_one (pe_lst (pa_cons pe_int pa_nil))))) (pss_cons (ps_for PassesOwn.leaving rfl (pi_enum (by rfl) T.z_enumerate (pa_cons (pe_slice sl_any (pv 0) (po_some (pv 1)) (po_some pe_int)) pa_nil)) (pg_tupK (n := 2) K rfl rfl (pgs_cons (pg_name (i := 3) sc__law_cells.nd rfl (Or.inl rfl)) (pgs_cons (pg_name (i := 4) sc__law_cells.nd rfl (Or.inl rfl)) pgs_nil))) (pss_cons (ps_set (i := 5) sc__law_cells.nd rfl (Or.inl rfl) (pe_op op_modN (pe_callTy call_int1 (by rfl) T.z_int (by decide +kernel) (pa_cons (pv 3) pa_nil)) (pv 1))) (pss_one (ps_asg (pe_op (op_addK K rfl) (pe_ix (ix_sK K rfl) (pv 2) (pv 5) (fun _ _ => rfl)) (pe_op op_mulA (pv 4) (pe_op (op_addK K rfl) (pv 3) pe_int))) (pg_sub (pv 2) (pv 5) set_list))))) (pss_one (ps_ret (pv 2))))), fun Fz ds r h => ?_⟩
  cases h with
  | mk hl =>
    rename_i ns
    have ht := cut_tail hl
    have hsl : (ns.drop 1).zipIdx.length ≤ 63 := by rw [List.length_zipIdx, List.length_drop]; omega
    have hix : ∀ x ∈ (ns.drop 1).zipIdx, x.2 < 100 := fun x hx => by
      have := List.mem_zipIdx' hx
      rw [List.length_drop] at this
      omega
    refine fin_rt ?_
    refine xs_cons (x_setON (p := true) (e_orF (zs := [.int (ns.headD 0)]) (e_cast (e_cb (a_cons (e_frz (e_slR (e_var rfl) so_none (so_some (e_var rfl)))) a_nil) n_listL) (by rw [cut_head])) (fun h => ?_) (fun h => ?_)) (ltb rfl) (Nat.zero_le _) rfl) ?_
    · cases ns with
      | nil => exact absurd rfl h
      | cons a r => rfl
    · cases ns with
      | nil => exact e_lst (a_cons e_int a_nil)
      | cons a r => cases h
    · have hen := enum_idx (ns.drop 1)
      rw [← ht] at hen
      refine xs_cons (y_for (hen ▸ i_enum (a_cons (e_frz (e_slR (e_var rfl) (so_some (e_var rfl)) (so_some e_int))) a_nil)) (forx_inv (f := fun x : Int × Nat => Dt.tup [.int (x.2 : Int), .int x.1]) (env := fun (v : Int) => [some (.val (.ro (ns.map .int))), some (.val (.int 1)), some (.own [.int v]), none, none, none]) (g := fun v x => v + x.1 * ((x.2 : Int) + 2)) (J := fun xs _ => ∀ x ∈ xs, x.2 < 100) ?_ (b := ns.headD 0) hix)) ?_
      · rintro x xs v hx
        have hx2 := hx x (List.mem_cons_self ..)
        have m1 : IntMulOk x.1 ((x.2 : Int) + 2) := mulR (by omega) (by omega)
        have n1 : (1 : Int) ≠ 0 := by decide
        have fz : (x.2 : Int).fmod 1 = 0 := Int.fmod_one _
        refine ⟨.inl (turn (g_tup (gs_cons (g_name (ltb rfl)) (gs_cons (g_name (ltb rfl)) gs_nil))) (xs_cons (y_set (e_op (e_cb (a_cons (e_var rfl) a_nil) (by walk_at "b_int")) (e_var rfl) (o_mod (by walk_at "nz")))) (x_forget (i := 3) (x_forget (i := 4) (x_forget (i := 5) (x_store (p := true) (j := 0) (k := (x.2 : Int).fmod 1) (e_borrow (i := 2) (d := .int (v + x.1 * ((x.2 : Int) + 2))) rfl (e_op (e_op (e_var rfl) (e_var rfl) (o_ixL' (i := (x.2 : Int).fmod 1) (d := .int v) (by rw [fz]; rfl))) (e_op (e_var rfl) (e_op (e_var rfl) (e_int) (by walk_at "o+")) (by walk_at "o*")) (o_orL o_I0)) rfl) rfl ⟨_, rfl⟩ (e_var rfl) (by rw [fz]; rfl)) rfl) rfl) rfl))), fun y hy => hx y (List.mem_cons_of_mem _ hy)⟩
      · exact y_retO rfl
end
end B
/-! text MConj -/
set_option Elab.async false
set_option linter.all false
set_option maxRecDepth 100000
set_option autoImplicit false
namespace B
/-! the mathematics of curves -/
theorem mn {a b : Rat} (ha : 0 ≤ a) (hb : 0 ≤ b) : 0 ≤ a * b := by
  have := le_mul ha hb
  grind
theorem mp {a b : Rat} (ha : 0 < a) (hb : 0 < b) : 0 < a * b := by
  have := lt_mul ha hb
  grind
def sl (a b : Pt) : Rat := (b.2 - a.2) / (b.1 - a.1)
theorem sl_mul {a b : Pt} (h : a.1 < b.1) : sl a b * (b.1 - a.1) = b.2 - a.2 := dmc (by grind)
theorem sl_pos {a b : Pt} (h1 : a.1 < b.1) (h2 : a.2 < b.2) : 0 < sl a b := by
  have h := sl_mul h1
  by_cases c : 0 < sl a b
  · exact c
  · have := mn (a := -sl a b) (b := b.1 - a.1) (by grind) (by grind)
    grind
theorem lt_of_mul {a b d : Rat} (hd : 0 < d) (h : a * d < b * d) : a < b := by
  by_cases c : a < b
  · exact c
  · have := le_mul (a := b) (b := a) (c := d) (by grind) (by grind)
    grind
theorem le_of_mul {a b d : Rat} (hd : 0 < d) (h : a * d ≤ b * d) : a ≤ b := by
  by_cases c : a ≤ b
  · exact c
  · have := lt_mul (a := b) (b := a) (c := d) (by grind) hd
    grind
theorem td_iff {a b c : Pt} (h1 : a.1 < b.1) (h2 : b.1 < c.1) : td a b c = true ↔ sl b c < sl a b := by
  unfold td
  rw [decide_eq_true_iff]
  have e1 := sl_mul h1
  have e2 := sl_mul h2
  generalize sl a b = m at *
  generalize sl b c = n at *
  have d1 : 0 < b.1 - a.1 := by grind
  have d2 : 0 < c.1 - b.1 := by grind
  rw [← e1, ← e2]
  generalize b.1 - a.1 = u at *
  generalize c.1 - b.1 = v at *
  constructor
  · intro h
    refine lt_of_mul (mp d2 d1) ?_
    grind
  · intro h
    have := lt_mul h (mp d2 d1)
    grind
/-- on the first piece -/
theorem hgt_fst {a b : Pt} {r : List Pt} {x : Rat} (h : a.1 < b.1) (hx : x < b.1) : hgt (a :: b :: r) x = a.2 + sl a b * (x - a.1) := by
  unfold hgt sl
  rw [if_neg (Rat.not_le.mpr hx)]
  have : b.1 - a.1 ≠ 0 := by grind
  grind
theorem hgt_snd {a b : Pt} {r : List Pt} {x : Rat} (hx : b.1 ≤ x) : hgt (a :: b :: r) x = hgt (b :: r) x := by
  rw [hgt, if_pos hx]
theorem hgt_corner : ∀ {c : List Pt} {p : Pt}, Inc c → p ∈ c → hgt c p.1 = p.2
  | [], _, _, h => by cases h
  | [a], p, _, h => by rw [List.mem_singleton.mp h]; rfl
  | a :: b :: r, p, hi, h => by
    rcases List.mem_cons.mp h with z | z
    · rw [z, hgt_fst hi.1.1 hi.1.1]
      grind
    · have := (hi.2.ge p z).1
      rw [hgt_snd this]
      exact hgt_corner hi.2 z
/-- L3: under the first line -/
theorem hgt_line : ∀ {r : List Pt} {a b : Pt} {x : Rat}, Inc (a :: b :: r) → Con (a :: b :: r) → a.1 ≤ x → hgt (a :: b :: r) x ≤ a.2 + sl a b * (x - a.1)
  | [], a, b, x, hi, hc, hx => by
    have hp := sl_pos hi.1.1 hi.1.2
    have hm := sl_mul hi.1.1
    by_cases h : x < b.1
    · rw [hgt_fst hi.1.1 h]; exact Rat.le_refl
    · rw [hgt_snd (Rat.not_lt.mp h)]
      show b.2 ≤ _
      have := mn (a := sl a b) (b := x - b.1) (by grind) (by grind)
      grind
  | c :: r, a, b, x, hi, hc, hx => by
    have hp := sl_pos hi.1.1 hi.1.2
    have hm := sl_mul hi.1.1
    by_cases h : x < b.1
    · rw [hgt_fst hi.1.1 h]; exact Rat.le_refl
    · have hbx := Rat.not_lt.mp h
      rw [hgt_snd hbx]
      have ih := hgt_line hi.2 hc.2 hbx
      have ht := (td_iff hi.1.1 hi.2.1.1).mp hc.1
      have := le_mul (a := sl b c) (b := sl a b) (c := x - b.1) (by grind) (by grind)
      grind
/-- L2: strictly, behind the second corner -/
theorem hgt_line_lt {r : List Pt} {a b : Pt} {x : Rat} (hi : Inc (a :: b :: r)) (hc : Con (a :: b :: r)) (hx : b.1 < x) : hgt (a :: b :: r) x < a.2 + sl a b * (x - a.1) := by
  have hp := sl_pos hi.1.1 hi.1.2
  have hm := sl_mul hi.1.1
  rw [hgt_snd (Rat.le_of_lt hx)]
  cases r with
  | nil =>
    show b.2 < _
    have := mp (a := sl a b) (b := x - b.1) hp (by grind)
    grind
  | cons c r =>
    have ih := hgt_line hi.2 hc.2 (Rat.le_of_lt hx)
    have ht := (td_iff hi.1.1 hi.2.1.1).mp hc.1
    have := lt_mul (a := sl b c) (b := sl a b) (c := x - b.1) ht (by grind)
    grind
/-- all corners are under the first line -/
theorem pts_line : ∀ {r : List Pt} {a b p : Pt}, Inc (a :: b :: r) → Con (a :: b :: r) → p ∈ b :: r → p.2 ≤ a.2 + sl a b * (p.1 - a.1) := fun {r a b p} hi hc hp => by
  have h1 := (hi.ge p (List.mem_cons_of_mem _ hp)).1
  have h2 := hgt_line hi hc h1
  rw [hgt_corner hi (List.mem_cons_of_mem _ hp)] at h2
  exact h2
theorem slp_nn : ∀ {c : List Pt} {x : Rat}, Inc c → 0 ≤ slp c x
  | [], _, _ => Rat.le_refl
  | [a], _, _ => Rat.le_refl
  | a :: b :: r, x, hi => by
    unfold slp
    split
    · exact slp_nn hi.2
    · exact Rat.le_of_lt (sl_pos hi.1.1 hi.1.2)
theorem slp_le : ∀ {r : List Pt} {a b : Pt} {x : Rat}, Inc (a :: b :: r) → Con (a :: b :: r) → slp (a :: b :: r) x ≤ sl a b
  | [], a, b, x, hi, hc => by
    have hp := sl_pos hi.1.1 hi.1.2
    unfold slp
    split
    · exact Rat.le_of_lt hp
    · exact Rat.le_refl
  | c :: r, a, b, x, hi, hc => by
    have ht := (td_iff hi.1.1 hi.2.1.1).mp hc.1
    unfold slp
    split
    · have := slp_le (x := x) hi.2 hc.2
      grind
    · exact Rat.le_refl
/-- the line at x lies above all corners -/
theorem tangent : ∀ {c : List Pt} {x : Rat} {p : Pt}, Inc c → Con c → p ∈ c → p.2 ≤ hgt c x + slp c x * (p.1 - x)
  | [], _, _, _, _, h => by cases h
  | [a], x, p, hi, hc, h => by
    rw [List.mem_singleton.mp h]
    show a.2 ≤ a.2 + 0 * _
    grind
  | a :: b :: r, x, p, hi, hc, h => by
    have hm := sl_mul hi.1.1
    by_cases hx : b.1 ≤ x
    · rw [hgt_snd hx]
      have es : slp (a :: b :: r) x = slp (b :: r) x := by rw [slp, if_pos hx]
      rw [es]
      rcases List.mem_cons.mp h with z | z
      · have ih := tangent (c := b :: r) (x := x) (p := b) hi.2 hc.tail (List.mem_cons_self ..)
        have hk : slp (b :: r) x ≤ sl a b := by
          have hp := sl_pos hi.1.1 hi.1.2
          cases r with
          | nil => exact Rat.le_of_lt hp
          | cons c r =>
            have ht := (td_iff hi.1.1 hi.2.1.1).mp hc.1
            have := slp_le (x := x) hi.2 hc.2
            grind
        have := le_mul hk (show 0 ≤ b.1 - a.1 by have := hi.1.1; grind)
        rw [z]
        grind
      · exact tangent hi.2 hc.tail z
    · have hx' := Rat.not_le.mp hx
      rw [hgt_fst hi.1.1 hx']
      have es : slp (a :: b :: r) x = sl a b := by rw [slp, if_neg hx]; rfl
      rw [es]
      rcases List.mem_cons.mp h with z | z
      · rw [z]; grind
      · have := pts_line hi hc z
        grind
/-! the greatest balance -/
def val (k : Rat) (p : Pt) : Rat := p.2 - k * p.1
def cj : List Pt → Rat → Rat
  | [], _ => 0
  | [a], k => val k a
  | a :: b :: r, k => max (val k a) (cj (b :: r) k)
theorem cj_ge : ∀ {c : List Pt} {k : Rat} {p : Pt}, p ∈ c → val k p ≤ cj c k
  | [], _, _, h => by cases h
  | [a], k, p, h => by rw [List.mem_singleton.mp h]; exact Rat.le_refl
  | a :: b :: r, k, p, h => by
    rw [cj]
    rcases List.mem_cons.mp h with z | z
    · rw [z]; grind
    · have := cj_ge (k := k) z
      grind
theorem cj_at : ∀ {c : List Pt} {k : Rat}, c ≠ [] → ∃ p ∈ c, cj c k = val k p
  | [], _, h => absurd rfl h
  | [a], k, _ => ⟨a, List.mem_singleton_self _, rfl⟩
  | a :: b :: r, k, _ => by
    obtain ⟨p, hp, e⟩ := cj_at (c := b :: r) (k := k) (by simp)
    rw [cj, max_if]
    by_cases h : cj (b :: r) k ≤ val k a
    · rw [if_pos h]; exact ⟨a, List.mem_cons_self .., rfl⟩
    · rw [if_neg h]; exact ⟨p, List.mem_cons_of_mem _ hp, e⟩
theorem cj_le {c : List Pt} {k m : Rat} (hne : c ≠ []) (h : ∀ p ∈ c, val k p ≤ m) : cj c k ≤ m := by
  obtain ⟨p, hp, e⟩ := cj_at (k := k) hne
  rw [e]; exact h p hp
/-- le1 -/
theorem hgt_le : ∀ {c : List Pt} {k x : Rat} {a : Pt} {r : List Pt}, c = a :: r → Inc c → 0 ≤ k → a.1 ≤ x → hgt c x ≤ cj c k + k * x
  | [], _, _, _, _, e, _, _, _ => by cases e
  | [a], k, x, a0, r, e, _, hk, hx => by
    cases e
    show a.2 ≤ a.2 - k * a.1 + k * x
    have := le_mul hx hk
    grind
  | a :: d :: s, k, x, a0, r, e, hi, hk, hx => by
    cases e
    have h1 := cj_ge (c := a :: d :: s) (k := k) (p := a) (List.mem_cons_self ..)
    have h2 := cj_ge (c := a :: d :: s) (k := k) (p := d) (List.mem_cons_of_mem _ (List.mem_cons_self ..))
    by_cases h : d.1 ≤ x
    · rw [hgt_snd h]
      have ih := hgt_le (c := d :: s) (k := k) (x := x) rfl hi.2 hk h
      have : cj (d :: s) k ≤ cj (a :: d :: s) k := by rw [cj]; grind
      grind
    · have hx' := Rat.not_le.mp h
      rw [hgt_fst hi.1.1 hx']
      have hm := sl_mul hi.1.1
      have hd := hi.1.1
      unfold val at h1 h2
      generalize cj (a :: d :: s) k = E at *
      generalize sl a d = m at *
      by_cases hkm : m ≤ k
      · have := le_mul hkm (show 0 ≤ x - a.1 by grind)
        grind
      · have := le_mul (a := k) (b := m) (c := d.1 - x) (by grind) (by grind)
        grind
/-- le2 -/
theorem hgt_eq {c : List Pt} {x : Rat} (h : Cv c) (hx : 0 ≤ x) : hgt c x = cj c (slp c x) + slp c x * x ∧ 0 ≤ slp c x := by
  obtain ⟨s, r, e, hs⟩ := h.hd
  have h0 := slp_nn (x := x) h.inc
  have h1 := hgt_le (x := x) e h.inc h0 hx
  have h2 := cj_le (k := slp c x) (m := hgt c x - slp c x * x) h.ne fun p hp => by
    have := tangent (x := x) h.inc h.con hp
    unfold val
    grind
  exact ⟨by grind, h0⟩
theorem hgt_le' {c : List Pt} {k x : Rat} (h : Cv c) (hk : 0 ≤ k) (hx : 0 ≤ x) : hgt c x ≤ cj c k + k * x := by
  obtain ⟨s, r, e, hs⟩ := h.hd
  exact hgt_le e h.inc hk hx
theorem cj_hgt {c : List Pt} {k : Rat} (h : Cv c) : ∃ p ∈ c, 0 ≤ p.1 ∧ cj c k = hgt c p.1 - k * p.1 := by
  obtain ⟨p, hp, e⟩ := cj_at (k := k) h.ne
  exact ⟨p, hp, (h.nn p hp).1, by rw [hgt_corner h.inc hp]; exact e⟩
/-! order -/
theorem hle_of {a b : List Pt} (ha : Cv a) (hb : Cv b) (h : ∀ k, 0 ≤ k → cj a k ≤ cj b k) : ∀ x, 0 ≤ x → hgt a x ≤ hgt b x := fun x hx => by
  obtain ⟨e, hk⟩ := hgt_eq hb hx
  have h1 := hgt_le' ha hk hx
  have h2 := h _ hk
  grind
theorem cle_of {a b : List Pt} (ha : Cv a) (hb : Cv b) (h : ∀ x, 0 ≤ x → hgt a x ≤ hgt b x) : ∀ k, 0 ≤ k → cj a k ≤ cj b k := fun k hk => by
  obtain ⟨p, hp, h0, e⟩ := cj_hgt (k := k) ha
  have h1 := h _ h0
  have h2 := hgt_le' hb hk h0
  grind
/-! a curve is what its heights are -/
theorem hgt_head {a : Pt} {r : List Pt} (hi : Inc (a :: r)) : hgt (a :: r) a.1 = a.2 := hgt_corner hi (List.mem_cons_self ..)
theorem uniq : ∀ {c d : List Pt} {a a' : Pt} {r r' : List Pt}, c = a :: r → d = a' :: r' → Inc c → Con c → Inc d → Con d → a.1 = a'.1 → (∀ x, a.1 ≤ x → hgt c x = hgt d x) → c = d
  | [], _, _, _, _, _, e, _, _, _, _, _, _, _ => by cases e
  | [a], d, a0, a', r, r', e, e', ic, cc, id, cd, h0, h => by
    cases e
    have h1 := h a.1 Rat.le_refl
    rw [hgt_head ic] at h1
    rw [e'] at h1 id ⊢
    rw [h0, hgt_head id] at h1
    cases r' with
    | nil => rw [Prod.ext h0 h1]
    | cons b' r' =>
      have h2 := h b'.1 (by have := id.1.1; grind)
      rw [e', hgt_corner id (p := b') (by simp)] at h2
      have h3 := id.1.2
      have h4 : hgt [a] b'.1 = a.2 := rfl
      grind
  | a :: t :: s, d, a0, a', r, r', e, e', ic, cc, id, cd, h0, h => by
    cases e
    have h1 := h a.1 Rat.le_refl
    rw [hgt_head ic] at h1
    rw [e'] at h1 id cd h ⊢
    rw [h0, hgt_head id] at h1
    have ea : a = a' := Prod.ext h0 h1
    subst ea
    cases r' with
    | nil =>
      have h2 := h t.1 (Rat.le_of_lt ic.1.1)
      rw [hgt_corner ic (p := t) (by simp)] at h2
      have h3 := ic.1.2
      have h4 : hgt [a] t.1 = a.2 := rfl
      grind
    | cons t' s' =>
      have i1 := ic.1.1
      have i2 := id.1.1
      have m1 := sl_mul i1
      have m2 := sl_mul i2
      have k1 := hgt_corner ic (p := t) (by simp)
      have k2 := hgt_corner id (p := t') (by simp)
      have e1 := h t.1 (Rat.le_of_lt i1)
      have e2 := h t'.1 (Rat.le_of_lt i2)
      have et : t = t' := by
        by_cases c1 : t.1 < t'.1
        · exfalso
          rw [k1, hgt_fst i2 c1] at e1
          have l := hgt_line_lt ic cc c1
          rw [e2, k2] at l
          have es : sl a t = sl a t' := by
            have hd : 0 < t.1 - a.1 := by grind
            have q1 : sl a t * (t.1 - a.1) = sl a t' * (t.1 - a.1) := by grind
            have := le_of_mul hd (by rw [q1]; exact Rat.le_refl)
            have := le_of_mul hd (by rw [q1]; exact Rat.le_refl)
            grind
          rw [es] at l
          grind
        · by_cases c2 : t'.1 < t.1
          · exfalso
            rw [k2, hgt_fst i1 c2] at e2
            have l := hgt_line_lt id cd c2
            rw [← e1, k1] at l
            have es : sl a t' = sl a t := by
              have hd : 0 < t'.1 - a.1 := by grind
              have q1 : sl a t' * (t'.1 - a.1) = sl a t * (t'.1 - a.1) := by grind
              have := le_of_mul hd (by rw [q1]; exact Rat.le_refl)
              have := le_of_mul hd (by rw [q1]; exact Rat.le_refl)
              grind
            rw [es] at l
            grind
          · have ex : t.1 = t'.1 := by grind
            rw [k1, ex, k2] at e1
            exact Prod.ext ex e1
      subst et
      have := uniq (c := t :: s) (d := t :: s') rfl rfl ic.2 cc.tail id.2 cd.tail rfl fun x hx => by
        have := h x (by grind)
        rw [hgt_snd hx, hgt_snd hx] at this
        exact this
      rw [this]
theorem cv_ext {c d : List Pt} (hc : Cv c) (hd : Cv d) (h : ∀ x, 0 ≤ x → hgt c x = hgt d x) : c = d := by
  obtain ⟨s, r, e, _⟩ := hc.hd
  obtain ⟨s', r', e', _⟩ := hd.hd
  exact uniq e e' hc.inc hc.con hd.inc hd.con rfl h
theorem cv_extE {c d : List Pt} (hc : Cv c) (hd : Cv d) (h : ∀ k, 0 ≤ k → cj c k = cj d k) : c = d :=
  cv_ext hc hd fun x hx => Rat.le_antisymm (hle_of hc hd (fun k hk => by rw [h k hk]; exact Rat.le_refl) x hx) (hle_of hd hc (fun k hk => by rw [h k hk]; exact Rat.le_refl) x hx)
end B
/-! text MSm -/
set_option Elab.async false
set_option linter.all false
set_option maxRecDepth 100000
set_option autoImplicit false
namespace B
/-! what smoothed leaves -/
def SInc : List Pt → Prop
  | t :: u :: r => (u.1 < t.1 ∧ u.2 < t.2) ∧ SInc (u :: r)
  | _ => True
def SCon : List Pt → Prop
  | t :: u :: v :: r => td v u t = true ∧ SCon (u :: v :: r)
  | _ => True
theorem SInc.tail {t : Pt} {r : List Pt} (h : SInc (t :: r)) : SInc r := by
  cases r with
  | nil => exact trivial
  | cons b r => exact h.2
theorem SCon.tail {t : Pt} {r : List Pt} (h : SCon (t :: r)) : SCon r := by
  match r, h with
  | [], _ => exact trivial
  | [b], _ => exact trivial
  | b :: c :: r, h => exact h.2
theorem Inc_app : ∀ {l : List Pt} {u t : Pt}, Inc (l ++ [u]) → u.1 < t.1 → u.2 < t.2 → Inc (l ++ [u, t])
  | [], u, t, _, h1, h2 => ⟨⟨h1, h2⟩, trivial⟩
  | [a], u, t, h, h1, h2 => ⟨h.1, ⟨h1, h2⟩, trivial⟩
  | a :: b :: l, u, t, h, h1, h2 => ⟨h.1, Inc_app (l := b :: l) h.2 h1 h2⟩
theorem Con_app : ∀ {l : List Pt} {v u t : Pt}, Con (l ++ [v, u]) → td v u t = true → Con (l ++ [v, u, t])
  | [], v, u, t, _, h => ⟨h, trivial⟩
  | [a], v, u, t, h0, h => ⟨h0.1, h, trivial⟩
  | a :: b :: l, v, u, t, h0, h => by
    cases l with
    | nil => exact ⟨h0.1, Con_app (l := [b]) h0.2 h⟩
    | cons c l => exact ⟨h0.1, Con_app (l := b :: c :: l) h0.2 h⟩
theorem inc_rev : ∀ {st : List Pt}, SInc st → Inc st.reverse
  | [], _ => trivial
  | [t], _ => trivial
  | t :: u :: r, h => by
    have ih := inc_rev (st := u :: r) h.2
    rw [List.reverse_cons] at ih
    rw [List.reverse_cons, List.reverse_cons, List.append_assoc]
    exact Inc_app ih h.1.1 h.1.2
theorem con_rev : ∀ {st : List Pt}, SCon st → Con st.reverse
  | [], _ => trivial
  | [t], _ => trivial
  | [t, u], _ => trivial
  | t :: u :: v :: r, h => by
    have ih := con_rev (st := u :: v :: r) h.2
    rw [List.reverse_cons, List.reverse_cons, List.append_assoc] at ih
    rw [List.reverse_cons, List.reverse_cons, List.reverse_cons, List.append_assoc, List.append_assoc]
    exact Con_app ih h.1
/-- a point under a chord -/
theorem under {u t p : Pt} {k : Rat} (h1 : u.1 < t.1) (h2 : t.1 < p.1) (h : ¬ td u t p = true) : val k t ≤ val k u ∨ val k t ≤ val k p := by
  unfold td at h
  rw [decide_eq_true_iff] at h
  unfold val
  by_cases c1 : t.2 - k * t.1 ≤ u.2 - k * u.1
  · exact .inl c1
  · by_cases c2 : t.2 - k * t.1 ≤ p.2 - k * p.1
    · exact .inr c2
    · exfalso
      have a1 := lt_mul (a := k * (t.1 - u.1)) (b := t.2 - u.2) (c := p.1 - t.1) (by grind) (by grind)
      have a2 := lt_mul (a := p.2 - t.2) (b := k * (p.1 - t.1)) (c := t.1 - u.1) (by grind) (by grind)
      grind
theorem pop_ok {p : Pt} {x0 : Rat} : ∀ {st : List Pt}, SInc st → SCon st → (∀ s ∈ st, s.1 ≤ p.1 ∧ s.2 < p.2) → (∀ b, st.getLast? = some b → b.1 = x0) → (st = [] → p.1 = x0) →
    SInc (p :: popW p st) ∧ SCon (p :: popW p st) ∧ (∀ b, (p :: popW p st).getLast? = some b → b.1 = x0) ∧ ∀ k, 0 ≤ k → ∀ q ∈ st, ∃ s ∈ p :: popW p st, val k q ≤ val k s
  | [], _, _, _, _, h0 => by
    rw [popW]
    exact ⟨trivial, trivial, fun b hb => by cases hb; exact h0 rfl, fun k _ q hq => (nomatch hq)⟩
  | t :: r, hi, hc, hb, hl, _ => by
    obtain ⟨b1, b2⟩ := hb t (List.mem_cons_self ..)
    by_cases hh : hid (t :: r) p = true
    · have e : popW p (t :: r) = popW p r := by rw [popW, if_pos hh]
      rw [e]
      obtain ⟨i1, i2, i3, i4⟩ := pop_ok (p := p) (x0 := x0) hi.tail hc.tail (fun s hs => hb s (List.mem_cons_of_mem _ hs)) (fun b hb' => hl b (by
        cases r with
        | nil => cases hb'
        | cons u r => rw [List.getLast?_cons_cons]; exact hb')) (fun hr => by
        subst hr
        have := hl t rfl
        have ht : t.1 = p.1 := by simpa [hid] using hh
        rw [← ht]; exact this)
      refine ⟨i1, i2, i3, fun k hk q hq => ?_⟩
      rcases List.mem_cons.mp hq with z | z
      · subst z
        by_cases he : q.1 = p.1
        · exact ⟨p, List.mem_cons_self .., by unfold val; rw [he]; grind⟩
        · cases r with
          | nil => exact absurd (by simpa [hid] using hh) he
          | cons u r =>
            have hn : ¬ td u q p = true := by
              simp only [hid, he, decide_false, Bool.false_or] at hh
              simpa using hh
            rcases under (k := k) hi.1.1 (show q.1 < p.1 by grind) hn with y | y
            · obtain ⟨s, hs, hv⟩ := i4 k hk u (List.mem_cons_self ..)
              exact ⟨s, hs, by grind⟩
            · exact ⟨p, List.mem_cons_self .., y⟩
      · exact i4 k hk q z
    · have e : popW p (t :: r) = t :: r := by rw [popW, if_neg hh]
      rw [e]
      have he : t.1 ≠ p.1 := fun z => hh (by cases r <;> simp [hid, z])
      refine ⟨⟨⟨by grind, b2⟩, hi⟩, ?_, fun b hb' => hl b (by rw [List.getLast?_cons_cons] at hb'; exact hb'), fun k hk q hq => ⟨q, List.mem_cons_of_mem _ hq, Rat.le_refl⟩⟩
      cases r with
      | nil => exact trivial
      | cons u r =>
        refine ⟨?_, hc⟩
        simp only [hid, he, decide_false, Bool.false_or] at hh
        simpa using hh
/-- the stack behind some points -/
structure Stk (x0 : Rat) (ps st : List Pt) : Prop where
  inc : SInc st
  con : SCon st
  ne : st ≠ []
  bot : ∀ b, st.getLast? = some b → b.1 = x0
  sub : ∀ s ∈ st, s ∈ ps
  dom : ∀ k, 0 ≤ k → ∀ q ∈ ps, ∃ s ∈ st, val k q ≤ val k s
theorem SInc.le : ∀ {r : List Pt} {t : Pt}, SInc (t :: r) → ∀ s ∈ t :: r, s.1 ≤ t.1 ∧ s.2 ≤ t.2
  | [], t, _, s, hs => by rw [List.mem_singleton.mp hs]; exact ⟨Rat.le_refl, Rat.le_refl⟩
  | u :: r, t, h, s, hs => by
    rcases List.mem_cons.mp hs with z | z
    · rw [z]; exact ⟨Rat.le_refl, Rat.le_refl⟩
    · have := SInc.le h.2 s z
      have := h.1
      constructor <;> grind
theorem Stk.step {x0 : Rat} {ps st : List Pt} {p : Pt} (h : Stk x0 ps st) (hp : ∀ q ∈ ps, q.1 ≤ p.1) : Stk x0 (ps ++ [p]) (sstep st p) := by
  cases st with
  | nil => exact absurd rfl h.ne
  | cons t r =>
    have ht := hp t (h.sub t (List.mem_cons_self ..))
    by_cases hle : p.2 ≤ t.2
    · have e : sstep (t :: r) p = t :: r := by unfold sstep; simp only [hle, if_true]
      rw [e]
      refine ⟨h.inc, h.con, h.ne, h.bot, fun s hs => List.mem_append_left _ (h.sub s hs), fun k hk q hq => ?_⟩
      rcases List.mem_append.mp hq with z | z
      · exact h.dom k hk q z
      · refine ⟨t, List.mem_cons_self .., ?_⟩
        rw [List.mem_singleton.mp z]
        unfold val
        have := le_mul ht hk
        grind
    · have e : sstep (t :: r) p = p :: popW p (t :: r) := by unfold sstep; simp only [hle, if_false]
      rw [e]
      have hlt := Rat.not_le.mp hle
      obtain ⟨i1, i2, i3, i4⟩ := pop_ok (p := p) (x0 := x0) h.inc h.con (fun s hs => by
        have := h.inc.le s hs
        constructor <;> grind) h.bot (fun z => absurd z h.ne)
      refine ⟨i1, i2, by simp, i3, fun s hs => ?_, fun k hk q hq => ?_⟩
      · rcases List.mem_cons.mp hs with z | z
        · rw [z]; exact List.mem_append_right _ (List.mem_singleton_self _)
        · exact List.mem_append_left _ (h.sub s (popW_sub s z))
      · rcases List.mem_append.mp hq with z | z
        · obtain ⟨s, hs, hv⟩ := h.dom k hk q z
          obtain ⟨s', hs', hv'⟩ := i4 k hk s hs
          exact ⟨s', hs', by grind⟩
        · rw [List.mem_singleton.mp z]
          exact ⟨p, List.mem_cons_self .., Rat.le_refl⟩
theorem Stk.fold {x0 : Rat} : ∀ {qs ps st : List Pt}, Stk x0 ps st → qs.Pairwise (fun a b => a.1 ≤ b.1) → (∀ q ∈ qs, ∀ p ∈ ps, p.1 ≤ q.1) → Stk x0 (ps ++ qs) (qs.foldl sstep st)
  | [], ps, st, h, _, _ => by rw [List.append_nil]; exact h
  | q :: qs, ps, st, h, hw, hq => by
    obtain ⟨w1, w2⟩ := List.pairwise_cons.mp hw
    have := Stk.fold (qs := qs) (h.step (p := q) (hq q (List.mem_cons_self ..))) w2 fun x hx p hp => by
      rcases List.mem_append.mp hp with z | z
      · exact hq x (List.mem_cons_of_mem _ hx) p z
      · rw [List.mem_singleton.mp z]; exact w1 x hx
    rw [List.append_assoc] at this
    exact this
theorem smooth_ok {ps : List Pt} {y : Rat} {r : List Pt} (e : ps = (0, y) :: r) (hw : ps.Pairwise fun a b => a.1 ≤ b.1) (hy : ∀ b ∈ ps, 0 ≤ b.2) : Cv (smooth ps) ∧ ∀ k, 0 ≤ k → cj (smooth ps) k = cj ps k := by
  subst e
  obtain ⟨w1, w2⟩ := List.pairwise_cons.mp hw
  have s0 : Stk 0 [(0, y)] [(0, y)] := ⟨trivial, trivial, by simp, fun b hb => by cases hb; rfl, fun s hs => hs, fun k hk q hq => ⟨q, hq, Rat.le_refl⟩⟩
  have s1 := s0.fold w2 fun q hq p hp => by
    rw [List.mem_singleton.mp hp]
    exact w1 q hq
  have e1 : smooth ((0, y) :: r) = (r.foldl sstep [(0, y)]).reverse := rfl
  rw [e1]
  generalize r.foldl sstep [(0, y)] = st at s1
  have hmem : ∀ s ∈ st.reverse, s ∈ (0, y) :: r := fun s hs => s1.sub s (List.mem_reverse.mp hs)
  have hne : st.reverse ≠ [] := by simpa using s1.ne
  refine ⟨⟨?_, inc_rev s1.inc, con_rev s1.con⟩, fun k hk => ?_⟩
  · cases er : st.reverse with
    | nil => exact absurd er hne
    | cons b l =>
      have hb : st.getLast? = some b := by
        rw [← List.head?_reverse, er]
        rfl
      have := s1.bot b hb
      refine ⟨b.2, l, ?_, hy b (hmem b (by rw [er]; exact List.mem_cons_self ..))⟩
      rw [← this]
  · refine Rat.le_antisymm (cj_le hne fun p hp => cj_ge (hmem p hp)) (cj_le (by simp) fun p hp => ?_)
    obtain ⟨s, hs, hv⟩ := s1.dom k hk p hp
    have := cj_ge (c := st.reverse) (k := k) (p := s) (List.mem_reverse.mpr hs)
    grind
end B
/-! text MSt -/
set_option Elab.async false
set_option linter.all false
set_option maxRecDepth 100000
set_option autoImplicit false
namespace B
/-! what stocks are worth -/
def pos (k : Rat) (b : Pt) : Rat := max 0 (val k b)
def bs (k : Rat) : List Pt → Rat
  | [] => 0
  | b :: r => pos k b + bs k r
theorem pos_nn {k : Rat} {b : Pt} : 0 ≤ pos k b := by unfold pos; grind
theorem bs_nn {k : Rat} : ∀ {c : List Pt}, 0 ≤ bs k c
  | [] => Rat.le_refl
  | b :: r => by
    have := bs_nn (k := k) (c := r)
    have := pos_nn (k := k) (b := b)
    unfold bs
    grind
theorem bs_app {k : Rat} : ∀ {c d : List Pt}, bs k (c ++ d) = bs k c + bs k d
  | [], d => by rw [List.nil_append, bs]; grind
  | b :: r, d => by rw [List.cons_append, bs, bs, bs_app]; grind
theorem bs_perm {k : Rat} {c d : List Pt} (h : c.Perm d) : bs k c = bs k d := by
  induction h with
  | nil => rfl
  | cons x _ ih => rw [bs, bs, ih]
  | swap x y l => simp only [bs]; grind
  | trans _ _ i1 i2 => exact i1.trans i2
theorem bs_salt {k : Rat} (hk : 0 ≤ k) : ∀ {c : List Pt}, (∀ b ∈ c, Nn b) → bs k (salt c) = bs k c
  | [], _ => rfl
  | b :: r, h => by
    have ih := bs_salt hk (c := r) fun x hx => h x (List.mem_cons_of_mem _ hx)
    have hb := h b (List.mem_cons_self ..)
    unfold salt at ih ⊢
    by_cases z : b.2 = 0
    · rw [List.filter_cons_of_neg (by simp [z]), ih, bs]
      have : pos k b = 0 := by
        unfold pos val
        have := mn hk hb.1
        rw [z]; grind
      grind
    · rw [List.filter_cons_of_pos (by simp [z]), bs, bs, ih]
/-- poured one by one from a point -/
def cumL : Pt → List Pt → List Pt
  | t, [] => [t]
  | t, b :: r => t :: cumL (padd t b) r
theorem cum_eq : ∀ {l : List Pt} {t : Pt} {r : List Pt}, (l.foldl (fun st b => padd (st.headD (0, 0)) b :: st) (t :: r)).reverse = r.reverse ++ cumL t l
  | [], t, r => by simp [cumL]
  | b :: l, t, r => by
    rw [List.foldl_cons]
    show (l.foldl _ (padd t b :: t :: r)).reverse = _
    rw [cum_eq, List.reverse_cons, cumL, List.append_assoc]
    rfl
theorem corners_cum (c : List Pt) : corners c = cumL (0, 0) (obs (salt c)) := by
  rw [corners_eq, cum_eq]
  rfl
theorem cumL_ge : ∀ {l : List Pt} {t : Pt}, (∀ b ∈ l, Nn b) → ∀ q ∈ cumL t l, t.1 ≤ q.1 ∧ t.2 ≤ q.2
  | [], t, _, q, hq => by rw [List.mem_singleton.mp hq]; exact ⟨Rat.le_refl, Rat.le_refl⟩
  | b :: l, t, h, q, hq => by
    rcases List.mem_cons.mp hq with z | z
    · rw [z]; exact ⟨Rat.le_refl, Rat.le_refl⟩
    · have hb := h b (List.mem_cons_self ..)
      have := cumL_ge (fun x hx => h x (List.mem_cons_of_mem _ hx)) q z
      unfold padd at this
      have h1 := hb.1
      have h2 := hb.2
      constructor <;> grind
theorem cumL_pw : ∀ {l : List Pt} {t : Pt}, (∀ b ∈ l, Nn b) → (cumL t l).Pairwise fun a b => a.1 ≤ b.1
  | [], t, _ => by simp [cumL]
  | b :: l, t, h => by
    rw [cumL]
    refine List.pairwise_cons.mpr ⟨fun q hq => ?_, cumL_pw fun x hx => h x (List.mem_cons_of_mem _ hx)⟩
    exact (cumL_ge (t := t) h q (List.mem_cons_of_mem _ hq)).1
theorem cumL_cons (t : Pt) (l : List Pt) : ∃ r, cumL t l = t :: r := by
  cases l with
  | nil => exact ⟨[], rfl⟩
  | cons b l => exact ⟨_, rfl⟩
/-- the greatest sum from the start, where what is worth something comes first -/
theorem cum_cj {k : Rat} : ∀ {l : List Pt} {t : Pt}, l.Pairwise (fun a b => 0 < val k b → 0 ≤ val k a) → cj (cumL t l) k = val k t + bs k l
  | [], t, _ => by show val k t = val k t + 0; grind
  | b :: l, t, h => by
    obtain ⟨h1, h2⟩ := List.pairwise_cons.mp h
    have ih := cum_cj (l := l) (t := padd t b) h2
    obtain ⟨r, er⟩ := cumL_cons (padd t b) l
    have e : cj (cumL t (b :: l)) k = max (val k t) (cj (cumL (padd t b) l) k) := by
      rw [cumL, er]
      rfl
    rw [e, ih, bs]
    have ev : val k (padd t b) = val k t + val k b := by unfold val padd; grind
    rw [ev]
    have hn := bs_nn (k := k) (c := l)
    unfold pos
    by_cases hb : 0 ≤ val k b
    · grind
    · have hz : bs k l = 0 := by
        clear ih er e hn h2 h
        induction l with
        | nil => rfl
        | cons x l ih2 =>
          have hx : ¬ 0 < val k x := fun z => hb (h1 x (List.mem_cons_self ..) z)
          have := ih2 (fun y hy => h1 y (List.mem_cons_of_mem _ hy))
          rw [bs, this]
          unfold pos
          grind
      grind
/-- the strongest come first -/
theorem kp_mem {ks : List Int} {q : Int × Int} (h : q ∈ kp ks) : ∃ n : Nat, q.2 = (n : Int) ∧ ks[n]? = some q.1 := by
  unfold kp at h
  obtain ⟨i, hi⟩ := List.mem_iff_getElem?.mp h
  rw [List.getElem?_zipWith_eq_some] at hi
  obtain ⟨x, y, h1, h2, h3⟩ := hi
  have hx : x = i := by
    obtain ⟨hl, e⟩ := List.getElem?_eq_some_iff.mp h1
    rw [List.getElem_range] at e
    exact e.symm
  refine ⟨i, ?_, ?_⟩
  · rw [← h3, hx]
  · rw [← h3]; exact h2
theorem obs_sorted {bl : List Pt} : (obs bl).Pairwise fun a b => a.1 / a.2 ≤ b.1 / b.2 := by
  have hp := sortP_pw (kp (keysL (thinL bl)))
  have hm : ∀ q ∈ sortP (kp (keysL (thinL bl))), ∃ n : Nat, q.2 = (n : Int) ∧ (keysL (thinL bl))[n]? = some q.1 := fun q hq => kp_mem ((sortP_perm _).mem_iff.mp hq)
  unfold obs ordr
  rw [List.map_map]
  refine List.pairwise_map.mpr (hp.imp_of_mem fun {x y} hx hy h => ?_)
  obtain ⟨n, n1, n2⟩ := hm x hx
  obtain ⟨m, m1, m2⟩ := hm y hy
  have hle : x.1 ≤ y.1 := by
    have := lexLe_iff.mp h
    omega
  have key : ∀ (q : Int × Int) (n : Nat), q.2 = (n : Int) → (keysL (thinL bl))[n]? = some q.1 → ∃ b : Pt, pick bl q.2 = b ∧ b.1 / b.2 ∈ thinL bl ∧ q.1 = keyL (lcmL (thinL bl)) (b.1 / b.2) := fun q n e1 e2 => by
    unfold keysL thinL at e2
    rw [List.getElem?_map, List.getElem?_map] at e2
    cases eb : bl[n]? with
    | none => rw [eb] at e2; cases e2
    | some b =>
      rw [eb] at e2
      refine ⟨b, ?_, List.mem_map.mpr ⟨b, List.mem_of_getElem? eb, rfl⟩, ?_⟩
      · unfold pick
        rw [e1, Int.toNat_natCast, List.getD_eq_getElem?_getD, eb]
        rfl
      · exact (Option.some.inj e2).symm
  obtain ⟨b1, k1, k2, k3⟩ := key x n n1 n2
  obtain ⟨b2, j1, j2, j3⟩ := key y m m1 m2
  show (pick bl x.2).1 / (pick bl x.2).2 ≤ (pick bl y.2).1 / (pick bl y.2).2
  rw [k1, j1]
  by_cases c : b1.1 / b1.2 ≤ b2.1 / b2.2
  · exact c
  · have hlt := (keyL_lt (lcmL_pos _) (lcmL_dvd j2) (lcmL_dvd k2)).mpr (Rat.not_le.mp c)
    omega
theorem thin_val {k : Rat} {a b : Pt} (hk : 0 ≤ k) (ha : 0 < a.2) (hb : 0 < b.2) (h : a.1 / a.2 ≤ b.1 / b.2) : 0 < val k b → 0 ≤ val k a := by
  intro hv
  unfold val at *
  have e1 : a.1 / a.2 * a.2 = a.1 := dmc (by grind)
  have e2 : b.1 / b.2 * b.2 = b.1 := dmc (by grind)
  generalize a.1 / a.2 = u at *
  generalize b.1 / b.2 = v at *
  have h1 : 0 < (1 - k * v) * b.2 := by
    have e : (1 - k * v) * b.2 = b.2 - k * b.1 := by rw [← e2]; generalize b.2 = z; grind
    rw [e]; exact hv
  have h2 : 0 < 1 - k * v := by
    by_cases c : 0 < 1 - k * v
    · exact c
    · have := le_mul (a := 1 - k * v) (b := 0) (c := b.2) (by grind) (by grind)
      grind
  have h3 := le_mul h hk
  have h4 := mn (a := 1 - k * u) (b := a.2) (by grind) (by grind)
  have e : (1 - k * u) * a.2 = a.2 - k * a.1 := by rw [← e1]; generalize a.2 = z; grind
  rw [← e]
  exact h4
theorem curveOf_ok {c : List Pt} (h : ∀ b ∈ c, Nn b) : Cv (curveOf c) ∧ ∀ k, 0 ≤ k → cj (curveOf c) k = bs k c := by
  have hs : ∀ b ∈ salt c, Nn b := fun b hb => h b (salt_sub hb).1
  have ho : ∀ b ∈ obs (salt c), b ∈ salt c := fun b hb => (obs_perm _).mem_iff.mp hb
  have hn : ∀ b ∈ obs (salt c), Nn b := fun b hb => hs b (ho b hb)
  have hpos : ∀ b ∈ obs (salt c), 0 < b.2 := fun b hb => by
    have h1 := (hn b hb).2
    have h2 := (salt_sub (ho b hb)).2
    grind
  obtain ⟨r, er⟩ := cumL_cons (0, 0) (obs (salt c))
  have ec := corners_cum c
  obtain ⟨s1, s2⟩ := smooth_ok (ps := corners c) (y := 0) (r := r) (by rw [ec, er]) (by rw [ec]; exact cumL_pw hn) (fun b hb => by
    rw [ec] at hb
    exact (cumL_ge hn b hb).2)
  refine ⟨s1, fun k hk => ?_⟩
  have e1 : cj (curveOf c) k = cj (corners c) k := s2 k hk
  rw [e1, ec, cum_cj, bs_perm (obs_perm _), bs_salt hk h]
  · unfold val; grind
  · exact (obs_sorted (bl := salt c)).imp_of_mem fun {a b} ha hb hab => thin_val hk (hpos a ha) (hpos b hb) hab
/-! the steps of a curve -/
theorem bs_diffs0 {k : Rat} : ∀ {r : List Pt} {a b : Pt}, Inc (a :: b :: r) → Con (a :: b :: r) → sl a b ≤ k → bs k (diffs (a :: b :: r)) = 0
  | [], a, b, hi, _, h => by
    have hm := sl_mul hi.1.1
    have := le_mul h (show 0 ≤ b.1 - a.1 by have := hi.1.1; grind)
    show pos k (bsub b a) + 0 = 0
    unfold pos val bsub
    grind
  | c :: r, a, b, hi, hc, h => by
    have hm := sl_mul hi.1.1
    have := le_mul h (show 0 ≤ b.1 - a.1 by have := hi.1.1; grind)
    have ht := (td_iff hi.1.1 hi.2.1.1).mp hc.1
    have ih := bs_diffs0 (k := k) hi.2 hc.2 (by grind)
    rw [diffs, bs, ih]
    unfold pos val bsub
    grind
theorem cj_diffs {k : Rat} : ∀ {r : List Pt} {a : Pt}, Inc (a :: r) → Con (a :: r) → cj (a :: r) k = val k a + bs k (diffs (a :: r))
  | [], a, _, _ => by show val k a = val k a + 0; grind
  | b :: r, a, hi, hc => by
    have ih := cj_diffs (k := k) hi.2 hc.tail
    have hm := sl_mul hi.1.1
    have hd : 0 < b.1 - a.1 := by have := hi.1.1; grind
    rw [cj, ih, diffs, bs]
    have ev : val k b = val k a + val k (bsub b a) := by unfold val bsub; grind
    rw [ev]
    have hn := bs_nn (k := k) (c := diffs (b :: r))
    unfold pos
    by_cases hv : 0 ≤ val k (bsub b a)
    · grind
    · have hk : sl a b ≤ k := by
        by_cases c : sl a b ≤ k
        · exact c
        · have := le_mul (a := k) (b := sl a b) (c := b.1 - a.1) (by grind) (by grind)
          unfold val bsub at hv
          grind
      have hz : bs k (diffs (b :: r)) = 0 := by
        cases r with
        | nil => rfl
        | cons c r =>
          have ht := (td_iff hi.1.1 hi.2.1.1).mp hc.1
          exact bs_diffs0 hi.2 hc.2 (by grind)
      grind
theorem bs_steps {c : List Pt} {k : Rat} (h : Cv c) : bs k (steps c) = cj c k := by
  obtain ⟨s, r, e, hs⟩ := h.hd
  have hi := h.inc
  have hc := h.con
  rw [e] at hi hc ⊢
  rw [cj_diffs hi hc]
  unfold steps
  rw [bs_app]
  have ev : val k (0, s) = s := by unfold val; grind
  rw [ev]
  by_cases z : s = 0
  · simp [z, bs]
  · simp only [z, if_false]
    show (pos k (0, s) + 0) + _ = _
    unfold pos
    rw [ev]
    grind
theorem diffs_nn : ∀ {c : List Pt}, Inc c → ∀ b ∈ diffs c, Nn b
  | [], _, b, hb => by cases hb
  | [a], _, b, hb => by cases hb
  | a :: d :: r, hi, b, hb => by
    rw [diffs] at hb
    rcases List.mem_cons.mp hb with z | z
    · rw [z]
      have h1 := hi.1.1
      have h2 := hi.1.2
      unfold bsub
      constructor
      · show 0 ≤ d.1 - a.1; grind
      · show 0 ≤ d.2 - a.2; grind
    · exact diffs_nn hi.2 b z
theorem steps_nn {c : List Pt} (h : Cv c) : ∀ b ∈ steps c, Nn b := fun b hb => by
  unfold steps at hb
  rcases List.mem_append.mp hb with z | z
  · cases hc : c with
    | nil => rw [hc] at z; cases z
    | cons a r =>
      rw [hc] at z
      simp only at z
      split at z
      · cases z
      · rw [List.mem_singleton.mp z]
        exact h.nn a (by rw [hc]; exact List.mem_cons_self ..)
  · exact diffs_nn h.inc b z
theorem tog_ok {c d : List Pt} (hc : Cv c) (hd : Cv d) : Cv (tog c d) ∧ ∀ k, 0 ≤ k → cj (tog c d) k = cj c k + cj d k := by
  have := curveOf_ok (c := steps c ++ steps d) fun b hb => by
    rcases List.mem_append.mp hb with z | z
    · exact steps_nn hc b z
    · exact steps_nn hd b z
  exact ⟨this.1, fun k hk => by rw [show cj (tog c d) k = _ from this.2 k hk, bs_app, bs_steps hc, bs_steps hd]⟩
end B
/-! text MShf -/
set_option Elab.async false
set_option linter.all false
set_option maxRecDepth 100000
set_option autoImplicit false
namespace B
/-! dried by a sun -/
def shp (w : Rat) (b : Pt) : Pt := (b.1 - w, b.2)
theorem hgt_shift {w : Rat} : ∀ {c : List Pt} {x : Rat}, hgt (c.map (shp w)) x = hgt c (x + w)
  | [], x => rfl
  | [a], x => rfl
  | a :: b :: r, x => by
    have ih := hgt_shift (w := w) (c := b :: r) (x := x)
    show hgt (shp w a :: shp w b :: r.map (shp w)) x = _
    by_cases h : b.1 ≤ x + w
    · rw [hgt_snd h, hgt_snd (show (shp w b).1 ≤ x by unfold shp; grind)]
      exact ih
    · unfold hgt
      rw [if_neg h, if_neg (show ¬ (shp w b).1 ≤ x by unfold shp; grind)]
      unfold shp
      have e1 : b.1 - w - (a.1 - w) = b.1 - a.1 := by grind
      have e2 : x - (a.1 - w) = x + w - a.1 := by grind
      simp only [e1, e2]
theorem inc_shift {w : Rat} : ∀ {c : List Pt}, Inc c → Inc (c.map (shp w))
  | [], _ => trivial
  | [a], _ => trivial
  | a :: b :: r, h => ⟨⟨by have := h.1.1; unfold shp; grind, h.1.2⟩, inc_shift (c := b :: r) h.2⟩
theorem con_shift {w : Rat} : ∀ {c : List Pt}, Con c → Con (c.map (shp w))
  | [], _ => trivial
  | [a], _ => trivial
  | [a, b], _ => trivial
  | a :: b :: d :: r, h => by
    refine ⟨?_, con_shift (c := b :: d :: r) h.2⟩
    have := h.1
    unfold td at this ⊢
    unfold shp
    have e1 : b.1 - w - (a.1 - w) = b.1 - a.1 := by grind
    have e2 : d.1 - w - (b.1 - w) = d.1 - b.1 := by grind
    simp only [e1, e2]
    exact this
theorem filt_all {w : Rat} : ∀ {r : List Pt} {b : Pt}, Inc (b :: r) → w < b.1 → (b :: r).filter (fun b => decide (w < b.1)) = b :: r := fun {r b} hi h => by
  rw [List.filter_eq_self]
  intro p hp
  have := (hi.ge p hp).1
  exact decide_eq_true (by grind)
theorem shf_ok0 : ∀ {c : List Pt} {a : Pt} {r : List Pt} {w : Rat}, c = a :: r → Inc c → Con c → a.1 ≤ w → Inc (shf c w) ∧ Con (shf c w) ∧ ∀ x, 0 ≤ x → hgt (shf c w) x = hgt c (x + w)
  | [], _, _, _, e, _, _, _ => by cases e
  | [a], a0, r, w, e, hi, hc, ha => by
    cases e
    have e1 : shf [a] w = [(0, a.2)] := by
      unfold shf
      rw [List.filter_cons_of_neg (by simpa using Rat.not_lt.mpr ha)]
      rfl
    rw [e1]
    exact ⟨trivial, trivial, fun x hx => rfl⟩
  | a :: b :: s, a0, r, w, e, hi, hc, ha => by
    cases e
    have hm := sl_mul hi.1.1
    have hd := hi.1.1
    by_cases hb : b.1 ≤ w
    · have e1 : shf (a :: b :: s) w = shf (b :: s) w := by
        unfold shf
        rw [List.filter_cons_of_neg (by simpa using Rat.not_lt.mpr ha), hgt_snd hb]
      rw [e1]
      obtain ⟨i1, i2, i3⟩ := shf_ok0 (c := b :: s) rfl hi.2 hc.tail hb
      exact ⟨i1, i2, fun x hx => by rw [i3 x hx, hgt_snd (by grind)]⟩
    · have hb' := Rat.not_le.mp hb
      have e1 : shf (a :: b :: s) w = (0, hgt (a :: b :: s) w) :: (b :: s).map (shp w) := by
        unfold shf
        rw [List.filter_cons_of_neg (by simpa using Rat.not_lt.mpr ha), filt_all hi.2 hb']
        rfl
      have eh := hgt_fst (r := s) hi.1.1 hb'
      have hp := sl_pos hi.1.1 hi.1.2
      have hlt : hgt (a :: b :: s) w < b.2 := by
        rw [eh]
        have := lt_mul (a := 0) (b := sl a b) (c := b.1 - w) hp (by grind)
        grind
      have his := inc_shift (w := w) hi.2
      have hcs := con_shift (w := w) hc.tail
      have hin : Inc ((0, hgt (a :: b :: s) w) :: (b :: s).map (shp w)) := ⟨⟨by show 0 < b.1 - w; grind, hlt⟩, his⟩
      have hsl : sl (0, hgt (a :: b :: s) w) (shp w b) = sl a b := by
        have h1 := sl_mul hin.1.1
        have hd2 : 0 < b.1 - w := by grind
        have q : sl (0, hgt (a :: b :: s) w) (shp w b) * (b.1 - w) = sl a b * (b.1 - w) := by
          have : (shp w b).1 - 0 = b.1 - w := by unfold shp; grind
          have e5 : sl (0, hgt (a :: b :: s) w) (shp w b) * (b.1 - w) = b.2 - hgt (a :: b :: s) w := by rw [← this]; exact h1
          rw [e5, eh]
          grind
        exact Rat.le_antisymm (le_of_mul hd2 (by rw [q]; exact Rat.le_refl)) (le_of_mul hd2 (by rw [q]; exact Rat.le_refl))
      rw [e1]
      refine ⟨hin, ?_, fun x hx => ?_⟩
      · cases s with
        | nil => exact trivial
        | cons d s =>
          refine ⟨?_, hcs⟩
          have ht := (td_iff hi.1.1 hi.2.1.1).mp hc.1
          refine (td_iff (c := shp w d) hin.1.1 his.1.1).mpr ?_
          rw [hsl]
          have e6 : sl (shp w b) (shp w d) = sl b d := by
            unfold sl shp
            have e7 : d.1 - w - (b.1 - w) = d.1 - b.1 := by grind
            simp only [e7]
          rw [e6]
          exact ht
      · by_cases hx2 : (shp w b).1 ≤ x
        · have e8 : hgt ((0, hgt (a :: b :: s) w) :: (b :: s).map (shp w)) x = hgt ((b :: s).map (shp w)) x := hgt_snd (r := s.map (shp w)) hx2
          rw [e8, hgt_shift, hgt_snd]
          unfold shp at hx2
          grind
        · have hx3 := Rat.not_le.mp hx2
          have e8 : hgt ((0, hgt (a :: b :: s) w) :: (b :: s).map (shp w)) x = hgt (a :: b :: s) w + sl (0, hgt (a :: b :: s) w) (shp w b) * (x - 0) := hgt_fst (r := s.map (shp w)) hin.1.1 hx3
          have hx4 : x + w < b.1 := by unfold shp at hx3; grind
          rw [e8, hsl, hgt_fst hi.1.1 hx4, eh]
          grind
theorem hgt_mono {c : List Pt} (h : Cv c) {x z : Rat} (hx : 0 ≤ x) (hz : x ≤ z) : hgt c x ≤ hgt c z := by
  obtain ⟨e, hk⟩ := hgt_eq (x := z) h (by grind)
  have h1 := hgt_le' h hk hx
  have := le_mul hz hk
  grind
theorem hgt_zero {c : List Pt} (h : Cv c) : 0 ≤ hgt c 0 := by
  obtain ⟨s, r, e, hs⟩ := h.hd
  have hi := h.inc
  rw [e] at hi ⊢
  have := hgt_head hi
  rw [show ((0, s) : Pt).1 = 0 from rfl] at this
  rw [this]
  exact hs
theorem hgt_nn {c : List Pt} (h : Cv c) {x : Rat} (hx : 0 ≤ x) : 0 ≤ hgt c x := by
  have := hgt_mono h Rat.le_refl hx
  have := hgt_zero h
  grind
theorem shf_ok {c : List Pt} {w : Rat} (h : Cv c) (hw : 0 ≤ w) : Cv (shf c w) ∧ ∀ x, 0 ≤ x → hgt (shf c w) x = hgt c (x + w) := by
  obtain ⟨s, r, e, hs⟩ := h.hd
  obtain ⟨i1, i2, i3⟩ := shf_ok0 e h.inc h.con hw
  exact ⟨⟨⟨hgt c w, _, rfl, hgt_nn h hw⟩, i1, i2⟩, i3⟩
/-! side by side -/
theorem fstU_none {c d : List Pt} (hc : Cv c) (hd : Cv d) : (fstU c d).isNone = true ↔ ∀ x, 0 ≤ x → hgt d x ≤ hgt c x := by
  unfold fstU
  rw [Option.isNone_map, Option.isNone_iff_eq_none, List.find?_eq_none]
  constructor
  · intro h
    refine hle_of hd hc fun k hk => ?_
    refine cj_le hd.ne fun p hp => ?_
    have h1 := h p hp
    have h2 : p.2 ≤ hgt c p.1 := by
      have : ¬ hgt c p.1 < p.2 := by simpa using h1
      exact Rat.not_lt.mp this
    have h3 := hgt_le' hc hk (hd.nn p hp).1
    unfold val
    grind
  · intro h p hp
    have h1 := h p.1 (hd.nn p hp).1
    rw [hgt_corner hd.inc hp] at h1
    have : ¬ hgt c p.1 < p.2 := Rat.not_lt.mpr h1
    simpa using this
theorem exc_eq {c : List Pt} {k : Rat} (h : Cv c) : exc c k = cj c k := by
  have key : ∀ (l : List Pt) (f : Rat), l ≠ [] → l.foldl (fun f b => max f (b.2 - k * b.1)) f = max f (cj l k) := fun l => by
    induction l with
    | nil => intro f hne; exact absurd rfl hne
    | cons a r ih =>
      intro f _
      rw [List.foldl_cons]
      cases r with
      | nil => rfl
      | cons b r =>
        rw [ih _ (by simp), cj]
        unfold val
        grind
  unfold exc
  rw [key c 0 h.ne]
  obtain ⟨s, r, e, hs⟩ := h.hd
  have := cj_ge (c := c) (k := k) (p := (0, s)) (by rw [e]; exact List.mem_cons_self ..)
  unfold val at this
  grind
theorem worths_eq {c : List Pt} {k : Rat} : worths (1, k) c = bs k c := by
  have key : ∀ (l : List Pt) (f : Rat), (l.map (worth (1, k))).foldl (· + ·) f = f + bs k l := fun l => by
    induction l with
    | nil => intro f; show f = f + 0; grind
    | cons a r ih =>
      intro f
      rw [List.map_cons, List.foldl_cons, ih, bs]
      have : worth (1, k) a = pos k a := by
        unfold worth bal pos val
        grind
      rw [this]
      grind
  unfold worths rsum
  rw [key]
  grind
end B
/-! text MLow -/
set_option Elab.async false
set_option linter.all false
set_option maxRecDepth 100000
set_option autoImplicit false
namespace B
/-! lesser and greater -/
/-- straight where no corner is -/
theorem aff : ∀ {c : List Pt} {a : Pt} {r : List Pt} {n f x : Rat}, c = a :: r → Inc c → a.1 ≤ n → n < f → (∀ p ∈ c, p.1 ≤ n ∨ f ≤ p.1) → n ≤ x → x ≤ f → (f - n) * hgt c x = (f - x) * hgt c n + (x - n) * hgt c f
  | [], _, _, _, _, _, e, _, _, _, _, _, _ => by cases e
  | [a], a0, r, n, f, x, e, hi, ha, hn, hp, h1, h2 => by
    cases e
    show (f - n) * a.2 = (f - x) * a.2 + (x - n) * a.2
    grind
  | a :: b :: s, a0, r, n, f, x, e, hi, ha, hn, hp, h1, h2 => by
    cases e
    have hd := hi.1.1
    have hm := sl_mul hd
    rcases hp b (by simp) with hb | hb
    · rw [hgt_snd (show b.1 ≤ x by grind), hgt_snd hb, hgt_snd (show b.1 ≤ f by grind)]
      exact aff (c := b :: s) rfl hi.2 hb hn (fun p hp' => hp p (List.mem_cons_of_mem _ hp')) h1 h2
    · have key : ∀ z, z ≤ b.1 → hgt (a :: b :: s) z = a.2 + sl a b * (z - a.1) := fun z hz => by
        by_cases hz2 : z < b.1
        · exact hgt_fst hd hz2
        · have : z = b.1 := by grind
          rw [this, hgt_corner hi (p := b) (by simp)]
          grind
      rw [key x (by grind), key n (by grind), key f (by grind)]
      grind
theorem hgt_const : ∀ {c : List Pt} {a : Pt} {r : List Pt} {n x : Rat}, c = a :: r → (∀ p ∈ c, p.1 ≤ n) → n ≤ x → hgt c x = hgt c n
  | [], _, _, _, _, e, _, _ => by cases e
  | [a], _, _, n, x, _, _, _ => rfl
  | a :: b :: s, _, _, n, x, _, hp, hx => by
    have hb := hp b (by simp)
    rw [hgt_snd (show b.1 ≤ x by grind), hgt_snd hb]
    exact hgt_const (c := b :: s) rfl (fun p hp' => hp p (List.mem_cons_of_mem _ hp')) hx
/-- the neighbours of x in a row of numbers -/
theorem bracket : ∀ (l : List Rat) (x : Rat), (∃ n ∈ l, n ≤ x) → ∃ n ∈ l, n ≤ x ∧ ((∀ q ∈ l, q ≤ n) ∨ ∃ f ∈ l, x < f ∧ ∀ q ∈ l, q ≤ n ∨ f ≤ q)
  | [], x, h => by obtain ⟨n, h, _⟩ := h; cases h
  | a :: l, x, h => by
    by_cases hl : ∃ n ∈ l, n ≤ x
    · obtain ⟨n, hn, hx, hh⟩ := bracket l x hl
      by_cases ha : a ≤ x
      · -- a is on the left
        by_cases han : a ≤ n
        · refine ⟨n, List.mem_cons_of_mem _ hn, hx, ?_⟩
          rcases hh with hh | ⟨f, hf, hxf, hq⟩
          · exact .inl fun q hq => by
              rcases List.mem_cons.mp hq with z | z
              · rw [z]; exact han
              · exact hh q z
          · exact .inr ⟨f, List.mem_cons_of_mem _ hf, hxf, fun q hq' => by
              rcases List.mem_cons.mp hq' with z | z
              · rw [z]; exact .inl han
              · exact hq q z⟩
        · refine ⟨a, List.mem_cons_self .., ha, ?_⟩
          rcases hh with hh | ⟨f, hf, hxf, hq⟩
          · exact .inl fun q hq => by
              rcases List.mem_cons.mp hq with z | z
              · rw [z]; exact Rat.le_refl
              · have := hh q z; grind
          · exact .inr ⟨f, List.mem_cons_of_mem _ hf, hxf, fun q hq' => by
              rcases List.mem_cons.mp hq' with z | z
              · rw [z]; exact .inl Rat.le_refl
              · rcases hq q z with y | y
                · exact .inl (by grind)
                · exact .inr y⟩
      · have ha' := Rat.not_le.mp ha
        refine ⟨n, List.mem_cons_of_mem _ hn, hx, .inr ?_⟩
        rcases hh with hh | ⟨f, hf, hxf, hq⟩
        · exact ⟨a, List.mem_cons_self .., ha', fun q hq => by
            rcases List.mem_cons.mp hq with z | z
            · rw [z]; exact .inr Rat.le_refl
            · exact .inl (hh q z)⟩
        · by_cases haf : a ≤ f
          · exact ⟨a, List.mem_cons_self .., ha', fun q hq' => by
              rcases List.mem_cons.mp hq' with z | z
              · rw [z]; exact .inr Rat.le_refl
              · rcases hq q z with y | y
                · exact .inl y
                · exact .inr (by grind)⟩
          · exact ⟨f, List.mem_cons_of_mem _ hf, hxf, fun q hq' => by
              rcases List.mem_cons.mp hq' with z | z
              · rw [z]; exact .inr (by grind)
              · exact hq q z⟩
    · have ha : a ≤ x := by
        obtain ⟨n, hn, hx⟩ := h
        rcases List.mem_cons.mp hn with z | z
        · rw [← z]; exact hx
        · exact absurd ⟨n, z, hx⟩ hl
      have hall : ∀ q ∈ l, x < q := fun q hq => by
        by_cases c : q ≤ x
        · exact absurd ⟨q, hq, c⟩ hl
        · exact Rat.not_le.mp c
      refine ⟨a, List.mem_cons_self .., ha, ?_⟩
      -- the least of l
      have least : ∀ (l : List Rat), l = [] ∨ ∃ f ∈ l, ∀ q ∈ l, f ≤ q := fun l => by
        induction l with
        | nil => exact .inl rfl
        | cons y l ih =>
          refine .inr ?_
          rcases ih with z | ⟨f, hf, hq⟩
          · subst z
            exact ⟨y, List.mem_cons_self .., fun q hq => by rw [List.mem_singleton.mp hq]; exact Rat.le_refl⟩
          · by_cases c : y ≤ f
            · exact ⟨y, List.mem_cons_self .., fun q hq' => by
                rcases List.mem_cons.mp hq' with w | w
                · rw [w]; exact Rat.le_refl
                · have := hq q w; grind⟩
            · exact ⟨f, List.mem_cons_of_mem _ hf, fun q hq' => by
                rcases List.mem_cons.mp hq' with w | w
                · rw [w]; grind
                · exact hq q w⟩
      rcases least l with z | ⟨f, hf, hq⟩
      · subst z
        exact .inl fun q hq => by rw [List.mem_singleton.mp hq]; exact Rat.le_refl
      · exact .inr ⟨f, List.mem_cons_of_mem _ hf, hall f hf, fun q hq' => by
          rcases List.mem_cons.mp hq' with w | w
          · rw [w]; exact .inl Rat.le_refl
          · exact .inr (hq q w)⟩
theorem crossAll_mem {one other : List Pt} : ∀ {ws : List Rat} {n f x : Rat}, ws.Pairwise (· < ·) → n ∈ ws → f ∈ ws → n < f → (∀ q ∈ ws, q ≤ n ∨ f ≤ q) → crs one other n f = some x → x ∈ crossAll one other ws
  | [], _, _, _, _, h, _, _, _, _ => by cases h
  | [a], n, f, x, _, hn, hf, hlt, _, _ => by
    rw [List.mem_singleton.mp hn, List.mem_singleton.mp hf] at hlt
    exact absurd hlt Rat.lt_irrefl
  | a :: b :: r, n, f, x, hw, hn, hf, hlt, hq, e => by
    obtain ⟨w1, w2⟩ := List.pairwise_cons.mp hw
    rw [crossAll]
    rcases List.mem_cons.mp hn with z | z
    · have hb : f = b := by
        have h1 := w1 b (List.mem_cons_self ..)
        rcases hq b (by simp) with y | y
        · rw [z] at y; grind
        · rcases List.mem_cons.mp hf with u | u
          · rw [u, z] at hlt; exact absurd hlt Rat.lt_irrefl
          · rcases List.mem_cons.mp u with v | v
            · exact v
            · have := (List.pairwise_cons.mp w2).1 f v
              grind
      rw [z, hb] at e
      rw [e]
      exact List.mem_append_left _ (List.mem_singleton_self _)
    · have hf2 : f ∈ b :: r := by
        rcases List.mem_cons.mp hf with u | u
        · have := w1 n z
          rw [u] at hlt
          grind
        · exact u
      exact List.mem_append_right _ (crossAll_mem w2 z hf2 hlt (fun q hq' => hq q (List.mem_cons_of_mem _ hq')) e)
/-- all corners are among the waters -/
theorem waters_has {one other : List Pt} : (∀ p ∈ one, p.1 ∈ waters one other) ∧ ∀ p ∈ other, p.1 ∈ waters one other :=
  ⟨fun p hp => waters_mem.mpr ⟨p, List.mem_append_left _ hp, rfl⟩, fun p hp => waters_mem.mpr ⟨p, List.mem_append_right _ hp, rfl⟩⟩
theorem waters_cross {one other : List Pt} {x : Rat} (h : x ∈ waters one other) : x ∈ crossings one other := by
  unfold crossings
  exact rsort_mem.mpr (List.mem_append_left _ h)
/-- between two neighbours among the crossings the curves do not cross -/
theorem no_cross {one other : List Pt} (h1 : Cv one) (h2 : Cv other) {n f : Rat} (hn0 : 0 ≤ n) (hnf : n < f) (hq : ∀ q ∈ crossings one other, q ≤ n ∨ f ≤ q) : 0 ≤ dif one other n * dif one other f := by
  by_cases c : 0 ≤ dif one other n * dif one other f
  · exact c
  · exfalso
    have hneg := Rat.not_le.mp c
    obtain ⟨s, r, e, hs⟩ := h1.hd
    obtain ⟨s', r', e', hs'⟩ := h2.hd
    have hw0 : (0 : Rat) ∈ waters one other := waters_has.1 (0, s) (by rw [e]; exact List.mem_cons_self ..)
    obtain ⟨N, hN, hNn, hb⟩ := bracket (waters one other) n ⟨0, hw0, hn0⟩
    rcases hb with hb | ⟨F, hF, hnF, hFq⟩
    · -- behind the last corner
      have k1 : ∀ x, N ≤ x → hgt one x = hgt one N := fun x hx => hgt_const e (fun p hp => hb _ (waters_has.1 p hp)) hx
      have k2 : ∀ x, N ≤ x → hgt other x = hgt other N := fun x hx => hgt_const e' (fun p hp => hb _ (waters_has.2 p hp)) hx
      have e1 : dif one other n = dif one other f := by
        unfold dif
        rw [k1 n hNn, k2 n hNn, k1 f (by grind), k2 f (by grind)]
      rw [e1] at hneg
      exact absurd (rsq _) (Rat.not_le.mpr hneg)
    · have hfF : f ≤ F := by
        rcases hq F (waters_cross hF) with y | y
        · grind
        · exact y
      have hN0 := hN
      have N0 : 0 ≤ N := by
        obtain ⟨p, hp, ep⟩ := waters_mem.mp hN
        rcases List.mem_append.mp hp with z | z
        · rw [← ep]; exact (h1.nn p z).1
        · rw [← ep]; exact (h2.nn p z).1
      have hNF : N < F := by grind
      have a1 : ∀ x, N ≤ x → x ≤ F → (F - N) * hgt one x = (F - x) * hgt one N + (x - N) * hgt one F := fun x hx hx2 => aff e h1.inc N0 hNF (fun p hp => hFq _ (waters_has.1 p hp)) hx hx2
      have a2 : ∀ x, N ≤ x → x ≤ F → (F - N) * hgt other x = (F - x) * hgt other N + (x - N) * hgt other F := fun x hx hx2 => aff e' h2.inc N0 hNF (fun p hp => hFq _ (waters_has.2 p hp)) hx hx2
      have ad : ∀ x, N ≤ x → x ≤ F → (F - N) * dif one other x = (F - x) * dif one other N + (x - N) * dif one other F := fun x hx hx2 => by
        have q1 := a1 x hx hx2
        have q2 := a2 x hx hx2
        unfold dif
        grind
      have dn := ad n hNn (by grind)
      have df := ad f (by grind) hfF
      have crossE : ∀ x, crs one other N F = some x → x ∈ crossings one other := fun x hx => by
        unfold crossings
        exact rsort_mem.mpr (List.mem_append_right _ (crossAll_mem waters_pw hN hF hNF hFq hx))
      generalize dif one other n = dn' at *
      generalize dif one other f = df2 at *
      clear a1 a2 ad
      have hD : 0 < F - N := by grind
      have hAB : dif one other N * dif one other F < 0 := by
        by_cases c3 : dif one other N * dif one other F < 0
        · exact c3
        · exfalso
          have c4 := Rat.not_lt.mp c3
          have same : ∀ A B : Rat, 0 ≤ A * B → (0 ≤ A ∧ 0 ≤ B) ∨ (A ≤ 0 ∧ B ≤ 0) := fun A B hh => by
            rcases tri A with y | y | y
            · refine .inr ⟨Rat.le_of_lt y, ?_⟩
              by_cases z : B ≤ 0
              · exact z
              · have := lt_mul (a := A) (b := 0) (c := B) y (Rat.not_le.mp z)
                grind
            · by_cases z : 0 ≤ B
              · exact .inl ⟨by rw [y]; exact Rat.le_refl, z⟩
              · exact .inr ⟨by rw [y]; exact Rat.le_refl, by grind⟩
            · refine .inl ⟨Rat.le_of_lt y, ?_⟩
              by_cases z : 0 ≤ B
              · exact z
              · have := lt_mul (a := 0) (b := A) (c := -B) y (by grind)
                grind
          rcases same _ _ c4 with ⟨y1, y2⟩ | ⟨y1, y2⟩
          · have p1 := mn (a := F - n) (b := dif one other N) (by grind) y1
            have p2 := mn (a := n - N) (b := dif one other F) (by grind) y2
            have p3 := mn (a := F - f) (b := dif one other N) (by grind) y1
            have p4 := mn (a := f - N) (b := dif one other F) (by grind) y2
            have q1 : 0 ≤ dn' := le_of_mul hD (by grind)
            have q2 : 0 ≤ df2 := le_of_mul hD (by grind)
            exact absurd (mn q1 q2) (Rat.not_le.mpr hneg)
          · have p1 := mn (a := F - n) (b := -dif one other N) (by grind) (by grind)
            have p2 := mn (a := n - N) (b := -dif one other F) (by grind) (by grind)
            have p3 := mn (a := F - f) (b := -dif one other N) (by grind) (by grind)
            have p4 := mn (a := f - N) (b := -dif one other F) (by grind) (by grind)
            have q1 : dn' ≤ 0 := le_of_mul hD (by grind)
            have q2 : df2 ≤ 0 := le_of_mul hD (by grind)
            have := mn (a := -dn') (b := -df2) (by grind) (by grind)
            grind
      obtain ⟨nz, t0, t1⟩ := share_bd hAB
      have hX := crossE (N + dif one other N / (dif one other N - dif one other F) * (F - N)) (by unfold crs; rw [if_pos hAB])
      have ht := dmc (a := dif one other N) nz
      generalize dif one other N / (dif one other N - dif one other F) = t at *
      generalize dif one other N = A at *
      generalize dif one other F = B at *
      have l1 : (F - N) * dn' = (B - A) * (n - (N + t * (F - N))) := by grind
      have l2 : (F - N) * df2 = (B - A) * (f - (N + t * (F - N))) := by grind
      have hq' := hq _ hX
      generalize N + t * (F - N) = X at *
      have s1 := rsq (B - A)
      have hpos : 0 ≤ (n - X) * (f - X) := by
        rcases hq' with y | y
        · exact mn (by grind) (by grind)
        · have := mn (a := X - n) (b := X - f) (by grind) (by grind)
          grind
      have h3 := mn s1 hpos
      have h4 : (F - N) * dn' * ((F - N) * df2) = (B - A) * (B - A) * ((n - X) * (f - X)) := by rw [l1, l2]; grind
      have h5 := mp hD hD
      have h6 := lt_mul (a := dn' * df2) (b := 0) (c := (F - N) * (F - N)) hneg h5
      have h7 : (F - N) * dn' * ((F - N) * df2) = dn' * df2 * ((F - N) * (F - N)) := by grind
      grind
end B
/-! text MMin -/
set_option Elab.async false
set_option linter.all false
set_option maxRecDepth 100000
set_option autoImplicit false
namespace B
theorem waters_ge {one other : List Pt} (h1 : Cv one) (h2 : Cv other) : ∀ x ∈ waters one other, 0 ≤ x := fun x hx => by
  obtain ⟨b, hb, rfl⟩ := waters_mem.mp hx
  rcases List.mem_append.mp hb with z | z
  · exact (h1.nn b z).1
  · exact (h2.nn b z).1
theorem crossings_ge {one other : List Pt} (h1 : Cv one) (h2 : Cv other) : ∀ x ∈ crossings one other, 0 ≤ x := fun x hx => by
  unfold crossings at hx
  rcases List.mem_append.mp (rsort_mem.mp hx) with z | z
  · exact waters_ge h1 h2 x z
  · obtain ⟨n, hn, hl⟩ := crossAll_bd waters_pw x z
    have := waters_ge h1 h2 n hn
    grind
theorem zero_water {one other : List Pt} (h1 : Cv one) : (0 : Rat) ∈ waters one other := by
  obtain ⟨s, r, e, hs⟩ := h1.hd
  exact waters_has.1 (0, s) (by rw [e]; exact List.mem_cons_self ..)
/-- the first of a rising row is the least -/
theorem head0 {l : List Rat} (hp : l.Pairwise (· < ·)) (h0 : (0 : Rat) ∈ l) (hn : ∀ x ∈ l, 0 ≤ x) : ∃ r, l = 0 :: r := by
  cases l with
  | nil => cases h0
  | cons a r =>
    rcases List.mem_cons.mp h0 with z | z
    · exact ⟨r, by rw [z]⟩
    · have h1 := (List.pairwise_cons.mp hp).1 0 z
      have h2 := hn a (List.mem_cons_self ..)
      grind
theorem pts_ok {l : List Rat} {g : Rat → Rat} (hp : l.Pairwise (· < ·)) (h0 : (0 : Rat) ∈ l) (hn : ∀ x ∈ l, 0 ≤ x) (hg : ∀ x ∈ l, 0 ≤ g x) : Cv (smooth (l.map fun w => (w, g w))) ∧ ∀ k, 0 ≤ k → cj (smooth (l.map fun w => (w, g w))) k = cj (l.map fun w => (w, g w)) k := by
  obtain ⟨r, e⟩ := head0 hp h0 hn
  refine smooth_ok (y := g 0) (r := r.map fun w => (w, g w)) (by rw [e]; rfl) (List.pairwise_map.mpr (hp.imp fun {a b} h => Rat.le_of_lt h)) fun b hb => ?_
  obtain ⟨w, hw, rfl⟩ := List.mem_map.mp hb
  exact hg w hw
theorem lower_ok {one other : List Pt} (h1 : Cv one) (h2 : Cv other) : Cv (lower one other) ∧ ∀ x, 0 ≤ x → hgt (lower one other) x = min (hgt one x) (hgt other x) := by
  have hp : (crossings one other).Pairwise (· < ·) := rsort_pw
  have h0 := waters_cross (zero_water (other := other) h1)
  have hn := crossings_ge h1 h2
  obtain ⟨c1, c2⟩ := pts_ok (g := fun w => min (hgt one w) (hgt other w)) hp h0 hn fun x hx => by
    have a1 := hgt_nn h1 (hn x hx)
    have a2 := hgt_nn h2 (hn x hx)
    grind
  have hlow : smooth (lowPts one other) = lower one other := rfl
  have hne : lowPts one other ≠ [] := by
    obtain ⟨r, e⟩ := head0 hp h0 hn
    unfold lowPts
    rw [e]
    simp
  refine ⟨c1, fun x hx => Rat.le_antisymm ?_ ?_⟩
  · have l1 := hle_of (a := lower one other) c1 h1 (fun k hk => by
      rw [show cj (lower one other) k = _ from c2 k hk]
      refine cj_le hne fun p hp' => ?_
      obtain ⟨w, hw, rfl⟩ := List.mem_map.mp hp'
      have := hgt_le' h1 hk (hn w hw)
      unfold val
      show min (hgt one w) (hgt other w) - k * w ≤ _
      grind) x hx
    have l2 := hle_of (a := lower one other) c1 h2 (fun k hk => by
      rw [show cj (lower one other) k = _ from c2 k hk]
      refine cj_le hne fun p hp' => ?_
      obtain ⟨w, hw, rfl⟩ := List.mem_map.mp hp'
      have := hgt_le' h2 hk (hn w hw)
      unfold val
      show min (hgt one w) (hgt other w) - k * w ≤ _
      grind) x hx
    grind
  · obtain ⟨e, hk⟩ := hgt_eq (c := lower one other) c1 hx
    generalize slp (lower one other) x = k at e hk
    rw [e, show cj (lower one other) k = _ from c2 k hk]
    have hpt : ∀ w ∈ crossings one other, min (hgt one w) (hgt other w) - k * w ≤ cj (lowPts one other) k := fun w hw => cj_ge (c := lowPts one other) (k := k) (p := (w, min (hgt one w) (hgt other w))) (List.mem_map.mpr ⟨w, hw, rfl⟩)
    show _ ≤ cj (lowPts one other) k + k * x
    generalize cj (lowPts one other) k = E at hpt
    obtain ⟨n, hnm, hnx, hb⟩ := bracket (crossings one other) x ⟨0, h0, hx⟩
    obtain ⟨s, r, eo, _⟩ := h1.hd
    obtain ⟨s', r', eo', _⟩ := h2.hd
    have pn := hpt n hnm
    rcases hb with hb | ⟨f, hf, hxf, hq⟩
    · have k1 : hgt one x = hgt one n := hgt_const eo (fun p hp' => hb _ (waters_cross (waters_has.1 p hp'))) hnx
      have k2 : hgt other x = hgt other n := hgt_const eo' (fun p hp' => hb _ (waters_cross (waters_has.2 p hp'))) hnx
      rw [k1, k2]
      have := le_mul hnx hk
      grind
    · have pf := hpt f hf
      have hn0 := hn n hnm
      have hnf : n < f := by grind
      have nc := no_cross h1 h2 hn0 hnf hq
      have a1 := aff eo h1.inc hn0 hnf (fun p hp' => hq _ (waters_cross (waters_has.1 p hp'))) hnx (Rat.le_of_lt hxf)
      have a2 := aff eo' h2.inc hn0 hnf (fun p hp' => hq _ (waters_cross (waters_has.2 p hp'))) hnx (Rat.le_of_lt hxf)
      unfold dif at nc
      generalize hgt one x = ax at *
      generalize hgt other x = bx at *
      generalize hgt one n = an at *
      generalize hgt other n = bn at *
      generalize hgt one f = af at *
      generalize hgt other f = bf at *
      have hD : 0 < f - n := by grind
      have d1 : 0 ≤ f - x := by grind
      have d2 : 0 ≤ x - n := by grind
      have sgn : (an ≤ bn ∧ af ≤ bf) ∨ (bn ≤ an ∧ bf ≤ af) := by
        rcases tri (an - bn) with y | y | y
        · refine .inl ⟨by grind, ?_⟩
          by_cases z : af ≤ bf
          · exact z
          · have := lt_mul (a := an - bn) (b := 0) (c := af - bf) y (by grind)
            grind
        · by_cases z : af ≤ bf
          · exact .inl ⟨by grind, z⟩
          · exact .inr ⟨by grind, by grind⟩
        · refine .inr ⟨by grind, ?_⟩
          by_cases z : bf ≤ af
          · exact z
          · have := lt_mul (a := 0) (b := an - bn) (c := bf - af) y (by grind)
            grind
      rcases sgn with ⟨y1, y2⟩ | ⟨y1, y2⟩
      · have q1 : an - k * n ≤ E := by grind
        have q2 : af - k * f ≤ E := by grind
        have m1 := le_mul q1 d1
        have m2 := le_mul q2 d2
        have : ax ≤ E + k * x := le_of_mul hD (by grind)
        grind
      · have q1 : bn - k * n ≤ E := by grind
        have q2 : bf - k * f ≤ E := by grind
        have m1 := le_mul q1 d1
        have m2 := le_mul q2 d2
        have : bx ≤ E + k * x := le_of_mul hD (by grind)
        grind
theorem upper_ok {one other : List Pt} (h1 : Cv one) (h2 : Cv other) : Cv (upper one other) ∧ ∀ k, 0 ≤ k → cj (upper one other) k = max (cj one k) (cj other k) := by
  have hp := waters_pw (one := one) (other := other)
  have h0 := zero_water (other := other) h1
  have hn := waters_ge h1 h2
  obtain ⟨c1, c2⟩ := pts_ok (g := fun w => max (hgt one w) (hgt other w)) hp h0 hn fun x hx => by
    have a1 := hgt_nn h1 (hn x hx)
    grind
  have hne : uppPts one other ≠ [] := by
    obtain ⟨r, e⟩ := head0 hp h0 hn
    unfold uppPts
    rw [e]
    simp
  refine ⟨c1, fun k hk => ?_⟩
  rw [show cj (upper one other) k = cj (uppPts one other) k from c2 k hk]
  refine Rat.le_antisymm (cj_le hne fun p hp' => ?_) ?_
  · obtain ⟨w, hw, rfl⟩ := List.mem_map.mp hp'
    have q1 := hgt_le' h1 hk (hn w hw)
    have q2 := hgt_le' h2 hk (hn w hw)
    show max (hgt one w) (hgt other w) - k * w ≤ _
    grind
  · have hpt : ∀ w ∈ waters one other, max (hgt one w) (hgt other w) - k * w ≤ cj (uppPts one other) k := fun w hw => cj_ge (c := uppPts one other) (k := k) (p := (w, max (hgt one w) (hgt other w))) (List.mem_map.mpr ⟨w, hw, rfl⟩)
    obtain ⟨p, hp1, _, e1⟩ := cj_hgt (k := k) h1
    obtain ⟨q, hq1, _, e2⟩ := cj_hgt (k := k) h2
    have r1 := hpt p.1 (waters_has.1 p hp1)
    have r2 := hpt q.1 (waters_has.2 q hq1)
    grind
end B
/-! text MRch -/
set_option Elab.async false
set_option linter.all false
set_option maxRecDepth 100000
set_option autoImplicit false
namespace B
/-! rising up to the last corner, then flat -/
theorem last_cons {a b l : Pt} {r : List Pt} (h : (a :: b :: r).getLast? = some l) : (b :: r).getLast? = some l := by rw [List.getLast?_cons_cons] at h; exact h
theorem hgt_ge : ∀ {r : List Pt} {a : Pt} {x : Rat}, Inc (a :: r) → a.1 ≤ x → a.2 ≤ hgt (a :: r) x
  | [], a, x, _, _ => Rat.le_refl
  | b :: r, a, x, hi, hx => by
    by_cases h : b.1 ≤ x
    · rw [hgt_snd h]
      have := hgt_ge hi.2 h
      have := hi.1.2
      grind
    · rw [hgt_fst hi.1.1 (Rat.not_le.mp h)]
      have := mn (a := sl a b) (b := x - a.1) (Rat.le_of_lt (sl_pos hi.1.1 hi.1.2)) (by grind)
      grind
theorem fst_lt {a b : Pt} {r : List Pt} {x : Rat} (hi : Inc (a :: b :: r)) (hx : x < b.1) : hgt (a :: b :: r) x < b.2 := by
  rw [hgt_fst hi.1.1 hx]
  have hm := sl_mul hi.1.1
  have := lt_mul (a := 0) (b := sl a b) (c := b.1 - x) (sl_pos hi.1.1 hi.1.2) (by grind)
  grind
theorem strict : ∀ {r : List Pt} {a l : Pt} {x z : Rat}, Inc (a :: r) → (a :: r).getLast? = some l → a.1 ≤ x → x < z → z ≤ l.1 → hgt (a :: r) x < hgt (a :: r) z
  | [], a, l, x, z, _, hl, hx, hz, hzl => by cases hl; grind
  | b :: r, a, l, x, z, hi, hl, hx, hz, hzl => by
    by_cases h : b.1 ≤ x
    · rw [hgt_snd h, hgt_snd (show b.1 ≤ z by grind)]
      exact strict hi.2 (last_cons hl) h hz hzl
    · have h' := Rat.not_le.mp h
      by_cases h2 : b.1 ≤ z
      · have h3 := fst_lt hi h'
        rw [hgt_snd h2]
        have := hgt_ge hi.2 h2
        grind
      · rw [hgt_fst hi.1.1 h', hgt_fst hi.1.1 (Rat.not_le.mp h2)]
        have := lt_mul (a := 0) (b := sl a b) (c := z - x) (sl_pos hi.1.1 hi.1.2) (by grind)
        grind
theorem last_ge : ∀ {r : List Pt} {a l : Pt}, Inc (a :: r) → (a :: r).getLast? = some l → ∀ p ∈ a :: r, p.1 ≤ l.1 ∧ p.2 ≤ l.2
  | [], a, l, _, hl, p, hp => by
    cases hl
    rw [List.mem_singleton.mp hp]
    exact ⟨Rat.le_refl, Rat.le_refl⟩
  | b :: r, a, l, hi, hl, p, hp => by
    rcases List.mem_cons.mp hp with z | z
    · have := last_ge hi.2 (last_cons hl) b (List.mem_cons_self ..)
      have := hi.1
      rw [z]
      constructor <;> grind
    · exact last_ge hi.2 (last_cons hl) p z
theorem slp_zero : ∀ {r : List Pt} {a l : Pt} {x : Rat}, Inc (a :: r) → (a :: r).getLast? = some l → a.1 ≤ x → (slp (a :: r) x = 0 ↔ hgt (a :: r) x = l.2)
  | [], a, l, x, _, hl, _ => by
    cases hl
    exact ⟨fun _ => rfl, fun _ => rfl⟩
  | b :: r, a, l, x, hi, hl, hx => by
    by_cases h : b.1 ≤ x
    · rw [hgt_snd h, slp, if_pos h]
      exact slp_zero hi.2 (last_cons hl) h
    · have h' := Rat.not_le.mp h
      have h3 := fst_lt hi h'
      have h4 := (last_ge hi.2 (last_cons hl) b (List.mem_cons_self ..)).2
      have h5 := sl_pos hi.1.1 hi.1.2
      rw [slp, if_neg h]
      constructor
      · intro z
        have : sl a b = 0 := z
        grind
      · intro z; grind
theorem rch_step {a b : Pt} {r : List Pt} {y : Rat} (ha : a.2 < y) (hb : b.2 < y) : rch (a :: b :: r) y = rch (b :: r) y := by
  have c1 : cnt (a :: b :: r) y = cnt (b :: r) y + 1 := by rw [cnt_cons, if_pos ha]
  have c2 : cnt (b :: r) y = cnt r y + 1 := by rw [cnt_cons, if_pos hb]
  unfold rch
  rw [c1, c2, if_neg (by omega), if_neg (by omega)]
  have e1 : (a :: b :: r)[cnt r y + 1 + 1 - 1]? = (b :: r)[cnt r y + 1 - 1]? := by
    rw [show cnt r y + 1 + 1 - 1 = (cnt r y) + 1 by omega, show cnt r y + 1 - 1 = cnt r y by omega, List.getElem?_cons_succ]
  have e2 : (a :: b :: r)[cnt r y + 1 + 1]? = (b :: r)[cnt r y + 1]? := by rw [List.getElem?_cons_succ]
  rw [e1, e2]
theorem rch_fst {a b : Pt} {r : List Pt} {y : Rat} (hi : Inc (a :: b :: r)) (ha : a.2 < y) (hb : y ≤ b.2) : rch (a :: b :: r) y = a.1 + (b.1 - a.1) * (y - a.2) / (b.2 - a.2) := by
  have c1 : cnt (a :: b :: r) y = 1 := by rw [cnt_cons, if_pos ha, cnt_zero hi.2 hb]
  unfold rch
  rw [c1, if_neg (by omega)]
  rfl
theorem rch_ok0 : ∀ {r : List Pt} {a l : Pt} {y : Rat}, Inc (a :: r) → (a :: r).getLast? = some l → a.2 < y → y ≤ l.2 → a.1 < rch (a :: r) y ∧ rch (a :: r) y ≤ l.1 ∧ hgt (a :: r) (rch (a :: r) y) = y
  | [], a, l, y, _, hl, ha, hy => by cases hl; grind
  | b :: r, a, l, y, hi, hl, ha, hy => by
    by_cases hb : b.2 < y
    · rw [rch_step ha hb]
      obtain ⟨i1, i2, i3⟩ := rch_ok0 hi.2 (last_cons hl) hb hy
      have := hi.1.1
      refine ⟨by grind, i2, ?_⟩
      rw [hgt_snd (Rat.le_of_lt i1)]
      exact i3
    · have hb' := Rat.not_lt.mp hb
      rw [rch_fst hi ha hb']
      have hd1 := hi.1.1
      have hd2 := hi.1.2
      have hm := sl_mul hi.1.1
      have nz : b.2 - a.2 ≠ 0 := by grind
      have ht := dmc (a := (b.1 - a.1) * (y - a.2)) nz
      generalize (b.1 - a.1) * (y - a.2) / (b.2 - a.2) = t at *
      have hD : 0 < b.2 - a.2 := by grind
      have p1 := mp (a := b.1 - a.1) (b := y - a.2) (by grind) (by grind)
      have p2 := le_mul (a := y - a.2) (b := b.2 - a.2) (c := b.1 - a.1) (by grind) (by grind)
      have t0 : 0 < t := lt_of_mul hD (by grind)
      have t1 : t ≤ b.1 - a.1 := le_of_mul hD (by grind)
      have hll := (last_ge hi.2 (last_cons hl) b (List.mem_cons_self ..)).1
      refine ⟨by grind, by grind, ?_⟩
      have hst : sl a b * t = y - a.2 := by
        have hq : sl a b * t * (b.2 - a.2) = (y - a.2) * (b.2 - a.2) := by
          have : sl a b * t * (b.2 - a.2) = sl a b * (t * (b.2 - a.2)) := by grind
          rw [this, ht]
          have : sl a b * ((b.1 - a.1) * (y - a.2)) = sl a b * (b.1 - a.1) * (y - a.2) := by grind
          rw [this, hm]
          grind
        exact Rat.le_antisymm (le_of_mul hD (by rw [hq]; exact Rat.le_refl)) (le_of_mul hD (by rw [hq]; exact Rat.le_refl))
      by_cases he : a.1 + t < b.1
      · rw [hgt_fst hd1 he]
        have e : a.1 + t - a.1 = t := by grind
        rw [e, hst]
        grind
      · have e : a.1 + t = b.1 := by grind
        rw [e, hgt_corner hi (p := b) (by simp)]
        have e2 : t = b.1 - a.1 := by grind
        rw [e2, hm] at hst
        grind
/-- water_for at a height -/
theorem rch_ok {c : List Pt} {l : Pt} {x : Rat} (h : Cv c) (hl : c.getLast? = some l) (hx : 0 ≤ x) : hgt c x ≤ l.2 ∧ 0 ≤ rch c (hgt c x) ∧ rch c (hgt c x) ≤ x ∧ hgt c (rch c (hgt c x)) = hgt c x := by
  obtain ⟨s, r, e, hs⟩ := h.hd
  have hi := h.inc
  subst e
  have hle : hgt ((0, s) :: r) x ≤ l.2 := by
    by_cases c1 : x ≤ l.1
    · have hc := hgt_corner hi (List.mem_of_getLast? hl)
      rw [← hc]
      exact hgt_mono h hx c1
    · have hk : hgt ((0, s) :: r) x = hgt ((0, s) :: r) l.1 := hgt_const rfl (fun p hp => (last_ge hi hl p hp).1) (by grind)
      rw [hk, hgt_corner hi (List.mem_of_getLast? hl)]
      exact Rat.le_refl
  have hge : s ≤ hgt ((0, s) :: r) x := hgt_ge hi hx
  generalize hyy : hgt ((0, s) :: r) x = y at *
  by_cases c1 : s < y
  · obtain ⟨i1, i2, i3⟩ := rch_ok0 hi hl c1 hle
    refine ⟨hle, Rat.le_of_lt i1, ?_, i3⟩
    by_cases c2 : rch ((0, s) :: r) y ≤ x
    · exact c2
    · have := strict hi hl hx (Rat.not_le.mp c2) i2
      rw [hyy, i3] at this
      exact absurd this Rat.lt_irrefl
  · have ey : y = s := by grind
    have c0 := cnt_zero hi (y := y) (by show y ≤ s; grind)
    have e0 : rch ((0, s) :: r) y = 0 := by unfold rch; rw [if_pos c0]
    rw [e0]
    refine ⟨hle, Rat.le_refl, hx, ?_⟩
    rw [ey]
    exact hgt_head hi
theorem slope_ok {c : List Pt} {x d : Rat} (h : Cv c) (hx : 0 ≤ x) (hd : 0 ≤ d) : hgt c (x + d) - hgt c x ≤ d * slp c x ∧ 0 ≤ hgt c (x + d) - hgt c x := by
  obtain ⟨e, hk⟩ := hgt_eq (x := x) h hx
  have h1 := hgt_le' h hk (show 0 ≤ x + d by grind)
  have h2 := hgt_mono h hx (show x ≤ x + d by grind)
  constructor <;> grind
theorem sz_rch {c : List Pt} {y : Rat} {k j : Nat} {l : Pt} (hs : CSz k c) (hi : Inc c) (hy : Sz j y) (hl : c.getLast? = some l) (hle : y ≤ l.2) : Sz (6 * k + j + 4) (rch c y) := by
  by_cases h0 : cnt c y = 0
  · unfold rch
    rw [if_pos h0]
    exact sz_zero (by omega)
  · have hcl := cnt_lt hi hl hle
    obtain ⟨a, ha⟩ : ∃ a, c[cnt c y - 1]? = some a := ⟨_, List.getElem?_eq_getElem (by omega)⟩
    obtain ⟨b, hb⟩ : ∃ b, c[cnt c y]? = some b := ⟨_, List.getElem?_eq_getElem hcl⟩
    have sa := hs a (List.mem_of_getElem? ha)
    have sb := hs b (List.mem_of_getElem? hb)
    have hlt := (hi.get ha (by rw [show cnt c y - 1 + 1 = cnt c y by omega]; exact hb)).2
    rw [rch_mid h0 ha hb]
    exact (sz_add sa.1 (sz_div (sz_mul (sz_sub sb.1 sa.1) (sz_sub hy sa.2)) (sz_sub sb.2 sa.2) (by grind))).mono (by omega)
end B
/-! text MQ -/
set_option Elab.async false
set_option linter.all false
set_option maxRecDepth 100000
set_option autoImplicit false
namespace B
/-! a curve with its size and its length -/
structure Q (k n : Nat) (c : List Pt) : Prop where
  cv : Cv c
  sz : CSz k c
  len : c.length ≤ n
theorem Q.up {k n k' n' : Nat} {c : List Pt} (h : Q k n c) (hk : k ≤ k') (hn : n ≤ n') : Q k' n' c := ⟨h.cv, h.sz.mono hk, Nat.le_trans h.len hn⟩
theorem q_curve {c : List Pt} {k n : Nat} (h : ∀ b ∈ c, Nn b) (hs : CSz k c) (hl : c.length ≤ n) : Q (1 + n * (k + 1)) (n + 1) (curveOf c) :=
  ⟨(curveOf_ok h).1, (curveOf_sz hs).mono (by have := Nat.mul_le_mul_right (k + 1) hl; omega), Nat.le_trans (curveOf_len c) (by omega)⟩
theorem q_tog {a b : List Pt} {k n m : Nat} (ha : Q k n a) (hb : Q k m b) : Q (1 + (n + m) * (2 * k + 2)) (n + m + 1) (tog a b) := by
  have l1 := steps_len a
  have l2 := steps_len b
  have := ha.len
  have := hb.len
  have hl : (steps a ++ steps b).length ≤ n + m := by rw [List.length_append]; omega
  refine ⟨(tog_ok ha.cv hb.cv).1, ?_, Nat.le_trans (curveOf_len (steps a ++ steps b)) (Nat.succ_le_succ hl)⟩
  have hs : CSz (2 * k + 1) (steps a ++ steps b) := fun x hx => by
    rcases List.mem_append.mp hx with z | z
    · exact steps_sz ha.sz x z
    · exact steps_sz hb.sz x z
  exact (curveOf_sz hs).mono (Nat.add_le_add_left (Nat.mul_le_mul_right (2 * k + 2) hl) 1)
theorem q_shf {c : List Pt} {k n j : Nat} {w : Rat} (h : Q k n c) (hw : Sz j w) (h0 : 0 ≤ w) : Q (6 * k + j + 4) (n + 1) (shf c w) := by
  refine ⟨(shf_ok h.cv h0).1, fun b hb => ?_, ?_⟩
  · unfold shf at hb
    rcases List.mem_cons.mp hb with z | z
    · rw [z]
      exact ⟨sz_zero (by omega), sz_hgt h.sz h.cv.inc hw h.cv.ne⟩
    · obtain ⟨p, hp, rfl⟩ := List.mem_map.mp z
      have := h.sz p (List.mem_filter.mp hp).1
      exact ⟨(sz_sub this.1 hw).mono (by omega), this.2.mono (by omega)⟩
  · unfold shf
    rw [List.length_cons, List.length_map]
    have := List.length_filter_le (fun b : Pt => decide (w < b.1)) c
    have := h.len
    omega
theorem two_of {a b : List Pt} {k n m : Nat} (ha : Q k n a) (hb : Q k m b) (h : n + m < 33) : Two a b k := ⟨ha.cv, hb.cv, ha.sz, hb.sz, by have := ha.len; have := hb.len; omega⟩
theorem q_low {a b : List Pt} {k n m : Nat} (ha : Q k n a) (hb : Q k m b) (h : n + m < 33) (h0 : 0 < n) : Q (52 * k + 34) (2 * (n + m) - 1) (lower a b) := by
  have ht := two_of ha hb h
  refine ⟨(lower_ok ha.cv hb.cv).1, fun p hp => sz_lowPts ht p (smooth_sub p hp), ?_⟩
  have h1 := smooth_len (ps := lowPts a b)
  have h2 := crossings_len (one := a) (other := b)
  have h3 : (lowPts a b).length = (crossings a b).length := List.length_map ..
  have := ha.len
  have := hb.len
  show (smooth (lowPts a b)).length ≤ _
  omega
theorem q_upp {a b : List Pt} {k n m : Nat} (ha : Q k n a) (hb : Q k m b) (h : n + m < 33) : Q (7 * k + 4) (n + m) (upper a b) := by
  have ht := two_of ha hb h
  refine ⟨(upper_ok ha.cv hb.cv).1, fun p hp => sz_uppPts ht p (smooth_sub p hp), ?_⟩
  have h1 := smooth_len (ps := uppPts a b)
  have h2 := waters_len (one := a) (other := b)
  have h3 : (uppPts a b).length = (waters a b).length := List.length_map ..
  have := ha.len
  have := hb.len
  show (smooth (uppPts a b)).length ≤ _
  omega
/-! the law's equations -/
theorem tog_comm {a b : List Pt} (ha : Cv a) (hb : Cv b) : tog a b = tog b a :=
  cv_extE (tog_ok ha hb).1 (tog_ok hb ha).1 fun k hk => by rw [(tog_ok ha hb).2 k hk, (tog_ok hb ha).2 k hk]; grind
theorem tog_assoc {a b c : List Pt} (ha : Cv a) (hb : Cv b) (hc : Cv c) : tog (tog a b) c = tog a (tog b c) := by
  have h1 := tog_ok ha hb
  have h2 := tog_ok hb hc
  refine cv_extE (tog_ok h1.1 hc).1 (tog_ok ha h2.1).1 fun k hk => ?_
  rw [(tog_ok h1.1 hc).2 k hk, (tog_ok ha h2.1).2 k hk, h1.2 k hk, h2.2 k hk]
  grind
theorem shf_shf {a : List Pt} {v w : Rat} (ha : Cv a) (hv : 0 ≤ v) (hw : 0 ≤ w) : shf (shf a v) w = shf a (v + w) := by
  have h1 := shf_ok ha hv
  have h2 := shf_ok h1.1 hw
  have h3 := shf_ok ha (w := v + w) (by grind)
  refine cv_ext h2.1 h3.1 fun x hx => ?_
  rw [h2.2 x hx, h1.2 _ (by grind), h3.2 x hx]
  congr 1
  grind
theorem shf_zero {a : List Pt} (ha : Cv a) : shf a 0 = a := by
  have h1 := shf_ok ha (w := 0) Rat.le_refl
  refine cv_ext h1.1 ha fun x hx => ?_
  rw [h1.2 x hx]
  congr 1
  grind
theorem tog_nil {a : List Pt} (ha : Cv a) : tog a (curveOf []) = a := by
  have h0 := curveOf_ok (c := []) (fun b hb => nomatch hb)
  refine cv_extE (tog_ok ha h0.1).1 ha fun k hk => ?_
  rw [(tog_ok ha h0.1).2 k hk, h0.2 k hk]
  show _ + 0 = _
  grind
theorem curve_steps {a : List Pt} (ha : Cv a) : curveOf (steps a) = a := by
  have h0 := curveOf_ok (steps_nn ha)
  exact cv_extE h0.1 ha fun k hk => by rw [h0.2 k hk, bs_steps ha]
theorem curve_app {c d : List Pt} (hc : ∀ b ∈ c, Nn b) (hd : ∀ b ∈ d, Nn b) : curveOf (c ++ d) = tog (curveOf c) (curveOf d) := by
  have h1 := curveOf_ok hc
  have h2 := curveOf_ok hd
  have h3 := curveOf_ok (c := c ++ d) fun b hb => by
    rcases List.mem_append.mp hb with z | z
    · exact hc b z
    · exact hd b z
  have h4 := tog_ok h1.1 h2.1
  exact cv_extE h3.1 h4.1 fun k hk => by rw [h3.2 k hk, bs_app, h4.2 k hk, h1.2 k hk, h2.2 k hk]
theorem low_eq {a b c : List Pt} (ha : Cv a) (hb : Cv b) (hc : Cv c) (h : ∀ x, 0 ≤ x → min (hgt a x) (hgt b x) = hgt c x) : lower a b = c :=
  cv_ext (lower_ok ha hb).1 hc fun x hx => by rw [(lower_ok ha hb).2 x hx, h x hx]
theorem upp_eq {a b c : List Pt} (ha : Cv a) (hb : Cv b) (hc : Cv c) (h : ∀ k, 0 ≤ k → max (cj a k) (cj b k) = cj c k) : upper a b = c :=
  cv_extE (upper_ok ha hb).1 hc fun k hk => by rw [(upper_ok ha hb).2 k hk, h k hk]
end B
/-! text KLaw1 -/
set_option Elab.async false
set_option linter.all false
set_option maxRecDepth 100000
set_option autoImplicit false
namespace B
open PySem PySem.Spec PyProof.Rows L2
/-! one lap in plain Lean: what is drawn -/
structure Lap where
  size : Int
  st0 : List Pt
  st1 : List Pt
  st2 : List Pt
  sun : Rat
  light : Rat
  cost : Rat
  water : Rat
/-- a stock of the lap -/
def stk3 (s : Tin) (n : Int) : List Pt × Tin := stkF (takeF s 6).2 (takeF s 6).1.toNat n
theorem stk3_ok {s : Tin} {n m : Int} (h : TOk m s) (h0 : 0 < n) (h1 : n < 2 ^ 41) : (∀ b ∈ (stk3 s n).1, Nn b) ∧ CSz 43 (stk3 s n).1 ∧ (stk3 s n).1.length ≤ 5 ∧ TOk (m + 31) (stk3 s n).2 := by
  have hb := take_bd (s := s) (n := 6) (by decide)
  have hs := stk_all (n := n) h0 h1 (xs := List.range (takeF s 6).1.toNat) (take_ok (n := 6) h)
  refine ⟨fun b hb' => (hs.1 b hb').1, fun b hb' => (hs.1 b hb').2, ?_, hs.2.mono ?_⟩
  · unfold stk3 stkF
    rw [mapF_len, List.length_range]
    omega
  · rw [List.length_range]; omega
end B
/-! text MLaw -/
set_option Elab.async false
set_option linter.all false
set_option maxRecDepth 100000
set_option autoImplicit false
namespace B
section
variable {a b c : List Pt} (ha : Cv a) (hb : Cv b) (hc : Cv c)
include ha hb
theorem low_comm : lower b a = lower a b := low_eq hb ha (lower_ok ha hb).1 fun x hx => by rw [(lower_ok ha hb).2 x hx]; grind
theorem upp_comm : upper b a = upper a b := upp_eq hb ha (upper_ok ha hb).1 fun k hk => by rw [(upper_ok ha hb).2 k hk]; grind
theorem hle_upp : ∀ x, 0 ≤ x → hgt a x ≤ hgt (upper a b) x := hle_of ha (upper_ok ha hb).1 fun k hk => by rw [(upper_ok ha hb).2 k hk]; grind
theorem hle_upp2 : ∀ x, 0 ≤ x → hgt b x ≤ hgt (upper a b) x := hle_of hb (upper_ok ha hb).1 fun k hk => by rw [(upper_ok ha hb).2 k hk]; grind
theorem low_hle : ∀ x, 0 ≤ x → hgt (lower a b) x ≤ hgt a x := fun x hx => by rw [(lower_ok ha hb).2 x hx]; grind
theorem low_hle2 : ∀ x, 0 ≤ x → hgt (lower a b) x ≤ hgt b x := fun x hx => by rw [(lower_ok ha hb).2 x hx]; grind
theorem low_upp : lower a (upper a b) = a := low_eq ha (upper_ok ha hb).1 ha fun x hx => by
  have := hle_upp ha hb x hx
  grind
theorem upp_low : upper a (lower a b) = a := upp_eq ha (lower_ok ha hb).1 ha fun k hk => by
  have := cle_of (lower_ok ha hb).1 ha (low_hle ha hb) k hk
  grind
omit hb in
theorem low_self : lower a a = a := low_eq ha ha ha fun x hx => by grind
omit hb in
theorem upp_self : upper a a = a := upp_eq ha ha ha fun k hk => by grind
include hc in
theorem low_assoc : lower (lower a b) c = lower a (lower b c) := by
  have h1 := lower_ok ha hb
  have h2 := lower_ok hb hc
  have h3 := lower_ok ha h2.1
  refine low_eq h1.1 hc h3.1 fun x hx => ?_
  rw [h1.2 x hx, h3.2 x hx, h2.2 x hx]
  grind
include hc in
theorem upp_assoc : upper (upper a b) c = upper a (upper b c) := by
  have h1 := upper_ok ha hb
  have h2 := upper_ok hb hc
  have h3 := upper_ok ha h2.1
  refine upp_eq h1.1 hc h3.1 fun k hk => ?_
  rw [h1.2 k hk, h3.2 k hk, h2.2 k hk]
  grind
theorem cj_nn {k : Rat} : 0 ≤ cj a k := by
  obtain ⟨s, r, e, hs⟩ := ha.hd
  have := cj_ge (c := a) (k := k) (p := (0, s)) (by rw [e]; exact List.mem_cons_self ..)
  unfold val at this
  grind
theorem tog_hle : ∀ x, 0 ≤ x → hgt a x ≤ hgt (tog a b) x := hle_of ha (tog_ok ha hb).1 fun k hk => by
  rw [(tog_ok ha hb).2 k hk]
  have := cj_nn hb ha (k := k)
  grind
theorem tog_hle_upp : ∀ x, 0 ≤ x → hgt (upper a b) x ≤ hgt (tog a b) x := hle_of (upper_ok ha hb).1 (tog_ok ha hb).1 fun k hk => by
  rw [(tog_ok ha hb).2 k hk, (upper_ok ha hb).2 k hk]
  have := cj_nn ha hb (k := k)
  have := cj_nn hb ha (k := k)
  grind
omit hb in
theorem shf_hle {w : Rat} (hw : 0 ≤ w) : ∀ x, 0 ≤ x → hgt a x ≤ hgt (shf a w) x := fun x hx => by
  rw [(shf_ok ha hw).2 x hx]
  exact hgt_mono ha hx (by grind)
omit hb in
theorem shf_cj {w k : Rat} (hw : 0 ≤ w) (hk : 0 ≤ k) : cj (shf a w) k ≤ cj a k + k * w := by
  obtain ⟨p, hp, h0, e⟩ := cj_hgt (k := k) (shf_ok ha hw).1
  rw [e, (shf_ok ha hw).2 _ h0]
  have := hgt_le' ha hk (show 0 ≤ p.1 + w by grind)
  grind
theorem shf_tog {v w : Rat} (hv : 0 ≤ v) (hw : 0 ≤ w) : ∀ x, 0 ≤ x → hgt (tog (shf a v) (shf b w)) x ≤ hgt (shf (tog a b) (v + w)) x := fun x hx => by
  have h1 := shf_ok ha hv
  have h2 := shf_ok hb hw
  have h3 := tog_ok h1.1 h2.1
  have h4 := tog_ok ha hb
  rw [(shf_ok h4.1 (w := v + w) (by grind)).2 x hx]
  obtain ⟨e, hk⟩ := hgt_eq (c := tog a b) (x := x + (v + w)) h4.1 (by grind)
  generalize slp (tog a b) (x + (v + w)) = k at e hk
  rw [e, h4.2 k hk]
  have q1 := hgt_le' h3.1 hk hx
  rw [h3.2 k hk] at q1
  have q2 := shf_cj ha hv hk
  have q3 := shf_cj hb hw hk
  grind
/-- when one lies nowhere below -/
theorem nb_low : (fstU a b).isNone = true ↔ lower a b = b := by
  rw [fstU_none ha hb]
  constructor
  · intro h
    exact low_eq ha hb hb fun x hx => by have := h x hx; grind
  · intro h x hx
    have := low_hle ha hb x hx
    rw [h] at this
    exact this
theorem nb_upp : (fstU a b).isNone = true ↔ upper a b = a := by
  rw [fstU_none ha hb]
  constructor
  · intro h
    exact upp_eq ha hb ha fun k hk => by have := cle_of hb ha h k hk; grind
  · intro h x hx
    have := hle_upp2 ha hb x hx
    rw [h] at this
    exact this
include hc in
theorem nb_low3 (h1 : (fstU a c).isNone = true) (h2 : (fstU b c).isNone = true) : (fstU (lower a b) c).isNone = true := by
  have l := lower_ok ha hb
  refine (fstU_none l.1 hc).mpr fun x hx => ?_
  have q1 := (fstU_none ha hc).mp h1 x hx
  have q2 := (fstU_none hb hc).mp h2 x hx
  rw [l.2 x hx]
  grind
include hc in
theorem nb_upp3 (h1 : (fstU c a).isNone = true) (h2 : (fstU c b).isNone = true) : (fstU c (upper a b)).isNone = true := by
  have l := upper_ok ha hb
  refine (fstU_none hc l.1).mpr (hle_of l.1 hc fun k hk => ?_)
  have q1 := cle_of ha hc ((fstU_none hc ha).mp h1) k hk
  have q2 := cle_of hb hc ((fstU_none hc hb).mp h2) k hk
  rw [l.2 k hk]
  grind
end
end B
/-! text KLw0 -/
set_option Elab.async false
set_option linter.all false
set_option maxRecDepth 100000
set_option autoImplicit false
namespace B
open PySem PySem.Spec PyProof.Rows L2
local macro_rules | `(tactic| walk_at "o+") => `(tactic| first | exact o_orL o_I0 | (exact o_orR (o_orL (o_cat (by assumption)))) | (exact o_orR (o_orR (o_catA (by assumption)))))
local macro_rules | `(tactic| walk_at "o*") => `(tactic| exact o_orL (o_mul (by walk_at "mul")))
local macro_rules | `(tactic| walk_at "mul") => `(tactic| first | assumption | exact mul_nd (by assumption) (by assumption) | exact mul_dd (by assumption) (by assumption) | exact mul_nn (by assumption) (by assumption) | exact mul_dn (by assumption) (by assumption))
local macro_rules | `(tactic| walk_at "nz") => `(tactic| assumption)
local macro_rules | `(tactic| walk_at "nzd") => `(tactic| exact den2_ne _ _)
local macro_rules | `(tactic| walk_at "ix") => `(tactic| first | exact o_ixT' rfl | exact o_ixL' rfl | exact o_ixT' (by assumption) | exact o_ixL' (by assumption))
local macro_rules | `(tactic| walk_at "o=") => `(tactic| first | exact o_orL o_eqI | exact o_orL o_neI | exact o_orL o_eqB | exact o_orL o_neB | exact o_orR (o_eqD (by assumption) (by assumption)) | exact o_orR (o_neD (by assumption) (by assumption)) | exact o_orR (o_eqD rfl rfl) | exact o_orR (o_neD rfl rfl))
local macro_rules | `(tactic| walk_at "b_gcd") => `(tactic| exact n_gcd)
local macro_rules | `(tactic| walk_at "b_len") => `(tactic| first | exact n_lenT | exact n_lenL)
local macro_rules | `(tactic| walk_at "b_tuple") => `(tactic| first | exact n_tupleL | exact n_tupleT)
local macro_rules | `(tactic| walk_at "b_isinstance") => `(tactic| exact n_isi rfl rfl)
local macro_rules | `(tactic| walk_at "b_all") => `(tactic| exact n_all)
local macro_rules | `(tactic| walk_at "b_lcm") => `(tactic| exact n_lcm (by assumption))
local macro_rules | `(tactic| walk_at "b_sorted") => `(tactic| exact n_sortedP)
local macro_rules | `(tactic| walk_at "sp") => `(tactic| (constructor <;> first | assumption | rfl | walk_at "nzd"))
section
variable {P : Program} {w : World} {K : PySem.W.Frag} {mg : Str → Option Value} {base : Heap} {vN vS : V}
/-! the statements of a lap -/
def bodyOf : Stmt → List Stmt
  | .For _ _ b _ _ => b
  | _ => []
def lapS (i : Nat) : Stmt := (bodyOf ((defBody s_law).getD 1 (.Pass ⟨0, 0, 0, 0⟩))).getD i (.Pass ⟨0, 0, 0, 0⟩)
theorem pg_lstK {X : Cx} (K : PySem.W.Frag) (hK : X.K = K) {pos : Pos} {es : List Expr} {k : Nat} {t : TGs} {n : Nat} (hc : X.calm = true) (h : PGs X es t)
    (hn : (assignEach es X.env).length = n := by rfl) (hst : (assignEach es X.env).findIdx? (·.1) = none := by rfl) : PG X (.Tuple es k pos) (gLst K n t) := hK ▸ pg_lst hc h hn hst
section
variable {C : Cc} {ρ ρ1 : En}
theorem g_lst {gs : TGs} {ts : List Nat} {ds : List Dt} {n : Nat} (h : EvGs C gs ts ds ρ ρ1) (hn : ds.length = n := by rfl) : EvG C (gLst C.K n gs) ts (.lst ds) ρ ρ1 := fun σ H M v e r Q q => by
  obtain ⟨a, vs, e1, _, e2, e3⟩ := r
  exact ⟨a, vs, e1, .of e2, e3.length.trans hn, h σ H M vs e e3 Q q⟩
/-- an own list is not changed any more -/
theorem x_freeze {t : TS} {i : Nat} {ds : List Dt} (h : Ex C t ρ (.nx ρ1)) (hi : ρ1[i]? = some (some (.own ds))) : Ex C t ρ (.nx (ρ1.set i (some (.val (.lst ds))))) := fun σ H M e D q =>
  h σ H M e D fun σ' H' M' po => by
    obtain ⟨a, vs, ha, hm, hl, hr⟩ := po.env.ownAt hi
    have hi' : i < ρ1.length := (List.getElem?_eq_some_iff.mp hi).1
    have key : ∀ (j : Nat) (fs : List Dt), (ρ1.set i (some (.val (.lst ds))))[j]? = some (some (.own fs)) → j ≠ i ∧ ρ1[j]? = some (some (.own fs)) := fun j fs q => by
      rw [getElem?_set_some hi'] at q
      by_cases z : j = i
      · rw [if_pos z] at q; cases q
      · rw [if_neg z] at q; exact ⟨z, q⟩
    have sub : ∀ b, (M' b ∧ b ≠ a) → M' b := fun b z => z.1
    have nea : ∀ b, M b → ¬ Owned σ ρ b → b ≠ a := fun b hb hn z => by
      subst z
      rcases po.own b ⟨i, ds, hi, ha⟩ with y | y
      · exact hn y
      · obtain ⟨xs, e1⟩ := e.mok b hb
        rw [y] at e1; cases e1
    refine q σ' H' (fun b => M' b ∧ b ≠ a) ⟨⟨fun b z => po.env.mok b z.1, by rw [List.length_set]; exact po.env.len, fun j s z => ?_, fun j k s t b q1 q2 q3 q4 => ?_, fun j s b q1 q2 => ?_, po.env.fzd⟩, ⟨po.nxt.fix, fun b z y => ⟨po.nxt.keep b z y, nea b z y⟩, fun b z => po.nxt.fresh b z.1, po.nxt.oth, po.nxt.dom⟩, fun b ⟨j, fs, h1, h2⟩ => po.own b ⟨j, fs, (key j fs h1).2, h2⟩⟩
    · rw [getElem?_set_some hi'] at z
      by_cases y : j = i
      · rw [if_pos y] at z
        cases z
        rw [y]
        exact ⟨.ref a, ha, a, vs, rfl, fun x => x.2 rfl, hl, Reps.anti sub hr⟩
      · rw [if_neg y] at z
        obtain ⟨v, h1, h2⟩ := po.env.get j s z
        refine ⟨v, h1, ?_⟩
        cases s with
        | val d => exact Rep.anti sub h2
        | own fs =>
          obtain ⟨b, ws, e1, e2, e3, e4⟩ := h2
          subst e1
          exact ⟨b, ws, rfl, ⟨e2, fun x => y (by rw [x] at h1; exact po.env.dist j i fs ds a z hi h1 ha)⟩, e3, Reps.anti sub e4⟩
    · obtain ⟨_, r1⟩ := key j s q1
      obtain ⟨_, r2⟩ := key k t q2
      exact po.env.dist j k s t b r1 r2 q3 q4
    · obtain ⟨_, r1⟩ := key j s q1
      exact po.env.fz j s b r1 q2
end
end
/-! the promises of the curves, by size -/
section
variable {a b : List Pt} {k j n m : Nat} {x : Rat}
theorem s_tog (i : Nat) (ha : Q k n a) (hb : Q j m b) (h1 : k ≤ i := by decide) (h2 : j ≤ i := by decide) (h : (n + m + 1) * (2 * i + 2) ≤ 4000000 := by decide) (hl : n + m < 1000 := by decide) : S_together [encC a, encC b] (.val (encC (tog a b))) :=
  S_together.mk ha.cv hb.cv (ha.sz.mono h1) (hb.sz.mono h2) (Nat.le_trans (Nat.mul_le_mul_right _ (by have := ha.len; have := hb.len; omega)) h) (by have := ha.len; have := hb.len; omega)
theorem q_togI (i : Nat) (ha : Q k n a) (hb : Q j m b) (h1 : k ≤ i := by decide) (h2 : j ≤ i := by decide) : Q (1 + (n + m) * (2 * i + 2)) (n + m + 1) (tog a b) := q_tog (ha.up h1 (Nat.le_refl _)) (hb.up h2 (Nat.le_refl _))
theorem s_shf {l : Nat} (h : Q k n a) (hx : Sz l x) (h0 : 0 ≤ x) (hk : 6 * k + l + 4 ≤ 40000000 := by decide) (hl : n < 1000000 := by decide) : S_sunned [encC a, enc x] (.val (encC (shf a x))) := S_sunned.mk h.cv h.sz hx h0 hk (Nat.lt_of_le_of_lt h.len hl)
theorem s_low (i : Nat) (ha : Q k n a) (hb : Q j m b) (h1 : k ≤ i := by decide) (h2 : j ≤ i := by decide) (h : i ≤ 16000 := by decide) (hl : n + m < 33 := by decide) : S_lesser [encC a, encC b] (.val (encC (lower a b))) :=
  S_lesser.mk (two_of (ha.up h1 (Nat.le_refl _)) (hb.up h2 (Nat.le_refl _)) hl) h
theorem s_upp (i : Nat) (ha : Q k n a) (hb : Q j m b) (h1 : k ≤ i := by decide) (h2 : j ≤ i := by decide) (h : i ≤ 1000000 := by decide) (hl : n + m < 33 := by decide) : S_greater [encC a, encC b] (.val (encC (upper a b))) :=
  S_greater.mk (two_of (ha.up h1 (Nat.le_refl _)) (hb.up h2 (Nat.le_refl _)) hl) h
theorem s_exc {l : Nat} (h : Q k n a) (hx : Sz l x) (h0 : 0 ≤ x) (hk : 4 * k + 2 + l ≤ 30000000 := by decide) (hl : n < 1000000 := by decide) : S_excess [encC a, enc x] (.val (enc (exc a x))) := S_excess.mk h.cv h.sz hx h0 hk (Nat.lt_of_le_of_lt h.len hl)
theorem s_hgt {l : Nat} (h : Q k n a) (hx : Sz l x) (h0 : 0 ≤ x) (hk : 6 * k + l + 4 ≤ 40000000 := by decide) (hl : n < 1000000 := by decide) : S_salt_at [encC a, enc x] (.val (enc (hgt a x))) := S_salt_at.mk h.cv h.sz hx h0 hk (Nat.lt_of_le_of_lt h.len hl)
theorem s_slp {l : Nat} (h : Q k n a) (hx : Sz l x) (h0 : 0 ≤ x) (hk : 4 * k + 2 ≤ 40000000 := by decide) (hj : l ≤ 40000000 := by decide) (hl : n < 1000000 := by decide) : S_touching [encC a, enc x] (.val (enc (slp a x))) := S_touching.mk h.cv h.sz hx h0 hk hj (Nat.lt_of_le_of_lt h.len hl)
theorem s_rch {l : Nat} {p : Pt} (h : Q k n a) (hp : a.getLast? = some p) (hx : Sz l x) (h0 : 0 ≤ x) (hle : x ≤ p.2) (hk : 6 * k + l + 4 ≤ 40000000 := by decide) (hl : n < 1000000 := by decide) : S_water_for [encC a, enc x] (.val (enc (rch a x))) :=
  S_water_for.mk h.cv h.sz hx h0 hp hle hk (Nat.lt_of_le_of_lt h.len hl)
theorem s_nb (i : Nat) (ha : Q k n a) (hb : Q j m b) (h1 : k ≤ i := by decide) (h2 : j ≤ i := by decide) (h : 7 * i + 4 ≤ 40000000 := by decide) (h3 : n < 1000000 := by decide) (h4 : m < 1000000 := by decide) : S_is_nowhere_below [encC a, encC b] (.val (.bl (fstU a b).isNone)) :=
  S_is_nowhere_below.mk ha.cv (ha.sz.mono h1) hb.cv (hb.sz.mono h2) h (Nat.lt_of_le_of_lt ha.len h3) (Nat.lt_of_le_of_lt hb.len h4)
theorem s_fb (i : Nat) (ha : Q k n a) (hb : Q j m b) (h1 : k ≤ i := by decide) (h2 : j ≤ i := by decide) (h : 7 * i + 4 ≤ 40000000 := by decide) (h3 : n < 1000000 := by decide) (h4 : m < 1000000 := by decide) : S_first_below [encC a, encC b] (.val (encO (fstU a b))) :=
  S_first_below.mk ha.cv (ha.sz.mono h1) hb.cv (hb.sz.mono h2) h (Nat.lt_of_le_of_lt ha.len h3) (Nat.lt_of_le_of_lt hb.len h4)
theorem s_isc (h : Q k n a) (hk : 4 * k + 2 ≤ 40000000 := by decide) (hl : n < 1000000 := by decide) : S_is_curve [encC a] (.val (.bl true)) := S_is_curve.mk h.cv h.sz hk (Nat.lt_of_le_of_lt h.len hl)
theorem s_stk (h : Q k n a) (hk : 4 * k + 2 ≤ 40000000 := by decide) (hl : n < 1000000 := by decide) : S_stock_of [encC a] (.val (encC (steps a))) := S_stock_of.mk h.cv h.sz hk (Nat.lt_of_le_of_lt h.len hl)
theorem s_crv (hn : ∀ b ∈ a, Nn b) (hs : CSz k a) (hl : a.length ≤ n) (hk : (n + 1) * (k + 1) ≤ 4000000 := by decide) (h : n < 100000 := by decide) : S_curve [encC a] (.val (encC (curveOf a))) :=
  S_curve.mk hn hs (Nat.le_trans (Nat.mul_le_mul_right _ (Nat.succ_le_succ hl)) hk) (Nat.lt_of_le_of_lt hl h)
theorem sz_exc {l : Nat} (h : Q k n a) (hx : Sz l x) : Sz (2 * k + l + 2) (exc a x) := by
  rw [exc_eq h.cv]
  obtain ⟨p, hp, e⟩ := cj_at (c := a) (k := x) h.cv.ne
  rw [e]
  have := h.sz p hp
  exact (sz_sub this.2 (sz_mul hx this.1)).mono (by omega)
end
theorem sdats_map {α : Type} {n : Nat} {f : α → Dt} (h : ∀ x, sdat n (f x) = true) : ∀ xs : List α, sdats n (xs.map f) = true
  | [] => by rw [List.map_nil, sdats]
  | x :: xs => by rw [List.map_cons, sdats, h x, sdats_map h xs]; rfl
theorem sdat_enc {n : Nat} {q : Rat} : sdat (n + 1) (enc q) = true := by unfold enc; rw [sdat, sdats, sdats, sdats, sdat, sdat]; rfl
theorem sdat_encB {n : Nat} {b : Pt} : sdat (n + 2) (encB b) = true := by unfold encB; rw [sdat, sdats, sdats, sdats, sdat_enc, sdat_enc]; rfl
theorem sdat_encC {n : Nat} {c : List Pt} (h : c.length < 1000000) : sdat (n + 3) (encC c) = true := by
  unfold encC
  rw [sdat, sdats_map (fun x => sdat_encB) c, List.length_map]
  rw [show Nat.blt c.length 1000000 = true from Nat.ble_eq.mpr h]
  rfl
theorem Q.sd {k m n : Nat} {c : List Pt} (h : Q k m c) (hm : m < 1000000 := by decide) : sdat (n + 3) (encC c) = true := sdat_encC (Nat.lt_of_le_of_lt h.len hm)
theorem deqs_pts : ∀ {c d : List Pt}, deqs (c.map encB) (d.map encB) = decide (c = d)
  | [], [] => by rw [List.map_nil, deqs_nil]; rfl
  | [], d :: ds => by rw [List.map_nil, List.map_cons, deqs_nc]; simp
  | c :: cs, [] => by rw [List.map_nil, List.map_cons, deqs_cn]; simp
  | c :: cs, d :: ds => by
    rw [List.map_cons, List.map_cons, deqs_cons, deqs_pts, show deq (encB c) (encB d) = (decide (c.1 = d.1) && decide (c.2 = d.2)) by
      unfold encB
      rw [deq_tup, deqs_cons, deqs_cons, deqs_nil, deq_enc, deq_enc, Bool.and_true]]
    by_cases h : c = d
    · subst h; simp
    · have : ¬ (c.1 = d.1 ∧ c.2 = d.2) := fun z => h (Prod.ext z.1 z.2)
      by_cases h1 : c.1 = d.1 <;> by_cases h2 : c.2 = d.2 <;> simp_all
theorem deq_encC (c d : List Pt) : deq (encC c) (encC d) = decide (c = d) := by unfold encC; rw [deq_tup, deqs_pts]
/-- what is drawn in a lap -/
structure LapOk (a b c : List Pt) (sun light cost water : Rat) : Prop where
  qa : Q 256 6 a
  qb : Q 256 6 b
  qc : Q 256 6 c
  s1 : Sz 43 sun
  s2 : Sz 43 light
  s3 : Sz 43 cost
  s4 : Sz 43 water
  n1 : 0 ≤ sun
  n2 : 0 ≤ light
  n3 : 0 ≤ cost
  n4 : 0 ≤ water
namespace LapOk
variable {a b c : List Pt} {sun light cost water : Rat} (L : LapOk a b c sun light cost water)
include L
theorem both : Q 6200 13 (tog a b) := (q_tog L.qa L.qb).up (by decide) (by decide)
theorem low : Q 13400 23 (lower a b) := (q_low L.qa L.qb (by decide) (by decide)).up (by decide) (by decide)
theorem high : Q 1800 12 (upper a b) := (q_upp L.qa L.qb (by decide)).up (by decide) (by decide)
theorem sh : Q 1700 7 (shf a sun) := (q_shf L.qa L.s1 L.n1).up (by decide) (by decide)
theorem s12 : Sz 87 (sun + light) := sz_add L.s1 L.s2
theorem n12 : 0 ≤ sun + light := by have := L.n1; have := L.n2; grind
end LapOk
end B
/-! text KLwA -/
set_option Elab.async false
set_option linter.all false
set_option maxRecDepth 100000
set_option autoImplicit false
namespace B
open PySem PySem.Spec PyProof.Rows L2
local macro_rules | `(tactic| walk_at "o+") => `(tactic| first | exact o_orL o_I0 | (exact o_orR (o_orL (o_cat (by assumption)))) | (exact o_orR (o_orR (o_catA (by assumption)))))
local macro_rules | `(tactic| walk_at "o*") => `(tactic| exact o_orL (o_mul (by walk_at "mul")))
local macro_rules | `(tactic| walk_at "mul") => `(tactic| first | assumption | exact mul_nd (by assumption) (by assumption) | exact mul_dd (by assumption) (by assumption) | exact mul_nn (by assumption) (by assumption) | exact mul_dn (by assumption) (by assumption))
local macro_rules | `(tactic| walk_at "nz") => `(tactic| assumption)
local macro_rules | `(tactic| walk_at "nzd") => `(tactic| exact den2_ne _ _)
local macro_rules | `(tactic| walk_at "ix") => `(tactic| first | exact o_ixT' rfl | exact o_ixL' rfl | exact o_ixT' (by assumption) | exact o_ixL' (by assumption))
local macro_rules | `(tactic| walk_at "o=") => `(tactic| first | exact o_orL o_eqI | exact o_orL o_neI | exact o_orL o_eqB | exact o_orL o_neB | exact o_orR (o_eqD (by assumption) (by assumption)) | exact o_orR (o_neD (by assumption) (by assumption)) | exact o_orR (o_eqD rfl rfl) | exact o_orR (o_neD rfl rfl))
local macro_rules | `(tactic| walk_at "b_gcd") => `(tactic| exact n_gcd)
local macro_rules | `(tactic| walk_at "b_len") => `(tactic| first | exact n_lenT | exact n_lenL)
local macro_rules | `(tactic| walk_at "b_tuple") => `(tactic| first | exact n_tupleL | exact n_tupleT)
local macro_rules | `(tactic| walk_at "b_isinstance") => `(tactic| exact n_isi rfl rfl)
local macro_rules | `(tactic| walk_at "b_all") => `(tactic| exact n_all)
local macro_rules | `(tactic| walk_at "b_lcm") => `(tactic| exact n_lcm (by assumption))
local macro_rules | `(tactic| walk_at "b_sorted") => `(tactic| exact n_sortedP)
local macro_rules | `(tactic| walk_at "sp") => `(tactic| (constructor <;> first | assumption | rfl | walk_at "nzd"))
section
variable {P : Program} {w : World} {K : PySem.W.Frag} {mg : Str → Option Value} {base : Heap} {vN vS : V}
/-! what is drawn -/
theorem lap0 (T : Txt P w K mg base vN vS) {f : Addr} {cdv : Value} {A : Around} {outer : List Env} {s : Shared} {H : Hp} {E : XK} (hr : Room 42 (A.deeper (envOfC "law" (defScope s_law) s.heap.objs.size f cdv))) : ∃ t, PS (cxOf CX0 P w K mg base n_law "law" (defScope s_law) f cdv A outer s H E) (lapS 0) t ∧ ∀ (Fz : MS) {u : Tin} {m : Int} (ok : TOk m u) (hm : m ≤ 1000000), ∀ {x0 x2 x4 x5 x6 x7 x8 x9 x10 x11 x12 x13 x14 x15 x16 x17 x18 x19 x20 x21 x22 x23 x24 : Option Slot}, Ex ⟨K, 0, Fz⟩ t [x0, some (.own (tdt u)), x2, none, x4, x5, x6, x7, x8, x9, x10, x11, x12, x13, x14, x15, x16, x17, x18, x19, x20, x21, x22, x23, x24] (.nx [x0, some (.own (tdt (takeF u 8).2)), x2, some (.val (.int (sizeF u))), x4, x5, x6, x7, x8, x9, x10, x11, x12, x13, x14, x15, x16, x17, x18, x19, x20, x21, x22, x23, x24]) := by
  refine ⟨_, (ps_set (i := 3) sc_law.nd rfl (Or.inr rfl) (pe_cl (c__law_size T) hr (by decide) (by rfl) pass0 (pa_cons (pv 1) pa_nil))), ?_⟩
  intro Fz u m ok hm
  intros
  exact x_set (p := false) (e_callI ⟨_, rfl⟩ a_nil rfl (S__law_size.mk ok hm)) (ltb rfl)
def stk3s (u : Tin) (n : Int) : List (List Pt) × Tin := mapF (fun b (_ : Nat) => stk3 b n) u (List.range 3)
theorem lap1 (T : Txt P w K mg base vN vS) {f : Addr} {cdv : Value} {A : Around} {outer : List Env} {s : Shared} {H : Hp} {E : XK} (hr : Room 42 (A.deeper (envOfC "law" (defScope s_law) s.heap.objs.size f cdv))) : ∃ t, PS (cxOf CX0 P w K mg base n_law "law" (defScope s_law) f cdv A outer s H E) (lapS 1) t ∧ ∀ (Fz : MS) {u : Tin} {m n : Int} (ok : TOk m u) (hm : m ≤ 750000) (h0 : 0 < n) (h1 : n < 2 ^ 40), ∀ {x0 x2 x5 x6 x7 x8 x9 x10 x11 x12 x13 x14 x15 x16 x17 x18 x19 x20 x21 x22 x24 : Option Slot}, Ex ⟨K, 0, Fz⟩ t [x0, some (.own (tdt u)), x2, some (.val (.int n)), none, x5, x6, x7, x8, x9, x10, x11, x12, x13, x14, x15, x16, x17, x18, x19, x20, x21, x22, none, x24] (.nx [x0, some (.own (tdt (stk3s u (2 * n)).2)), x2, some (.val (.int n)), some (.val (.lst ((stk3s u (2 * n)).1.map encC))), x5, x6, x7, x8, x9, x10, x11, x12, x13, x14, x15, x16, x17, x18, x19, x20, x21, x22, none, x24]) := by
  refine ⟨_, (ps_setLc (i := 4) (own := [("k", 23)]) rfl sc_law.nd rfl rfl (sw_true rfl rfl rfl (by decide +kernel)) (pi_range1 (by rfl) T.z_range (pa_cons pe_int pa_nil)) (blkOk_by (N := n_law) (sc := defScope s_law) (by decide +kernel)) (by exact fun _ _ _ _ _ => (pg_name (i := 23) sc_law.nd rfl (Or.inl rfl))) (by exact fun _ _ _ _ _ => pts_nil) (by exact fun _ _ _ _ _ => (pe_cl (c__law_stock T) hr (by decide) (by rfl) pass0 (pa_cons (pv 1) (pa_cons (pe_cl (c__law_take T) hr (by decide) (by rfl) pass0 (pa_cons (pv 1) (pa_cons pe_int pa_nil))) (pa_cons (pe_op op_mulA pe_int (pv 3)) pa_nil)))))), ?_⟩
  intro Fz u m n ok hm h0 h1 x0 x2 x5 x6 x7 x8 x9 x10 x11 x12 x13 x14 x15 x16 x17 x18 x19 x20 x21 x22 x24
  refine x_set (p := false) (e_frz (e_lc (ts := [23]) (i_rngN (n := 3) (a_cons e_int a_nil) rfl (by decide) (by decide)) (lcx_fold (f := fun k : Nat => Dt.int (k : Int)) (h := encC) (env := fun b : Tin => [x0, some (.own (tdt b)), x2, some (.val (.int n)), none, x5, x6, x7, x8, x9, x10, x11, x12, x13, x14, x15, x16, x17, x18, x19, x20, x21, x22, none, x24]) (g := fun b (_ : Nat) => stk3 b (2 * n)) (J := fun xs b => TOk (m + 31 * (3 - xs.length)) b ∧ xs.length ≤ 3) (xs := List.range 3) (b := u) ?_ ⟨ok.mono (by simp), by decide⟩) (fun j hj => hj) (lt_sz (by decide)))) (ltb rfl)
  rintro x xs b ⟨hb, hl⟩
  rw [List.length_cons] at hb hl
  have o1 := take_ok (n := 6) hb
  have b1 := take_bd (s := b) (n := 6) (by decide)
  have e1 : (((takeF b 6).1.toNat : Nat) : Int) = (takeF b 6).1 := Int.toNat_of_nonneg b1.1
  have hk := stk3_ok (s := b) (n := 2 * n) hb (by omega) (by omega)
  have m2 : IntMulOk 2 n := mulL (by decide) (by decide)
  have hs : S__law_stock (tdt (takeF b 6).2) [.int (takeF b 6).1, .int (2 * n)] (.val (encC (stk3 b (2 * n)).1)) (tdt (stk3 b (2 * n)).2) := by
    rw [← e1]
    exact S__law_stock.mk o1 (by omega) (by omega) (by omega)
  refine ⟨⟨_, ([x0, some (.own (tdt (stk3 b (2 * n)).2)), x2, some (.val (.int n)), none, x5, x6, x7, x8, x9, x10, x11, x12, x13, x14, x15, x16, x17, x18, x19, x20, x21, x22, none, x24] : En).set 23 (some (.val (.int (x : Int)))), g_name (ltb rfl), ?_, rfl, fun j hj => ?_, fun j hj => ?_⟩, hk.2.2.2.mono (by omega), by omega⟩
  · exact e_callI ⟨_, rfl⟩ (a_cons (e_callI ⟨_, rfl⟩ (a_cons e_int a_nil) rfl (S__law_take.mk hb (by omega) (by decide))) (a_cons (e_op e_int (e_var rfl) (by walk_at "o*")) a_nil)) rfl hs
  · rw [List.mem_singleton.mp hj]
    exact ⟨rfl, fun ds z => nomatch z⟩
  · exact (List.getElem?_set_ne (Ne.symm (fun z => hj (by rw [z]; exact List.mem_singleton_self _)))).symm
theorem lap2 (T : Txt P w K mg base vN vS) {f : Addr} {cdv : Value} {A : Around} {outer : List Env} {s : Shared} {H : Hp} {E : XK} (hr : Room 42 (A.deeper (envOfC "law" (defScope s_law) s.heap.objs.size f cdv))) : ∃ t, PS (cxOf CX0 P w K mg base n_law "law" (defScope s_law) f cdv A outer s H E) (lapS 2) t ∧ ∀ (Fz : MS) {c0 c1 c2 : List Pt} (hc : ∀ c ∈ [c0, c1, c2], (∀ b ∈ c, Nn b) ∧ CSz 43 c ∧ c.length ≤ 5), ∀ {x0 x1 x2 x3 x5 x6 x7 x8 x9 x10 x11 x12 x13 x14 x15 x16 x17 x18 x19 x20 x21 x22 x23 : Option Slot}, Ex ⟨K, 0, Fz⟩ t [x0, x1, x2, x3, some (.val (.lst [encC c0, encC c1, encC c2])), x5, x6, x7, x8, x9, x10, x11, x12, x13, x14, x15, x16, x17, x18, x19, x20, x21, x22, x23, none] (.nx [x0, x1, x2, x3, some (.val (.lst [encC c0, encC c1, encC c2])), some (.val (encC (curveOf c0))), some (.val (encC (curveOf c1))), some (.val (encC (curveOf c2))), x8, x9, x10, x11, x12, x13, x14, x15, x16, x17, x18, x19, x20, x21, x22, x23, none]) := by
  refine ⟨_, (ps_asg (pe_lc (own := [("own", 24)]) rfl sc_law.nd (pi_anyK K rfl (pv 4)) (blkOk_by (N := n_law) (sc := defScope s_law) (by decide +kernel)) (by exact fun _ _ _ _ _ => (pg_name (i := 24) sc_law.nd rfl (Or.inl rfl))) (by exact fun _ _ _ _ _ => pts_nil) (by exact fun _ _ _ _ _ => (pe_cl (c_curve T) hr (by decide) (by rfl) pass0 (pa_cons (pv 24) pa_nil)))) (pg_lstK (n := 3) K rfl rfl (pgs_cons (pg_name (i := 5) sc_law.nd rfl (Or.inl rfl)) (pgs_cons (pg_name (i := 6) sc_law.nd rfl (Or.inl rfl)) (pgs_cons (pg_name (i := 7) sc_law.nd rfl (Or.inl rfl)) pgs_nil))))), ?_⟩
  intro Fz c0 c1 c2 hc
  intros
  exact x_asg (p := true) (e_frz (e_lc1 (f := encC) (h := fun c => encC (curveOf c)) (xs := [c0, c1, c2]) (i_anyL (e_var rfl)) (fun c hcm => e_call (a_cons (e_var rfl) a_nil) (s_crv (hc c hcm).1 (hc c hcm).2.1 (hc c hcm).2.2)) (lt_sz (ltb rfl)))) (g_lst (gs_cons (g_name (ltb rfl)) (gs_cons (g_name (ltb rfl)) (gs_cons (g_name (ltb rfl)) gs_nil))))
theorem lap3 (T : Txt P w K mg base vN vS) {f : Addr} {cdv : Value} {A : Around} {outer : List Env} {s : Shared} {H : Hp} {E : XK} (hr : Room 42 (A.deeper (envOfC "law" (defScope s_law) s.heap.objs.size f cdv))) : ∃ t, PS (cxOf CX0 P w K mg base n_law "law" (defScope s_law) f cdv A outer s H E) (lapS 3) t ∧ ∀ (Fz : MS) {u : Tin} {n : Int} {d1 d2 d3 d4 : Rat × Tin} (t1 : S__law_amount (tdt u) [.int (2 * n)] (.val (enc d1.1)) (tdt d1.2)) (t2 : S__law_amount (tdt d1.2) [.int (2 * n)] (.val (enc d2.1)) (tdt d2.2))
    (t3 : S__law_amount (tdt d2.2) [.int 4] (.val (enc d3.1)) (tdt d3.2)) (t4 : S__law_amount (tdt d3.2) [.int (4 * n)] (.val (enc d4.1)) (tdt d4.2)), ∀ {x0 x2 x4 x5 x6 x7 x12 x13 x14 x15 x16 x17 x18 x19 x20 x21 x22 x23 x24 : Option Slot}, Ex ⟨K, 0, Fz⟩ t [x0, some (.own (tdt u)), x2, some (.val (.int n)), x4, x5, x6, x7, none, none, none, none, x12, x13, x14, x15, x16, x17, x18, x19, x20, x21, x22, x23, x24] (.nx [x0, some (.own (tdt d4.2)), x2, some (.val (.int n)), x4, x5, x6, x7, some (.val (enc d1.1)), some (.val (enc d2.1)), some (.val (enc d3.1)), some (.val (enc d4.1)), x12, x13, x14, x15, x16, x17, x18, x19, x20, x21, x22, x23, x24]) := by
  refine ⟨_, (ps_asg (pe_tup (pa_cons (pe_cl (c__law_amount T) hr (by decide) (by rfl) pass0 (pa_cons (pv 1) (pa_cons (pe_op op_mulA pe_int (pv 3)) pa_nil))) (pa_cons (pe_cl (c__law_amount T) hr (by decide) (by rfl) pass0 (pa_cons (pv 1) (pa_cons (pe_op op_mulA pe_int (pv 3)) pa_nil))) (pa_cons (pe_cl (c__law_amount T) hr (by decide) (by rfl) pass0 (pa_cons (pv 1) (pa_cons pe_int pa_nil))) (pa_cons (pe_cl (c__law_amount T) hr (by decide) (by rfl) pass0 (pa_cons (pv 1) (pa_cons (pe_op op_mulA pe_int (pv 3)) pa_nil))) pa_nil))))) (pg_tupK (n := 4) K rfl rfl (pgs_cons (pg_name (i := 8) sc_law.nd rfl (Or.inl rfl)) (pgs_cons (pg_name (i := 9) sc_law.nd rfl (Or.inl rfl)) (pgs_cons (pg_name (i := 10) sc_law.nd rfl (Or.inl rfl)) (pgs_cons (pg_name (i := 11) sc_law.nd rfl (Or.inl rfl)) pgs_nil)))))), ?_⟩
  intro Fz u n d1 d2 d3 d4 t1 t2 t3 t4
  intros
  have m2 : IntMulOk 2 n := mulL (by decide) (by decide)
  have m4 : IntMulOk 4 n := mulL (by decide) (by decide)
  exact x_asg (p := false) (e_tup (a_cons (e_callI ⟨_, rfl⟩ (a_cons (e_op e_int (e_var rfl) (o_orL (o_mul m2))) a_nil) rfl t1)
    (a_cons (e_callI ⟨_, rfl⟩ (a_cons (e_op e_int (e_var rfl) (o_orL (o_mul m2))) a_nil) rfl t2)
    (a_cons (e_callI ⟨_, rfl⟩ (a_cons e_int a_nil) rfl t3)
    (a_cons (e_callI ⟨_, rfl⟩ (a_cons (e_op e_int (e_var rfl) (o_orL (o_mul m4))) a_nil) rfl t4) a_nil)))))
    (g_tup (gs_cons (g_name (ltb rfl)) (gs_cons (g_name (ltb rfl)) (gs_cons (g_name (ltb rfl)) (gs_cons (g_name (ltb rfl)) gs_nil)))))
end
end B
/-! text KLwB -/
set_option Elab.async false
set_option linter.all false
set_option maxRecDepth 100000
set_option autoImplicit false
namespace B
open PySem PySem.Spec PyProof.Rows L2
local macro_rules | `(tactic| walk_at "o+") => `(tactic| first | exact o_orL o_I0 | (exact o_orR (o_orL (o_cat (by assumption)))) | (exact o_orR (o_orR (o_catA (by assumption)))))
local macro_rules | `(tactic| walk_at "o*") => `(tactic| exact o_orL (o_mul (by walk_at "mul")))
local macro_rules | `(tactic| walk_at "mul") => `(tactic| first | assumption | exact mul_nd (by assumption) (by assumption) | exact mul_dd (by assumption) (by assumption) | exact mul_nn (by assumption) (by assumption) | exact mul_dn (by assumption) (by assumption))
local macro_rules | `(tactic| walk_at "nz") => `(tactic| assumption)
local macro_rules | `(tactic| walk_at "nzd") => `(tactic| exact den2_ne _ _)
local macro_rules | `(tactic| walk_at "ix") => `(tactic| first | exact o_ixT' rfl | exact o_ixL' rfl | exact o_ixT' (by assumption) | exact o_ixL' (by assumption))
local macro_rules | `(tactic| walk_at "o=") => `(tactic| first | exact o_orL o_eqI | exact o_orL o_neI | exact o_orL o_eqB | exact o_orL o_neB | exact o_orR (o_eqD (by assumption) (by assumption)) | exact o_orR (o_neD (by assumption) (by assumption)) | exact o_orR (o_eqD rfl rfl) | exact o_orR (o_neD rfl rfl))
local macro_rules | `(tactic| walk_at "b_gcd") => `(tactic| exact n_gcd)
local macro_rules | `(tactic| walk_at "b_len") => `(tactic| first | exact n_lenT | exact n_lenL)
local macro_rules | `(tactic| walk_at "b_tuple") => `(tactic| first | exact n_tupleL | exact n_tupleT)
local macro_rules | `(tactic| walk_at "b_isinstance") => `(tactic| exact n_isi rfl rfl)
local macro_rules | `(tactic| walk_at "b_all") => `(tactic| exact n_all)
local macro_rules | `(tactic| walk_at "b_lcm") => `(tactic| exact n_lcm (by assumption))
local macro_rules | `(tactic| walk_at "b_sorted") => `(tactic| exact n_sortedP)
local macro_rules | `(tactic| walk_at "sp") => `(tactic| (constructor <;> first | assumption | rfl | walk_at "nzd"))
section
variable {P : Program} {w : World} {K : PySem.W.Frag} {mg : Str → Option Value} {base : Heap} {vN vS : V}
local macro_rules | `(tactic| walk_at "sp") => `(tactic| assumption)
/-! together, sunned -/
theorem lap4 (T : Txt P w K mg base vN vS) {f : Addr} {cdv : Value} {A : Around} {outer : List Env} {s : Shared} {H : Hp} {E : XK} (hr : Room 42 (A.deeper (envOfC "law" (defScope s_law) s.heap.objs.size f cdv))) : ∃ t, PS (cxOf CX0 P w K mg base n_law "law" (defScope s_law) f cdv A outer s H E) (lapS 4) t ∧ ∀ (Fz : MS) {a b c : List Pt} {sun light cost water : Rat} (L : LapOk a b c sun light cost water), ∀ {x0 x1 x2 x3 x4 x7 x8 x9 x10 x11 x12 x13 x14 x15 x16 x17 x18 x19 x20 x21 x22 x23 x24 : Option Slot}, Ex ⟨K, 0, Fz⟩ t [x0, x1, x2, x3, x4, some (.val (encC a)), some (.val (encC b)), x7, x8, x9, x10, x11, x12, x13, x14, x15, x16, x17, x18, x19, x20, x21, x22, x23, x24] (.nx [x0, x1, x2, x3, x4, some (.val (encC a)), some (.val (encC b)), x7, x8, x9, x10, x11, some (.val (encC (tog a b))), x13, x14, x15, x16, x17, x18, x19, x20, x21, x22, x23, x24]) := by
  refine ⟨_, (ps_set (i := 12) sc_law.nd rfl (Or.inl rfl) (pe_cl (c_together T) hr (by decide) (by rfl) pass0 (pa_cons (pv 5) (pa_cons (pv 6) pa_nil)))), ?_⟩
  intro Fz a b c sun light cost water L
  intros
  have t1 := s_tog 256 L.qa L.qb
  exact y_set (e_call (a_cons (e_var rfl) (a_cons (e_var rfl) a_nil)) (by walk_at "sp"))
theorem lap5 (T : Txt P w K mg base vN vS) {f : Addr} {cdv : Value} {A : Around} {outer : List Env} {s : Shared} {H : Hp} {E : XK} (hr : Room 42 (A.deeper (envOfC "law" (defScope s_law) s.heap.objs.size f cdv))) : ∃ t, PS (cxOf CX0 P w K mg base n_law "law" (defScope s_law) f cdv A outer s H E) (lapS 5) t ∧ ∀ (Fz : MS) {a b c : List Pt} {sun light cost water : Rat} (L : LapOk a b c sun light cost water), ∀ {x0 x1 x2 x3 x4 x10 x11 x13 x14 x15 x16 x17 x18 x19 x20 x21 x22 x23 x24 : Option Slot}, Ex ⟨K, 0, Fz⟩ t [x0, x1, x2, x3, x4, some (.val (encC a)), some (.val (encC b)), some (.val (encC c)), some (.val (enc sun)), some (.val (enc light)), x10, x11, some (.val (encC (tog a b))), x13, x14, x15, x16, x17, x18, x19, x20, x21, x22, x23, x24] (.nx [x0, x1, x2, x3, x4, some (.val (encC a)), some (.val (encC b)), some (.val (encC c)), some (.val (enc sun)), some (.val (enc light)), x10, x11, some (.val (encC (tog a b))), some (.val (.lst [encC (tog a b), encC (tog (tog a b) c), encC (shf (shf a sun) light), encC (tog a (curveOf [])), encC (shf a 0), encC (curveOf (steps (tog a b)))])), x14, x15, x16, x17, x18, x19, x20, x21, x22, x23, x24]) := by
  refine ⟨_, (ps_set (i := 13) sc_law.nd rfl (Or.inl rfl) (pe_lst (pa_cons (pv 12) (pa_cons (pe_cl (c_together T) hr (by decide) (by rfl) pass0 (pa_cons (pv 12) (pa_cons (pv 7) pa_nil))) (pa_cons (pe_cl (c_sunned T) hr (by decide) (by rfl) pass0 (pa_cons (pe_cl (c_sunned T) hr (by decide) (by rfl) pass0 (pa_cons (pv 5) (pa_cons (pv 8) pa_nil))) (pa_cons (pv 9) pa_nil))) (pa_cons (pe_cl (c_together T) hr (by decide) (by rfl) pass0 (pa_cons (pv 5) (pa_cons (pe_cl (c_curve T) hr (by decide) (by rfl) pass0 (pa_cons (pe_tup pa_nil) pa_nil)) pa_nil))) (pa_cons (pe_cl (c_sunned T) hr (by decide) (by rfl) pass0 (pa_cons (pv 5) (pa_cons (pe_tup (pa_cons pe_int (pa_cons pe_int pa_nil))) pa_nil))) (pa_cons (pe_cl (c_curve T) hr (by decide) (by rfl) pass0 (pa_cons (pe_cl (c_stock_of T) hr (by decide) (by rfl) pass0 (pa_cons (pv 12) pa_nil)) pa_nil)) pa_nil)))))))), ?_⟩
  intro Fz a b c sun light cost water L
  intros
  have q0 : Q 1 1 (curveOf []) := q_curve (k := 0) (n := 0) (fun b hb => nomatch hb) (fun b hb => nomatch hb) (Nat.le_refl _)
  have t1 := s_tog 6200 L.both L.qc
  have t2 := s_shf L.qa L.s1 L.n1
  have t3 := s_shf L.sh L.s2 L.n2
  have t4 : S_curve [.tup []] (.val (encC (curveOf []))) := s_crv (a := []) (k := 0) (n := 0) (fun b hb => nomatch hb) (fun b hb => nomatch hb) (Nat.le_refl _)
  have t5 := s_tog 256 L.qa q0
  have t6 : S_sunned [encC a, .tup [.int 0, .int 1]] (.val (encC (shf a 0))) := s_shf (x := 0) (l := 1) L.qa (sz_zero (by decide)) Rat.le_refl
  have t7 := s_stk L.both
  have t8 := s_crv (a := steps (tog a b)) (k := 2 * 6200 + 1) (n := 13) (steps_nn L.both.cv) (steps_sz L.both.sz) (Nat.le_trans (steps_len _) L.both.len)
  exact y_set (e_frz (e_lst (a_cons (e_var rfl) (a_cons (e_call (a_cons (e_var rfl) (a_cons (e_var rfl) a_nil)) (by walk_at "sp")) (a_cons (e_call (a_cons (e_call (a_cons (e_var rfl) (a_cons (e_var rfl) a_nil)) (by walk_at "sp")) (a_cons (e_var rfl) a_nil)) (by walk_at "sp")) (a_cons (e_call (a_cons (e_var rfl) (a_cons (e_call (a_cons (e_tup a_nil) a_nil) (by walk_at "sp")) a_nil)) (by walk_at "sp")) (a_cons (e_call (a_cons (e_var rfl) (a_cons (e_tup (a_cons (e_int) (a_cons (e_int) a_nil))) a_nil)) (by walk_at "sp")) (a_cons (e_call (a_cons (e_call (a_cons (e_var rfl) a_nil) (by walk_at "sp")) a_nil) (by walk_at "sp")) a_nil))))))))
theorem lap6 (T : Txt P w K mg base vN vS) {f : Addr} {cdv : Value} {A : Around} {outer : List Env} {s : Shared} {H : Hp} {E : XK} (hr : Room 42 (A.deeper (envOfC "law" (defScope s_law) s.heap.objs.size f cdv))) : ∃ t, PS (cxOf CX0 P w K mg base n_law "law" (defScope s_law) f cdv A outer s H E) (lapS 6) t ∧ ∀ (Fz : MS) {d : List Dt} {c0 c1 : List Pt} {d2 : Dt} (hl : d.length ≤ 100) (h0 : (∀ b ∈ c0, Nn b) ∧ CSz 43 c0 ∧ c0.length ≤ 5) (h1 : (∀ b ∈ c1, Nn b) ∧ CSz 43 c1 ∧ c1.length ≤ 5), ∀ {x0 x1 x2 x3 x5 x6 x7 x8 x9 x10 x11 x12 x14 x15 x16 x17 x18 x19 x20 x21 x22 x23 x24 : Option Slot}, Ex ⟨K, 0, Fz⟩ t [x0, x1, x2, x3, some (.val (.lst [encC c0, encC c1, d2])), x5, x6, x7, x8, x9, x10, x11, x12, some (.val (.lst d)), x14, x15, x16, x17, x18, x19, x20, x21, x22, x23, x24] (.nx [x0, x1, x2, x3, some (.val (.lst [encC c0, encC c1, d2])), x5, x6, x7, x8, x9, x10, x11, x12, some (.val (.lst (d ++ [encC (curveOf (c0 ++ c1))]))), x14, x15, x16, x17, x18, x19, x20, x21, x22, x23, x24]) := by
  refine ⟨_, (ps_set (i := 13) sc_law.nd rfl (Or.inl rfl) (pe_op (op_addK K rfl) (pv 13) (pe_lst (pa_cons (pe_cl (c_curve T) hr (by decide) (by rfl) pass0 (pa_cons (pe_op (op_addK K rfl) (pe_ix (ix_sK K rfl) (pv 4) pe_int (fun _ _ => rfl)) (pe_ix (ix_sK K rfl) (pv 4) pe_int (fun _ _ => rfl))) pa_nil)) pa_nil)))), ?_⟩
  intro Fz d c0 c1 d2 hl h0 h1
  intros
  have z1 : (c0.map encB).length + (c1.map encB).length ≤ sizeLine := by
    rw [List.length_map, List.length_map]
    exact Nat.le_trans (show _ ≤ 1000 by have := h0.2.2; have := h1.2.2; omega) (by decide)
  have z2 : d.length + [encC (curveOf (c0 ++ c1))].length ≤ sizeLine := Nat.le_trans (show _ ≤ 1000 by rw [List.length_singleton]; omega) (by decide)
  have t1 : S_curve [.tup (c0.map encB ++ c1.map encB)] (.val (encC (curveOf (c0 ++ c1)))) := by
    rw [← List.map_append]
    refine s_crv (a := c0 ++ c1) (k := 43) (n := 10) (fun b hb => ?_) (fun b hb => ?_) (by rw [List.length_append]; have := h0.2.2; have := h1.2.2; omega)
    · rcases List.mem_append.mp hb with z | z
      · exact h0.1 b z
      · exact h1.1 b z
    · rcases List.mem_append.mp hb with z | z
      · exact h0.2.1 b z
      · exact h1.2.1 b z
  refine y_set (e_frz (e_op (e_var rfl) (e_frz (e_lst (a_cons (e_call (a_cons (e_op (e_op (e_var rfl) e_int (o_ixL' rfl)) (e_op (e_var rfl) e_int (o_ixL' rfl)) (o_orR (o_orR (o_catA z1)))) a_nil) t1) a_nil))) (o_orR (o_orL (o_cat z2)))))
theorem lap7 (T : Txt P w K mg base vN vS) {f : Addr} {cdv : Value} {A : Around} {outer : List Env} {s : Shared} {H : Hp} {E : XK} (hr : Room 42 (A.deeper (envOfC "law" (defScope s_law) s.heap.objs.size f cdv))) : ∃ t, PS (cxOf CX0 P w K mg base n_law "law" (defScope s_law) f cdv A outer s H E) (lapS 7) t ∧ ∀ (Fz : MS) {a b c : List Pt} {sun light cost water : Rat} (L : LapOk a b c sun light cost water), ∀ {x0 x1 x2 x3 x4 x10 x11 x13 x14 x15 x16 x17 x18 x19 x20 x21 x22 x23 x24 : Option Slot}, Ex ⟨K, 0, Fz⟩ t [x0, x1, x2, x3, x4, some (.val (encC a)), some (.val (encC b)), some (.val (encC c)), some (.val (enc sun)), some (.val (enc light)), x10, x11, some (.val (encC (tog a b))), x13, x14, x15, x16, x17, x18, x19, x20, x21, x22, x23, x24] (.nx [x0, x1, x2, x3, x4, some (.val (encC a)), some (.val (encC b)), some (.val (encC c)), some (.val (enc sun)), some (.val (enc light)), x10, x11, some (.val (encC (tog a b))), x13, some (.val (.lst [encC (tog b a), encC (tog a (tog b c)), encC (shf a (sun + light)), encC a, encC a, encC (tog a b), encC (tog a b)])), x15, x16, x17, x18, x19, x20, x21, x22, x23, x24]) := by
  refine ⟨_, (ps_set (i := 14) sc_law.nd rfl (Or.inl rfl) (pe_lst (pa_cons (pe_cl (c_together T) hr (by decide) (by rfl) pass0 (pa_cons (pv 6) (pa_cons (pv 5) pa_nil))) (pa_cons (pe_cl (c_together T) hr (by decide) (by rfl) pass0 (pa_cons (pv 5) (pa_cons (pe_cl (c_together T) hr (by decide) (by rfl) pass0 (pa_cons (pv 6) (pa_cons (pv 7) pa_nil))) pa_nil))) (pa_cons (pe_cl (c_sunned T) hr (by decide) (by rfl) pass0 (pa_cons (pv 5) (pa_cons (pe_cl (c__law_plus T) hr (by decide) (by rfl) pass0 (pa_cons (pv 8) (pa_cons (pv 9) pa_nil))) pa_nil))) (pa_cons (pv 5) (pa_cons (pv 5) (pa_cons (pv 12) (pa_cons (pv 12) pa_nil))))))))), ?_⟩
  intro Fz a b c sun light cost water L
  intros
  have qbc : Q 6200 13 (tog b c) := (q_tog L.qb L.qc).up (by decide) (by decide)
  have t1 := s_tog 256 L.qb L.qa
  have t2 := s_tog 256 L.qb L.qc
  have t3 := s_tog 6200 L.qa qbc
  have t4 : S__law_plus [enc sun, enc light] (.val (enc (sun + light))) := S__law_plus.mk (L.s1.sm (by decide)) (L.s2.sm (by decide))
  have t5 := s_shf L.qa L.s12 L.n12
  exact y_set (e_frz (e_lst (a_cons (e_call (a_cons (e_var rfl) (a_cons (e_var rfl) a_nil)) (by walk_at "sp")) (a_cons (e_call (a_cons (e_var rfl) (a_cons (e_call (a_cons (e_var rfl) (a_cons (e_var rfl) a_nil)) (by walk_at "sp")) a_nil)) (by walk_at "sp")) (a_cons (e_call (a_cons (e_var rfl) (a_cons (e_call (a_cons (e_var rfl) (a_cons (e_var rfl) a_nil)) (by walk_at "sp")) a_nil)) (by walk_at "sp")) (a_cons (e_var rfl) (a_cons (e_var rfl) (a_cons (e_var rfl) (a_cons (e_var rfl) a_nil)))))))))
theorem lap8 (T : Txt P w K mg base vN vS) {f : Addr} {cdv : Value} {A : Around} {outer : List Env} {s : Shared} {H : Hp} {E : XK} (hr : Room 42 (A.deeper (envOfC "law" (defScope s_law) s.heap.objs.size f cdv))) : ∃ t, PS (cxOf CX0 P w K mg base n_law "law" (defScope s_law) f cdv A outer s H E) (lapS 8) t ∧ ∀ (Fz : MS) {d : Dt} (hd : sdat 7 d = true), ∀ {x0 x1 x2 x3 x4 x5 x6 x7 x8 x9 x10 x11 x12 x15 x16 x17 x18 x19 x20 x21 x22 x23 x24 : Option Slot}, Ex ⟨K, 0, Fz⟩ t [x0, x1, x2, x3, x4, x5, x6, x7, x8, x9, x10, x11, x12, some (.val (d)), some (.val (d)), x15, x16, x17, x18, x19, x20, x21, x22, x23, x24] (.nx [x0, x1, x2, x3, x4, x5, x6, x7, x8, x9, x10, x11, x12, some (.val (d)), some (.val (d)), x15, x16, x17, x18, x19, x20, x21, x22, x23, x24]) := by
  refine ⟨_, (ps_if (pt_not (pt_val (pe_cl (c__law_same T) hr (by decide) (by rfl) pass0 (pa_cons (pv 13) (pa_cons (pv 14) pa_nil))))) (pss_one (ps_ret pe_bl)) pss_nil), ?_⟩
  intro Fz d hd
  intros
  exact y_ifF (t_cast (t_not (t_b (e_call (a_cons (e_var rfl) (a_cons (e_var rfl) a_nil)) (S__law_same.mk hd)))) rfl) x_next
end
end B
/-! text KLwC -/
set_option Elab.async false
set_option linter.all false
set_option maxRecDepth 100000
set_option autoImplicit false
namespace B
open PySem PySem.Spec PyProof.Rows L2
local macro_rules | `(tactic| walk_at "o+") => `(tactic| first | exact o_orL o_I0 | (exact o_orR (o_orL (o_cat (by assumption)))) | (exact o_orR (o_orR (o_catA (by assumption)))))
local macro_rules | `(tactic| walk_at "o*") => `(tactic| exact o_orL (o_mul (by walk_at "mul")))
local macro_rules | `(tactic| walk_at "mul") => `(tactic| first | assumption | exact mul_nd (by assumption) (by assumption) | exact mul_dd (by assumption) (by assumption) | exact mul_nn (by assumption) (by assumption) | exact mul_dn (by assumption) (by assumption))
local macro_rules | `(tactic| walk_at "nz") => `(tactic| assumption)
local macro_rules | `(tactic| walk_at "nzd") => `(tactic| exact den2_ne _ _)
local macro_rules | `(tactic| walk_at "ix") => `(tactic| first | exact o_ixT' rfl | exact o_ixL' rfl | exact o_ixT' (by assumption) | exact o_ixL' (by assumption))
local macro_rules | `(tactic| walk_at "o=") => `(tactic| first | exact o_orL o_eqI | exact o_orL o_neI | exact o_orL o_eqB | exact o_orL o_neB | exact o_orR (o_eqD (by assumption) (by assumption)) | exact o_orR (o_neD (by assumption) (by assumption)) | exact o_orR (o_eqD rfl rfl) | exact o_orR (o_neD rfl rfl))
local macro_rules | `(tactic| walk_at "b_gcd") => `(tactic| exact n_gcd)
local macro_rules | `(tactic| walk_at "b_len") => `(tactic| first | exact n_lenT | exact n_lenL)
local macro_rules | `(tactic| walk_at "b_tuple") => `(tactic| first | exact n_tupleL | exact n_tupleT)
local macro_rules | `(tactic| walk_at "b_isinstance") => `(tactic| exact n_isi rfl rfl)
local macro_rules | `(tactic| walk_at "b_all") => `(tactic| exact n_all)
local macro_rules | `(tactic| walk_at "b_lcm") => `(tactic| exact n_lcm (by assumption))
local macro_rules | `(tactic| walk_at "b_sorted") => `(tactic| exact n_sortedP)
local macro_rules | `(tactic| walk_at "sp") => `(tactic| (constructor <;> first | assumption | rfl | walk_at "nzd"))
section
variable {P : Program} {w : World} {K : PySem.W.Frag} {mg : Str → Option Value} {base : Heap} {vN vS : V}
local macro_rules | `(tactic| walk_at "sp") => `(tactic| assumption)
/-! lesser, greater -/
theorem lap9 (T : Txt P w K mg base vN vS) {f : Addr} {cdv : Value} {A : Around} {outer : List Env} {s : Shared} {H : Hp} {E : XK} (hr : Room 42 (A.deeper (envOfC "law" (defScope s_law) s.heap.objs.size f cdv))) : ∃ t, PS (cxOf CX0 P w K mg base n_law "law" (defScope s_law) f cdv A outer s H E) (lapS 9) t ∧ ∀ (Fz : MS) {a b c : List Pt} {sun light cost water : Rat} (L : LapOk a b c sun light cost water), ∀ {x0 x1 x2 x3 x4 x7 x8 x9 x10 x11 x12 x13 x14 x15 x16 x17 x18 x19 x20 x21 x22 x23 x24 : Option Slot}, Ex ⟨K, 0, Fz⟩ t [x0, x1, x2, x3, x4, some (.val (encC a)), some (.val (encC b)), x7, x8, x9, x10, x11, x12, x13, x14, x15, x16, x17, x18, x19, x20, x21, x22, x23, x24] (.nx [x0, x1, x2, x3, x4, some (.val (encC a)), some (.val (encC b)), x7, x8, x9, x10, x11, x12, x13, x14, some (.val (encC (lower a b))), some (.val (encC (upper a b))), x17, x18, x19, x20, x21, x22, x23, x24]) := by
  refine ⟨_, (ps_par (i := 15) (j := 16) rfl sc_law.nd rfl rfl (by decide) rfl rfl (pa_cons (pe_cl (c_lesser T) hr (by decide) (by rfl) pass0 (pa_cons (pv 5) (pa_cons (pv 6) pa_nil))) (pa_cons (pe_cl (c_greater T) hr (by decide) (by rfl) pass0 (pa_cons (pv 5) (pa_cons (pv 6) pa_nil))) pa_nil)) (by rfl)), ?_⟩
  intro Fz a b c sun light cost water L
  intros
  have t1 := s_low 256 L.qa L.qb
  have t2 := s_upp 256 L.qa L.qb
  exact y_par (a_cons (e_call (a_cons (e_var rfl) (a_cons (e_var rfl) a_nil)) (by walk_at "sp")) (a_cons (e_call (a_cons (e_var rfl) (a_cons (e_var rfl) a_nil)) (by walk_at "sp")) a_nil))
theorem lap10 (T : Txt P w K mg base vN vS) {f : Addr} {cdv : Value} {A : Around} {outer : List Env} {s : Shared} {H : Hp} {E : XK} (hr : Room 42 (A.deeper (envOfC "law" (defScope s_law) s.heap.objs.size f cdv))) : ∃ t, PS (cxOf CX0 P w K mg base n_law "law" (defScope s_law) f cdv A outer s H E) (lapS 10) t ∧ ∀ (Fz : MS) {a b c : List Pt} {sun light cost water : Rat} (L : LapOk a b c sun light cost water), ∀ {x0 x1 x2 x3 x4 x8 x9 x10 x11 x12 x13 x14 x15 x16 x17 x18 x19 x20 x21 x22 x23 x24 : Option Slot}, Ex ⟨K, 0, Fz⟩ t [x0, x1, x2, x3, x4, some (.val (encC a)), some (.val (encC b)), some (.val (encC c)), x8, x9, x10, x11, x12, x13, x14, x15, x16, x17, x18, x19, x20, x21, x22, x23, x24] (.nx [x0, x1, x2, x3, x4, some (.val (encC a)), some (.val (encC b)), some (.val (encC c)), x8, x9, x10, x11, x12, some (.val (.lst [encC (lower b a), encC (upper b a), encC (lower a a), encC (upper a a), encC (lower (lower a b) c), encC (upper (upper a b) c)])), x14, x15, x16, x17, x18, x19, x20, x21, x22, x23, x24]) := by
  refine ⟨_, (ps_set (i := 13) sc_law.nd rfl (Or.inl rfl) (pe_lst (pa_cons (pe_cl (c_lesser T) hr (by decide) (by rfl) pass0 (pa_cons (pv 6) (pa_cons (pv 5) pa_nil))) (pa_cons (pe_cl (c_greater T) hr (by decide) (by rfl) pass0 (pa_cons (pv 6) (pa_cons (pv 5) pa_nil))) (pa_cons (pe_cl (c_lesser T) hr (by decide) (by rfl) pass0 (pa_cons (pv 5) (pa_cons (pv 5) pa_nil))) (pa_cons (pe_cl (c_greater T) hr (by decide) (by rfl) pass0 (pa_cons (pv 5) (pa_cons (pv 5) pa_nil))) (pa_cons (pe_cl (c_lesser T) hr (by decide) (by rfl) pass0 (pa_cons (pe_cl (c_lesser T) hr (by decide) (by rfl) pass0 (pa_cons (pv 5) (pa_cons (pv 6) pa_nil))) (pa_cons (pv 7) pa_nil))) (pa_cons (pe_cl (c_greater T) hr (by decide) (by rfl) pass0 (pa_cons (pe_cl (c_greater T) hr (by decide) (by rfl) pass0 (pa_cons (pv 5) (pa_cons (pv 6) pa_nil))) (pa_cons (pv 7) pa_nil))) pa_nil)))))))), ?_⟩
  intro Fz a b c sun light cost water L
  intros
  have t1 := s_low 256 L.qb L.qa
  have t2 := s_upp 256 L.qb L.qa
  have t3 := s_low 256 L.qa L.qa
  have t4 := s_upp 256 L.qa L.qa
  have t5 := s_low 256 L.qa L.qb
  have t6 := s_upp 256 L.qa L.qb
  have t7 := s_low 13400 L.low L.qc
  have t8 := s_upp 1800 L.high L.qc
  exact y_set (e_frz (e_lst (a_cons (e_call (a_cons (e_var rfl) (a_cons (e_var rfl) a_nil)) (by walk_at "sp")) (a_cons (e_call (a_cons (e_var rfl) (a_cons (e_var rfl) a_nil)) (by walk_at "sp")) (a_cons (e_call (a_cons (e_var rfl) (a_cons (e_var rfl) a_nil)) (by walk_at "sp")) (a_cons (e_call (a_cons (e_var rfl) (a_cons (e_var rfl) a_nil)) (by walk_at "sp")) (a_cons (e_call (a_cons (e_call (a_cons (e_var rfl) (a_cons (e_var rfl) a_nil)) (by walk_at "sp")) (a_cons (e_var rfl) a_nil)) (by walk_at "sp")) (a_cons (e_call (a_cons (e_call (a_cons (e_var rfl) (a_cons (e_var rfl) a_nil)) (by walk_at "sp")) (a_cons (e_var rfl) a_nil)) (by walk_at "sp")) a_nil))))))))
theorem lap11 (T : Txt P w K mg base vN vS) {f : Addr} {cdv : Value} {A : Around} {outer : List Env} {s : Shared} {H : Hp} {E : XK} (hr : Room 42 (A.deeper (envOfC "law" (defScope s_law) s.heap.objs.size f cdv))) : ∃ t, PS (cxOf CX0 P w K mg base n_law "law" (defScope s_law) f cdv A outer s H E) (lapS 11) t ∧ ∀ (Fz : MS) {a b c : List Pt} {sun light cost water : Rat} (L : LapOk a b c sun light cost water) {d : List Dt} (hl : d.length ≤ 100), ∀ {x0 x1 x2 x3 x4 x6 x7 x8 x9 x10 x11 x12 x14 x17 x18 x19 x20 x21 x22 x23 x24 : Option Slot}, Ex ⟨K, 0, Fz⟩ t [x0, x1, x2, x3, x4, some (.val (encC a)), x6, x7, x8, x9, x10, x11, x12, some (.val (.lst d)), x14, some (.val (encC (lower a b))), some (.val (encC (upper a b))), x17, x18, x19, x20, x21, x22, x23, x24] (.nx [x0, x1, x2, x3, x4, some (.val (encC a)), x6, x7, x8, x9, x10, x11, x12, some (.val (.lst (d ++ [encC (lower a (upper a b)), encC (upper a (lower a b))]))), x14, some (.val (encC (lower a b))), some (.val (encC (upper a b))), x17, x18, x19, x20, x21, x22, x23, x24]) := by
  refine ⟨_, (ps_set (i := 13) sc_law.nd rfl (Or.inl rfl) (pe_op (op_addK K rfl) (pv 13) (pe_lst (pa_cons (pe_cl (c_lesser T) hr (by decide) (by rfl) pass0 (pa_cons (pv 5) (pa_cons (pv 16) pa_nil))) (pa_cons (pe_cl (c_greater T) hr (by decide) (by rfl) pass0 (pa_cons (pv 5) (pa_cons (pv 15) pa_nil))) pa_nil))))), ?_⟩
  intro Fz a b c sun light cost water L d hl
  intros
  have t1 := s_low 1800 L.qa L.high
  have t2 := s_upp 13400 L.qa L.low
  have z2 : d.length + [encC (lower a (upper a b)), encC (upper a (lower a b))].length ≤ sizeLine := Nat.le_trans (show _ ≤ 1000 by rw [List.length_cons, List.length_singleton]; omega) (by decide)
  exact y_set (e_frz (e_op (e_var rfl) (e_frz (e_lst (a_cons (e_call (a_cons (e_var rfl) (a_cons (e_var rfl) a_nil)) (by walk_at "sp")) (a_cons (e_call (a_cons (e_var rfl) (a_cons (e_var rfl) a_nil)) (by walk_at "sp")) a_nil)))) (o_orR (o_orL (o_cat z2)))))
theorem lap12 (T : Txt P w K mg base vN vS) {f : Addr} {cdv : Value} {A : Around} {outer : List Env} {s : Shared} {H : Hp} {E : XK} (hr : Room 42 (A.deeper (envOfC "law" (defScope s_law) s.heap.objs.size f cdv))) : ∃ t, PS (cxOf CX0 P w K mg base n_law "law" (defScope s_law) f cdv A outer s H E) (lapS 12) t ∧ ∀ (Fz : MS) {a b c : List Pt} {sun light cost water : Rat} (L : LapOk a b c sun light cost water), ∀ {x0 x1 x2 x3 x4 x8 x9 x10 x11 x12 x14 x17 x18 x19 x20 x21 x22 x23 x24 : Option Slot}, Ex ⟨K, 0, Fz⟩ t [x0, x1, x2, x3, x4, some (.val (encC a)), some (.val (encC b)), some (.val (encC c)), x8, x9, x10, x11, x12, some (.val (.lst [encC (lower a b), encC (upper a b), encC a, encC a, encC (lower a (lower b c)), encC (upper a (upper b c)), encC a, encC a])), x14, some (.val (encC (lower a b))), some (.val (encC (upper a b))), x17, x18, x19, x20, x21, x22, x23, x24] (.nx [x0, x1, x2, x3, x4, some (.val (encC a)), some (.val (encC b)), some (.val (encC c)), x8, x9, x10, x11, x12, some (.val (.lst [encC (lower a b), encC (upper a b), encC a, encC a, encC (lower a (lower b c)), encC (upper a (upper b c)), encC a, encC a])), x14, some (.val (encC (lower a b))), some (.val (encC (upper a b))), x17, x18, x19, x20, x21, x22, x23, x24]) := by
  refine ⟨_, (ps_if (pt_not (pt_val (pe_cl (c__law_same T) hr (by decide) (by rfl) pass0 (pa_cons (pv 13) (pa_cons (pe_lst (pa_cons (pv 15) (pa_cons (pv 16) (pa_cons (pv 5) (pa_cons (pv 5) (pa_cons (pe_cl (c_lesser T) hr (by decide) (by rfl) pass0 (pa_cons (pv 5) (pa_cons (pe_cl (c_lesser T) hr (by decide) (by rfl) pass0 (pa_cons (pv 6) (pa_cons (pv 7) pa_nil))) pa_nil))) (pa_cons (pe_cl (c_greater T) hr (by decide) (by rfl) pass0 (pa_cons (pv 5) (pa_cons (pe_cl (c_greater T) hr (by decide) (by rfl) pass0 (pa_cons (pv 6) (pa_cons (pv 7) pa_nil))) pa_nil))) (pa_cons (pv 5) (pa_cons (pv 5) pa_nil))))))))) pa_nil))))) (pss_one (ps_ret pe_bl)) pss_nil), ?_⟩
  intro Fz a b c sun light cost water L
  intros
  have ql : Q 13400 23 (lower b c) := (q_low L.qb L.qc (by decide) (by decide)).up (by decide) (by decide)
  have qu : Q 1800 12 (upper b c) := (q_upp L.qb L.qc (by decide)).up (by decide) (by decide)
  have qll := q_low (k := 13400) (L.qa.up (by decide) (Nat.le_refl _)) ql (by decide) (by decide)
  have quu := q_upp (k := 1800) (L.qa.up (by decide) (Nat.le_refl _)) qu (by decide)
  have t1 := s_low 256 L.qb L.qc
  have t2 := s_upp 256 L.qb L.qc
  have t3 := s_low 13400 L.qa ql
  have t4 := s_upp 1800 L.qa qu
  have hd : sdat 7 (.lst [encC (lower a b), encC (upper a b), encC a, encC a, encC (lower a (lower b c)), encC (upper a (upper b c)), encC a, encC a]) = true := by
    simp only [sdat, sdats, L.low.sd, L.high.sd, L.qa.sd, qll.sd, quu.sd]
    rfl
  have t5 : S__law_same 8 [_, _] (.val (.bl true)) := S__law_same.mk hd
  exact y_ifF (t_cast (t_not (t_b (e_call (a_cons (e_var rfl) (a_cons (e_frz (e_lst (a_cons (e_var rfl) (a_cons (e_var rfl) (a_cons (e_var rfl) (a_cons (e_var rfl) (a_cons (e_call (a_cons (e_var rfl) (a_cons (e_call (a_cons (e_var rfl) (a_cons (e_var rfl) a_nil)) (by walk_at "sp")) a_nil)) (by walk_at "sp")) (a_cons (e_call (a_cons (e_var rfl) (a_cons (e_call (a_cons (e_var rfl) (a_cons (e_var rfl) a_nil)) (by walk_at "sp")) a_nil)) (by walk_at "sp")) (a_cons (e_var rfl) (a_cons (e_var rfl) a_nil)))))))))) a_nil)) (by walk_at "sp")))) rfl) x_next
theorem lap13 (T : Txt P w K mg base vN vS) {f : Addr} {cdv : Value} {A : Around} {outer : List Env} {s : Shared} {H : Hp} {E : XK} (hr : Room 42 (A.deeper (envOfC "law" (defScope s_law) s.heap.objs.size f cdv))) : ∃ t, PS (cxOf CX0 P w K mg base n_law "law" (defScope s_law) f cdv A outer s H E) (lapS 13) t ∧ ∀ (Fz : MS) {a b c : List Pt} {sun light cost water : Rat} (L : LapOk a b c sun light cost water), ∀ {x0 x1 x2 x3 x4 x5 x6 x7 x8 x9 x10 x11 x13 x14 x17 x18 x19 x20 x21 x22 x23 : Option Slot}, Ex ⟨K, 0, Fz⟩ t [x0, x1, x2, x3, x4, x5, x6, x7, x8, x9, x10, x11, some (.val (encC (tog a b))), x13, x14, some (.val (encC (lower a b))), some (.val (encC (upper a b))), x17, x18, x19, x20, x21, x22, x23, none] (.nx [x0, x1, x2, x3, x4, x5, x6, x7, x8, x9, x10, x11, some (.val (encC (tog a b))), x13, x14, some (.val (encC (lower a b))), some (.val (encC (upper a b))), x17, x18, x19, x20, x21, x22, x23, none]) := by
  refine ⟨_, (ps_if (pt_cmpR (op_neK K rfl (hu_of hr)) (pe_lc (own := [("own", 24)]) rfl sc_law.nd (pi_anyK K rfl (pe_tup (pa_cons (pv 15) (pa_cons (pv 16) (pa_cons (pv 12) pa_nil))))) (blkOk_by (N := n_law) (sc := defScope s_law) (by decide +kernel)) (by exact fun _ _ _ _ _ => (pg_name (i := 24) sc_law.nd rfl (Or.inl rfl))) (by exact fun _ _ _ _ _ => (pts_one (pt_not (pt_val (pe_cl (c_is_curve T) hr (by decide) (by rfl) pass0 (pa_cons (pv 24) pa_nil)))))) (by exact fun _ _ _ _ _ => pe_int)) (pe_lst pa_nil) (nomark _)) (pss_one (ps_ret pe_bl)) pss_nil), ?_⟩
  intro Fz a b c sun light cost water L
  intros
  have hq : ∀ c ∈ [lower a b, upper a b, tog a b], S_is_curve [encC c] (.val (.bl true)) := fun c hc => by
    rcases List.mem_cons.mp hc with z | hc
    · rw [z]; exact s_isc L.low
    · rcases List.mem_cons.mp hc with z | hc
      · rw [z]; exact s_isc L.high
      · rw [List.mem_singleton.mp hc]; exact s_isc L.both
  refine y_ifF (t_cast (t_test (e_op (e_frz (e_cast (r' := .fr []) (e_lcf1 (f := encC) (h := fun _ => .int 1) (c := fun _ => false) (xs := [lower a b, upper a b, tog a b]) (i_anyT (e_tup (a_cons (e_var rfl) (a_cons (e_var rfl) (a_cons (e_var rfl) a_nil))))) (fun c hc => t_cast (t_not (t_b (e_call (a_cons (e_var rfl) a_nil) (hq c hc)))) rfl) (fun c hc z => nomatch z) (lt_sz (ltb rfl))) rfl)) (e_frz (e_lst a_nil)) (o_orR (o_neD rfl rfl)))) (by rw [deq_lst, deqs_nil]; rfl)) x_next
end
end B
/-! text KLwD -/
set_option Elab.async false
set_option linter.all false
set_option maxRecDepth 100000
set_option autoImplicit false
namespace B
open PySem PySem.Spec PyProof.Rows L2
local macro_rules | `(tactic| walk_at "o+") => `(tactic| first | exact o_orL o_I0 | (exact o_orR (o_orL (o_cat (by assumption)))) | (exact o_orR (o_orR (o_catA (by assumption)))))
local macro_rules | `(tactic| walk_at "o*") => `(tactic| exact o_orL (o_mul (by walk_at "mul")))
local macro_rules | `(tactic| walk_at "mul") => `(tactic| first | assumption | exact mul_nd (by assumption) (by assumption) | exact mul_dd (by assumption) (by assumption) | exact mul_nn (by assumption) (by assumption) | exact mul_dn (by assumption) (by assumption))
local macro_rules | `(tactic| walk_at "nz") => `(tactic| assumption)
local macro_rules | `(tactic| walk_at "nzd") => `(tactic| exact den2_ne _ _)
local macro_rules | `(tactic| walk_at "ix") => `(tactic| first | exact o_ixT' rfl | exact o_ixL' rfl | exact o_ixT' (by assumption) | exact o_ixL' (by assumption))
local macro_rules | `(tactic| walk_at "o=") => `(tactic| first | exact o_orL o_eqI | exact o_orL o_neI | exact o_orL o_eqB | exact o_orL o_neB | exact o_orR (o_eqD (by assumption) (by assumption)) | exact o_orR (o_neD (by assumption) (by assumption)) | exact o_orR (o_eqD rfl rfl) | exact o_orR (o_neD rfl rfl))
local macro_rules | `(tactic| walk_at "b_gcd") => `(tactic| exact n_gcd)
local macro_rules | `(tactic| walk_at "b_len") => `(tactic| first | exact n_lenT | exact n_lenL)
local macro_rules | `(tactic| walk_at "b_tuple") => `(tactic| first | exact n_tupleL | exact n_tupleT)
local macro_rules | `(tactic| walk_at "b_isinstance") => `(tactic| exact n_isi rfl rfl)
local macro_rules | `(tactic| walk_at "b_all") => `(tactic| exact n_all)
local macro_rules | `(tactic| walk_at "b_lcm") => `(tactic| exact n_lcm (by assumption))
local macro_rules | `(tactic| walk_at "b_sorted") => `(tactic| exact n_sortedP)
local macro_rules | `(tactic| walk_at "sp") => `(tactic| (constructor <;> first | assumption | rfl | walk_at "nzd"))
section
variable {P : Program} {w : World} {K : PySem.W.Frag} {mg : Str → Option Value} {base : Heap} {vN vS : V}
local macro_rules | `(tactic| walk_at "sp") => `(tactic| assumption)
/-! who lies below whom -/
def prsL (a b : List Pt) (sun : Rat) : List (List Pt × List Pt) := [(a, lower a b), (b, lower a b), (upper a b, a), (upper a b, b), (tog a b, a), (tog a b, upper a b), (shf a sun, a)]
def prsA (a b : List Pt) (sun light : Rat) : List (List Pt × List Pt) := prsL a b sun ++ [(shf (tog a b) (sun + light), tog (shf a sun) (shf b light))]
def encP (p : List Pt × List Pt) : Dt := .tup [encC p.1, encC p.2]
theorem lap14 (T : Txt P w K mg base vN vS) {f : Addr} {cdv : Value} {A : Around} {outer : List Env} {s : Shared} {H : Hp} {E : XK} (hr : Room 42 (A.deeper (envOfC "law" (defScope s_law) s.heap.objs.size f cdv))) : ∃ t, PS (cxOf CX0 P w K mg base n_law "law" (defScope s_law) f cdv A outer s H E) (lapS 14) t ∧ ∀ (Fz : MS) {a b c : List Pt} {sun light cost water : Rat} (L : LapOk a b c sun light cost water), ∀ {x0 x1 x2 x3 x4 x7 x9 x10 x11 x13 x14 x18 x19 x20 x21 x22 x23 x24 : Option Slot}, Ex ⟨K, 0, Fz⟩ t [x0, x1, x2, x3, x4, some (.val (encC a)), some (.val (encC b)), x7, some (.val (enc sun)), x9, x10, x11, some (.val (encC (tog a b))), x13, x14, some (.val (encC (lower a b))), some (.val (encC (upper a b))), none, x18, x19, x20, x21, x22, x23, x24] (.nx [x0, x1, x2, x3, x4, some (.val (encC a)), some (.val (encC b)), x7, some (.val (enc sun)), x9, x10, x11, some (.val (encC (tog a b))), x13, x14, some (.val (encC (lower a b))), some (.val (encC (upper a b))), some (.own ((prsL a b sun).map encP)), x18, x19, x20, x21, x22, x23, x24]) := by
  refine ⟨_, (ps_set (i := 17) sc_law.nd rfl (Or.inl rfl) (pe_lst (pa_cons (pe_tup (pa_cons (pv 5) (pa_cons (pv 15) pa_nil))) (pa_cons (pe_tup (pa_cons (pv 6) (pa_cons (pv 15) pa_nil))) (pa_cons (pe_tup (pa_cons (pv 16) (pa_cons (pv 5) pa_nil))) (pa_cons (pe_tup (pa_cons (pv 16) (pa_cons (pv 6) pa_nil))) (pa_cons (pe_tup (pa_cons (pv 12) (pa_cons (pv 5) pa_nil))) (pa_cons (pe_tup (pa_cons (pv 12) (pa_cons (pv 16) pa_nil))) (pa_cons (pe_tup (pa_cons (pe_cl (c_sunned T) hr (by decide) (by rfl) pass0 (pa_cons (pv 5) (pa_cons (pv 8) pa_nil))) (pa_cons (pv 5) pa_nil))) pa_nil))))))))), ?_⟩
  intro Fz a b c sun light cost water L
  intros
  have t1 := s_shf L.qa L.s1 L.n1
  exact x_setON (p := true) (e_lst (a_cons (e_tup (a_cons (e_var rfl) (a_cons (e_var rfl) a_nil))) (a_cons (e_tup (a_cons (e_var rfl) (a_cons (e_var rfl) a_nil))) (a_cons (e_tup (a_cons (e_var rfl) (a_cons (e_var rfl) a_nil))) (a_cons (e_tup (a_cons (e_var rfl) (a_cons (e_var rfl) a_nil))) (a_cons (e_tup (a_cons (e_var rfl) (a_cons (e_var rfl) a_nil))) (a_cons (e_tup (a_cons (e_var rfl) (a_cons (e_var rfl) a_nil))) (a_cons (e_tup (a_cons (e_call (a_cons (e_var rfl) (a_cons (e_var rfl) a_nil)) (by walk_at "sp")) (a_cons (e_var rfl) a_nil))) a_nil)))))))) (ltb rfl) (Nat.zero_le _) rfl
theorem lap15 (T : Txt P w K mg base vN vS) {f : Addr} {cdv : Value} {A : Around} {outer : List Env} {s : Shared} {H : Hp} {E : XK} (hr : Room 42 (A.deeper (envOfC "law" (defScope s_law) s.heap.objs.size f cdv))) : ∃ t, PS (cxOf CX0 P w K mg base n_law "law" (defScope s_law) f cdv A outer s H E) (lapS 15) t ∧ ∀ (Fz : MS) {a b c : List Pt} {sun light cost water : Rat} (L : LapOk a b c sun light cost water), ∀ {x0 x1 x2 x3 x4 x7 x10 x11 x13 x14 x15 x16 x18 x19 x20 x21 x22 x23 x24 : Option Slot}, Ex ⟨K, 0, Fz⟩ t [x0, x1, x2, x3, x4, some (.val (encC a)), some (.val (encC b)), x7, some (.val (enc sun)), some (.val (enc light)), x10, x11, some (.val (encC (tog a b))), x13, x14, x15, x16, some (.own ((prsL a b sun).map encP)), x18, x19, x20, x21, x22, x23, x24] (.nx [x0, x1, x2, x3, x4, some (.val (encC a)), some (.val (encC b)), x7, some (.val (enc sun)), some (.val (enc light)), x10, x11, some (.val (encC (tog a b))), x13, x14, x15, x16, some (.val (.lst ((prsA a b sun light).map encP))), x18, x19, x20, x21, x22, x23, x24]) := by
  refine ⟨_, (ps_expr (pe_bm PySem.F.plainAttrs_list PySem.F.slot_list_append PySem.F.type_list_append mt_append (pv 17) (pa_cons (pe_tup (pa_cons (pe_cl (c_sunned T) hr (by decide) (by rfl) pass0 (pa_cons (pv 12) (pa_cons (pe_cl (c__law_plus T) hr (by decide) (by rfl) pass0 (pa_cons (pv 8) (pa_cons (pv 9) pa_nil))) pa_nil))) (pa_cons (pe_cl (c_together T) hr (by decide) (by rfl) pass0 (pa_cons (pe_cl (c_sunned T) hr (by decide) (by rfl) pass0 (pa_cons (pv 5) (pa_cons (pv 8) pa_nil))) (pa_cons (pe_cl (c_sunned T) hr (by decide) (by rfl) pass0 (pa_cons (pv 6) (pa_cons (pv 9) pa_nil))) pa_nil))) pa_nil))) pa_nil))), ?_⟩
  intro Fz a b c sun light cost water L
  intros
  have qs : Q 1700 7 (shf b light) := (q_shf L.qb L.s2 L.n2).up (by decide) (by decide)
  have t1 := s_shf L.qa L.s1 L.n1
  have t2 := s_shf L.qb L.s2 L.n2
  have t3 := s_tog 1700 L.sh qs
  have t4 : S__law_plus [enc sun, enc light] (.val (enc (sun + light))) := S__law_plus.mk (L.s1.sm (by decide)) (L.s2.sm (by decide))
  have t5 := s_shf L.both L.s12 L.n12
  refine x_cast (x_freeze (i := 17) (x_append (p := true) (e_tup (a_cons (e_call (a_cons (e_var rfl) (a_cons (e_call (a_cons (e_var rfl) (a_cons (e_var rfl) a_nil)) (by walk_at "sp")) a_nil)) (by walk_at "sp")) (a_cons (e_call (a_cons (e_call (a_cons (e_var rfl) (a_cons (e_var rfl) a_nil)) (by walk_at "sp")) (a_cons (e_call (a_cons (e_var rfl) (a_cons (e_var rfl) a_nil)) (by walk_at "sp")) a_nil)) (by walk_at "sp")) a_nil))) ⟨_, rfl⟩ rfl (ltb rfl)) rfl) rfl
theorem lap16 (T : Txt P w K mg base vN vS) {f : Addr} {cdv : Value} {A : Around} {outer : List Env} {s : Shared} {H : Hp} {E : XK} (hr : Room 42 (A.deeper (envOfC "law" (defScope s_law) s.heap.objs.size f cdv))) : ∃ t, PS (cxOf CX0 P w K mg base n_law "law" (defScope s_law) f cdv A outer s H E) (lapS 16) t ∧ ∀ (Fz : MS) {ps : List (List Pt × List Pt)} (hp : ∀ p ∈ ps, Q 50000 23 p.1 ∧ Q 50000 23 p.2 ∧ (fstU p.1 p.2).isNone = true), ∀ {x0 x1 x2 x3 x4 x5 x6 x7 x8 x9 x10 x11 x12 x13 x14 x15 x16 x20 x21 x22 x23 x24 : Option Slot}, Ex ⟨K, 0, Fz⟩ t [x0, x1, x2, x3, x4, x5, x6, x7, x8, x9, x10, x11, x12, x13, x14, x15, x16, some (.val (.lst (ps.map encP))), none, none, x20, x21, x22, x23, x24] (.nx [x0, x1, x2, x3, x4, x5, x6, x7, x8, x9, x10, x11, x12, x13, x14, x15, x16, some (.val (.lst (ps.map encP))), none, none, x20, x21, x22, x23, x24]) := by
  refine ⟨_, (ps_for PassesOwn.leaving rfl (pi_anyK K rfl (pv 17)) (pg_tupK (n := 2) K rfl rfl (pgs_cons (pg_name (i := 18) sc_law.nd rfl (Or.inl rfl)) (pgs_cons (pg_name (i := 19) sc_law.nd rfl (Or.inl rfl)) pgs_nil))) (pss_one (ps_if (PW.pt (pw_or (pt_not (pt_val (pe_cl (c_is_nowhere_below T) hr (by decide) (by rfl) pass0 (pa_cons (pv 18) (pa_cons (pv 19) pa_nil))))) (pw_or1 (pt_cmpR op_notN (pe_cl (c_first_below T) hr (by decide) (by rfl) pass0 (pa_cons (pv 18) (pa_cons (pv 19) pa_nil))) pe_non (nomark _))))) (pss_one (ps_ret pe_bl)) pss_nil))), ?_⟩
  intro Fz ps hp
  intros
  refine y_for (i_anyL (e_var rfl)) (forx_unit fun p hpm => .inl ?_)
  obtain ⟨q1, q2, e⟩ := hp p hpm
  have t1 := s_nb 50000 q1 q2
  have t2 := s_fb 50000 q1 q2
  refine turn (ρ1 := _) (g_tup (gs_cons (g_name (ltb rfl)) (gs_cons (g_name (ltb rfl)) gs_nil))) (x_forget (i := 18) (x_forget (i := 19) (y_ifF (t_cast (t_or' (t_not (t_b (e_call (a_cons (e_var rfl) (a_cons (e_var rfl) a_nil)) (by walk_at "sp")))) (fun h => (t_test (e_op (e_call (a_cons (e_var rfl) (a_cons (e_var rfl) a_nil)) (by walk_at "sp")) (e_non) o_notN)))) ?_) x_next) rfl) rfl)
  rw [isNon_encO, e]
  rfl
theorem lap17 (T : Txt P w K mg base vN vS) {f : Addr} {cdv : Value} {A : Around} {outer : List Env} {s : Shared} {H : Hp} {E : XK} (hr : Room 42 (A.deeper (envOfC "law" (defScope s_law) s.heap.objs.size f cdv))) : ∃ t, PS (cxOf CX0 P w K mg base n_law "law" (defScope s_law) f cdv A outer s H E) (lapS 17) t ∧ ∀ (Fz : MS) {a b c : List Pt} {sun light cost water : Rat} (L : LapOk a b c sun light cost water), ∀ {x0 x1 x2 x3 x4 x8 x9 x10 x11 x12 x13 x14 x16 x17 x18 x19 x20 x21 x22 x23 x24 : Option Slot}, Ex ⟨K, 0, Fz⟩ t [x0, x1, x2, x3, x4, some (.val (encC a)), some (.val (encC b)), some (.val (encC c)), x8, x9, x10, x11, x12, x13, x14, some (.val (encC (lower a b))), x16, x17, x18, x19, x20, x21, x22, x23, x24] (.nx [x0, x1, x2, x3, x4, some (.val (encC a)), some (.val (encC b)), some (.val (encC c)), x8, x9, x10, x11, x12, x13, x14, some (.val (encC (lower a b))), x16, x17, x18, x19, x20, x21, x22, x23, x24]) := by
  refine ⟨_, (ps_if (PW.pt (pw_and (pt_val (pe_cl (c_is_nowhere_below T) hr (by decide) (by rfl) pass0 (pa_cons (pv 5) (pa_cons (pv 7) pa_nil)))) (pw_and (pt_val (pe_cl (c_is_nowhere_below T) hr (by decide) (by rfl) pass0 (pa_cons (pv 6) (pa_cons (pv 7) pa_nil)))) (pw_and1 (pt_not (pt_val (pe_cl (c_is_nowhere_below T) hr (by decide) (by rfl) pass0 (pa_cons (pv 15) (pa_cons (pv 7) pa_nil))))))))) (pss_one (ps_ret pe_bl)) pss_nil), ?_⟩
  intro Fz a b c sun light cost water L
  intros
  have t1 := s_nb 256 L.qa L.qc
  have t2 := s_nb 256 L.qb L.qc
  have t3 := s_nb 13400 L.low L.qc
  refine y_ifF (t_cast (t_and' (t_b (e_call (a_cons (e_var rfl) (a_cons (e_var rfl) a_nil)) (by walk_at "sp"))) (fun h => (t_and' (t_b (e_call (a_cons (e_var rfl) (a_cons (e_var rfl) a_nil)) (by walk_at "sp"))) (fun h => (t_not (t_b (e_call (a_cons (e_var rfl) (a_cons (e_var rfl) a_nil)) (by walk_at "sp")))))))) ?_) x_next
  have h := nb_low3 L.qa.cv L.qb.cv L.qc.cv
  generalize (fstU a c).isNone = u at h
  generalize (fstU b c).isNone = v at h
  generalize (fstU (lower a b) c).isNone = w at h
  cases u <;> cases v <;> cases w <;> first | rfl | (have := h rfl rfl; cases this)
theorem lap18 (T : Txt P w K mg base vN vS) {f : Addr} {cdv : Value} {A : Around} {outer : List Env} {s : Shared} {H : Hp} {E : XK} (hr : Room 42 (A.deeper (envOfC "law" (defScope s_law) s.heap.objs.size f cdv))) : ∃ t, PS (cxOf CX0 P w K mg base n_law "law" (defScope s_law) f cdv A outer s H E) (lapS 18) t ∧ ∀ (Fz : MS) {a b c : List Pt} {sun light cost water : Rat} (L : LapOk a b c sun light cost water), ∀ {x0 x1 x2 x3 x4 x8 x9 x10 x11 x12 x13 x14 x15 x17 x18 x19 x20 x21 x22 x23 x24 : Option Slot}, Ex ⟨K, 0, Fz⟩ t [x0, x1, x2, x3, x4, some (.val (encC a)), some (.val (encC b)), some (.val (encC c)), x8, x9, x10, x11, x12, x13, x14, x15, some (.val (encC (upper a b))), x17, x18, x19, x20, x21, x22, x23, x24] (.nx [x0, x1, x2, x3, x4, some (.val (encC a)), some (.val (encC b)), some (.val (encC c)), x8, x9, x10, x11, x12, x13, x14, x15, some (.val (encC (upper a b))), x17, x18, x19, x20, x21, x22, x23, x24]) := by
  refine ⟨_, (ps_if (PW.pt (pw_and (pt_val (pe_cl (c_is_nowhere_below T) hr (by decide) (by rfl) pass0 (pa_cons (pv 7) (pa_cons (pv 5) pa_nil)))) (pw_and (pt_val (pe_cl (c_is_nowhere_below T) hr (by decide) (by rfl) pass0 (pa_cons (pv 7) (pa_cons (pv 6) pa_nil)))) (pw_and1 (pt_not (pt_val (pe_cl (c_is_nowhere_below T) hr (by decide) (by rfl) pass0 (pa_cons (pv 7) (pa_cons (pv 16) pa_nil))))))))) (pss_one (ps_ret pe_bl)) pss_nil), ?_⟩
  intro Fz a b c sun light cost water L
  intros
  have t1 := s_nb 256 L.qc L.qa
  have t2 := s_nb 256 L.qc L.qb
  have t3 := s_nb 1800 L.qc L.high
  refine y_ifF (t_cast (t_and' (t_b (e_call (a_cons (e_var rfl) (a_cons (e_var rfl) a_nil)) (by walk_at "sp"))) (fun h => (t_and' (t_b (e_call (a_cons (e_var rfl) (a_cons (e_var rfl) a_nil)) (by walk_at "sp"))) (fun h => (t_not (t_b (e_call (a_cons (e_var rfl) (a_cons (e_var rfl) a_nil)) (by walk_at "sp")))))))) ?_) x_next
  have h := nb_upp3 L.qa.cv L.qb.cv L.qc.cv
  generalize (fstU c a).isNone = u at h
  generalize (fstU c b).isNone = v at h
  generalize (fstU c (upper a b)).isNone = w at h
  cases u <;> cases v <;> cases w <;> first | rfl | (have := h rfl rfl; cases this)
theorem bool_same {n : Nat} {x y : Bool} (h : x = true ↔ y = true) : S__law_same (n + 1) [.bl x, .bl y] (.val (.bl true)) := by
  have e : x = y := by
    cases x <;> cases y <;> simp_all
  rw [e]
  exact S__law_same.mk (by unfold sdat; rfl)
theorem lap19 (T : Txt P w K mg base vN vS) {f : Addr} {cdv : Value} {A : Around} {outer : List Env} {s : Shared} {H : Hp} {E : XK} (hr : Room 42 (A.deeper (envOfC "law" (defScope s_law) s.heap.objs.size f cdv))) : ∃ t, PS (cxOf CX0 P w K mg base n_law "law" (defScope s_law) f cdv A outer s H E) (lapS 19) t ∧ ∀ (Fz : MS) {a b c : List Pt} {sun light cost water : Rat} (L : LapOk a b c sun light cost water), ∀ {x0 x1 x2 x3 x4 x7 x8 x9 x10 x11 x12 x13 x14 x15 x16 x17 x18 x19 x20 x21 x22 x23 x24 : Option Slot}, Ex ⟨K, 0, Fz⟩ t [x0, x1, x2, x3, x4, some (.val (encC a)), some (.val (encC b)), x7, x8, x9, x10, x11, x12, x13, x14, x15, x16, x17, x18, x19, x20, x21, x22, x23, x24] (.nx [x0, x1, x2, x3, x4, some (.val (encC a)), some (.val (encC b)), x7, x8, x9, x10, x11, x12, x13, x14, x15, x16, x17, x18, x19, x20, x21, x22, x23, x24]) := by
  refine ⟨_, (ps_if (PW.pt (pw_or (pt_not (pt_val (pe_cl (c__law_same T) hr (by decide) (by rfl) pass0 (pa_cons (pe_cl (c_is_nowhere_below T) hr (by decide) (by rfl) pass0 (pa_cons (pv 5) (pa_cons (pv 6) pa_nil))) (pa_cons (pe_cmpR (op_eqK K rfl (hu_of hr)) (pe_cl (c_lesser T) hr (by decide) (by rfl) pass0 (pa_cons (pv 5) (pa_cons (pv 6) pa_nil))) (pv 6) (nomark _)) pa_nil))))) (pw_or1 (pt_not (pt_val (pe_cl (c__law_same T) hr (by decide) (by rfl) pass0 (pa_cons (pe_cl (c_is_nowhere_below T) hr (by decide) (by rfl) pass0 (pa_cons (pv 5) (pa_cons (pv 6) pa_nil))) (pa_cons (pe_cmpR (op_eqK K rfl (hu_of hr)) (pe_cl (c_greater T) hr (by decide) (by rfl) pass0 (pa_cons (pv 5) (pa_cons (pv 6) pa_nil))) (pv 5) (nomark _)) pa_nil)))))))) (pss_one (ps_ret pe_bl)) pss_nil), ?_⟩
  intro Fz a b c sun light cost water L
  intros
  have t1 := s_nb 256 L.qa L.qb
  have t2 := s_low 256 L.qa L.qb
  have t3 := s_upp 256 L.qa L.qb
  have p1 : plain 60 (encC (lower a b)) = true := plain_encC
  have p2 : plain 60 (encC (upper a b)) = true := plain_encC
  have p3 : plain 60 (encC a) = true := plain_encC
  have p4 : plain 60 (encC b) = true := plain_encC
  have t4 : S__law_same 8 [.bl (fstU a b).isNone, .bl (deq (encC (lower a b)) (encC b))] (.val (.bl true)) := bool_same (by rw [deq_encC, decide_eq_true_iff]; exact nb_low L.qa.cv L.qb.cv)
  have t5 : S__law_same 8 [.bl (fstU a b).isNone, .bl (deq (encC (upper a b)) (encC a))] (.val (.bl true)) := bool_same (by rw [deq_encC, decide_eq_true_iff]; exact nb_upp L.qa.cv L.qb.cv)
  exact y_ifF (t_cast (t_or' (t_not (t_b (e_call (a_cons (e_call (a_cons (e_var rfl) (a_cons (e_var rfl) a_nil)) (by walk_at "sp")) (a_cons (e_op (e_call (a_cons (e_var rfl) (a_cons (e_var rfl) a_nil)) (by walk_at "sp")) (e_var rfl) (by walk_at "o=")) a_nil)) (by walk_at "sp")))) (fun h => (t_not (t_b (e_call (a_cons (e_call (a_cons (e_var rfl) (a_cons (e_var rfl) a_nil)) (by walk_at "sp")) (a_cons (e_op (e_call (a_cons (e_var rfl) (a_cons (e_var rfl) a_nil)) (by walk_at "sp")) (e_var rfl) (by walk_at "o=")) a_nil)) (by walk_at "sp")))))) rfl) x_next
end
end B
/-! text KLwE -/
set_option Elab.async false
set_option linter.all false
set_option maxRecDepth 100000
set_option autoImplicit false
namespace B
open PySem PySem.Spec PyProof.Rows L2
local macro_rules | `(tactic| walk_at "o+") => `(tactic| first | exact o_orL o_I0 | (exact o_orR (o_orL (o_cat (by assumption)))) | (exact o_orR (o_orR (o_catA (by assumption)))))
local macro_rules | `(tactic| walk_at "o*") => `(tactic| exact o_orL (o_mul (by walk_at "mul")))
local macro_rules | `(tactic| walk_at "mul") => `(tactic| first | assumption | exact mul_nd (by assumption) (by assumption) | exact mul_dd (by assumption) (by assumption) | exact mul_nn (by assumption) (by assumption) | exact mul_dn (by assumption) (by assumption))
local macro_rules | `(tactic| walk_at "nz") => `(tactic| assumption)
local macro_rules | `(tactic| walk_at "nzd") => `(tactic| exact den2_ne _ _)
local macro_rules | `(tactic| walk_at "ix") => `(tactic| first | exact o_ixT' rfl | exact o_ixL' rfl | exact o_ixT' (by assumption) | exact o_ixL' (by assumption))
local macro_rules | `(tactic| walk_at "o=") => `(tactic| first | exact o_orL o_eqI | exact o_orL o_neI | exact o_orL o_eqB | exact o_orL o_neB | exact o_orR (o_eqD (by assumption) (by assumption)) | exact o_orR (o_neD (by assumption) (by assumption)) | exact o_orR (o_eqD rfl rfl) | exact o_orR (o_neD rfl rfl))
local macro_rules | `(tactic| walk_at "b_gcd") => `(tactic| exact n_gcd)
local macro_rules | `(tactic| walk_at "b_len") => `(tactic| first | exact n_lenT | exact n_lenL)
local macro_rules | `(tactic| walk_at "b_tuple") => `(tactic| first | exact n_tupleL | exact n_tupleT)
local macro_rules | `(tactic| walk_at "b_isinstance") => `(tactic| exact n_isi rfl rfl)
local macro_rules | `(tactic| walk_at "b_all") => `(tactic| exact n_all)
local macro_rules | `(tactic| walk_at "b_lcm") => `(tactic| exact n_lcm (by assumption))
local macro_rules | `(tactic| walk_at "b_sorted") => `(tactic| exact n_sortedP)
local macro_rules | `(tactic| walk_at "sp") => `(tactic| (constructor <;> first | assumption | rfl | walk_at "nzd"))
section
variable {P : Program} {w : World} {K : PySem.W.Frag} {mg : Str → Option Value} {base : Heap} {vN vS : V}
local macro_rules | `(tactic| walk_at "sp") => `(tactic| assumption)
/-! balances over a cost -/
theorem sz_one : Sz 1 1 := ⟨show (1 : Rat).num.natAbs < 2 ^ 1 by decide, show (1 : Rat).den < 2 ^ 1 by decide⟩
theorem lap20 (T : Txt P w K mg base vN vS) {f : Addr} {cdv : Value} {A : Around} {outer : List Env} {s : Shared} {H : Hp} {E : XK} (hr : Room 42 (A.deeper (envOfC "law" (defScope s_law) s.heap.objs.size f cdv))) : ∃ t, PS (cxOf CX0 P w K mg base n_law "law" (defScope s_law) f cdv A outer s H E) (lapS 20) t ∧ ∀ (Fz : MS) {a b c c0 : List Pt} {d1 d2 : Dt} {sun light cost water : Rat} (L : LapOk a b c sun light cost water) (h0 : (∀ b ∈ c0, Nn b) ∧ CSz 43 c0 ∧ c0.length ≤ 5), ∀ {x0 x1 x2 x3 x5 x6 x7 x8 x9 x11 x13 x14 x15 x17 x18 x19 x20 x21 x22 x23 x24 : Option Slot}, Ex ⟨K, 0, Fz⟩ t [x0, x1, x2, x3, some (.val (.lst [encC c0, d1, d2])), x5, x6, x7, x8, x9, some (.val (enc cost)), x11, some (.val (encC (tog a b))), x13, x14, x15, some (.val (encC (upper a b))), x17, x18, x19, x20, x21, x22, x23, x24] (.nx [x0, x1, x2, x3, some (.val (.lst [encC c0, d1, d2])), x5, x6, x7, x8, x9, some (.val (enc cost)), x11, some (.val (encC (tog a b))), some (.val (.lst [enc (exc (tog a b) cost), enc (exc (upper a b) cost), enc (worths (1, cost) c0)])), x14, x15, some (.val (encC (upper a b))), x17, x18, x19, x20, x21, x22, x23, x24]) := by
  refine ⟨_, (ps_set (i := 13) sc_law.nd rfl (Or.inl rfl) (pe_lst (pa_cons (pe_cl (c_excess T) hr (by decide) (by rfl) pass0 (pa_cons (pv 12) (pa_cons (pv 10) pa_nil))) (pa_cons (pe_cl (c_excess T) hr (by decide) (by rfl) pass0 (pa_cons (pv 16) (pa_cons (pv 10) pa_nil))) (pa_cons (pe_cl (c_stock_worth T) hr (by decide) (by rfl) pass0 (pa_cons (pe_tup (pa_cons (pe_tup (pa_cons pe_int (pa_cons pe_int pa_nil))) (pa_cons (pv 10) pa_nil))) (pa_cons (pe_ix (ix_sK K rfl) (pv 4) pe_int (fun _ _ => rfl)) pa_nil))) pa_nil))))), ?_⟩
  intro Fz a b c c0 d1 d2 sun light cost water L h0
  intros
  have t1 := s_exc L.both L.s3 L.n3
  have t2 := s_exc L.high L.s3 L.n3
  have t3 : S_stock_worth [.tup [.tup [.int 1, .int 1], enc cost], encC c0] (.val (enc (worths (1, cost) c0))) := S_stock_worth.mk (l := (1, cost)) (k := 43) ⟨sz_one.mono (by decide), L.s3⟩ h0.2.1 ⟨show (0 : Rat) ≤ 1 by decide, L.n3⟩ h0.1 (by decide) (by have := h0.2.2; omega) (by have := h0.2.2; omega)
  exact y_set (e_frz (e_lst (a_cons (e_call (a_cons (e_var rfl) (a_cons (e_var rfl) a_nil)) (by walk_at "sp")) (a_cons (e_call (a_cons (e_var rfl) (a_cons (e_var rfl) a_nil)) (by walk_at "sp")) (a_cons (e_call (a_cons (e_tup (a_cons (e_tup (a_cons (e_int) (a_cons (e_int) a_nil))) (a_cons (e_var rfl) a_nil))) (a_cons (e_op (e_var rfl) (e_int) (by walk_at "ix")) a_nil)) (by walk_at "sp")) a_nil)))))
theorem lap21 (T : Txt P w K mg base vN vS) {f : Addr} {cdv : Value} {A : Around} {outer : List Env} {s : Shared} {H : Hp} {E : XK} (hr : Room 42 (A.deeper (envOfC "law" (defScope s_law) s.heap.objs.size f cdv))) : ∃ t, PS (cxOf CX0 P w K mg base n_law "law" (defScope s_law) f cdv A outer s H E) (lapS 21) t ∧ ∀ (Fz : MS) {a b c : List Pt} {sun light cost water : Rat} (L : LapOk a b c sun light cost water), ∀ {x0 x1 x2 x3 x4 x7 x8 x9 x11 x12 x14 x15 x16 x17 x18 x19 x20 x21 x22 x23 x24 : Option Slot}, Ex ⟨K, 0, Fz⟩ t [x0, x1, x2, x3, x4, some (.val (encC a)), some (.val (encC b)), x7, x8, x9, some (.val (enc cost)), x11, x12, some (.val (.lst [enc (exc a cost + exc b cost), enc (max (exc a cost) (exc b cost)), enc (exc a cost)])), x14, x15, x16, x17, x18, x19, x20, x21, x22, x23, x24] (.nx [x0, x1, x2, x3, x4, some (.val (encC a)), some (.val (encC b)), x7, x8, x9, some (.val (enc cost)), x11, x12, some (.val (.lst [enc (exc a cost + exc b cost), enc (max (exc a cost) (exc b cost)), enc (exc a cost)])), x14, x15, x16, x17, x18, x19, x20, x21, x22, x23, x24]) := by
  refine ⟨_, (ps_if (pt_not (pt_val (pe_cl (c__law_same T) hr (by decide) (by rfl) pass0 (pa_cons (pv 13) (pa_cons (pe_lst (pa_cons (pe_cl (c__law_plus T) hr (by decide) (by rfl) pass0 (pa_cons (pe_cl (c_excess T) hr (by decide) (by rfl) pass0 (pa_cons (pv 5) (pa_cons (pv 10) pa_nil))) (pa_cons (pe_cl (c_excess T) hr (by decide) (by rfl) pass0 (pa_cons (pv 6) (pa_cons (pv 10) pa_nil))) pa_nil))) (pa_cons (pe_cl (c__law_most T) hr (by decide) (by rfl) pass0 (pa_cons (pe_cl (c_excess T) hr (by decide) (by rfl) pass0 (pa_cons (pv 5) (pa_cons (pv 10) pa_nil))) (pa_cons (pe_cl (c_excess T) hr (by decide) (by rfl) pass0 (pa_cons (pv 6) (pa_cons (pv 10) pa_nil))) pa_nil))) (pa_cons (pe_cl (c_excess T) hr (by decide) (by rfl) pass0 (pa_cons (pv 5) (pa_cons (pv 10) pa_nil))) pa_nil)))) pa_nil))))) (pss_one (ps_ret pe_bl)) pss_nil), ?_⟩
  intro Fz a b c sun light cost water L
  intros
  have t1 := s_exc L.qa L.s3 L.n3
  have t2 := s_exc L.qb L.s3 L.n3
  have z1 : Sm (exc a cost) := (sz_exc L.qa L.s3).sm (by decide)
  have z2 : Sm (exc b cost) := (sz_exc L.qb L.s3).sm (by decide)
  have t3 := S__law_plus.mk z1 z2
  have t4 := S__law_most.mk z1 z2
  have hd : sdat 7 (.lst [enc (exc a cost + exc b cost), enc (max (exc a cost) (exc b cost)), enc (exc a cost)]) = true := by
    simp only [sdat, sdats, sdat_enc]
    rfl
  have t5 : S__law_same 8 [_, _] (.val (.bl true)) := S__law_same.mk hd
  exact y_ifF (t_cast (t_not (t_b (e_call (a_cons (e_var rfl) (a_cons (e_frz (e_lst (a_cons (e_call (a_cons (e_call (a_cons (e_var rfl) (a_cons (e_var rfl) a_nil)) (by walk_at "sp")) (a_cons (e_call (a_cons (e_var rfl) (a_cons (e_var rfl) a_nil)) (by walk_at "sp")) a_nil)) (by walk_at "sp")) (a_cons (e_call (a_cons (e_call (a_cons (e_var rfl) (a_cons (e_var rfl) a_nil)) (by walk_at "sp")) (a_cons (e_call (a_cons (e_var rfl) (a_cons (e_var rfl) a_nil)) (by walk_at "sp")) a_nil)) (by walk_at "sp")) (a_cons (e_call (a_cons (e_var rfl) (a_cons (e_var rfl) a_nil)) (by walk_at "sp")) a_nil))))) a_nil)) (by walk_at "sp")))) rfl) x_next
theorem lap22 (T : Txt P w K mg base vN vS) {f : Addr} {cdv : Value} {A : Around} {outer : List Env} {s : Shared} {H : Hp} {E : XK} (hr : Room 42 (A.deeper (envOfC "law" (defScope s_law) s.heap.objs.size f cdv))) : ∃ t, PS (cxOf CX0 P w K mg base n_law "law" (defScope s_law) f cdv A outer s H E) (lapS 22) t ∧ ∀ (Fz : MS) {a b c : List Pt} {sun light cost water : Rat} (L : LapOk a b c sun light cost water), ∀ {x0 x1 x2 x3 x4 x6 x7 x9 x11 x12 x13 x14 x15 x16 x17 x18 x19 x20 x21 x22 x23 x24 : Option Slot}, Ex ⟨K, 0, Fz⟩ t [x0, x1, x2, x3, x4, some (.val (encC a)), x6, x7, some (.val (enc sun)), x9, some (.val (enc cost)), x11, x12, x13, x14, x15, x16, x17, x18, x19, x20, x21, x22, x23, x24] (.nx [x0, x1, x2, x3, x4, some (.val (encC a)), x6, x7, some (.val (enc sun)), x9, some (.val (enc cost)), x11, x12, x13, x14, x15, x16, x17, x18, x19, x20, x21, x22, x23, x24]) := by
  refine ⟨_, (ps_if (pt_cmpR op_gt (pe_cl (c__law_side T) hr (by decide) (by rfl) pass0 (pa_cons (pe_cl (c_excess T) hr (by decide) (by rfl) pass0 (pa_cons (pe_cl (c_sunned T) hr (by decide) (by rfl) pass0 (pa_cons (pv 5) (pa_cons (pv 8) pa_nil))) (pa_cons (pv 10) pa_nil))) (pa_cons (pe_cl (c__law_plus T) hr (by decide) (by rfl) pass0 (pa_cons (pe_cl (c_excess T) hr (by decide) (by rfl) pass0 (pa_cons (pv 5) (pa_cons (pv 10) pa_nil))) (pa_cons (pe_cl (c__law_by T) hr (by decide) (by rfl) pass0 (pa_cons (pv 10) (pa_cons (pv 8) pa_nil))) pa_nil))) pa_nil))) pe_int (nomark _)) (pss_one (ps_ret pe_bl)) pss_nil), ?_⟩
  intro Fz a b c sun light cost water L
  intros
  have t1 := s_shf L.qa L.s1 L.n1
  have t2 := s_exc L.sh L.s3 L.n3
  have t3 := s_exc L.qa L.s3 L.n3
  have z1 : Sm (exc a cost) := (sz_exc L.qa L.s3).sm (by decide)
  have z2 : Sm (exc (shf a sun) cost) := (sz_exc L.sh L.s3).sm (by decide)
  have z3 : Sm (cost * sun) := (sz_mul L.s3 L.s1).sm (by decide)
  have t4 := S__law_by.mk (L.s3.sm (by decide)) (L.s1.sm (by decide))
  have t5 := S__law_plus.mk z1 z3
  have z4 : Sm (exc a cost + cost * sun) := (sz_add (sz_exc L.qa L.s3) (sz_mul L.s3 L.s1)).sm (by decide)
  have t6 := S__law_side.mk z2 z4
  refine y_ifF (t_cast (t_test (e_op (e_call (a_cons (e_call (a_cons (e_call (a_cons (e_var rfl) (a_cons (e_var rfl) a_nil)) (by walk_at "sp")) (a_cons (e_var rfl) a_nil)) (by walk_at "sp")) (a_cons (e_call (a_cons (e_call (a_cons (e_var rfl) (a_cons (e_var rfl) a_nil)) (by walk_at "sp")) (a_cons (e_call (a_cons (e_var rfl) (a_cons (e_var rfl) a_nil)) (by walk_at "sp")) a_nil)) (by walk_at "sp")) a_nil)) (by walk_at "sp")) (e_int) o_C0)) ?_) x_next
  have h := shf_cj (k := cost) L.qa.cv L.n1 L.n3
  rw [← exc_eq L.qa.cv, ← exc_eq L.sh.cv] at h
  refine (sideI_gt (a := exc (shf a sun) cost)).trans (decide_eq_false (Rat.not_lt.mpr h))
/-! heights at one water -/
theorem sz_hq {a : List Pt} {k n j : Nat} {x : Rat} (h : Q k n a) (hx : Sz j x) : Sz (6 * k + j + 4) (hgt a x) := sz_hgt h.sz h.cv.inc hx h.cv.ne
theorem Q.last {a : List Pt} {k n : Nat} (h : Q k n a) : ∃ l, a.getLast? = some l := by
  cases e : a.getLast? with
  | none => exact absurd (List.getLast?_eq_none_iff.mp e) h.cv.ne
  | some l => exact ⟨l, rfl⟩
theorem lap23 (T : Txt P w K mg base vN vS) {f : Addr} {cdv : Value} {A : Around} {outer : List Env} {s : Shared} {H : Hp} {E : XK} (hr : Room 42 (A.deeper (envOfC "law" (defScope s_law) s.heap.objs.size f cdv))) : ∃ t, PS (cxOf CX0 P w K mg base n_law "law" (defScope s_law) f cdv A outer s H E) (lapS 23) t ∧ ∀ (Fz : MS) {a b c : List Pt} {sun light cost water : Rat} (L : LapOk a b c sun light cost water), ∀ {x0 x1 x2 x3 x4 x6 x7 x8 x9 x10 x12 x13 x14 x15 x16 x17 x18 x19 x20 x21 x22 x23 x24 : Option Slot}, Ex ⟨K, 0, Fz⟩ t [x0, x1, x2, x3, x4, some (.val (encC a)), x6, x7, x8, x9, x10, some (.val (enc water)), x12, x13, x14, x15, x16, x17, x18, x19, x20, x21, x22, x23, x24] (.nx [x0, x1, x2, x3, x4, some (.val (encC a)), x6, x7, x8, x9, x10, some (.val (enc water)), x12, x13, x14, x15, x16, x17, x18, x19, some (.val (enc (hgt a water))), x21, x22, x23, x24]) := by
  refine ⟨_, (ps_set (i := 20) sc_law.nd rfl (Or.inl rfl) (pe_cl (c_salt_at T) hr (by decide) (by rfl) pass0 (pa_cons (pv 5) (pa_cons (pv 11) pa_nil)))), ?_⟩
  intro Fz a b c sun light cost water L
  intros
  have t1 := s_hgt L.qa L.s4 L.n4
  exact y_set (e_call (a_cons (e_var rfl) (a_cons (e_var rfl) a_nil)) (by walk_at "sp"))
theorem lap24 (T : Txt P w K mg base vN vS) {f : Addr} {cdv : Value} {A : Around} {outer : List Env} {s : Shared} {H : Hp} {E : XK} (hr : Room 42 (A.deeper (envOfC "law" (defScope s_law) s.heap.objs.size f cdv))) : ∃ t, PS (cxOf CX0 P w K mg base n_law "law" (defScope s_law) f cdv A outer s H E) (lapS 24) t ∧ ∀ (Fz : MS) {a b c : List Pt} {sun light cost water : Rat} (L : LapOk a b c sun light cost water), ∀ {x0 x1 x2 x3 x4 x6 x7 x9 x10 x12 x13 x14 x16 x17 x18 x19 x20 x21 x22 x23 x24 : Option Slot}, Ex ⟨K, 0, Fz⟩ t [x0, x1, x2, x3, x4, some (.val (encC a)), x6, x7, some (.val (enc sun)), x9, x10, some (.val (enc water)), x12, x13, x14, some (.val (encC (lower a b))), x16, x17, x18, x19, x20, x21, x22, x23, x24] (.nx [x0, x1, x2, x3, x4, some (.val (encC a)), x6, x7, some (.val (enc sun)), x9, x10, some (.val (enc water)), x12, some (.val (.lst [enc (hgt (lower a b) water), enc (hgt (shf a sun) water)])), x14, some (.val (encC (lower a b))), x16, x17, x18, x19, x20, x21, x22, x23, x24]) := by
  refine ⟨_, (ps_set (i := 13) sc_law.nd rfl (Or.inl rfl) (pe_lst (pa_cons (pe_cl (c_salt_at T) hr (by decide) (by rfl) pass0 (pa_cons (pv 15) (pa_cons (pv 11) pa_nil))) (pa_cons (pe_cl (c_salt_at T) hr (by decide) (by rfl) pass0 (pa_cons (pe_cl (c_sunned T) hr (by decide) (by rfl) pass0 (pa_cons (pv 5) (pa_cons (pv 8) pa_nil))) (pa_cons (pv 11) pa_nil))) pa_nil)))), ?_⟩
  intro Fz a b c sun light cost water L
  intros
  have t1 := s_hgt L.low L.s4 L.n4
  have t2 := s_shf L.qa L.s1 L.n1
  have t3 := s_hgt L.sh L.s4 L.n4
  exact y_set (e_frz (e_lst (a_cons (e_call (a_cons (e_var rfl) (a_cons (e_var rfl) a_nil)) (by walk_at "sp")) (a_cons (e_call (a_cons (e_call (a_cons (e_var rfl) (a_cons (e_var rfl) a_nil)) (by walk_at "sp")) (a_cons (e_var rfl) a_nil)) (by walk_at "sp")) a_nil))))
theorem lap25 (T : Txt P w K mg base vN vS) {f : Addr} {cdv : Value} {A : Around} {outer : List Env} {s : Shared} {H : Hp} {E : XK} (hr : Room 42 (A.deeper (envOfC "law" (defScope s_law) s.heap.objs.size f cdv))) : ∃ t, PS (cxOf CX0 P w K mg base n_law "law" (defScope s_law) f cdv A outer s H E) (lapS 25) t ∧ ∀ (Fz : MS) {a b c : List Pt} {sun light cost water : Rat} (L : LapOk a b c sun light cost water) {d1 d2 : Dt}, ∀ {x0 x1 x2 x3 x4 x7 x8 x9 x10 x12 x14 x15 x17 x18 x19 x21 x22 x23 x24 : Option Slot}, Ex ⟨K, 0, Fz⟩ t [x0, x1, x2, x3, x4, some (.val (encC a)), some (.val (encC b)), x7, x8, x9, x10, some (.val (enc water)), x12, some (.val (.lst [d1, d2])), x14, x15, some (.val (encC (upper a b))), x17, x18, x19, some (.val (enc (hgt a water))), x21, x22, x23, x24] (.nx [x0, x1, x2, x3, x4, some (.val (encC a)), some (.val (encC b)), x7, x8, x9, x10, some (.val (enc water)), x12, some (.val (.lst [d1, d2, .bl true, .bl true])), x14, x15, some (.val (encC (upper a b))), x17, x18, x19, some (.val (enc (hgt a water))), x21, x22, x23, x24]) := by
  refine ⟨_, (ps_set (i := 13) sc_law.nd rfl (Or.inl rfl) (pe_op (op_addK K rfl) (pv 13) (pe_lst (pa_cons (pe_cmpR op_ge (pe_cl (c__law_side T) hr (by decide) (by rfl) pass0 (pa_cons (pe_cl (c_salt_at T) hr (by decide) (by rfl) pass0 (pa_cons (pv 16) (pa_cons (pv 11) pa_nil))) (pa_cons (pe_cl (c__law_most T) hr (by decide) (by rfl) pass0 (pa_cons (pv 20) (pa_cons (pe_cl (c_salt_at T) hr (by decide) (by rfl) pass0 (pa_cons (pv 6) (pa_cons (pv 11) pa_nil))) pa_nil))) pa_nil))) pe_int (nomark _)) (pa_cons (pe_cmpR op_le (pe_cl (c__law_side T) hr (by decide) (by rfl) pass0 (pa_cons (pe_cl (c_water_for T) hr (by decide) (by rfl) pass0 (pa_cons (pv 5) (pa_cons (pv 20) pa_nil))) (pa_cons (pv 11) pa_nil))) pe_int (nomark _)) pa_nil))))), ?_⟩
  intro Fz a b c sun light cost water L d1 d2
  intros
  obtain ⟨l, hl⟩ := L.qa.last
  obtain ⟨r1, r2, r3, r4⟩ := rch_ok L.qa.cv hl L.n4
  have n1 := hgt_nn L.qa.cv L.n4
  have y1 := sz_hq L.qa L.s4
  have y2 := sz_hq L.qb L.s4
  have y3 := sz_hq L.high L.s4
  have y4 := sz_rch L.qa.sz L.qa.cv.inc y1 hl r1
  have z1 : Sm (hgt a water) := y1.sm (by decide)
  have z2 : Sm (hgt b water) := y2.sm (by decide)
  have z3 : Sm (hgt (upper a b) water) := y3.sm (by decide)
  have z4 : Sm (rch a (hgt a water)) := y4.sm (by decide)
  have z5 : Sm (max (hgt a water) (hgt b water)) := (sz_max y1 y2).sm (by decide)
  have z6 : Sm water := L.s4.sm (by decide)
  have t1 := s_hgt L.qb L.s4 L.n4
  have t2 := S__law_most.mk z1 z2
  have t3 := s_hgt L.high L.s4 L.n4
  have t4 := S__law_side.mk z3 z5
  have t5 := s_rch L.qa hl y1 n1 r1
  have t6 := S__law_side.mk z4 z6
  have e1 : decide (0 ≤ sideI (hgt (upper a b) water) (max (hgt a water) (hgt b water))) = true := by
    rw [sideI_ge, decide_eq_true_iff]
    have h1 := hle_upp L.qa.cv L.qb.cv water L.n4
    have h2 := hle_upp2 L.qa.cv L.qb.cv water L.n4
    grind
  have e2 : decide (sideI (rch a (hgt a water)) water ≤ 0) = true := by
    rw [sideI_le, decide_eq_true_iff]
    exact r3
  refine x_cast (o := .nx _) (y_set (e_frz (e_op (e_var rfl) (e_frz (e_lst (a_cons (e_cast (e_op (e_call (a_cons (e_call (a_cons (e_var rfl) (a_cons (e_var rfl) a_nil)) (by walk_at "sp")) (a_cons (e_call (a_cons (e_var rfl) (a_cons (e_call (a_cons (e_var rfl) (a_cons (e_var rfl) a_nil)) (by walk_at "sp")) a_nil)) (by walk_at "sp")) a_nil)) (by walk_at "sp")) (e_int) o_C0) (congrArg (fun b => R.val (.bl b)) e1)) (a_cons (e_cast (e_op (e_call (a_cons (e_call (a_cons (e_var rfl) (a_cons (e_var rfl) a_nil)) (by walk_at "sp")) (a_cons (e_var rfl) a_nil)) (by walk_at "sp")) (e_int) o_C0) (congrArg (fun b => R.val (.bl b)) e2)) a_nil)))) (o_orR (o_orL (o_cat (leb rfl))))))) rfl
theorem lap26 (T : Txt P w K mg base vN vS) {f : Addr} {cdv : Value} {A : Around} {outer : List Env} {s : Shared} {H : Hp} {E : XK} (hr : Room 42 (A.deeper (envOfC "law" (defScope s_law) s.heap.objs.size f cdv))) : ∃ t, PS (cxOf CX0 P w K mg base n_law "law" (defScope s_law) f cdv A outer s H E) (lapS 26) t ∧ ∀ (Fz : MS) {a b c : List Pt} {sun light cost water : Rat} (L : LapOk a b c sun light cost water) {d1 d2 d3 d4 : Dt}, ∀ {x0 x1 x2 x3 x4 x6 x7 x8 x9 x10 x11 x12 x14 x15 x16 x17 x18 x19 x21 x22 x23 x24 : Option Slot}, Ex ⟨K, 0, Fz⟩ t [x0, x1, x2, x3, x4, some (.val (encC a)), x6, x7, x8, x9, x10, x11, x12, some (.val (.lst [d1, d2, d3, d4])), x14, x15, x16, x17, x18, x19, some (.val (enc (hgt a water))), x21, x22, x23, x24] (.nx [x0, x1, x2, x3, x4, some (.val (encC a)), x6, x7, x8, x9, x10, x11, x12, some (.val (.lst [d1, d2, d3, d4, enc (hgt a water)])), x14, x15, x16, x17, x18, x19, some (.val (enc (hgt a water))), x21, x22, x23, x24]) := by
  refine ⟨_, (ps_set (i := 13) sc_law.nd rfl (Or.inl rfl) (pe_op (op_addK K rfl) (pv 13) (pe_lst (pa_cons (pe_cl (c_salt_at T) hr (by decide) (by rfl) pass0 (pa_cons (pv 5) (pa_cons (pe_cl (c_water_for T) hr (by decide) (by rfl) pass0 (pa_cons (pv 5) (pa_cons (pv 20) pa_nil))) pa_nil))) pa_nil)))), ?_⟩
  intro Fz a b c sun light cost water L d1 d2 d3 d4
  intros
  obtain ⟨l, hl⟩ := L.qa.last
  obtain ⟨r1, r2, r3, r4⟩ := rch_ok L.qa.cv hl L.n4
  have n1 := hgt_nn L.qa.cv L.n4
  have y1 := sz_hq L.qa L.s4
  have y4 := sz_rch L.qa.sz L.qa.cv.inc y1 hl r1
  have t5 := s_rch L.qa hl y1 n1 r1
  have t6 := s_hgt L.qa y4 r2
  rw [r4] at t6
  exact x_cast (o := .nx _) (y_set (e_frz (e_op (e_var rfl) (e_frz (e_lst (a_cons (e_call (a_cons (e_var rfl) (a_cons (e_call (a_cons (e_var rfl) (a_cons (e_var rfl) a_nil)) (by walk_at "sp")) a_nil)) (by walk_at "sp")) a_nil))) (o_orR (o_orL (o_cat (leb rfl))))))) rfl
theorem lap27 (T : Txt P w K mg base vN vS) {f : Addr} {cdv : Value} {A : Around} {outer : List Env} {s : Shared} {H : Hp} {E : XK} (hr : Room 42 (A.deeper (envOfC "law" (defScope s_law) s.heap.objs.size f cdv))) : ∃ t, PS (cxOf CX0 P w K mg base n_law "law" (defScope s_law) f cdv A outer s H E) (lapS 27) t ∧ ∀ (Fz : MS) {a b c : List Pt} {sun light cost water : Rat} (L : LapOk a b c sun light cost water), ∀ {x0 x1 x2 x3 x4 x7 x9 x10 x12 x14 x15 x16 x17 x18 x19 x21 x22 x23 x24 : Option Slot}, Ex ⟨K, 0, Fz⟩ t [x0, x1, x2, x3, x4, some (.val (encC a)), some (.val (encC b)), x7, some (.val (enc sun)), x9, x10, some (.val (enc water)), x12, some (.val (.lst [enc (min (hgt a water) (hgt b water)), enc (hgt a (water + sun)), .bl true, .bl true, enc (hgt a water)])), x14, x15, x16, x17, x18, x19, some (.val (enc (hgt a water))), x21, x22, x23, x24] (.nx [x0, x1, x2, x3, x4, some (.val (encC a)), some (.val (encC b)), x7, some (.val (enc sun)), x9, x10, some (.val (enc water)), x12, some (.val (.lst [enc (min (hgt a water) (hgt b water)), enc (hgt a (water + sun)), .bl true, .bl true, enc (hgt a water)])), x14, x15, x16, x17, x18, x19, some (.val (enc (hgt a water))), x21, x22, x23, x24]) := by
  refine ⟨_, (ps_if (pt_not (pt_val (pe_cl (c__law_same T) hr (by decide) (by rfl) pass0 (pa_cons (pv 13) (pa_cons (pe_lst (pa_cons (pe_cl (c__law_least T) hr (by decide) (by rfl) pass0 (pa_cons (pv 20) (pa_cons (pe_cl (c_salt_at T) hr (by decide) (by rfl) pass0 (pa_cons (pv 6) (pa_cons (pv 11) pa_nil))) pa_nil))) (pa_cons (pe_cl (c_salt_at T) hr (by decide) (by rfl) pass0 (pa_cons (pv 5) (pa_cons (pe_cl (c__law_plus T) hr (by decide) (by rfl) pass0 (pa_cons (pv 11) (pa_cons (pv 8) pa_nil))) pa_nil))) (pa_cons pe_bl (pa_cons pe_bl (pa_cons (pv 20) pa_nil)))))) pa_nil))))) (pss_one (ps_ret pe_bl)) pss_nil), ?_⟩
  intro Fz a b c sun light cost water L
  intros
  have z1 : Sm (hgt a water) := (sz_hq L.qa L.s4).sm (by decide)
  have z2 : Sm (hgt b water) := (sz_hq L.qb L.s4).sm (by decide)
  have t1 := s_hgt L.qb L.s4 L.n4
  have t2 := S__law_least.mk z1 z2
  have t3 := S__law_plus.mk (L.s4.sm (by decide)) (L.s1.sm (by decide))
  have t4 := s_hgt L.qa (sz_add L.s4 L.s1) (show 0 ≤ water + sun by have := L.n4; have := L.n1; grind)
  have hd : sdat 7 (.lst [enc (min (hgt a water) (hgt b water)), enc (hgt a (water + sun)), .bl true, .bl true, enc (hgt a water)]) = true := by
    simp only [sdat, sdats, sdat_enc]
    rfl
  have t5 : S__law_same 8 [_, _] (.val (.bl true)) := S__law_same.mk hd
  exact y_ifF (t_cast (t_not (t_b (e_call (a_cons (e_var rfl) (a_cons (e_frz (e_lst (a_cons (e_call (a_cons (e_var rfl) (a_cons (e_call (a_cons (e_var rfl) (a_cons (e_var rfl) a_nil)) (by walk_at "sp")) a_nil)) (by walk_at "sp")) (a_cons (e_call (a_cons (e_var rfl) (a_cons (e_call (a_cons (e_var rfl) (a_cons (e_var rfl) a_nil)) (by walk_at "sp")) a_nil)) (by walk_at "sp")) (a_cons (e_bl) (a_cons (e_bl) (a_cons (e_var rfl) a_nil))))))) a_nil)) (by walk_at "sp")))) rfl) x_next
/-! the rise -/
def stpL : List Rat := [1, Rat.divInt 1 9, 30]
def stpF (u : Tin) : Rat := stpL.getD (takeF u 3).1.toNat 0
theorem stp_bd (u : Tin) : 0 ≤ stpF u ∧ Sz 43 (stpF u) := by
  have := take_bd (s := u) (n := 3) (by decide)
  unfold stpF
  generalize (takeF u 3).1 = i at this
  obtain ⟨n, rfl⟩ : ∃ n : Nat, i = (n : Int) := ⟨i.toNat, by omega⟩
  rw [Int.toNat_natCast]
  have hn : n < 3 := by omega
  match n, hn with
  | 0, _ => exact ⟨by decide, by decide, by decide⟩
  | 1, _ => exact ⟨by decide, by decide, by decide⟩
  | 2, _ => exact ⟨by decide, by decide, by decide⟩
theorem lap28 (T : Txt P w K mg base vN vS) {f : Addr} {cdv : Value} {A : Around} {outer : List Env} {s : Shared} {H : Hp} {E : XK} (hr : Room 42 (A.deeper (envOfC "law" (defScope s_law) s.heap.objs.size f cdv))) : ∃ t, PS (cxOf CX0 P w K mg base n_law "law" (defScope s_law) f cdv A outer s H E) (lapS 28) t ∧ ∀ (Fz : MS) {u : Tin} {m : Int} (ok : TOk m u) (hm : m ≤ 1000000), ∀ {x0 x2 x3 x4 x5 x6 x7 x8 x9 x10 x11 x12 x13 x14 x15 x16 x17 x18 x19 x20 x22 x23 x24 : Option Slot}, Ex ⟨K, 0, Fz⟩ t [x0, some (.own (tdt u)), x2, x3, x4, x5, x6, x7, x8, x9, x10, x11, x12, x13, x14, x15, x16, x17, x18, x19, x20, none, x22, x23, x24] (.nx [x0, some (.own (tdt (takeF u 3).2)), x2, x3, x4, x5, x6, x7, x8, x9, x10, x11, x12, x13, x14, x15, x16, x17, x18, x19, x20, some (.val (enc (stpF u))), x22, x23, x24]) := by
  refine ⟨_, (ps_set (i := 21) sc_law.nd rfl (Or.inl rfl) (pe_cl (c__law_of T) hr (by decide) (by rfl) pass0 (pa_cons (pv 1) (pa_cons (pe_lst (pa_cons (pe_tup (pa_cons pe_int (pa_cons pe_int pa_nil))) (pa_cons (pe_tup (pa_cons pe_int (pa_cons pe_int pa_nil))) (pa_cons (pe_tup (pa_cons pe_int (pa_cons pe_int pa_nil))) pa_nil)))) pa_nil)))), ?_⟩
  intro Fz u m ok hm
  intros
  have hg : (stpL.map enc)[(takeF u 3).1.toNat]? = some (enc (stpF u)) := by
    have := take_bd (s := u) (n := 3) (by decide)
    unfold stpF
    have hl : (takeF u 3).1.toNat < stpL.length := by
      show _ < 3
      omega
    rw [List.getElem?_map, List.getElem?_eq_getElem hl, List.getD_eq_getElem?_getD, List.getElem?_eq_getElem hl]
    rfl
  have e0 : stpL.map enc = [.tup [.int 1, .int 1], .tup [.int 1, .int 9], .tup [.int 30, .int 1]] := rfl
  exact x_set (p := false) (e_callI ⟨_, rfl⟩ (a_cons (e_cast (e_frz (e_lst (a_cons (e_tup (a_cons (e_int) (a_cons (e_int) a_nil))) (a_cons (e_tup (a_cons (e_int) (a_cons (e_int) a_nil))) (a_cons (e_tup (a_cons (e_int) (a_cons (e_int) a_nil))) a_nil))))) (by rw [← e0])) a_nil) rfl (S__law_of.mk (gs := stpL.map enc) ok hm (by decide) hg)) (ltb rfl)
theorem lap29 (T : Txt P w K mg base vN vS) {f : Addr} {cdv : Value} {A : Around} {outer : List Env} {s : Shared} {H : Hp} {E : XK} (hr : Room 42 (A.deeper (envOfC "law" (defScope s_law) s.heap.objs.size f cdv))) : ∃ t, PS (cxOf CX0 P w K mg base n_law "law" (defScope s_law) f cdv A outer s H E) (lapS 29) t ∧ ∀ (Fz : MS) {a b c : List Pt} {sun light cost water d : Rat} (L : LapOk a b c sun light cost water) (h0 : 0 ≤ d) (hs : Sz 43 d), ∀ {x0 x1 x2 x3 x4 x6 x7 x8 x9 x10 x12 x13 x14 x15 x16 x17 x18 x19 x22 x23 x24 : Option Slot}, Ex ⟨K, 0, Fz⟩ t [x0, x1, x2, x3, x4, some (.val (encC a)), x6, x7, x8, x9, x10, some (.val (enc water)), x12, x13, x14, x15, x16, x17, x18, x19, some (.val (enc (hgt a water))), some (.val (enc d)), x22, x23, x24] (.nx [x0, x1, x2, x3, x4, some (.val (encC a)), x6, x7, x8, x9, x10, some (.val (enc water)), x12, x13, x14, x15, x16, x17, x18, x19, some (.val (enc (hgt a water))), some (.val (enc d)), some (.val (enc (hgt a (water + d) - hgt a water))), x23, x24]) := by
  refine ⟨_, (ps_set (i := 22) sc_law.nd rfl (Or.inl rfl) (pe_cl (c__law_less T) hr (by decide) (by rfl) pass0 (pa_cons (pe_cl (c_salt_at T) hr (by decide) (by rfl) pass0 (pa_cons (pv 5) (pa_cons (pe_cl (c__law_plus T) hr (by decide) (by rfl) pass0 (pa_cons (pv 11) (pa_cons (pv 21) pa_nil))) pa_nil))) (pa_cons (pv 20) pa_nil)))), ?_⟩
  intro Fz a b c sun light cost water d L h0 hs
  intros
  have t1 := S__law_plus.mk (L.s4.sm (by decide)) (hs.sm (by decide))
  have y1 : Sz 87 (water + d) := sz_add L.s4 hs
  have t2 := s_hgt L.qa y1 (show 0 ≤ water + d by have := L.n4; grind)
  have t3 := S__law_less.mk ((sz_hq L.qa y1).sm (by decide)) ((sz_hq L.qa L.s4).sm (by decide))
  exact y_set (e_call (a_cons (e_call (a_cons (e_var rfl) (a_cons (e_call (a_cons (e_var rfl) (a_cons (e_var rfl) a_nil)) (by walk_at "sp")) a_nil)) (by walk_at "sp")) (a_cons (e_var rfl) a_nil)) (by walk_at "sp"))
theorem lap30 (T : Txt P w K mg base vN vS) {f : Addr} {cdv : Value} {A : Around} {outer : List Env} {s : Shared} {H : Hp} {E : XK} (hr : Room 42 (A.deeper (envOfC "law" (defScope s_law) s.heap.objs.size f cdv))) : ∃ t, PS (cxOf CX0 P w K mg base n_law "law" (defScope s_law) f cdv A outer s H E) (lapS 30) t ∧ ∀ (Fz : MS) {a b c : List Pt} {sun light cost water d : Rat} (L : LapOk a b c sun light cost water) (h0 : 0 ≤ d) (hs : Sz 43 d), ∀ {x0 x1 x2 x3 x4 x6 x7 x8 x9 x10 x12 x13 x14 x15 x16 x17 x18 x19 x23 x24 : Option Slot}, Ex ⟨K, 0, Fz⟩ t [x0, x1, x2, x3, x4, some (.val (encC a)), x6, x7, x8, x9, x10, some (.val (enc water)), x12, x13, x14, x15, x16, x17, x18, x19, some (.val (enc (hgt a water))), some (.val (enc d)), some (.val (enc (hgt a (water + d) - hgt a water))), x23, x24] (.nx [x0, x1, x2, x3, x4, some (.val (encC a)), x6, x7, x8, x9, x10, some (.val (enc water)), x12, x13, x14, x15, x16, x17, x18, x19, some (.val (enc (hgt a water))), some (.val (enc d)), some (.val (enc (hgt a (water + d) - hgt a water))), x23, x24]) := by
  refine ⟨_, (ps_if (PW.pt (pw_or (pt_cmpR op_lt (pe_ix (ix_sK K rfl) (pv 22) pe_int (fun _ _ => rfl)) pe_int (nomark _)) (pw_or (pt_cmpR op_gt (pe_cl (c__law_side T) hr (by decide) (by rfl) pass0 (pa_cons (pv 22) (pa_cons (pe_cl (c__law_by T) hr (by decide) (by rfl) pass0 (pa_cons (pv 21) (pa_cons (pe_cl (c_touching T) hr (by decide) (by rfl) pass0 (pa_cons (pv 5) (pa_cons (pv 11) pa_nil))) pa_nil))) pa_nil))) pe_int (nomark _)) (pw_or1 (pt_cmpR (op_neK K rfl (hu_of hr)) (pe_cmpR (op_eqK K rfl (hu_of hr)) (pe_ix (ix_sK K rfl) (pe_cl (c_touching T) hr (by decide) (by rfl) pass0 (pa_cons (pv 5) (pa_cons (pv 11) pa_nil))) pe_int (fun _ _ => rfl)) pe_int (nomark _)) (pe_cmpR (op_eqK K rfl (hu_of hr)) (pv 20) (pe_ix (ix_sK K rfl) (pe_ix (ix_sK K rfl) (pv 5) (pe_un un_neg pe_int) (fun _ _ => rfl)) pe_int (fun _ _ => rfl)) (nomark _)) (nomark _)))))) (pss_one (ps_ret pe_bl)) pss_nil), ?_⟩
  intro Fz a b c sun light cost water d L h0 hs
  intros
  obtain ⟨l, hl⟩ := L.qa.last
  obtain ⟨s0, r0, e0, hs0⟩ := L.qa.cv.hd
  have i1 := L.qa.cv.inc
  have y1 : Sz 87 (water + d) := sz_add L.s4 hs
  have y2 := sz_slp (x := water) L.qa.sz i1 L.qa.cv.ne
  have z1 : Sm (hgt a (water + d) - hgt a water) := (sz_sub (sz_hq L.qa y1) (sz_hq L.qa L.s4)).sm (by decide)
  have z2 : Sm (d * slp a water) := (sz_mul hs y2).sm (by decide)
  have t1 := s_slp L.qa L.s4 L.n4
  have t2 := S__law_by.mk (hs.sm (by decide)) (y2.sm (by decide))
  have t3 := S__law_side.mk z1 z2
  obtain ⟨k1, k2⟩ := slope_ok L.qa.cv L.n4 h0
  have hz : slp a water = 0 ↔ hgt a water = l.2 := by
    rw [e0] at i1 hl ⊢
    exact slp_zero i1 hl L.n4
  have i2 : atI (a.map encB) (-1) = some (encB l) := by
    unfold atI ixN
    have hne : a.length ≠ 0 := fun z => L.qa.cv.ne (List.eq_nil_of_length_eq_zero z)
    rw [if_neg (by decide), List.length_map, if_pos (by omega)]
    show (a.map encB)[((-1 : Int) + (a.length : Int)).toNat]? = _
    rw [show ((-1 : Int) + (a.length : Int)).toNat = a.length - 1 by omega, List.getElem?_map]
    rw [List.getLast?_eq_getElem?] at hl
    rw [hl]
    rfl
  have p1 : plain 60 (enc (hgt a water)) = true := plain_enc
  have p2 : plain 60 (enc l.2) = true := plain_enc
  refine y_ifF (t_cast (t_or' (b := false) (c := false) (t_cast (t_test (e_op (e_op (e_var rfl) (e_int) (by walk_at "ix")) (e_int) o_C0)) ?_) (fun _ => t_cast (t_or' (b := false) (c := false) (t_cast (t_test (e_op (e_call (a_cons (e_var rfl) (a_cons (e_call (a_cons (e_var rfl) (a_cons (e_call (a_cons (e_var rfl) (a_cons (e_var rfl) a_nil)) (by walk_at "sp")) a_nil)) (by walk_at "sp")) a_nil)) (by walk_at "sp")) (e_int) o_C0)) ?_) (fun _ => t_cast (t_test (e_op (e_op (e_op (e_call (a_cons (e_var rfl) (a_cons (e_var rfl) a_nil)) (by walk_at "sp")) (e_int) (by walk_at "ix")) (e_int) (by walk_at "o=")) (e_op (e_var rfl) (e_op (e_op (e_var rfl) (e_un e_int o_U) (o_ixT' i2)) e_int (o_ixT' rfl)) (o_orR (o_eqD p1 p2))) (o_orL o_neB))) ?_)) rfl)) rfl) x_next
  · refine decide_eq_false (Int.not_lt.mpr (Rat.num_nonneg.mpr k2))
  · exact (sideI_gt (a := hgt a (water + d) - hgt a water)).trans (decide_eq_false (Rat.not_lt.mpr k1))
  · rw [deq_enc]
    have e1 : ((slp a water).num == 0) = decide (hgt a water = l.2) := by
      rw [Bool.eq_iff_iff, beq_iff_eq, decide_eq_true_iff, ← hz, Rat.num_eq_zero]
    rw [e1]
    simp
end
end B
/-! text KLaw -/
set_option Elab.async false
set_option linter.all false
set_option maxRecDepth 100000
set_option autoImplicit false
namespace B
open PySem PySem.Spec PyProof.Rows L2
local macro_rules | `(tactic| walk_at "o+") => `(tactic| first | exact o_orL o_I0 | (exact o_orR (o_orL (o_cat (by assumption)))) | (exact o_orR (o_orR (o_catA (by assumption)))))
local macro_rules | `(tactic| walk_at "o*") => `(tactic| exact o_orL (o_mul (by walk_at "mul")))
local macro_rules | `(tactic| walk_at "mul") => `(tactic| first | assumption | exact mul_nd (by assumption) (by assumption) | exact mul_dd (by assumption) (by assumption) | exact mul_nn (by assumption) (by assumption) | exact mul_dn (by assumption) (by assumption))
local macro_rules | `(tactic| walk_at "nz") => `(tactic| assumption)
local macro_rules | `(tactic| walk_at "nzd") => `(tactic| exact den2_ne _ _)
local macro_rules | `(tactic| walk_at "ix") => `(tactic| first | exact o_ixT' rfl | exact o_ixL' rfl | exact o_ixT' (by assumption) | exact o_ixL' (by assumption))
local macro_rules | `(tactic| walk_at "o=") => `(tactic| first | exact o_orL o_eqI | exact o_orL o_neI | exact o_orL o_eqB | exact o_orL o_neB | exact o_orR (o_eqD (by assumption) (by assumption)) | exact o_orR (o_neD (by assumption) (by assumption)) | exact o_orR (o_eqD rfl rfl) | exact o_orR (o_neD rfl rfl))
local macro_rules | `(tactic| walk_at "b_gcd") => `(tactic| exact n_gcd)
local macro_rules | `(tactic| walk_at "b_len") => `(tactic| first | exact n_lenT | exact n_lenL)
local macro_rules | `(tactic| walk_at "b_tuple") => `(tactic| first | exact n_tupleL | exact n_tupleT)
local macro_rules | `(tactic| walk_at "b_isinstance") => `(tactic| exact n_isi rfl rfl)
local macro_rules | `(tactic| walk_at "b_all") => `(tactic| exact n_all)
local macro_rules | `(tactic| walk_at "b_lcm") => `(tactic| exact n_lcm (by assumption))
local macro_rules | `(tactic| walk_at "b_sorted") => `(tactic| exact n_sortedP)
local macro_rules | `(tactic| walk_at "sp") => `(tactic| (constructor <;> first | assumption | rfl | walk_at "nzd"))
section
variable {P : Program} {w : World} {K : PySem.W.Frag} {mg : Str → Option Value} {base : Heap} {vN vS : V}
theorem forx_ex {α β : Type} {step : Dt → En → Out → Prop} {f : α → Dt} {env : β → En} {J : List α → β → Prop} (hs : ∀ x xs b, J (x :: xs) b → ∃ b', step (f x) (env b) (.nx (env b')) ∧ J xs b') :
    ∀ {xs : List α} {b : β}, J xs b → ∃ b', ForX step (xs.map f) (env b) (.nx (env b'))
  | [], b, _ => ⟨b, rfl⟩
  | x :: xs, b, h => by
    obtain ⟨b1, h1, h2⟩ := hs x xs b h
    obtain ⟨b2, h3⟩ := forx_ex hs h2
    exact ⟨b2, .inl ⟨_, .inl h1, h3⟩⟩
theorem stk3s_ok {u : Tin} {m n : Int} (h : TOk m u) (h0 : 0 < n) (h1 : n < 2 ^ 41) : ∃ (c0 c1 c2 : List Pt) (v : Tin), stk3s u n = ([c0, c1, c2], v) ∧ (∀ c ∈ [c0, c1, c2], (∀ b ∈ c, Nn b) ∧ CSz 43 c ∧ c.length ≤ 5) ∧ TOk (m + 93) v := by
  have k1 := stk3_ok h h0 h1
  have k2 := stk3_ok k1.2.2.2 h0 h1
  have k3 := stk3_ok k2.2.2.2 h0 h1
  refine ⟨_, _, _, _, rfl, fun c hc => ?_, k3.2.2.2.mono (by omega)⟩
  rcases List.mem_cons.mp hc with z | hc
  · rw [z]; exact ⟨k1.1, k1.2.1, k1.2.2.1⟩
  · rcases List.mem_cons.mp hc with z | hc
    · rw [z]; exact ⟨k2.1, k2.2.1, k2.2.2.1⟩
    · rw [List.mem_singleton.mp hc]; exact ⟨k3.1, k3.2.1, k3.2.2.1⟩
theorem prs_ok {a b c : List Pt} {sun light cost water : Rat} (L : LapOk a b c sun light cost water) : ∀ p ∈ prsA a b sun light, Q 50000 23 p.1 ∧ Q 50000 23 p.2 ∧ (fstU p.1 p.2).isNone = true := by
  have ca := L.qa.cv
  have cb := L.qb.cv
  have qa : Q 50000 23 a := L.qa.up (by decide) (by decide)
  have qb : Q 50000 23 b := L.qb.up (by decide) (by decide)
  have ql : Q 50000 23 (lower a b) := L.low.up (by decide) (by decide)
  have qu : Q 50000 23 (upper a b) := L.high.up (by decide) (by decide)
  have qt : Q 50000 23 (tog a b) := L.both.up (by decide) (by decide)
  have qs : Q 50000 23 (shf a sun) := L.sh.up (by decide) (by decide)
  have qsb : Q 1700 7 (shf b light) := (q_shf L.qb L.s2 L.n2).up (by decide) (by decide)
  have q8 : Q 50000 23 (shf (tog a b) (sun + light)) := (q_shf L.both L.s12 L.n12).up (by decide) (by decide)
  have q9 : Q 50000 23 (tog (shf a sun) (shf b light)) := (q_tog L.sh qsb).up (by decide) (by decide)
  have none {x y : List Pt} (hx : Cv x) (hy : Cv y) (h : ∀ z, 0 ≤ z → hgt y z ≤ hgt x z) : (fstU x y).isNone = true := (fstU_none hx hy).mpr h
  intro p hp
  unfold prsA prsL at hp
  simp only [List.cons_append, List.nil_append, List.mem_cons, List.not_mem_nil, or_false] at hp
  rcases hp with z | z | z | z | z | z | z | z <;> subst z
  · exact ⟨qa, ql, none ca ql.cv (low_hle ca cb)⟩
  · exact ⟨qb, ql, none cb ql.cv (low_hle2 ca cb)⟩
  · exact ⟨qu, qa, none qu.cv ca (hle_upp ca cb)⟩
  · exact ⟨qu, qb, none qu.cv cb (hle_upp2 ca cb)⟩
  · exact ⟨qt, qa, none qt.cv ca (tog_hle ca cb)⟩
  · exact ⟨qt, qu, none qt.cv qu.cv (tog_hle_upp ca cb)⟩
  · exact ⟨qs, qa, none qs.cv ca (shf_hle ca L.n1)⟩
  · exact ⟨q8, q9, none q8.cv q9.cv (shf_tog ca cb L.n1 L.n2)⟩
inductive S_law : List Dt → R → Prop
  | mk {ns : List Int} (hl : ns.length ≤ 63) : S_law [.ro (ns.map .int)] (.val (.bl true))
/-- the bindings between two laps -/
def envL (ns : List Int) (s : Tin) : En := some (.val (.ro (ns.map .int))) :: some (.own (tdt s)) :: List.replicate 23 none
theorem envL_sub {ns : List Int} {s : Tin} {l : En} (i : Nat) (x : Slot) (h : (envL ns s)[i]? = some (some x)) : (some (.val (.ro (ns.map .int))) :: some (.own (tdt s)) :: l)[i]? = some (some x) := by
  match i with
  | 0 => exact h
  | 1 => exact h
  | i + 2 =>
    unfold envL at h
    rw [List.getElem?_cons_succ, List.getElem?_cons_succ, List.getElem?_replicate] at h
    split at h <;> cases h
set_option maxHeartbeats 0 in
theorem c_law (T : Txt P w K mg base vN vS) {f : Addr} {fd : FuncData} (F : FunD K "law" "law" (defArgs s_law) (defBody s_law) (defScope s_law) [] [] f fd) : FnOk P w K mg base CX0 43 f fd ["script"] (spP K S_law) := by
  refine fnP F sc_law (fun ds r h => by cases h; rfl) fun cdv A outer s H E hr => ?_
  obtain ⟨t0, p0, h0⟩ := lap0 T hr
  obtain ⟨t1, p1, h1⟩ := lap1 T hr
  obtain ⟨t2, p2, h2⟩ := lap2 T hr
  obtain ⟨t3, p3, h3⟩ := lap3 T hr
  obtain ⟨t4, p4, h4⟩ := lap4 T hr
  obtain ⟨t5, p5, h5⟩ := lap5 T hr
  obtain ⟨t6, p6, h6⟩ := lap6 T hr
  obtain ⟨t7, p7, h7⟩ := lap7 T hr
  obtain ⟨t8, p8, h8⟩ := lap8 T hr
  obtain ⟨t9, p9, h9⟩ := lap9 T hr
  obtain ⟨t10, p10, h10⟩ := lap10 T hr
  obtain ⟨t11, p11, h11⟩ := lap11 T hr
  obtain ⟨t12, p12, h12⟩ := lap12 T hr
  obtain ⟨t13, p13, h13⟩ := lap13 T hr
  obtain ⟨t14, p14, h14⟩ := lap14 T hr
  obtain ⟨t15, p15, h15⟩ := lap15 T hr
  obtain ⟨t16, p16, h16⟩ := lap16 T hr
  obtain ⟨t17, p17, h17⟩ := lap17 T hr
  obtain ⟨t18, p18, h18⟩ := lap18 T hr
  obtain ⟨t19, p19, h19⟩ := lap19 T hr
  obtain ⟨t20, p20, h20⟩ := lap20 T hr
  obtain ⟨t21, p21, h21⟩ := lap21 T hr
  obtain ⟨t22, p22, h22⟩ := lap22 T hr
  obtain ⟨t23, p23, h23⟩ := lap23 T hr
  obtain ⟨t24, p24, h24⟩ := lap24 T hr
  obtain ⟨t25, p25, h25⟩ := lap25 T hr
  obtain ⟨t26, p26, h26⟩ := lap26 T hr
  obtain ⟨t27, p27, h27⟩ := lap27 T hr
  obtain ⟨t28, p28, h28⟩ := lap28 T hr
  obtain ⟨t29, p29, h29⟩ := lap29 T hr
  obtain ⟨t30, p30, h30⟩ := lap30 T hr
  refine ⟨_, (pss_cons (ps_set (i := 1) sc_law.nd rfl (Or.inr rfl) (pe_cl (c__law_box T) hr (by decide) (by rfl) pass0 (pa_cons (pe_cl (c__law_cells T) hr (by decide) (by rfl) pass0 (pa_cons (pv 0) (pa_cons pe_int pa_nil))) (pa_cons pe_int pa_nil)))) (pss_cons (ps_for PassesOwn.leaving rfl (pi_range1 (by rfl) T.z_range (pa_cons pe_int pa_nil)) (pg_name (i := 2) sc_law.nd rfl (Or.inl rfl)) (pss_cons p0 (pss_cons p1 (pss_cons p2 (pss_cons p3 (pss_cons p4 (pss_cons p5 (pss_cons p6 (pss_cons p7 (pss_cons p8 (pss_cons p9 (pss_cons p10 (pss_cons p11 (pss_cons p12 (pss_cons p13 (pss_cons p14 (pss_cons p15 (pss_cons p16 (pss_cons p17 (pss_cons p18 (pss_cons p19 (pss_cons p20 (pss_cons p21 (pss_cons p22 (pss_cons p23 (pss_cons p24 (pss_cons p25 (pss_cons p26 (pss_cons p27 (pss_cons p28 (pss_cons p29 (pss_one p30)))))))))))))))))))))))))))))))) (pss_one (ps_ret pe_bl)))), fun Fz ds r h => ?_⟩
  cases h with
  | mk hl =>
    rename_i ns
    refine fin_rt ?_
    refine xs_cons (x_setON (p := true) (e_call (a_cons (e_frz (e_call (a_cons (e_var rfl) (a_cons e_int a_nil)) (S__law_cells.mk hl))) (a_cons e_int a_nil)) S__law_box.mk) (ltb rfl) (Nat.zero_le _) rfl) ?_
    have hx := forx_ex (step := TurnX ⟨K, 0, Fz⟩ (gName 2) (tSeq t0 (tSeq t1 (tSeq t2 (tSeq t3 (tSeq t4 (tSeq t5 (tSeq t6 (tSeq t7 (tSeq t8 (tSeq t9 (tSeq t10 (tSeq t11 (tSeq t12 (tSeq t13 (tSeq t14 (tSeq t15 (tSeq t16 (tSeq t17 (tSeq t18 (tSeq t19 (tSeq t20 (tSeq t21 (tSeq t22 (tSeq t23 (tSeq t24 (tSeq t25 (tSeq t26 (tSeq t27 (tSeq t28 (tSeq t29 t30))))))))))))))))))))))))))))))) (f := fun k : Nat => Dt.int (k : Int)) (env := fun u : Tin => envL ns u) (J := fun xs u => TOk (700 - 200 * xs.length) u ∧ xs.length ≤ 3) (xs := List.range 3) (b := boxF (cellV ns)) ?_ ⟨(box_ok _).mono (by decide), by decide⟩
    · obtain ⟨v, hv⟩ := hx
      refine xs_cons (x_for (p := true) (i_rngN (n := 3) (a_cons e_int a_nil) rfl (by decide) (by decide)) hv) ?_
      exact y_ret e_bl
    · rintro k xs u ⟨ok, hk⟩
      rw [List.length_cons] at ok hk
      have o1 := take_ok (n := 8) ok
      have hn := size_bd u
      have key : ∃ v, TOk (700 - 200 * (xs.length : Int)) v ∧ Ex ⟨K, 0, Fz⟩ (tSeq t0 (tSeq t1 (tSeq t2 (tSeq t3 (tSeq t4 (tSeq t5 (tSeq t6 (tSeq t7 (tSeq t8 (tSeq t9 (tSeq t10 (tSeq t11 (tSeq t12 (tSeq t13 (tSeq t14 (tSeq t15 (tSeq t16 (tSeq t17 (tSeq t18 (tSeq t19 (tSeq t20 (tSeq t21 (tSeq t22 (tSeq t23 (tSeq t24 (tSeq t25 (tSeq t26 (tSeq t27 (tSeq t28 (tSeq t29 t30)))))))))))))))))))))))))))))) ((envL ns u).set 2 (some (.val (.int (k : Int))))) (.nx (envL ns v)) := by
        show ∃ v, _ ∧ Ex _ _ [some (.val (.ro (ns.map .int))), some (.own (tdt u)), some (.val (.int (k : Int))), none, none, none, none, none, none, none, none, none, none, none, none, none, none, none, none, none, none, none, none, none, none] _
        have g0 := @h0 Fz u _ ok (by omega)
        generalize (takeF u 8).2 = u1 at o1 g0
        generalize sizeF u = n at hn g0
        have g1 := @h1 Fz u1 _ n o1 (by omega) (by omega) (by omega)
        obtain ⟨c0, c1, c2, u2, e2, hc, o2⟩ := stk3s_ok (n := 2 * n) o1 (by omega) (by omega)
        rw [e2] at g1
        have k0 := hc c0 (by simp)
        have k1 := hc c1 (by simp)
        have k2 := hc c2 (by simp)
        have qa : Q 256 6 (curveOf c0) := (q_curve k0.1 k0.2.1 k0.2.2).up (by decide) (by decide)
        have qb : Q 256 6 (curveOf c1) := (q_curve k1.1 k1.2.1 k1.2.2).up (by decide) (by decide)
        have qc : Q 256 6 (curveOf c2) := (q_curve k2.1 k2.2.1 k2.2.2).up (by decide) (by decide)
        have g2 := @h2 Fz c0 c1 c2 hc
        have eA := curve_app k0.1 k1.1
        have eW : ∀ k, 0 ≤ k → worths (1, k) c0 = cj (curveOf c0) k := fun k hk => by rw [worths_eq, (curveOf_ok k0.1).2 k hk]
        generalize curveOf c0 = a at qa g2 eA eW
        generalize curveOf c1 = b at qb g2 eA
        generalize curveOf c2 = c at qc g2
        obtain ⟨d1, e1⟩ : ∃ d, d = amtF u2 (2 * n) := ⟨_, rfl⟩
        obtain ⟨d2, e2⟩ : ∃ d, d = amtF d1.2 (2 * n) := ⟨_, rfl⟩
        obtain ⟨d3, e3⟩ : ∃ d, d = amtF d2.2 4 := ⟨_, rfl⟩
        obtain ⟨d4, e4⟩ : ∃ d, d = amtF d3.2 (4 * n) := ⟨_, rfl⟩
        have f1 := amt_ok (n := 2 * n) o2
        have b1 := amt_bd (s := u2) (n := 2 * n) (by omega) (by omega)
        have s1 := S__law_amount.mk (n := 2 * n) o2 (by omega) (by omega)
        rw [← e1] at f1 b1 s1
        have f2 := amt_ok (n := 2 * n) f1
        have b2 := amt_bd (s := d1.2) (n := 2 * n) (by omega) (by omega)
        have s2 := S__law_amount.mk (n := 2 * n) f1 (by omega) (by omega)
        rw [← e2] at f2 b2 s2
        have f3 := amt_ok (n := 4) f2
        have b3 := amt_bd (s := d2.2) (n := 4) (by decide) (by decide)
        have s3 := S__law_amount.mk (n := 4) f2 (by omega) (by decide)
        rw [← e3] at f3 b3 s3
        have f4 := amt_ok (n := 4 * n) f3
        have b4 := amt_bd (s := d3.2) (n := 4 * n) (by omega) (by omega)
        have s4 := S__law_amount.mk (n := 4 * n) f3 (by omega) (by omega)
        rw [← e4] at f4 b4 s4
        have g3 := @h3 Fz u2 n d1 d2 d3 d4 s1 s2 s3 s4
        have L : LapOk a b c d1.1 d2.1 d3.1 d4.1 := ⟨qa, qb, qc, b1.2, b2.2, b3.2, b4.2, b1.1, b2.1, b3.1, b4.1⟩
        have f5 := take_ok (n := 3) f4
        have g28 := @h28 Fz d4.2 _ f4 (by omega)
        have bs := stp_bd d4.2
        generalize (takeF d4.2 3).2 = u3 at f5 g28
        generalize stpF d4.2 = d at bs g28
        generalize d4.2 = u4 at g3 g28
        generalize d1.1 = sun at g3 L
        generalize d2.1 = light at g3 L
        generalize d3.1 = cost at g3 L
        generalize d4.1 = water at g3 L
        clear s1 s2 s3 s4 e1 e2 e3 e4 b1 b2 b3 b4 f1 f2 f3 f4
        have ca := L.qa.cv
        have cb := L.qb.cv
        have cc := L.qc.cv
        have eG1 : ([encC (tog a b), encC (tog (tog a b) c), encC (shf (shf a sun) light), encC (tog a (curveOf [])), encC (shf a 0), encC (curveOf (steps (tog a b)))] ++ [encC (curveOf (c0 ++ c1))] : List Dt) = [encC (tog b a), encC (tog a (tog b c)), encC (shf a (sun + light)), encC a, encC a, encC (tog a b), encC (tog a b)] := by
          rw [tog_comm cb ca, tog_assoc ca cb cc, shf_shf ca L.n1 L.n2, tog_nil ca, shf_zero ca, curve_steps L.both.cv, eA]
          rfl
        have eG2 : ([encC (lower b a), encC (upper b a), encC (lower a a), encC (upper a a), encC (lower (lower a b) c), encC (upper (upper a b) c)] ++ [encC (lower a (upper a b)), encC (upper a (lower a b))] : List Dt) = [encC (lower a b), encC (upper a b), encC a, encC a, encC (lower a (lower b c)), encC (upper a (upper b c)), encC a, encC a] := by
          rw [low_comm ca cb, upp_comm ca cb, low_self ca, upp_self ca, low_assoc ca cb cc, upp_assoc ca cb cc, low_upp ca cb, upp_low ca cb]
          rfl
        have eG3 : ([enc (exc (tog a b) cost), enc (exc (upper a b) cost), enc (worths (1, cost) c0)] : List Dt) = [enc (exc a cost + exc b cost), enc (max (exc a cost) (exc b cost)), enc (exc a cost)] := by
          rw [exc_eq L.both.cv, exc_eq L.high.cv, exc_eq ca, exc_eq cb, (tog_ok ca cb).2 cost L.n3, (upper_ok ca cb).2 cost L.n3, eW cost L.n3]
        have eG4 : ([enc (hgt (lower a b) water), enc (hgt (shf a sun) water)] : List Dt) = [enc (min (hgt a water) (hgt b water)), enc (hgt a (water + sun))] := by
          rw [(lower_ok ca cb).2 water L.n4, (shf_ok ca L.n1).2 water L.n4]
        have hsd : sdat 7 (.lst [encC (tog b a), encC (tog a (tog b c)), encC (shf a (sun + light)), encC a, encC a, encC (tog a b), encC (tog a b)]) = true := by
          have q1 : Q 6200 13 (tog b a) := (q_tog L.qb L.qa).up (by decide) (by decide)
          have q2 : Q 6200 13 (tog b c) := (q_tog L.qb L.qc).up (by decide) (by decide)
          have q3 := q_tog (L.qa.up (k' := 6200) (by decide) (Nat.le_refl _)) q2
          have q4 := q_shf L.qa L.s12 L.n12
          simp only [sdat, sdats, q1.sd, q3.sd, q4.sd, L.qa.sd, L.both.sd]
          rfl
        refine ⟨u3, f5.mono (by omega), ?_⟩
        refine xs_cons g0 (xs_cons g1 (xs_cons g2 (xs_cons g3 (xs_cons (h4 Fz L) (xs_cons (h5 Fz L) (xs_cons (h6 Fz (leb rfl) k0 k1) (xs_cons (h7 Fz L) ?_)))))))
        rw [eG1]
        refine xs_cons (h8 Fz hsd) (xs_cons (h9 Fz L) (xs_cons (h10 Fz L) (xs_cons (h11 Fz L (leb rfl)) ?_)))
        rw [eG2]
        refine xs_cons (h12 Fz L) (xs_cons (h13 Fz L) (xs_cons (h14 Fz L) (xs_cons (h15 Fz L) (xs_cons (h16 Fz (prs_ok L)) (xs_cons (h17 Fz L) (xs_cons (h18 Fz L) (xs_cons (h19 Fz L) (xs_cons (h20 Fz L k0) ?_))))))))
        rw [eG3]
        refine xs_cons (h21 Fz L) (xs_cons (h22 Fz L) (xs_cons (h23 Fz L) (xs_cons (h24 Fz L) ?_)))
        rw [eG4]
        refine xs_cons (h25 Fz L) (xs_cons (h26 Fz L) (xs_cons (h27 Fz L) (xs_cons g28 (xs_cons (h29 Fz L bs.1 bs.2) ?_))))
        exact x_nxSub (h30 Fz L bs.1 bs.2) (fun i x h => envL_sub i x h) rfl
      obtain ⟨v, hv, hx⟩ := key
      exact ⟨v, turn (g_name (ltb rfl)) hx, hv, by omega⟩
end
end B
/-! text Hd66 -/
set_option Elab.async false
set_option linter.all false
set_option maxRecDepth 100000
set_option autoImplicit false
namespace B
open PySem PySem.Spec PyProof.Rows L2
/-! the head of this law -/
abbrev hP : Program := PySem.Challenge.pw_saltstairs_k66_whole_curves_put_together
abbrev hR : PySem.W.OpenRow := PySem.W.OpenLaw.row PySem.Challenge.rw_saltstairs_k66_whole_curves_put_together
def hAs0 : List Addr := [PySem.mainGlobals, PySem.cStatics, PySem.sysModules, PySem.builtinsNs, 4, 95, 256, 255, 75, 74, 82, 81, 89, 88, 94, 93, 102, 101, 109, 108, 116, 115, 123, 122, 130, 129, 137, 136, 144, 143, 151, 150, 158, 157, 163, 162, 168, 167, 175, 174]
def hAs1 : List Addr := [182, 181, 187, 186, 194, 193, 199, 198, 206, 205, 213, 212, 220, 219, 225, 224, 230, 229, 235, 234, 242, 241, 249, 248, 254, 253, 263, 262, 270, 269, 277, 276, 284, 283, 289, 288, 296, 295, 301, 300]
def hAs2 : List Addr := [308, 307, 315, 314, 320, 319, 325, 324, 330, 329, 337, 336, 344, 343, 349, 348, 356, 355, 363, 362, 370, 369, 377, 376, 384, 383, 391, 390, 398, 397, 405, 404, 412, 411, 419, 418, 424, 423, 429, 428]
def hAs3 : List Addr := [436, 435, 443, 442, 450, 449, 457, 456, 464, 463, 471, 470, 476, 475, 483, 482, 490, 489, 497, 496, 504, 503, 511, 510, 518, 517, 525, 524, 532, 531, 539, 538, 544, 543, 549, 548]
def hAs : List Addr := hAs0 ++ (hAs1 ++ (hAs2 ++ (hAs3)))
def hGlo : List (Str × Option Value) := [("gcd", some (.builtin "math.gcd")), ("lcm", some (.builtin "math.lcm")), ("NOTHING", some (.ref 95)), ("START", some (.ref 256)), ("len", none), ("isinstance", none), ("int", none), ("bool", none), ("list", none), ("tuple", none), ("str", none), ("all", none), ("range", none), ("zip", none), ("enumerate", none), ("sorted", none), ("set", none), ("abs", none), ("__builtins__", some (.ref 4))]
def hIs : List Addr := [PySem.mainGlobals, PySem.cStatics, PySem.sysModules, PySem.builtinsNs, 4]
def hTup : List (Addr × List V) := [(95, [.int 0, .int 1]), (255, [.ref 95, .ref 95]), (256, [.ref 255])]
def r_is_number : DR := ⟨"is_number", 75, top 5⟩
def r_is_from : DR := ⟨"is_from", 82, top 6⟩
def r_is_long : DR := ⟨"is_long", 89, top 7⟩
def r_tupled : DR := ⟨"tupled", 94, top 8⟩
def r_reduced : DR := ⟨"reduced", 102, top 11⟩
def r_added : DR := ⟨"added", 109, top 12⟩
def r_lessened : DR := ⟨"lessened", 116, top 13⟩
def r_scaled : DR := ⟨"scaled", 123, top 14⟩
def r_divided : DR := ⟨"divided", 130, top 15⟩
def r_side : DR := ⟨"side", 137, top 16⟩
def r_lesser_of : DR := ⟨"lesser_of", 144, top 17⟩
def r_greater_of : DR := ⟨"greater_of", 151, top 18⟩
def r_summed : DR := ⟨"summed", 158, top 19⟩
def r_in_one_measure : DR := ⟨"in_one_measure", 163, top 20⟩
def r_in_order : DR := ⟨"in_order", 168, top 21⟩
def r_is_amount : DR := ⟨"is_amount", 175, top 22⟩
def r_sure_amount : DR := ⟨"sure_amount", 182, top 23⟩
def r_are_amounts : DR := ⟨"are_amounts", 187, top 24⟩
def r_is_brine : DR := ⟨"is_brine", 194, top 26⟩
def r_is_stock : DR := ⟨"is_stock", 199, top 27⟩
def r_sure_brine : DR := ⟨"sure_brine", 206, top 28⟩
def r_sure_stock : DR := ⟨"sure_stock", 213, top 29⟩
def r_sure_line : DR := ⟨"sure_line", 220, top 30⟩
def r_poured_of : DR := ⟨"poured_of", 225, top 31⟩
def r_thinness_keys : DR := ⟨"thinness_keys", 230, top 32⟩
def r_strongest_first : DR := ⟨"strongest_first", 235, top 33⟩
def r_balance : DR := ⟨"balance", 242, top 34⟩
def r_worth_of : DR := ⟨"worth_of", 249, top 35⟩
def r_stock_worth : DR := ⟨"stock_worth", 254, top 36⟩
def r_rise : DR := ⟨"rise", 263, top 39⟩
def r_turns_down : DR := ⟨"turns_down", 270, top 40⟩
def r_hides : DR := ⟨"hides", 277, top 41⟩
def r_smoothed : DR := ⟨"smoothed", 284, top 42⟩
def r_is_curve : DR := ⟨"is_curve", 289, top 43⟩
def r_sure_curve : DR := ⟨"sure_curve", 296, top 44⟩
def r_curve_of : DR := ⟨"curve_of", 301, top 45⟩
def r_segment_at : DR := ⟨"segment_at", 308, top 46⟩
def r_height : DR := ⟨"height", 315, top 47⟩
def r_reach : DR := ⟨"reach", 320, top 48⟩
def r_steps_of : DR := ⟨"steps_of", 325, top 49⟩
def r_shifted : DR := ⟨"shifted", 330, top 50⟩
def r_first_under : DR := ⟨"first_under", 337, top 51⟩
def r_slope_at : DR := ⟨"slope_at", 344, top 52⟩
def r_crossings : DR := ⟨"crossings", 349, top 53⟩
def r_curve : DR := ⟨"curve", 356, top 54⟩
def r_salt_at : DR := ⟨"salt_at", 363, top 55⟩
def r_water_for : DR := ⟨"water_for", 370, top 56⟩
def r_stock_of : DR := ⟨"stock_of", 377, top 57⟩
def r_together : DR := ⟨"together", 384, top 58⟩
def r_sunned : DR := ⟨"sunned", 391, top 59⟩
def r_is_nowhere_below : DR := ⟨"is_nowhere_below", 398, top 60⟩
def r_first_below : DR := ⟨"first_below", 405, top 61⟩
def r_touching : DR := ⟨"touching", 412, top 62⟩
def r_excess : DR := ⟨"excess", 419, top 63⟩
def r_lower_of : DR := ⟨"lower_of", 424, top 64⟩
def r_upper_of : DR := ⟨"upper_of", 429, top 65⟩
def r_lesser : DR := ⟨"lesser", 436, top 66⟩
def r_greater : DR := ⟨"greater", 443, top 67⟩
def r__law_box : DR := ⟨"_law_box", 450, top 69⟩
def r__law_take : DR := ⟨"_law_take", 457, top 70⟩
def r__law_cells : DR := ⟨"_law_cells", 464, top 71⟩
def r__law_of : DR := ⟨"_law_of", 471, top 72⟩
def r__law_same : DR := ⟨"_law_same", 476, top 73⟩
def r__law_cut : DR := ⟨"_law_cut", 483, top 74⟩
def r__law_plus : DR := ⟨"_law_plus", 490, top 75⟩
def r__law_less : DR := ⟨"_law_less", 497, top 76⟩
def r__law_by : DR := ⟨"_law_by", 504, top 77⟩
def r__law_side : DR := ⟨"_law_side", 511, top 78⟩
def r__law_least : DR := ⟨"_law_least", 518, top 79⟩
def r__law_most : DR := ⟨"_law_most", 525, top 80⟩
def r__law_amount : DR := ⟨"_law_amount", 532, top 81⟩
def r__law_size : DR := ⟨"_law_size", 539, top 82⟩
def r__law_stock : DR := ⟨"_law_stock", 544, top 83⟩
def r_law : DR := ⟨"law", 549, top 84⟩
def hFn0 : List DR := [r_is_number, r_is_from, r_is_long, r_tupled, r_reduced, r_added, r_lessened, r_scaled, r_divided, r_side, r_lesser_of, r_greater_of, r_summed, r_in_one_measure, r_in_order, r_is_amount, r_sure_amount, r_are_amounts, r_is_brine, r_is_stock, r_sure_brine, r_sure_stock, r_sure_line, r_poured_of, r_thinness_keys, r_strongest_first, r_balance, r_worth_of, r_stock_worth, r_rise, r_turns_down, r_hides, r_smoothed, r_is_curve, r_sure_curve, r_curve_of, r_segment_at, r_height, r_reach, r_steps_of]
def hFn1 : List DR := [r_shifted, r_first_under, r_slope_at, r_crossings, r_curve, r_salt_at, r_water_for, r_stock_of, r_together, r_sunned, r_is_nowhere_below, r_first_below, r_touching, r_excess, r_lower_of, r_upper_of, r_lesser, r_greater, r__law_box, r__law_take, r__law_cells, r__law_of, r__law_same, r__law_cut, r__law_plus, r__law_less, r__law_by, r__law_side, r__law_least, r__law_most, r__law_amount, r__law_size, r__law_stock, r_law]
def hFn : List DR := hFn0 ++ (hFn1)
def hNm0 : List Str := [("gcd" : Str), ("lcm" : Str), ("CanNot" : Str), ("Unfit" : Str), ("is_number" : Str), ("is_from" : Str), ("is_long" : Str), ("tupled" : Str), ("NOTHING" : Str), ("reduced" : Str), ("added" : Str), ("lessened" : Str), ("scaled" : Str), ("divided" : Str), ("side" : Str), ("lesser_of" : Str), ("greater_of" : Str), ("summed" : Str), ("in_one_measure" : Str), ("in_order" : Str)]
def hNm1 : List Str := [("is_amount" : Str), ("sure_amount" : Str), ("are_amounts" : Str), ("is_brine" : Str), ("is_stock" : Str), ("sure_brine" : Str), ("sure_stock" : Str), ("sure_line" : Str), ("poured_of" : Str), ("thinness_keys" : Str), ("strongest_first" : Str), ("balance" : Str), ("worth_of" : Str), ("stock_worth" : Str), ("START" : Str), ("rise" : Str), ("turns_down" : Str), ("hides" : Str), ("smoothed" : Str), ("is_curve" : Str)]
def hNm2 : List Str := [("sure_curve" : Str), ("curve_of" : Str), ("segment_at" : Str), ("height" : Str), ("reach" : Str), ("steps_of" : Str), ("shifted" : Str), ("first_under" : Str), ("slope_at" : Str), ("crossings" : Str), ("curve" : Str), ("salt_at" : Str), ("water_for" : Str), ("stock_of" : Str), ("together" : Str), ("sunned" : Str), ("is_nowhere_below" : Str), ("first_below" : Str), ("touching" : Str), ("excess" : Str)]
def hNm3 : List Str := [("lower_of" : Str), ("upper_of" : Str), ("lesser" : Str), ("greater" : Str), ("_law_box" : Str), ("_law_take" : Str), ("_law_cells" : Str), ("_law_of" : Str), ("_law_same" : Str), ("_law_cut" : Str), ("_law_plus" : Str), ("_law_less" : Str), ("_law_by" : Str), ("_law_side" : Str), ("_law_least" : Str), ("_law_most" : Str), ("_law_amount" : Str), ("_law_size" : Str), ("_law_stock" : Str)]
def hNm : List Str := hNm0 ++ (hNm1 ++ (hNm2 ++ (hNm3)))
def hL : Look := ⟨hIs, hGlo, hTup, hFn⟩
abbrev hH : PySem.W.Hook := hL.hook hAs
def hO (s : PySem.W.SharedT) : Bool × List He.FnW := hL.ob hAs s
theorem hO_eq (s : PySem.W.SharedT) : hO s = hH.obs s.abs := Look.ob_eq hL hAs s
end B
open PySem PySem.W PySem.Calls PyProof.Rows in
def B.hV : Program := view B.hR.prog [0, 84]
open PySem PySem.W PySem.Calls PyProof.Rows HandSHeadRun in
theorem B.h1 (w : World) : (wholeF (fun p => stepQ (denQ tabQ) p w) fenceQ 100000 B.hR.prog).map (fun x => looksF B.hR.prog x.1.heap x.2.abs) = some true := by kernel_rfl
open PySem PySem.W PySem.Calls PyProof.Rows HandSHeadRun in
theorem B.h2 (w : World) : (wholeF (fun p => stepQ (denQ tabQ) p w) fenceQ 100000 B.hR.prog).map (fun x => seenQ B.hV B.hNm (importedModules B.hR.prog.main.body) (fun s => xlAt B.hV [] s && recOk B.hR.toRowW.records s) x.2.abs) = some (openGood B.hV B.hNm) := by kernel_rfl
open PySem PySem.W PySem.Calls PyProof.Rows HandSHeadRun in
theorem B.h3 (w : World) : (wholeF (fun p => stepQ (denQ tabQ) p w) fenceQ 100000 B.hR.prog).map (fun x => B.hO x.2) = some (B.hH.val w) := by kernel_rfl
open PySem PySem.W PySem.Calls PyProof.Rows HandSHeadRun in
theorem B.hRun (w : World) : RunEqI B.hR B.hV B.hH B.hO 100000 B.hNm w := B.map3 (B.h1 w) (B.h2 w) (B.h3 w)
namespace B
open PySem PySem.Spec PyProof.Rows L2
theorem txt_of {P : Program} {w : World} {K : PySem.W.Frag} {mg : Str → Option Value} {base hp : Heap} (h : hL.obs K = hL.val) (X : K.In hp) (Y : K.In base) (G : hp.Ns mainGlobals mg) (ns : hp.NoSeer) (nl : hp.NoLimit) (ht : P.given.tree = none) : Txt P w K mg base (.ref 95) (.ref 256) where
  ns := seer_move X Y (Look.is_at h 1) (Look.is_at h 2) (Look.is_at h 3) (Look.is_at h 0) (Look.is_at h 4) (Look.val_at h 18) ns
  nl := limit_move X Y (Look.is_at h 1) nl
  tree := ht
  m_gcd := PySem.W.mg_of X G (Look.val_at h 0)
  m_lcm := PySem.W.mg_of X G (Look.val_at h 1)
  k_NOTHING := ⟨_, PySem.W.mg_of X G (Look.val_at h 2), rfl⟩
  r_NOTHING := fun H M => ⟨_, _, rfl, Look.tup_at h 0 rfl H, _, _, rfl, rfl, _, _, rfl, rfl, rfl⟩
  k_START := ⟨_, PySem.W.mg_of X G (Look.val_at h 3), rfl⟩
  r_START := fun H M => ⟨_, _, rfl, Look.tup_at h 2 rfl H, _, _, rfl, ⟨_, _, rfl, Look.tup_at h 1 rfl H, _, _, rfl, ⟨_, _, rfl, Look.tup_at h 0 rfl H, _, _, rfl, rfl, _, _, rfl, rfl, rfl⟩, _, _, rfl, ⟨_, _, rfl, Look.tup_at h 0 rfl H, _, _, rfl, rfl, _, _, rfl, rfl, rfl⟩, rfl⟩, rfl⟩
  z_len := PySem.W.mg_none_of X G (Look.val_at h 4)
  z_isinstance := PySem.W.mg_none_of X G (Look.val_at h 5)
  z_int := PySem.W.mg_none_of X G (Look.val_at h 6)
  z_bool := PySem.W.mg_none_of X G (Look.val_at h 7)
  z_list := PySem.W.mg_none_of X G (Look.val_at h 8)
  z_tuple := PySem.W.mg_none_of X G (Look.val_at h 9)
  z_str := PySem.W.mg_none_of X G (Look.val_at h 10)
  z_all := PySem.W.mg_none_of X G (Look.val_at h 11)
  z_range := PySem.W.mg_none_of X G (Look.val_at h 12)
  z_zip := PySem.W.mg_none_of X G (Look.val_at h 13)
  z_enumerate := PySem.W.mg_none_of X G (Look.val_at h 14)
  z_sorted := PySem.W.mg_none_of X G (Look.val_at h 15)
  z_set := PySem.W.mg_none_of X G (Look.val_at h 16)
  z_abs := PySem.W.mg_none_of X G (Look.val_at h 17)
  d_is_number := Look.def_is h X G 0
  d_is_from := Look.def_is h X G 1
  d_is_long := Look.def_is h X G 2
  d_tupled := Look.def_is h X G 3
  d_reduced := Look.def_is h X G 4
  d_added := Look.def_is h X G 5
  d_lessened := Look.def_is h X G 6
  d_scaled := Look.def_is h X G 7
  d_divided := Look.def_is h X G 8
  d_side := Look.def_is h X G 9
  d_lesser_of := Look.def_is h X G 10
  d_greater_of := Look.def_is h X G 11
  d_summed := Look.def_is h X G 12
  d_in_one_measure := Look.def_is h X G 13
  d_in_order := Look.def_is h X G 14
  d_is_amount := Look.def_is h X G 15
  d_sure_amount := Look.def_is h X G 16
  d_are_amounts := Look.def_is h X G 17
  d_is_brine := Look.def_is h X G 18
  d_is_stock := Look.def_is h X G 19
  d_sure_brine := Look.def_is h X G 20
  d_sure_stock := Look.def_is h X G 21
  d_sure_line := Look.def_is h X G 22
  d_poured_of := Look.def_is h X G 23
  d_thinness_keys := Look.def_is h X G 24
  d_strongest_first := Look.def_is h X G 25
  d_balance := Look.def_is h X G 26
  d_worth_of := Look.def_is h X G 27
  d_stock_worth := Look.def_is h X G 28
  d_rise := Look.def_is h X G 29
  d_turns_down := Look.def_is h X G 30
  d_hides := Look.def_is h X G 31
  d_smoothed := Look.def_is h X G 32
  d_is_curve := Look.def_is h X G 33
  d_sure_curve := Look.def_is h X G 34
  d_curve_of := Look.def_is h X G 35
  d_segment_at := Look.def_is h X G 36
  d_height := Look.def_is h X G 37
  d_reach := Look.def_is h X G 38
  d_steps_of := Look.def_is h X G 39
  d_shifted := Look.def_is h X G 40
  d_first_under := Look.def_is h X G 41
  d_slope_at := Look.def_is h X G 42
  d_crossings := Look.def_is h X G 43
  d_curve := Look.def_is h X G 44
  d_salt_at := Look.def_is h X G 45
  d_water_for := Look.def_is h X G 46
  d_stock_of := Look.def_is h X G 47
  d_together := Look.def_is h X G 48
  d_sunned := Look.def_is h X G 49
  d_is_nowhere_below := Look.def_is h X G 50
  d_first_below := Look.def_is h X G 51
  d_touching := Look.def_is h X G 52
  d_excess := Look.def_is h X G 53
  d_lower_of := Look.def_is h X G 54
  d_upper_of := Look.def_is h X G 55
  d_lesser := Look.def_is h X G 56
  d_greater := Look.def_is h X G 57
  d__law_box := Look.def_is h X G 58
  d__law_take := Look.def_is h X G 59
  d__law_cells := Look.def_is h X G 60
  d__law_of := Look.def_is h X G 61
  d__law_same := Look.def_is h X G 62
  d__law_cut := Look.def_is h X G 63
  d__law_plus := Look.def_is h X G 64
  d__law_less := Look.def_is h X G 65
  d__law_by := Look.def_is h X G 66
  d__law_side := Look.def_is h X G 67
  d__law_least := Look.def_is h X G 68
  d__law_most := Look.def_is h X G 69
  d__law_amount := Look.def_is h X G 70
  d__law_size := Look.def_is h X G 71
  d__law_stock := Look.def_is h X G 72
  d_law := Look.def_is h X G 73
theorem law_name : (HandSHeadRun.topDef hP 84).name = ("law" : Str) := by kernel_rfl
theorem law_walk : PySem.W.WalkO hV hNm (PySem.W.XL hV []) hH.says (PySem.W.OpenLaw.row PySem.Challenge.rw_saltstairs_k66_whole_curves_put_together).toRowW (HandSHeadRun.topDef hP 84) [] (fun f vs => PySem.call f vs) := by
  refine walk_ofS (l := PySem.Challenge.rw_saltstairs_k66_whole_curves_put_together) (n := 63) (k := 43) (x := "script") (CX := CX0) rfl (by decide) (by kernel_rfl) ⟨rfl, by decide, by decide⟩ (by kernel_rfl) ?_ (fun _ _ _ _ z => z)
  intro w mg fa h Yp ns nl G hmg
  obtain ⟨K, X, c⟩ := Yp
  obtain ⟨e0, fd, F⟩ := Look.def_at c 73
  rw [law_name] at hmg
  have e1 := PySem.W.mg_of X G e0
  have e2 : fa = r_law.a := Value.ref.inj (Option.some.inj (hmg.symm.trans e1))
  subst e2
  have b := FunD.bindsA (ps := ["script"]) F fun _ _ _ _ _ _ us hl => match us, hl with | [_], _ => rfl
  exact ⟨K, fd, spP K S_law, X, fun s v => b s [v] rfl, fun H a ns hl hbits hS => law_sp hS (.mk hl), fun base Y _ => c_law (txt_of c X Y G ns nl rfl) F⟩
end B
set_option maxRecDepth 100000 in
set_option maxHeartbeats 0 in
theorem PySem.Challenge.cw_saltstairs_k66_whole_curves_put_together_holds : PySem.Challenge.rw_saltstairs_k66_whole_curves_put_together.Holds := by
  w_on; o_law
  refine HandSHeadRun.head_imp (r := B.hR) (q := B.hV) (H := B.hH) (ob := B.hO) (M := 100000) (loose := B.hNm) (d := HandSHeadRun.topDef B.hP 84) (kwd := []) B.hO_eq B.hRun (by kernel_rfl) (by kernel_rfl) (by kernel_rfl) (by rfl) (by first | assumption | decide +kernel) (by decide +kernel) ⟨rfl, rfl, rfl, rfl, rfl, by decide +kernel⟩ ?hw ?hc
  case hw => w_witness2
  case hc => exact B.law_walk
