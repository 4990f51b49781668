import PyProof.Rows.All
import Wide.All
import OpenK.AllK
import Wide.FinOn
import HandS.ForMost
import HandS.IsInst
import HandS.TupAny
import HandS.Style
import HandS.Zip
import HandS.Conv
import KE.GoesEnum
import HandS.SetFor
import HandS.SortInts
import HandS.DictComp
import HandS.Strs
import HandS.Iter
import PySem.Challenge.RW_wholebeside_k69_what_is_below_and_above
set_option Elab.async false
set_option linter.all false
set_option maxRecDepth 100000
set_option maxHeartbeats 4000000
/-! DL: data over the hand layer. Values are data (D), lists that a body changes are owned by a slot. -/
namespace DL
open PySem PySem.Spec PyProof.Rows L2

/-! ### data -/
inductive D where
  | non | bl (b : Bool) | int (i : Int) | str (x : Str) | well
  | tup (xs : List D) | lst (xs : List D) | dct (ks : List Key) (ds : List D)
  /-- a tuple that is known to have no dict -/
  | ft (xs : List D)

mutual
def Rep (aw : Option Addr) (S : Hp) : D → V → Prop
  | .non, v => v = .non
  | .bl b, v => v = .bl b
  | .int i, v => v = .int i
  | .str x, v => v = .str x
  | .well, v => ∃ a, aw = some a ∧ v = .ref a
  | .tup ds, v => ∃ a vs, v = .ref a ∧ Rd S a (.tup vs) ∧ vs.length ≤ sizeLine ∧ Reps aw S ds vs
  | .ft ds, v => ∃ a vs o, v = .ref a ∧ (S a = some (.frz o (.tup vs)) ∧ o.dict = none ∧ o.cls = .type "tuple") ∧ vs.length ≤ sizeLine ∧ Reps aw S ds vs
  | .lst ds, v => ∃ a vs, v = .ref a ∧ S a = some (.lst vs) ∧ vs.length ≤ sizeLine ∧ Reps aw S ds vs
  | .dct ks ds, v => ∃ a kvs, v = .ref a ∧ S a = some (.dK kvs) ∧ kvs.map (·.1) = ks ∧ kvs.length ≤ sizeLine ∧ Reps aw S ds (kvs.map (·.2))
def Reps (aw : Option Addr) (S : Hp) : List D → List V → Prop
  | [], vs => vs = []
  | d :: ds, vs => ∃ v vr, vs = v :: vr ∧ Rep aw S d v ∧ Reps aw S ds vr
end

/-- more is tracked -/
def Le (S S' : Hp) : Prop := ∀ b o, S b = some o → S' b = some o
theorem Le.refl (S : Hp) : Le S S := fun _ _ h => h
theorem Le.trans {A B C : Hp} (h : Le A B) (k : Le B C) : Le A C := fun b o e => k b o (h b o e)
theorem Le.rd {A B : Hp} (l : Le A B) {a : Addr} {u : HO} (h : Rd A a u) : Rd B a u := by
  rcases h with h | ⟨o, h⟩
  · exact .inl (l _ _ h)
  · exact .inr ⟨o, l _ _ h⟩
theorem rdT {K : PySem.W.Frag} {H : Hp} {a : Addr} {xs : List V} (h : Rd H a (.tup xs)) : SqT K H a xs := .inl h
theorem Rd.injT {S : Hp} {a : Addr} {xs ys : List V} (h : Rd S a (.tup xs)) (h' : Rd S a (.tup ys)) : xs = ys := by
  rcases h with h | ⟨o, h⟩ <;> rcases h' with h' | ⟨o', h'⟩ <;> rw [h] at h' <;> cases h' <;> rfl
theorem le_upd {S : Hp} {a : Addr} {o : HO} (h : S a = none) : Le S (upd S a o) := fun b u e => by
  rw [upd_ne (ne_of_none e h)]
  exact e

section
variable {aw : Option Addr} {S S' : Hp}
mutual
theorem Rep.mono (l : Le S S') : ∀ {d : D} {v : V}, Rep aw S d v → Rep aw S' d v
  | .non, _, h => h
  | .bl _, _, h => h
  | .int _, _, h => h
  | .str _, _, h => h
  | .well, _, h => h
  | .tup ds, _, ⟨a, vs, e, h, z, r⟩ => ⟨a, vs, e, l.rd h, z, Reps.mono l r⟩
  | .ft ds, _, ⟨a, vs, o, e, ⟨h, h2, h3⟩, z, r⟩ => ⟨a, vs, o, e, ⟨l _ _ h, h2, h3⟩, z, Reps.mono l r⟩
  | .lst ds, _, ⟨a, vs, e, h, z, r⟩ => ⟨a, vs, e, l _ _ h, z, Reps.mono l r⟩
  | .dct ks ds, _, ⟨a, kvs, e, h, k, z, r⟩ => ⟨a, kvs, e, l _ _ h, k, z, Reps.mono l r⟩
theorem Reps.mono (l : Le S S') : ∀ {ds : List D} {vs : List V}, Reps aw S ds vs → Reps aw S' ds vs
  | [], _, h => h
  | d :: ds, _, ⟨v, vr, e, h, t⟩ => ⟨v, vr, e, Rep.mono l h, Reps.mono l t⟩
end
theorem Reps.nil : Reps aw S [] [] := rfl
theorem Reps.cons {d : D} {v : V} {ds : List D} {vs : List V} (h : Rep aw S d v) (t : Reps aw S ds vs) : Reps aw S (d :: ds) (v :: vs) := ⟨v, vs, rfl, h, t⟩
theorem Reps.length : ∀ {ds : List D} {vs : List V}, Reps aw S ds vs → ds.length = vs.length
  | [], _, h => by have h : _ = [] := h; subst h; rfl
  | d :: ds, _, ⟨v, vr, e, h, t⟩ => by subst e; simp [Reps.length t]
theorem Reps.get : ∀ {ds : List D} {vs : List V} {i : Nat} {d : D}, Reps aw S ds vs → ds[i]? = some d → ∃ v, vs[i]? = some v ∧ Rep aw S d v
  | [], _, _, _, _, e => by simp at e
  | d :: ds, _, 0, _, ⟨v, vr, e, h, t⟩, q => by subst e; simp at q; subst q; exact ⟨v, rfl, h⟩
  | d :: ds, _, i + 1, x, ⟨v, vr, e, h, t⟩, q => by
    subst e
    obtain ⟨w, h1, h2⟩ := Reps.get (i := i) t (by simpa using q)
    exact ⟨w, by simpa using h1, h2⟩
theorem Reps.get' : ∀ {ds : List D} {vs : List V} {i : Nat} {v : V}, Reps aw S ds vs → vs[i]? = some v → ∃ d, ds[i]? = some d ∧ Rep aw S d v
  | [], _, _, _, h, e => by have h : _ = [] := h; subst h; simp at e
  | d :: ds, _, 0, _, ⟨v, vr, e, h, t⟩, q => by subst e; simp at q; subst q; exact ⟨d, rfl, h⟩
  | d :: ds, _, i + 1, x, ⟨v, vr, e, h, t⟩, q => by
    subst e
    obtain ⟨w, h1, h2⟩ := Reps.get' (i := i) t (by simpa using q)
    exact ⟨w, by simpa using h1, h2⟩
theorem Reps.append : ∀ {ds es : List D} {vs ws : List V}, Reps aw S ds vs → Reps aw S es ws → Reps aw S (ds ++ es) (vs ++ ws)
  | [], _, _, _, h, k => by have h : _ = [] := h; subst h; exact k
  | d :: ds, _, _, _, ⟨v, vr, e, h, t⟩, k => by subst e; exact ⟨v, _, rfl, h, Reps.append t k⟩
theorem Reps.snoc {ds : List D} {vs : List V} {d : D} {v : V} (h : Reps aw S ds vs) (r : Rep aw S d v) : Reps aw S (ds ++ [d]) (vs ++ [v]) := h.append (.cons r .nil)
theorem Reps.set : ∀ {ds : List D} {vs : List V} (i : Nat) {d : D} {v : V}, Reps aw S ds vs → Rep aw S d v → Reps aw S (ds.set i d) (vs.set i v)
  | [], _, _, _, _, h, _ => by have h : _ = [] := h; subst h; exact rfl
  | d :: ds, _, 0, _, _, ⟨v, vr, e, h, t⟩, r => by subst e; exact ⟨_, _, rfl, r, t⟩
  | d :: ds, _, i + 1, _, _, ⟨v, vr, e, h, t⟩, r => by subst e; exact ⟨_, _, rfl, h, Reps.set i t r⟩
theorem Reps.take : ∀ {ds : List D} {vs : List V} (n : Nat), Reps aw S ds vs → Reps aw S (ds.take n) (vs.take n)
  | _, _, 0, _ => by simp; exact rfl
  | [], _, _ + 1, h => by have h : _ = [] := h; subst h; exact rfl
  | d :: ds, _, n + 1, ⟨v, vr, e, h, t⟩ => by subst e; exact ⟨_, _, rfl, h, Reps.take n t⟩
theorem Reps.drop : ∀ {ds : List D} {vs : List V} (n : Nat), Reps aw S ds vs → Reps aw S (ds.drop n) (vs.drop n)
  | _, _, 0, h => h
  | [], _, _ + 1, h => by have h : _ = [] := h; subst h; exact rfl
  | d :: ds, _, n + 1, ⟨v, vr, e, h, t⟩ => by subst e; exact Reps.drop n t
theorem Reps.eraseIdx : ∀ {ds : List D} {vs : List V} (n : Nat), Reps aw S ds vs → Reps aw S (ds.eraseIdx n) (vs.eraseIdx n)
  | [], _, _, h => by have h : _ = [] := h; subst h; exact rfl
  | d :: ds, _, 0, ⟨v, vr, e, h, t⟩ => by subst e; exact t
  | d :: ds, _, n + 1, ⟨v, vr, e, h, t⟩ => by subst e; exact ⟨_, _, rfl, h, Reps.eraseIdx n t⟩
theorem Reps.reverse : ∀ {ds : List D} {vs : List V}, Reps aw S ds vs → Reps aw S ds.reverse vs.reverse
  | [], _, h => by have h : _ = [] := h; subst h; exact rfl
  | d :: ds, _, ⟨v, vr, e, h, t⟩ => by subst e; simpa using (Reps.reverse t).append (.cons h .nil)
theorem Reps.mem {ds : List D} {vs : List V} {v : V} (h : Reps aw S ds vs) (m : v ∈ vs) : ∃ d ∈ ds, Rep aw S d v := by
  obtain ⟨i, hi⟩ := List.mem_iff_getElem?.mp m
  obtain ⟨d, h1, h2⟩ := h.get' hi
  exact ⟨d, List.mem_of_getElem? h1, h2⟩
end

/-! ### the well: a list of ints that draws change -/
def WellOK (ns : List Int) : Prop := ∃ w0 w1 w2 w3 cells, ns = w0 :: w1 :: w2 :: w3 :: cells ∧ 0 ≤ w0 ∧ 4 ≤ w3 ∧ ns.length ≤ 1000

structure Wf (aw : Option Addr) (S H : Hp) : Prop where
  sub : Le S H
  well : ∀ a, aw = some a → S a = none ∧ ∃ ns : List Int, H a = some (.lst (ns.map V.int)) ∧ WellOK ns

/-- from (S, H) to (S', H'): what was tracked stands but the well; what is new in S' was new -/
structure Ext (aw : Option Addr) (S H S' H' : Hp) : Prop where
  wf : Wf aw S' H'
  le : Le S S'
  new : ∀ b o, S' b = some o → S b = some o ∨ H b = none
  keep : ∀ b o, H b = some o → aw ≠ some b → H' b = some o
section
variable {aw : Option Addr} {S H S1 H1 S2 H2 : Hp}
theorem Ext.refl (w : Wf aw S H) : Ext aw S H S H := ⟨w, Le.refl _, fun _ _ h => .inl h, fun _ _ h _ => h⟩
theorem Ext.there (x : Ext aw S H S1 H1) {b : Addr} (h : H1 b = none) : H b = none ∨ aw = some b := by
  cases q : H b with
  | none => exact .inl rfl
  | some o =>
    by_cases e : aw = some b
    · exact .inr e
    · rw [x.keep b o q e] at h; cases h
theorem Ext.free (x : Ext aw S H S1 H1) {b : Addr} (h : H1 b = none) : H b = none := by
  cases q : H b with
  | none => rfl
  | some o =>
    by_cases e : aw = some b
    · obtain ⟨_, ns, z, _⟩ := x.wf.well b e
      rw [z] at h; cases h
    · rw [x.keep b o q e] at h; cases h
theorem Ext.trans (x : Ext aw S H S1 H1) (y : Ext aw S1 H1 S2 H2) : Ext aw S H S2 H2 where
  wf := y.wf
  le := x.le.trans y.le
  new := fun b o h => by
    rcases y.new b o h with e | e
    · exact x.new b o e
    · exact .inr (x.free e)
  keep := fun b o h n => y.keep b o (x.keep b o h n) n
/-- a new object of data -/
theorem Ext.put (x : Ext aw S H S1 H1) {p : Addr} {o : HO} (hp : H1 p = none) : Ext aw S H (upd S1 p o) (upd H1 p o) := by
  have hs : S1 p = none := by
    cases q : S1 p with
    | none => rfl
    | some u => rw [x.wf.sub p u q] at hp; cases hp
  have nw : ∀ a, aw = some a → a ≠ p := fun a e z => by
    subst z
    obtain ⟨_, ns, h, _⟩ := x.wf.well a e
    rw [h] at hp; cases hp
  refine ⟨⟨fun b u e => ?_, fun a e => ?_⟩, x.le.trans (le_upd hs), fun b u e => ?_, fun b u e n => ?_⟩
  · by_cases hb : b = p
    · subst hb; rw [upd_same] at e ⊢; exact e
    · rw [upd_ne hb] at e ⊢; exact x.wf.sub b u e
  · obtain ⟨h1, ns, h2, h3⟩ := x.wf.well a e
    exact ⟨by rw [upd_ne (nw a e)]; exact h1, ns, by rw [upd_ne (nw a e)]; exact h2, h3⟩
  · by_cases hb : b = p
    · subst hb; exact .inr (x.free hp)
    · rw [upd_ne hb] at e; exact x.new b u e
  · rw [upd_ne (ne_of_none (x.keep b u e n) hp)]
    exact x.keep b u e n
/-- a new object that is not yet data (an owned list) -/
theorem Ext.lay (x : Ext aw S H S1 H1) {p : Addr} {o : HO} (hp : H1 p = none) : Ext aw S H S1 (upd H1 p o) := by
  have nw : ∀ a, aw = some a → a ≠ p := fun a e z => by
    subst z
    obtain ⟨_, ns, h, _⟩ := x.wf.well a e
    rw [h] at hp; cases hp
  refine ⟨⟨fun b u e => ?_, fun a e => ?_⟩, x.le, x.new, fun b u e n => ?_⟩
  · rw [upd_ne (ne_of_none (x.wf.sub b u e) hp)]
    exact x.wf.sub b u e
  · obtain ⟨h1, ns, h2, h3⟩ := x.wf.well a e
    exact ⟨h1, ns, by rw [upd_ne (nw a e)]; exact h2, h3⟩
  · rw [upd_ne (ne_of_none (x.keep b u e n) hp)]
    exact x.keep b u e n
end

/-! ### slots -/
inductive SV where
  | no | sh (d : D) | ow (xs : List D) | ow2 (xss : List (List D)) | od (kvs : List (Key × D))
  /-- an owned list while a loop walks it -/
  | hd (a : Addr) (xs : List D)
abbrev DEnv := List SV

def SlotR (aw : Option Addr) (S H : Hp) : SV → Option V → List Addr → Prop
  | .no, _, os => os = []
  | .sh d, ov, os => os = [] ∧ ∃ v, ov = some v ∧ Rep aw S d v
  | .ow ds, ov, os => ∃ a vs, ov = some (.ref a) ∧ os = [a] ∧ H a = some (.lst vs) ∧ vs.length ≤ sizeLine ∧ Reps aw S ds vs
  | .hd a ds, ov, os => ∃ vs, ov = some (.ref a) ∧ os = [a] ∧ H a = some (.lst vs) ∧ vs.length ≤ sizeLine ∧ Reps aw S ds vs
  | .ow2 dss, ov, os => ∃ a bs, ov = some (.ref a) ∧ os = a :: bs ∧ H a = some (.lst (bs.map V.ref)) ∧ bs.length ≤ sizeLine ∧
      Paired (fun ds b => ∃ vs, H b = some (.lst vs) ∧ vs.length ≤ sizeLine ∧ Reps aw S ds vs) dss bs
  | .od ks, ov, os => ∃ a kvs, ov = some (.ref a) ∧ os = [a] ∧ H a = some (.dK kvs) ∧ kvs.map (·.1) = ks.map (·.1) ∧ kvs.length ≤ sizeLine ∧ Reps aw S (ks.map (·.2)) (kvs.map (·.2))

/-- what the slots own: f tells the addresses of each slot -/
structure Own (aw : Option Addr) (H0 : Hp) (ρ : DEnv) (σ : L2.St) (S H : Hp) (f : Nat → List Addr) : Prop where
  slot : ∀ i, SlotR aw S H (ρ.getD i .no) (σ.getD i none) (f i)
  nd : ∀ i, (f i).Nodup
  apart : ∀ i j a, a ∈ f i → a ∈ f j → i = j
  ok : ∀ i a, a ∈ f i → S a = none ∧ H0 a = none ∧ aw ≠ some a ∧ H a ≠ none

structure Rel (aw : Option Addr) (S0 H0 : Hp) (ρ : DEnv) (σ : L2.St) (S H : Hp) : Prop where
  ext : Ext aw S0 H0 S H
  len : ρ.length = σ.length
  own : ∃ f, Own aw H0 ρ σ S H f

section
variable {aw : Option Addr} {S0 H0 S H S' H' : Hp} {ρ : DEnv} {σ : L2.St} {f : Nat → List Addr}
theorem Paired.imp {α β : Type} {F G : α → β → Prop} : ∀ {l : List α} {m : List β}, Paired F l m → (∀ a b, b ∈ m → F a b → G a b) → Paired G l m
  | _, _, .nil, _ => .nil
  | _, _, .cons r t, k => .cons (k _ _ List.mem_cons_self r) (Paired.imp t fun a b m => k a b (List.mem_cons_of_mem _ m))
theorem SlotR.mono {s : SV} {ov : Option V} {os : List Addr} (l : Le S S') (k : ∀ a ∈ os, H' a = H a) (h : SlotR aw S H s ov os) : SlotR aw S' H' s ov os := by
  cases s with
  | no => exact h
  | sh d => obtain ⟨e, v, h1, h2⟩ := h; exact ⟨e, v, h1, h2.mono l⟩
  | ow ds =>
    obtain ⟨a, vs, h1, h2, h3, h4, h5⟩ := h
    exact ⟨a, vs, h1, h2, by rw [k a (by rw [h2]; simp)]; exact h3, h4, h5.mono l⟩
  | hd a ds =>
    obtain ⟨vs, h1, h2, h3, h4, h5⟩ := h
    exact ⟨vs, h1, h2, by rw [k a (by rw [h2]; simp)]; exact h3, h4, h5.mono l⟩
  | ow2 dss =>
    obtain ⟨a, bs, h1, h2, h3, h4, h5⟩ := h
    refine ⟨a, bs, h1, h2, by rw [k a (by rw [h2]; simp)]; exact h3, h4, Paired.imp h5 fun ds b m ⟨vs, z1, z2, z3⟩ => ⟨vs, by rw [k b (by rw [h2]; exact List.mem_cons_of_mem _ m)]; exact z1, z2, z3.mono l⟩⟩
  | od ks =>
    obtain ⟨a, kvs, h1, h2, h3, h4, h5, h6⟩ := h
    exact ⟨a, kvs, h1, h2, by rw [k a (by rw [h2]; simp)]; exact h3, h4, h5, h6.mono l⟩
theorem Own.ext (o : Own aw H0 ρ σ S H f) (x : Ext aw S H S' H') : Own aw H0 ρ σ S' H' f where
  slot := fun i => (o.slot i).mono x.le fun a m => by
    obtain ⟨_, _, n, hh⟩ := o.ok i a m
    cases q : H a with
    | none => exact absurd q hh
    | some u => exact x.keep a u q n
  nd := o.nd
  apart := o.apart
  ok := fun i a m => by
    obtain ⟨h1, h2, h3, h4⟩ := o.ok i a m
    refine ⟨?_, h2, h3, fun z => h4 (x.free z)⟩
    cases q : S' a with
    | none => rfl
    | some u =>
      rcases x.new a u q with e | e
      · rw [h1] at e; cases e
      · exact absurd e h4
/-- behind an expression -/
theorem Rel.go (r : Rel aw S0 H0 ρ σ S H) (x : Ext aw S H S' H') : Rel aw S0 H0 ρ σ S' H' :=
  ⟨r.ext.trans x, r.len, let ⟨f, o⟩ := r.own; ⟨f, o.ext x⟩⟩
theorem Rel.wf (r : Rel aw S0 H0 ρ σ S H) : Wf aw S H := r.ext.wf
end

/-! ### readings over data -/
abbrev TD := DEnv → (D → Prop) → Prop
abbrev TDT := DEnv → (Bool → Prop) → Prop
abbrev TDA := DEnv → (List D → Prop) → Prop
structure DEnds where
  nx : DEnv → Prop
  rt : D → Prop
  bk : DEnv → Prop := fun _ => False
  ct : DEnv → Prop := fun _ => False
abbrev TDS := DEnds → DEnv → Prop

def lift (aw : Option Addr) (S0 H0 : Hp) (td : TD) : TE := fun σ H k => ∃ ρ S Q, Rel aw S0 H0 ρ σ S H ∧ td ρ Q ∧ ∀ d, Q d → ∀ v S' H', Ext aw S H S' H' → Rep aw S' d v → k v H'
def liftT (aw : Option Addr) (S0 H0 : Hp) (td : TDT) : TT := fun σ H k => ∃ ρ S Q, Rel aw S0 H0 ρ σ S H ∧ td ρ Q ∧ ∀ b, Q b → ∀ S' H', Ext aw S H S' H' → k b H'
def liftA (aw : Option Addr) (S0 H0 : Hp) (td : TDA) : TA := fun σ H k => ∃ ρ S Q, Rel aw S0 H0 ρ σ S H ∧ td ρ Q ∧ ∀ ds, Q ds → ∀ vs S' H', Ext aw S H S' H' → Reps aw S' ds vs → k vs H'
/-- a list that was just made and that nobody else holds -/
def liftF (aw : Option Addr) (S0 H0 : Hp) (td : TDA) : TE := fun σ H k => ∃ ρ S Q, Rel aw S0 H0 ρ σ S H ∧ td ρ Q ∧ ∀ ds, Q ds → ∀ a vs S' H', Ext aw S H S' H' → S' a = none → H a = none → aw ≠ some a → H' a = some (.lst vs) → vs.length ≤ sizeLine → Reps aw S' ds vs → k (.ref a) H'
structure EndsImp (aw : Option Addr) (S0 H0 S : Hp) (K : DEnds) (E : Ends) : Prop where
  nx : ∀ ρ, K.nx ρ → ∀ σ S' H', Le S S' → Rel aw S0 H0 ρ σ S' H' → E.nx σ H'
  rt : ∀ d, K.rt d → ∀ v S' H', Ext aw S0 H0 S' H' → Rep aw S' d v → E.rt v H'
  bk : ∀ ρ, K.bk ρ → ∀ σ S' H', Le S S' → Rel aw S0 H0 ρ σ S' H' → E.bk σ H'
  ct : ∀ ρ, K.ct ρ → ∀ σ S' H', Le S S' → Rel aw S0 H0 ρ σ S' H' → E.ct σ H'
def liftS (aw : Option Addr) (S0 H0 : Hp) (td : TDS) : TS := fun E σ H => ∃ ρ S K, Rel aw S0 H0 ρ σ S H ∧ td K ρ ∧ EndsImp aw S0 H0 S K E
theorem EndsImp.le {aw : Option Addr} {S0 H0 S S1 : Hp} {K : DEnds} {E : Ends} (i : EndsImp aw S0 H0 S K E) (l : Le S S1) : EndsImp aw S0 H0 S1 K E :=
  ⟨fun ρ h σ S' H' l' r => i.nx ρ h σ S' H' (l.trans l') r, i.rt, fun ρ h σ S' H' l' r => i.bk ρ h σ S' H' (l.trans l') r, fun ρ h σ S' H' l' r => i.ct ρ h σ S' H' (l.trans l') r⟩

structure DE (X : Cx) (e : Expr) (td : TD) : Prop where
  run : ∀ aw S0 H0, PE X e (lift aw S0 H0 td)
structure DT (X : Cx) (e : Expr) (td : TDT) : Prop where
  run : ∀ aw S0 H0, PT X e (liftT aw S0 H0 td)
structure DW (X : Cx) (e : Expr) (td : TDT) : Prop where
  run : ∀ aw S0 H0, PW X e (liftT aw S0 H0 td)
structure DA (X : Cx) (es : List Expr) (td : TDA) : Prop where
  run : ∀ aw S0 H0, PA X es (liftA aw S0 H0 td)
structure DF (X : Cx) (e : Expr) (td : TDA) : Prop where
  run : ∀ aw S0 H0, PE X e (liftF aw S0 H0 td)
structure DS (X : Cx) (st : Stmt) (td : TDS) : Prop where
  run : ∀ aw S0 H0, PS X st (liftS aw S0 H0 td)
structure DSs (X : Cx) (st : List Stmt) (td : TDS) : Prop where
  run : ∀ aw S0 H0, PSs X st (liftS aw S0 H0 td)

/-! weakening -/
theorem PE.imp {X : Cx} {e : Expr} {t t' : TE} (h : PE X e t) (i : ∀ σ H k, t' σ H k → t σ H k) : PE X e t' := ⟨fun pins s σ H Q I q => h.run pins s σ H Q I (i _ _ _ q)⟩
theorem PT.imp {X : Cx} {e : Expr} {t t' : TT} (h : PT X e t) (i : ∀ σ H k, t' σ H k → t σ H k) : PT X e t' := ⟨fun pins s σ H Q I q => h.run pins s σ H Q I (i _ _ _ q)⟩
theorem PW.imp {X : Cx} {e : Expr} {t t' : TT} (h : PW X e t) (i : ∀ σ H k, t' σ H k → t σ H k) : PW X e t' := ⟨fun wh pins s σ H Q I q => h.run wh pins s σ H Q I (i _ _ _ q)⟩
theorem PA.imp {X : Cx} {e : List Expr} {t t' : TA} (h : PA X e t) (i : ∀ σ H k, t' σ H k → t σ H k) : PA X e t' := ⟨fun pos pins s σ H Q I q => h.run pos pins s σ H Q I (i _ _ _ q)⟩
theorem PS.imp {X : Cx} {e : Stmt} {t t' : TS} (h : PS X e t) (i : ∀ D σ H, t' D σ H → t D σ H) : PS X e t' := ⟨fun pins s σ H Q I q => h.run pins s σ H Q I (i _ _ _ q)⟩
theorem PSs.imp {X : Cx} {e : List Stmt} {t t' : TS} (h : PSs X e t) (i : ∀ D σ H, t' D σ H → t D σ H) : PSs X e t' := ⟨fun pins s σ H Q I q => h.run pins s σ H Q I (i _ _ _ q)⟩
end DL
/-! DL: expressions -/
namespace DL
open PySem PySem.Spec PyProof.Rows L2

/-! ### the size of an argument list is known -/
section
variable {X : Cx} {aw : Option Addr} {S0 H0 : Hp}

def dVar (i : Nat) : TD := fun ρ Q => match ρ.getD i .no with | .sh d => Q d | _ => False
theorem getD_some {σ : L2.St} {i : Nat} {v : V} (h : σ.getD i none = some v) : σ[i]? = some (some v) := by
  rw [List.getD_eq_getElem?_getD] at h
  cases q : σ[i]? with
  | none => rw [q] at h; cases h
  | some o => rw [q] at h; simp at h; rw [h]
theorem de_var (i : Nat) {x : Str} {pos : Pos} (hN : X.N[i]? = some x := by rfl) (hv : Vis X.env.scope x := by first | exact Or.inl rfl | exact Or.inr (Or.inl rfl) | exact Or.inr (Or.inr rfl)) (hd : (x == ("__debug__" : Str)) = false := by decide)
    (hcd : (x == ("__classdict__" : Str)) = false := by decide) : DE X (.Name x pos) (dVar i) := ⟨fun aw S0 H0 => PE.imp (pe_var hN hv hd hcd) fun σ H k ⟨ρ, S, Q, r, h, c⟩ => by
  obtain ⟨f, o⟩ := r.own
  have hs := o.slot i
  unfold dVar at h
  split at h
  · rename_i d e
    rw [e] at hs
    obtain ⟨_, v, h1, h2⟩ := hs
    exact ⟨v, getD_some h1, c d h v S H (.refl r.wf) h2⟩
  · exact h.elim⟩

def dC (d : D) : TD := fun _ Q => Q d
theorem de_int {i j pos} : DE X (.Constant (.int i) j pos) (dC (.int i)) := ⟨fun aw S0 H0 => PE.imp pe_int fun σ H k ⟨ρ, S, Q, r, h, c⟩ => c _ h _ S H (.refl r.wf) rfl⟩
theorem de_bl {b j pos} : DE X (.Constant (.bool b) j pos) (dC (.bl b)) := ⟨fun aw S0 H0 => PE.imp pe_bl fun σ H k ⟨ρ, S, Q, r, h, c⟩ => c _ h _ S H (.refl r.wf) rfl⟩
theorem de_non {j pos} : DE X (.Constant .none j pos) (dC .non) := ⟨fun aw S0 H0 => PE.imp pe_non fun σ H k ⟨ρ, S, Q, r, h, c⟩ => c _ h _ S H (.refl r.wf) rfl⟩
theorem de_str {x j pos} : DE X (.Constant (.str x) j pos) (dC (.str x)) := ⟨fun aw S0 H0 => PE.imp pe_str fun σ H k ⟨ρ, S, Q, r, h, c⟩ => c _ h _ S H (.refl r.wf) rfl⟩

/-! arguments -/
def dNil : TDA := fun _ Q => Q []
def dCons (ta : TD) (tr : TDA) : TDA := fun ρ Q => ta ρ fun d => tr ρ fun ds => Q (d :: ds)
theorem da_nil : DA X [] dNil := ⟨fun aw S0 H0 => PA.imp pa_nil fun σ H k ⟨ρ, S, Q, r, h, c⟩ => c _ h _ S H (.refl r.wf) .nil⟩
theorem da_cons {e : Expr} {es : List Expr} {ta : TD} {tr : TDA} (ha : DE X e ta) (hr : DA X es tr) (hs : starEach (e :: es) X.env = (false, eval e X.env) :: starEach es X.env := by rfl) : DA X (e :: es) (dCons ta tr) :=
  ⟨fun aw S0 H0 => PA.imp (pa_cons (ha.run aw S0 H0) (hr.run aw S0 H0) hs) fun σ H k ⟨ρ, S, Q, r, h, c⟩ =>
    ⟨ρ, S, _, r, h, fun d hd v S1 H1 x1 r1 => ⟨ρ, S1, _, r.go x1, hd, fun ds hds vs S2 H2 x2 r2 => c _ hds _ S2 H2 (x1.trans x2) (.cons (r1.mono x2.le) r2)⟩⟩⟩

/-! two-place operations -/
abbrev DOp := D → D → (D → Prop) → Prop
/-- what a value rule asks, from the data -/
def Imp2 (r : R2) (dop : DOp) : Prop := ∀ (aw : Option Addr) (S H : Hp) (x y : D) (vx vy : V) (k : VK) (Q : D → Prop), Wf aw S H → Rep aw S x vx → Rep aw S y vy → dop x y Q →
  (∀ d, Q d → ∀ v S' H', Ext aw S H S' H' → Rep aw S' d v → k v H') → r vx vy H k
def dOp (dop : DOp) (ta tb : TD) : TD := fun ρ Q => ta ρ fun x => tb ρ fun y => dop x y Q
theorem op2 {r : R2} {dop : DOp} (i : Imp2 r dop) {ta tb : TD} {aw : Option Addr} {S0 H0 : Hp} : ∀ σ H k, lift aw S0 H0 (dOp dop ta tb) σ H k → tOp r (lift aw S0 H0 ta) (lift aw S0 H0 tb) σ H k :=
  fun σ H k ⟨ρ, S, Q, r, h, c⟩ => ⟨ρ, S, _, r, h, fun d hd v S1 H1 x1 r1 => ⟨ρ, S1, _, r.go x1, hd, fun e he w S2 H2 x2 r2 =>
    i aw S2 H2 d e v w k Q x2.wf (r1.mono x2.le) r2 he fun z hz u S3 H3 x3 r3 => c z hz u S3 H3 ((x1.trans x2).trans x3) r3⟩⟩
theorem de_op {op : Operator} {r : R2} {dop : DOp} {a b : Expr} {ta tb : TD} {pos : Pos} (ho : OpR X (binaryOp op) r) (i : Imp2 r dop) (ha : DE X a ta) (hb : DE X b tb) : DE X (.BinOp a op b pos) (dOp dop ta tb) :=
  ⟨fun aw S0 H0 => PE.imp (pe_op ho (ha.run aw S0 H0) (hb.run aw S0 H0)) (op2 i)⟩
theorem de_cmp {op : CmpOp} {r : R2} {dop : DOp} {a b : Expr} {ta tb : TD} {pos : Pos} (ho : OpR X (compareOp op) r) (i : Imp2 r dop) (ha : DE X a ta) (hb : DE X b tb) (hm : behindInMarks op b = false) : DE X (.Compare a [op] [b] pos) (dOp dop ta tb) :=
  ⟨fun aw S0 H0 => PE.imp (pe_cmpR ho (ha.run aw S0 H0) (hb.run aw S0 H0) hm) (op2 i)⟩
/-- a value as a test -/
def dT (td : TD) : TDT := fun ρ Q => td ρ fun d => match d with | .bl b => Q b | _ => False
theorem tst {td : TD} {aw : Option Addr} {S0 H0 : Hp} : ∀ σ H k, liftT aw S0 H0 (dT td) σ H k → tTest (lift aw S0 H0 td) σ H k :=
  fun σ H k ⟨ρ, S, Q, r, h, c⟩ => ⟨ρ, S, _, r, h, fun d hd v S1 H1 x1 r1 => by
    split at hd
    · rename_i b
      exact ⟨b, r1, c b hd S1 H1 x1⟩
    · exact hd.elim⟩
theorem dt_cmp {op : CmpOp} {r : R2} {dop : DOp} {a b : Expr} {ta tb : TD} {pos : Pos} (ho : OpR X (compareOp op) r) (i : Imp2 r dop) (ha : DE X a ta) (hb : DE X b tb) (hm : behindInMarks op b = false) : DT X (.Compare a [op] [b] pos) (dT (dOp dop ta tb)) :=
  ⟨fun aw S0 H0 => PT.imp (pt_cmpR ho (ha.run aw S0 H0) (hb.run aw S0 H0) hm) fun σ H k h => by
    obtain ⟨ρ, S, Q, r, h, c⟩ := h
    have h2 := tst (td := dOp dop ta tb) σ H k ⟨ρ, S, Q, r, h, c⟩
    obtain ⟨ρ', S', Q', r', h', c'⟩ := h2
    exact op2 i σ H _ ⟨ρ', S', Q', r', h', c'⟩⟩
theorem dt_val {e : Expr} {td : TD} (h : DE X e td) (he : ∀ whole, isTrue e X.env whole = (do let v ← whole; standAt e.pos; holding [v] (truthy v)) := by intro _; rfl) : DT X e (dT td) :=
  ⟨fun aw S0 H0 => PT.imp (pt_val (h.run aw S0 H0) he) fun σ H k hh => tst σ H k hh⟩

/-! the operations -/
def opAdd : DOp := fun x y Q => match x, y with
  | .int i, .int j => Q (.int (i + j))
  | .lst xs, .lst ys => xs.length + ys.length ≤ sizeLine ∧ Q (.lst (xs ++ ys))
  | .tup xs, .tup ys => xs.length + ys.length ≤ sizeLine ∧ Q (.tup (xs ++ ys))
  | _, _ => False
theorem lenR {aw : Option Addr} {S : Hp} {ds : List D} {vs : List V} (r : Reps aw S ds vs) : ds.length = vs.length := r.length
theorem imp_add : Imp2 (fun x y H Q => rI0 (fun i j => .int (i + j)) x y H Q ∨ rCat x y H Q ∨ rCatA X.K x y H Q) opAdd := by
  intro aw S H x y vx vy k Q w rx ry h c
  unfold opAdd at h
  split at h
  · rename_i i j
    cases rx
    cases ry
    exact .inl ⟨i, j, rfl, rfl, c _ h _ S H (.refl w) rfl⟩
  · rename_i xs ys
    obtain ⟨a, vs, rfl, h1, z1, r1⟩ := rx
    obtain ⟨b, ws, rfl, h2, z2, r2⟩ := ry
    obtain ⟨hz, h⟩ := h
    rw [lenR r1, lenR r2] at hz
    refine .inr (.inl ⟨a, b, vs, ws, rfl, rfl, w.sub _ _ h1, w.sub _ _ h2, hz, fun p hp => ?_⟩)
    have x := (Ext.refl w).put (o := .lst (vs ++ ws)) hp
    exact c _ h _ _ _ x ⟨p, _, rfl, upd_same, by rw [List.length_append]; exact hz, (r1.append r2).mono x.le⟩
  · rename_i xs ys
    obtain ⟨a, vs, rfl, h1, z1, r1⟩ := rx
    obtain ⟨b, ws, rfl, h2, z2, r2⟩ := ry
    obtain ⟨hz, h⟩ := h
    rw [lenR r1, lenR r2] at hz
    have l1 := lenR r1
    have l2 := lenR r2
    refine .inr (.inr ⟨a, b, vs, ws, rfl, rfl, rdT (w.sub.rd h1), rdT (w.sub.rd h2), hz, fun e => ?_, fun _ e => ?_, fun _ _ p hp => ?_⟩)
    · subst e
      have e : xs = [] := List.eq_nil_of_length_eq_zero (by simpa using l1)
      subst e
      exact c _ h _ S H (.refl w) ⟨b, ws, rfl, h2, z2, r2⟩
    · subst e
      have e : ys = [] := List.eq_nil_of_length_eq_zero (by simpa using l2)
      subst e
      rw [List.append_nil] at h
      exact c _ h _ S H (.refl w) ⟨a, vs, rfl, h1, z1, r1⟩
    · have x := (Ext.refl w).put (o := .tup (vs ++ ws)) hp
      exact c _ h _ _ _ x ⟨p, _, rfl, .of upd_same, by rw [List.length_append]; exact hz, (r1.append r2).mono x.le⟩
  · exact h.elim
theorem de_add {a b : Expr} {ta tb : TD} {pos : Pos} (ha : DE X a ta) (hb : DE X b tb) : DE X (.BinOp a .Add b pos) (dOp opAdd ta tb) := de_op (op_add.or (op_cat.or op_catA)) imp_add ha hb

def opSub : DOp := fun x y Q => match x, y with
  | .int i, .int j => Q (.int (i - j))
  | _, _ => False
theorem imp_sub : Imp2 (rI0 (fun i j => .int (i - j))) opSub := by
  intro aw S H x y vx vy k Q w rx ry h c
  unfold opSub at h
  split at h
  · rename_i i j
    cases rx
    cases ry
    exact ⟨i, j, rfl, rfl, c _ h _ S H (.refl w) rfl⟩
  · exact h.elim
theorem de_sub {a b : Expr} {ta tb : TD} {pos : Pos} (ha : DE X a ta) (hb : DE X b tb) : DE X (.BinOp a .Sub b pos) (dOp opSub ta tb) := de_op op_sub imp_sub ha hb

/-- a product of ints; a list k times -/
def opMul : DOp := fun x y Q => match x, y with
  | .int i, .int j => CMul i j ∧ Q (.int (i * j))
  | .lst xs, .int j => (j ≤ 2 ^ 24 ∧ xs.length * j.toNat ≤ sizeLine) ∧ -(2 ^ 63) ≤ j ∧ Q (.lst (List.replicate j.toNat xs).flatten)
  | _, _ => False
theorem Reps.rep {aw : Option Addr} {S : Hp} {ds : List D} {vs : List V} (r : Reps aw S ds vs) : ∀ k : Nat, Reps aw S (List.replicate k ds).flatten (List.replicate k vs).flatten
  | 0 => by simp; exact rfl
  | k + 1 => by rw [List.replicate_succ, List.replicate_succ, List.flatten_cons, List.flatten_cons]; exact r.append (Reps.rep r k)
theorem flat_len {α : Type} (xs : List α) : ∀ k : Nat, (List.replicate k xs).flatten.length = xs.length * k
  | 0 => by simp
  | k + 1 => by rw [List.replicate_succ, List.flatten_cons, List.length_append, flat_len xs k, Nat.mul_succ]; omega
end
end DL
/-! DL: more expressions -/
namespace DL
open PySem PySem.Spec PyProof.Rows L2

/-! ### data as the model's data, for == and in -/
mutual
def D.py : D → PyData
  | .non => .none
  | .bl b => .bool b
  | .int i => .int i
  | .str x => .str x
  | .well => .none
  | .tup xs => .tuple (D.pys xs)
  | .lst xs => .list (D.pys xs)
  | .dct _ _ => .none
  | .ft _ => .none
def D.pys : List D → List PyData
  | [] => []
  | x :: xs => D.py x :: D.pys xs
end
theorem pys_map : ∀ xs : List D, D.pys xs = xs.map D.py
  | [] => rfl
  | x :: xs => by rw [D.pys, pys_map xs]; rfl
/-- data that == goes through: n bounds its depth -/
def eokd : Nat → D → Bool
  | 0, _ => false
  | n + 1, d => match d with
    | .non => true
    | .bl _ => true
    | .int _ => true
    | .str x => PyData.canLay0 (.str x)
    | .tup xs => xs.all (eokd n)
    | .lst xs => xs.all (eokd n)
    | .well => false
    | .dct _ _ => false
    | .ft _ => false
theorem eokd_mono : ∀ {n m : Nat} {d : D}, n ≤ m → eokd n d = true → eokd m d = true
  | 0, _, _, _, h => by simp [eokd] at h
  | n + 1, 0, _, l, _ => by omega
  | n + 1, m + 1, d, l, h => by
    cases d <;> simp only [eokd] at h ⊢ <;> try exact h
    all_goals
      rw [List.all_eq_true] at h ⊢
      exact fun x hx => eokd_mono (by omega) (h x hx)
theorem canLayAll_map {n : Nat} : ∀ {xs : List D}, (∀ x ∈ xs, eokd n x = true → PyData.canLay0 x.py = true ∧ PyData.depth x.py ≤ n) → xs.all (eokd n) = true → PyData.canLayAll0 (D.pys xs) = true ∧ PyData.depthAll (D.pys xs) ≤ n
  | [], _, _ => ⟨rfl, Nat.zero_le _⟩
  | x :: xs, h, e => by
    rw [List.all_cons, Bool.and_eq_true] at e
    obtain ⟨a1, a2⟩ := h x List.mem_cons_self e.1
    obtain ⟨b1, b2⟩ := canLayAll_map (xs := xs) (fun y hy => h y (List.mem_cons_of_mem _ hy)) e.2
    refine ⟨?_, ?_⟩
    · show (PyData.canLay0 x.py && PyData.canLayAll0 (D.pys xs)) = true
      rw [a1, b1]; rfl
    · show max (PyData.depth x.py) (PyData.depthAll (D.pys xs)) ≤ n
      omega
theorem eokd_lay : ∀ {n : Nat} {d : D}, eokd n d = true → PyData.canLay0 d.py = true ∧ PyData.depth d.py ≤ n
  | 0, _, h => by simp [eokd] at h
  | n + 1, d, h => by
    cases d with
    | non => exact ⟨rfl, Nat.zero_le _⟩
    | bl b => exact ⟨rfl, Nat.zero_le _⟩
    | int i => exact ⟨rfl, Nat.zero_le _⟩
    | str x => exact ⟨h, Nat.zero_le _⟩
    | well => simp [eokd] at h
    | dct _ _ => simp [eokd] at h
    | ft _ => simp [eokd] at h
    | tup xs =>
      obtain ⟨a, b⟩ := canLayAll_map (fun x _ e => eokd_lay e) (show xs.all (eokd n) = true from h)
      exact ⟨a, Nat.succ_le_succ b⟩
    | lst xs =>
      obtain ⟨a, b⟩ := canLayAll_map (fun x _ e => eokd_lay e) (show xs.all (eokd n) = true from h)
      exact ⟨a, Nat.succ_le_succ b⟩
theorem eokd_shaped {d : D} (h : eokd 60 d = true) : SeqAt.shaped d.py = true := by
  obtain ⟨a, b⟩ := eokd_lay h
  show (PyData.canLay0 d.py && decide (PyData.depth d.py ≤ 64)) = true
  rw [a, decide_eq_true (by omega)]; rfl
section
variable {aw : Option Addr} {S H : Hp} {K : PySem.W.Frag}
mutual
theorem Rep.dp (l : Le S H) : ∀ (n : Nat) {d : D} {v : V}, eokd n d = true → Rep aw S d v → Dp K H v d.py
  | 0, _, _, h, _ => by simp [eokd] at h
  | n + 1, .non, _, _, r => by cases r; exact .non
  | n + 1, .bl b, _, _, r => by cases r; exact .bl b
  | n + 1, .int i, _, _, r => by cases r; exact .int i
  | n + 1, .str x, _, _, r => by cases r; exact .str x
  | n + 1, .well, _, h, _ => by simp [eokd] at h
  | n + 1, .dct _ _, _, h, _ => by simp [eokd] at h
  | n + 1, .ft _, _, h, _ => by simp [eokd] at h
  | n + 1, .tup xs, _, h, ⟨a, vs, e, h1, z, r⟩ => by subst e; exact .tup (rdT (l.rd h1)) (Reps.dp l n (show xs.all (eokd n) = true from h) r)
  | n + 1, .lst xs, _, h, ⟨a, vs, e, h1, z, r⟩ => by subst e; exact .lst (.of (l _ _ h1)) (Reps.dp l n (show xs.all (eokd n) = true from h) r)
theorem Reps.dp (l : Le S H) : ∀ (n : Nat) {ds : List D} {vs : List V}, ds.all (eokd n) = true → Reps aw S ds vs → DpAll K H vs (D.pys ds)
  | n, [], _, _, h => by have h : _ = [] := h; subst h; exact .nil
  | n, d :: ds, _, h, ⟨v, vr, e, h1, t⟩ => by
    subst e
    rw [List.all_cons, Bool.and_eq_true] at h
    exact .cons (Rep.dp l n h.1 h1) (Reps.dp l n h.2 t)
end
end
def deq (x y : D) : Bool := PyData.eqv x.py y.py
section
variable {X : Cx}
def opEq : DOp := fun x y Q => (eokd 60 x = true ∧ eokd 60 y = true) ∧ Q (.bl (deq x y))
def opNe : DOp := fun x y Q => (eokd 60 x = true ∧ eokd 60 y = true) ∧ Q (.bl (!deq x y))
theorem imp_eq : Imp2 (rEqD X.K) opEq := fun aw S H x y vx vy k Q w rx ry h c =>
  ⟨x.py, y.py, rx.dp w.sub 60 h.1.1, ry.dp w.sub 60 h.1.2, eokd_shaped h.1.1, eokd_shaped h.1.2, c _ h.2 _ S H (.refl w) rfl⟩
theorem imp_ne : Imp2 (rNeD X.K) opNe := fun aw S H x y vx vy k Q w rx ry h c =>
  ⟨x.py, y.py, rx.dp w.sub 60 h.1.1, ry.dp w.sub 60 h.1.2, eokd_shaped h.1.1, eokd_shaped h.1.2, c _ h.2 _ S H (.refl w) rfl⟩
theorem room64 {k : Nat} (hr : Room k X.A) : X.A.units + 64 < cLine := by have := hr.un; omega
theorem room65 {k : Nat} (hr : Room k X.A) : X.A.units + 65 < cLine := by have := hr.un; omega
theorem room1 {k : Nat} (hr : Room k X.A) : X.A.units + 1 < cLine := by have := hr.un; omega
theorem room0 {k : Nat} (hr : Room k X.A) : X.A.units < cLine := by have := hr.un; omega
variable {a b : Expr} {ta tb : TD} {pos : Pos} {k : Nat}
theorem de_eq (hr : Room k X.A) (ha : DE X a ta) (hb : DE X b tb) : DE X (.Compare a [.Eq] [b] pos) (dOp opEq ta tb) := de_cmp (op_eqD (room64 hr)) imp_eq ha hb (nomark _)
theorem de_ne (hr : Room k X.A) (ha : DE X a ta) (hb : DE X b tb) : DE X (.Compare a [.NotEq] [b] pos) (dOp opNe ta tb) := de_cmp (op_neD (room64 hr)) imp_ne ha hb (nomark _)
theorem dt_eq (hr : Room k X.A) (ha : DE X a ta) (hb : DE X b tb) : DT X (.Compare a [.Eq] [b] pos) (dT (dOp opEq ta tb)) := dt_cmp (op_eqD (room64 hr)) imp_eq ha hb (nomark _)
theorem dt_ne (hr : Room k X.A) (ha : DE X a ta) (hb : DE X b tb) : DT X (.Compare a [.NotEq] [b] pos) (dT (dOp opNe ta tb)) := dt_cmp (op_neD (room64 hr)) imp_ne ha hb (nomark _)

/-! order -/
/-- all ints -/
def ints? : List D → Option (List Int)
  | [] => some []
  | .int i :: r => (ints? r).map (i :: ·)
  | _ :: _ => none
theorem ints?_map : ∀ ns : List Int, ints? (ns.map D.int) = some ns
  | [] => rfl
  | n :: ns => by rw [List.map_cons, ints?, ints?_map ns]; rfl
theorem ints?_reps {aw : Option Addr} {S : Hp} : ∀ {ds : List D} {vs : List V} {ns : List Int}, ints? ds = some ns → Reps aw S ds vs → vs = ns.map V.int
  | [], _, _, h, r => by cases h; have r : _ = [] := r; subst r; rfl
  | .int i :: ds, _, ns, h, ⟨v, vr, e, r, t⟩ => by
    subst e
    cases r
    rw [ints?, Option.map_eq_some_iff] at h
    obtain ⟨ms, h1, rfl⟩ := h
    rw [ints?_reps h1 t]; rfl
  | .non :: _, _, _, h, _ => by cases h
  | .bl _ :: _, _, _, h, _ => by cases h
  | .str _ :: _, _, _, h, _ => by cases h
  | .well :: _, _, _, h, _ => by cases h
  | .tup _ :: _, _, _, h, _ => by cases h
  | .lst _ :: _, _, _, h, _ => by cases h
  | .dct _ _ :: _, _, _, h, _ => by cases h
  | .ft _ :: _, _, _, h, _ => by cases h
def opLt : DOp := fun x y Q => match x, y with
  | .int i, .int j => Q (.bl (decide (i < j)))
  | .tup xs, .tup ys => match ints? xs, ints? ys with
    | some ns, some ms => Q (.bl (HT.lexLt ns ms))
    | _, _ => False
  | _, _ => False
theorem imp_lt : Imp2 (fun x y H Q => rI0 (fun i j => .bl (decide (i < j))) x y H Q ∨ rLtT X.K x y H Q) opLt := by
  intro aw S H x y vx vy k Q w rx ry h c
  unfold opLt at h
  split at h
  · cases rx
    cases ry
    exact .inl ⟨_, _, rfl, rfl, c _ h _ S H (.refl w) rfl⟩
  · split at h
    · rename_i ns ms e1 e2
      obtain ⟨p, vs, rfl, h1, z1, r1⟩ := rx
      obtain ⟨q, ws, rfl, h2, z2, r2⟩ := ry
      rw [ints?_reps e1 r1] at h1
      rw [ints?_reps e2 r2] at h2
      exact .inr ⟨p, q, ns, ms, rfl, rfl, rdT (w.sub.rd h1), rdT (w.sub.rd h2), c _ h _ S H (.refl w) rfl⟩
    · exact h.elim
  · exact h.elim
theorem de_lt (hr : Room k X.A) (ha : DE X a ta) (hb : DE X b tb) : DE X (.Compare a [.Lt] [b] pos) (dOp opLt ta tb) := de_cmp (op_lt.or (op_ltT (room0 hr))) imp_lt ha hb (nomark _)
theorem dt_lt (hr : Room k X.A) (ha : DE X a ta) (hb : DE X b tb) : DT X (.Compare a [.Lt] [b] pos) (dT (dOp opLt ta tb)) := dt_cmp (op_lt.or (op_ltT (room0 hr))) imp_lt ha hb (nomark _)
def opI (p : Int → Int → Bool) : DOp := fun x y Q => match x, y with
  | .int i, .int j => Q (.bl (p i j))
  | _, _ => False
theorem imp_I (p : Int → Int → Bool) : Imp2 (rI0 fun i j => .bl (p i j)) (opI p) := by
  intro aw S H x y vx vy k Q w rx ry h c
  unfold opI at h
  split at h
  · cases rx
    cases ry
    exact ⟨_, _, rfl, rfl, c _ h _ S H (.refl w) rfl⟩
  · exact h.elim
abbrev opLe : DOp := opI fun i j => decide (i ≤ j)
abbrev opGt : DOp := opI fun i j => decide (j < i)
abbrev opGe : DOp := opI fun i j => decide (j ≤ i)
theorem de_le (ha : DE X a ta) (hb : DE X b tb) : DE X (.Compare a [.LtE] [b] pos) (dOp opLe ta tb) := de_cmp op_le (imp_I _) ha hb (nomark _)
theorem dt_le (ha : DE X a ta) (hb : DE X b tb) : DT X (.Compare a [.LtE] [b] pos) (dT (dOp opLe ta tb)) := dt_cmp op_le (imp_I _) ha hb (nomark _)
theorem de_gt (ha : DE X a ta) (hb : DE X b tb) : DE X (.Compare a [.Gt] [b] pos) (dOp opGt ta tb) := de_cmp op_gt (imp_I _) ha hb (nomark _)
theorem dt_gt (ha : DE X a ta) (hb : DE X b tb) : DT X (.Compare a [.Gt] [b] pos) (dT (dOp opGt ta tb)) := dt_cmp op_gt (imp_I _) ha hb (nomark _)
theorem de_ge (ha : DE X a ta) (hb : DE X b tb) : DE X (.Compare a [.GtE] [b] pos) (dOp opGe ta tb) := de_cmp op_ge (imp_I _) ha hb (nomark _)
theorem dt_ge (ha : DE X a ta) (hb : DE X b tb) : DT X (.Compare a [.GtE] [b] pos) (dT (dOp opGe ta tb)) := dt_cmp op_ge (imp_I _) ha hb (nomark _)
/-- is None -/
def isNon : D → Bool
  | .non => true
  | _ => false
theorem isNon_rep {aw : Option Addr} {S : Hp} {d : D} {v : V} (r : Rep aw S d v) : decide (v = .non) = isNon d := by
  cases d with
  | non => cases r; rfl
  | bl b => cases r; rfl
  | int i => cases r; rfl
  | str x => cases r; rfl
  | well => obtain ⟨a, _, rfl⟩ := r; rfl
  | tup _ => obtain ⟨a, _, rfl, _⟩ := r; rfl
  | lst _ => obtain ⟨a, _, rfl, _⟩ := r; rfl
  | dct _ _ => obtain ⟨a, _, rfl, _⟩ := r; rfl
  | ft _ => obtain ⟨a, _, _, rfl, _⟩ := r; rfl
def opIs : DOp := fun x y Q => match y with
  | .non => Q (.bl (isNon x))
  | _ => False
def opIsNot : DOp := fun x y Q => match y with
  | .non => Q (.bl (!isNon x))
  | _ => False
theorem de_is (ha : DE X a ta) (hb : DE X b tb) : DE X (.Compare a [.Is] [b] pos) (dOp opIs ta tb) := de_cmp op_isN (fun aw S H x y vx vy k Q w rx ry h c => by
  unfold opIs at h
  split at h
  · cases ry
    refine ⟨rfl, ?_⟩
    rw [isNon_rep rx]
    exact c _ h _ S H (.refl w) rfl
  · exact h.elim) ha hb (nomark _)
theorem dt_is (ha : DE X a ta) (hb : DE X b tb) : DT X (.Compare a [.Is] [b] pos) (dT (dOp opIs ta tb)) := dt_cmp op_isN (fun aw S H x y vx vy k Q w rx ry h c => by
  unfold opIs at h
  split at h
  · cases ry
    refine ⟨rfl, ?_⟩
    rw [isNon_rep rx]
    exact c _ h _ S H (.refl w) rfl
  · exact h.elim) ha hb (nomark _)
theorem de_isnot (ha : DE X a ta) (hb : DE X b tb) : DE X (.Compare a [.IsNot] [b] pos) (dOp opIsNot ta tb) := de_cmp op_notN (fun aw S H x y vx vy k Q w rx ry h c => by
  unfold opIsNot at h
  split at h
  · cases ry
    refine ⟨rfl, ?_⟩
    rw [isNon_rep rx]
    exact c _ h _ S H (.refl w) rfl
  · exact h.elim) ha hb (nomark _)
theorem dt_isnot (ha : DE X a ta) (hb : DE X b tb) : DT X (.Compare a [.IsNot] [b] pos) (dT (dOp opIsNot ta tb)) := dt_cmp op_notN (fun aw S H x y vx vy k Q w rx ry h c => by
  unfold opIsNot at h
  split at h
  · cases ry
    refine ⟨rfl, ?_⟩
    rw [isNon_rep rx]
    exact c _ h _ S H (.refl w) rfl
  · exact h.elim) ha hb (nomark _)

/-! in: lists, tuples, of data -/
def rInA (K : PySem.W.Frag) (neg : Bool) : R2 := fun x y H Q => ∃ d ds, Dp K H x d ∧ (Dp K H y (.list ds) ∨ Dp K H y (.tuple ds)) ∧ SeqAt.shaped d = true ∧ PyData.canLayAll0 ds = true ∧ Q (.bl (if neg then !ds.any fun z => PyData.eqv z d else ds.any fun z => PyData.eqv z d)) H
theorem in_core {neg : Bool} {op : CmpOp} (hop : op = if neg then .NotIn else .In) (hu : X.A.units + 65 < cLine) : OpR X (compareOp op) (rInA X.K neg) := by
  intro pins s σ H x y v u Q I rx ry h
  obtain ⟨d, ds, hd, he, sd, se, q⟩ := h
  obtain ⟨as, r1⟩ := Dp.reads I d x v hd rx
  rcases he with he | he
  · obtain ⟨bs, r2⟩ := Dp.reads I (.list ds) y u he ry
    cases neg with
    | false =>
      subst hop
      exact SeqAt.in_list_reads r2 r1 se (SeqAt.canLay_of_shaped sd) (room_in_shaped sd hu) ⟨.bl _, H, I, rfl, q⟩
    | true =>
      subst hop
      exact SeqAt.notIn_list_reads r2 r1 se (SeqAt.canLay_of_shaped sd) (room_in_shaped sd hu) ⟨.bl _, H, I, rfl, q⟩
  · cases he with
    | tup hs ha =>
      cases ry
      obtain ⟨its, rv, ht, hlen⟩ := I.tuple hs
      obtain ⟨cs, h4⟩ := Dp.readsAll I ds _ its ha rv
      have hmap : its.map (SeqAt.readOf s.heap) = ds := SeqAt.readsAll_map ds its cs se h4
      have hroom : X.A.units + 1 + min (PyData.depthAll ds) d.depth < cLine := room_in_shaped sd hu
      have heq := SeqAt.items_eqAt (A := X.A) (vs := its.toArray) (show ReadsAll s.heap its.toArray.toList ds cs from h4) r1 se (SeqAt.canLay_of_shaped sd) hroom
      have hany : its.toArray.any (fun u => PyData.eqv (SeqAt.readOf s.heap u) d) = ds.any fun z => PyData.eqv z d := by
        rw [← hmap, List.any_map]
        simp [Function.comp_def]
      cases neg with
      | false =>
        subst hop
        refine SeqAt.in_tupleAt _ ht heq ⟨.bl _, H, I, rfl, ?_⟩
        rw [hany]; exact q
      | true =>
        subst hop
        refine SeqAt.notIn_tupleAt _ ht heq ⟨.bl _, H, I, rfl, ?_⟩
        rw [hany]; exact q
def dmem (x : D) (ys : List D) : Bool := ys.any fun z => deq z x
def keyD : D → Option Key
  | .int i => some (.inl i)
  | .str x => some (.inr x)
  | _ => none
/-- the place of a key -/
def dval (ks : List Key) (ds : List D) (k : Key) : Option D := ((ks.zip ds).find? fun p => decide (p.1 = k)).map (·.2)
def opInN (neg : Bool) : DOp := fun x y Q => match y with
  | .lst ys => (eokd 60 x = true ∧ ys.all (eokd 59) = true) ∧ Q (.bl (if neg then !dmem x ys else dmem x ys))
  | .tup ys => (eokd 60 x = true ∧ ys.all (eokd 59) = true) ∧ Q (.bl (if neg then !dmem x ys else dmem x ys))
  | _ => False
theorem any_pys (x : D) (ys : List D) : ((D.pys ys).any fun z => PyData.eqv z x.py) = dmem x ys := by
  rw [pys_map, List.any_map]; rfl
theorem imp_in (neg : Bool) : Imp2 (rInA X.K neg) (opInN neg) := by
  intro aw S H x y vx vy k Q w rx ry h c
  unfold opInN at h
  split at h
  · rename_i ys
    obtain ⟨⟨h1, h2⟩, h⟩ := h
    refine ⟨x.py, D.pys ys, rx.dp w.sub 60 h1, .inl (ry.dp w.sub 60 (show eokd 60 (.lst ys) = true from h2)), eokd_shaped h1, (eokd_lay (n := 60) (d := .lst ys) h2).1, ?_⟩
    rw [any_pys]
    exact c _ h _ S H (.refl w) rfl
  · rename_i ys
    obtain ⟨⟨h1, h2⟩, h⟩ := h
    refine ⟨x.py, D.pys ys, rx.dp w.sub 60 h1, .inr (ry.dp w.sub 60 (show eokd 60 (.tup ys) = true from h2)), eokd_shaped h1, (eokd_lay (n := 60) (d := .tup ys) h2).1, ?_⟩
    rw [any_pys]
    exact c _ h _ S H (.refl w) rfl
  · exact h.elim
theorem de_in (hr : Room k X.A) (ha : DE X a ta) (hb : DE X b tb) (hm : behindInMarks .In b = false := by rfl) : DE X (.Compare a [.In] [b] pos) (dOp (opInN false) ta tb) := de_cmp (in_core rfl (room65 hr)) (imp_in false) ha hb hm
theorem dt_in (hr : Room k X.A) (ha : DE X a ta) (hb : DE X b tb) (hm : behindInMarks .In b = false := by rfl) : DT X (.Compare a [.In] [b] pos) (dT (dOp (opInN false) ta tb)) := dt_cmp (in_core rfl (room65 hr)) (imp_in false) ha hb hm
theorem de_notin (hr : Room k X.A) (ha : DE X a ta) (hb : DE X b tb) (hm : behindInMarks .NotIn b = false := by rfl) : DE X (.Compare a [.NotIn] [b] pos) (dOp (opInN true) ta tb) := de_cmp (in_core rfl (room65 hr)) (imp_in true) ha hb hm
theorem dt_notin (hr : Room k X.A) (ha : DE X a ta) (hb : DE X b tb) (hm : behindInMarks .NotIn b = false := by rfl) : DT X (.Compare a [.NotIn] [b] pos) (dT (dOp (opInN true) ta tb)) := dt_cmp (in_core rfl (room65 hr)) (imp_in true) ha hb hm

/-! chains -/
def dChain (o o' : DOp) (ta tb tc : TD) : TD := fun ρ Q => ta ρ fun x => tb ρ fun y => o x y fun z => match z with
  | .bl true => tc ρ fun w => o' y w Q
  | .bl false => Q (.bl false)
  | _ => False
theorem chain2 {r r' : R2} {o o' : DOp} (i : Imp2 r o) (i' : Imp2 r' o') {ta tb tc : TD} {aw : Option Addr} {S0 H0 : Hp} : ∀ σ H k, lift aw S0 H0 (dChain o o' ta tb tc) σ H k → tChain r r' (lift aw S0 H0 ta) (lift aw S0 H0 tb) (lift aw S0 H0 tc) σ H k :=
  fun σ H k ⟨ρ, S, Q, r, h, c⟩ => ⟨ρ, S, _, r, h, fun d hd v S1 H1 x1 r1 => ⟨ρ, S1, _, r.go x1, hd, fun e he w S2 H2 x2 r2 =>
    i aw S2 H2 d e v w _ _ x2.wf (r1.mono x2.le) r2 he fun z hz u S3 H3 x3 r3 => by
      split at hz
      · cases r3
        refine ⟨true, rfl, ?_⟩
        rw [if_pos rfl]
        refine ⟨ρ, S3, _, r.go ((x1.trans x2).trans x3), hz, fun f hf t S4 H4 x4 r4 => ?_⟩
        exact i' aw S4 H4 e f w t _ _ x4.wf (r2.mono (x3.le.trans x4.le)) r4 hf fun z hz u S5 H5 x5 r5 => c z hz u S5 H5 ((((x1.trans x2).trans x3).trans x4).trans x5) r5
      · cases r3
        refine ⟨false, rfl, ?_⟩
        rw [if_neg Bool.false_ne_true]
        exact c _ hz _ S3 H3 ((x1.trans x2).trans x3) rfl
      · exact hz.elim⟩⟩
end
end DL
/-! DL: and, or, not, if; arithmetic; items, slices; displays -/
namespace DL
open PySem PySem.Spec PyProof.Rows L2
section
variable {X : Cx} {a b c : Expr} {ta tb tc : TD} {pos : Pos} {k : Nat} {rest : List Expr}

theorem chainT {r r' : R2} {o o' : DOp} (i : Imp2 r o) (i' : Imp2 r' o') {aw : Option Addr} {S0 H0 : Hp} : ∀ σ H k, liftT aw S0 H0 (dT (dChain o o' ta tb tc)) σ H k → tTest (tChain r r' (lift aw S0 H0 ta) (lift aw S0 H0 tb) (lift aw S0 H0 tc)) σ H k := fun σ H k h => by
  have h2 := tst (td := dChain o o' ta tb tc) σ H k h
  exact chain2 i i' σ H _ h2
theorem de_chain_lt (hr : Room k X.A) (ha : DE X a ta) (hb : DE X b tb) (hc : DE X c tc) (hm : lastMarks [.Lt, .Lt] [b, c] = false := by with_unfolding_all rfl) : DE X (.Compare a [.Lt, .Lt] [b, c] pos) (dChain opLt opLt ta tb tc) :=
  ⟨fun aw S0 H0 => PE.imp (pe_chain (op_lt.or (op_ltT (room0 hr))) (op_lt.or (op_ltT (room0 hr))) (ha.run aw S0 H0) (hb.run aw S0 H0) (hc.run aw S0 H0) hm) (chain2 imp_lt imp_lt)⟩
theorem dt_chain_lt (hr : Room k X.A) (ha : DE X a ta) (hb : DE X b tb) (hc : DE X c tc) (hm : lastMarks [.Lt, .Lt] [b, c] = false := by with_unfolding_all rfl) : DT X (.Compare a [.Lt, .Lt] [b, c] pos) (dT (dChain opLt opLt ta tb tc)) :=
  ⟨fun aw S0 H0 => PT.imp (pt_chain (op_lt.or (op_ltT (room0 hr))) (op_lt.or (op_ltT (room0 hr))) (ha.run aw S0 H0) (hb.run aw S0 H0) (hc.run aw S0 H0) hm) (chainT imp_lt imp_lt)⟩
theorem de_chain_le_lt (hr : Room k X.A) (ha : DE X a ta) (hb : DE X b tb) (hc : DE X c tc) (hm : lastMarks [.LtE, .Lt] [b, c] = false := by with_unfolding_all rfl) : DE X (.Compare a [.LtE, .Lt] [b, c] pos) (dChain opLe opLt ta tb tc) :=
  ⟨fun aw S0 H0 => PE.imp (pe_chain op_le (op_lt.or (op_ltT (room0 hr))) (ha.run aw S0 H0) (hb.run aw S0 H0) (hc.run aw S0 H0) hm) (chain2 (imp_I _) imp_lt)⟩
theorem dt_chain_le_lt (hr : Room k X.A) (ha : DE X a ta) (hb : DE X b tb) (hc : DE X c tc) (hm : lastMarks [.LtE, .Lt] [b, c] = false := by with_unfolding_all rfl) : DT X (.Compare a [.LtE, .Lt] [b, c] pos) (dT (dChain opLe opLt ta tb tc)) :=
  ⟨fun aw S0 H0 => PT.imp (pt_chain op_le (op_lt.or (op_ltT (room0 hr))) (ha.run aw S0 H0) (hb.run aw S0 H0) (hc.run aw S0 H0) hm) (chainT (imp_I _) imp_lt)⟩

/-! tests -/
variable {t u : TDT}
def dAndT (t u : TDT) : TDT := fun ρ Q => t ρ fun c => if c = true then u ρ Q else Q false
def dOrT (t u : TDT) : TDT := fun ρ Q => t ρ fun c => if c = true then Q true else u ρ Q
def dNotT (t : TDT) : TDT := fun ρ Q => t ρ fun c => Q (!c)
theorem DW.dt {e : Expr} (h : DW X e t) : DT X e t := ⟨fun aw S0 H0 => (h.run aw S0 H0).pt⟩
theorem dw_and1 (h : DT X a t) : DW X (.BoolOp .And [a] pos) t := ⟨fun aw S0 H0 => pw_and1 (h.run aw S0 H0)⟩
theorem dw_or1 (h : DT X a t) : DW X (.BoolOp .Or [a] pos) t := ⟨fun aw S0 H0 => pw_or1 (h.run aw S0 H0)⟩
theorem dw_and (h : DT X a t) (g : DW X (.BoolOp .And (b :: rest) pos) u) : DW X (.BoolOp .And (a :: b :: rest) pos) (dAndT t u) :=
  ⟨fun aw S0 H0 => PW.imp (pw_and (h.run aw S0 H0) (g.run aw S0 H0)) fun σ H k ⟨ρ, S, Q, r, h, c⟩ => ⟨ρ, S, _, r, h, fun d hd S1 H1 x1 => by
    cases d with
    | true =>
      rw [if_pos rfl] at hd ⊢
      exact ⟨ρ, S1, Q, r.go x1, hd, fun e he S2 H2 x2 => c e he S2 H2 (x1.trans x2)⟩
    | false =>
      rw [if_neg Bool.false_ne_true] at hd ⊢
      exact c false hd S1 H1 x1⟩⟩
theorem dw_or (h : DT X a t) (g : DW X (.BoolOp .Or (b :: rest) pos) u) : DW X (.BoolOp .Or (a :: b :: rest) pos) (dOrT t u) :=
  ⟨fun aw S0 H0 => PW.imp (pw_or (h.run aw S0 H0) (g.run aw S0 H0)) fun σ H k ⟨ρ, S, Q, r, h, c⟩ => ⟨ρ, S, _, r, h, fun d hd S1 H1 x1 => by
    cases d with
    | true =>
      rw [if_pos rfl] at hd ⊢
      exact c true hd S1 H1 x1
    | false =>
      rw [if_neg Bool.false_ne_true] at hd ⊢
      exact ⟨ρ, S1, Q, r.go x1, hd, fun e he S2 H2 x2 => c e he S2 H2 (x1.trans x2)⟩⟩⟩
theorem dt_not (h : DT X a t) : DT X (.UnaryOp .Not a pos) (dNotT t) :=
  ⟨fun aw S0 H0 => PT.imp (pt_not (h.run aw S0 H0)) fun σ H k ⟨ρ, S, Q, r, h, c⟩ => ⟨ρ, S, _, r, h, fun d hd S1 H1 x1 => c _ hd S1 H1 x1⟩⟩
/-! values -/
def dAndV (ta tb : TD) : TD := fun ρ Q => ta ρ fun d => match d with
  | .bl true => tb ρ Q
  | .bl false => Q (.bl false)
  | _ => False
def dOrV (ta tb : TD) : TD := fun ρ Q => ta ρ fun d => match d with
  | .bl true => Q (.bl true)
  | .bl false => tb ρ Q
  | _ => False
def dNotV (ta : TD) : TD := fun ρ Q => ta ρ fun d => match d with
  | .bl b => Q (.bl (!b))
  | _ => False
theorem de_one {op} (h : DE X a ta) : DE X (.BoolOp op [a] pos) ta := ⟨fun aw S0 H0 => pe_one (h.run aw S0 H0)⟩
theorem de_and (h : DE X a ta) (g : DE X (.BoolOp .And (b :: rest) pos) tb) : DE X (.BoolOp .And (a :: b :: rest) pos) (dAndV ta tb) :=
  ⟨fun aw S0 H0 => PE.imp (pe_and (h.run aw S0 H0) (g.run aw S0 H0)) fun σ H k ⟨ρ, S, Q, r, h, c⟩ => ⟨ρ, S, _, r, h, fun d hd v S1 H1 x1 r1 => by
    split at hd
    · cases r1
      refine ⟨true, rfl, ?_⟩
      rw [if_pos rfl]
      exact ⟨ρ, S1, Q, r.go x1, hd, fun e he v S2 H2 x2 r2 => c e he v S2 H2 (x1.trans x2) r2⟩
    · cases r1
      refine ⟨false, rfl, ?_⟩
      rw [if_neg Bool.false_ne_true]
      exact c _ hd _ S1 H1 x1 rfl
    · exact hd.elim⟩⟩
theorem de_or (h : DE X a ta) (g : DE X (.BoolOp .Or (b :: rest) pos) tb) : DE X (.BoolOp .Or (a :: b :: rest) pos) (dOrV ta tb) :=
  ⟨fun aw S0 H0 => PE.imp (pe_or (h.run aw S0 H0) (g.run aw S0 H0)) fun σ H k ⟨ρ, S, Q, r, h, c⟩ => ⟨ρ, S, _, r, h, fun d hd v S1 H1 x1 r1 => by
    split at hd
    · cases r1
      refine ⟨true, rfl, ?_⟩
      rw [if_pos rfl]
      exact c _ hd _ S1 H1 x1 rfl
    · cases r1
      refine ⟨false, rfl, ?_⟩
      rw [if_neg Bool.false_ne_true]
      exact ⟨ρ, S1, Q, r.go x1, hd, fun e he v S2 H2 x2 r2 => c e he v S2 H2 (x1.trans x2) r2⟩
    · exact hd.elim⟩⟩
theorem de_not (h : DE X a ta) : DE X (.UnaryOp .Not a pos) (dNotV ta) :=
  ⟨fun aw S0 H0 => PE.imp (pe_not (h.run aw S0 H0)) fun σ H k ⟨ρ, S, Q, r, h, c⟩ => ⟨ρ, S, _, r, h, fun d hd v S1 H1 x1 r1 => by
    split at hd
    · cases r1
      exact ⟨_, rfl, c _ hd _ S1 H1 x1 rfl⟩
    · exact hd.elim⟩⟩
def dIfE (t : TDT) (ta tb : TD) : TD := fun ρ Q => t ρ fun c => if c = true then ta ρ Q else tb ρ Q
theorem de_if (hc : DT X c t) (ha : DE X a ta) (hb : DE X b tb) : DE X (.IfExp c a b pos) (dIfE t ta tb) :=
  ⟨fun aw S0 H0 => PE.imp (pe_ifExp (hc.run aw S0 H0) (ha.run aw S0 H0) (hb.run aw S0 H0)) fun σ H k ⟨ρ, S, Q, r, h, c⟩ => ⟨ρ, S, _, r, h, fun d hd S1 H1 x1 => by
    cases d with
    | true =>
      rw [if_pos rfl] at hd ⊢
      exact ⟨ρ, S1, Q, r.go x1, hd, fun e he v S2 H2 x2 r2 => c e he v S2 H2 (x1.trans x2) r2⟩
    | false =>
      rw [if_neg Bool.false_ne_true] at hd ⊢
      exact ⟨ρ, S1, Q, r.go x1, hd, fun e he v S2 H2 x2 r2 => c e he v S2 H2 (x1.trans x2) r2⟩⟩⟩

/-! arithmetic -/
theorem imp_mul : Imp2 (fun x y H Q => rI CMul (fun i j => .int (i * j)) x y H Q ∨ rRep x y H Q) opMul := by
  intro aw S H x y vx vy k Q w rx ry h c
  unfold opMul at h
  split at h
  · rename_i i j
    cases rx
    cases ry
    exact .inl ⟨i, j, rfl, rfl, h.1, c _ h.2 _ S H (.refl w) rfl⟩
  · rename_i xs j
    obtain ⟨p, vs, rfl, h1, z1, r1⟩ := rx
    cases ry
    obtain ⟨⟨hj, hz⟩, hj2, h⟩ := h
    rw [lenR r1] at hz
    refine .inr ⟨p, j, vs, rfl, rfl, w.sub _ _ h1, hj2, by omega, hz, fun q hq => ?_⟩
    have x := (Ext.refl w).put (o := .lst (List.replicate j.toNat vs).flatten) hq
    exact c _ h _ _ _ x ⟨q, _, rfl, upd_same, by rw [flat_len]; exact hz, (r1.rep _).mono x.le⟩
  · exact h.elim
theorem de_mul (ha : DE X a ta) (hb : DE X b tb) : DE X (.BinOp a .Mult b pos) (dOp opMul ta tb) := de_op (op_mul.or op_rep) imp_mul ha hb
def opII (C : Int → Int → Prop) (g : Int → Int → Int) : DOp := fun x y Q => match x, y with
  | .int i, .int j => C i j ∧ Q (.int (g i j))
  | _, _ => False
theorem imp_II (C : Int → Int → Prop) (g : Int → Int → Int) : Imp2 (rI C fun i j => .int (g i j)) (opII C g) := by
  intro aw S H x y vx vy k Q w rx ry h c
  unfold opII at h
  split at h
  · cases rx
    cases ry
    exact ⟨_, _, rfl, rfl, h.1, c _ h.2 _ S H (.refl w) rfl⟩
  · exact h.elim
abbrev opMod : DOp := opII (fun _ j => 0 < j) fun i j => i % j
abbrev opFdiv : DOp := opII CDiv fun i j => i / j
abbrev opPow : DOp := opII CPow fun i j => i ^ j.toNat
theorem de_mod (ha : DE X a ta) (hb : DE X b tb) : DE X (.BinOp a .Mod b pos) (dOp opMod ta tb) := de_op op_mod (imp_II _ _) ha hb
theorem de_fdiv (ha : DE X a ta) (hb : DE X b tb) : DE X (.BinOp a .FloorDiv b pos) (dOp opFdiv ta tb) := de_op op_fdiv (imp_II _ _) ha hb
theorem de_pow (ha : DE X a ta) (hb : DE X b tb) : DE X (.BinOp a .Pow b pos) (dOp opPow ta tb) := de_op op_pow (imp_II _ _) ha hb
def dNeg (ta : TD) : TD := fun ρ Q => ta ρ fun d => match d with
  | .int i => Q (.int (-i))
  | _ => False
theorem de_neg (ha : DE X a ta) : DE X (.UnaryOp .USub a pos) (dNeg ta) :=
  ⟨fun aw S0 H0 => PE.imp (pe_un un_neg (ha.run aw S0 H0)) fun σ H k ⟨ρ, S, Q, r, h, c⟩ => ⟨ρ, S, _, r, h, fun d hd v S1 H1 x1 r1 => by
    split at hd
    · cases r1
      exact ⟨_, rfl, c _ hd _ S1 H1 x1 rfl⟩
    · exact hd.elim⟩⟩

/-! items -/
theorem ixN_len {α β : Type} {xs : List α} {ys : List β} (h : xs.length = ys.length) (i : Int) : ixN xs.length i = ixN ys.length i := by rw [h]
theorem atI_rep {aw : Option Addr} {S : Hp} {ds : List D} {vs : List V} {i : Int} {d : D} (r : Reps aw S ds vs) (h : atI ds i = some d) : ∃ v, atI vs i = some v ∧ Rep aw S d v := by
  unfold atI at h ⊢
  rw [← lenR r]
  cases q : ixN ds.length i with
  | none => rw [q] at h; cases h
  | some j =>
    rw [q] at h
    obtain ⟨v, h1, h2⟩ := r.get (show ds[j]? = some d from h)
    exact ⟨v, h1, h2⟩
def opIx : DOp := fun x y Q => match x, y with
  | .lst xs, .int i => match atI xs i with
    | some d => Q d
    | none => False
  | .tup xs, .int i => match atI xs i with
    | some d => Q d
    | none => False
  | _, _ => False
theorem imp_ix : Imp2 (fun x y H Q => rIxL X.K x y H Q ∨ rIxT X.K x y H Q) opIx := by
  intro aw S H x y vx vy k Q w rx ry h c
  unfold opIx at h
  split at h
  · split at h
    · rename_i d e
      obtain ⟨p, vs, rfl, h1, z1, r1⟩ := rx
      cases ry
      obtain ⟨v, h2, r2⟩ := atI_rep r1 e
      exact .inl ⟨p, vs, _, v, rfl, rfl, .of (w.sub _ _ h1), h2, c _ h v S H (.refl w) r2⟩
    · exact h.elim
  · split at h
    · rename_i d e
      obtain ⟨p, vs, rfl, h1, z1, r1⟩ := rx
      cases ry
      obtain ⟨v, h2, r2⟩ := atI_rep r1 e
      exact .inr ⟨p, vs, _, v, rfl, rfl, rdT (w.sub.rd h1), h2, c _ h v S H (.refl w) r2⟩
    · exact h.elim
  · exact h.elim
theorem de_ix (ha : DE X a ta) (hb : DE X b tb) (hs : PlainIx b := by intro _ _; rfl) : DE X (.Subscript a b pos) (dOp opIx ta tb) :=
  ⟨fun aw S0 H0 => PE.imp (pe_ix (ix_list.or ix_tup) (ha.run aw S0 H0) (hb.run aw S0 H0) hs) (op2 imp_ix)⟩

/-! slices -/
abbrev TDO := DEnv → (Option Int → Prop) → Prop
def liftO (aw : Option Addr) (S0 H0 : Hp) (td : TDO) : TO := fun σ H k => ∃ ρ S Q, Rel aw S0 H0 ρ σ S H ∧ td ρ Q ∧ ∀ o, Q o → ∀ S' H', Ext aw S H S' H' → k o H'
structure DO (X : Cx) (e : Option Expr) (td : TDO) : Prop where
  run : ∀ aw S0 H0, PO X e (liftO aw S0 H0 td)
theorem PO.imp {X : Cx} {e : Option Expr} {t t' : TO} (h : PO X e t) (i : ∀ σ H k, t' σ H k → t σ H k) : PO X e t' := ⟨fun pins s σ H Q I q => h.run pins s σ H Q I (i _ _ _ q)⟩
def dNoPart : TDO := fun _ Q => Q none
def dPart (td : TD) : TDO := fun ρ Q => td ρ fun d => match d with
  | .int i => Q (some i)
  | _ => False
theorem do_none : DO X none dNoPart := ⟨fun aw S0 H0 => PO.imp po_none fun σ H k ⟨ρ, S, Q, r, h, c⟩ => c _ h S H (.refl r.wf)⟩
theorem do_some (h : DE X a ta) : DO X (some a) (dPart ta) := ⟨fun aw S0 H0 => PO.imp (po_some (h.run aw S0 H0)) fun σ H k ⟨ρ, S, Q, r, h, c⟩ => ⟨ρ, S, _, r, h, fun d hd v S1 H1 x1 r1 => by
    split at hd
    · cases r1
      exact ⟨_, rfl, c _ hd S1 H1 x1⟩
    · exact hd.elim⟩⟩
def cutD (xs : List D) (lo hi : Option Int) : List D := (xs.drop (HT.sIx xs.length 0 lo)).take (HT.sIx xs.length xs.length hi - HT.sIx xs.length 0 lo)
theorem cut_rep {aw : Option Addr} {S : Hp} {ds : List D} {vs : List V} (r : Reps aw S ds vs) (lo hi : Option Int) : Reps aw S (cutD ds lo hi) (cutV vs lo hi) := by
  unfold cutD cutV
  rw [← lenR r]
  exact (r.drop _).take _
def dSl (te : TD) (tl th : TDO) : TD := fun ρ Q => te ρ fun x => tl ρ fun lo => th ρ fun hi => match x with
  | .lst xs => Q (.lst (cutD xs lo hi))
  | .tup xs => Q (.tup (cutD xs lo hi))
  | _ => False
theorem de_slice {lo hi : Option Expr} {tl th : TDO} {p2 : Pos} (he : DE X a ta) (hl : DO X lo tl) (hu : DO X hi th) : DE X (.Subscript a (.Slice lo hi none p2) pos) (dSl ta tl th) :=
  ⟨fun aw S0 H0 => PE.imp (pe_slice (sl_list.or sl_tupA) (he.run aw S0 H0) (hl.run aw S0 H0) (hu.run aw S0 H0)) fun σ H k ⟨ρ, S, Q, r, h, c⟩ =>
    ⟨ρ, S, _, r, h, fun d hd v S1 H1 x1 r1 => ⟨ρ, S1, _, r.go x1, hd, fun lo hlo S2 H2 x2 => ⟨ρ, S2, _, r.go (x1.trans x2), hlo, fun hi hhi S3 H3 x3 => by
      have x := (x1.trans x2).trans x3
      have r3 := r1.mono (x2.le.trans x3.le)
      split at hhi
      · rename_i xs
        obtain ⟨p, vs, rfl, h1, z1, r1⟩ := r3
        refine .inl ⟨p, vs, rfl, .of (x.wf.sub _ _ h1), fun q hq => ?_⟩
        have y := (Ext.refl x.wf).put (o := .lst (cutV vs lo hi)) hq
        exact c _ hhi _ _ _ (x.trans y) ⟨q, _, rfl, upd_same, Nat.le_trans (cutV_length _ _ _) z1, (cut_rep r1 lo hi).mono y.le⟩
      · rename_i xs
        obtain ⟨p, vs, rfl, h1, z1, r1⟩ := r3
        refine .inr ⟨p, vs, rfl, rdT (x.wf.sub.rd h1), fun e => ?_, fun _ q hq => ?_⟩
        · have e2 : cutD xs lo hi = xs := by
            unfold cutD
            rw [lenR r1, e.1, e.2, List.drop_zero, List.take_of_length_le (by rw [lenR r1]; omega)]
          rw [e2] at hhi
          exact c _ hhi _ _ _ x ⟨p, vs, rfl, h1, z1, r1⟩
        · have y := (Ext.refl x.wf).put (o := .tup (cutV vs lo hi)) hq
          exact c _ hhi _ _ _ (x.trans y) ⟨q, _, rfl, .of upd_same, Nat.le_trans (cutV_length _ _ _) z1, (cut_rep r1 lo hi).mono y.le⟩
      · exact hhi.elim⟩⟩⟩⟩

/-! displays -/
theorem len_args {aw : Option Addr} {S0 H0 : Hp} : True := trivial
def dTup (ta : TDA) : TD := fun ρ Q => ta ρ fun ds => ds.length ≤ sizeLine ∧ Q (.tup ds)
def dLst (ta : TDA) : TDA := fun ρ Q => ta ρ fun ds => ds.length ≤ sizeLine ∧ Q ds
theorem de_tup {es : List Expr} {n : Nat} {t : TDA} (h : DA X es t) : DE X (.Tuple es n pos) (dTup t) :=
  ⟨fun aw S0 H0 => PE.imp (pe_tup (h.run aw S0 H0)) fun σ H k ⟨ρ, S, Q, r, h, c⟩ => ⟨ρ, S, _, r, h, fun ds hd vs S1 H1 x1 r1 => ⟨by rw [← lenR r1]; exact hd.1, fun p hp => by
    have x := (Ext.refl x1.wf).put (o := .tup vs) hp
    exact c _ hd.2 _ _ _ (x1.trans x) ⟨p, vs, rfl, .of upd_same, by rw [← lenR r1]; exact hd.1, r1.mono x.le⟩⟩⟩⟩
theorem df_lst {es : List Expr} {t : TDA} (h : DA X es t) : DF X (.List es pos) (dLst t) :=
  ⟨fun aw S0 H0 => PE.imp (pe_lst (h.run aw S0 H0)) fun σ H k ⟨ρ, S, Q, r, h, c⟩ => ⟨ρ, S, _, r, h, fun ds hd vs S1 H1 x1 r1 => ⟨by rw [← lenR r1]; exact hd.1, fun p hp => by
    have x := x1.lay (o := .lst vs) hp
    have hs : S1 p = none := by
      cases q : S1 p with
      | none => rfl
      | some u => rw [x1.wf.sub p u q] at hp; cases hp
    exact c _ hd.2 p vs S1 _ x hs (x1.free hp) (fun e => by
      obtain ⟨_, ns, z, _⟩ := x1.wf.well p e
      rw [z] at hp; cases hp) upd_same (by rw [← lenR r1]; exact hd.1) r1⟩⟩⟩
def dFr (t : TDA) : TD := fun ρ Q => t ρ fun ds => Q (.lst ds)
theorem ext_fresh {aw : Option Addr} {S H S1 H1 : Hp} {p : Addr} {o : HO} (x : Ext aw S H S1 H1) (hs : S1 p = none) (h0 : H p = none) (hn : aw ≠ some p) (h1 : H1 p = some o) : Ext aw S H (upd S1 p o) H1 := by
  refine ⟨⟨fun b u e => ?_, fun q e => ?_⟩, x.le.trans (le_upd hs), fun b u e => ?_, x.keep⟩
  · by_cases hb : b = p
    · subst hb; rw [upd_same] at e; cases e; exact h1
    · rw [upd_ne hb] at e; exact x.wf.sub b u e
  · obtain ⟨z1, ns, z2, z3⟩ := x.wf.well q e
    refine ⟨?_, ns, z2, z3⟩
    rw [upd_ne (fun z => hn (by rw [← z]; exact e))]
    exact z1
  · by_cases hb : b = p
    · subst hb; exact .inr h0
    · rw [upd_ne hb] at e; exact x.new b u e
theorem DF.de {e : Expr} {t : TDA} (h : DF X e t) : DE X e (dFr t) :=
  ⟨fun aw S0 H0 => PE.imp (h.run aw S0 H0) fun σ H k ⟨ρ, S, Q, r, h, c⟩ => ⟨ρ, S, _, r, h, fun ds hd p vs S1 H1 x1 hs h0 hn h1 hz r1 => by
    have x := ext_fresh x1 hs h0 hn h1
    exact c _ hd _ _ _ x ⟨p, vs, rfl, upd_same, hz, r1.mono (le_upd hs)⟩⟩⟩
end
end DL
/-! DL: what is walked -/
namespace DL
open PySem PySem.Spec PyProof.Rows L2

/-! ### enumerate(a tuple) -/
section
open AutoSeq1 (wpAny_loadPart')
theorem new_enumT (t : Addr) (its : Array Value) (dd : Option Addr) (m : Nat) (sl : Array (Option Value)) :
    Meets (Builtin.«enumerate.__new__» ⟨[.type "enumerate", .ref t], []⟩) (fun _ R s => s.heap.get? t = some { cls := .type "tuple", dict := dd, data := .seq its m, slots := sl } ∧
      R (.ok (.ret (.ref (s.heap.push { cls := .type "tuple_iterator", data := .fields #[.ref t, .int 0 0] }).objs.size)))
        { s with heap := (s.heap.push { cls := .type "tuple_iterator", data := .fields #[.ref t, .int 0 0] }).push { cls := .type "enumerate", data := .fields #[.none, .bool false, .ref s.heap.objs.size, rawInt 0, .none, .none] } }) :=
  .of_wp fun prog w A R s ⟨ht, q⟩ => by
    obtain ⟨hp, g, d, tk, os⟩ := s
    have hs := sub_enumerate
    have T : Heap.IsTuple (Shared.heap ⟨hp, g, d, tk, os⟩) t its := ⟨_, ht, rfl, m, rfl⟩
    wp_walk using wpAny_loadPart' ht
    refine wpAny_stack_any fun st => wpAny_pure ?_
    split
    · rename_i c _ _ _ _ _
      cases (c == Value.type "enumerate") <;> (wp_walk using wpAny_loadPart' ht, wpAny_pyIter_tuple T; exact ⟨_, rfl, q⟩)
    · wp_walk using wpAny_loadPart' ht, wpAny_pyIter_tuple T
      exact ⟨_, rfl, q⟩
end
theorem call_enumT {prog : Program} {w : World} {A : Around} {E : Value → Shared → Prop} {s : Shared} {t : Addr} {its : Array Value} {Q : Value → Shared → Prop} (hT : s.heap.IsTuple t its)
    (q : ∀ h1, IsEnum h1 (s.heap.objs.size + 1) s.heap.objs.size 0 .none → h1.IsTupleIter s.heap.objs.size t 0 → (∀ c u, s.heap.get? c = some u → h1.get? c = some u) → Q (.ref (s.heap.objs.size + 1)) { s with heap := h1 }) :
    wpAny (model prog w) A (call (.type "enumerate") [.ref t]) Q E s := by
  obtain ⟨⟨c, dd, dt, sl⟩, ht, hc, m, hd⟩ := hT
  have hc : c = .type "tuple" := hc
  have hd : dt = .seq its m := hd
  subst hc hd
  refine callType_new F.called_enumerate (by decide) (F.typeCall_enumerate_1 _) (F.newCall_enumerate_1 _) (fun o => F.args_object_init_2 o _) F.entry_enumerate_new (new_enumT t its dd m sl) ⟨ht, ?_⟩
  generalize hI : (s.heap.push { cls := .type "tuple_iterator", data := .fields #[.ref t, .int 0 0] }) = hi
  have hz : hi.objs.size = s.heap.objs.size + 1 := by rw [← hI]; exact Heap.size_push ..
  have hit : hi.get? s.heap.objs.size = some { cls := .type "tuple_iterator", data := .fields #[.ref t, .int 0 0] } := by rw [← hI]; exact Heap.get?_push_size _ rfl
  have he := Heap.get?_push_size hi (o := { cls := .type "enumerate", data := .fields #[.none, .bool false, .ref s.heap.objs.size, rawInt 0, .none, .none] }) rfl
  have hk : ∀ c u, s.heap.get? c = some u → hi.get? c = some u := fun c u e => by rw [← hI]; exact Heap.get?_push_of_some _ e
  rw [hz] at he
  show _ ∧ _
  rw [hz]
  exact ⟨⟨_, he, rfl⟩, q _ he ⟨_, Heap.get?_push_of_some _ hit, rfl, rfl⟩ fun c u e => Heap.get?_push_of_some _ (hk c u e)⟩

/-- the tuple at t, each item in a new pair -/
def IteT (K : PySem.W.Frag) (t : Addr) : It where
  go := fun i H => ∃ (xs : List V) (x : V), SqT K H t xs ∧ xs[i]? = some x
  yld := fun i H v H' => ∃ T x, v = .ref T ∧ H T = none ∧ H' = upd H T (.tup [.int (i : Nat), x]) ∧ ∀ xs, SqT K H t xs → xs[i]? = some x
  stop := fun i H => ∃ xs : List V, SqT K H t xs ∧ xs.length = i
theorem turn_enumT {P : Program} {w : World} {K : PySem.W.Frag} {elts : List Expr} {kk : Nat} {tpos : Pos} (t e it : Addr) :
    Turn P w K (.Tuple elts kk tpos) (IteT K t) [e, it] e (fun i h => (∃ old, IsEnum h e it ((i : Nat) : Int) old) ∧ h.IsTupleIter it t i ∧ e ≠ it) := by
  have mem2 : ∀ {b : Addr}, b ∈ [e, it] → b = e ∨ b = it := fun hb => by simpa using hb
  refine ⟨by simp, fun i h st b hb => ?_, fun i h h' st k => ?_, ?_, ?_, fun A i s Q E st h => ?_⟩
  · obtain ⟨⟨old, he⟩, ⟨o, ho, hc, hd⟩, _⟩ := st
    rcases mem2 hb with z | z
    · rw [z]; exact ⟨_, he, fun v q => nomatch q⟩
    · rw [z]; exact ⟨o, ho, fun v q => by rw [hd] at q; cases q⟩
  · obtain ⟨⟨old, he⟩, hi, hne⟩ := st
    exact ⟨⟨old, k e (by simp) _ he⟩, hi.at fun o q => k it (by simp) o q, hne⟩
  · intro X hP hw hK hc i pins s σ H E I hf st hg
    subst hP hw hK
    obtain ⟨⟨old, he⟩, hit, hne⟩ := st
    obtain ⟨xs, x, hq, hx⟩ := hg
    obtain ⟨its, rv, ht, hz⟩ := I.tuple hq
    obtain ⟨u, hu, ru⟩ := rv.get hx
    have hel : e < s.heap.objs.size := Heap.lt_size he
    have hil : it < s.heap.objs.size := by obtain ⟨_, q, _⟩ := hit; exact Heap.lt_size q
    have het : e ≠ t := fun z => by
      obtain ⟨o, ho, hc, _⟩ := ht
      rw [← z, he] at ho
      cases ho
      exact absurd (Value.type.inj hc) (by decide)
    have hti : t ≠ it := fun z => by
      obtain ⟨o, ho, hc, _⟩ := ht
      obtain ⟨o', ho', hc', _⟩ := hit
      rw [z, ho'] at ho
      cases ho
      rw [hc] at hc'
      exact absurd (Value.type.inj hc') (by decide)
    have hh1 : X.A.in1.handled = none := I.ok.hd hc
    have hlt : i < its.toArray.size := by
      obtain ⟨hlt, _⟩ := List.getElem?_eq_some_iff.mp hu
      simpa using hlt
    refine wpAny_pyNext_enum_itemD (Draws.tuple (A := X.A.in1) hh1 it t hti its.toArray) he ⟨hit, ht⟩ hlt hne (by simp [hne, het]) fun y h' tk hy ho hit' hT hsz hk => ?_
    have ey : y = u := by
      have q : its.toArray[i]? = some u := by simpa using hu
      rw [q] at hy
      exact (Option.some.inj hy).symm
    subst ey
    refine ⟨_, rfl, wpAny_letOwnedTupleGo_enum (s := { s with heap := h', toks := tk + 1 }) ho fun h2 he2 sb => ?_⟩
    have hT2 : h2.get? s.heap.objs.size = some { cls := .type "tuple", data := .seq #[.int i tk, y] } := (sb.2 _ (Nat.ne_of_gt hel)).trans hT
    have nw : ObjOk X.prog X.w (upd H s.heap.objs.size (.tup [.int (i : Nat), x])) h2 s.heap.objs.size (.tup [.int (i : Nat), x]) :=
      ⟨by show 2 ≤ sizeLine; decide, [.int i tk, y], .cons ⟨_, rfl⟩ (.cons ru .nil), ⟨_, hT2, rfl, _, rfl⟩⟩
    have I1 : Inv X pins σ (upd H s.heap.objs.size (.tup [.int (i : Nat), x])) { s with heap := h2, toks := tk + 1 } :=
      I.turnedNew (ch := [e, it]) (fun b ob hb q => by
        have n1 : b ≠ e := fun z => hb (by simp [z])
        have n2 : b ≠ it := fun z => hb (by simp [z])
        exact (sb.2 b n1).trans (hk b ob n1 n2 q)) hf (Nat.le_refl _) nw
    have hfr : H s.heap.objs.size = none := I.hok.fresh (Nat.le_refl _)
    refine ⟨.ref s.heap.objs.size, _, I1, rfl, ⟨_, x, rfl, hfr, rfl, fun ys hy => by rw [I.tuple_inj hy hq]; exact hx⟩, ⟨⟨y, ?_⟩, hit'.1.at fun o q => (sb.2 it (Ne.symm hne)).trans q, hne⟩, fun b hb => ?_⟩
    · have e1 : ((i + 1 : Nat) : Int) = (i : Int) + 1 := by omega
      rw [e1]
      exact he2
    · have hb2 : b < s.heap.objs.size := by rcases mem2 hb with z | z <;> rw [z] <;> assumption
      rw [upd_ne (Nat.ne_of_lt hb2)]
      exact (hf b hb).1
  · intro X hP hw hK hc i pins s σ H E I hf st hg
    subst hP hw hK
    obtain ⟨⟨old, he⟩, hit, hne⟩ := st
    obtain ⟨xs, hq, hx⟩ := hg
    obtain ⟨its, rv, ht, hz⟩ := I.tuple hq
    obtain ⟨f0, f1, f2, f3, f4, f5⟩ := hf it (by simp)
    have hl := rv.length
    have hti : t ≠ it := fun z => by
      obtain ⟨o, ho, hc, _⟩ := ht
      obtain ⟨o', ho', hc', _⟩ := hit
      rw [z, ho'] at ho
      cases ho
      rw [hc] at hc'
      exact absurd (Value.type.inj hc') (by decide)
    have hn : its.toArray.size = i := by rw [List.size_toArray]; omega
    refine wpAny_pyNext_enum_endD (Draws.tuple (A := X.A.in1) (I.ok.hd hc) it t hti its.toArray) he (by rw [hn]; exact ⟨hit, ht⟩) fun h' eb => ⟨rfl, I.turned (t' := s.toks) (fun b o hb q => eb b o hb q) f0 f1 f3 f4 f5⟩
  · obtain ⟨⟨_, he⟩, _⟩ := st
    exact wpAny_pyIter_enum he h

/-! ### enumerate of a list or a tuple; a list or a tuple itself -/
def iEnumA (K : PySem.W.Frag) (ta : TA) : TI := fun σ H R => ta σ H fun vs H1 => ∃ a xs, vs = [.ref a] ∧ ((SqL K H1 a xs ∧ R (Ite K a) H1) ∨ (SqT K H1 a xs ∧ R (IteT K a) H1))
theorem pi_enumA {X : Cx} {e : Expr} {ta : TA} {p pos tpos : Pos} {elts : List Expr} {kk : Nat} (hg : Gl X "enumerate") (hm : X.mg "enumerate" = none) (ha : PA X [e] ta) (hs : starEach [e] X.env = [(false, eval e X.env)] := by rfl) :
    PI X (.Tuple elts kk tpos) (.Call (.Name "enumerate" p) [e] [] pos) (iEnumA X.K ta) := by
  refine ⟨fun pins s σ H R I h => ?_⟩
  refine Call_ (ld_blt I hg hm boot_enumerate (callWith_type1 (thn (ha.run pos pins s σ H _ I h) fun us s1 ⟨vs, H1, I1, r1, q1⟩ => ?_) hs rfl))
  obtain ⟨a, xs, ex, q⟩ := q1
  subst ex
  obtain ⟨u, rfl, r⟩ := vals1 r1
  cases r
  have two : ∀ b, b ∈ [s1.heap.objs.size + 1, s1.heap.objs.size] → s1.heap.objs.size ≤ b := fun b hb => by
    have e' : b = s1.heap.objs.size + 1 ∨ b = s1.heap.objs.size := by simpa using hb
    omega
  rcases q with ⟨hq, q⟩ | ⟨hq, q⟩
  · obtain ⟨its, rv, p', hz⟩ := I1.list hq
    refine call_enumerate_list p'.isList fun h' he hit _ hk => wpAny_pyIter_enum he ?_
    exact ⟨s1.heap.objs.size + 1, _, _, _, H1, rfl, I1.kept (t' := s1.toks) hk, turn_enum a (s1.heap.objs.size + 1) s1.heap.objs.size, ⟨⟨.none, he⟩, hit, Nat.succ_ne_self _⟩,
      fun b hb => I1.fpOk (two b hb) (I1.hok.fresh (two b hb)), q⟩
  · obtain ⟨its, rv, p', hz⟩ := I1.tuple hq
    refine call_enumT p' fun h' he hit hk => wpAny_pyIter_enum he ?_
    exact ⟨s1.heap.objs.size + 1, _, _, _, H1, rfl, I1.kept (t' := s1.toks) hk, turn_enumT a (s1.heap.objs.size + 1) s1.heap.objs.size, ⟨⟨.none, he⟩, hit, Nat.succ_ne_self _⟩,
      fun b hb => I1.fpOk (two b hb) (I1.hok.fresh (two b hb)), q⟩
def iSeq (K : PySem.W.Frag) (tl : TE) : TI := fun σ H R => tl σ H fun x H1 => ∃ a xs, x = .ref a ∧ ((SqL K H1 a xs ∧ R (Itl K a) H1) ∨ (SqT K H1 a xs ∧ R (Itt K a) H1))
theorem pi_seq {X : Cx} {tg l : Expr} {tl : TE} (hl : PE X l tl) : PI X tg l (iSeq X.K tl) := by
  refine ⟨fun pins s σ H R I h => ?_⟩
  refine thn (hl.run pins s σ H _ I h) fun v s1 ⟨x, H1, I1, r1, q1⟩ => ?_
  obtain ⟨a, xs, e, q⟩ := q1
  subst e
  cases r1
  have one : ∀ b, b ∈ [s1.heap.objs.size] → FpOk X pins H1 b := fun b hb => by
    have e : b = s1.heap.objs.size := by simpa using hb
    rw [e]
    exact I1.fpOk (Nat.le_refl _) (I1.hok.fresh (Nat.le_refl _))
  rcases q with ⟨hq, q⟩ | ⟨hq, q⟩
  · obtain ⟨its, rv, p, hz⟩ := I1.list hq
    refine wpAny_pyIter_list p.isList ?_
    exact ⟨_, _, _, _, H1, rfl, I1.kept (t' := s1.toks) fun b o e => Heap.get?_push_of_some _ e, turn_list a _, ⟨_, Heap.get?_push_size _ rfl, rfl, rfl⟩, one, q⟩
  · obtain ⟨its, rv, p, hz⟩ := I1.tuple hq
    refine wpAny_pyIter_tuple (show s1.heap.IsTuple a its.toArray from p) ?_
    exact ⟨_, _, _, _, H1, rfl, I1.kept (t' := s1.toks) fun b o e => Heap.get?_push_of_some _ e, turn_tuple a _, ⟨_, Heap.get?_push_size _ rfl, rfl, rfl⟩, one, q⟩

/-! ### over data -/
abbrev TDI := DEnv → (List D → Prop) → Prop
/-- J walks the items ds wherever G stands -/
structure ItOk (aw : Option Addr) (J : It) (ds : List D) (G : Hp → Hp → Prop) : Prop where
  size : ds.length ≤ sizeLine
  go : ∀ S H, G S H → Wf aw S H → ∀ i d, ds[i]? = some d → J.go i H ∧ ∀ x H', J.yld i H x H' → ∃ S', Ext aw S H S' H' ∧ Rep aw S' d x
  stop : ∀ S H, G S H → Wf aw S H → J.stop ds.length H
def liftI (aw : Option Addr) (S0 H0 : Hp) (ti : TDI) : TI := fun σ H R => ∃ ρ S Q, Rel aw S0 H0 ρ σ S H ∧ ti ρ Q ∧ ∀ ds, Q ds → ∀ J S' H', Ext aw S H S' H' → ItOk aw J ds (fun S2 _ => Le S' S2) → R J H'
def liftO' (aw : Option Addr) (S0 H0 : Hp) (ti : TDI) : TI := fun σ H R => ∃ ρ S Q, Rel aw S0 H0 ρ σ S H ∧ ti ρ Q ∧ ∀ ds, Q ds → ∀ J S' H', Ext aw S H S' H' → ItOk aw J ds (fun S2 H2 => Ext aw S' H' S2 H2) → R J H'
structure DI (X : Cx) (tg e : Expr) (ti : TDI) : Prop where
  run : ∀ aw S0 H0, PI X tg e (liftI aw S0 H0 ti)
/-- what a comprehension walks (an owned list too) -/
structure DIo (X : Cx) (tg e : Expr) (ti : TDI) : Prop where
  run : ∀ aw S0 H0, PI X tg e (liftO' aw S0 H0 ti)
theorem PI.imp {X : Cx} {tg e : Expr} {t t' : TI} (h : PI X tg e t) (i : ∀ σ H k, t' σ H k → t σ H k) : PI X tg e t' := ⟨fun pins s σ H Q I q => h.run pins s σ H Q I (i _ _ _ q)⟩
theorem DI.o {X : Cx} {tg e : Expr} {ti : TDI} (h : DI X tg e ti) : DIo X tg e ti := ⟨fun aw S0 H0 => PI.imp (h.run aw S0 H0) fun σ H R ⟨ρ, S, Q, r, h, c⟩ =>
  ⟨ρ, S, Q, r, h, fun ds hd J S' H' x it => c ds hd J S' H' x ⟨it.size, fun S2 H2 g => it.go S2 H2 g.le, fun S2 H2 g => it.stop S2 H2 g.le⟩⟩⟩
section
variable {X : Cx} {tg e : Expr} {te : TD} {ta : TDA} {p pos : Pos}
theorem itok_list {aw : Option Addr} {K : PySem.W.Frag} {S : Hp} {a : Addr} {vs : List V} {ds : List D} (h : S a = some (.lst vs)) (z : vs.length ≤ sizeLine) (r : Reps aw S ds vs) : ItOk aw (Itl K a) ds (fun S2 _ => Le S S2) where
  size := by rw [lenR r]; exact z
  go := fun S2 H2 l w i d e => by
    obtain ⟨v, hv, rv⟩ := r.get e
    refine ⟨⟨vs, v, .of (w.sub _ _ (l _ _ h)), hv⟩, fun x H' y => ?_⟩
    obtain ⟨rfl, y⟩ := y
    have := y vs (.of (w.sub _ _ (l _ _ h)))
    rw [hv] at this
    cases this
    exact ⟨S2, .refl w, rv.mono l⟩
  stop := fun S2 H2 l w => ⟨vs, .of (w.sub _ _ (l _ _ h)), by rw [lenR r]; exact Nat.le_refl _⟩
theorem itok_tup {aw : Option Addr} {K : PySem.W.Frag} {S : Hp} {a : Addr} {vs : List V} {ds : List D} (h : Rd S a (.tup vs)) (z : vs.length ≤ sizeLine) (r : Reps aw S ds vs) : ItOk aw (Itt K a) ds (fun S2 _ => Le S S2) where
  size := by rw [lenR r]; exact z
  go := fun S2 H2 l w i d e => by
    obtain ⟨v, hv, rv⟩ := r.get e
    refine ⟨⟨vs, v, rdT (w.sub.rd (l.rd h)), hv⟩, fun x H' y => ?_⟩
    obtain ⟨rfl, y⟩ := y
    have := y vs (rdT (w.sub.rd (l.rd h)))
    rw [hv] at this
    cases this
    exact ⟨S2, .refl w, rv.mono l⟩
  stop := fun S2 H2 l w => ⟨vs, rdT (w.sub.rd (l.rd h)), by rw [lenR r]; exact Nat.le_refl _⟩
def dSeq (te : TD) : TDI := fun ρ Q => te ρ fun d => match d with
  | .lst xs => Q xs
  | .tup xs => Q xs
  | _ => False
theorem di_seq (h : DE X e te) : DI X tg e (dSeq te) := ⟨fun aw S0 H0 => PI.imp (pi_seq (h.run aw S0 H0)) fun σ H R ⟨ρ, S, Q, r, h, c⟩ => ⟨ρ, S, _, r, h, fun d hd v S1 H1 x1 r1 => by
  split at hd
  · obtain ⟨a, vs, rfl, h1, z, r1⟩ := r1
    exact ⟨a, vs, rfl, .inl ⟨.of (x1.wf.sub _ _ h1), c _ hd _ S1 H1 x1 (itok_list h1 z r1)⟩⟩
  · obtain ⟨a, vs, rfl, h1, z, r1⟩ := r1
    exact ⟨a, vs, rfl, .inr ⟨rdT (x1.wf.sub.rd h1), c _ hd _ S1 H1 x1 (itok_tup h1 z r1)⟩⟩
  · exact hd.elim⟩⟩
/-- the ints from lo, n of them -/
def rng (lo : Int) (n : Nat) : List D := (List.range n).map fun k => D.int (lo + (k : Nat))
theorem itok_rng {aw : Option Addr} {S : Hp} {lo : Int} {n : Nat} (h : n ≤ sizeLine) : ItOk aw (Itr lo n) (rng lo n) (fun S2 _ => Le S S2) where
  size := by unfold rng; simpa using h
  go := fun S2 H2 _ w i d e => by
    unfold rng at e
    rw [List.getElem?_map] at e
    have hi : i < n := by
      rcases Nat.lt_or_ge i n with h | h
      · exact h
      · rw [List.getElem?_eq_none (by simpa using h)] at e; cases e
    rw [List.getElem?_range hi] at e
    cases e
    refine ⟨hi, fun x H' y => ?_⟩
    obtain ⟨rfl, rfl⟩ := y
    exact ⟨S2, .refl w, rfl⟩
  stop := fun S2 H2 _ w => by
    show n ≤ (rng lo n).length
    unfold rng
    simp
/-- bounds of a range -/
def RgB (i j : Int) : Prop := -4194304 ≤ i ∧ i ≤ 4194304 ∧ -4194304 ≤ j ∧ j ≤ 4194304
theorem RgB.n {i j : Int} (h : RgB i j) : (j - i).toNat ≤ sizeLine := by
  obtain ⟨a, b, c, d⟩ := h
  rw [sizeLine_eq]
  omega
def dRange1 (ta : TDA) : TDI := fun ρ Q => ta ρ fun ds => match ds with
  | [.int j] => RgB 0 j ∧ Q (rng 0 j.toNat)
  | _ => False
def dRange2 (ta : TDA) : TDI := fun ρ Q => ta ρ fun ds => match ds with
  | [.int i, .int j] => RgB i j ∧ Q (rng i (j - i).toNat)
  | _ => False
theorem di_range1 {a : Expr} (hg : Gl X "range") (hm : X.mg "range" = none) (ha : DA X [a] ta) (hs : starEach [a] X.env = [(false, eval a X.env)] := by rfl) : DI X tg (.Call (.Name "range" p) [a] [] pos) (dRange1 ta) :=
  ⟨fun aw S0 H0 => PI.imp (pi_range1 hg hm (ha.run aw S0 H0) hs) fun σ H R ⟨ρ, S, Q, r, h, c⟩ => ⟨ρ, S, _, r, h, fun ds hd vs S1 H1 x1 r1 => by
    split at hd
    · rename_i j
      obtain ⟨v, vr, rfl, e, t⟩ := r1
      cases e
      cases t
      obtain ⟨hb, hd⟩ := hd
      have hz := hb.n
      obtain ⟨b1, b2, b3, b4⟩ := hb
      exact ⟨j, rfl, by omega, by omega, c _ hd _ S1 H1 x1 (itok_rng (by simpa using hz))⟩
    · exact hd.elim⟩⟩
theorem di_range2 {a b : Expr} (hg : Gl X "range") (hm : X.mg "range" = none) (ha : DA X [a, b] ta) (hs : starEach [a, b] X.env = [(false, eval a X.env), (false, eval b X.env)] := by rfl) (hs2 : starEach [b] X.env = [(false, eval b X.env)] := by rfl) :
    DI X tg (.Call (.Name "range" p) [a, b] [] pos) (dRange2 ta) :=
  ⟨fun aw S0 H0 => PI.imp (pi_range2 hg hm (ha.run aw S0 H0) hs hs2) fun σ H R ⟨ρ, S, Q, r, h, c⟩ => ⟨ρ, S, _, r, h, fun ds hd vs S1 H1 x1 r1 => by
    split at hd
    · rename_i i j
      obtain ⟨v, vr, rfl, e, v2, vr2, rfl, e2, t⟩ := r1
      cases e
      cases e2
      cases t
      obtain ⟨hb, hd⟩ := hd
      have hz := hb.n
      obtain ⟨b1, b2, b3, b4⟩ := hb
      exact ⟨i, j, rfl, ⟨by omega, by omega, by omega, by omega⟩, c _ hd _ S1 H1 x1 (itok_rng hz)⟩
    · exact hd.elim⟩⟩
/-- items with their places -/
def enumD (xs : List D) : List D := (List.range xs.length).zipWith (fun k x => D.tup [.int (k : Nat), x]) xs
theorem enumD_get {xs : List D} {i : Nat} {d : D} (h : (enumD xs)[i]? = some d) : ∃ x, xs[i]? = some x ∧ d = .tup [.int (i : Nat), x] := by
  unfold enumD at h
  rw [List.getElem?_zipWith] at h
  cases q : xs[i]? with
  | none => rw [q] at h; simp at h
  | some x =>
    have hi : i < xs.length := (List.getElem?_eq_some_iff.mp q).1
    rw [q, List.getElem?_range hi] at h
    simp at h
    exact ⟨x, rfl, h.symm⟩
theorem enumD_len (xs : List D) : (enumD xs).length = xs.length := by unfold enumD; simp
theorem pair_new {aw : Option Addr} {S H : Hp} {T : Addr} {vs : List V} {ds : List D} (w : Wf aw S H) (h : H T = none) (r : Reps aw S ds vs) (z : vs.length ≤ sizeLine) : ∃ S', Ext aw S H S' (upd H T (.tup vs)) ∧ Rep aw S' (.tup ds) (.ref T) := by
  have x := (Ext.refl w).put (o := .tup vs) h
  exact ⟨_, x, T, vs, rfl, .of upd_same, z, r.mono x.le⟩
theorem itok_enumL {aw : Option Addr} {K : PySem.W.Frag} {S : Hp} {a : Addr} {vs : List V} {ds : List D} (h : S a = some (.lst vs)) (z : vs.length ≤ sizeLine) (r : Reps aw S ds vs) : ItOk aw (Ite K a) (enumD ds) (fun S2 _ => Le S S2) where
  size := by rw [enumD_len, lenR r]; exact z
  go := fun S2 H2 l w i d e => by
    obtain ⟨x0, hx0, rfl⟩ := enumD_get e
    obtain ⟨v, hv, rv⟩ := r.get hx0
    have hs := SqL.of (K := K) (w.sub _ _ (l _ _ h))
    refine ⟨⟨vs, v, hs, hv⟩, fun x H' y => ?_⟩
    obtain ⟨T, x, rfl, hT, rfl, y⟩ := y
    have := y vs hs
    rw [hv] at this
    cases this
    exact pair_new w hT (.cons rfl (.cons (rv.mono l) .nil)) (by show 2 ≤ sizeLine; decide)
  stop := fun S2 H2 l w => ⟨vs, .of (w.sub _ _ (l _ _ h)), by rw [enumD_len, lenR r]; exact Nat.le_refl _⟩
theorem itok_enumT {aw : Option Addr} {K : PySem.W.Frag} {S : Hp} {a : Addr} {vs : List V} {ds : List D} (h : Rd S a (.tup vs)) (z : vs.length ≤ sizeLine) (r : Reps aw S ds vs) : ItOk aw (IteT K a) (enumD ds) (fun S2 _ => Le S S2) where
  size := by rw [enumD_len, lenR r]; exact z
  go := fun S2 H2 l w i d e => by
    obtain ⟨x0, hx0, rfl⟩ := enumD_get e
    obtain ⟨v, hv, rv⟩ := r.get hx0
    have hs := rdT (K := K) (w.sub.rd (l.rd h))
    refine ⟨⟨vs, v, hs, hv⟩, fun x H' y => ?_⟩
    obtain ⟨T, x, rfl, hT, rfl, y⟩ := y
    have := y vs hs
    rw [hv] at this
    cases this
    exact pair_new w hT (.cons rfl (.cons (rv.mono l) .nil)) (by show 2 ≤ sizeLine; decide)
  stop := fun S2 H2 l w => ⟨vs, rdT (w.sub.rd (l.rd h)), by rw [enumD_len, lenR r]⟩
def dEnum (ta : TDA) : TDI := fun ρ Q => ta ρ fun ds => match ds with
  | [.lst xs] => Q (enumD xs)
  | [.tup xs] => Q (enumD xs)
  | _ => False
theorem di_enum {a : Expr} {elts : List Expr} {kk : Nat} {tpos : Pos} (hg : Gl X "enumerate") (hm : X.mg "enumerate" = none) (ha : DA X [a] ta) (hs : starEach [a] X.env = [(false, eval a X.env)] := by rfl) :
    DI X (.Tuple elts kk tpos) (.Call (.Name "enumerate" p) [a] [] pos) (dEnum ta) :=
  ⟨fun aw S0 H0 => PI.imp (pi_enumA hg hm (ha.run aw S0 H0) hs) fun σ H R ⟨ρ, S, Q, r, h, c⟩ => ⟨ρ, S, _, r, h, fun ds hd vs S1 H1 x1 r1 => by
    split at hd
    · obtain ⟨v, vr, rfl, ⟨b, ws, rfl, h1, z, r1⟩, t⟩ := r1
      cases t
      exact ⟨b, ws, rfl, .inl ⟨.of (x1.wf.sub _ _ h1), c _ hd _ S1 H1 x1 (itok_enumL h1 z r1)⟩⟩
    · obtain ⟨v, vr, rfl, ⟨b, ws, rfl, h1, z, r1⟩, t⟩ := r1
      cases t
      exact ⟨b, ws, rfl, .inr ⟨rdT (x1.wf.sub.rd h1), c _ hd _ S1 H1 x1 (itok_enumT h1 z r1)⟩⟩
    · exact hd.elim⟩⟩
end
end DL
/-! DL: targets, slots written, comprehensions -/
namespace DL
open PySem PySem.Spec PyProof.Rows L2

theorem getD_set {α : Type} (l : List α) (i j : Nat) (x d : α) (h : i < l.length) : (l.set i x).getD j d = if j = i then x else l.getD j d := by
  rw [List.getD_eq_getElem?_getD, List.getD_eq_getElem?_getD]
  by_cases e : j = i
  · subst e
    rw [if_pos rfl, List.getElem?_set_self h]; rfl
  · rw [if_neg e, List.getElem?_set_ne (Ne.symm e)]

section
variable {aw : Option Addr} {S0 H0 S H S' H' : Hp} {ρ : DEnv} {σ : L2.St}
theorem SlotR.there {s : SV} {ov : Option V} {os : List Addr} (h : SlotR aw S H s ov os) : ∀ a ∈ os, H a ≠ none := by
  intro a ha e
  cases s with
  | no => have h : os = [] := h; subst h; cases ha
  | sh d => obtain ⟨h, _⟩ := h; subst h; cases ha
  | ow ds =>
    obtain ⟨b, vs, _, rfl, h3, _⟩ := h
    have q : a = b := by simpa using ha
    rw [q, h3] at e; cases e
  | od ks =>
    obtain ⟨b, vs, _, rfl, h3, _⟩ := h
    have q : a = b := by simpa using ha
    rw [q, h3] at e; cases e
  | hd b ds =>
    obtain ⟨vs, _, rfl, h3, _⟩ := h
    have q : a = b := by simpa using ha
    rw [q, h3] at e; cases e
  | ow2 dss =>
    obtain ⟨b, bs, _, rfl, h3, _, h5⟩ := h
    rcases List.mem_cons.mp ha with q | q
    · rw [q, h3] at e; cases e
    · have key : ∀ {dss : List (List D)} {bs : List Addr}, Paired (fun ds b => ∃ vs, H b = some (.lst vs) ∧ vs.length ≤ sizeLine ∧ Reps aw S ds vs) dss bs → a ∈ bs → False := by
        intro dss bs p
        induction p with
        | nil => intro m; cases m
        | cons x t ih =>
          intro m
          rcases List.mem_cons.mp m with q | q
          · obtain ⟨vs, z, _⟩ := x
            rw [← q, e] at z; cases z
          · exact ih q
      exact key h5 q
/-- a slot is written: s at v, which owns os -/
theorem Own.put {f : Nat → List Addr} (o : Own aw H0 ρ σ S H f) (hl : ρ.length = σ.length) {i : Nat} {s : SV} {v : V} {os : List Addr} (hi : i < ρ.length) (hs : SlotR aw S H s (some v) os) (nd : os.Nodup)
    (ok : ∀ a ∈ os, S a = none ∧ H0 a = none ∧ aw ≠ some a ∧ ∀ j, j ≠ i → a ∉ f j) : Own aw H0 (ρ.set i s) (σ.set i (some v)) S H (fun j => if j = i then os else f j) where
  slot := fun j => by
    rw [getD_set _ _ _ _ _ hi, getD_set _ _ _ _ _ (by omega)]
    by_cases e : j = i
    · subst e; simp only [if_pos]; exact hs
    · simp only [if_neg e]; exact o.slot j
  nd := fun j => by
    by_cases e : j = i
    · simp only [e, if_pos]; exact nd
    · simp only [if_neg e]; exact o.nd j
  apart := fun j l a h1 h2 => by
    by_cases e1 : j = i <;> by_cases e2 : l = i
    · rw [e1, e2]
    · simp only [e1, if_pos, if_neg e2] at h1 h2; exact ((ok a h1).2.2.2 l e2 h2).elim
    · simp only [if_neg e1, e2, if_pos] at h1 h2; exact ((ok a h2).2.2.2 j e1 h1).elim
    · simp only [if_neg e1, if_neg e2] at h1 h2; exact o.apart j l a h1 h2
  ok := fun j a h => by
    by_cases e : j = i
    · simp only [e, if_pos] at h
      obtain ⟨h1, h2, h3, _⟩ := ok a h
      exact ⟨h1, h2, h3, hs.there a h⟩
    · simp only [if_neg e] at h; exact o.ok j a h
/-- .. all new -/
theorem Rel.put (r : Rel aw S0 H0 ρ σ S H) {i : Nat} {s : SV} {v : V} {os : List Addr} (x : Ext aw S H S' H') (hs : SlotR aw S' H' s (some v) os) (nd : os.Nodup)
    (ok : ∀ a ∈ os, S' a = none ∧ H a = none ∧ aw ≠ some a) : Rel aw S0 H0 (ρ.set i s) (σ.set i (some v)) S' H' := by
  have r' := r.go x
  obtain ⟨f, o⟩ := r.own
  have hl := r.len
  by_cases hi : i < ρ.length
  · refine ⟨r'.ext, by simpa using hl, _, (o.ext x).put hl hi hs nd fun a m => ?_⟩
    obtain ⟨h1, h2, h3⟩ := ok a m
    exact ⟨h1, r.ext.free h2, h3, fun j _ hj => (o.ok j a hj).2.2.2 h2⟩
  · rw [List.set_eq_of_length_le (by omega), List.set_eq_of_length_le (by omega)]
    exact r'
/-- two slots at once -/
theorem Rel.put2 (r : Rel aw S0 H0 ρ σ S H) {i j : Nat} {s s' : SV} {v v' : V} {os os' : List Addr} (x : Ext aw S H S' H') (hij : i ≠ j) (hs : SlotR aw S' H' s (some v) os) (hs' : SlotR aw S' H' s' (some v') os') (nd : (os ++ os').Nodup)
    (ok : ∀ a ∈ os ++ os', S' a = none ∧ H a = none ∧ aw ≠ some a) : Rel aw S0 H0 ((ρ.set i s).set j s') ((σ.set i (some v)).set j (some v')) S' H' := by
  rw [List.nodup_append] at nd
  have ok1 : ∀ a ∈ os, S' a = none ∧ H a = none ∧ aw ≠ some a := fun a m => ok a (List.mem_append_left _ m)
  have ok2 : ∀ a ∈ os', S' a = none ∧ H a = none ∧ aw ≠ some a := fun a m => ok a (List.mem_append_right _ m)
  have r' := r.go x
  obtain ⟨f, o⟩ := r.own
  have hl := r.len
  by_cases hi : i < ρ.length
  · have o1 := (o.ext x).put hl hi hs nd.1 fun a m => by
      obtain ⟨h1, h2, h3⟩ := ok1 a m
      exact ⟨h1, r.ext.free h2, h3, fun j _ hj => (o.ok j a hj).2.2.2 h2⟩
    by_cases hj : j < ρ.length
    · refine ⟨r'.ext, by simpa using hl, _, o1.put (by simpa using hl) (by simpa using hj) hs' nd.2.1 fun a m => ?_⟩
      obtain ⟨h1, h2, h3⟩ := ok2 a m
      refine ⟨h1, r.ext.free h2, h3, fun l _ hm => ?_⟩
      by_cases e : l = i
      · simp only [e, if_pos] at hm
        exact nd.2.2 a hm a m rfl
      · simp only [if_neg e] at hm
        exact (o.ok l a hm).2.2.2 h2
    · rw [List.set_eq_of_length_le (l := ρ.set i s) (by rw [List.length_set]; omega), List.set_eq_of_length_le (l := σ.set i (some v)) (by rw [List.length_set]; omega)]
      exact ⟨r'.ext, by simpa using hl, _, o1⟩
  · rw [List.set_eq_of_length_le (l := ρ) (by omega), List.set_eq_of_length_le (l := σ) (by omega)]
    exact r.put x hs' nd.2.1 ok2
theorem Rel.putSh (r : Rel aw S0 H0 ρ σ S H) {i : Nat} {d : D} {v : V} (x : Ext aw S H S' H') (h : Rep aw S' d v) : Rel aw S0 H0 (ρ.set i (.sh d)) (σ.set i (some v)) S' H' :=
  r.put x (os := []) ⟨rfl, v, rfl, h⟩ List.nodup_nil (fun _ h => by cases h)
end

/-! ### targets -/
abbrev TDG := D → DEnv → (DEnv → Prop) → Prop
def liftG (aw : Option Addr) (S0 H0 : Hp) (is : List Nat) (tg : TDG) : TG := fun v σ H k => ∃ ρ S d Q, Rel aw S0 H0 ρ σ S H ∧ Rep aw S d v ∧ tg d ρ Q ∧
  ∀ ρ', Q ρ' → ∀ σ' S' H', Ext aw S H S' H' → Rel aw S0 H0 ρ' σ' S' H' → (σ'.length = σ.length ∧ ∀ j, j ∉ is → σ'[j]? = σ[j]?) → k σ' H'
structure DG (X : Cx) (e : Expr) (is : List Nat) (tg : TDG) : Prop where
  run : ∀ aw S0 H0, PG X e (liftG aw S0 H0 is tg)
theorem PG.imp {X : Cx} {e : Expr} {t t' : TG} (h : PG X e t) (i : ∀ v σ H k, t' v σ H k → t v σ H k) : PG X e t' := ⟨fun pins s σ H v u Q I r q => h.run pins s σ H v u Q I r (i _ _ _ _ q)⟩
def gN (i : Nat) : TDG := fun d ρ Q => Q (ρ.set i (.sh d))
section
variable {X : Cx} {pos : Pos}
theorem dg_name (i : Nat) {x : Str} (hN : X.N.Nodup) (hi : X.N[i]? = some x) (hx : Loc X.env.scope x) (hf : X.fn x = true ∨ X.env.scope.names.lookup x = some .local := by first | exact .inl rfl | exact .inr rfl | assumption) : DG X (.Name x pos) [i] (gN i) :=
  ⟨fun aw S0 H0 => PG.imp (pg_name hN hi hx hf) fun v σ H k ⟨ρ, S, d, Q, r, rd, h, c⟩ => by
    exact c _ h _ S H (.refl r.wf) (r.putSh (.refl r.wf) rd) ⟨by simp, fun j hj => by rw [List.getElem?_set_ne (fun e => hj (by simp [e]))]⟩⟩
/-- targets in a tuple -/
abbrev TDGs := List D → DEnv → (DEnv → Prop) → Prop
def liftGs (aw : Option Addr) (S0 H0 : Hp) (is : List Nat) (tg : TDGs) : TGs := fun vs σ H k => ∃ ρ S ds Q, Rel aw S0 H0 ρ σ S H ∧ Reps aw S ds vs ∧ tg ds ρ Q ∧
  ∀ ρ', Q ρ' → ∀ σ' S' H', Ext aw S H S' H' → Rel aw S0 H0 ρ' σ' S' H' → (σ'.length = σ.length ∧ ∀ j, j ∉ is → σ'[j]? = σ[j]?) → k σ' H'
structure DGs (X : Cx) (es : List Expr) (is : List Nat) (tg : TDGs) : Prop where
  run : ∀ aw S0 H0, PGs X es (liftGs aw S0 H0 is tg)
theorem PGs.imp {es : List Expr} {t t' : TGs} (h : PGs X es t) (i : ∀ v σ H k, t' v σ H k → t v σ H k) : PGs X es t' := ⟨fun pins s σ H v u Q I r q => h.run pins s σ H v u Q I r (i _ _ _ _ q)⟩
def gNl : TDGs := fun ds ρ Q => match ds with
  | [] => Q ρ
  | _ => False
def gCs (t : TDG) (u : TDGs) : TDGs := fun ds ρ Q => match ds with
  | d :: r => t d ρ fun ρ' => u r ρ' Q
  | _ => False
theorem dgs_nil : DGs X [] [] gNl := ⟨fun aw S0 H0 => PGs.imp pgs_nil fun vs σ H k ⟨ρ, S, ds, Q, r, rd, h, c⟩ => by
  unfold gNl at h
  split at h
  · cases rd
    exact ⟨rfl, c _ h _ S H (.refl r.wf) r ⟨rfl, fun _ _ => rfl⟩⟩
  · exact h.elim⟩
theorem dgs_cons {e : Expr} {es : List Expr} {is js : List Nat} {t : TDG} {u : TDGs} (h1 : DG X e is t) (h2 : DGs X es js u) (hs : (assignEach (e :: es) X.env).map (·.2) = assign e X.env :: (assignEach es X.env).map (·.2) := by rfl) : DGs X (e :: es) (is ++ js) (gCs t u) :=
  ⟨fun aw S0 H0 => PGs.imp (pgs_cons (h1.run aw S0 H0) (h2.run aw S0 H0) hs) fun vs σ H k ⟨ρ, S, ds, Q, r, rd, h, c⟩ => by
    unfold gCs at h
    split at h
    · rename_i d ds
      obtain ⟨v, vr, rfl, r1, r2⟩ := rd
      refine ⟨v, vr, rfl, ρ, S, d, _, r, r1, h, fun ρ1 q1 σ1 S1 H1 x1 rr1 st1 => ?_⟩
      exact ⟨ρ1, S1, ds, Q, rr1, r2.mono x1.le, q1, fun ρ2 q2 σ2 S2 H2 x2 rr2 st2 => c ρ2 q2 σ2 S2 H2 (x1.trans x2) rr2 ⟨st2.1.trans st1.1, fun j hj => by
        rw [st2.2 j (fun m => hj (List.mem_append_right _ m)), st1.2 j (fun m => hj (List.mem_append_left _ m))]⟩⟩
    · exact h.elim⟩
def gT (n : Nat) (t : TDGs) : TDG := fun d ρ Q => match d with
  | .tup ds => ds.length = n ∧ t ds ρ Q
  | _ => False
theorem dg_tup {es : List Expr} {k : Nat} {is : List Nat} {t : TDGs} {n : Nat} (hc : X.calm = true) (h : DGs X es is t) (hn : (assignEach es X.env).length = n := by rfl) (hst : (assignEach es X.env).findIdx? (·.1) = none := by rfl) : DG X (.Tuple es k pos) is (gT n t) :=
  ⟨fun aw S0 H0 => PG.imp (pg_tup hc (h.run aw S0 H0) hn hst) fun v σ H k ⟨ρ, S, d, Q, r, rd, h, c⟩ => by
    unfold gT at h
    split at h
    · obtain ⟨a, vs, rfl, h1, z, r1⟩ := rd
      exact ⟨a, vs, rfl, rdT (r.wf.sub.rd h1), by rw [← lenR r1]; exact h.1, ρ, S, _, Q, r, r1, h.2, c⟩
    · exact h.elim⟩
end

/-! ### the slots of a comprehension's own names -/
def wipeD (ρ : DEnv) : List Nat → DEnv
  | [] => ρ
  | v :: vs => (wipeD ρ vs).set v .no
theorem wipeD_length (ρ : DEnv) : ∀ vs, (wipeD ρ vs).length = ρ.length
  | [] => rfl
  | v :: vs => by unfold wipeD; rw [List.length_set, wipeD_length ρ vs]
section
variable {aw : Option Addr} {S0 H0 S H S' H' : Hp} {ρ : DEnv} {σ : L2.St}
theorem Rel.no (r : Rel aw S0 H0 ρ σ S H) (i : Nat) : Rel aw S0 H0 (ρ.set i .no) (σ.set i none) S H := by
  obtain ⟨f, o⟩ := r.own
  have hl := r.len
  by_cases hi : i < ρ.length
  · refine ⟨r.ext, by simpa using hl, fun j => if j = i then [] else f j, fun j => ?_, fun j => ?_, fun j l a h1 h2 => ?_, fun j a h => ?_⟩
    · rw [getD_set _ _ _ _ _ hi, getD_set _ _ _ _ _ (by omega)]
      by_cases e : j = i
      · simp only [e, if_pos]; exact rfl
      · simp only [if_neg e]; exact o.slot j
    · by_cases e : j = i
      · simp only [e, if_pos]; exact List.nodup_nil
      · simp only [if_neg e]; exact o.nd j
    · by_cases e1 : j = i
      · simp only [e1, if_pos] at h1; cases h1
      · by_cases e2 : l = i
        · simp only [e2, if_pos] at h2; cases h2
        · simp only [if_neg e1, if_neg e2] at h1 h2; exact o.apart j l a h1 h2
    · by_cases e : j = i
      · simp only [e, if_pos] at h; cases h
      · simp only [if_neg e] at h; exact o.ok j a h
  · rw [List.set_eq_of_length_le (by omega), List.set_eq_of_length_le (by omega)]
    exact r
theorem Rel.wipe (r : Rel aw S0 H0 ρ σ S H) : ∀ vs, Rel aw S0 H0 (wipeD ρ vs) (L2.wipe σ vs) S H
  | [] => r
  | v :: vs => (Rel.wipe r vs).no v
theorem wipe_get {σ : L2.St} : ∀ {vs : List Nat} {j : Nat}, (L2.wipe σ vs)[j]? = if j ∈ vs then (if j < σ.length then some none else none) else σ[j]?
  | [], j => by simp [L2.wipe]
  | v :: vs, j => by
    unfold L2.wipe
    by_cases e : j = v
    · subst e
      by_cases hl : j < σ.length
      · rw [List.getElem?_set_self (by rw [L2.wipe_length]; exact hl)]; simp [hl]
      · rw [List.getElem?_eq_none (by rw [List.length_set, L2.wipe_length]; omega)]; simp [hl]
    · rw [List.getElem?_set_ne (Ne.symm e), wipe_get]
      simp [e]
theorem wipe_same {σ σ2 : L2.St} {vs is : List Nat} (hl : σ2.length = σ.length) (hs : ∀ i ∈ is, i ∈ vs) (h : ∀ j, j ∉ is → σ2[j]? = (L2.wipe σ vs)[j]?) : L2.wipe σ2 vs = L2.wipe σ vs := by
  apply List.ext_getElem?
  intro j
  rw [wipe_get, wipe_get]
  by_cases hj : j ∈ vs
  · rw [if_pos hj, if_pos hj, hl]
  · rw [if_neg hj, if_neg hj, h j (fun m => hj (hs j m)), wipe_get, if_neg hj]
theorem Ext.over {p : Addr} {o : HO} (x : Ext aw S H S' H') (h0 : H p = none) (h1 : S' p = none) (hn : aw ≠ some p) : Ext aw S H S' (upd H' p o) := by
  refine ⟨⟨fun b u e => ?_, fun a e => ?_⟩, x.le, x.new, fun b u e n => ?_⟩
  · rw [upd_ne (fun z => by rw [z, h1] at e; cases e)]
    exact x.wf.sub b u e
  · obtain ⟨z1, ns, z2, z3⟩ := x.wf.well a e
    refine ⟨z1, ns, ?_, z3⟩
    rw [upd_ne (fun z => hn (by rw [← z]; exact e))]
    exact z2
  · rw [upd_ne (ne_of_none e h0)]
    exact x.keep b u e n
end

/-! ### comprehensions -/
def compD (g : TDG) (tt : TDT) (te : TD) (ρ : DEnv) : List D → List D → (List D → Prop) → Prop
  | [], acc, Q => Q acc
  | d :: ds, acc, Q => g d ρ fun ρ2 => tt ρ2 fun b => if b = true then te ρ2 fun e => compD g tt te ρ ds (acc ++ [e]) Q else compD g tt te ρ ds acc Q
def dComp (ti : TDI) (g : TDG) (tt : TDT) (te : TD) (vs : List Nat) : TDA := fun ρ Q => ti ρ fun ds => compD g tt te (wipeD ρ vs) ds [] Q
def dYes : TDT := fun _ Q => Q true
structure DTs (X : Cx) (ifs : List Expr) (td : TDT) : Prop where
  run : ∀ aw S0 H0, PTs X ifs (liftT aw S0 H0 td)
theorem PTs.imp {X : Cx} {e : List Expr} {t t' : TT} (h : PTs X e t) (i : ∀ σ H k, t' σ H k → t σ H k) : PTs X e t' := ⟨fun pins s σ H Q I q => h.run pins s σ H Q I (i _ _ _ q)⟩
theorem dts_nil {X : Cx} : DTs X [] dYes := ⟨fun aw S0 H0 => PTs.imp pts_nil fun σ H k ⟨ρ, S, Q, r, h, c⟩ => c _ h S H (.refl r.wf)⟩
theorem dts_one {X : Cx} {c : Expr} {td : TDT} (h : DT X c td) : DTs X [c] td := ⟨fun aw S0 H0 => pts_one (h.run aw S0 H0)⟩
section
variable {X : Cx} {aw : Option Addr} {S0 H0 : Hp} {ti : TDI} {g : TDG} {tt : TDT} {te : TD} {vs is : List Nat}
theorem comp_read (hs : ∀ i ∈ is, i ∈ vs) : ∀ σ H k, liftF aw S0 H0 (dComp ti g tt te vs) σ H k → tLc (liftO' aw S0 H0 ti) (liftG aw S0 H0 is g) (liftT aw S0 H0 tt) (lift aw S0 H0 te) vs σ H k := by
  rintro σ H k ⟨ρ, S, Q, r, h, c⟩
  refine ⟨ρ, S, _, r, h, fun ds hd J S1 H1 x1 it p hp => ?_⟩
  have hS1 : S1 p = none := by
    cases q : S1 p with
    | none => rfl
    | some u => rw [x1.wf.sub p u q] at hp; cases hp
  have hn : aw ≠ some p := fun e => by
    obtain ⟨_, ns, z, _⟩ := x1.wf.well p e
    rw [z] at hp; cases hp
  refine ⟨fun i m Hc => m = ds.length - i ∧ i ≤ ds.length ∧ ∃ Sc av ad, Ext aw S1 H1 Sc Hc ∧ Hc p = some (.lst av) ∧ Sc p = none ∧ Reps aw Sc ad av ∧ av.length ≤ i ∧ compD g tt te (wipeD ρ vs) (ds.drop i) ad Q,
    ⟨ds.length, by simp, Nat.zero_le _, S1, [], [], (Ext.refl x1.wf).over hp hS1 hn, upd_same, hS1, .nil, Nat.le_refl _, hd⟩, ?_⟩
  rintro i m Hc ⟨rfl, hi, Sc, av, ad, xc, hav, hSc, ra, hla, hcomp⟩
  have rc : Rel aw S0 H0 ρ σ Sc Hc := (r.go x1).go xc
  by_cases hlt : i < ds.length
  · have hget : ds[i]? = some ds[i] := List.getElem?_eq_getElem hlt
    rw [List.drop_eq_getElem_cons hlt] at hcomp
    obtain ⟨hgo, hy⟩ := it.go Sc Hc xc xc.wf i _ hget
    refine .inr ⟨hgo, fun Hn => ∃ Sc av ad, Ext aw S1 H1 Sc Hn ∧ Hn p = some (.lst av) ∧ Sc p = none ∧ Reps aw Sc ad av ∧ av.length ≤ i + 1 ∧ compD g tt te (wipeD ρ vs) (ds.drop (i + 1)) ad Q,
      fun H' ⟨Sc, av, ad, hh⟩ => ⟨ds.length - (i + 1), by omega, rfl, hlt, Sc, av, ad, hh⟩, fun x H' y => ?_⟩
    obtain ⟨S2, x2, r2⟩ := hy x H' y
    have keepP : ∀ {S3 H3 : Hp}, Ext aw Sc Hc S3 H3 → H3 p = some (.lst av) ∧ S3 p = none := fun {S3 H3} xx => by
      refine ⟨xx.keep p _ hav hn, ?_⟩
      cases q : S3 p with
      | none => rfl
      | some u =>
        rcases xx.new p u q with z | z
        · rw [hSc] at z; cases z
        · rw [hav] at z; cases z
    have rw2 : Rel aw S0 H0 (wipeD ρ vs) (L2.wipe σ vs) S2 H' := (rc.go x2).wipe vs
    refine ⟨wipeD ρ vs, S2, _, _, rw2, r2, hcomp, fun ρ3 q3 σ3 S3 H3 x3 rr3 st3 => ?_⟩
    have l3 : σ3.length = σ.length := st3.1.trans (L2.wipe_length _ _)
    refine ⟨wipe_same l3 hs st3.2, ρ3, S3, _, rr3, q3, fun b hb S4 H4 x4 => ?_⟩
    cases b with
    | false =>
      rw [if_neg Bool.false_ne_true] at hb ⊢
      have xx := (x2.trans x3).trans x4
      obtain ⟨z1, z2⟩ := keepP xx
      exact ⟨S4, av, ad, xc.trans xx, z1, z2, ra.mono xx.le, by omega, hb⟩
    | true =>
      rw [if_pos rfl] at hb ⊢
      refine ⟨ρ3, S4, _, rr3.go x4, hb, fun e he v S5 H5 x5 r5 => ?_⟩
      have xx := ((x2.trans x3).trans x4).trans x5
      obtain ⟨z1, z2⟩ := keepP xx
      refine ⟨av, z1, ?_, S5, av ++ [v], ad ++ [e], (xc.trans xx).over hp z2 hn, upd_same, z2, (ra.mono xx.le).snoc r5, by simp; omega, he⟩
      have := it.size
      omega
  · have e : i = ds.length := by omega
    subst e
    rw [List.drop_length] at hcomp
    refine .inl ⟨it.stop Sc Hc xc xc.wf, c ad hcomp p av Sc Hc (x1.trans xc) hSc (x1.free hp) hn hav ?_ ra⟩
    have := it.size
    omega
/-- [e for t in i if ..] -/
theorem df_comp {elt tg iter : Expr} {ifs : List Expr} {scope : Scope} {own : List (Str × Nat)} {pos : Pos} (hc : X.calm = true) (hN : X.N.Nodup) (hi : DIo X tg iter ti) (ok : BlkOk X.N X.env.scope scope own)
    (hg : ∀ (s : Shared) (H : Hp) (C : Addr) (cl : List (Str × Addr)) (fp : List Addr), DG (X.blk s H scope (compEnvC scope cl C X.env) fp) tg is g) (ht : ∀ (s : Shared) (H : Hp) (C : Addr) (cl : List (Str × Addr)) (fp : List Addr), DTs (X.blk s H scope (compEnvC scope cl C X.env) fp) ifs tt)
    (he : ∀ (s : Shared) (H : Hp) (C : Addr) (cl : List (Str × Addr)) (fp : List Addr), DE (X.blk s H scope (compEnvC scope cl C X.env) fp) elt te) (his : ∀ i ∈ is, i ∈ own.map (·.2) := by decide) (hs : ∀ x, foldedSetIterable iter X.env x = pure x := by intro _; rfl) :
    DF X (.ListComp elt [⟨tg, iter, ifs, 0⟩] scope pos) (dComp ti g tt te (own.map (·.2))) :=
  ⟨fun aw S0 H0 => PE.imp (pe_lc hc hN (hi.run aw S0 H0) ok (fun s H C cl fp => (hg s H C cl fp).run aw S0 H0) (fun s H C cl fp => (ht s H C cl fp).run aw S0 H0) (fun s H C cl fp => (he s H C cl fp).run aw S0 H0) hs) (comp_read his)⟩
end
end DL
/-! DL: statements -/
namespace DL
open PySem PySem.Spec PyProof.Rows L2

/-! ### values for slots -/
abbrev TDV := DEnv → (SV → Prop) → Prop
def liftV (aw : Option Addr) (S0 H0 : Hp) (tv : TDV) : TE := fun σ H k => ∃ ρ S Q, Rel aw S0 H0 ρ σ S H ∧ tv ρ Q ∧ ∀ s, Q s → ∀ v os S' H', Ext aw S H S' H' → SlotR aw S' H' s (some v) os → os.Nodup → (∀ a ∈ os, S' a = none ∧ H a = none ∧ aw ≠ some a) → k v H'
structure DV (X : Cx) (e : Expr) (tv : TDV) : Prop where
  run : ∀ aw S0 H0, PE X e (liftV aw S0 H0 tv)
def vSh (td : TD) : TDV := fun ρ Q => td ρ fun d => Q (.sh d)
def vOw (td : TDA) : TDV := fun ρ Q => td ρ fun ds => Q (.ow ds)
section
variable {X : Cx} {e : Expr} {aw : Option Addr} {S0 H0 : Hp}
theorem liftV_sh {td : TD} : ∀ σ H k, liftV aw S0 H0 (vSh td) σ H k → lift aw S0 H0 td σ H k := fun σ H k ⟨ρ, S, Q, r, h, c⟩ =>
  ⟨ρ, S, _, r, h, fun d hd v S1 H1 x1 r1 => c _ hd v [] S1 H1 x1 ⟨rfl, v, rfl, r1⟩ List.nodup_nil fun a h => by cases h⟩
theorem liftV_ow {td : TDA} : ∀ σ H k, liftV aw S0 H0 (vOw td) σ H k → liftF aw S0 H0 td σ H k := fun σ H k ⟨ρ, S, Q, r, h, c⟩ =>
  ⟨ρ, S, _, r, h, fun ds hd a vs S1 H1 x1 h1 h2 h3 h4 h5 h6 => c _ hd _ [a] S1 H1 x1 ⟨a, vs, rfl, rfl, h4, h5, h6⟩ (by simp) fun b hb => by
    have e : b = a := by simpa using hb
    rw [e]
    exact ⟨h1, h2, h3⟩⟩
theorem DE.v {td : TD} (h : DE X e td) : DV X e (vSh td) := ⟨fun aw S0 H0 => PE.imp (h.run aw S0 H0) liftV_sh⟩
theorem DF.v {td : TDA} (h : DF X e td) : DV X e (vOw td) := ⟨fun aw S0 H0 => PE.imp (h.run aw S0 H0) liftV_ow⟩
end

/-! ### several of them -/
abbrev TDVs := DEnv → (List SV → Prop) → Prop
def SlotsR (aw : Option Addr) (S H : Hp) : List SV → List V → List (List Addr) → Prop
  | [], vs, oss => vs = [] ∧ oss = []
  | s :: ss, vs, oss => ∃ v vr os or, vs = v :: vr ∧ oss = os :: or ∧ SlotR aw S H s (some v) os ∧ SlotsR aw S H ss vr or
def liftVs (aw : Option Addr) (S0 H0 : Hp) (tv : TDVs) : TA := fun σ H k => ∃ ρ S Q, Rel aw S0 H0 ρ σ S H ∧ tv ρ Q ∧ ∀ ss, Q ss → ∀ vs oss S' H', Ext aw S H S' H' → SlotsR aw S' H' ss vs oss → oss.flatten.Nodup → (∀ a ∈ oss.flatten, S' a = none ∧ H a = none ∧ aw ≠ some a) → k vs H'
structure DVs (X : Cx) (es : List Expr) (tv : TDVs) : Prop where
  run : ∀ aw S0 H0, PA X es (liftVs aw S0 H0 tv)
def vNil : TDVs := fun _ Q => Q []
def vCons (t : TDV) (u : TDVs) : TDVs := fun ρ Q => t ρ fun s => u ρ fun ss => Q (s :: ss)
section
variable {X : Cx} {aw : Option Addr} {S0 H0 : Hp}
theorem dvs_nil : DVs X [] vNil := ⟨fun aw S0 H0 => PA.imp pa_nil fun σ H k ⟨ρ, S, Q, r, h, c⟩ => c _ h [] [] S H (.refl r.wf) ⟨rfl, rfl⟩ (by simp) (fun a h => by simp at h)⟩
theorem SlotR.ext {S H S1 H1 : Hp} {s : SV} {ov : Option V} {os : List Addr} (h : SlotR aw S H s ov os) (x : Ext aw S H S1 H1) (ok : ∀ a ∈ os, aw ≠ some a) : SlotR aw S1 H1 s ov os :=
  h.mono x.le fun a m => by
    cases q : H a with
    | none => exact absurd q (h.there a m)
    | some u => exact x.keep a u q (ok a m)
theorem dvs_cons {e : Expr} {es : List Expr} {t : TDV} {u : TDVs} (ha : DV X e t) (hr : DVs X es u) (hs : starEach (e :: es) X.env = (false, eval e X.env) :: starEach es X.env := by rfl) : DVs X (e :: es) (vCons t u) :=
  ⟨fun aw S0 H0 => PA.imp (pa_cons (ha.run aw S0 H0) (hr.run aw S0 H0) hs) fun σ H k ⟨ρ, S, Q, r, h, c⟩ =>
    ⟨ρ, S, _, r, h, fun s hs v os S1 H1 x1 r1 n1 ok1 => ⟨ρ, S1, _, r.go x1, hs, fun ss hss vs oss S2 H2 x2 r2 n2 ok2 => by
      have fr : ∀ a ∈ os, S2 a = none ∧ H a = none ∧ aw ≠ some a := fun a m => by
        obtain ⟨z1, z2, z3⟩ := ok1 a m
        refine ⟨?_, z2, z3⟩
        cases q : S2 a with
        | none => rfl
        | some w =>
          rcases x2.new a w q with z | z
          · rw [z1] at z; cases z
          · exact absurd z (r1.there a m)
      refine c _ hss (v :: vs) (os :: oss) S2 H2 (x1.trans x2) ⟨v, vs, os, oss, rfl, rfl, r1.ext x2 (fun a m => (ok1 a m).2.2), r2⟩ ?_ fun a m => ?_
      · rw [List.flatten_cons, List.nodup_append]
        refine ⟨n1, n2, fun a m b m2 e => ?_⟩
        subst e
        exact r1.there a m (ok2 a m2).2.1
      · rw [List.flatten_cons] at m
        rcases List.mem_append.mp m with m | m
        · exact fr a m
        · obtain ⟨z1, z2, z3⟩ := ok2 a m
          exact ⟨z1, x1.free z2, z3⟩⟩⟩⟩
end

/-! ### blocks and small statements -/
section
variable {X : Cx} {st : Stmt} {rest a b : List Stmt} {t u : TDS} {e c : Expr} {te : TD} {tc : TDT} {pos : Pos} {k : Nat}
def dNext : TDS := fun K ρ => K.nx ρ
def dSeqS (t u : TDS) : TDS := fun K ρ => t { K with nx := u K } ρ
theorem dss_nil : DSs X [] dNext := ⟨fun aw S0 H0 => PSs.imp pss_nil fun E σ H ⟨ρ, S, K, r, h, i⟩ => i.nx ρ h σ S H (Le.refl S) r⟩
theorem dss_cons (h1 : DS X st t) (h2 : DSs X rest u) : DSs X (st :: rest) (dSeqS t u) :=
  ⟨fun aw S0 H0 => PSs.imp (pss_cons (h1.run aw S0 H0) (h2.run aw S0 H0)) fun E σ H ⟨ρ, S, K, r, h, i⟩ =>
    ⟨ρ, S, _, r, h, ⟨fun ρ' h' σ' S' H' l r' => ⟨ρ', S', K, r', h', i.le l⟩, i.rt, i.bk, i.ct⟩⟩⟩
theorem dss_one (h : DS X st t) : DSs X [st] t := ⟨fun aw S0 H0 => pss_one (h.run aw S0 H0)⟩
def dBreak : TDS := fun K ρ => K.bk ρ
def dCont : TDS := fun K ρ => K.ct ρ
theorem ds_pass : DS X (.Pass pos) dNext := ⟨fun aw S0 H0 => PS.imp ps_pass fun E σ H ⟨ρ, S, K, r, h, i⟩ => i.nx ρ h σ S H (Le.refl S) r⟩
theorem ds_break : DS X (.Break pos) dBreak := ⟨fun aw S0 H0 => PS.imp ps_break fun E σ H ⟨ρ, S, K, r, h, i⟩ => i.bk ρ h σ S H (Le.refl S) r⟩
theorem ds_continue : DS X (.Continue pos) dCont := ⟨fun aw S0 H0 => PS.imp ps_continue fun E σ H ⟨ρ, S, K, r, h, i⟩ => i.ct ρ h σ S H (Le.refl S) r⟩
def dDrop (te : TD) : TDS := fun K ρ => te ρ fun _ => K.nx ρ
theorem ds_expr (he : DE X e te) (hs : swapsWith e none pos.line X.env = pure false := by rfl) : DS X (.Expr e pos) (dDrop te) :=
  ⟨fun aw S0 H0 => PS.imp (ps_expr (he.run aw S0 H0) hs) fun E σ H ⟨ρ, S, K, r, h, i⟩ => ⟨ρ, S, _, r, h, fun d hd v S1 H1 x1 r1 => i.nx ρ hd σ S1 H1 x1.le (r.go x1)⟩⟩
def dRet (te : TD) : TDS := fun K ρ => te ρ K.rt
theorem ds_ret (he : DE X e te) : DS X (.Return (some e) pos) (dRet te) :=
  ⟨fun aw S0 H0 => PS.imp (ps_ret (he.run aw S0 H0)) fun E σ H ⟨ρ, S, K, r, h, i⟩ => ⟨ρ, S, _, r, h, fun d hd v S1 H1 x1 r1 => i.rt d hd v S1 H1 (r.ext.trans x1) r1⟩⟩
def dRetN : TDS := fun K ρ => K.rt .non
theorem ds_retN : DS X (.Return none pos) dRetN :=
  ⟨fun aw S0 H0 => PS.imp ps_retN fun E σ H ⟨ρ, S, K, r, h, i⟩ => i.rt .non h _ S H r.ext rfl⟩
def dIf (c : TDT) (t u : TDS) : TDS := fun K ρ => c ρ fun b => if b = true then t K ρ else u K ρ
theorem ds_if (hc : DT X c tc) (ha : DSs X a t) (hb : DSs X b u) : DS X (.If c a b pos) (dIf tc t u) :=
  ⟨fun aw S0 H0 => PS.imp (ps_if (hc.run aw S0 H0) (ha.run aw S0 H0) (hb.run aw S0 H0)) fun E σ H ⟨ρ, S, K, r, h, i⟩ => ⟨ρ, S, _, r, h, fun d hd S1 H1 x1 => by
    cases d with
    | true =>
      rw [if_pos rfl] at hd ⊢
      exact ⟨ρ, S1, K, r.go x1, hd, i.le x1.le⟩
    | false =>
      rw [if_neg Bool.false_ne_true] at hd ⊢
      exact ⟨ρ, S1, K, r.go x1, hd, i.le x1.le⟩⟩⟩
def dNever : TDS := fun _ _ => False
theorem ds_never : DS X st dNever := ⟨fun aw S0 H0 => PS.imp ps_never fun E σ H ⟨ρ, S, K, r, h, i⟩ => h.elim⟩

/-! names stored -/
def dSet (i : Nat) (tv : TDV) : TDS := fun K ρ => tv ρ fun s => K.nx (ρ.set i s)
theorem asg_read {aw : Option Addr} {S0 H0 : Hp} {i : Nat} {tv : TDV} {t : TE} (ht : ∀ σ H k, liftV aw S0 H0 tv σ H k → t σ H k) : ∀ E σ H, liftS aw S0 H0 (dSet i tv) E σ H → tAsg t (gName i) E σ H :=
  fun E σ H ⟨ρ, S, K, r, h, im⟩ => ht σ H _ ⟨ρ, S, _, r, h, fun s hs v os S1 H1 x1 r1 n1 ok1 => im.nx _ hs _ S1 H1 x1.le (r.put x1 r1 n1 ok1)⟩
theorem ds_set (i : Nat) {x : Str} {tv : TDV} {pos' : Pos} (hN : X.N.Nodup) (hi : X.N[i]? = some x) (hx : Loc X.env.scope x) (he : DV X e tv) (hs : swapsWith e (some (.Name x pos')) pos.line X.env = pure false := by rfl)
    (hf : X.fn x = true ∨ X.env.scope.names.lookup x = some .local := by first | exact .inl rfl | exact .inr rfl | assumption) : DS X (.Assign [.Name x pos'] e pos) (dSet i tv) :=
  ⟨fun aw S0 H0 => PS.imp (ps_set hN hi hx (he.run aw S0 H0) hs hf) (asg_read fun _ _ _ h => h)⟩
/-- name = [..]: a comprehension stored in a local, shared or owned -/
theorem ds_setLc (i : Nat) {y : Str} {py : Pos} {elt tg iter : Expr} {ifs : List Expr} {scope : Scope} {own : List (Str × Nat)} {pos spos : Pos} {ti : TDI} {g : TDG} {tt : TDT} {te : TD} {is : List Nat} {tv : TDV} (hc : X.calm = true) (hN : X.N.Nodup) (hy : X.N[i]? = some y) (hyl : X.env.scope.names.lookup y = some .local)
    (hsw : swapsWith (.ListComp elt [⟨tg, iter, ifs, 0⟩] scope pos) (some (.Name y py)) spos.line X.env = pure true) (hi : DIo X tg iter ti) (ok : BlkOk X.N X.env.scope scope own)
    (hg : ∀ (s : Shared) (H : Hp) (C : Addr) (cl : List (Str × Addr)) (fp : List Addr), DG (X.blk s H scope (compEnvC scope cl C X.env) fp) tg is g) (ht : ∀ (s : Shared) (H : Hp) (C : Addr) (cl : List (Str × Addr)) (fp : List Addr), DTs (X.blk s H scope (compEnvC scope cl C X.env) fp) ifs tt)
    (he : ∀ (s : Shared) (H : Hp) (C : Addr) (cl : List (Str × Addr)) (fp : List Addr), DE (X.blk s H scope (compEnvC scope cl C X.env) fp) elt te) (hv : ∀ aw S0 H0 σ H k, liftV aw S0 H0 tv σ H k → liftF aw S0 H0 (dComp ti g tt te (own.map (·.2))) σ H k)
    (his : ∀ i ∈ is, i ∈ own.map (·.2) := by decide) (hs : ∀ x, foldedSetIterable iter X.env x = pure x := by intro _; rfl) :
    DS X (.Assign [.Name y py] (.ListComp elt [⟨tg, iter, ifs, 0⟩] scope pos) spos) (dSet i tv) :=
  ⟨fun aw S0 H0 => PS.imp (ps_setLc hc hN hy hyl hsw (hi.run aw S0 H0) ok (fun s H C cl fp => (hg s H C cl fp).run aw S0 H0) (fun s H C cl fp => (ht s H C cl fp).run aw S0 H0) (fun s H C cl fp => (he s H C cl fp).run aw S0 H0) hs)
    (asg_read fun σ H k h => comp_read his σ H k (hv aw S0 H0 σ H k h))⟩
theorem cv_sh {td : TDA} : ∀ aw S0 H0 σ H k, liftV aw S0 H0 (vSh (dFr td)) σ H k → liftF aw S0 H0 td σ H k := fun aw S0 H0 σ H k ⟨ρ, S, Q, r, h, c⟩ =>
  ⟨ρ, S, _, r, h, fun ds hd a vs S1 H1 x1 h1 h2 h3 h4 h5 h6 => by
    have x := ext_fresh x1 h1 h2 h3 h4
    exact c _ hd _ [] _ H1 x ⟨rfl, _, rfl, a, vs, rfl, upd_same, h5, h6.mono (le_upd h1)⟩ List.nodup_nil fun b h => by cases h⟩
theorem cv_ow {td : TDA} : ∀ aw S0 H0 σ H k, liftV aw S0 H0 (vOw td) σ H k → liftF aw S0 H0 td σ H k := fun aw S0 H0 => liftV_ow
/-- a, b = x, y -/
def dPar (i j : Nat) (tv : TDVs) : TDS := fun K ρ => tv ρ fun ss => match ss with
  | [s, s'] => K.nx ((ρ.set i s).set j s')
  | _ => False
theorem SlotsR.two {aw : Option Addr} {S H : Hp} {s s' : SV} {vs : List V} {oss : List (List Addr)} (h : SlotsR aw S H [s, s'] vs oss) : ∃ v v' o o', vs = [v, v'] ∧ oss = [o, o'] ∧ SlotR aw S H s (some v) o ∧ SlotR aw S H s' (some v') o' := by
  obtain ⟨v, vr, o, or, rfl, rfl, r1, v', vr', o', or', rfl, rfl, r2, rfl, rfl⟩ := h
  exact ⟨v, v', o, o', rfl, rfl, r1, r2⟩
theorem ds_par (i j : Nat) {x y : Str} {a b : Expr} {tv : TDVs} {px py pt : Pos} {kt k2 pt2} (hc : X.calm = true) (hN : X.N.Nodup) (hi : X.N[i]? = some x) (hj : X.N[j]? = some y) (hij : i ≠ j)
    (hx : X.env.scope.names.lookup x = some .local) (hy : X.env.scope.names.lookup y = some .local) (ha : DVs X [a, b] tv)
    (hw : swappedStores [.Tuple [.Name x px, .Name y py] kt pt] (.Tuple [a, b] k2 pt2) X.env = pure (some [x, y]))
    (hs : swapsWithSole [.Tuple [.Name x px, .Name y py] kt pt] (.Tuple [a, b] k2 pt2) pos.line X.env = pure false := by rfl) :
    DS X (.Assign [.Tuple [.Name x px, .Name y py] kt pt] (.Tuple [a, b] k2 pt2) pos) (dPar i j tv) :=
  ⟨fun aw S0 H0 => PS.imp (ps_par hc hN hi hj hij hx hy (ha.run aw S0 H0) hw hs) fun E σ H ⟨ρ, S, K, r, h, im⟩ => ⟨ρ, S, _, r, h, fun ss hss vs oss S1 H1 x1 r1 n1 ok1 => by
    split at hss
    · rename_i s s'
      obtain ⟨v, v', o, o', rfl, rfl, r2, r3⟩ := r1.two
      have n1 : (o ++ o').Nodup := by simpa using n1
      have ok1 : ∀ a ∈ o ++ o', S1 a = none ∧ H a = none ∧ aw ≠ some a := by simpa using ok1
      exact ⟨v, v', rfl, im.nx _ hss _ S1 H1 x1.le (r.put2 x1 hij r2 r3 n1 ok1)⟩
    · exact hss.elim⟩⟩
end
end DL
/-! DL: owned lists: lent, frozen, changed -/
namespace DL
open PySem PySem.Spec PyProof.Rows L2

mutual
def listFree : D → Bool
  | .tup xs => listFrees xs
  | .lst _ => false
  | .dct _ _ => false
  | .ft xs => listFrees xs
  | .non => true
  | .bl _ => true
  | .int _ => true
  | .str _ => true
  | .well => true
def listFrees : List D → Bool
  | [] => true
  | x :: xs => listFree x && listFrees xs
end
theorem listFrees_all : ∀ xs : List D, listFrees xs = xs.all listFree
  | [] => rfl
  | x :: xs => by rw [listFrees, listFrees_all xs]; rfl
def del (S : Hp) (a : Addr) : Hp := fun b => if b = a then none else S b
theorem del_ne {S : Hp} {a b : Addr} (h : b ≠ a) : del S a b = S b := by unfold del; rw [if_neg h]
theorem del_same {S : Hp} {a : Addr} : del S a a = none := by unfold del; rw [if_pos rfl]
/-- what no tuple is -/
def NoTup (o : HO) : Prop := (∀ xs, o ≠ .tup xs) ∧ ∀ ob u, o ≠ .frz ob u
theorem noTup_lst {xs : List V} : NoTup (.lst xs) := ⟨(fun _ z => by cases z), fun _ _ z => by cases z⟩
theorem noTup_dK {xs : List (Key × V)} : NoTup (.dK xs) := ⟨(fun _ z => by cases z), fun _ _ z => by cases z⟩
theorem del_rd {S : Hp} {a b : Addr} {o : HO} {xs : List V} (h : S a = some o) (n : NoTup o) (r : Rd S b (.tup xs)) : Rd (del S a) b (.tup xs) := by
  rcases r with r | ⟨ob, r⟩
  · exact .inl (by rw [del_ne (fun q => by rw [q, h] at r; cases r; exact n.1 xs rfl)]; exact r)
  · exact .inr ⟨ob, by rw [del_ne (fun q => by rw [q, h] at r; cases r; exact n.2 _ _ rfl)]; exact r⟩
section
variable {aw : Option Addr} {S : Hp} {a : Addr} {o : HO}
mutual
theorem Rep.del (h : S a = some o) (n : NoTup o) : ∀ {d : D} {v : V}, listFree d = true → Rep aw S d v → Rep aw (del S a) d v
  | .non, _, _, r => r
  | .bl _, _, _, r => r
  | .int _, _, _, r => r
  | .str _, _, _, r => r
  | .well, _, _, r => r
  | .lst _, _, f, _ => by simp [listFree] at f
  | .dct _ _, _, f, _ => by simp [listFree] at f
  | .tup ds, _, f, ⟨b, vs, e, h1, z, r⟩ => ⟨b, vs, e, del_rd h n h1, z, Reps.del h n f r⟩
  | .ft ds, _, f, ⟨b, vs, o, e, ⟨h1, h2, h3⟩, z, r⟩ => ⟨b, vs, o, e, ⟨(by
      rw [del_ne (fun q => by rw [q, h] at h1; cases h1; exact n.2 _ _ rfl)]
      exact h1), h2, h3⟩, z, Reps.del h n f r⟩
theorem Reps.del (h : S a = some o) (n : NoTup o) : ∀ {ds : List D} {vs : List V}, listFrees ds = true → Reps aw S ds vs → Reps aw (del S a) ds vs
  | [], _, _, r => r
  | d :: ds, _, f, ⟨v, vr, e, r, t⟩ => by
    rw [listFrees, Bool.and_eq_true] at f
    exact ⟨v, vr, e, Rep.del h n f.1 r, Reps.del h n f.2 t⟩
end
end
section
variable {aw : Option Addr} {S0 H0 S H S' H' : Hp} {ρ : DEnv} {σ : L2.St}
/-- an owned object is shared for good -/
theorem Rel.share (r : Rel aw S0 H0 ρ σ S H) {i : Nat} {d : D} {a : Addr} {o : HO} {f : Nat → List Addr} (ow : Own aw H0 ρ σ S H f) (hf : f i = [a]) (ha : H a = some o) (hr : Rep aw (upd S a o) d (.ref a)) (hσ : σ.getD i none = some (.ref a)) :
    Rel aw S0 H0 (ρ.set i (.sh d)) σ (upd S a o) H := by
  have ma : a ∈ f i := by rw [hf]; simp
  obtain ⟨h1, h2, h3, h4⟩ := ow.ok i a ma
  have hl := r.len
  have le := le_upd (o := o) h1
  have x := ext_fresh r.ext h1 h2 h3 ha
  by_cases hi : i < ρ.length
  · refine ⟨x, by simpa using hl, fun j => if j = i then [] else f j, fun j => ?_, fun j => ?_, fun j l b p q => ?_, fun j b m => ?_⟩
    · rw [getD_set _ _ _ _ _ hi]
      by_cases e : j = i
      · subst e; simp only [if_pos]; exact ⟨rfl, _, hσ, hr⟩
      · simp only [if_neg e]; exact (ow.slot j).mono le fun _ _ => rfl
    · by_cases e : j = i
      · simp only [e, if_pos]; exact List.nodup_nil
      · simp only [if_neg e]; exact ow.nd j
    · by_cases e1 : j = i
      · simp only [e1, if_pos] at p; cases p
      · by_cases e2 : l = i
        · simp only [e2, if_pos] at q; cases q
        · simp only [if_neg e1, if_neg e2] at p q; exact ow.apart j l b p q
    · by_cases e : j = i
      · simp only [e, if_pos] at m; cases m
      · simp only [if_neg e] at m
        obtain ⟨z1, z2, z3, z4⟩ := ow.ok j b m
        refine ⟨?_, z2, z3, z4⟩
        rw [upd_ne (fun q => e (ow.apart j i b m (by rw [q]; exact ma)))]
        exact z1
  · have hs := ow.slot i
    rw [List.getD_eq_getElem?_getD, List.getElem?_eq_none (by omega)] at hs
    have hs : f i = [] := hs
    rw [hs] at ma; cases ma
/-- back from a loan -/
theorem Ext.back (hS : S (a : Addr) = none) {o : HO} (x : Ext aw (upd S a o) H S' H') (w : Wf aw S H) : Ext aw S H (del S' a) H' := by
  refine ⟨⟨fun b u e => ?_, fun b e => ?_⟩, fun b u e => ?_, fun b u e => ?_, x.keep⟩
  · unfold del at e
    split at e
    · cases e
    · exact x.wf.sub b u e
  · obtain ⟨z1, ns, z2, z3⟩ := x.wf.well b e
    refine ⟨?_, ns, z2, z3⟩
    unfold del
    split
    · rfl
    · exact z1
  · have hb : b ≠ a := fun q => by rw [q, hS] at e; cases e
    rw [del_ne hb]
    exact x.le b u (by rw [upd_ne hb]; exact e)
  · unfold del at e
    split at e
    · cases e
    · rename_i hb
      rcases x.new b u e with z | z
      · rw [upd_ne hb] at z; exact .inl z
      · exact .inr z
/-- a dict by its pairs -/
def mkD (kvs : List (Key × D)) : D := .dct (kvs.map (·.1)) (kvs.map (·.2))
/-- what a slot owns, as data -/
def slotD : SV → Option D
  | .ow xs => some (.lst xs)
  | .od kvs => some (mkD kvs)
  | _ => none
theorem Rel.loan (r : Rel aw S0 H0 ρ σ S H) {i : Nat} {d : D} (hd : slotD (ρ.getD i .no) = some d) : ∃ a o, S a = none ∧ NoTup o ∧ Rel aw S0 H0 (ρ.set i (.sh d)) σ (upd S a o) H ∧ (upd S a o) a = some o := by
  obtain ⟨f, ow⟩ := r.own
  have hs := ow.slot i
  cases q : ρ.getD i .no with
  | ow xs =>
    rw [q] at hd hs
    cases hd
    obtain ⟨a, vs, e1, e2, h1, z, r1⟩ := hs
    have hS := (ow.ok i a (by rw [e2]; simp)).1
    exact ⟨a, .lst vs, hS, noTup_lst, r.share ow e2 h1 ⟨a, vs, rfl, upd_same, z, r1.mono (le_upd hS)⟩ e1, upd_same⟩
  | od ks =>
    rw [q] at hd hs
    cases hd
    obtain ⟨a, kvs, e1, e2, h1, ek, z, r1⟩ := hs
    have hS := (ow.ok i a (by rw [e2]; simp)).1
    exact ⟨a, .dK kvs, hS, noTup_dK, r.share ow e2 h1 ⟨a, kvs, rfl, upd_same, ek, z, r1.mono (le_upd hS)⟩ e1, upd_same⟩
  | no => rw [q] at hd; cases hd
  | sh _ => rw [q] at hd; cases hd
  | ow2 _ => rw [q] at hd; cases hd
  | hd _ _ => rw [q] at hd; cases hd
end

/-! ### a list is lent to an expression that hands back no list -/
def dLend (i : Nat) (td : TD) : TD := fun ρ Q => match slotD (ρ.getD i .no) with
  | some d => td (ρ.set i (.sh d)) fun e => listFree e = true ∧ Q e
  | none => False
def dLendT (i : Nat) (td : TDT) : TDT := fun ρ Q => match slotD (ρ.getD i .no) with
  | some d => td (ρ.set i (.sh d)) Q
  | none => False
section
variable {X : Cx} {e : Expr} {te : TD} {tt : TDT}
theorem de_lend (i : Nat) (h : DE X e te) : DE X e (dLend i te) := ⟨fun aw S0 H0 => PE.imp (h.run aw S0 H0) fun σ H k ⟨ρ, S, Q, r, h, c⟩ => by
  unfold dLend at h
  split at h
  · rename_i d hd
    obtain ⟨a, o, hS, no, r2, hsame⟩ := r.loan hd
    refine ⟨_, _, _, r2, h, fun d' hd' v S1 H1 x1 r1 => ?_⟩
    exact c d' hd'.2 v _ H1 (x1.back hS r.wf) (r1.del (x1.le a o hsame) no hd'.1)
  · exact h.elim⟩
theorem dt_lend (i : Nat) (h : DT X e tt) : DT X e (dLendT i tt) := ⟨fun aw S0 H0 => PT.imp (h.run aw S0 H0) fun σ H k ⟨ρ, S, Q, r, h, c⟩ => by
  unfold dLendT at h
  split at h
  · rename_i d hd
    obtain ⟨a, o, hS, no, r2, hsame⟩ := r.loan hd
    exact ⟨_, _, _, r2, h, fun b hb S1 H1 x1 => c b hb _ H1 (x1.back hS r.wf)⟩
  · exact h.elim⟩
end

/-! ### frozen: from now on shared -/
def dFreeze (i : Nat) (t : TDS) : TDS := fun K ρ => match slotD (ρ.getD i .no) with
  | some d => t K (ρ.set i (.sh d))
  | none => False
theorem dss_freeze {X : Cx} {sts : List Stmt} {t : TDS} (i : Nat) (h : DSs X sts t) : DSs X sts (dFreeze i t) := ⟨fun aw S0 H0 => PSs.imp (h.run aw S0 H0) fun E σ H ⟨ρ, S, K, r, h, im⟩ => by
  unfold dFreeze at h
  split at h
  · rename_i d hd
    obtain ⟨a, o, hS, no, r2, hsame⟩ := r.loan hd
    exact ⟨_, _, K, r2, h, im.le (le_upd hS)⟩
  · exact h.elim⟩

/-! ### changed -/
section
variable {aw : Option Addr} {S0 H0 S H : Hp} {ρ : DEnv} {σ : L2.St}
theorem Rel.mut (r : Rel aw S0 H0 ρ σ S H) {i : Nat} {s' : SV} {a : Addr} {o : HO} {f : Nat → List Addr} (ow : Own aw H0 ρ σ S H f) (ma : a ∈ f i) (hs : SlotR aw S (upd H a o) s' (σ.getD i none) (f i)) : Rel aw S0 H0 (ρ.set i s') σ S (upd H a o) := by
  obtain ⟨h1, h2, h3, h4⟩ := ow.ok i a ma
  have hl := r.len
  have x := r.ext.over (o := o) h2 h1 h3
  have hi : i < ρ.length := by
    rcases Nat.lt_or_ge i ρ.length with h | h
    · exact h
    · have hs := ow.slot i
      rw [List.getD_eq_getElem?_getD, List.getElem?_eq_none h] at hs
      have hs : f i = [] := hs
      rw [hs] at ma; cases ma
  refine ⟨x, by simpa using hl, f, fun j => ?_, ow.nd, ow.apart, fun j b m => ?_⟩
  · rw [getD_set _ _ _ _ _ hi]
    by_cases e : j = i
    · subst e; rw [if_pos rfl]; exact hs
    · rw [if_neg e]
      exact (ow.slot j).mono (Le.refl _) fun b m => upd_ne fun q => e (ow.apart j i b m (by rw [q]; exact ma))
  · obtain ⟨z1, z2, z3, z4⟩ := ow.ok j b m
    refine ⟨z1, z2, z3, ?_⟩
    by_cases q : b = a
    · rw [q, upd_same]; simp
    · rw [upd_ne q]; exact z4
/-- an owned list -/
theorem Rel.owned (r : Rel aw S0 H0 ρ σ S H) {i : Nat} {xs : List D} (h : ρ.getD i .no = .ow xs) : ∃ a vs, σ[i]? = some (some (.ref a)) ∧ H a = some (.lst vs) ∧ vs.length ≤ sizeLine ∧ Reps aw S xs vs ∧ S a = none ∧ aw ≠ some a ∧
    ∀ {S' H' : Hp}, Ext aw S H S' H' → H' a = some (.lst vs) ∧ ∀ {ys : List D} {ws : List V}, Reps aw S' ys ws → ws.length ≤ sizeLine → Rel aw S0 H0 (ρ.set i (.ow ys)) σ S' (upd H' a (.lst ws)) := by
  obtain ⟨f, ow⟩ := r.own
  have hs := ow.slot i
  rw [h] at hs
  obtain ⟨a, vs, e1, e2, h1, z, r1⟩ := hs
  obtain ⟨h2, h3, h4, h5⟩ := ow.ok i a (by rw [e2]; simp)
  refine ⟨a, vs, getD_some e1, h1, z, r1, h2, h4, fun x => ⟨x.keep a _ h1 h4, fun {ys ws} rr zz => ?_⟩⟩
  exact (r.go x).mut (ow.ext x) (by rw [e2]; simp) ⟨a, ws, e1, e2, upd_same, zz, rr⟩
end
section
variable {X : Cx} {e i2 : Expr} {te ti : TD} {pos cpos apos : Pos} {k : Nat}
/-- x.append(e) -/
def dAppend (i : Nat) (te : TD) : TDS := fun K ρ => match ρ.getD i .no with
  | .ow xs => te ρ fun d => xs.length < sizeLine ∧ K.nx (ρ.set i (.ow (xs ++ [d])))
  | _ => False
theorem ds_append (i : Nat) {x : Str} {p : Pos} (hN : X.N[i]? = some x) (hv : Vis X.env.scope x) (he : DE X e te) (hd : (x == ("__debug__" : Str)) = false := by decide) (hcd : (x == ("__classdict__" : Str)) = false := by decide)
    (hbase : attributeBase (.Name x p) "append" X.env (eval (.Name x p) X.env) = eval (.Name x p) X.env := by rfl) (hfew : ((backTo cpos (starEach [e] X.env)).all (fun x => !x.1) && (backToKw cpos (keywordEach [] X.env)).all (fun x => x.1.isSome) && decide ([e].length + ([] : List Keyword).length + (if ([] : List Keyword).isEmpty then 0 else 1) < 30)) = true := by rfl)
    (hline : (apos.endLine == cpos.line) = true := by rfl) (hs : starEach [e] X.env = (false, eval e X.env) :: starEach [] X.env := by rfl) (hplain : (backTo cpos (starEach [] X.env)).any (·.1) = false := by rfl)
    (hsw : swapsWith (.Call (.Attribute (.Name x p) "append" apos) [e] [] cpos) none pos.line X.env = pure false := by rfl) :
    DS X (.Expr (.Call (.Attribute (.Name x p) "append" apos) [e] [] cpos) pos) (dAppend i te) :=
  ⟨fun aw S0 H0 => PS.imp (ps_expr (pe_bm PySem.F.plainAttrs_list PySem.F.slot_list_append PySem.F.type_list_append mt_append (pe_var hN hv hd hcd) (pa_cons (he.run aw S0 H0) pa_nil hs) hbase hfew hline hs hplain) hsw) fun E σ H ⟨ρ, S, K, r, h, im⟩ => by
    unfold dAppend at h
    split at h
    · rename_i xs hx
      obtain ⟨a, vs, e1, h1, z1, r1, h2, h3, mu⟩ := r.owned hx
      refine ⟨_, e1, .inl ⟨rfl, vs, .of h1⟩, ρ, S, _, r, h, fun d hd v S1 H1 x1 rd => ?_⟩
      obtain ⟨hz, hd⟩ := hd
      obtain ⟨h4, mu⟩ := mu x1
      have hz : vs.length < sizeLine := by rw [← lenR r1]; exact hz
      exact ⟨a, vs, v, rfl, rfl, h4, hz, im.nx _ hd σ S1 _ x1.le (mu ((r1.mono x1.le).snoc rd) (by simp; omega))⟩
    · exact h.elim⟩
/-- x.extend(e) -/
def dExtend (i : Nat) (te : TD) : TDS := fun K ρ => match ρ.getD i .no with
  | .ow xs => te ρ fun d => match d with
    | .lst ys => xs.length + ys.length ≤ sizeLine ∧ K.nx (ρ.set i (.ow (xs ++ ys)))
    | _ => False
  | _ => False
theorem ds_extend (i : Nat) {x : Str} {p : Pos} (hN : X.N[i]? = some x) (hv : Vis X.env.scope x) (he : DE X e te) (hd : (x == ("__debug__" : Str)) = false := by decide) (hcd : (x == ("__classdict__" : Str)) = false := by decide)
    (hbase : attributeBase (.Name x p) "extend" X.env (eval (.Name x p) X.env) = eval (.Name x p) X.env := by rfl) (hfew : ((backTo cpos (starEach [e] X.env)).all (fun x => !x.1) && (backToKw cpos (keywordEach [] X.env)).all (fun x => x.1.isSome) && decide ([e].length + ([] : List Keyword).length + (if ([] : List Keyword).isEmpty then 0 else 1) < 30)) = true := by rfl)
    (hline : (apos.endLine == cpos.line) = true := by rfl) (hs : starEach [e] X.env = (false, eval e X.env) :: starEach [] X.env := by rfl) (hplain : (backTo cpos (starEach [] X.env)).any (·.1) = false := by rfl)
    (hsw : swapsWith (.Call (.Attribute (.Name x p) "extend" apos) [e] [] cpos) none pos.line X.env = pure false := by rfl) :
    DS X (.Expr (.Call (.Attribute (.Name x p) "extend" apos) [e] [] cpos) pos) (dExtend i te) :=
  ⟨fun aw S0 H0 => PS.imp (ps_expr (pe_bm PySem.F.plainAttrs_list PySem.F.slot_list_extend PySem.F.type_list_extend mt_extend (pe_var hN hv hd hcd) (pa_cons (he.run aw S0 H0) pa_nil hs) hbase hfew hline hs hplain) hsw) fun E σ H ⟨ρ, S, K, r, h, im⟩ => by
    unfold dExtend at h
    split at h
    · rename_i xs hx
      obtain ⟨a, vs, e1, h1, z1, r1, h2, h3, mu⟩ := r.owned hx
      refine ⟨_, e1, .inl ⟨rfl, vs, .of h1⟩, ρ, S, _, r, h, fun d hd v S1 H1 x1 rd => ?_⟩
      split at hd
      · obtain ⟨b, ws, rfl, hb, zb, rb⟩ := rd
        obtain ⟨hz, hd⟩ := hd
        obtain ⟨h4, mu⟩ := mu x1
        rw [lenR r1, lenR rb] at hz
        exact ⟨a, b, vs, ws, rfl, rfl, h4, x1.wf.sub _ _ hb, hz, im.nx _ hd σ S1 _ x1.le (mu ((r1.mono x1.le).append rb) (by rw [List.length_append]; exact hz))⟩
      · exact hd.elim
    · exact h.elim⟩
/-- x[i] = e -/
def dSetIx (i : Nat) (ti te : TD) : TDS := fun K ρ => match ρ.getD i .no with
  | .ow xs => te ρ fun d => ti ρ fun j => match j with
    | .int n => match ixN xs.length n with
      | some m => K.nx (ρ.set i (.ow (xs.set m d)))
      | none => False
    | _ => False
  | _ => False
theorem ds_setIx (i : Nat) {x : Str} {p p2 : Pos} (hN : X.N[i]? = some x) (hv : Vis X.env.scope x) (hi : DE X i2 ti) (he : DE X e te) (hd : (x == ("__debug__" : Str)) = false := by decide) (hcd : (x == ("__classdict__" : Str)) = false := by decide)
    (hs : swapsWithSole [.Subscript (.Name x p) i2 p2] e pos.line X.env = pure false := by rfl) (hw : swappedStores [.Subscript (.Name x p) i2 p2] e X.env = pure none := by rfl) (h1 : (assignEach [.Subscript (.Name x p) i2 p2] X.env).map (·.2) = [assign (.Subscript (.Name x p) i2 p2) X.env] := by rfl)
    (ha : ∀ v, assign (.Subscript (.Name x p) i2 p2) X.env v = (do let ov ← holding [v] (eval (.Name x p) X.env); let iv ← holding [v, ov] (eval i2 X.env); standAt p2; holding [v, ov, iv] (setItem ov iv v); release [v, ov, iv] []) := by intro _; rfl) :
    DS X (.Assign [.Subscript (.Name x p) i2 p2] e pos) (dSetIx i ti te) :=
  ⟨fun aw S0 H0 => PS.imp (ps_asg (he.run aw S0 H0) (pg_sub (pe_var hN hv hd hcd) (hi.run aw S0 H0) set_list ha) hs hw h1) fun E σ H ⟨ρ, S, K, r, h, im⟩ => by
    unfold dSetIx at h
    split at h
    · rename_i xs hx
      obtain ⟨a, vs, e1, h1, z1, r1, h2, h3, mu⟩ := r.owned hx
      refine ⟨ρ, S, _, r, h, fun d hd v S1 H1 x1 rd => ⟨_, e1, ρ, S1, _, r.go x1, hd, fun j hj w S2 H2 x2 rj => ?_⟩⟩
      split at hj
      · split at hj
        · rename_i n _ m hm
          cases rj
          obtain ⟨h4, mu⟩ := mu (x1.trans x2)
          rw [lenR r1] at hm
          exact ⟨a, vs, n, m, rfl, rfl, h4, hm, im.nx _ hj σ S2 _ (x1.trans x2).le (mu ((r1.mono (x1.trans x2).le).set m (rd.mono x2.le)) (by simpa using z1))⟩
        · exact hj.elim
      · exact hj.elim
    · exact h.elim⟩
end
end DL
/-! DL: loops, calls, defs -/
namespace DL
open PySem PySem.Spec PyProof.Rows L2

/-! ### loops -/
def loopD (g : TDG) (body : TDS) (K : DEnds) : List D → DEnv → Prop
  | [], ρ => K.nx ρ
  | d :: ds, ρ => g d ρ fun ρ' => body { K with nx := loopD g body K ds, ct := loopD g body K ds, bk := K.nx } ρ'
def dFor (ti : TDI) (g : TDG) (body : TDS) : TDS := fun K ρ => ti ρ fun ds => loopD g body K ds ρ
section
variable {X : Cx} {pos : Pos}
theorem ds_for {tg iter : Expr} {is : List Nat} {body : List Stmt} {ti : TDI} {g : TDG} {tb : TDS} (hp : PassesOwn (model X.prog X.w) X.A X.env X.xe) (hc : X.calm = true) (hi : DI X tg iter ti) (hg : DG X tg is g) (hb : DSs X body tb)
    (hs : ∀ x, foldedSetIterable iter X.env x = pure x := by intro _; rfl) : DS X (.For tg iter body [] pos) (dFor ti g tb) :=
  ⟨fun aw S0 H0 => PS.imp (ps_for hp hc (hi.run aw S0 H0) (hg.run aw S0 H0) (hb.run aw S0 H0) hs) fun E σ H ⟨ρ, S, K, r, h, im⟩ => by
    refine ⟨ρ, S, _, r, h, fun ds hd J S1 H1 x1 it => ?_⟩
    refine ⟨fun i m σ H => m = ds.length - i ∧ i ≤ ds.length ∧ ∃ ρ S2, Rel aw S0 H0 ρ σ S2 H ∧ Le S1 S2 ∧ loopD g tb K (ds.drop i) ρ, ⟨ds.length, by simp, Nat.zero_le _, ρ, S1, r.go x1, Le.refl _, hd⟩, ?_⟩
    rintro i m σ2 H2 ⟨rfl, hi, ρ2, S2, r2, l2, hl⟩
    by_cases hlt : i < ds.length
    · have hget : ds[i]? = some ds[i] := List.getElem?_eq_getElem hlt
      rw [List.drop_eq_getElem_cons hlt] at hl
      obtain ⟨hgo, hy⟩ := it.go S2 H2 l2 r2.wf i _ hget
      refine .inr ⟨hgo, fun σ' H' => ∃ ρ S2, Rel aw S0 H0 ρ σ' S2 H' ∧ Le S1 S2 ∧ loopD g tb K (ds.drop (i + 1)) ρ, fun σ' H' ⟨ρ, S2, q⟩ => ⟨ds.length - (i + 1), by omega, rfl, hlt, ρ, S2, q⟩, fun x H' y => ?_⟩
      obtain ⟨S3, x3, r3⟩ := hy x H' y
      refine ⟨ρ2, S3, _, _, r2.go x3, r3, hl, fun ρ4 q4 σ4 S4 H4 x4 r4 _ => ?_⟩
      have l4 : Le S1 S4 := l2.trans (x3.le.trans x4.le)
      refine ⟨ρ4, S4, _, r4, q4, ⟨fun ρ5 h5 σ5 S5 H5 l5 r5 => ⟨ρ5, S5, r5, l4.trans l5, h5⟩, im.rt, fun ρ5 h5 σ5 S5 H5 l5 r5 => im.nx ρ5 h5 σ5 S5 H5 (x1.le.trans (l4.trans l5)) r5, fun ρ5 h5 σ5 S5 H5 l5 r5 => ⟨ρ5, S5, r5, l4.trans l5, h5⟩⟩⟩
    · have e : i = ds.length := by omega
      subst e
      rw [List.drop_length] at hl
      exact .inl ⟨it.stop S2 H2 l2 r2.wf, im.nx ρ2 hl σ2 S2 H2 (x1.le.trans l2) r2⟩⟩
/-- while: an invariant with its measure -/
def dWhile (c : TDT) (body : TDS) : TDS := fun K ρ => ∃ W : Nat → DEnv → Prop, (∃ m, W m ρ) ∧ ∀ m ρ, W m ρ → c ρ fun b => if b = true then body { K with nx := fun ρ' => ∃ m', m' < m ∧ W m' ρ', ct := fun ρ' => ∃ m', m' < m ∧ W m' ρ', bk := K.nx } ρ else K.nx ρ
theorem ds_while {c : Expr} {body : List Stmt} {tc : TDT} {tb : TDS} (hp : PassesOwn (model X.prog X.w) X.A X.env X.xe) (hc : DT X c tc) (hb : DSs X body tb) : DS X (.While c body [] pos) (dWhile tc tb) :=
  ⟨fun aw S0 H0 => PS.imp (ps_while hp (hc.run aw S0 H0) (hb.run aw S0 H0)) fun E σ H ⟨ρ, S, K, r, h, im⟩ => by
    obtain ⟨W, ⟨m0, w0⟩, turn⟩ := h
    refine ⟨fun m σ H => ∃ ρ S2, Rel aw S0 H0 ρ σ S2 H ∧ Le S S2 ∧ W m ρ, ⟨m0, ρ, S, r, Le.refl _, w0⟩, ?_⟩
    rintro m σ2 H2 ⟨ρ2, S2, r2, l2, w2⟩
    refine ⟨ρ2, S2, _, r2, turn m ρ2 w2, fun b hb S3 H3 x3 => ?_⟩
    cases b with
    | true =>
      rw [if_pos rfl] at hb ⊢
      have l3 : Le S S3 := l2.trans x3.le
      refine ⟨fun σ' H' => ∃ m', m' < m ∧ ∃ ρ S2, Rel aw S0 H0 ρ σ' S2 H' ∧ Le S S2 ∧ W m' ρ, fun σ' H' ⟨m', l, q⟩ => ⟨m', l, q⟩, ρ2, S3, _, r2.go x3, hb,
        ⟨fun ρ5 ⟨m', lm, h5⟩ σ5 S5 H5 l5 r5 => ⟨m', lm, ρ5, S5, r5, l3.trans l5, h5⟩, im.rt, fun ρ5 h5 σ5 S5 H5 l5 r5 => im.nx ρ5 h5 σ5 S5 H5 (l3.trans l5) r5, fun ρ5 ⟨m', lm, h5⟩ σ5 S5 H5 l5 r5 => ⟨m', lm, ρ5, S5, r5, l3.trans l5, h5⟩⟩⟩
    | false =>
      rw [if_neg Bool.false_ne_true] at hb ⊢
      exact im.nx ρ2 hb σ2 S3 H3 (l2.trans x3.le) (r2.go x3)⟩
end

/-! ### calls -/
abbrev DSp := List D → (D → Prop) → Prop
def dCall (sp : DSp) (ta : TDA) : TD := fun ρ Q => ta ρ fun ds => sp ds Q
def liftSp (sp : DSp) : Sp := fun vs H k _ => ∃ aw S ds Q, Wf aw S H ∧ Reps aw S ds vs ∧ sp ds Q ∧ ∀ d, Q d → ∀ v S' H', Ext aw S H S' H' → Rep aw S' d v → k v H'
/-- a def of the text keeps its promise over data -/
structure DDef (P : Program) (w : World) (K : PySem.W.Frag) (mg : Str → Option Value) (base : Heap) (x : Str) (st : Stmt) (k : Nat) (ps : List Str) (sp : DSp) : Prop where
  ex : ∃ f fd, FnOk P w K mg base CX0 k f fd ps (liftSp sp) ∧ mg x = some (.ref f) ∧ PySem.W.keepIn K (.ref f) = true ∧ Fun K x x st f fd
theorem DDef.mono {P : Program} {w : World} {K : PySem.W.Frag} {mg : Str → Option Value} {base : Heap} {x : Str} {st : Stmt} {j k : Nat} {ps : List Str} {sp : DSp} (h : DDef P w K mg base x st j ps sp) (l : j ≤ k) : DDef P w K mg base x st k ps sp :=
  let ⟨f, fd, F, r⟩ := h.ex; ⟨f, fd, F.mono l, r⟩
/-- what a call of the model's own asks, from the data -/
def ImpC (r : List V → Hp → VK → Prop) (sp : DSp) : Prop := ∀ (aw : Option Addr) (S H : Hp) (ds : List D) (vs : List V) (k : VK) (Q : D → Prop), Wf aw S H → Reps aw S ds vs → sp ds Q → (∀ d, Q d → ∀ v S' H', Ext aw S H S' H' → Rep aw S' d v → k v H') → r vs H k
section
variable {X : Cx} {e : Expr} {es : List Expr} {ta : TDA} {x : Str} {p pos : Pos} {sp : DSp} {k : Nat}
theorem call_read {r : List V → Hp → VK → Prop} (i : ImpC r sp) {aw : Option Addr} {S0 H0 : Hp} : ∀ σ H k, lift aw S0 H0 (dCall sp ta) σ H k → tCB r (liftA aw S0 H0 ta) σ H k :=
  fun σ H k ⟨ρ, S, Q, r, h, c⟩ => ⟨ρ, S, _, r, h, fun ds hd vs S1 H1 x1 r1 => i aw S1 H1 ds vs k Q x1.wf r1 hd fun d hq v S2 H2 x2 r2 => c d hq v S2 H2 (x1.trans x2) r2⟩
theorem de_callB {id : String} {r : List V → Hp → VK → Prop} (hc : CallR X (.builtin id) r) (i : ImpC r sp) (hg : Gl X x) (hm : X.mg x = none) (hv : bootBuiltins x = some (.builtin id)) (ha : DA X (e :: es) ta) (hn : x ≠ "__name__" := by decide) (hdb : (x == ("__debug__" : Str)) = false := by decide)
    (he : starEach (e :: es) X.env = (false, eval e X.env) :: starEach es X.env := by rfl) (hpl : (backTo pos (starEach es X.env)).any (·.1) = false := by rfl) : DE X (.Call (.Name x p) (e :: es) [] pos) (dCall sp ta) :=
  ⟨fun aw S0 H0 => PE.imp (pe_callB hc hg hm hv (ha.run aw S0 H0) hn hdb he hpl) (call_read i)⟩
theorem de_callTy {T : String} {r : List V → Hp → VK → Prop} (hc : CallR X (.type T) r) (i : ImpC r sp) (hg : Gl X x) (hm : X.mg x = none) (hv : bootBuiltins x = some (.type T)) (ha : DA X (e :: es) ta) (hn : x ≠ "__name__" := by decide) (hdb : (x == ("__debug__" : Str)) = false := by decide)
    (he : starEach (e :: es) X.env = (false, eval e X.env) :: starEach es X.env := by rfl) (hpl : (backTo pos (starEach es X.env)).any (·.1) = false := by rfl) : DE X (.Call (.Name x p) (e :: es) [] pos) (dCall sp ta) :=
  ⟨fun aw S0 H0 => PE.imp (pe_callTy hc hg hm hv (ha.run aw S0 H0) hn hdb he hpl) (call_read i)⟩
/-- f(e, ..), f a def of the text -/
theorem de_call {st : Stmt} {ps : List Str} {j : Nat} (hd : DDef X.prog X.w X.K X.mg X.base x st j ps sp) (hr : Room k X.A) (hj : j ≤ k) (hg : Gl X x)
    (hb : ∀ (kV doc pm : Value) (an : Option Addr) (cdv ct : Value) (us : List Value), us.length = ps.length → bindArgs (PySem.W.fnOf x x (defArgs st) (defBody st) (defScope st) .none kV doc pm an cdv ct) ⟨us, []⟩ = pure (ps.zip us))
    (ha : DA X (e :: es) ta) (hdb : (x == ("__debug__" : Str)) = false := by decide) (he : starEach (e :: es) X.env = (false, eval e X.env) :: starEach es X.env := by rfl) (hpl : (backTo pos (starEach es X.env)).any (·.1) = false := by rfl) :
    DE X (.Call (.Name x p) (e :: es) [] pos) (dCall sp ta) := by
  obtain ⟨f, fd, F, hm, hk, Fn⟩ := hd.ex
  refine ⟨fun aw S0 H0 => PE.imp (pe_call (E := E0) F (hr.mono hj) hg hm hk (Fn.binds hb) .nil pass0 (ha.run aw S0 H0) hdb he hpl) fun σ H k ⟨ρ, S, Q, r, h, c⟩ => ⟨ρ, S, _, r, h, fun ds hd vs S1 H1 x1 r1 => ?_⟩⟩
  show liftSp sp (vs ++ []) H1 k E0
  rw [List.append_nil]
  exact ⟨aw, S1, ds, Q, x1.wf, r1, hd, fun d hq v S2 H2 x2 r2 => c d hq v S2 H2 (x1.trans x2) r2⟩
end

/-! ### a def by its body -/
def startD (N : List Str) (ds : List D) : DEnv := ds.map SV.sh ++ List.replicate (N.length - ds.length) SV.no
theorem start_rel {aw : Option Addr} {S H : Hp} {N : List Str} {ds : List D} {vs : List V} (w : Wf aw S H) (r : Reps aw S ds vs) : Rel aw S H (startD N ds) (L2.start N vs) S H := by
  have hl := lenR r
  refine ⟨.refl w, by unfold startD L2.start; simp [hl], fun _ => [], ⟨fun i => ?_, fun _ => List.nodup_nil, fun i j a h => (by cases h), fun i a h => (by cases h)⟩⟩
  unfold startD L2.start
  rw [List.getD_eq_getElem?_getD, List.getD_eq_getElem?_getD]
  by_cases hi : i < ds.length
  · rw [List.getElem?_append_left (by simpa using hi), List.getElem?_append_left (by simp; omega), List.getElem?_map, List.getElem?_map]
    have hg : ds[i]? = some ds[i] := List.getElem?_eq_getElem hi
    obtain ⟨v, hv, rv⟩ := r.get hg
    rw [hg, hv]
    exact ⟨rfl, v, rfl, rv⟩
  · rw [List.getElem?_append_right (by simpa using hi), List.getElem?_replicate]
    split <;> exact rfl
theorem def_ok {P : Program} {w : World} {K : PySem.W.Frag} {mg : Str → Option Value} {base : Heap} {x : Str} {st : Stmt} {f : Addr} {fd : FuncData} {N ps : List Str} {k : Nat} {sp : DSp} (F : Fun K x x st f fd) (hm : mg x = some (.ref f)) (S : FnScope N ps (defScope st))
    (len : ∀ ds Q, sp ds Q → ds.length = ps.length)
    (hbody : ∀ (cdv : Value) (A : Around) (outer : List Env) (s : Shared) (H : Hp), Room k (A.deeper (envOfC x (defScope st) s.heap.objs.size f cdv)) →
      ∃ t, DSs (cxOf CX0 P w K mg base N x (defScope st) f cdv A outer s H E0).nox (defBody st) t ∧ ∀ ds Q, sp ds Q → t { nx := fun _ => Q .non, rt := Q } (startD N ds)) : DDef P w K mg base x st (k + 1) ps sp := by
  refine ⟨f, fd, F.ok S (fun vs H Q E ⟨aw, S, ds, Q', w, r, h, c⟩ => by rw [← lenR r]; exact len ds Q' h) (fun cdv A outer s H vs Q E hr h => ?_), hm, F.kp, F⟩
  obtain ⟨aw, S, ds, Q', wf, r, h, c⟩ := h
  obtain ⟨t, ht, hq⟩ := hbody cdv A outer s H hr
  refine ⟨liftS aw S H t, ?_, ?_⟩
  · exact (ht.run aw S H)
  · exact ⟨startD N ds, S, _, start_rel wf r, hq ds Q' h, ⟨fun ρ h σ S' H' l r' => c .non h .non S' H' r'.ext rfl, fun d h v S' H' x' rv => c d h v S' H' x' rv, fun _ h => h.elim, fun _ h => h.elim⟩⟩
end DL
/-! DL: sorted of a list or a tuple -/
namespace DL
open PySem PySem.Spec PyProof.Rows L2
open SrtO (Swo Srtd Stb SortableO)

section
variable {prog : Program} {w : World} {A : Around} {E : Value → Shared → Prop} {s : Shared}
/-- the items of x come, in a heap that keeps all objects -/
def Comes (s : Shared) (x : Value) (vs : List Value) : Prop := ∃ h1 : Heap, (∀ b o, s.heap.get? b = some o → h1.get? b = some o) ∧ s.heap.objs.size ≤ h1.objs.size ∧
  ∀ (prog : Program) (w : World) (A : Around) (E : Value → Shared → Prop) (Q : List Value → Shared → Prop), Q vs { s with heap := h1 } → wpAny (model prog w) A (collect x) Q E s
theorem comes_list {l : Addr} {vs : List Value} (hl : s.heap.IsList l vs.toArray) (z : vs.length ≤ sizeLine) : Comes s (.ref l) vs := by
  refine ⟨_, fun b o e => ?_, ?_, fun prog w A E Q q => collect_list hl q z⟩
  · rw [Heap.get?_update_ne _ _ _ _ (Nat.ne_of_lt (Heap.lt_size e))]
    exact Heap.get?_push_of_some _ e
  · rw [Heap.size_update, size_push']; exact Nat.le_succ _
theorem comes_tuple {t : Addr} {vs : List Value} (ht : s.heap.IsTuple t vs.toArray) (z : vs.length ≤ sizeLine) : Comes s (.ref t) vs := by
  obtain ⟨o, ho, hc, n, hd⟩ := id ht
  refine ⟨(s.heap.push (seqObj "list" #[] 0)).update s.heap.objs.size (Obj.mapSeq (· ++ vs.toArray)), fun b o e => ?_, ?_, fun prog w A E Q q => ?_⟩
  · rw [Heap.get?_update_ne _ _ _ _ (Nat.ne_of_lt (Heap.lt_size e))]
    exact Heap.get?_push_of_some _ e
  · rw [Heap.size_update, size_push']; exact Nat.le_succ _
  · unfold collect
    refine wpAny_bind (wpAny_runValue (codeAny_builtin entry_proto_collect' ?_))
    show wpAny _ _ (do again (.builtin "list.__iadd__" ⟨[← newList [], .ref t], []⟩)) _ _ s
    refine wpAny_bind (wpAny_newList (wpAny_pure ⟨Code.quiet_builtin _ (by decide +kernel), codeAny_builtin entry_list_iadd' ?_⟩))
    have hl0 : (s.heap.push (seqObj "list" #[] 0)).get? s.heap.objs.size = some (seqObj "list" #[] 0) := Heap.get?_push_size _ rfl
    have ht' : (s.heap.push (seqObj "list" #[] 0)).get? t = some o := Heap.get?_push_of_some _ ho
    show wpAny _ _ (Builtin.List.listExtendWith (.ref s.heap.objs.size) (.ref t) (.ref s.heap.objs.size)) _ _ { s with heap := s.heap.push (seqObj "list" #[] 0) }
    unfold Builtin.List.listExtendWith
    refine wpAny_bind (wpAny_typeOf (T := "tuple") ⟨o, ht', hc⟩ ?_)
    have e2 : (Value.type "tuple" == Value.type "tuple") = true := by rfl
    rw [if_pos (by rw [e2]; simp)]
    refine wpAny_bind (listItems_at ht' hd (wpAny_bind (listItems_at (xs := #[]) (n := 0) hl0 rfl ?_)))
    rw [if_neg (by simp)]
    refine wpAny_bind (listUpdate_at (xs := #[]) (n := 0) hl0 rfl ?_ (Nat.zero_le _) (by show (#[] ++ vs.toArray).size ≤ sizeLine + 1; simp only [Array.size_append, List.size_toArray, List.length_nil]; omega))
    refine wpAny_pure ?_
    show wpAny (model prog w) A (do
        let u ← load s.heap.objs.size
        match u.data with
        | .seq ys _ => pure ys.toList
        | _ => unsupported "internal:collect") Q E { s with heap := (s.heap.push (seqObj "list" #[] 0)).update s.heap.objs.size (Obj.mapSeq (· ++ vs.toArray)) }
    refine wpAny_bind (wpAny_load (get?_update_seq hl0 _) ?_)
    have e3 : ((#[] : Array Value) ++ vs.toArray).toList = vs := by simp
    show wpAny _ _ (pure ((#[] : Array Value) ++ vs.toArray).toList) Q E _
    rw [e3]
    exact wpAny_pure q
/-- sorted(x): a new list -/
theorem sorted_from {x : Value} {vs : List Value} {ltv : Value → Value → Bool} {Q : Value → Shared → Prop} (O : Swo ltv) (hx : Comes s x vs) (hz : vs.length ≤ sizeLine)
    (hS : 2 ≤ vs.length → ∀ (h1 : Heap) (a : Addr), h1.get? a = some (seqObj "list" vs.toArray 0) → (∀ b o, s.heap.get? b = some o → b ≠ a ∧ h1.get? b = some o) → SortableO prog w A.in1.in1 { s with heap := h1 } a vs ltv)
    (q : ∀ (out : List Value) (h1 : Heap) (d : Addr), Srtd ltv out → Stb ltv out vs → (∀ b o, s.heap.get? b = some o → h1.get? b = some o) → s.heap.objs.size ≤ d → (∃ n, h1.get? d = some (seqObj "list" out.toArray n)) → Q (.ref d) { s with heap := h1 }) :
    wpAny (model prog w) A (call (.builtin "sorted") [x]) Q E s := by
  obtain ⟨h1, keep, hsz, col⟩ := hx
  refine Calls.call_function_entry kind_sorted plain_sorted entry_sorted (args_sorted1 _) ?_
  unfold Builtin.«sorted»
  refine wpAny_bind (m := checkCount "sorted" 1 1 _) (wpAny_pure (wpAny_bind (col _ _ _ _ _ (wpAny_bind (wpAny_newList ?_ hz)))))
  have hL : (h1.push (seqObj "list" vs.toArray 0)).get? h1.objs.size = some (seqObj "list" vs.toArray 0) := Heap.get?_push_size _ rfl
  have kp : ∀ b o, s.heap.get? b = some o → b ≠ h1.objs.size ∧ (h1.push (seqObj "list" vs.toArray 0)).get? b = some o := fun b o e => ⟨Nat.ne_of_lt (Heap.lt_size (keep b o e)), Heap.get?_push_of_some _ (keep b o e)⟩
  show wpAny _ _ _ _ _ { s with heap := h1.push (seqObj "list" vs.toArray 0) }
  refine wpAny_bind (wpAny_holding (wpAny_call_entry slot_list_sort ⟨_, hL, rfl⟩ entry_list_sort (SrtO.list_sort_ord O hL hz (fun h2 => hS h2 _ _ hL kp) fun out hs hb => ⟨_, rfl, ?_⟩) (args_list_sort _)))
  refine wpAny_pure ⟨_, rfl, q out _ h1.objs.size hs hb (fun b o e => ?_) hsz (sortedHeap_at hL)⟩
  rw [sortedHeap_old (kp b o e).1 (Heap.lt_size (kp b o e).2)]
  exact (kp b o e).2
end
section
variable {X : Cx} {pins : List (Addr × Obj)} {σ : L2.St} {H : Hp} {s : Shared}
/-- a list or a tuple that is read -/
def SqA (K : PySem.W.Frag) (H : Hp) (a : Addr) (xs : List V) : Prop := SqL K H a xs ∨ SqT K H a xs
theorem comes_of (I : Inv X pins σ H s) {a : Addr} {xs : List V} (h : SqA X.K H a xs) : ∃ its : List Value, Vals xs its ∧ xs.length ≤ sizeLine ∧ Comes s (.ref a) its := by
  rcases h with h | h
  · obtain ⟨its, rv, p, z⟩ := I.list h
    exact ⟨its, rv, z, comes_list p.isList (by rw [← rv.length]; exact z)⟩
  · obtain ⟨its, rv, p, z⟩ := I.tuple h
    exact ⟨its, rv, z, comes_tuple (show s.heap.IsTuple a its.toArray from p) (by rw [← rv.length]; exact z)⟩
def rSrtI (K : PySem.W.Frag) : List V → Hp → VK → Prop := fun vs H Q => ∃ (a : Addr) (ns : List Int), vs = [V.ref a] ∧ SqA K H a (ns.map V.int) ∧
  ∀ (ms : List Int) (p : Addr), ms.Perm ns → ms.Pairwise (· ≤ ·) → H p = none → Q (.ref p) (upd H p (.lst (ms.map V.int)))
theorem cr_srtI : CallR X (.builtin "sorted") (rSrtI X.K) := by
  intro pins s σ H vs us Q I r h
  obtain ⟨a, ns, rfl, hs, q⟩ := h
  obtain ⟨its, rv, z, cm⟩ := comes_of I hs
  rw [Vals.ref1 r]
  have hi := rv.ints
  have hl := rv.length
  refine sorted_from SrtO.swo_int cm (by omega) (fun h2 h1 a' _ _ => SrtO.ints_sortable hi h2) fun out h1 d o1 o2 kp hd he => ?_
  obtain ⟨k1, k2, k3⟩ := SrtO.ints_out hi o1 o2
  obtain ⟨n, he⟩ := he
  have hz : ((out.map SrtO.iv).map V.int).length ≤ sizeLine := by
    rw [List.length_map, k2.length_eq]
    simpa using z
  exact ⟨.ref d, upd H d (.lst ((out.map SrtO.iv).map V.int)), I.laid (t' := s.toks) kp hd ⟨hz, out, n, vals_of_ints k1, he⟩, rfl, q _ _ k2 k3 (I.hok.fresh hd)⟩
/-- pairs of ints -/
def rSrtP (K : PySem.W.Frag) : List V → Hp → VK → Prop := fun vs H Q => ∃ (a : Addr) (xs : List V) (k : V → Int × Int), vs = [V.ref a] ∧ SqA K H a xs ∧ (∀ x ∈ xs, ∃ t, x = V.ref t ∧ Rd H t (.tup [.int (k x).1, .int (k x).2])) ∧
  ∀ ys p, Srtd (ltP k) ys → ys.Perm xs → H p = none → Q (.ref p) (upd H p (.lst ys))
theorem cr_srtP : CallR X (.builtin "sorted") (rSrtP X.K) := by
  intro pins s σ H vs us Q I r h
  obtain ⟨a, xs, k, rfl, hs, hx, q⟩ := h
  obtain ⟨its, rv, z, cm⟩ := comes_of I hs
  obtain ⟨u, rfl, ru⟩ := vals1 r
  obtain rfl : u = Value.ref a := ru
  have hl := rv.length
  obtain ⟨e1, e2⟩ := refs_back rv fun x m => let ⟨t, e, _⟩ := hx x m; ⟨t, e⟩
  have hp : ∀ v ∈ its, Srt.IsPair s.heap v (k (backV v)).1 (k (backV v)).2 := fun v hv => by
    obtain ⟨t, rfl⟩ := e2 v hv
    have hm : V.ref t ∈ xs := by rw [e1]; exact List.mem_map.mpr ⟨_, hv, rfl⟩
    obtain ⟨t', e, ht⟩ := hx _ hm
    cases e
    obtain ⟨its2, r2, ⟨o, ho, hc, n, hd⟩, _⟩ := I.tuple (rdT ht)
    obtain ⟨u1, u2, rfl, ⟨t1, rfl⟩, ⟨t2, rfl⟩⟩ := vals2 r2
    exact ⟨t, o, t1, t2, n, rfl, ho, hc, hd⟩
  refine sorted_from (SrtO.swo_lex fun u => k (backV u)) cm (by omega) (fun h2 h1 a' ha' kk => ?_) fun out h1 d o1 o2 kp hd he => ?_
  · refine SrtO.pairs_sortableO (s := { s with heap := h1 }) (by omega) (fun v hm => (hp v hm).keeps fun b o e _ => (kk b o e).2) fun o e c => ?_
    have e' : some o = some (seqObj "list" its.toArray 0) := e.symm.trans ha'
    cases e'
    exact absurd (Value.type.inj c) (by decide)
  · obtain ⟨n, he⟩ := he
    have h3 : ∀ u ∈ out, ∃ b, u = Value.ref b := fun u hu => e2 u (o2.perm.mem_iff.mp hu)
    have hb : Stb (ltP k) (out.map backV) xs := by
      rw [e1]
      exact SrtO.Stb.map (ltP_swo k) backV o2
    refine ⟨.ref d, upd H d (.lst (out.map backV)), I.laid (t' := s.toks) kp hd ⟨?_, out, n, vals_back h3, he⟩, rfl, q _ d (SrtO.srtd_map o1) hb.perm (I.hok.fresh hd)⟩
    rw [hb.len]
    exact z
end
end DL
/-! DL: built-in functions -/
namespace DL
open PySem PySem.Spec PyProof.Rows L2
section
variable {X : Cx} {e : Expr} {te : TD} {ta : TDA} {p pos : Pos} {k : Nat}

/-! len, all, any -/
def spLen : DSp := fun ds Q => match ds with
  | [.lst xs] => Q (.int xs.length)
  | [.tup xs] => Q (.int xs.length)
  | [.dct ks _] => Q (.int ks.length)
  | _ => False
theorem imp_len : ImpC (fun vs H Q => (∃ p ys, vs = [.ref p] ∧ (SqL X.K H p ys ∨ SqT X.K H p ys) ∧ Q (.int ys.length) H) ∨ ∃ a kvs, vs = [V.ref a] ∧ H a = some (.dK kvs) ∧ Q (.int kvs.length) H) spLen := by
  intro aw S H ds vs k Q w r h c
  unfold spLen at h
  split at h
  · obtain ⟨v, vr, rfl, ⟨a, us, rfl, h1, z, r1⟩, t⟩ := r
    cases t
    refine .inl ⟨a, us, rfl, .inl (.of (w.sub _ _ h1)), ?_⟩
    rw [← lenR r1]
    exact c _ h _ S H (.refl w) rfl
  · obtain ⟨v, vr, rfl, ⟨a, us, rfl, h1, z, r1⟩, t⟩ := r
    cases t
    refine .inl ⟨a, us, rfl, .inr (rdT (w.sub.rd h1)), ?_⟩
    rw [← lenR r1]
    exact c _ h _ S H (.refl w) rfl
  · obtain ⟨v, vr, rfl, ⟨a, us, rfl, h1, hk, z, r1⟩, t⟩ := r
    cases t
    refine .inr ⟨a, us, rfl, w.sub _ _ h1, ?_⟩
    have e := congrArg List.length hk
    rw [List.length_map] at e
    rw [e]
    exact c _ h _ S H (.refl w) rfl
  · exact h.elim
theorem de_len (hg : Gl X "len") (hm : X.mg "len" = none) (ha : DA X [e] ta) (he : starEach [e] X.env = (false, eval e X.env) :: starEach [] X.env := by rfl) (hpl : (backTo pos (starEach [] X.env)).any (·.1) = false := by rfl) : DE X (.Call (.Name "len" p) [e] [] pos) (dCall spLen ta) :=
  de_callB (call_len_seq.or call_lenD) imp_len hg hm PySem.boot_len ha (by decide) (by decide) he hpl
def bls? : List D → Option (List Bool)
  | [] => some []
  | .bl b :: r => (bls? r).map (b :: ·)
  | _ :: _ => none
theorem bls?_map : ∀ bs : List Bool, bls? (bs.map D.bl) = some bs
  | [] => rfl
  | b :: bs => by rw [List.map_cons, bls?, bls?_map bs]; rfl
theorem bls?_reps {aw : Option Addr} {S : Hp} : ∀ {ds : List D} {vs : List V} {ns : List Bool}, bls? ds = some ns → Reps aw S ds vs → vs = ns.map V.bl
  | [], _, _, h, r => by cases h; cases r; rfl
  | .bl i :: ds, _, ns, h, ⟨v, vr, e, r, t⟩ => by
    subst e
    cases r
    rw [bls?, Option.map_eq_some_iff] at h
    obtain ⟨ms, h1, rfl⟩ := h
    rw [bls?_reps h1 t]; rfl
  | .non :: _, _, _, h, _ => by cases h
  | .int _ :: _, _, _, h, _ => by cases h
  | .str _ :: _, _, _, h, _ => by cases h
  | .well :: _, _, _, h, _ => by cases h
  | .tup _ :: _, _, _, h, _ => by cases h
  | .lst _ :: _, _, _, h, _ => by cases h
  | .dct _ _ :: _, _, _, h, _ => by cases h
  | .ft _ :: _, _, _, h, _ => by cases h
def spBools (f : List Bool → Bool) : DSp := fun ds Q => match ds with
  | [.lst xs] => match bls? xs with
    | some bs => Q (.bl (f bs))
    | none => False
  | _ => False
theorem imp_bools (f : List Bool → Bool) : ImpC (fun vs H Q => ∃ (a : Addr) (bs : List Bool), vs = [V.ref a] ∧ SqL X.K H a (bs.map V.bl) ∧ Q (.bl (f bs)) H) (spBools f) := by
  intro aw S H ds vs k Q w r h c
  unfold spBools at h
  split at h
  · split at h
    · rename_i bs e
      obtain ⟨v, vr, rfl, ⟨a, us, rfl, h1, z, r1⟩, t⟩ := r
      cases t
      rw [bls?_reps e r1] at h1
      exact ⟨a, bs, rfl, .of (w.sub _ _ h1), c _ h _ S H (.refl w) rfl⟩
    · exact h.elim
  · exact h.elim
theorem de_all (hc : X.calm = true) (hg : Gl X "all") (hm : X.mg "all" = none) (ha : DA X [e] ta) (he : starEach [e] X.env = (false, eval e X.env) :: starEach [] X.env := by rfl) (hpl : (backTo pos (starEach [] X.env)).any (·.1) = false := by rfl) : DE X (.Call (.Name "all" p) [e] [] pos) (dCall (spBools fun bs => bs.all id) ta) :=
  de_callB (cr_all hc) (imp_bools _) hg hm boot_all ha (by decide) (by decide) he hpl
theorem de_any (hc : X.calm = true) (hg : Gl X "any") (hm : X.mg "any" = none) (ha : DA X [e] ta) (he : starEach [e] X.env = (false, eval e X.env) :: starEach [] X.env := by rfl) (hpl : (backTo pos (starEach [] X.env)).any (·.1) = false := by rfl) : DE X (.Call (.Name "any" p) [e] [] pos) (dCall (spBools fun bs => bs.any id) ta) :=
  de_callB (cr_any hc) (imp_bools _) hg hm boot_any ha (by decide) (by decide) he hpl

/-! isinstance with a built-in class -/
def tyD : D → String
  | .non => "NoneType"
  | .bl _ => "bool"
  | .int _ => "int"
  | .str _ => "str"
  | .well => "list"
  | .tup _ => "tuple"
  | .lst _ => "list"
  | .dct _ _ => "dict"
  | .ft _ => "tuple"
def isInt : D → Bool
  | .int _ => true
  | .bl _ => true
  | _ => false
def isBool : D → Bool
  | .bl _ => true
  | _ => false
def isTup : D → Bool
  | .tup _ => true
  | .ft _ => true
  | _ => false
def isStr : D → Bool
  | .str _ => true
  | _ => false
def isLst : D → Bool
  | .lst _ => true
  | .well => true
  | _ => false
theorem tyD_mem (d : D) : tyD d ∈ ["NoneType", "bool", "int", "str", "list", "tuple", "dict"] := by cases d <;> simp [tyD]
theorem kit_int (d : D) : kitB (tyD d) "int" = some (isInt d) := by
  have h : ∀ t ∈ ["NoneType", "bool", "int", "str", "list", "tuple", "dict"], kitB t "int" = some (t == "int" || t == "bool") := by decide +kernel
  rw [h _ (tyD_mem d)]
  cases d <;> rfl
theorem kit_bool (d : D) : kitB (tyD d) "bool" = some (isBool d) := by
  have h : ∀ t ∈ ["NoneType", "bool", "int", "str", "list", "tuple", "dict"], kitB t "bool" = some (t == "bool") := by decide +kernel
  rw [h _ (tyD_mem d)]
  cases d <;> rfl
theorem kit_tup (d : D) : kitB (tyD d) "tuple" = some (isTup d) := by
  have h : ∀ t ∈ ["NoneType", "bool", "int", "str", "list", "tuple", "dict"], kitB t "tuple" = some (t == "tuple") := by decide +kernel
  rw [h _ (tyD_mem d)]
  cases d <;> rfl
theorem kit_str (d : D) : kitB (tyD d) "str" = some (isStr d) := by
  have h : ∀ t ∈ ["NoneType", "bool", "int", "str", "list", "tuple", "dict"], kitB t "str" = some (t == "str") := by decide +kernel
  rw [h _ (tyD_mem d)]
  cases d <;> rfl
theorem tyX {K : PySem.W.Frag} {aw : Option Addr} {S H : Hp} {d : D} {v : V} (w : Wf aw S H) (r : Rep aw S d v) : TyX K H v (.type (tyD d)) := by
  cases d with
  | non => cases r; exact .base .non
  | bl b => cases r; exact .base (.bl b)
  | int i => cases r; exact .base (.int i)
  | str x => cases r; exact .base (.str x)
  | well =>
    obtain ⟨a, e, rfl⟩ := r
    obtain ⟨_, ns, h, _⟩ := w.well a e
    exact .base (.lst h)
  | tup xs =>
    obtain ⟨a, vs, rfl, h | ⟨o, h⟩, _⟩ := r
    · exact .base (.tup (w.sub _ _ h))
    · exact .fTuple (w.sub _ _ h)
  | ft xs => obtain ⟨a, vs, o, rfl, ⟨h, _⟩, _⟩ := r; exact .fTuple (w.sub _ _ h)
  | lst xs => obtain ⟨a, vs, rfl, h, _⟩ := r; exact .base (.lst (w.sub _ _ h))
  | dct ks ds => obtain ⟨a, vs, rfl, h, _⟩ := r; exact .base (.dK (w.sub _ _ h))
def dIs (f : D → Bool) (te : TD) : TD := fun ρ Q => te ρ fun d => Q (.bl (f d))
theorem de_isinst {T : Str} {n : String} {f : D → Bool} {p2 : Pos} (hf : ∀ d, kitB (tyD d) n = some (f d)) (hg : Gl X "isinstance") (hm : X.mg "isinstance" = none) (hg2 : Gl X T) (hm2 : X.mg T = none) (hv : bootBuiltins T = some (.type n)) (he : DE X e te) (hn : T ≠ "__name__" := by decide) (hdb : (T == ("__debug__" : Str)) = false := by decide)
    (hs1 : starEach [e, .Name T p2] X.env = (false, eval e X.env) :: starEach [.Name T p2] X.env := by rfl) (hs2 : starEach [.Name T p2] X.env = (false, eval (.Name T p2) X.env) :: starEach [] X.env := by rfl) (hpl : (backTo pos (starEach [.Name T p2] X.env)).any (·.1) = false := by rfl) :
    DE X (.Call (.Name "isinstance" p) [e, .Name T p2] [] pos) (dIs f te) :=
  ⟨fun aw S0 H0 => PE.imp (pe_callB call_isi hg hm boot_isinstance (pa_cons (he.run aw S0 H0) (pa_cons (pe_bltn (v := .ty n) hg2 hm2 hv rfl hn hdb) pa_nil hs2) hs1) (by decide) (by decide) hs1 hpl) fun σ H k ⟨ρ, S, Q, r, h, c⟩ =>
    ⟨ρ, S, _, r, h, fun d hd v S1 H1 x1 r1 => ⟨v, .ty n, _, _, f d, rfl, .ty n, tyX x1.wf r1, kit_ty (hf d), c _ hd _ S1 H1 x1 rfl⟩⟩⟩
theorem de_isInt {p2 : Pos} (hg : Gl X "isinstance") (hm : X.mg "isinstance" = none) (hg2 : Gl X "int") (hm2 : X.mg "int" = none) (he : DE X e te)
    (hs1 : starEach [e, .Name "int" p2] X.env = (false, eval e X.env) :: starEach [.Name "int" p2] X.env := by rfl) (hs2 : starEach [.Name "int" p2] X.env = (false, eval (.Name "int" p2) X.env) :: starEach [] X.env := by rfl) (hpl : (backTo pos (starEach [.Name "int" p2] X.env)).any (·.1) = false := by rfl) :
    DE X (.Call (.Name "isinstance" p) [e, .Name "int" p2] [] pos) (dIs isInt te) := de_isinst kit_int hg hm hg2 hm2 (by decide +kernel) he (by decide) (by decide) hs1 hs2 hpl
theorem de_isBool {p2 : Pos} (hg : Gl X "isinstance") (hm : X.mg "isinstance" = none) (hg2 : Gl X "bool") (hm2 : X.mg "bool" = none) (he : DE X e te)
    (hs1 : starEach [e, .Name "bool" p2] X.env = (false, eval e X.env) :: starEach [.Name "bool" p2] X.env := by rfl) (hs2 : starEach [.Name "bool" p2] X.env = (false, eval (.Name "bool" p2) X.env) :: starEach [] X.env := by rfl) (hpl : (backTo pos (starEach [.Name "bool" p2] X.env)).any (·.1) = false := by rfl) :
    DE X (.Call (.Name "isinstance" p) [e, .Name "bool" p2] [] pos) (dIs isBool te) := de_isinst kit_bool hg hm hg2 hm2 (by decide +kernel) he (by decide) (by decide) hs1 hs2 hpl
theorem de_isTup {p2 : Pos} (hg : Gl X "isinstance") (hm : X.mg "isinstance" = none) (hg2 : Gl X "tuple") (hm2 : X.mg "tuple" = none) (he : DE X e te)
    (hs1 : starEach [e, .Name "tuple" p2] X.env = (false, eval e X.env) :: starEach [.Name "tuple" p2] X.env := by rfl) (hs2 : starEach [.Name "tuple" p2] X.env = (false, eval (.Name "tuple" p2) X.env) :: starEach [] X.env := by rfl) (hpl : (backTo pos (starEach [.Name "tuple" p2] X.env)).any (·.1) = false := by rfl) :
    DE X (.Call (.Name "isinstance" p) [e, .Name "tuple" p2] [] pos) (dIs isTup te) := de_isinst kit_tup hg hm hg2 hm2 (by decide +kernel) he (by decide) (by decide) hs1 hs2 hpl
theorem de_isStr {p2 : Pos} (hg : Gl X "isinstance") (hm : X.mg "isinstance" = none) (hg2 : Gl X "str") (hm2 : X.mg "str" = none) (he : DE X e te)
    (hs1 : starEach [e, .Name "str" p2] X.env = (false, eval e X.env) :: starEach [.Name "str" p2] X.env := by rfl) (hs2 : starEach [.Name "str" p2] X.env = (false, eval (.Name "str" p2) X.env) :: starEach [] X.env := by rfl) (hpl : (backTo pos (starEach [.Name "str" p2] X.env)).any (·.1) = false := by rfl) :
    DE X (.Call (.Name "isinstance" p) [e, .Name "str" p2] [] pos) (dIs isStr te) := de_isinst kit_str hg hm hg2 hm2 (by decide +kernel) he (by decide) (by decide) hs1 hs2 hpl

/-! list(x), tuple(x) -/
theorem fresh_read {r : List V → Hp → VK → Prop} {sp : List D → (List D → Prop) → Prop} (i : ∀ (aw : Option Addr) (S H : Hp) (ds : List D) (vs : List V) (k : VK) (Q : List D → Prop), Wf aw S H → Reps aw S ds vs → sp ds Q →
      (∀ xs, Q xs → ∀ a ws, H a = none → ws.length ≤ sizeLine → Reps aw S xs ws → k (.ref a) (upd H a (.lst ws))) → r vs H k) {aw : Option Addr} {S0 H0 : Hp} : ∀ σ H k, liftF aw S0 H0 (fun ρ Q => ta ρ fun ds => sp ds Q) σ H k → tCB r (liftA aw S0 H0 ta) σ H k :=
  fun σ H k ⟨ρ, S, Q, r, h, c⟩ => ⟨ρ, S, _, r, h, fun ds hd vs S1 H1 x1 r1 => i aw S1 H1 ds vs k Q x1.wf r1 hd fun xs hq a ws ha z rw' => by
    have hs : S1 a = none := by
      cases q : S1 a with
      | none => rfl
      | some u => rw [x1.wf.sub a u q] at ha; cases ha
    exact c xs hq a ws S1 _ (x1.lay ha) hs (x1.free ha) (fun e => by
      obtain ⟨_, ns, z, _⟩ := x1.wf.well a e
      rw [z] at ha; cases ha) upd_same z rw'⟩
def spList : List D → (List D → Prop) → Prop := fun ds Q => match ds with
  | [.lst xs] => Q xs
  | [.tup xs] => Q xs
  | _ => False
def dList (ta : TDA) : TDA := fun ρ Q => ta ρ fun ds => spList ds Q
theorem df_list (hg : Gl X "list") (hm : X.mg "list" = none) (ha : DA X [e] ta) (he : starEach [e] X.env = (false, eval e X.env) :: starEach [] X.env := by rfl) (hpl : (backTo pos (starEach [] X.env)).any (·.1) = false := by rfl) : DF X (.Call (.Name "list" p) [e] [] pos) (dList ta) :=
  ⟨fun aw S0 H0 => PE.imp (pe_callTy call_list_of hg hm PyProof.Rows.boot_list (ha.run aw S0 H0) (by decide) (by decide) he hpl) (fresh_read (sp := spList) fun aw S H ds vs k Q w r h c => by
    unfold spList at h
    split at h
    · obtain ⟨v, vr, rfl, ⟨a, us, rfl, h1, z, r1⟩, t⟩ := r
      cases t
      exact ⟨a, us, rfl, .inl (.of (w.sub _ _ h1)), fun l hl => c _ h l us hl z r1⟩
    · obtain ⟨v, vr, rfl, ⟨a, us, rfl, h1, z, r1⟩, t⟩ := r
      cases t
      exact ⟨a, us, rfl, .inr (rdT (w.sub.rd h1)), fun l hl => c _ h l us hl z r1⟩
    · exact h.elim)⟩
def spTuple : DSp := fun ds Q => match ds with
  | [.lst xs] => Q (.tup xs)
  | [.tup xs] => Q (.tup xs)
  | _ => False
theorem imp_tuple : ImpC (fun xs H Q => ∃ p ys, xs = [.ref p] ∧ ((SqL X.K H p ys ∧ ∀ l, H l = none → Q (.ref l) (upd H l (.tup ys))) ∨ (SqT X.K H p ys ∧ Q (.ref p) H))) spTuple := by
  intro aw S H ds vs k Q w r h c
  unfold spTuple at h
  split at h
  · obtain ⟨v, vr, rfl, ⟨a, us, rfl, h1, z, r1⟩, t⟩ := r
    cases t
    refine ⟨a, us, rfl, .inl ⟨.of (w.sub _ _ h1), fun l hl => ?_⟩⟩
    have x := (Ext.refl w).put (o := .tup us) hl
    exact c _ h _ _ _ x ⟨l, us, rfl, .of upd_same, z, r1.mono x.le⟩
  · obtain ⟨v, vr, rfl, ⟨a, us, rfl, h1, z, r1⟩, t⟩ := r
    cases t
    exact ⟨a, us, rfl, .inr ⟨rdT (w.sub.rd h1), c _ h _ S H (.refl w) ⟨a, us, rfl, h1, z, r1⟩⟩⟩
  · exact h.elim
theorem de_tuple (hg : Gl X "tuple") (hm : X.mg "tuple" = none) (ha : DA X [e] ta) (he : starEach [e] X.env = (false, eval e X.env) :: starEach [] X.env := by rfl) (hpl : (backTo pos (starEach [] X.env)).any (·.1) = false := by rfl) : DE X (.Call (.Name "tuple" p) [e] [] pos) (dCall spTuple ta) :=
  de_callTy call_tuple_of imp_tuple hg hm PyProof.Rows.boot_tuple ha (by decide) (by decide) he hpl

/-! list(range(..)), tuple(range(..)) -/
abbrev TDR := DEnv → (Int → Int → Prop) → Prop
def liftR (aw : Option Addr) (S0 H0 : Hp) (td : TDR) : L2.St → Hp → (Int → Int → Hp → Prop) → Prop := fun σ H k => ∃ ρ S Q, Rel aw S0 H0 ρ σ S H ∧ td ρ Q ∧ ∀ i j, Q i j → ∀ S' H', Ext aw S H S' H' → k i j H'
structure DR (X : Cx) (e : Expr) (td : TDR) : Prop where
  run : ∀ aw S0 H0, PRg X e (liftR aw S0 H0 td)
theorem PRg.imp {t t' : L2.St → Hp → (Int → Int → Hp → Prop) → Prop} (h : PRg X e t) (i : ∀ σ H k, t' σ H k → t σ H k) : PRg X e t' := by
  intro pins s σ H Q I q
  exact h pins s σ H Q I (i _ _ _ q)
def dRg1 (te : TD) : TDR := fun ρ Q => te ρ fun d => match d with
  | .int n => Q 0 n
  | _ => False
def dRg2 (ta tb : TD) : TDR := fun ρ Q => ta ρ fun d => tb ρ fun d' => match d, d' with
  | .int i, .int j => Q i j
  | _, _ => False
theorem dr_1 {a : Expr} (hg : Gl X "range") (hm : X.mg "range" = none) (ha : DE X a te) (na : starEach [a] X.env = (false, eval a X.env) :: starEach [] X.env := by rfl) : DR X (.Call (.Name "range" p) [a] [] pos) (dRg1 te) :=
  ⟨fun aw S0 H0 => PRg.imp (prg_1 hg hm (ha.run aw S0 H0) na) fun σ H k ⟨ρ, S, Q, r, h, c⟩ => ⟨ρ, S, _, r, h, fun d hd v S1 H1 x1 r1 => by
    split at hd
    · cases r1
      exact ⟨_, rfl, c _ _ hd S1 H1 x1⟩
    · exact hd.elim⟩⟩
theorem dr_2 {a b : Expr} {tb : TD} (hg : Gl X "range") (hm : X.mg "range" = none) (ha : DE X a te) (hb : DE X b tb) (na : starEach [a, b] X.env = (false, eval a X.env) :: starEach [b] X.env := by rfl) (nb : starEach [b] X.env = (false, eval b X.env) :: starEach [] X.env := by rfl) (hp : (backTo pos (starEach [b] X.env)).any (·.1) = false := by rfl) : DR X (.Call (.Name "range" p) [a, b] [] pos) (dRg2 te tb) :=
  ⟨fun aw S0 H0 => PRg.imp (prg_2 hg hm (ha.run aw S0 H0) (hb.run aw S0 H0) na nb hp) fun σ H k ⟨ρ, S, Q, r, h, c⟩ => ⟨ρ, S, _, r, h, fun d hd v S1 H1 x1 r1 => ⟨ρ, S1, _, r.go x1, hd, fun d' hd' v' S2 H2 x2 r2 => by
    split at hd'
    · cases r1
      cases r2
      exact ⟨_, _, rfl, rfl, c _ _ hd' S2 H2 (x1.trans x2)⟩
    · exact hd'.elim⟩⟩⟩
theorem rgV_reps {aw : Option Addr} {S : Hp} (i j : Int) : Reps aw S (rng i (j - i).toNat) (rgV i j) := by
  have key : ∀ (l : List Nat), Reps aw S (l.map fun k => D.int (i + (k : Nat))) (l.map fun k => V.int (i + (k : Nat))) := by
    intro l
    induction l with
    | nil => exact rfl
    | cons a l ih => exact .cons rfl ih
  exact key _
theorem RgB.ok {i j : Int} (h : RgB i j) : RgOk i j := by
  have := h.n
  obtain ⟨a, b, c, d⟩ := h
  exact ⟨by omega, by omega, by omega, by omega, by rw [sizeLine_eq] at this; omega⟩
def dLstR (td : TDR) : TDA := fun ρ Q => td ρ fun i j => RgB i j ∧ Q (rng i (j - i).toNat)
def dTupR (td : TDR) : TD := fun ρ Q => td ρ fun i j => RgB i j ∧ Q (.tup (rng i (j - i).toNat))
theorem df_listR {td : TDR} (hc : X.calm = true) (hg : Gl X "list") (hm : X.mg "list" = none) (he : DR X e td) (na : starEach [e] X.env = (false, eval e X.env) :: starEach [] X.env := by rfl) : DF X (.Call (.Name "list" p) [e] [] pos) (dLstR td) :=
  ⟨fun aw S0 H0 => PE.imp (pe_listRg hc hg hm (he.run aw S0 H0) na) fun σ H k ⟨ρ, S, Q, r, h, c⟩ => ⟨ρ, S, _, r, h, fun i j hd S1 H1 x1 => ⟨hd.1.ok, fun q hq => by
    have hs : S1 q = none := by
      cases z : S1 q with
      | none => rfl
      | some u => rw [x1.wf.sub q u z] at hq; cases hq
    refine c _ hd.2 q _ S1 _ (x1.lay hq) hs (x1.free hq) (fun e => ?_) upd_same ?_ (rgV_reps i j)
    · obtain ⟨_, ns, z, _⟩ := x1.wf.well q e
      rw [z] at hq; cases hq
    · rw [rgV_length]; exact hd.1.n⟩⟩⟩
theorem de_tupR {td : TDR} (hc : X.calm = true) (hg : Gl X "tuple") (hm : X.mg "tuple" = none) (he : DR X e td) (na : starEach [e] X.env = (false, eval e X.env) :: starEach [] X.env := by rfl) : DE X (.Call (.Name "tuple" p) [e] [] pos) (dTupR td) :=
  ⟨fun aw S0 H0 => PE.imp (pe_tupRg hc hg hm (he.run aw S0 H0) na) fun σ H k ⟨ρ, S, Q, r, h, c⟩ => ⟨ρ, S, _, r, h, fun i j hd S1 H1 x1 => ⟨hd.1.ok, fun q hq => by
    have x := (Ext.refl x1.wf).put (o := .tup (rgV i j)) hq
    exact c _ hd.2 _ _ _ (x1.trans x) ⟨q, _, rfl, .of upd_same, by rw [rgV_length]; exact hd.1.n, rgV_reps i j⟩⟩⟩⟩

/-! sorted -/
def pairs? : List D → Option (List (Int × Int))
  | [] => some []
  | .tup [.int i, .int j] :: r => (pairs? r).map ((i, j) :: ·)
  | _ :: _ => none
abbrev pairD (q : Int × Int) : D := .tup [.int q.1, .int q.2]
theorem pairs?_map : ∀ ns : List (Int × Int), pairs? (ns.map pairD) = some ns
  | [] => rfl
  | n :: ns => by rw [List.map_cons]; show (pairs? (ns.map pairD)).map _ = _; rw [pairs?_map ns]; rfl
theorem pairs?_some : ∀ {ds : List D} {ps : List (Int × Int)}, pairs? ds = some ps → ds = ps.map pairD
  | [], _, h => by cases h; rfl
  | d :: ds, ps, h => by
    unfold pairs? at h
    split at h
    · rename_i e; cases e
    · rename_i i j r e
      cases e
      rw [Option.map_eq_some_iff] at h
      obtain ⟨qs, h1, rfl⟩ := h
      rw [pairs?_some h1]; rfl
    · cases h
/-- pairs of ints by their first, then by their second -/
def lexLe (p q : Int × Int) : Prop := p.1 < q.1 ∨ (p.1 = q.1 ∧ p.2 ≤ q.2)
def spSorted : List D → (List D → Prop) → Prop := fun ds Q => match ds with
  | [.lst xs] => match ints? xs with
    | some ns => ∀ ms : List Int, ms.Perm ns → ms.Pairwise (· ≤ ·) → Q (ms.map .int)
    | none => match pairs? xs with
      | some ps => ∀ qs : List (Int × Int), qs.Perm ps → qs.Pairwise lexLe → Q (qs.map pairD)
      | none => False
  | [.tup xs] => match ints? xs with
    | some ns => ∀ ms : List Int, ms.Perm ns → ms.Pairwise (· ≤ ·) → Q (ms.map .int)
    | none => match pairs? xs with
      | some ps => ∀ qs : List (Int × Int), qs.Perm ps → qs.Pairwise lexLe → Q (qs.map pairD)
      | none => False
  | _ => False
theorem int_reps {aw : Option Addr} {S : Hp} : ∀ ns : List Int, Reps aw S (ns.map D.int) (ns.map V.int)
  | [] => rfl
  | n :: ns => .cons rfl (int_reps ns)
/-- the pair that stands at a value -/
noncomputable def pairAt (S : Hp) (v : V) : Int × Int := open Classical in if h : ∃ q : Int × Int, ∃ t, v = .ref t ∧ Rd S t (.tup [.int q.1, .int q.2]) then h.choose else (0, 0)
theorem pairAt_eq {S : Hp} {v : V} {q : Int × Int} {t : Addr} (e : v = .ref t) (h : Rd S t (.tup [.int q.1, .int q.2])) : pairAt S v = q := by
  have hh : ∃ q : Int × Int, ∃ t, v = .ref t ∧ Rd S t (.tup [.int q.1, .int q.2]) := ⟨q, t, e, h⟩
  unfold pairAt
  rw [dif_pos hh]
  obtain ⟨t', e', h'⟩ := hh.choose_spec
  rw [e] at e'
  cases e'
  have h' := Rd.injT h h'
  injection h' with a b
  injection b with b _
  injection a with a
  injection b with b
  exact Prod.ext a.symm b.symm
theorem pair_reps {aw : Option Addr} {S : Hp} : ∀ {ps : List (Int × Int)} {vs : List V}, Reps aw S (ps.map pairD) vs → (∀ v ∈ vs, ∃ t, v = V.ref t ∧ Rd S t (.tup [.int (pairAt S v).1, .int (pairAt S v).2])) ∧ vs.map (pairAt S) = ps
  | [], _, h => by cases h; exact ⟨fun v h => (by cases h), rfl⟩
  | q :: ps, _, ⟨v, vr, e, ⟨t, us, e2, h1, z, r1⟩, tl⟩ => by
    subst e
    obtain ⟨a, ar, rfl, ra, b, br, rfl, rb, rc⟩ := r1
    cases ra
    cases rb
    cases rc
    have hq := pairAt_eq (q := q) e2 h1
    obtain ⟨i1, i2⟩ := pair_reps tl
    refine ⟨fun w hw => ?_, by rw [List.map_cons, hq, i2]⟩
    rcases List.mem_cons.mp hw with rfl | hw
    · exact ⟨t, e2, by rw [hq]; exact h1⟩
    · exact i1 w hw
theorem reps_pair {aw : Option Addr} {S : Hp} : ∀ {vs : List V}, (∀ v ∈ vs, ∃ t, v = V.ref t ∧ Rd S t (.tup [.int (pairAt S v).1, .int (pairAt S v).2])) → Reps aw S ((vs.map (pairAt S)).map pairD) vs
  | [], _ => rfl
  | v :: vs, h => by
    obtain ⟨t, e, h1⟩ := h v List.mem_cons_self
    exact .cons ⟨t, _, e, h1, by show 2 ≤ sizeLine; decide, .cons rfl (.cons rfl .nil)⟩ (reps_pair fun w hw => h w (List.mem_cons_of_mem _ hw))
theorem lexLe_of {k : V → Int × Int} {x y : V} (h : ltP k y x = false) : lexLe (k x) (k y) := by
  have := SrtO.lexB_no.mp h
  unfold lexLe
  omega
theorem imp_sorted {aw : Option Addr} {S H : Hp} {ds : List D} {vs : List V} {k : VK} {Q : List D → Prop} (w : Wf aw S H) (r : Reps aw S ds vs) (h : spSorted ds Q)
    (c : ∀ xs, Q xs → ∀ a ws, H a = none → ws.length ≤ sizeLine → Reps aw S xs ws → k (.ref a) (upd H a (.lst ws))) : rSrtI X.K vs H k ∨ rSrtP X.K vs H k := by
  have core : ∀ (a : Addr) (us : List V) (xs : List D), vs = [.ref a] → SqA X.K H a us → us.length ≤ sizeLine → Reps aw S xs us → (match ints? xs with
    | some ns => ∀ ms : List Int, ms.Perm ns → ms.Pairwise (· ≤ ·) → Q (ms.map .int)
    | none => match pairs? xs with
      | some ps => ∀ qs : List (Int × Int), qs.Perm ps → qs.Pairwise lexLe → Q (qs.map pairD)
      | none => False) → rSrtI X.K vs H k ∨ rSrtP X.K vs H k := by
    intro a us xs e hs z r1 hq
    split at hq
    · rename_i ns e1
      have eu := ints?_reps e1 r1
      subst eu
      refine .inl ⟨a, ns, e, hs, fun ms p h1 h2 hp => c _ (hq ms h1 h2) p _ hp ?_ (int_reps ms)⟩
      rw [List.length_map] at z ⊢
      rw [h1.length_eq]
      exact z
    · split at hq
      · rename_i ps e2
        rw [pairs?_some e2] at r1
        obtain ⟨q1, q2⟩ := pair_reps r1
        refine .inr ⟨a, us, pairAt S, e, hs, fun x hx => ?_, fun ys p h1 h2 hp => ?_⟩
        · obtain ⟨t, e3, e4⟩ := q1 x hx
          exact ⟨t, e3, w.sub.rd e4⟩
        · have q3 : ∀ v ∈ ys, ∃ t, v = V.ref t ∧ Rd S t (.tup [.int (pairAt S v).1, .int (pairAt S v).2]) := fun v hv => q1 v (h2.mem_iff.mp hv)
          refine c _ (hq (ys.map (pairAt S)) (by rw [← q2]; exact h2.map _) ?_) p ys hp (by rw [h2.length_eq]; exact z) (reps_pair q3)
          exact List.pairwise_map.mpr (h1.imp fun h => lexLe_of h)
      · exact hq.elim
  unfold spSorted at h
  split at h
  · obtain ⟨v, vr, rfl, ⟨a, us, rfl, h1, z, r1⟩, t⟩ := r
    cases t
    exact core a us _ rfl (.inl (.of (w.sub _ _ h1))) z r1 h
  · obtain ⟨v, vr, rfl, ⟨a, us, rfl, h1, z, r1⟩, t⟩ := r
    cases t
    exact core a us _ rfl (.inr (rdT (w.sub.rd h1))) z r1 h
  · exact h.elim
def dSorted (ta : TDA) : TDA := fun ρ Q => ta ρ fun ds => spSorted ds Q
theorem df_sorted (hg : Gl X "sorted") (hm : X.mg "sorted" = none) (ha : DA X [e] ta) (he : starEach [e] X.env = (false, eval e X.env) :: starEach [] X.env := by rfl) (hpl : (backTo pos (starEach [] X.env)).any (·.1) = false := by rfl) : DF X (.Call (.Name "sorted" p) [e] [] pos) (dSorted ta) :=
  ⟨fun aw S0 H0 => PE.imp (pe_callB (cr_srtI.or cr_srtP) hg hm boot_sorted (ha.run aw S0 H0) (by decide) (by decide) he hpl) (fresh_read (sp := spSorted) fun aw S H ds vs k Q w r h c => imp_sorted w r h c)⟩

/-! min, max of two ints; int, bool of an int or a truth; str of an int -/
def spMax2 : DSp := fun ds Q => match ds with
  | [.int i, .int j] => Q (.int (max i j))
  | _ => False
def spMin2 : DSp := fun ds Q => match ds with
  | [.int i, .int j] => Q (.int (min i j))
  | _ => False
theorem two_ints {aw : Option Addr} {S : Hp} {i j : Int} {vs : List V} (r : Reps aw S [.int i, .int j] vs) : vs = [.int i, .int j] := by
  obtain ⟨v, vr, rfl, e, v2, vr2, rfl, e2, t⟩ := r
  cases e
  cases e2
  cases t
  rfl
theorem de_max2 {a b : Expr} (hc : X.calm = true) (hg : Gl X "max") (hm : X.mg "max" = none) (ha : DA X [a, b] ta) (he : starEach [a, b] X.env = (false, eval a X.env) :: starEach [b] X.env := by rfl) (hpl : (backTo pos (starEach [b] X.env)).any (·.1) = false := by rfl) : DE X (.Call (.Name "max" p) [a, b] [] pos) (dCall spMax2 ta) :=
  de_callB (call_max2 hc) (fun aw S H ds vs k Q w r h c => by
    unfold spMax2 at h
    split at h
    · rename_i i j
      refine ⟨i, j, two_ints r, ?_⟩
      have e : (if j > i then j else i) = max i j := by rw [Int.max_def]; split <;> split <;> omega
      rw [e]
      exact c _ h _ S H (.refl w) rfl
    · exact h.elim) hg hm boot_max ha (by decide) (by decide) he hpl
theorem de_min2 {a b : Expr} (hc : X.calm = true) (hg : Gl X "min") (hm : X.mg "min" = none) (ha : DA X [a, b] ta) (he : starEach [a, b] X.env = (false, eval a X.env) :: starEach [b] X.env := by rfl) (hpl : (backTo pos (starEach [b] X.env)).any (·.1) = false := by rfl) : DE X (.Call (.Name "min" p) [a, b] [] pos) (dCall spMin2 ta) :=
  de_callB (call_min2 hc) (fun aw S H ds vs k Q w r h c => by
    unfold spMin2 at h
    split at h
    · rename_i i j
      refine ⟨i, j, two_ints r, ?_⟩
      have e : (if j < i then j else i) = min i j := by rw [Int.min_def]; split <;> split <;> omega
      rw [e]
      exact c _ h _ S H (.refl w) rfl
    · exact h.elim) hg hm boot_min ha (by decide) (by decide) he hpl
def spInt : DSp := fun ds Q => match ds with
  | [.int i] => Q (.int i)
  | [.bl b] => Q (.int (if b then 1 else 0))
  | _ => False
def spBool : DSp := fun ds Q => match ds with
  | [.int i] => Q (.bl (i != 0))
  | [.bl b] => Q (.bl b)
  | _ => False
theorem de_int1 (hg : Gl X "int") (hm : X.mg "int" = none) (ha : DA X [e] ta) (he : starEach [e] X.env = (false, eval e X.env) :: starEach [] X.env := by rfl) (hpl : (backTo pos (starEach [] X.env)).any (·.1) = false := by rfl) : DE X (.Call (.Name "int" p) [e] [] pos) (dCall spInt ta) :=
  de_callTy call_int1 (fun aw S H ds vs k Q w r h c => by
    unfold spInt at h
    split at h
    · obtain ⟨v, vr, rfl, e, t⟩ := r
      cases e
      cases t
      exact .inl ⟨_, rfl, c _ h _ S H (.refl w) rfl⟩
    · obtain ⟨v, vr, rfl, e, t⟩ := r
      cases e
      cases t
      exact .inr ⟨_, rfl, c _ h _ S H (.refl w) rfl⟩
    · exact h.elim) hg hm (by decide +kernel) ha (by decide) (by decide) he hpl
theorem de_bool1 (hg : Gl X "bool") (hm : X.mg "bool" = none) (ha : DA X [e] ta) (he : starEach [e] X.env = (false, eval e X.env) :: starEach [] X.env := by rfl) (hpl : (backTo pos (starEach [] X.env)).any (·.1) = false := by rfl) : DE X (.Call (.Name "bool" p) [e] [] pos) (dCall spBool ta) :=
  de_callTy call_bool1 (fun aw S H ds vs k Q w r h c => by
    unfold spBool at h
    split at h
    · obtain ⟨v, vr, rfl, e, t⟩ := r
      cases e
      cases t
      exact .inl ⟨_, rfl, c _ h _ S H (.refl w) rfl⟩
    · obtain ⟨v, vr, rfl, e, t⟩ := r
      cases e
      cases t
      exact .inr ⟨_, rfl, c _ h _ S H (.refl w) rfl⟩
    · exact h.elim) hg hm (by decide +kernel) ha (by decide) (by decide) he hpl
end
end DL
/-! DL: lists of owned lists -/
namespace DL
open PySem PySem.Spec PyProof.Rows L2

abbrev RowsR (aw : Option Addr) (S H : Hp) : List (List D) → List Addr → Prop := Paired fun ds b => ∃ vs, H b = some (.lst vs) ∧ vs.length ≤ sizeLine ∧ Reps aw S ds vs
section
variable {aw : Option Addr} {S0 H0 S H S' H' : Hp} {ρ : DEnv} {σ : L2.St}
theorem RowsR.length {xss : List (List D)} {bs : List Addr} (h : RowsR aw S H xss bs) : xss.length = bs.length := Paired.length h
theorem RowsR.get {xss : List (List D)} {bs : List Addr} (h : RowsR aw S H xss bs) : ∀ {m : Nat} {xs : List D}, xss[m]? = some xs → ∃ b vs, bs[m]? = some b ∧ H b = some (.lst vs) ∧ vs.length ≤ sizeLine ∧ Reps aw S xs vs := by
  induction h with
  | nil => intro m xs e; simp at e
  | cons r t ih =>
    intro m xs e
    cases m with
    | zero =>
      simp at e
      subst e
      obtain ⟨vs, h1, h2, h3⟩ := r
      exact ⟨_, vs, rfl, h1, h2, h3⟩
    | succ m =>
      obtain ⟨b, vs, h0, h1⟩ := ih (m := m) (xs := xs) (by simpa using e)
      exact ⟨b, vs, by simpa using h0, h1⟩
theorem RowsR.ext {xss : List (List D)} {bs : List Addr} (h : RowsR aw S H xss bs) (l : Le S S') (k : ∀ b ∈ bs, H' b = H b) : RowsR aw S' H' xss bs :=
  Paired.imp h fun ds b m ⟨vs, z1, z2, z3⟩ => ⟨vs, by rw [k b m]; exact z1, z2, z3.mono l⟩
theorem RowsR.set {xss : List (List D)} {bs : List Addr} (h : RowsR aw S H xss bs) : bs.Nodup → ∀ {m : Nat} {b : Addr} {ys : List D} {ws : List V}, bs[m]? = some b → ws.length ≤ sizeLine → Reps aw S ys ws → RowsR aw S (upd H b (.lst ws)) (xss.set m ys) bs := by
  induction h with
  | nil => intro _ m b ys ws e; simp at e
  | @cons ds c xss bs r t ih =>
    intro nd m b ys ws e z rr
    rw [List.nodup_cons] at nd
    cases m with
    | zero =>
      simp at e
      subst e
      exact .cons ⟨ws, upd_same, z, rr⟩ (Paired.imp t fun ds b' m ⟨vs, z1, z2, z3⟩ => ⟨vs, by rw [upd_ne (fun q => nd.1 (by rw [← q]; exact m))]; exact z1, z2, z3⟩)
    | succ m =>
      have e : bs[m]? = some b := by simpa using e
      obtain ⟨vs, z1, z2, z3⟩ := r
      have hcb : c ≠ b := fun q => nd.1 (by rw [q]; exact List.mem_of_getElem? e)
      exact .cons ⟨vs, by rw [upd_ne hcb]; exact z1, z2, z3⟩ (ih nd.2 e z rr)
/-- an owned list of owned lists -/
theorem Rel.owned2 (r : Rel aw S0 H0 ρ σ S H) {i : Nat} {xss : List (List D)} (h : ρ.getD i .no = .ow2 xss) : ∃ (a : Addr) (bs : List Addr), σ[i]? = some (some (.ref a)) ∧ H a = some (.lst (bs.map V.ref)) ∧ bs.length = xss.length ∧ aw ≠ some a ∧
    ∀ {m : Nat} {xs : List D}, xss[m]? = some xs → ∃ b vs, bs[m]? = some b ∧ aw ≠ some b ∧ H b = some (.lst vs) ∧ vs.length ≤ sizeLine ∧ Reps aw S xs vs ∧
      ∀ {S' H' : Hp}, Ext aw S H S' H' → H' b = some (.lst vs) ∧ ∀ {ys : List D} {ws : List V}, Reps aw S' ys ws → ws.length ≤ sizeLine → Rel aw S0 H0 (ρ.set i (.ow2 (xss.set m ys))) σ S' (upd H' b (.lst ws)) := by
  obtain ⟨f, ow⟩ := r.own
  have hs := ow.slot i
  rw [h] at hs
  obtain ⟨a, bs, e1, e2, h1, z, r1⟩ := hs
  have nd := ow.nd i
  rw [e2, List.nodup_cons] at nd
  have hok : ∀ b, b ∈ a :: bs → aw ≠ some b := fun b m => (ow.ok i b (by rw [e2]; exact m)).2.2.1
  refine ⟨a, bs, getD_some e1, h1, (RowsR.length r1).symm, hok a (by simp), fun {m xs} hm => ?_⟩
  obtain ⟨b, vs, hb, h2, h3, h4⟩ := RowsR.get r1 hm
  have mb := List.mem_of_getElem? hb
  have mi : b ∈ f i := by rw [e2]; exact List.mem_cons_of_mem _ mb
  refine ⟨b, vs, hb, hok b (List.mem_cons_of_mem _ mb), h2, h3, h4, fun {S' H'} x => ⟨x.keep b _ h2 (hok b (List.mem_cons_of_mem _ mb)), fun {ys ws} rr zz => ?_⟩⟩
  refine (r.go x).mut (ow.ext x) mi ⟨a, bs, e1, e2, ?_, z, ?_⟩
  · rw [upd_ne (fun q => nd.1 (by rw [q]; exact mb))]
    exact x.keep a _ h1 (hok a (by simp))
  · refine RowsR.set (RowsR.ext r1 x.le fun c mc => ?_) nd.2 hb zz rr
    cases q : H c with
    | none => exact absurd q (ow.ok i c (by rw [e2]; exact List.mem_cons_of_mem _ mc)).2.2.2
    | some u => exact x.keep c u q (hok c (List.mem_cons_of_mem _ mc))
end
theorem atI_ix {α : Type} {xs : List α} {n : Int} {m : Nat} (h : ixN xs.length n = some m) : atI xs n = xs[m]? := by unfold atI; rw [h]; rfl
section
variable {X : Cx} {e i2 j2 : Expr} {te ti tj : TD} {pos cpos apos p2 p3 : Pos} {k : Nat}
/-- x[i].append(e) -/
def dApp2 (i : Nat) (ti te : TD) : TDS := fun K ρ => match ρ.getD i .no with
  | .ow2 xss => ti ρ fun j => match j with
    | .int n => match ixN xss.length n with
      | some m => match xss[m]? with
        | some xs => te ρ fun d => xs.length < sizeLine ∧ K.nx (ρ.set i (.ow2 (xss.set m (xs ++ [d]))))
        | none => False
      | none => False
    | _ => False
  | _ => False
theorem ds_app2 (i : Nat) {x : Str} {p : Pos} (hN : X.N[i]? = some x) (hv : Vis X.env.scope x) (hi : DE X i2 ti) (he : DE X e te) (hpx : PlainIx i2 := by intro _ _; rfl) (hd : (x == ("__debug__" : Str)) = false := by decide) (hcd : (x == ("__classdict__" : Str)) = false := by decide)
    (hbase : attributeBase (.Subscript (.Name x p) i2 p2) "append" X.env (eval (.Subscript (.Name x p) i2 p2) X.env) = eval (.Subscript (.Name x p) i2 p2) X.env := by rfl) (hfew : ((backTo cpos (starEach [e] X.env)).all (fun x => !x.1) && (backToKw cpos (keywordEach [] X.env)).all (fun x => x.1.isSome) && decide ([e].length + ([] : List Keyword).length + (if ([] : List Keyword).isEmpty then 0 else 1) < 30)) = true := by rfl)
    (hline : (apos.endLine == cpos.line) = true := by rfl) (hs : starEach [e] X.env = (false, eval e X.env) :: starEach [] X.env := by rfl) (hplain : (backTo cpos (starEach [] X.env)).any (·.1) = false := by rfl)
    (hsw : swapsWith (.Call (.Attribute (.Subscript (.Name x p) i2 p2) "append" apos) [e] [] cpos) none pos.line X.env = pure false := by rfl) :
    DS X (.Expr (.Call (.Attribute (.Subscript (.Name x p) i2 p2) "append" apos) [e] [] cpos) pos) (dApp2 i ti te) :=
  ⟨fun aw S0 H0 => PS.imp (ps_expr (pe_bm PySem.F.plainAttrs_list PySem.F.slot_list_append PySem.F.type_list_append mt_append (pe_ix ix_list (pe_var hN hv hd hcd) (hi.run aw S0 H0) hpx) (pa_cons (he.run aw S0 H0) pa_nil hs) hbase hfew hline hs hplain) hsw) fun E σ H ⟨ρ, S, K, r, h, im⟩ => by
    unfold dApp2 at h
    split at h
    · rename_i xss hx
      obtain ⟨a, bs, e1, h1, hl, hna, rows⟩ := r.owned2 hx
      refine ⟨_, e1, ρ, S, _, r, h, fun d hd v S1 H1 x1 rd => ?_⟩
      split at hd
      · split at hd
        · split at hd
          · rename_i n _ m hm _ xs hxs
            cases rd
            obtain ⟨b, vs, hb, hnb, h2, h3, h4, mu⟩ := rows hxs
            have ha : atI (bs.map V.ref) n = some (.ref b) := by
              rw [← hl] at hm
              rw [atI_ix (m := m) (by rw [List.length_map]; exact hm), List.getElem?_map, hb]; rfl
            refine ⟨a, _, n, .ref b, rfl, rfl, .of (x1.keep a _ h1 hna), ha, .inl ⟨rfl, vs, .of (x1.keep b _ h2 hnb)⟩, ρ, S1, _, r.go x1, hd, fun d hd' w S2 H2 x2 rw' => ?_⟩
            obtain ⟨hz, hd'⟩ := hd'
            obtain ⟨h5, mu⟩ := mu (x1.trans x2)
            have hz : vs.length < sizeLine := by rw [← lenR h4]; exact hz
            exact ⟨b, vs, w, rfl, rfl, h5, hz, im.nx _ hd' σ S2 _ (x1.trans x2).le (mu ((h4.mono (x1.trans x2).le).snoc rw') (by simp; omega))⟩
          · exact hd.elim
        · exact hd.elim
      · exact hd.elim
    · exact h.elim⟩
/-- x[i][j] = e -/
def dSet2 (i : Nat) (ti tj te : TD) : TDS := fun K ρ => match ρ.getD i .no with
  | .ow2 xss => te ρ fun d => ti ρ fun j => match j with
    | .int n => match ixN xss.length n with
      | some m => match xss[m]? with
        | some xs => tj ρ fun j' => match j' with
          | .int n' => match ixN xs.length n' with
            | some m' => K.nx (ρ.set i (.ow2 (xss.set m (xs.set m' d))))
            | none => False
          | _ => False
        | none => False
      | none => False
    | _ => False
  | _ => False
theorem ds_set2 (i : Nat) {x : Str} {p : Pos} (hN : X.N[i]? = some x) (hv : Vis X.env.scope x) (hi : DE X i2 ti) (hj : DE X j2 tj) (he : DE X e te) (hpx : PlainIx i2 := by intro _ _; rfl) (hd : (x == ("__debug__" : Str)) = false := by decide) (hcd : (x == ("__classdict__" : Str)) = false := by decide)
    (hs : swapsWithSole [.Subscript (.Subscript (.Name x p) i2 p2) j2 p3] e pos.line X.env = pure false := by rfl) (hw : swappedStores [.Subscript (.Subscript (.Name x p) i2 p2) j2 p3] e X.env = pure none := by rfl) (h1 : (assignEach [.Subscript (.Subscript (.Name x p) i2 p2) j2 p3] X.env).map (·.2) = [assign (.Subscript (.Subscript (.Name x p) i2 p2) j2 p3) X.env] := by rfl)
    (ha : ∀ v, assign (.Subscript (.Subscript (.Name x p) i2 p2) j2 p3) X.env v = (do let ov ← holding [v] (eval (.Subscript (.Name x p) i2 p2) X.env); let iv ← holding [v, ov] (eval j2 X.env); standAt p3; holding [v, ov, iv] (setItem ov iv v); release [v, ov, iv] []) := by intro _; rfl) :
    DS X (.Assign [.Subscript (.Subscript (.Name x p) i2 p2) j2 p3] e pos) (dSet2 i ti tj te) :=
  ⟨fun aw S0 H0 => PS.imp (ps_asg (he.run aw S0 H0) (pg_sub (pe_ix ix_list (pe_var hN hv hd hcd) (hi.run aw S0 H0) hpx) (hj.run aw S0 H0) set_list ha) hs hw h1) fun E σ H ⟨ρ, S, K, r, h, im⟩ => by
    unfold dSet2 at h
    split at h
    · rename_i xss hx
      obtain ⟨a, bs, e1, h1, hl, hna, rows⟩ := r.owned2 hx
      refine ⟨ρ, S, _, r, h, fun d hd v S1 H1 x1 rd => ⟨_, e1, ρ, S1, _, r.go x1, hd, fun j hj w S2 H2 x2 rj => ?_⟩⟩
      split at hj
      · split at hj
        · split at hj
          · rename_i n _ m hm _ xs hxs
            cases rj
            obtain ⟨b, vs, hb, hnb, h2, h3, h4, mu⟩ := rows hxs
            have x12 := x1.trans x2
            have ha : atI (bs.map V.ref) n = some (.ref b) := by
              rw [← hl] at hm
              rw [atI_ix (m := m) (by rw [List.length_map]; exact hm), List.getElem?_map, hb]; rfl
            refine ⟨a, _, n, .ref b, rfl, rfl, .of (x12.keep a _ h1 hna), ha, ρ, S2, _, r.go x12, hj, fun j' hj' w' S3 H3 x3 rj' => ?_⟩
            split at hj'
            · split at hj'
              · rename_i n' _ m' hm'
                cases rj'
                obtain ⟨h5, mu⟩ := mu (x12.trans x3)
                rw [lenR h4] at hm'
                exact ⟨b, vs, n', m', rfl, rfl, h5, hm', im.nx _ hj' σ S3 _ (x12.trans x3).le (mu ((h4.mono (x12.trans x3).le).set m' (rd.mono (x2.trans x3).le)) (by simpa using h3))⟩
              · exact hj'.elim
            · exact hj'.elim
          · exact hj.elim
        · exact hj.elim
      · exact hj.elim
    · exact h.elim⟩
/-- x k times, x a list: a new list -/
def dRep (ta tb : TD) : TDA := fun ρ Q => ta ρ fun x => tb ρ fun y => match x, y with
  | .lst xs, .int j => (j ≤ 2 ^ 24 ∧ xs.length * j.toNat ≤ sizeLine) ∧ -(2 ^ 63) ≤ j ∧ Q (List.replicate j.toNat xs).flatten
  | _, _ => False
theorem df_rep {a b : Expr} {ta tb : TD} (ha : DE X a ta) (hb : DE X b tb) : DF X (.BinOp a .Mult b pos) (dRep ta tb) :=
  ⟨fun aw S0 H0 => PE.imp (pe_op op_rep (ha.run aw S0 H0) (hb.run aw S0 H0)) fun σ H k ⟨ρ, S, Q, r, h, c⟩ => ⟨ρ, S, _, r, h, fun d hd v S1 H1 x1 r1 => ⟨ρ, S1, _, r.go x1, hd, fun d' hd' v' S2 H2 x2 r2 => by
    split at hd'
    · obtain ⟨q, vs, rfl, h1, z1, r3⟩ := r1.mono x2.le
      cases r2
      obtain ⟨⟨hj, hz⟩, hj2, hq⟩ := hd'
      rw [lenR r3] at hz
      have x12 := x1.trans x2
      refine ⟨q, _, vs, rfl, rfl, x12.wf.sub _ _ h1, hj2, by omega, hz, fun l hl => ?_⟩
      have hs : S2 l = none := by
        cases z : S2 l with
        | none => rfl
        | some u => rw [x12.wf.sub l u z] at hl; cases hl
      exact c _ hq l _ S2 _ (x12.lay hl) hs (x12.free hl) (fun e => by
        obtain ⟨_, ns, z, _⟩ := x12.wf.well l e
        rw [z] at hl; cases hl) upd_same (by rw [flat_len]; exact hz) (r3.rep _)
    · exact hd'.elim⟩⟩⟩
end
end DL
/-! DL: comprehensions of owned lists; dicts; calls with keywords; zip; index -/
namespace DL
open PySem PySem.Spec PyProof.Rows L2

/-! ### [[..] for ..]: a new list of new lists -/
def compF (g : TDG) (tt : TDT) (te : TDA) (ρ : DEnv) : List D → List (List D) → (List (List D) → Prop) → Prop
  | [], acc, Q => Q acc
  | d :: ds, acc, Q => g d ρ fun ρ2 => tt ρ2 fun b => if b = true then te ρ2 fun e => compF g tt te ρ ds (acc ++ [e]) Q else compF g tt te ρ ds acc Q
def vComp2 (ti : TDI) (g : TDG) (tt : TDT) (te : TDA) (vs : List Nat) : TDV := fun ρ Q => ti ρ fun ds => compF g tt te (wipeD ρ vs) ds [] fun xss => Q (.ow2 xss)
theorem Paired.snoc {α β : Type} {F : α → β → Prop} {l : List α} {m : List β} {a : α} {b : β} (h : Paired F l m) (r : F a b) : Paired F (l ++ [a]) (m ++ [b]) := by
  induction h with
  | nil => exact .cons r .nil
  | cons x t ih => exact .cons x ih
section
variable {X : Cx} {aw : Option Addr} {S0 H0 : Hp} {ti : TDI} {g : TDG} {tt : TDT} {te : TDA} {vs is : List Nat}
theorem comp2_read (hs : ∀ i ∈ is, i ∈ vs) : ∀ σ H k, liftV aw S0 H0 (vComp2 ti g tt te vs) σ H k → tLc (liftO' aw S0 H0 ti) (liftG aw S0 H0 is g) (liftT aw S0 H0 tt) (liftF aw S0 H0 te) vs σ H k := by
  rintro σ H k ⟨ρ, S, Q, r, h, c⟩
  refine ⟨ρ, S, _, r, h, fun ds hd J S1 H1 x1 it p hp => ?_⟩
  have hS1 : S1 p = none := by
    cases q : S1 p with
    | none => rfl
    | some u => rw [x1.wf.sub p u q] at hp; cases hp
  have hn : aw ≠ some p := fun e => by
    obtain ⟨_, ns, z, _⟩ := x1.wf.well p e
    rw [z] at hp; cases hp
  -- the rows so far: new, apart, not the list's own
  let W : Hp → Hp → List Addr → List (List D) → Prop := fun Sc Hc bs ad => Ext aw S1 H1 Sc Hc ∧ Hc p = some (.lst (bs.map V.ref)) ∧ Sc p = none ∧ RowsR aw Sc Hc ad bs ∧ bs.Nodup ∧ p ∉ bs ∧ ∀ b ∈ bs, Sc b = none ∧ H1 b = none ∧ aw ≠ some b
  refine ⟨fun i m Hc => m = ds.length - i ∧ i ≤ ds.length ∧ ∃ Sc bs ad, W Sc Hc bs ad ∧ bs.length ≤ i ∧ compF g tt te (wipeD ρ vs) (ds.drop i) ad (fun xss => Q (.ow2 xss)),
    ⟨ds.length, by simp, Nat.zero_le _, S1, [], [], ⟨(Ext.refl x1.wf).over hp hS1 hn, upd_same, hS1, .nil, List.nodup_nil, by simp, fun b h => by cases h⟩, Nat.le_refl _, hd⟩, ?_⟩
  rintro i m Hc ⟨rfl, hi, Sc, bs, ad, ⟨xc, hav, hSc, ra, nd, hpb, hok⟩, hla, hcomp⟩
  have rc : Rel aw S0 H0 ρ σ Sc Hc := (r.go x1).go xc
  by_cases hlt : i < ds.length
  · have hget : ds[i]? = some ds[i] := List.getElem?_eq_getElem hlt
    rw [List.drop_eq_getElem_cons hlt] at hcomp
    obtain ⟨hgo, hy⟩ := it.go Sc Hc xc xc.wf i _ hget
    refine .inr ⟨hgo, fun Hn => ∃ Sc bs ad, W Sc Hn bs ad ∧ bs.length ≤ i + 1 ∧ compF g tt te (wipeD ρ vs) (ds.drop (i + 1)) ad (fun xss => Q (.ow2 xss)),
      fun H' ⟨Sc, bs, ad, hh⟩ => ⟨ds.length - (i + 1), by omega, rfl, hlt, Sc, bs, ad, hh⟩, fun x H' y => ?_⟩
    obtain ⟨S2, x2, r2⟩ := hy x H' y
    have stay : ∀ {S3 H3 : Hp} {b : Addr} {o : HO}, Ext aw Sc Hc S3 H3 → Hc b = some o → Sc b = none → aw ≠ some b → H3 b = some o ∧ S3 b = none := fun {S3 H3 b o} xx h1 h2 h3 => by
      refine ⟨xx.keep b _ h1 h3, ?_⟩
      cases q : S3 b with
      | none => rfl
      | some u =>
        rcases xx.new b u q with z | z
        · rw [h2] at z; cases z
        · rw [h1] at z; cases z
    have rowHas : ∀ b ∈ bs, ∃ vs, Hc b = some (.lst vs) := fun b hb => by
      obtain ⟨j, hj⟩ := List.mem_iff_getElem?.mp hb
      have hj2 : j < ad.length := by
        rw [RowsR.length ra]
        exact (List.getElem?_eq_some_iff.mp hj).1
      obtain ⟨b', vs, h1, h2, _⟩ := RowsR.get ra (List.getElem?_eq_getElem hj2)
      rw [hj] at h1
      cases h1
      exact ⟨vs, h2⟩
    have carry : ∀ {S3 H3 : Hp}, Ext aw Sc Hc S3 H3 → W S3 H3 bs ad := fun {S3 H3} xx => by
      obtain ⟨z1, z2⟩ := stay xx hav hSc hn
      refine ⟨xc.trans xx, z1, z2, RowsR.ext ra xx.le fun b hb => ?_, nd, hpb, fun b hb => ?_⟩
      · obtain ⟨vs, q⟩ := rowHas b hb
        rw [q, (stay xx q (hok b hb).1 (hok b hb).2.2).1]
      · obtain ⟨vs, q⟩ := rowHas b hb
        exact ⟨(stay xx q (hok b hb).1 (hok b hb).2.2).2, (hok b hb).2⟩
    have rw2 : Rel aw S0 H0 (wipeD ρ vs) (L2.wipe σ vs) S2 H' := (rc.go x2).wipe vs
    refine ⟨wipeD ρ vs, S2, _, _, rw2, r2, hcomp, fun ρ3 q3 σ3 S3 H3 x3 rr3 st3 => ?_⟩
    have l3 : σ3.length = σ.length := st3.1.trans (L2.wipe_length _ _)
    refine ⟨wipe_same l3 hs st3.2, ρ3, S3, _, rr3, q3, fun b hb S4 H4 x4 => ?_⟩
    cases b with
    | false =>
      rw [if_neg Bool.false_ne_true] at hb ⊢
      exact ⟨S4, bs, ad, carry ((x2.trans x3).trans x4), by omega, hb⟩
    | true =>
      rw [if_pos rfl] at hb ⊢
      refine ⟨ρ3, S4, _, rr3.go x4, hb, fun e he a av S5 H5 x5 h1 h2 h3 h4 h5 h6 => ?_⟩
      have xx := (x2.trans x3).trans x4
      obtain ⟨w1, w2, w3, w4, w5, w6, w7⟩ := carry (xx.trans x5)
      have hHa : Hc a = none := xx.free h2
      have nap : a ≠ p := fun q => by rw [q, hav] at hHa; cases hHa
      have nab : a ∉ bs := fun q => by
        obtain ⟨vs, z⟩ := rowHas a q
        rw [z] at hHa; cases hHa
      have xo := w1.over (o := .lst ((bs ++ [a]).map V.ref)) hp w3 hn
      refine ⟨bs.map V.ref, w2, by have := it.size; simp; omega, S5, bs ++ [a], ad ++ [e], ⟨?_, ?_, w3, ?_, ?_, ?_, fun b hb => ?_⟩, by simp; omega, he⟩
      · rw [List.map_append] at xo; exact xo
      · rw [upd_same, List.map_append]; rfl
      · refine Paired.snoc (RowsR.ext w4 (Le.refl _) fun b hb => upd_ne fun q => hpb (by rw [← q]; exact hb)) ⟨av, ?_, h5, h6⟩
        rw [upd_ne nap]
        exact h4
      · exact List.nodup_append.mpr ⟨nd, by simp, fun b hb c hc q => by
          have : c = a := by simpa using hc
          subst this
          exact nab (by rw [← q]; exact hb)⟩
      · simp only [List.mem_append, List.mem_singleton, not_or]
        exact ⟨hpb, fun q => nap q.symm⟩
      · rcases List.mem_append.mp hb with hb | hb
        · exact w7 b hb
        · have : b = a := by simpa using hb
          subst this
          exact ⟨h1, xc.free hHa, h3⟩
  · have e : i = ds.length := by omega
    subst e
    rw [List.drop_length] at hcomp
    have hz : bs.length ≤ sizeLine := by have := it.size; omega
    refine .inl ⟨it.stop Sc Hc xc xc.wf, c _ hcomp (.ref p) (p :: bs) Sc Hc (x1.trans xc) ⟨p, bs, rfl, rfl, hav, hz, ra⟩ (List.nodup_cons.mpr ⟨hpb, nd⟩) fun b hb => ?_⟩
    rcases List.mem_cons.mp hb with hb | hb
    · rw [hb]; exact ⟨hSc, x1.free hp, hn⟩
    · obtain ⟨z1, z2, z3⟩ := hok b hb
      exact ⟨z1, x1.free z2, z3⟩
theorem dv_comp2 {elt tg iter : Expr} {ifs : List Expr} {scope : Scope} {own : List (Str × Nat)} {pos : Pos} (hc : X.calm = true) (hN : X.N.Nodup) (hi : DIo X tg iter ti) (ok : BlkOk X.N X.env.scope scope own)
    (hg : ∀ (s : Shared) (H : Hp) (C : Addr) (cl : List (Str × Addr)) (fp : List Addr), DG (X.blk s H scope (compEnvC scope cl C X.env) fp) tg is g) (ht : ∀ (s : Shared) (H : Hp) (C : Addr) (cl : List (Str × Addr)) (fp : List Addr), DTs (X.blk s H scope (compEnvC scope cl C X.env) fp) ifs tt)
    (he : ∀ (s : Shared) (H : Hp) (C : Addr) (cl : List (Str × Addr)) (fp : List Addr), DF (X.blk s H scope (compEnvC scope cl C X.env) fp) elt te) (his : ∀ i ∈ is, i ∈ own.map (·.2) := by decide) (hs : ∀ x, foldedSetIterable iter X.env x = pure x := by intro _; rfl) :
    DV X (.ListComp elt [⟨tg, iter, ifs, 0⟩] scope pos) (vComp2 ti g tt te (own.map (·.2))) :=
  ⟨fun aw S0 H0 => PE.imp (pe_lc hc hN (hi.run aw S0 H0) ok (fun s H C cl fp => (hg s H C cl fp).run aw S0 H0) (fun s H C cl fp => (ht s H C cl fp).run aw S0 H0) (fun s H C cl fp => (he s H C cl fp).run aw S0 H0) hs) (comp2_read his)⟩
theorem ds_setLc2 (i : Nat) {y : Str} {py : Pos} {elt tg iter : Expr} {ifs : List Expr} {scope : Scope} {own : List (Str × Nat)} {pos spos : Pos} (hc : X.calm = true) (hN : X.N.Nodup) (hy : X.N[i]? = some y) (hyl : X.env.scope.names.lookup y = some .local)
    (hsw : swapsWith (.ListComp elt [⟨tg, iter, ifs, 0⟩] scope pos) (some (.Name y py)) spos.line X.env = pure true) (hi : DIo X tg iter ti) (ok : BlkOk X.N X.env.scope scope own)
    (hg : ∀ (s : Shared) (H : Hp) (C : Addr) (cl : List (Str × Addr)) (fp : List Addr), DG (X.blk s H scope (compEnvC scope cl C X.env) fp) tg is g) (ht : ∀ (s : Shared) (H : Hp) (C : Addr) (cl : List (Str × Addr)) (fp : List Addr), DTs (X.blk s H scope (compEnvC scope cl C X.env) fp) ifs tt)
    (he : ∀ (s : Shared) (H : Hp) (C : Addr) (cl : List (Str × Addr)) (fp : List Addr), DF (X.blk s H scope (compEnvC scope cl C X.env) fp) elt te)
    (his : ∀ i ∈ is, i ∈ own.map (·.2) := by decide) (hs : ∀ x, foldedSetIterable iter X.env x = pure x := by intro _; rfl) :
    DS X (.Assign [.Name y py] (.ListComp elt [⟨tg, iter, ifs, 0⟩] scope pos) spos) (dSet i (vComp2 ti g tt te (own.map (·.2)))) :=
  ⟨fun aw S0 H0 => PS.imp (ps_setLc hc hN hy hyl hsw (hi.run aw S0 H0) ok (fun s H C cl fp => (hg s H C cl fp).run aw S0 H0) (fun s H C cl fp => (ht s H C cl fp).run aw S0 H0) (fun s H C cl fp => (he s H C cl fp).run aw S0 H0) hs)
    (asg_read fun σ H k h => comp2_read his σ H k h)⟩
end

/-! ### rows frozen -/
def dFreeze2 (i : Nat) (t : TDS) : TDS := fun K ρ => match ρ.getD i .no with
  | .ow2 xss => t K (ρ.set i (.sh (.lst (xss.map .lst))))
  | _ => False
/-- all of some objects shared -/
def shareAll (S H : Hp) (bs : List Addr) : Hp := fun b => if b ∈ bs then H b else S b
theorem shareAll_le {S H : Hp} {bs : List Addr} (h : ∀ b ∈ bs, S b = none) : Le S (shareAll S H bs) := fun b o e => by
  unfold shareAll
  rw [if_neg (fun m => by rw [h b m] at e; cases e)]
  exact e
theorem rows_reps {aw : Option Addr} {S H : Hp} {xss : List (List D)} {bs : List Addr} (r : RowsR aw S H xss bs) : ∀ {S' : Hp}, Le S S' → (∀ b ∈ bs, S' b = H b) → Reps aw S' (xss.map .lst) (bs.map V.ref) := by
  induction r with
  | nil => intro S' _ _; exact .nil
  | cons x t ih =>
    intro S' l h
    obtain ⟨vs, z1, z2, z3⟩ := x
    exact .cons ⟨_, vs, rfl, by rw [h _ List.mem_cons_self]; exact z1, z2, z3.mono l⟩ (ih l fun b hb => h b (List.mem_cons_of_mem _ hb))
theorem dss_freeze2 {X : Cx} {sts : List Stmt} {t : TDS} (i : Nat) (h : DSs X sts t) : DSs X sts (dFreeze2 i t) := ⟨fun aw S0 H0 => PSs.imp (h.run aw S0 H0) fun E σ H ⟨ρ, S, K, r, h, im⟩ => by
  unfold dFreeze2 at h
  split at h
  · rename_i xss hx
    obtain ⟨f, ow⟩ := r.own
    have hs := ow.slot i
    rw [hx] at hs
    obtain ⟨a, bs, e1, e2, h1, z, r1⟩ := hs
    have hok := fun b (hb : b ∈ a :: bs) => ow.ok i b (by rw [e2]; exact hb)
    have le := shareAll_le (H := H) fun b hb => (hok b hb).1
    have hl := r.len
    have x : Ext aw S0 H0 (shareAll S H (a :: bs)) H := by
      refine ⟨⟨fun b u e => ?_, fun b e => ?_⟩, r.ext.le.trans le, fun b u e => ?_, r.ext.keep⟩
      · unfold shareAll at e
        split at e
        · exact e
        · exact r.wf.sub b u e
      · obtain ⟨z1, ns, z2, z3⟩ := r.wf.well b e
        refine ⟨?_, ns, z2, z3⟩
        unfold shareAll
        rw [if_neg (fun m => (hok b m).2.2.1 e)]
        exact z1
      · unfold shareAll at e
        split at e
        · rename_i m; exact .inr (hok b m).2.1
        · exact r.ext.new b u e
    have hi : i < ρ.length := by
      rcases Nat.lt_or_ge i ρ.length with h | h
      · exact h
      · rw [List.getD_eq_getElem?_getD, List.getElem?_eq_none h] at hx; cases hx
    refine ⟨_, _, K, ⟨x, by simpa using hl, fun j => if j = i then [] else f j, ⟨fun j => ?_, fun j => ?_, fun j l b p q => ?_, fun j b m => ?_⟩⟩, h, im.le le⟩
    · rw [getD_set _ _ _ _ _ hi]
      by_cases e : j = i
      · subst e
        simp only [if_pos]
        refine ⟨rfl, .ref a, e1, a, bs.map V.ref, rfl, ?_, by rw [List.length_map]; exact z, rows_reps r1 le fun b hb => ?_⟩
        · unfold shareAll; rw [if_pos List.mem_cons_self]; exact h1
        · unfold shareAll; rw [if_pos (List.mem_cons_of_mem _ hb)]
      · simp only [if_neg e]; exact (ow.slot j).mono le fun _ _ => rfl
    · by_cases e : j = i
      · simp only [e, if_pos]; exact List.nodup_nil
      · simp only [if_neg e]; exact ow.nd j
    · by_cases e1 : j = i
      · simp only [e1, if_pos] at p; cases p
      · by_cases e2 : l = i
        · simp only [e2, if_pos] at q; cases q
        · simp only [if_neg e1, if_neg e2] at p q; exact ow.apart j l b p q
    · by_cases e : j = i
      · simp only [e, if_pos] at m; cases m
      · simp only [if_neg e] at m
        obtain ⟨z1, z2, z3, z4⟩ := ow.ok j b m
        refine ⟨?_, z2, z3, z4⟩
        unfold shareAll
        rw [if_neg (fun q => e (ow.apart j i b m (by rw [e2]; exact q)))]
        exact z1
  · exact h.elim⟩

/-! ### calls with keywords -/
section
variable {X : Cx} {e : Expr} {es : List Expr} {ta tk : TDA} {x : Str} {p pos : Pos} {sp : DSp} {k : Nat} {kws : List Keyword}
structure DK (X : Cx) (kws : List Keyword) (td : TDA) : Prop where
  run : ∀ aw S0 H0, PK X kws (liftA aw S0 H0 td)
theorem PK.imp {t t' : TA} (h : PK X kws t) (i : ∀ σ H k, t' σ H k → t σ H k) : PK X kws t' := ⟨fun pos pins s σ H Q I q => h.run pos pins s σ H Q I (i _ _ _ q)⟩
theorem dk_nil : DK X [] dNil := ⟨fun aw S0 H0 => PK.imp pk_nil fun σ H k ⟨ρ, S, Q, r, h, c⟩ => c _ h _ S H (.refl r.wf) .nil⟩
theorem dk_cons {te : TD} {tr : TDA} {nm : Option Str} {kpos : Pos} (ha : DE X e te) (hr : DK X kws tr) : DK X (⟨nm, e, kpos⟩ :: kws) (dCons te tr) :=
  ⟨fun aw S0 H0 => PK.imp (pk_cons (ha.run aw S0 H0) (hr.run aw S0 H0)) fun σ H k ⟨ρ, S, Q, r, h, c⟩ =>
    ⟨ρ, S, _, r, h, fun d hd v S1 H1 x1 r1 => ⟨ρ, S1, _, r.go x1, hd, fun ds hds vs S2 H2 x2 r2 => c _ hds _ S2 H2 (x1.trans x2) (.cons (r1.mono x2.le) r2)⟩⟩⟩
/-- how a permutation of two keywords, or one, is put in the parameters' order -/
structure KwOk (K : PySem.W.Frag) (x : Str) (st : Stmt) (ps ks : List Str) (g : List D → List D) : Prop where
  ex : ∃ (gv : List Value → List Value) (gV : List V → List V), (∀ (kV doc pm : Value) (an : Option Addr) (cdv ct : Value) (ws : List Value), (gv ws).length = ps.length → bindArgs (PySem.W.fnOf x x (defArgs st) (defBody st) (defScope st) .none kV doc pm an cdv ct) ⟨[], ks.zip ws⟩ = pure (ps.zip (gv ws))) ∧
    (∀ {zs : List V} {ws : List Value}, Vals zs ws → Vals (gV zs) (gv ws)) ∧ ∀ {aw : Option Addr} {S : Hp} {ds : List D} {zs : List V}, Reps aw S ds zs → Reps aw S (g ds) (gV zs)
def g2 (ds : List D) : List D := match ds with
  | [a, b] => [b, a]
  | _ => []
def g1 (ds : List D) : List D := match ds with
  | [a] => [a]
  | _ => []
def gId (ds : List D) : List D := match ds with
  | [a, b] => [a, b]
  | _ => []
theorem kw_two {K : PySem.W.Frag} {x : Str} {st : Stmt} {ps ks : List Str} (h : ∀ (kV doc pm : Value) (an : Option Addr) (cdv ct : Value) (a b : Value), bindArgs (PySem.W.fnOf x x (defArgs st) (defBody st) (defScope st) .none kV doc pm an cdv ct) ⟨[], ks.zip [a, b]⟩ = pure (ps.zip [b, a])) (hp : ps.length = 2) : KwOk K x st ps ks g2 := by
  refine ⟨fun ws => match ws with | [a, b] => [b, a] | _ => [], fun ws => match ws with | [a, b] => [b, a] | _ => [], fun kV doc pm an cdv ct ws hl => ?_, fun {zs ws} r => ?_, fun {aw S ds zs} r => ?_⟩
  · match ws, hl with
    | [a, b], _ => exact h kV doc pm an cdv ct a b
    | [], hl => simp [hp] at hl
    | [_], hl => simp [hp] at hl
    | _ :: _ :: _ :: _, hl => simp [hp] at hl
  · cases r with
    | nil => exact .nil
    | cons r1 r =>
      cases r with
      | nil => exact .nil
      | cons r2 r =>
        cases r with
        | nil => exact .cons r2 (.cons r1 .nil)
        | cons r3 r => exact .nil
  · match ds, zs, r with
    | [], _, r => cases r; exact .nil
    | [_], _, ⟨v, vr, e, r1, t⟩ => subst e; cases t; exact .nil
    | [_, _], _, ⟨v, vr, e, r1, v2, vr2, e2, r2, t⟩ => subst e e2; cases t; exact .cons r2 (.cons r1 .nil)
    | _ :: _ :: _ :: _, _, ⟨v, vr, e, r1, v2, vr2, e2, r2, v3, vr3, e3, r3, t⟩ => subst e e2 e3; exact .nil
theorem kw_id {K : PySem.W.Frag} {x : Str} {st : Stmt} {ps ks : List Str} (h : ∀ (kV doc pm : Value) (an : Option Addr) (cdv ct : Value) (a b : Value), bindArgs (PySem.W.fnOf x x (defArgs st) (defBody st) (defScope st) .none kV doc pm an cdv ct) ⟨[], ks.zip [a, b]⟩ = pure (ps.zip [a, b])) (hp : ps.length = 2) : KwOk K x st ps ks gId := by
  refine ⟨fun ws => match ws with | [a, b] => [a, b] | _ => [], fun ws => match ws with | [a, b] => [a, b] | _ => [], fun kV doc pm an cdv ct ws hl => ?_, fun {zs ws} r => ?_, fun {aw S ds zs} r => ?_⟩
  · match ws, hl with
    | [a, b], _ => exact h kV doc pm an cdv ct a b
    | [], hl => simp [hp] at hl
    | [_], hl => simp [hp] at hl
    | _ :: _ :: _ :: _, hl => simp [hp] at hl
  · cases r with
    | nil => exact .nil
    | cons r1 r =>
      cases r with
      | nil => exact .nil
      | cons r2 r =>
        cases r with
        | nil => exact .cons r1 (.cons r2 .nil)
        | cons r3 r => exact .nil
  · match ds, zs, r with
    | [], _, r => cases r; exact .nil
    | [_], _, ⟨v, vr, e, r1, t⟩ => subst e; cases t; exact .nil
    | [_, _], _, ⟨v, vr, e, r1, v2, vr2, e2, r2, t⟩ => subst e e2; cases t; exact .cons r1 (.cons r2 .nil)
    | _ :: _ :: _ :: _, _, ⟨v, vr, e, r1, v2, vr2, e2, r2, v3, vr3, e3, r3, t⟩ => subst e e2 e3; exact .nil
theorem kw_one {K : PySem.W.Frag} {x : Str} {st : Stmt} {ps ks : List Str} (h : ∀ (kV doc pm : Value) (an : Option Addr) (cdv ct : Value) (a : Value), bindArgs (PySem.W.fnOf x x (defArgs st) (defBody st) (defScope st) .none kV doc pm an cdv ct) ⟨[], ks.zip [a]⟩ = pure (ps.zip [a])) (hp : ps.length = 1) : KwOk K x st ps ks g1 := by
  refine ⟨fun ws => match ws with | [a] => [a] | _ => [], fun ws => match ws with | [a] => [a] | _ => [], fun kV doc pm an cdv ct ws hl => ?_, fun {zs ws} r => ?_, fun {aw S ds zs} r => ?_⟩
  · match ws, hl with
    | [a], _ => exact h kV doc pm an cdv ct a
    | [], hl => simp [hp] at hl
    | _ :: _ :: _, hl => simp [hp] at hl
  · cases r with
    | nil => exact .nil
    | cons r1 r =>
      cases r with
      | nil => exact .cons r1 .nil
      | cons r2 r => exact .nil
  · match ds, zs, r with
    | [], _, r => cases r; exact .nil
    | [_], _, ⟨v, vr, e, r1, t⟩ => subst e; cases t; exact .cons r1 .nil
    | _ :: _ :: _, _, ⟨v, vr, e, r1, v2, vr2, e2, r2, t⟩ => subst e e2; exact .nil
/-- f(k = e, ..), keywords alone -/
theorem de_callKw {st : Stmt} {ps ks : List Str} {j : Nat} {g : List D → List D} (hd : DDef X.prog X.w X.K X.mg X.base x st j ps sp) (hr : Room k X.A) (hj : j ≤ k) (hg : Gl X x) (hb : KwOk X.K x st ps ks g) (hps : ps ≠ [])
    (hkw : DK X kws tk) (hall : (backToKw pos (keywordEach kws X.env)).all (·.1.isSome) = true := by rfl) (hks : (backToKw pos (keywordEach kws X.env)).filterMap (·.1) = ks := by rfl) (hdb : (x == ("__debug__" : Str)) = false := by decide)
    (hpl : ((backTo pos (starEach [] X.env)).any (·.1) || (backToKw pos (keywordEach kws X.env)).any (·.1.isNone)) = false := by rfl) : DE X (.Call (.Name x p) [] kws pos) (fun ρ Q => tk ρ fun ds => sp (g ds) Q) := by
  obtain ⟨f, fd, F, hm, hk, Fn⟩ := hd.ex
  obtain ⟨gv, gV, h1, h2, h3⟩ := hb.ex
  have KB : KBinds X.K fd ps ks (fun us ws => match us with | [] => gv ws | _ => []) (fun us zs => match us with | [] => gV zs | _ => []) → DE X (.Call (.Name x p) [] kws pos) (fun ρ Q => tk ρ fun ds => sp (g ds) Q) := fun kb => by
    refine ⟨fun aw S0 H0 => ⟨fun pins s σ H q I ⟨ρ, S, Q, r, h, c⟩ => ?_⟩⟩
    refine wpAny_Call_Name_kw (ld_glob I hg hm ?_ hdb)
    refine PySem.W.callWith_KW0 (h₀ := X.base) I.ok.mod.kin hk hall (thn ((hkw.run aw S0 H0).run pos pins s σ H (fun zs H1 => liftSp sp (gV zs) H1 q E0) I ⟨ρ, S, _, r, h, fun ds hd zs S1 H1 x1 r1 => ?_⟩) fun ws s2 hz => ?_) hpl
    · exact ⟨aw, S1, g ds, Q, x1.wf, h3 r1, hd, fun d hq v S2 H2 x2 r2 => c d hq v S2 H2 (x1.trans x2) r2⟩
    · obtain ⟨zs, H2, I2, rz, hz⟩ := hz
      refine ⟨I2.kIn, ?_⟩
      rw [hks]
      exact run_fnk (us := []) (vs := []) F (hr.mono hj) kb pass0 I2 .nil rz hz
  refine KB ?_
  obtain ⟨oc, od, kV, doc, pm, an, cdv, ct, osl, rfl, lk, hcd⟩ := Fn.ex
  refine ⟨fun s us ws _ hl => ?_, fun ru rz => ?_⟩
  · cases us with
    | nil => exact .of_eq (h1 kV doc pm an cdv ct ws hl)
    | cons u us =>
      cases ps with
      | nil => exact absurd rfl hps
      | cons _ _ => cases hl
  · cases ru with
    | nil => exact h2 rz
    | cons _ _ => exact .nil
end
end DL
/-! DL: dicts; zip; index, pop, remove -/
namespace DL
open PySem PySem.Spec PyProof.Rows L2

def kval (kvs : List (Key × D)) (k : Key) : Option D := (kvs.find? fun p => decide (p.1 = k)).map (·.2)
def kput (kvs : List (Key × D)) (k : Key) (d : D) : List (Key × D) := if (kvs.any fun p => decide (p.1 = k)) = true then kvs.map (fun p => if p.1 = k then (p.1, d) else p) else kvs ++ [(k, d)]
def kmerge (kvs more : List (Key × D)) : List (Key × D) := more.foldl (fun acc p => kput acc p.1 p.2) kvs
def RepK (aw : Option Addr) (S : Hp) : List (Key × D) → List (Key × V) → Prop := Paired fun p q => p.1 = q.1 ∧ Rep aw S p.2 q.2
section
variable {aw : Option Addr} {S S' : Hp}
theorem RepK.mono (l : Le S S') {kvs : List (Key × D)} {ws : List (Key × V)} (h : RepK aw S kvs ws) : RepK aw S' kvs ws := Paired.imp h fun _ _ _ ⟨a, b⟩ => ⟨a, b.mono l⟩
theorem RepK.of : ∀ {kvs : List (Key × D)} {ws : List (Key × V)}, ws.map (·.1) = kvs.map (·.1) → Reps aw S (kvs.map (·.2)) (ws.map (·.2)) → RepK aw S kvs ws
  | [], [], _, _ => .nil
  | [], _ :: _, h, _ => by cases h
  | _ :: _, [], h, _ => by cases h
  | p :: kvs, q :: ws, h, ⟨v, vr, e, r, t⟩ => by
    simp only [List.map_cons, List.cons.injEq] at h e
    obtain ⟨rfl, rfl⟩ := e
    exact .cons ⟨h.1.symm, r⟩ (RepK.of h.2 t)
theorem RepK.keys {kvs : List (Key × D)} {ws : List (Key × V)} (h : RepK aw S kvs ws) : ws.map (·.1) = kvs.map (·.1) := by
  induction h with
  | nil => rfl
  | cons r _ ih => rw [List.map_cons, List.map_cons, ih, r.1]
theorem RepK.vals {kvs : List (Key × D)} {ws : List (Key × V)} (h : RepK aw S kvs ws) : Reps aw S (kvs.map (·.2)) (ws.map (·.2)) := by
  induction h with
  | nil => exact .nil
  | cons r _ ih => exact .cons r.2 ih
theorem RepK.val {kvs : List (Key × D)} {ws : List (Key × V)} (h : RepK aw S kvs ws) {k : Key} : ∀ {d : D}, kval kvs k = some d → ∃ v, valV ws k = some v ∧ Rep aw S d v := by
  induction h with
  | nil => intro d e; cases e
  | @cons p q kvs ws r t ih =>
    intro d e
    unfold kval at e
    rw [List.find?_cons] at e
    by_cases hk : p.1 = k
    · simp only [hk, decide_true] at e
      cases e
      exact ⟨q.2, valV_pos (r.1.symm.trans hk), r.2⟩
    · simp only [hk, decide_false] at e
      obtain ⟨v, h1, h2⟩ := ih (show kval kvs k = some d from e)
      exact ⟨v, by rw [valV_neg (fun z => hk (r.1.trans z))]; exact h1, h2⟩
theorem RepK.any {kvs : List (Key × D)} {ws : List (Key × V)} (h : RepK aw S kvs ws) (k : Key) : (ws.any fun p => decide (p.1 = k)) = kvs.any fun p => decide (p.1 = k) := by
  induction h with
  | nil => rfl
  | cons r _ ih => rw [List.any_cons, List.any_cons, ih, r.1]
theorem RepK.isSome {kvs : List (Key × D)} {ws : List (Key × V)} (h : RepK aw S kvs ws) (k : Key) : (valV ws k).isSome = kvs.any fun p => decide (p.1 = k) := by
  rw [← valV_any, h.any]
theorem RepK.put {kvs : List (Key × D)} {ws : List (Key × V)} (h : RepK aw S kvs ws) {k : Key} {d : D} {v : V} (r : Rep aw S d v) : RepK aw S (kput kvs k d) (putK ws k v) := by
  unfold kput putK
  rw [h.any]
  split
  · have key : ∀ {kvs : List (Key × D)} {ws : List (Key × V)}, RepK aw S kvs ws → RepK aw S (kvs.map fun p => if p.1 = k then (p.1, d) else p) (ws.map fun p => if p.1 = k then (p.1, v) else p) := by
      intro kvs ws h
      induction h with
      | nil => exact .nil
      | @cons a b _ _ q _ ih =>
        refine .cons ?_ ih
        by_cases e : a.1 = k
        · simp only [if_pos e, if_pos (q.1.symm.trans e)]
          exact ⟨q.1, r⟩
        · simp only [if_neg e, if_neg (fun z => e (q.1.trans z))]
          exact q
    exact key h
  · exact Paired.snoc h ⟨rfl, r⟩
theorem RepK.merge {more : List (Key × D)} {ms : List (Key × V)} (h : RepK aw S more ms) : ∀ {kvs : List (Key × D)} {ws : List (Key × V)}, RepK aw S kvs ws → RepK aw S (kmerge kvs more) (mergeK ws ms) := by
  induction h with
  | nil => intro kvs ws r; exact r
  | cons q _ ih =>
    intro kvs ws r
    unfold kmerge mergeK
    rw [List.foldl_cons, List.foldl_cons, ← q.1]
    exact ih (r.put q.2)
theorem RepK.length {kvs : List (Key × D)} {ws : List (Key × V)} (h : RepK aw S kvs ws) : kvs.length = ws.length := Paired.length h
theorem mkD_rep {kvs : List (Key × D)} {ws : List (Key × V)} {a : Addr} (h : RepK aw S kvs ws) (ha : S a = some (.dK ws)) (z : ws.length ≤ sizeLine) : Rep aw S (mkD kvs) (.ref a) := ⟨a, ws, rfl, ha, h.keys, z, h.vals⟩
theorem dct_rep {ks : List Key} {ds : List D} {v : V} (h : Rep aw S (.dct ks ds) v) : ∃ a ws, v = .ref a ∧ S a = some (.dK ws) ∧ ws.length ≤ sizeLine ∧ RepK aw S (ks.zip ds) ws := by
  obtain ⟨a, ws, e, h1, hk, z, r⟩ := h
  refine ⟨a, ws, e, h1, z, RepK.of ?_ ?_⟩
  · have hl := lenR r
    rw [List.length_map] at hl
    have hl2 := congrArg List.length hk
    rw [List.length_map] at hl2
    rw [List.map_fst_zip (by omega)]
    exact hk
  · have hl := lenR r
    rw [List.length_map] at hl
    have hl2 := congrArg List.length hk
    rw [List.length_map] at hl2
    rw [List.map_snd_zip (by omega)]
    exact r
end
theorem zip_mkD (kvs : List (Key × D)) : (kvs.map (·.1)).zip (kvs.map (·.2)) = kvs := by
  induction kvs with
  | nil => rfl
  | cons p kvs ih => rw [List.map_cons, List.map_cons, List.zip_cons_cons, ih]
theorem keyV {aw : Option Addr} {S : Hp} {d : D} {v : V} {k : Key} (h : keyD d = some k) (r : Rep aw S d v) : v = kV k := by
  cases d <;> cases h <;> cases r <;> rfl
theorem length_kput (kvs : List (Key × D)) (k : Key) (d : D) : (kput kvs k d).length ≤ kvs.length + 1 := by
  unfold kput
  split
  · rw [List.length_map]; omega
  · simp
section
variable {X : Cx} {a b : Expr} {ta tb : TD} {pos : Pos} {k : Nat}
/-- d[k] -/
def opDget : DOp := fun x y Q => match x with
  | .dct ks ds => match keyD y with
    | some q => match kval (ks.zip ds) q with
      | some d => Q d
      | none => False
    | none => False
  | _ => False
theorem de_dget (hr : Room k X.A) (ha : DE X a ta) (hb : DE X b tb) (hs : NoSl b := by intro _ _; rfl) : DE X (.Subscript a b pos) (dOp opDget ta tb) :=
  ⟨fun aw S0 H0 => PE.imp (pe_dget (room1 hr) (ha.run aw S0 H0) (hb.run aw S0 H0) hs) fun σ H k ⟨ρ, S, Q, r, h, c⟩ => ⟨ρ, S, _, r, h, fun d hd v S1 H1 x1 r1 => ⟨ρ, S1, _, r.go x1, hd, fun d' hd' v' S2 H2 x2 r2 => by
    unfold opDget at hd'
    split at hd'
    · split at hd'
      · rename_i q hq
        split at hd'
        · rename_i e he
          obtain ⟨p, ws, rfl, h1, z, rk⟩ := dct_rep (r1.mono x2.le)
          obtain ⟨w, hw, rw'⟩ := rk.val he
          rw [keyV hq r2]
          refine ⟨p, w, rfl, ?_, c _ hd' w S2 H2 (x1.trans x2) rw'⟩
          rw [← hw]
          exact DGet.k (x2.wf.sub _ _ h1)
        · exact hd'.elim
      · exact hd'.elim
    · exact hd'.elim⟩⟩⟩
/-- k in d, k not in d -/
def opDin (neg : Bool) : DOp := fun x y Q => match y with
  | .dct ks ds => match keyD x with
    | some q => Q (.bl (if neg then !((ks.zip ds).any fun p => decide (p.1 = q)) else (ks.zip ds).any fun p => decide (p.1 = q)))
    | none => False
  | _ => False
theorem din_read {ta tb : TD} {aw : Option Addr} {S0 H0 : Hp} : ∀ σ H k, lift aw S0 H0 (dOp (opDin false) ta tb) σ H k → tDIn (lift aw S0 H0 ta) (lift aw S0 H0 tb) σ H k :=
  fun σ H k ⟨ρ, S, Q, r, h, c⟩ => ⟨ρ, S, _, r, h, fun d hd v S1 H1 x1 r1 => ⟨ρ, S1, _, r.go x1, hd, fun d' hd' v' S2 H2 x2 r2 => by
    unfold opDin at hd'
    split at hd'
    · split at hd'
      · rename_i q hq
        obtain ⟨p, ws, rfl, h1, z, rk⟩ := dct_rep r2
        rw [keyV hq r1]
        refine ⟨p, valV ws q, rfl, DGet.k (x2.wf.sub _ _ h1), ?_⟩
        rw [rk.isSome]
        exact c _ hd' _ S2 H2 (x1.trans x2) rfl
      · exact hd'.elim
    · exact hd'.elim⟩⟩
theorem dnotin_read {ta tb : TD} {aw : Option Addr} {S0 H0 : Hp} : ∀ σ H k, lift aw S0 H0 (dOp (opDin true) ta tb) σ H k → tDNotIn (lift aw S0 H0 ta) (lift aw S0 H0 tb) σ H k :=
  fun σ H k ⟨ρ, S, Q, r, h, c⟩ => ⟨ρ, S, _, r, h, fun d hd v S1 H1 x1 r1 => ⟨ρ, S1, _, r.go x1, hd, fun d' hd' v' S2 H2 x2 r2 => by
    unfold opDin at hd'
    split at hd'
    · split at hd'
      · rename_i q hq
        obtain ⟨p, ws, rfl, h1, z, rk⟩ := dct_rep r2
        rw [keyV hq r1]
        refine ⟨p, valV ws q, rfl, DGet.k (x2.wf.sub _ _ h1), ?_⟩
        rw [rk.isSome]
        exact c _ hd' _ S2 H2 (x1.trans x2) rfl
      · exact hd'.elim
    · exact hd'.elim⟩⟩
theorem de_din (hr : Room k X.A) (ha : DE X a ta) (hb : DE X b tb) (hm : behindInMarks .In b = false := by rfl) : DE X (.Compare a [.In] [b] pos) (dOp (opDin false) ta tb) := ⟨fun aw S0 H0 => PE.imp (pe_cmp (pc_din (room1 hr) (ha.run aw S0 H0) (hb.run aw S0 H0)) hm) din_read⟩
theorem de_dnotin (hr : Room k X.A) (ha : DE X a ta) (hb : DE X b tb) (hm : behindInMarks .NotIn b = false := by rfl) : DE X (.Compare a [.NotIn] [b] pos) (dOp (opDin true) ta tb) := ⟨fun aw S0 H0 => PE.imp (pe_cmp (pc_dnotin (room1 hr) (ha.run aw S0 H0) (hb.run aw S0 H0)) hm) dnotin_read⟩
theorem dt_din (hr : Room k X.A) (ha : DE X a ta) (hb : DE X b tb) (hm : behindInMarks .In b = false := by rfl) : DT X (.Compare a [.In] [b] pos) (dT (dOp (opDin false) ta tb)) :=
  ⟨fun aw S0 H0 => PT.imp (pt_cmp (pc_din (room1 hr) (ha.run aw S0 H0) (hb.run aw S0 H0)) hm) fun σ H k h => by
    have h2 := tst (td := dOp (opDin false) ta tb) σ H k h
    exact din_read σ H _ h2⟩
theorem dt_dnotin (hr : Room k X.A) (ha : DE X a ta) (hb : DE X b tb) (hm : behindInMarks .NotIn b = false := by rfl) : DT X (.Compare a [.NotIn] [b] pos) (dT (dOp (opDin true) ta tb)) :=
  ⟨fun aw S0 H0 => PT.imp (pt_cmp (pc_dnotin (room1 hr) (ha.run aw S0 H0) (hb.run aw S0 H0)) hm) fun σ H k h => by
    have h2 := tst (td := dOp (opDin true) ta tb) σ H k h
    exact dnotin_read σ H _ h2⟩
end

/-! ### {k: v for ..} -/
def compK (g : TDG) (tt : TDT) (tk tv : TD) (ρ : DEnv) : List D → List (Key × D) → (List (Key × D) → Prop) → Prop
  | [], acc, Q => Q acc
  | d :: ds, acc, Q => g d ρ fun ρ2 => tt ρ2 fun b => if b = true then tk ρ2 fun y => tv ρ2 fun e => (match keyD y with
      | some q => compK g tt tk tv ρ ds (kput acc q e) Q
      | none => False) else compK g tt tk tv ρ ds acc Q
def dDictComp (ti : TDI) (g : TDG) (tt : TDT) (tk tv : TD) (vs : List Nat) : TD := fun ρ Q => ti ρ fun ds => compK g tt tk tv (wipeD ρ vs) ds [] fun kvs => Q (mkD kvs)
section
variable {X : Cx} {aw : Option Addr} {S0 H0 : Hp} {ti : TDI} {g : TDG} {tt : TDT} {tk tv : TD} {vs is : List Nat}
theorem dcomp_read (hs : ∀ i ∈ is, i ∈ vs) : ∀ σ H k, lift aw S0 H0 (dDictComp ti g tt tk tv vs) σ H k → tDc (liftO' aw S0 H0 ti) (liftG aw S0 H0 is g) (liftT aw S0 H0 tt) (lift aw S0 H0 tk) (lift aw S0 H0 tv) vs σ H k := by
  rintro σ H k ⟨ρ, S, Q, r, h, c⟩
  refine ⟨ρ, S, _, r, h, fun ds hd J S1 H1 x1 it p hp => ?_⟩
  have hS1 : S1 p = none := by
    cases q : S1 p with
    | none => rfl
    | some u => rw [x1.wf.sub p u q] at hp; cases hp
  have hn : aw ≠ some p := fun e => by
    obtain ⟨_, ns, z, _⟩ := x1.wf.well p e
    rw [z] at hp; cases hp
  refine ⟨fun i m Hc => m = ds.length - i ∧ i ≤ ds.length ∧ ∃ Sc av ad, Ext aw S1 H1 Sc Hc ∧ Hc p = some (.dK av) ∧ Sc p = none ∧ RepK aw Sc ad av ∧ av.length ≤ i ∧ compK g tt tk tv (wipeD ρ vs) (ds.drop i) ad (fun kvs => Q (mkD kvs)),
    ⟨ds.length, by simp, Nat.zero_le _, S1, [], [], (Ext.refl x1.wf).over hp hS1 hn, upd_same, hS1, .nil, Nat.le_refl _, hd⟩, ?_⟩
  rintro i m Hc ⟨rfl, hi, Sc, av, ad, xc, hav, hSc, ra, hla, hcomp⟩
  have rc : Rel aw S0 H0 ρ σ Sc Hc := (r.go x1).go xc
  by_cases hlt : i < ds.length
  · have hget : ds[i]? = some ds[i] := List.getElem?_eq_getElem hlt
    rw [List.drop_eq_getElem_cons hlt] at hcomp
    obtain ⟨hgo, hy⟩ := it.go Sc Hc xc xc.wf i _ hget
    refine .inr ⟨hgo, fun Hn => ∃ Sc av ad, Ext aw S1 H1 Sc Hn ∧ Hn p = some (.dK av) ∧ Sc p = none ∧ RepK aw Sc ad av ∧ av.length ≤ i + 1 ∧ compK g tt tk tv (wipeD ρ vs) (ds.drop (i + 1)) ad (fun kvs => Q (mkD kvs)),
      fun H' ⟨Sc, av, ad, hh⟩ => ⟨ds.length - (i + 1), by omega, rfl, hlt, Sc, av, ad, hh⟩, fun x H' y => ?_⟩
    obtain ⟨S2, x2, r2⟩ := hy x H' y
    have keepP : ∀ {S3 H3 : Hp}, Ext aw Sc Hc S3 H3 → H3 p = some (.dK av) ∧ S3 p = none := fun {S3 H3} xx => by
      refine ⟨xx.keep p _ hav hn, ?_⟩
      cases q : S3 p with
      | none => rfl
      | some u =>
        rcases xx.new p u q with z | z
        · rw [hSc] at z; cases z
        · rw [hav] at z; cases z
    have rw2 : Rel aw S0 H0 (wipeD ρ vs) (L2.wipe σ vs) S2 H' := (rc.go x2).wipe vs
    refine ⟨wipeD ρ vs, S2, _, _, rw2, r2, hcomp, fun ρ3 q3 σ3 S3 H3 x3 rr3 st3 => ?_⟩
    have l3 : σ3.length = σ.length := st3.1.trans (L2.wipe_length _ _)
    refine ⟨wipe_same l3 hs st3.2, ρ3, S3, _, rr3, q3, fun b hb S4 H4 x4 => ?_⟩
    cases b with
    | false =>
      rw [if_neg Bool.false_ne_true] at hb ⊢
      have xx := (x2.trans x3).trans x4
      obtain ⟨z1, z2⟩ := keepP xx
      exact ⟨S4, av, ad, xc.trans xx, z1, z2, ra.mono xx.le, by omega, hb⟩
    | true =>
      rw [if_pos rfl] at hb ⊢
      refine ⟨ρ3, S4, _, rr3.go x4, hb, fun y hy v S5 H5 x5 r5 => ⟨ρ3, S5, _, (rr3.go x4).go x5, hy, fun e he w S6 H6 x6 r6 => ?_⟩⟩
      split at he
      · rename_i q hq
        have xx := (((x2.trans x3).trans x4).trans x5).trans x6
        obtain ⟨z1, z2⟩ := keepP xx
        have rp := (ra.mono xx.le).put (k := q) r6
        refine ⟨av, q, keyV hq r5, z1, ?_, S6, putK av q w, kput ad q e, (xc.trans xx).over hp z2 hn, upd_same, z2, rp, ?_, he⟩
        · have := it.size
          omega
        · have := length_putK av q w
          omega
      · exact he.elim
  · have e : i = ds.length := by omega
    subst e
    rw [List.drop_length] at hcomp
    have hz : av.length ≤ sizeLine := by have := it.size; omega
    have x := ext_fresh (x1.trans xc) hSc (x1.free hp) hn hav
    exact .inl ⟨it.stop Sc Hc xc xc.wf, c _ hcomp (.ref p) _ Hc x (mkD_rep (ra.mono (le_upd hSc)) upd_same hz)⟩
theorem de_dictComp {kx vx tg iter : Expr} {ifs : List Expr} {scope : Scope} {own : List (Str × Nat)} {pos : Pos} (hc : X.calm = true) (hN : X.N.Nodup) (hi : DIo X tg iter ti) (ok : BlkOk X.N X.env.scope scope own)
    (hg : ∀ (s : Shared) (H : Hp) (C : Addr) (cl : List (Str × Addr)) (fp : List Addr), DG (X.blk s H scope (compEnvC scope cl C X.env) fp) tg is g) (ht : ∀ (s : Shared) (H : Hp) (C : Addr) (cl : List (Str × Addr)) (fp : List Addr), DTs (X.blk s H scope (compEnvC scope cl C X.env) fp) ifs tt)
    (hk : ∀ (s : Shared) (H : Hp) (C : Addr) (cl : List (Str × Addr)) (fp : List Addr), DE (X.blk s H scope (compEnvC scope cl C X.env) fp) kx tk) (hv : ∀ (s : Shared) (H : Hp) (C : Addr) (cl : List (Str × Addr)) (fp : List Addr), DE (X.blk s H scope (compEnvC scope cl C X.env) fp) vx tv)
    (his : ∀ i ∈ is, i ∈ own.map (·.2) := by decide) (hs : ∀ x, foldedSetIterable iter X.env x = pure x := by intro _; rfl) : DE X (.DictComp kx vx [⟨tg, iter, ifs, 0⟩] scope pos) (dDictComp ti g tt tk tv (own.map (·.2))) :=
  ⟨fun aw S0 H0 => PE.imp (pe_dc hc hN (hi.run aw S0 H0) ok (fun s H C cl fp => (hg s H C cl fp).run aw S0 H0) (fun s H C cl fp => (ht s H C cl fp).run aw S0 H0) (fun s H C cl fp => (hk s H C cl fp).run aw S0 H0) (fun s H C cl fp => (hv s H C cl fp).run aw S0 H0) hs) (dcomp_read his)⟩
end

/-! ### dict(a list of pairs) -/
def kvs? : List D → Option (List (Key × D))
  | [] => some []
  | .tup [a, b] :: r => match keyD a with
    | some q => (kvs? r).map ((q, b) :: ·)
    | none => none
  | _ :: _ => none
def spDict : DSp := fun ds Q => match ds with
  | [.lst xs] => match kvs? xs with
    | some kvs => Q (mkD (kmerge [] kvs))
    | none => False
  | _ => False
theorem kvs_reps {aw : Option Addr} {S : Hp} {K : PySem.W.Frag} {H : Hp} (l : Le S H) : ∀ {xs : List D} {vs : List V} {kvs : List (Key × D)}, kvs? xs = some kvs → Reps aw S xs vs → ∃ (ps : List Addr) (ws : List (Key × V)), vs = ps.map V.ref ∧ Paired (fun p kv => SqT K H p [kV kv.1, kv.2]) ps ws ∧ RepK aw S kvs ws
  | [], vs, kvs, h, r => by cases h; cases r; exact ⟨[], [], rfl, .nil, .nil⟩
  | d :: xs, vs, kvs, h, ⟨v, vr, e, rd, t⟩ => by
    subst e
    unfold kvs? at h
    split at h
    · rename_i z; cases z
    · rename_i a b r z
      cases z
      split at h
      · rename_i q hq
        rw [Option.map_eq_some_iff] at h
        obtain ⟨ks, h1, rfl⟩ := h
        obtain ⟨ps, ws, rfl, e2, e3⟩ := kvs_reps l h1 t
        obtain ⟨p, us, rfl, hp, z, u1, ur, rfl, r1, u2, ur2, rfl, r2, r3⟩ := rd
        cases r3
        rw [keyV hq r1] at hp
        exact ⟨p :: ps, (q, u2) :: ws, rfl, .cons (rdT (l.rd hp)) e2, .cons ⟨rfl, r2⟩ e3⟩
      · cases h
    · cases h
section
variable {X : Cx} {e : Expr} {ta : TDA} {p pos : Pos}
theorem de_dict (hc : X.calm = true) (hg : Gl X "dict") (hm : X.mg "dict" = none) (ha : DA X [e] ta) (he : starEach [e] X.env = (false, eval e X.env) :: starEach [] X.env := by rfl) (hpl : (backTo pos (starEach [] X.env)).any (·.1) = false := by rfl) : DE X (.Call (.Name "dict" p) [e] [] pos) (dCall spDict ta) :=
  de_callTy (call_dictP hc) (fun aw S H ds vs k Q w r h c => by
    unfold spDict at h
    split at h
    · split at h
      · rename_i kvs hk
        obtain ⟨v, vr, rfl, ⟨a, us, rfl, h1, z, r1⟩, t⟩ := r
        cases t
        obtain ⟨ps, ws, rfl, h2, h3⟩ := kvs_reps (K := X.K) w.sub hk r1
        refine ⟨a, ps, ws, rfl, .of (w.sub _ _ h1), h2, fun q hq => ?_⟩
        have x := (Ext.refl w).put (o := .dK (mergeK [] ws)) hq
        have hl : (mergeK [] ws).length ≤ sizeLine := by
          have := length_mergeK ws []
          have h4 := Paired.length h2
          rw [List.length_map] at z
          simp only [List.length_nil] at this
          omega
        exact c _ h _ _ _ x (mkD_rep ((RepK.merge h3 .nil).mono x.le) upd_same hl)
      · exact h.elim
    · exact h.elim) hg hm (by decide +kernel) ha (by decide) (by decide) he hpl

/-! ### zip -/
def zipD (xs ys : List D) : List D := List.zipWith (fun x y => D.tup [x, y]) xs ys
theorem zipD_get {xs ys : List D} {i : Nat} {d : D} (h : (zipD xs ys)[i]? = some d) : ∃ x y, xs[i]? = some x ∧ ys[i]? = some y ∧ d = .tup [x, y] := by
  unfold zipD at h
  rw [List.getElem?_zipWith] at h
  cases q : xs[i]? with
  | none => rw [q] at h; simp at h
  | some x =>
    cases q2 : ys[i]? with
    | none => rw [q, q2] at h; simp at h
    | some y =>
      rw [q, q2] at h
      simp at h
      exact ⟨x, y, rfl, rfl, h.symm⟩
theorem zipD_len (xs ys : List D) : (zipD xs ys).length = min xs.length ys.length := by unfold zipD; simp
theorem itok_zipL {aw : Option Addr} {K : PySem.W.Frag} {S : Hp} {a b : Addr} {vs ws : List V} {ds es : List D} (h : S a = some (.lst vs)) (h' : S b = some (.lst ws)) (z : vs.length ≤ sizeLine) (r : Reps aw S ds vs) (r' : Reps aw S es ws) : ItOk aw (Itz K a b) (zipD ds es) (fun S2 _ => Le S S2) where
  size := by rw [zipD_len, lenR r]; omega
  go := fun S2 H2 l w i d e => by
    obtain ⟨x0, y0, hx0, hy0, rfl⟩ := zipD_get e
    obtain ⟨v, hv, rv⟩ := r.get hx0
    obtain ⟨u, hu, ru⟩ := r'.get hy0
    have hs := SqL.of (K := K) (w.sub _ _ (l _ _ h))
    have hs' := SqL.of (K := K) (w.sub _ _ (l _ _ h'))
    refine ⟨⟨vs, ws, v, u, hs, hs', hv, hu⟩, fun x H' y => ?_⟩
    obtain ⟨T, x, y, rfl, hT, rfl, q1, q2⟩ := y
    have e1 := q1 vs hs
    have e2 := q2 ws hs'
    rw [hv] at e1
    rw [hu] at e2
    cases e1
    cases e2
    exact pair_new w hT (.cons (rv.mono l) (.cons (ru.mono l) .nil)) (by show 2 ≤ sizeLine; decide)
  stop := fun S2 H2 l w => ⟨vs, ws, .of (w.sub _ _ (l _ _ h)), .of (w.sub _ _ (l _ _ h')), by rw [zipD_len, lenR r, lenR r']; omega⟩
theorem itok_zipT {aw : Option Addr} {K : PySem.W.Frag} {S : Hp} {a b : Addr} {vs ws : List V} {ds es : List D} (h : Rd S a (.tup vs)) (h' : Rd S b (.tup ws)) (z : vs.length ≤ sizeLine) (r : Reps aw S ds vs) (r' : Reps aw S es ws) : ItOk aw (RZ.ItzT K a b) (zipD ds es) (fun S2 _ => Le S S2) where
  size := by rw [zipD_len, lenR r]; omega
  go := fun S2 H2 l w i d e => by
    obtain ⟨x0, y0, hx0, hy0, rfl⟩ := zipD_get e
    obtain ⟨v, hv, rv⟩ := r.get hx0
    obtain ⟨u, hu, ru⟩ := r'.get hy0
    have hs := rdT (K := K) (w.sub.rd (l.rd h))
    have hs' := rdT (K := K) (w.sub.rd (l.rd h'))
    refine ⟨⟨vs, ws, v, u, hs, hs', hv, hu⟩, fun x H' y => ?_⟩
    obtain ⟨T, x, y, rfl, hT, rfl, q1, q2⟩ := y
    have e1 := q1 vs hs
    have e2 := q2 ws hs'
    rw [hv] at e1
    rw [hu] at e2
    cases e1
    cases e2
    exact pair_new w hT (.cons (rv.mono l) (.cons (ru.mono l) .nil)) (by show 2 ≤ sizeLine; decide)
  stop := fun S2 H2 l w => ⟨vs, ws, rdT (w.sub.rd (l.rd h)), rdT (w.sub.rd (l.rd h')), by rw [zipD_len, lenR r, lenR r']; omega⟩
def dZip (ta : TDA) : TDI := fun ρ Q => ta ρ fun ds => match ds with
  | [.lst xs, .lst ys] => Q (zipD xs ys)
  | [.tup xs, .tup ys] => Q (zipD xs ys)
  | _ => False
theorem di_zip {a b : Expr} {elts : List Expr} {kk : Nat} {tpos : Pos} (hg : Gl X "zip") (hm : X.mg "zip" = none) (ha : DA X [a, b] ta) (hs : starEach [a, b] X.env = (false, eval a X.env) :: starEach [b] X.env := by rfl) (hs2 : (backTo pos (starEach [b] X.env)).any (·.1) = false := by rfl) :
    DI X (.Tuple elts kk tpos) (.Call (.Name "zip" p) [a, b] [] pos) (dZip ta) :=
  ⟨fun aw S0 H0 => PI.imp (RZ.pi_zipA hg hm (ha.run aw S0 H0) hs hs2) fun σ H R ⟨ρ, S, Q, r, h, c⟩ => ⟨ρ, S, _, r, h, fun ds hd vs S1 H1 x1 r1 => by
    split at hd
    · obtain ⟨v, vr, rfl, ⟨a1, us, rfl, h1, z, r1⟩, v2, vr2, rfl, ⟨a2, ws, rfl, h2, z2, r2⟩, t⟩ := r1
      cases t
      exact ⟨a1, a2, us, ws, rfl, .inl ⟨.of (x1.wf.sub _ _ h1), .of (x1.wf.sub _ _ h2), c _ hd _ S1 H1 x1 (itok_zipL h1 h2 z r1 r2)⟩⟩
    · obtain ⟨v, vr, rfl, ⟨a1, us, rfl, h1, z, r1⟩, v2, vr2, rfl, ⟨a2, ws, rfl, h2, z2, r2⟩, t⟩ := r1
      cases t
      exact ⟨a1, a2, us, ws, rfl, .inr ⟨rdT (x1.wf.sub.rd h1), rdT (x1.wf.sub.rd h2), c _ hd _ S1 H1 x1 (itok_zipT h1 h2 z r1 r2)⟩⟩
    · exact hd.elim⟩⟩
end
end DL
/-! DL: many targets, index, pop -/
namespace DL
open PySem PySem.Spec PyProof.Rows L2

/-! ### a, b, c = x, y, z -/
def setAll : List Nat → List SV → DEnv → DEnv
  | i :: is, s :: ss, ρ => setAll is ss (ρ.set i s)
  | _, _, ρ => ρ
def setAllV : List Nat → List V → L2.St → L2.St
  | i :: is, v :: vs, σ => setAllV is vs (σ.set i (some v))
  | _, _, σ => σ
section
variable {aw : Option Addr} {S0 H0 S H S' H' : Hp}
theorem Own.putAll : ∀ {is : List Nat} {ss : List SV} {vs : List V} {oss : List (List Addr)} {ρ : DEnv} {σ : L2.St} {f : Nat → List Addr}, Own aw H0 ρ σ S H f → ρ.length = σ.length → SlotsR aw S H ss vs oss → oss.flatten.Nodup →
    (∀ a ∈ oss.flatten, S a = none ∧ H0 a = none ∧ aw ≠ some a ∧ ∀ j, a ∉ f j) → (∀ i ∈ is, i < ρ.length) → ∃ f', Own aw H0 (setAll is ss ρ) (setAllV is vs σ) S H f'
  | [], _, _, _, ρ, σ, f, o, _, _, _, _, _ => ⟨f, by unfold setAll setAllV; exact o⟩
  | i :: is, [], vs, oss, ρ, σ, f, o, hl, h, nd, ok, hi => by
    obtain ⟨rfl, rfl⟩ := h
    exact ⟨f, o⟩
  | i :: is, s :: ss, vs, oss, ρ, σ, f, o, hl, h, nd, ok, hi => by
    obtain ⟨v, vr, os, or, rfl, rfl, h1, h2⟩ := h
    rw [List.flatten_cons, List.nodup_append] at nd
    have o1 := o.put hl (hi i (by simp)) h1 nd.1 fun a m => by
      obtain ⟨z1, z2, z3, z4⟩ := ok a (by simp [m])
      exact ⟨z1, z2, z3, fun j _ => z4 j⟩
    refine Own.putAll (is := is) (ss := ss) o1 (by simpa using hl) h2 nd.2.1 (fun a m => ?_) fun j hj => by simpa using hi j (by simp [hj])
    obtain ⟨z1, z2, z3, z4⟩ := ok a (by rw [List.flatten_cons]; exact List.mem_append_right _ m)
    refine ⟨z1, z2, z3, fun j => ?_⟩
    by_cases e : j = i
    · simp only [e, if_pos]
      exact fun q => nd.2.2 a q a m rfl
    · simp only [if_neg e]
      exact z4 j
theorem setAll_length : ∀ (is : List Nat) (ss : List SV) (ρ : DEnv), (setAll is ss ρ).length = ρ.length
  | [], _, _ => rfl
  | _ :: _, [], _ => rfl
  | i :: is, s :: ss, ρ => by rw [setAll, setAll_length is ss]; simp
theorem setAllV_length : ∀ (is : List Nat) (ss : List V) (ρ : L2.St), (setAllV is ss ρ).length = ρ.length
  | [], _, _ => rfl
  | _ :: _, [], _ => rfl
  | i :: is, s :: ss, ρ => by rw [setAllV, setAllV_length is ss]; simp
theorem Rel.putAll {ρ : DEnv} {σ : L2.St} (r : Rel aw S0 H0 ρ σ S H) {is : List Nat} {ss : List SV} {vs : List V} {oss : List (List Addr)} (x : Ext aw S H S' H') (hs : SlotsR aw S' H' ss vs oss) (nd : oss.flatten.Nodup)
    (ok : ∀ a ∈ oss.flatten, S' a = none ∧ H a = none ∧ aw ≠ some a) (hi : ∀ i ∈ is, i < ρ.length) : Rel aw S0 H0 (setAll is ss ρ) (setAllV is vs σ) S' H' := by
  obtain ⟨f, o⟩ := r.own
  obtain ⟨f', o'⟩ := (o.ext x).putAll (is := is) r.len hs nd (fun a m => by
    obtain ⟨h1, h2, h3⟩ := ok a m
    exact ⟨h1, r.ext.free h2, h3, fun j hj => (o.ok j a hj).2.2.2 h2⟩) hi
  exact ⟨r.ext.trans x, by rw [setAll_length, setAllV_length]; exact r.len, f', o'⟩
end
def dParN (is : List Nat) (tv : TDVs) : TDS := fun K ρ => tv ρ fun ss => ((is.all fun i => decide (i < ρ.length)) = true ∧ ss.length = is.length) ∧ K.nx (setAll is ss ρ)
theorem SlotsR.len {aw : Option Addr} {S H : Hp} : ∀ {ss : List SV} {vs : List V} {oss : List (List Addr)}, SlotsR aw S H ss vs oss → vs.length = ss.length
  | [], _, _, ⟨rfl, rfl⟩ => rfl
  | _ :: _, _, _, ⟨_, _, _, _, rfl, rfl, _, h⟩ => by simp [h.len]
/-- three plain locals, stored from the right -/
theorem ds_par3 {X : Cx} (i j l : Nat) {x y z : Str} {a b c : Expr} {tv : TDVs} {px py pz pt pos : Pos} {kt k2 pt2} (hc : X.calm = true) (hN : X.N.Nodup) (hi : X.N[i]? = some x) (hj : X.N[j]? = some y) (hl : X.N[l]? = some z) (hij : i ≠ j) (hil : i ≠ l) (hjl : j ≠ l)
    (hx : X.env.scope.names.lookup x = some .local) (hy : X.env.scope.names.lookup y = some .local) (hz : X.env.scope.names.lookup z = some .local) (ha : DVs X [a, b, c] tv)
    (hw : swappedStores [.Tuple [.Name x px, .Name y py, .Name z pz] kt pt] (.Tuple [a, b, c] k2 pt2) X.env = pure (some [x, y, z]))
    (hs : swapsWithSole [.Tuple [.Name x px, .Name y py, .Name z pz] kt pt] (.Tuple [a, b, c] k2 pt2) pos.line X.env = pure false := by rfl) :
    DS X (.Assign [.Tuple [.Name x px, .Name y py, .Name z pz] kt pt] (.Tuple [a, b, c] k2 pt2) pos) (dParN [i, j, l] tv) :=
  ⟨fun aw S0 H0 => PS.imp (ps_par3 hc hN hi hj hl hij hil hjl hx hy hz (ha.run aw S0 H0) hw hs) fun E σ H ⟨ρ, S, K, r, h, im⟩ => ⟨ρ, S, _, r, h, fun ss ⟨⟨h1, h2⟩, hn⟩ vs oss S1 H1 x1 r1 n1 ok1 => by
    have hlen := r1.len
    have hb : ∀ i' ∈ [i, j, l], i' < ρ.length := fun i' m => of_decide_eq_true (List.all_eq_true.mp h1 i' m)
    have rr := r.putAll (is := [i, j, l]) x1 r1 n1 ok1 hb
    rw [h2] at hlen
    match vs, hlen with
    | [u, v, w], _ => exact ⟨u, v, w, rfl, im.nx _ hn _ S1 H1 x1.le rr⟩⟩⟩
/-- names that are targets, from the left -/
def gNames (is : List Nat) : TGs := fun vs σ H Q => vs.length = is.length ∧ Q (setAllV is vs σ) H
structure NG (X : Cx) (es : List Expr) (is : List Nat) : Prop where
  run : PGs X es (gNames is)
theorem ng_nil {X : Cx} : NG X [] [] := ⟨PGs.imp pgs_nil fun vs σ H k ⟨h, q⟩ => by
  have e : vs = [] := List.eq_nil_of_length_eq_zero h
  subst e
  exact ⟨rfl, q⟩⟩
theorem ng_cons {X : Cx} (i : Nat) {x : Str} {pos : Pos} {es : List Expr} {is : List Nat} (hN : X.N.Nodup) (hi : X.N[i]? = some x) (hx : Loc X.env.scope x) (h2 : NG X es is)
    (hf : X.fn x = true ∨ X.env.scope.names.lookup x = some .local := by first | exact .inl rfl | exact .inr rfl | assumption) (hs : (assignEach (.Name x pos :: es) X.env).map (·.2) = assign (.Name x pos) X.env :: (assignEach es X.env).map (·.2) := by rfl) : NG X (.Name x pos :: es) (i :: is) :=
  ⟨PGs.imp (pgs_cons (pg_name hN hi hx hf) h2.run hs) fun vs σ H k ⟨h, q⟩ => by
    cases vs with
    | nil => cases h
    | cons v vs => exact ⟨v, vs, rfl, by simpa using h, q⟩⟩
/-- names in a tuple = a tuple, on the plain road -/
theorem ds_parN {X : Cx} {ts es : List Expr} {is : List Nat} {tv : TDVs} {kt k2 : Nat} {pt pt2 pos : Pos} {n : Nat} (hc : X.calm = true) (ha : DVs X es tv) (hg : NG X ts is) (hn : (assignEach ts X.env).length = n := by rfl) (hst : (assignEach ts X.env).findIdx? (·.1) = none := by rfl) (hni : n = is.length := by rfl) (hz : n ≤ 100 := by decide)
    (hs : swapsWithSole [.Tuple ts kt pt] (.Tuple es k2 pt2) pos.line X.env = pure false := by rfl) (hw : swappedStores [.Tuple ts kt pt] (.Tuple es k2 pt2) X.env = pure none := by rfl) (h1 : (assignEach [.Tuple ts kt pt] X.env).map (·.2) = [assign (.Tuple ts kt pt) X.env] := by rfl) :
    DS X (.Assign [.Tuple ts kt pt] (.Tuple es k2 pt2) pos) (dParN is tv) :=
  ⟨fun aw S0 H0 => PS.imp (ps_asg (pe_tup (ha.run aw S0 H0)) (pg_tup (n := n) hc hg.run hn hst) hs hw h1) fun E σ H ⟨ρ, S, K, r, h, im⟩ => ⟨ρ, S, _, r, h, fun ss ⟨⟨b1, b2⟩, hx⟩ vs oss S1 H1 x1 r1 n1 ok1 => by
    have hlen := r1.len
    have hsz : vs.length ≤ sizeLine := by rw [hlen, b2, ← hni, sizeLine_eq]; omega
    refine ⟨hsz, fun p hp => ⟨p, vs, rfl, .of upd_same, by rw [hlen, b2, hni], by rw [hlen, b2], ?_⟩⟩
    have hb : ∀ i' ∈ is, i' < ρ.length := fun i' m => of_decide_eq_true (List.all_eq_true.mp b1 i' m)
    have rr := r.putAll (is := is) x1 r1 n1 ok1 hb
    exact im.nx _ hx _ S1 _ x1.le (rr.go (by
      have x := (Ext.refl x1.wf).lay (o := .tup vs) hp
      exact x))⟩⟩
/-- a tuple of values to targets -/
def dAsg (te : TD) (g : TDG) : TDS := fun K ρ => te ρ fun d => g d ρ K.nx
theorem ds_asg {X : Cx} {tg e : Expr} {is : List Nat} {te : TD} {g : TDG} {pos : Pos} (he : DE X e te) (hg : DG X tg is g) (hs : swapsWithSole [tg] e pos.line X.env = pure false := by rfl) (hw : swappedStores [tg] e X.env = pure none := by rfl)
    (h1 : (assignEach [tg] X.env).map (·.2) = [assign tg X.env] := by rfl) : DS X (.Assign [tg] e pos) (dAsg te g) :=
  ⟨fun aw S0 H0 => PS.imp (ps_asg (he.run aw S0 H0) (hg.run aw S0 H0) hs hw h1) fun E σ H ⟨ρ, S, K, r, h, im⟩ => ⟨ρ, S, _, r, h, fun d hd v S1 H1 x1 rd => ⟨ρ, S1, d, _, r.go x1, rd, hd, fun ρ2 q2 σ2 S2 H2 x2 r2 _ => im.nx _ q2 _ S2 H2 (x1.le.trans x2.le) r2⟩⟩⟩

/-! ### index -/
section
variable {X : Cx} {o e : Expr} {to te : TD} {apos cpos : Pos}
theorem flat_ints (ys : List Int) : (ys.map V.int).all flatV = true := by
  rw [List.all_map]
  exact List.all_eq_true.mpr fun _ _ => rfl
theorem mt_tup_indexI : MtR X "tuple.index" (fun x xs H Q => ∃ p, ∃ ys : List Int, ∃ z j, x = .ref p ∧ xs = [.int z] ∧ SqT X.K H p (ys.map V.int) ∧ ys[j]? = some z ∧ (∀ m, m < j → ys[m]? ≠ some z) ∧ Q (.int (j : Nat)) H) := by
  intro pins s σ H x xs v us Q I rx rs h
  obtain ⟨p, ys, z, j, rfl, rfl, hq, hy, hno, q⟩ := h
  cases rx
  obtain ⟨u, rfl, t, rfl⟩ := vals1 rs
  obtain ⟨its, r, pl, hz⟩ := I.tuple hq
  obtain ⟨⟨cls, dd, dt, sl⟩, ho, hc, n, hd⟩ := pl
  simp only at hc hd
  subst hc
  subst hd
  have hl : its.toArray.size = ys.length := by rw [List.size_toArray, ← r.length, List.length_map]
  have hj : j < its.toArray.size := by rw [hl]; exact (List.getElem?_eq_some_iff.mp hy).1
  have at' : ∀ (m : Nat) (hm : m < its.toArray.size), ∃ y t', ys[m]? = some y ∧ its.toArray[m] = Value.int y t' := fun m hm => by
    have hm' : m < ys.length := by rw [← hl]; exact hm
    obtain ⟨w, hw, t', hw'⟩ := r.get (i := m) (x := .int ys[m]) (by simp [hm'])
    refine ⟨ys[m], t', List.getElem?_eq_getElem hm', ?_⟩
    have e := (List.getElem?_eq_some_iff.mp hw).2
    rw [← hw', ← e]
    simp
  refine call_meets PySem.F.slot_tuple_index ⟨_, ho, rfl⟩ PySem.F.entry_tuple_index (PySem.F.args_tuple_index_2 _ _) (TI.tuple_indexAt p its.toArray n dd sl (.int z t) (eqU (.int z)) j hj ?_ ?_)
    ⟨ho, fun w hw => mem_eqAt (x := .int z) ⟨t, rfl⟩ rfl r (flat_ints ys) w (by simpa using hw), ⟨.int (j : Nat), H, I.tok _, ⟨_, rfl⟩, q⟩⟩
  · obtain ⟨y, t', h1, h2⟩ := at' j hj
    rw [hy] at h1
    cases h1
    rw [h2]
    show (z == z) = true
    exact beq_self_eq_true z
  · intro m hm hmj
    obtain ⟨y, t', h1, h2⟩ := at' m hm
    rw [h2]
    show (y == z) = false
    rw [beq_eq_false_iff_ne]
    intro e
    subst e
    exact hno m hmj h1
/-- the first place, ints -/
def opIdx (xs : List D) : D → (D → Prop) → Prop := fun y Q => match y with
  | .int z => match ints? xs with
    | some ns => z ∈ ns ∧ Q (.int (ns.idxOf z : Nat))
    | none => False
  | _ => False
def dIndexT (to te : TD) : TD := fun ρ Q => to ρ fun x => match x with
  | .ft xs => te ρ fun y => opIdx xs y Q
  | _ => False
def dIndexL (to te : TD) : TD := fun ρ Q => to ρ fun x => match x with
  | .lst xs => te ρ fun y => opIdx xs y Q
  | _ => False
theorem idx_facts {ns : List Int} {z : Int} (h : z ∈ ns) : ns[ns.idxOf z]? = some z ∧ ∀ m, m < ns.idxOf z → ns[m]? ≠ some z := by
  have hl := List.idxOf_lt_length_iff.mpr h
  refine ⟨by rw [List.getElem?_eq_getElem hl]; simp, fun m hm e => ?_⟩
  obtain ⟨hm2, e⟩ := List.getElem?_eq_some_iff.mp e
  have := List.not_of_lt_findIdx (p := (· == z)) hm
  simp [e] at this
theorem opIdx_some {xs : List D} {y : D} {Q : D → Prop} (h : opIdx xs y Q) : ∃ ns z, ints? xs = some ns ∧ y = .int z ∧ z ∈ ns ∧ Q (.int (ns.idxOf z : Nat)) := by
  unfold opIdx at h
  split at h
  · split at h
    · exact ⟨_, _, by assumption, rfl, h.1, h.2⟩
    · exact h.elim
  · exact h.elim
/-- strs -/
def strs? : List D → Option (List Str)
  | [] => some []
  | .str i :: r => (strs? r).map (i :: ·)
  | _ :: _ => none
theorem strs?_map : ∀ ns : List Str, strs? (ns.map D.str) = some ns
  | [] => rfl
  | n :: ns => by rw [List.map_cons, strs?, strs?_map ns]; rfl
theorem strs?_reps {aw : Option Addr} {S : Hp} : ∀ {ds : List D} {vs : List V} {ns : List Str}, strs? ds = some ns → Reps aw S ds vs → vs = ns.map V.str
  | [], _, _, h, r => by cases h; cases r; rfl
  | d :: ds, _, ns, h, ⟨v, vr, e, r, t⟩ => by
    subst e
    unfold strs? at h
    split at h
    · rename_i z; cases z
    · rename_i i r' z
      cases z
      cases r
      rw [Option.map_eq_some_iff] at h
      obtain ⟨ms, h1, rfl⟩ := h
      rw [strs?_reps h1 t]; rfl
    · cases h
def opIdxS (xs : List D) : D → (D → Prop) → Prop := fun y Q => match y with
  | .str z => match strs? xs with
    | some ns => z ∈ ns ∧ Q (.int (ns.idxOf z : Nat))
    | none => False
  | _ => False
theorem opIdxS_some {xs : List D} {y : D} {Q : D → Prop} (h : opIdxS xs y Q) : ∃ ns z, strs? xs = some ns ∧ y = .str z ∧ z ∈ ns ∧ Q (.int (ns.idxOf z : Nat)) := by
  unfold opIdxS at h
  split at h
  · split at h
    · exact ⟨_, _, by assumption, rfl, h.1, h.2⟩
    · exact h.elim
  · exact h.elim
def dIndexS (to te : TD) : TD := fun ρ Q => to ρ fun x => match x with
  | .ft xs => te ρ fun y => opIdxS xs y Q
  | _ => False
theorem idx_factsS {ns : List Str} {z : Str} (h : z ∈ ns) : ns[ns.idxOf z]? = some z ∧ ∀ m, m < ns.idxOf z → ns[m]? ≠ some z := by
  have hl := List.idxOf_lt_length_iff.mpr h
  refine ⟨by rw [List.getElem?_eq_getElem hl]; simp, fun m hm e => ?_⟩
  obtain ⟨hm2, e⟩ := List.getElem?_eq_some_iff.mp e
  have := List.not_of_lt_findIdx (p := (· == z)) hm
  simp [e] at this
/-! a tuple that is known to have no dict -/
def FrT (H : Hp) (a : Addr) (xs : List V) : Prop := ∃ o, H a = some (.frz o (.tup xs)) ∧ o.dict = none ∧ o.cls = .type "tuple"
theorem FrT.sq {K : PySem.W.Frag} {H : Hp} {a : Addr} {xs : List V} (h : FrT H a xs) : SqT K H a xs := let ⟨o, h, _⟩ := h; .inl (.inr ⟨o, h⟩)
def tBMT {K : PySem.W.Frag} (r : V → List V → Hp → VK → Prop) (to : TE) (t : TA) : TE := fun σ H Q => to σ H fun x H1 => (∃ p ys, x = .ref p ∧ FrT H1 p ys) ∧ t σ H1 fun xs H2 => r x xs H2 Q
theorem pe_bmT {es : List Expr} {to : TE} {t : TA} {name : Str} {id : String} {r : V → List V → Hp → VK → Prop} (slot : Slot "tuple" name id) (hty : typeOf (.builtin id) = pure (.type "method_descriptor")) (hm : MtR X id r) (ho : PE X o to) (ha : PA X (e :: es) t)
    (hbase : attributeBase o name X.env (eval o X.env) = eval o X.env := by rfl)
    (hfew : ((backTo cpos (starEach (e :: es) X.env)).all (fun x => !x.1) && (backToKw cpos (keywordEach [] X.env)).all (fun x => x.1.isSome)
      && decide ((e :: es).length + ([] : List Keyword).length + (if ([] : List Keyword).isEmpty then 0 else 1) < 30)) = true := by rfl)
    (hline : (apos.endLine == cpos.line) = true := by rfl) (hs : starEach (e :: es) X.env = (false, eval e X.env) :: starEach es X.env := by rfl) (hplain : (backTo cpos (starEach es X.env)).any (·.1) = false := by rfl) :
    PE X (.Call (.Attribute o name apos) (e :: es) [] cpos) (tBMT (K := X.K) r to t) := by
  refine ⟨fun pins s σ H Q I h => ?_⟩
  refine wpAny_Call_method_late hbase hfew hline rfl (thn (ho.run pins s σ H _ I h) fun v s1 ⟨x, H1, I1, r1, ty, q1⟩ => ?_)
  obtain ⟨p, ys, rfl, ob, h1, h2, h3⟩ := ty
  cases r1
  have hg : s1.heap.get? p = some ob := (I1.hok p _ h1).1
  refine ⟨"tuple", id, PySem.F.plainAttrs_tuple, slot, hty, ⟨ob, hg, h3⟩, fun a e => ?_, ?_⟩
  · cases e
    exact ⟨ob, hg, h2⟩
  have hA := ha.run cpos pins s1 σ H1 _ I1 q1
  rw [hs] at hA ⊢
  refine Calls.callWith_builtin (by show (false || (backTo cpos (starEach es X.env)).any (·.1)) = false; rw [hplain] <;> rfl) (Calls.evalArgs_plain ?_)
  exact thn hA fun us s2 ⟨vs, H2, I2, r2, q2⟩ => hm pins s2 σ H2 (.ref p) vs (.ref p) us Q I2 rfl r2 q2
theorem call_tupleF : CallR X (.type "tuple") (fun xs H Q => ∃ p ys, xs = [.ref p] ∧ SqL X.K H p ys ∧ ∀ l ob, H l = none → ob.dict = none → ob.cls = .type "tuple" → Q (.ref l) (upd H l (.frz ob (.tup ys)))) := by
  intro pins s σ H xs us Q I r h
  obtain ⟨p, ys, rfl, hq, q⟩ := h
  obtain ⟨u, rfl, rx⟩ := vals1 r
  cases rx
  obtain ⟨its, r', pl, hz⟩ := I.list hq
  have hlen := r'.length
  refine call_tuple_list pl.isList (fun h' kp => ?_) (by simp only [List.size_toArray] <;> omega)
  have I1 : Inv X pins σ H { s with heap := h' } := I.kept (t' := s.toks) kp
  have I2 : Inv X pins σ (upd H h'.objs.size (.frz { cls := .type "tuple", data := .seq its.toArray } (.tup ys))) { s with heap := h'.push { cls := .type "tuple", data := .seq its.toArray } } :=
    I1.laid (t' := s.toks) (fun b o e => Heap.get?_push_of_some _ e) (Nat.le_refl _) (show ObjOk X.prog X.w _ _ _ (.frz _ (.tup ys)) from ⟨Heap.get?_push_size _ rfl, hz, its, r', IsTup.new _ _⟩)
  exact ⟨.ref h'.objs.size, _, I2, rfl, q _ _ (I1.hok.fresh (Nat.le_refl _)) rfl rfl⟩
def tTupF (t : TA) : TE := fun σ H Q => t σ H fun xs H1 => xs.length ≤ sizeLine ∧ ∀ p ob, H1 p = none → ob.dict = none → ob.cls = .type "tuple" → Q (.ref p) (upd H1 p (.frz ob (.tup xs)))
theorem pe_tupF {x1} {es : List Expr} {t : TA} {pos : Pos} (h : PA X es t) : PE X (.Tuple es x1 pos) (tTupF t) := by
  refine ⟨fun pins s σ H Q I hq => ?_⟩
  refine wpAny_Tuple_spliced (thn (h.run pos pins s σ H _ I hq) fun us s1 ⟨xs, H1, I1, r, z, q⟩ => ⟨by rw [← r.length]; exact z, ?_⟩)
  have hf : H1 s1.heap.objs.size = none := I1.hok.fresh (Nat.le_refl _)
  have hg : (s1.heap.push { cls := .type "tuple", data := .seq us.toArray }).get? s1.heap.objs.size = some { cls := .type "tuple", data := .seq us.toArray } := Heap.get?_push_size _ rfl
  exact ⟨.ref s1.heap.objs.size, upd H1 s1.heap.objs.size (.frz { cls := .type "tuple", data := .seq us.toArray } (.tup xs)), I1.laid (t' := s1.toks) (fun b u e => Heap.get?_push_of_some _ e) (Nat.le_refl _) (show ObjOk X.prog X.w _ _ _ (.frz _ (.tup xs)) from ⟨hg, z, us, r, ⟨_, hg, rfl, _, rfl⟩⟩), rfl, q _ _ hf rfl rfl⟩
/-- tuple(a list), known -/
def spTupleF : DSp := fun ds Q => match ds with
  | [.lst xs] => Q (.ft xs)
  | _ => False
theorem de_tupleF {p pos : Pos} {ta : TDA} (hg : Gl X "tuple") (hm : X.mg "tuple" = none) (ha : DA X [e] ta) (he : starEach [e] X.env = (false, eval e X.env) :: starEach [] X.env := by rfl) (hpl : (backTo pos (starEach [] X.env)).any (·.1) = false := by rfl) : DE X (.Call (.Name "tuple" p) [e] [] pos) (dCall spTupleF ta) :=
  de_callTy call_tupleF (fun aw S H ds vs k Q w r h c => by
    unfold spTupleF at h
    split at h
    · obtain ⟨v, vr, rfl, ⟨a, us, rfl, h1, z, r1⟩, t⟩ := r
      cases t
      refine ⟨a, us, rfl, .of (w.sub _ _ h1), fun l ob hl hd hc => ?_⟩
      have x := (Ext.refl w).put (o := .frz ob (.tup us)) hl
      exact c _ h _ _ _ x ⟨l, us, ob, rfl, ⟨upd_same, hd, hc⟩, z, r1.mono x.le⟩
    · exact h.elim) hg hm PyProof.Rows.boot_tuple ha (by decide) (by decide) he hpl
def dTupF (ta : TDA) : TD := fun ρ Q => ta ρ fun ds => ds.length ≤ sizeLine ∧ Q (.ft ds)
theorem de_tupF {es : List Expr} {n : Nat} {t : TDA} {pos : Pos} (h : DA X es t) : DE X (.Tuple es n pos) (dTupF t) :=
  ⟨fun aw S0 H0 => PE.imp (pe_tupF (h.run aw S0 H0)) fun σ H k ⟨ρ, S, Q, r, h, c⟩ => ⟨ρ, S, _, r, h, fun ds hd vs S1 H1 x1 r1 => ⟨by rw [← lenR r1]; exact hd.1, fun p ob hp h1 h2 => by
    have x := (Ext.refl x1.wf).put (o := .frz ob (.tup vs)) hp
    exact c _ hd.2 _ _ _ (x1.trans x) ⟨p, vs, ob, rfl, ⟨upd_same, h1, h2⟩, by rw [← lenR r1]; exact hd.1, r1.mono x.le⟩⟩⟩⟩
theorem ft_tup {aw : Option Addr} {S : Hp} {xs : List D} {v : V} (r : Rep aw S (.ft xs) v) : Rep aw S (.tup xs) v := by
  obtain ⟨a, vs, o, e, ⟨h, _⟩, z, r⟩ := r
  exact ⟨a, vs, e, .inr ⟨o, h⟩, z, r⟩
/-- a known tuple, read as a tuple -/
def dPl (te : TD) : TD := fun ρ Q => te ρ fun d => match d with
  | .ft xs => Q (.tup xs)
  | d => Q d
theorem de_pl {te : TD} (h : DE X e te) : DE X e (dPl te) := ⟨fun aw S0 H0 => PE.imp (h.run aw S0 H0) fun σ H k ⟨ρ, S, Q, r, h, c⟩ => ⟨ρ, S, _, r, h, fun d hd v S1 H1 x1 r1 => by
  split at hd
  · exact c _ hd v S1 H1 x1 (ft_tup r1)
  · exact c _ hd v S1 H1 x1 r1⟩⟩
theorem de_indexT (ho : DE X o to) (he : DE X e te) (hbase : attributeBase o "index" X.env (eval o X.env) = eval o X.env := by rfl)
    (hfew : ((backTo cpos (starEach [e] X.env)).all (fun x => !x.1) && (backToKw cpos (keywordEach [] X.env)).all (fun x => x.1.isSome) && decide ([e].length + ([] : List Keyword).length + (if ([] : List Keyword).isEmpty then 0 else 1) < 30)) = true := by rfl)
    (hline : (apos.endLine == cpos.line) = true := by rfl) (hs : starEach [e] X.env = (false, eval e X.env) :: starEach [] X.env := by rfl) (hplain : (backTo cpos (starEach [] X.env)).any (·.1) = false := by rfl) :
    DE X (.Call (.Attribute o "index" apos) [e] [] cpos) (dIndexT to te) :=
  ⟨fun aw S0 H0 => PE.imp (pe_bmT PySem.F.slot_tuple_index PySem.F.type_tuple_index mt_tup_indexI (ho.run aw S0 H0) (pa_cons (he.run aw S0 H0) pa_nil hs) hbase hfew hline hs hplain) fun σ H k ⟨ρ, S, Q, r, h, c⟩ =>
    ⟨ρ, S, _, r, h, fun x hx v S1 H1 x1 r1 => by
      split at hx
      · rename_i xs
        obtain ⟨a, vs, ob, rfl, ⟨ha, hd1, hc1⟩, hz, rs⟩ := r1
        refine ⟨⟨a, vs, rfl, ob, x1.wf.sub _ _ ha, hd1, hc1⟩, ρ, S1, _, r.go x1, hx, fun y hy w S2 H2 x2 r2 => ?_⟩
        obtain ⟨ns, z, hn, rfl, hm, q⟩ := opIdx_some hy
        cases r2
        have e := ints?_reps hn rs
        obtain ⟨f1, f2⟩ := idx_facts hm
        exact ⟨a, ns, z, _, rfl, rfl, (by rw [← e]; exact .inl (.inr ⟨ob, x2.wf.sub _ _ (x2.le _ _ ha)⟩)), f1, f2, c _ q _ S2 H2 (x1.trans x2) rfl⟩
      · exact hx.elim⟩⟩
theorem de_indexS (ho : DE X o to) (he : DE X e te) (hbase : attributeBase o "index" X.env (eval o X.env) = eval o X.env := by rfl)
    (hfew : ((backTo cpos (starEach [e] X.env)).all (fun x => !x.1) && (backToKw cpos (keywordEach [] X.env)).all (fun x => x.1.isSome) && decide ([e].length + ([] : List Keyword).length + (if ([] : List Keyword).isEmpty then 0 else 1) < 30)) = true := by rfl)
    (hline : (apos.endLine == cpos.line) = true := by rfl) (hs : starEach [e] X.env = (false, eval e X.env) :: starEach [] X.env := by rfl) (hplain : (backTo cpos (starEach [] X.env)).any (·.1) = false := by rfl) :
    DE X (.Call (.Attribute o "index" apos) [e] [] cpos) (dIndexS to te) :=
  ⟨fun aw S0 H0 => PE.imp (pe_bmT PySem.F.slot_tuple_index PySem.F.type_tuple_index mt_tup_index (ho.run aw S0 H0) (pa_cons (he.run aw S0 H0) pa_nil hs) hbase hfew hline hs hplain) fun σ H k ⟨ρ, S, Q, r, h, c⟩ =>
    ⟨ρ, S, _, r, h, fun x hx v S1 H1 x1 r1 => by
      split at hx
      · rename_i xs
        obtain ⟨a, vs, ob, rfl, ⟨ha, hd1, hc1⟩, hz, rs⟩ := r1
        refine ⟨⟨a, vs, rfl, ob, x1.wf.sub _ _ ha, hd1, hc1⟩, ρ, S1, _, r.go x1, hx, fun y hy w S2 H2 x2 r2 => ?_⟩
        obtain ⟨ns, z, hn, rfl, hm, q⟩ := opIdxS_some hy
        cases r2
        have e := strs?_reps hn rs
        obtain ⟨f1, f2⟩ := idx_factsS hm
        exact ⟨a, ns, z, _, rfl, rfl, (by rw [← e]; exact .inl (.inr ⟨ob, x2.wf.sub _ _ (x2.le _ _ ha)⟩)), f1, f2, c _ q _ S2 H2 (x1.trans x2) rfl⟩
      · exact hx.elim⟩⟩
theorem de_indexL (ho : DE X o to) (he : DE X e te) (hbase : attributeBase o "index" X.env (eval o X.env) = eval o X.env := by rfl)
    (hfew : ((backTo cpos (starEach [e] X.env)).all (fun x => !x.1) && (backToKw cpos (keywordEach [] X.env)).all (fun x => x.1.isSome) && decide ([e].length + ([] : List Keyword).length + (if ([] : List Keyword).isEmpty then 0 else 1) < 30)) = true := by rfl)
    (hline : (apos.endLine == cpos.line) = true := by rfl) (hs : starEach [e] X.env = (false, eval e X.env) :: starEach [] X.env := by rfl) (hplain : (backTo cpos (starEach [] X.env)).any (·.1) = false := by rfl) :
    DE X (.Call (.Attribute o "index" apos) [e] [] cpos) (dIndexL to te) :=
  ⟨fun aw S0 H0 => PE.imp (pe_bm PySem.F.plainAttrs_list PySem.F.slot_list_index PySem.F.type_list_index mt_index (ho.run aw S0 H0) (pa_cons (he.run aw S0 H0) pa_nil hs) hbase hfew hline hs hplain) fun σ H k ⟨ρ, S, Q, r, h, c⟩ =>
    ⟨ρ, S, _, r, h, fun x hx v S1 H1 x1 r1 => by
      split at hx
      · rename_i xs
        obtain ⟨a, vs, rfl, ha, hz, rs⟩ := r1
        refine ⟨.inl ⟨rfl, vs, .of (x1.wf.sub _ _ ha)⟩, ρ, S1, _, r.go x1, hx, fun y hy w S2 H2 x2 r2 => ?_⟩
        obtain ⟨ns, z, hn, rfl, hm, q⟩ := opIdx_some hy
        cases r2
        have e := ints?_reps hn rs
        obtain ⟨f1, f2⟩ := idx_facts hm
        refine ⟨a, vs, .int z, _, .int z, rfl, rfl, .of (x2.wf.sub _ _ (x2.le _ _ ha)), rfl, by rw [e]; exact flat_ints ns, by rw [e, List.getElem?_map, f1]; rfl, ?_, fun m z' hm' hz' => ?_, c _ q _ S2 H2 (x1.trans x2) rfl⟩
        · show (z == z) = true
          exact beq_self_eq_true z
        · rw [e, List.getElem?_map] at hz'
          cases q' : ns[m]? with
          | none => rw [q'] at hz'; cases hz'
          | some z2 =>
            rw [q'] at hz'
            cases hz'
            show (z2 == z) = false
            rw [beq_eq_false_iff_ne]
            intro e2
            subst e2
            exact f2 m hm' q'
      · exact hx.elim⟩⟩
/-! ### x.append(y.pop(i)); x.remove(z) -/
variable {e : Expr} {te : TD} {pos cpos2 apos2 : Pos}
def dAppPop (i j : Nat) (te : TD) : TDS := fun K ρ => match ρ.getD i .no, ρ.getD j .no with
  | .ow fs, .ow xs => te ρ fun d => match d with
    | .int n => match ixN xs.length n with
      | some m => match xs[m]? with
        | some y => (fs.length < sizeLine ∧ i ≠ j) ∧ K.nx ((ρ.set j (.ow (xs.eraseIdx m))).set i (.ow (fs ++ [y])))
        | none => False
      | none => False
    | _ => False
  | _, _ => False
theorem Reps.one {aw : Option Addr} {S : Hp} {ds : List D} {vs : List V} {i : Nat} {d : D} (r : Reps aw S ds vs) (h : ds[i]? = some d) : ∃ v, vs[i]? = some v ∧ Rep aw S d v := r.get h
theorem ds_appPop (i j : Nat) {x y : Str} {p p2 : Pos} (hN : X.N[i]? = some x) (hv : Vis X.env.scope x) (hN2 : X.N[j]? = some y) (hv2 : Vis X.env.scope y) (he : DE X e te) (hd : (x == ("__debug__" : Str)) = false := by decide) (hcd : (x == ("__classdict__" : Str)) = false := by decide) (hd2 : (y == ("__debug__" : Str)) = false := by decide) (hcd2 : (y == ("__classdict__" : Str)) = false := by decide)
    (hbase : attributeBase (.Name x p) "append" X.env (eval (.Name x p) X.env) = eval (.Name x p) X.env := by rfl) (hfew : ((backTo cpos (starEach [.Call (.Attribute (.Name y p2) "pop" apos2) [e] [] cpos2] X.env)).all (fun x => !x.1) && (backToKw cpos (keywordEach [] X.env)).all (fun x => x.1.isSome) && decide ([Expr.Call (.Attribute (.Name y p2) "pop" apos2) [e] [] cpos2].length + ([] : List Keyword).length + (if ([] : List Keyword).isEmpty then 0 else 1) < 30)) = true := by rfl)
    (hline : (apos.endLine == cpos.line) = true := by rfl) (hs : starEach [.Call (.Attribute (.Name y p2) "pop" apos2) [e] [] cpos2] X.env = (false, eval (.Call (.Attribute (.Name y p2) "pop" apos2) [e] [] cpos2) X.env) :: starEach [] X.env := by rfl) (hplain : (backTo cpos (starEach [] X.env)).any (·.1) = false := by rfl)
    (hbase2 : attributeBase (.Name y p2) "pop" X.env (eval (.Name y p2) X.env) = eval (.Name y p2) X.env := by rfl) (hfew2 : ((backTo cpos2 (starEach [e] X.env)).all (fun x => !x.1) && (backToKw cpos2 (keywordEach [] X.env)).all (fun x => x.1.isSome) && decide ([e].length + ([] : List Keyword).length + (if ([] : List Keyword).isEmpty then 0 else 1) < 30)) = true := by rfl)
    (hline2 : (apos2.endLine == cpos2.line) = true := by rfl) (hs2 : starEach [e] X.env = (false, eval e X.env) :: starEach [] X.env := by rfl) (hplain2 : (backTo cpos2 (starEach [] X.env)).any (·.1) = false := by rfl)
    (hsw : swapsWith (.Call (.Attribute (.Name x p) "append" apos) [.Call (.Attribute (.Name y p2) "pop" apos2) [e] [] cpos2] [] cpos) none pos.line X.env = pure false := by rfl) :
    DS X (.Expr (.Call (.Attribute (.Name x p) "append" apos) [.Call (.Attribute (.Name y p2) "pop" apos2) [e] [] cpos2] [] cpos) pos) (dAppPop i j te) :=
  ⟨fun aw S0 H0 => PS.imp (ps_expr (pe_bm PySem.F.plainAttrs_list PySem.F.slot_list_append PySem.F.type_list_append mt_append (pe_var hN hv hd hcd) (pa_cons (pe_bm PySem.F.plainAttrs_list PySem.F.slot_list_pop PySem.F.type_list_pop mt_popAt (pe_var hN2 hv2 hd2 hcd2) (pa_cons (he.run aw S0 H0) pa_nil hs2) hbase2 hfew2 hline2 hs2 hplain2) pa_nil hs) hbase hfew hline hs hplain) hsw) fun E σ H ⟨ρ, S, K, r, h, im⟩ => by
    unfold dAppPop at h
    split at h
    · rename_i fs xs hf hx
      obtain ⟨a, vs, e1, h1, z1, r1, h2, h3, mu⟩ := r.owned hf
      obtain ⟨b, ws, e2, g1, y1, s1, g2, g3, mv⟩ := r.owned hx
      refine ⟨_, e1, .inl ⟨rfl, vs, .of h1⟩, _, e2, .inl ⟨rfl, ws, .of g1⟩, ρ, S, _, r, h, fun d hd v S1 H1 x1 rd => ?_⟩
      split at hd
      · split at hd
        · rename_i n _ m hm
          split at hd
          · rename_i y hy
            obtain ⟨⟨hz, hij⟩, hd⟩ := hd
            cases rd
            obtain ⟨g4, mv⟩ := mv x1
            have s1' := s1.mono x1.le
            obtain ⟨w, hw, rw'⟩ := s1'.one hy
            rw [lenR s1] at hm
            have hseq := ixN_seq hm
            have rb := mv (s1'.eraseIdx m) (by have := List.length_eraseIdx_le (l := ws) m; omega)
            have hl := r.len
            have hlen : ws.length < 2 ^ 62 := by have := sizeLine_eq; omega
            refine ⟨b, ws, n, m, w, rfl, rfl, g4, by omega, by omega, hseq.1, hw, ?_⟩
            have hf2 : (ρ.set j (.ow (xs.eraseIdx m))).getD i .no = .ow fs := by
              rw [List.getD_eq_getElem?_getD, List.getElem?_set_ne (Ne.symm hij), ← List.getD_eq_getElem?_getD]; exact hf
            obtain ⟨a', vs', e1', h1', z1', r1', h2', h3', mu'⟩ := rb.owned hf2
            rw [e1] at e1'
            cases e1'
            obtain ⟨h4, mu'⟩ := mu' (.refl rb.wf)
            have hz' : vs'.length < sizeLine := by rw [← lenR r1']; exact hz
            exact ⟨a, vs', w, rfl, rfl, h1', hz', im.nx _ hd σ S1 _ x1.le (mu' (r1'.snoc rw') (by simp; omega))⟩
          · exact hd.elim
        · exact hd.elim
      · exact hd.elim
    · exact h.elim⟩
def dRemove (i : Nat) (te : TD) : TDS := fun K ρ => match ρ.getD i .no with
  | .ow xs => te ρ fun d => match d with
    | .int z => match ints? xs with
      | some ns => z ∈ ns ∧ K.nx (ρ.set i (.ow ((ns.erase z).map D.int)))
      | none => False
    | _ => False
  | _ => False
theorem Reps.ints {aw : Option Addr} {S : Hp} : ∀ ns : List Int, Reps aw S (ns.map D.int) (ns.map V.int)
  | [] => rfl
  | n :: ns => .cons rfl (Reps.ints ns)
theorem ds_remove (i : Nat) {x : Str} {p : Pos} (hN : X.N[i]? = some x) (hv : Vis X.env.scope x) (he : DE X e te) (hd : (x == ("__debug__" : Str)) = false := by decide) (hcd : (x == ("__classdict__" : Str)) = false := by decide)
    (hbase : attributeBase (.Name x p) "remove" X.env (eval (.Name x p) X.env) = eval (.Name x p) X.env := by rfl) (hfew : ((backTo cpos (starEach [e] X.env)).all (fun x => !x.1) && (backToKw cpos (keywordEach [] X.env)).all (fun x => x.1.isSome) && decide ([e].length + ([] : List Keyword).length + (if ([] : List Keyword).isEmpty then 0 else 1) < 30)) = true := by rfl)
    (hline : (apos.endLine == cpos.line) = true := by rfl) (hs : starEach [e] X.env = (false, eval e X.env) :: starEach [] X.env := by rfl) (hplain : (backTo cpos (starEach [] X.env)).any (·.1) = false := by rfl)
    (hsw : swapsWith (.Call (.Attribute (.Name x p) "remove" apos) [e] [] cpos) none pos.line X.env = pure false := by rfl) :
    DS X (.Expr (.Call (.Attribute (.Name x p) "remove" apos) [e] [] cpos) pos) (dRemove i te) :=
  ⟨fun aw S0 H0 => PS.imp (ps_expr (pe_bm PySem.F.plainAttrs_list PySem.F.slot_list_remove PySem.F.type_list_remove mt_remove (pe_var hN hv hd hcd) (pa_cons (he.run aw S0 H0) pa_nil hs) hbase hfew hline hs hplain) hsw) fun E σ H ⟨ρ, S, K, r, h, im⟩ => by
    unfold dRemove at h
    split at h
    · rename_i xs hx
      obtain ⟨a, vs, e1, h1, z1, r1, h2, h3, mu⟩ := r.owned hx
      refine ⟨_, e1, .inl ⟨rfl, vs, .of h1⟩, ρ, S, _, r, h, fun d hd v S1 H1 x1 rd => ?_⟩
      split at hd
      · split at hd
        · rename_i z _ ns hn
          cases rd
          obtain ⟨hm, hd⟩ := hd
          obtain ⟨h4, mu⟩ := mu x1
          have e := ints?_reps hn r1
          obtain ⟨f1, f2⟩ := idx_facts hm
          have ee : ns.eraseIdx (ns.idxOf z) = ns.erase z := (List.erase_eq_eraseIdx_of_idxOf rfl).symm
          refine ⟨a, ns, z, _, rfl, rfl, by rw [← e]; exact h4, f1, f2, im.nx _ hd σ S1 _ x1.le (mu ?_ ?_)⟩
          · rw [ee]; exact Reps.ints _
          · rw [List.length_map]
            have := List.length_eraseIdx_le (l := ns) (ns.idxOf z)
            have e3 : ns.length = vs.length := by rw [e, List.length_map]
            omega
        · exact hd.elim
      · exact hd.elim
    · exact h.elim⟩
end
end DL
/-! DL: a body that changes one list of ints, its first parameter -/
namespace DL
open PySem PySem.Spec PyProof.Rows L2

abbrev GW := List Int → L2.St → Int → Prop
abbrev GB := List Int → L2.St → Bool → Prop
def wr (g : GW) : TE := fun σ H k => ∃ (a : Addr) (ns : List Int) (i : Int), σ[0]? = some (some (.ref a)) ∧ H a = some (.lst (ns.map V.int)) ∧ g ns σ i ∧ k (.int i) H
def wrT (g : GB) : TT := fun σ H k => ∃ (a : Addr) (ns : List Int) (i : Bool), σ[0]? = some (some (.ref a)) ∧ H a = some (.lst (ns.map V.int)) ∧ g ns σ i ∧ k i H
structure WE (X : Cx) (e : Expr) (g : GW) : Prop where
  run : PE X e (wr g)
structure WT (X : Cx) (e : Expr) (g : GB) : Prop where
  run : PT X e (wrT g)
section
variable {X : Cx} {a b c e : Expr} {ga gb : GW} {pos p pos' : Pos}
def gC (z : Int) : GW := fun _ _ i => i = z
theorem we_int {i j pos} : WE X (.Constant (.int i) j pos) (gC i) := ⟨PE.imp pe_int fun σ H k ⟨a, ns, z, _, _, h, q⟩ => by cases h; exact q⟩
def gV (i : Nat) : GW := fun _ σ z => σ[i]? = some (some (.int z))
theorem we_var (i : Nat) {x : Str} (hN : X.N[i]? = some x := by rfl) (hv : Vis X.env.scope x := by first | exact Or.inl rfl | exact Or.inr (Or.inl rfl) | exact Or.inr (Or.inr rfl)) (hd : (x == ("__debug__" : Str)) = false := by decide)
    (hcd : (x == ("__classdict__" : Str)) = false := by decide) : WE X (.Name x pos) (gV i) := ⟨PE.imp (pe_var hN hv hd hcd) fun σ H k ⟨a, ns, z, _, _, h, q⟩ => ⟨_, h, q⟩⟩
def gI (gb : GW) : GW := fun ns σ z => ∃ j, gb ns σ j ∧ atI ns j = some z
theorem atI_map {ns : List Int} {j z : Int} (h : atI ns j = some z) : atI (ns.map V.int) j = some (.int z) := by
  unfold atI at h ⊢
  rw [List.length_map]
  cases q : ixN ns.length j with
  | none => rw [q] at h; cases h
  | some m =>
    rw [q] at h
    have h : ns[m]? = some z := h
    show (ns.map V.int)[m]? = _
    rw [List.getElem?_map, h]; rfl
theorem we_ix {x : Str} (hN : X.N[0]? = some x) (hv : Vis X.env.scope x) (hb : WE X b gb) (hd : (x == ("__debug__" : Str)) = false := by decide) (hcd : (x == ("__classdict__" : Str)) = false := by decide) (hs : PlainIx b := by intro _ _; rfl) : WE X (.Subscript (.Name x p) b pos) (gI gb) :=
  ⟨PE.imp (pe_ix ix_list (pe_var hN hv hd hcd) hb.run hs) fun σ H k ⟨a, ns, z, h1, h2, ⟨j, h3, h4⟩, q⟩ => ⟨_, h1, a, ns, j, h1, h2, h3, a, _, j, _, rfl, rfl, .of h2, atI_map h4, q⟩⟩
def gO (C : Int → Int → Prop) (f : Int → Int → Int) (ga gb : GW) : GW := fun ns σ z => ∃ x y, ga ns σ x ∧ gb ns σ y ∧ C x y ∧ z = f x y
theorem we_op {op : Operator} {C : Int → Int → Prop} {f : Int → Int → Int} (ho : OpR X (binaryOp op) (rI C fun i j => .int (f i j))) (ha : WE X a ga) (hb : WE X b gb) : WE X (.BinOp a op b pos) (gO C f ga gb) :=
  ⟨PE.imp (pe_op ho ha.run hb.run) fun σ H k ⟨p, ns, z, h1, h2, ⟨x, y, h3, h4, h5, h6⟩, q⟩ => ⟨p, ns, x, h1, h2, h3, p, ns, y, h1, h2, h4, x, y, rfl, rfl, h5, by subst h6; exact q⟩⟩
theorem we_op0 {op : Operator} {f : Int → Int → Int} (ho : OpR X (binaryOp op) (rI0 fun i j => .int (f i j))) (ha : WE X a ga) (hb : WE X b gb) : WE X (.BinOp a op b pos) (gO (fun _ _ => True) f ga gb) :=
  ⟨PE.imp (pe_op ho ha.run hb.run) fun σ H k ⟨p, ns, z, h1, h2, ⟨x, y, h3, h4, h5, h6⟩, q⟩ => ⟨p, ns, x, h1, h2, h3, p, ns, y, h1, h2, h4, x, y, rfl, rfl, by subst h6; exact q⟩⟩
theorem we_int1 (hg : Gl X "int") (hm : X.mg "int" = none) (ha : WE X e ga) (he : starEach [e] X.env = (false, eval e X.env) :: starEach [] X.env := by rfl) (hpl : (backTo pos (starEach [] X.env)).any (·.1) = false := by rfl) : WE X (.Call (.Name "int" p) [e] [] pos) ga :=
  ⟨PE.imp (pe_callTy call_int1 hg hm (by decide +kernel) (pa_cons ha.run pa_nil he) (by decide) (by decide) he hpl) fun σ H k ⟨p, ns, z, h1, h2, h3, q⟩ => ⟨p, ns, z, h1, h2, h3, .inl ⟨z, rfl, q⟩⟩⟩
def gL : GW := fun ns _ z => z = ns.length
theorem we_len {x : Str} (hN : X.N[0]? = some x) (hv : Vis X.env.scope x) (hg : Gl X "len") (hm : X.mg "len" = none) (hd : (x == ("__debug__" : Str)) = false := by decide) (hcd : (x == ("__classdict__" : Str)) = false := by decide)
    (he : starEach [.Name x pos'] X.env = (false, eval (.Name x pos') X.env) :: starEach [] X.env := by rfl) (hpl : (backTo pos (starEach [] X.env)).any (·.1) = false := by rfl) : WE X (.Call (.Name "len" p) [.Name x pos'] [] pos) gL :=
  ⟨PE.imp (pe_callB call_len_seq hg hm PySem.boot_len (pa_cons (pe_var hN hv hd hcd) pa_nil he) (by decide) (by decide) he hpl) fun σ H k ⟨p, ns, z, h1, h2, h3, q⟩ => ⟨_, h1, p, _, rfl, .inl (.of h2), by
    have h3 : z = _ := h3
    rw [List.length_map, ← h3]; exact q⟩⟩
def bC (f : Int → Int → Bool) (ga gb : GW) : GB := fun ns σ z => ∃ x y, ga ns σ x ∧ gb ns σ y ∧ z = f x y
theorem wt_cmp {op : CmpOp} {f : Int → Int → Bool} (ho : OpR X (compareOp op) (rI0 fun i j => .bl (f i j))) (ha : WE X a ga) (hb : WE X b gb) (hm : behindInMarks op b = false := by rfl) : WT X (.Compare a [op] [b] pos) (bC f ga gb) :=
  ⟨PT.imp (pt_cmpR ho ha.run hb.run hm) fun σ H k ⟨p, ns, z, h1, h2, ⟨x, y, h3, h4, h5⟩, q⟩ => ⟨p, ns, x, h1, h2, h3, p, ns, y, h1, h2, h4, x, y, rfl, rfl, _, rfl, by subst h5; exact q⟩⟩
theorem wt_eq (ha : WE X a ga) (hb : WE X b gb) (hm : behindInMarks .Eq b = false := by rfl) : WT X (.Compare a [.Eq] [b] pos) (bC (fun i j => decide (i = j)) ga gb) :=
  ⟨PT.imp (pt_cmpR op_eq ha.run hb.run hm) fun σ H k ⟨p, ns, z, h1, h2, ⟨x, y, h3, h4, h5⟩, q⟩ => ⟨p, ns, x, h1, h2, h3, p, ns, y, h1, h2, h4, rfl, _, rfl, by
    have e : decide (V.int x = V.int y) = decide (x = y) := by
      by_cases q : x = y
      · subst q; simp
      · rw [decide_eq_false q, decide_eq_false (fun z => q (by cases z; rfl))]
    subst h5; rw [e]; exact q⟩⟩
def bAnd (ga gb : GB) : GB := fun ns σ z => ∃ x, ga ns σ x ∧ if x = true then gb ns σ z else z = false
theorem wt_and {ga gb : GB} (ha : WT X a ga) (hb : WT X b gb) : WT X (.BoolOp .And [a, b] pos) (bAnd ga gb) :=
  ⟨PT.imp (pw_and ha.run (pw_and1 hb.run)).pt fun σ H k ⟨p, ns, z, h1, h2, ⟨x, h3, h4⟩, q⟩ => ⟨p, ns, x, h1, h2, h3, by
    cases x with
    | true =>
      rw [if_pos rfl] at h4 ⊢
      exact ⟨p, ns, z, h1, h2, h4, q⟩
    | false =>
      rw [if_neg Bool.false_ne_true] at h4 ⊢
      rw [← h4]; exact q⟩⟩

/-! statements -/
abbrev WN := List Int → L2.St → Prop
abbrev TW := WN → (Int → List Int → Prop) → List Int → L2.St → Prop
def liftW (t : TW) : TS := fun D σ H => ∃ (a : Addr) (ns : List Int) (nx : WN) (rt : Int → List Int → Prop), σ[0]? = some (some (.ref a)) ∧ H a = some (.lst (ns.map V.int)) ∧ t nx rt ns σ ∧
  (∀ ns' σ', nx ns' σ' → σ'[0]? = some (some (.ref a)) → D.nx σ' (upd H a (.lst (ns'.map V.int)))) ∧ ∀ z ns', rt z ns' → D.rt (.int z) (upd H a (.lst (ns'.map V.int)))
theorem upd_id {H : Hp} {a : Addr} {o : HO} (h : H a = some o) : upd H a o = H := by
  funext b
  unfold upd
  split
  · rename_i e; rw [e, h]
  · rfl
structure WS (X : Cx) (st : Stmt) (t : TW) : Prop where
  run : PS X st (liftW t)
structure WSs (X : Cx) (st : List Stmt) (t : TW) : Prop where
  run : PSs X st (liftW t)
def tN : TW := fun nx _ ns σ => nx ns σ
def tSq (t u : TW) : TW := fun nx rt ns σ => t (u nx rt) rt ns σ
theorem wss_nil : WSs X [] tN := ⟨PSs.imp pss_nil fun D σ H ⟨a, ns, nx, rt, h1, h2, h3, h4, h5⟩ => by
  have := h4 ns σ h3 h1
  rw [upd_id h2] at this
  exact this⟩
theorem wss_cons {st : Stmt} {rest : List Stmt} {t u : TW} (h1 : WS X st t) (h2 : WSs X rest u) : WSs X (st :: rest) (tSq t u) := ⟨PSs.imp (pss_cons h1.run h2.run) fun D σ H ⟨a, ns, nx, rt, h1, h2, h3, h4, h5⟩ =>
  ⟨a, ns, u nx rt, rt, h1, h2, h3, fun ns' σ' hu e => ⟨a, ns', nx, rt, e, upd_same, hu, fun ns2 σ2 q e2 => by rw [upd_upd]; exact h4 ns2 σ2 q e2, fun z ns2 q => by rw [upd_upd]; exact h5 z ns2 q⟩, h5⟩⟩
def tI (g : GB) (t u : TW) : TW := fun nx rt ns σ => ∃ b, g ns σ b ∧ if b = true then t nx rt ns σ else u nx rt ns σ
theorem ws_if {p q : List Stmt} {g : GB} {t u : TW} (hc : WT X c g) (h1 : WSs X p t) (h2 : WSs X q u) : WS X (.If c p q pos) (tI g t u) := ⟨PS.imp (ps_if hc.run h1.run h2.run) fun D σ H ⟨a, ns, nx, rt, h1, h2, ⟨b, h3, h6⟩, h4, h5⟩ => ⟨a, ns, b, h1, h2, h3, by
  cases b with
  | true =>
    rw [if_pos rfl] at h6 ⊢
    exact ⟨a, ns, nx, rt, h1, h2, h6, h4, h5⟩
  | false =>
    rw [if_neg Bool.false_ne_true] at h6 ⊢
    exact ⟨a, ns, nx, rt, h1, h2, h6, h4, h5⟩⟩⟩
def tR (g : GW) : TW := fun _ rt ns σ => ∃ z, g ns σ z ∧ rt z ns
theorem ws_ret (he : WE X e ga) : WS X (.Return (some e) pos) (tR ga) := ⟨PS.imp (ps_ret he.run) fun D σ H ⟨a, ns, nx, rt, h1, h2, ⟨z, h3, h6⟩, h4, h5⟩ => ⟨a, ns, z, h1, h2, h3, by
  have := h5 z ns h6
  rw [upd_id h2] at this
  exact this⟩⟩
def tV (i : Nat) (g : GW) : TW := fun nx _ ns σ => ∃ z, g ns σ z ∧ nx ns (σ.set i (some (.int z)))
theorem ws_set (i : Nat) {x : Str} (hi0 : i ≠ 0) (hN : X.N.Nodup) (hi : X.N[i]? = some x) (hx : Loc X.env.scope x) (he : WE X e ga) (hs : swapsWith e (some (.Name x pos')) pos.line X.env = pure false := by rfl)
    (hf : X.fn x = true ∨ X.env.scope.names.lookup x = some .local := by first | exact .inl rfl | exact .inr rfl | assumption) : WS X (.Assign [.Name x pos'] e pos) (tV i ga) :=
  ⟨PS.imp (ps_set hN hi hx he.run hs hf) fun D σ H ⟨a, ns, nx, rt, h1, h2, ⟨z, h3, h6⟩, h4, h5⟩ => ⟨a, ns, z, h1, h2, h3, by
    have := h4 ns _ h6 (by rw [List.getElem?_set_ne hi0]; exact h1)
    rw [upd_id h2] at this
    exact this⟩⟩
def tX (gi ga : GW) : TW := fun nx _ ns σ => ∃ z j m, ga ns σ z ∧ gi ns σ j ∧ ixN ns.length j = some m ∧ nx (ns.set m z) σ
theorem ws_setIx {i2 : Expr} {x : Str} {p2 : Pos} (hN : X.N[0]? = some x) (hv : Vis X.env.scope x) (hi : WE X i2 gb) (he : WE X e ga) (hd : (x == ("__debug__" : Str)) = false := by decide) (hcd : (x == ("__classdict__" : Str)) = false := by decide)
    (hs : swapsWithSole [.Subscript (.Name x p) i2 p2] e pos.line X.env = pure false := by rfl) (hw : swappedStores [.Subscript (.Name x p) i2 p2] e X.env = pure none := by rfl) (h1 : (assignEach [.Subscript (.Name x p) i2 p2] X.env).map (·.2) = [assign (.Subscript (.Name x p) i2 p2) X.env] := by rfl)
    (ha : ∀ v, assign (.Subscript (.Name x p) i2 p2) X.env v = (do let ov ← holding [v] (eval (.Name x p) X.env); let iv ← holding [v, ov] (eval i2 X.env); standAt p2; holding [v, ov, iv] (setItem ov iv v); release [v, ov, iv] []) := by intro _; rfl) :
    WS X (.Assign [.Subscript (.Name x p) i2 p2] e pos) (tX gb ga) :=
  ⟨PS.imp (ps_asg he.run (pg_sub (pe_var hN hv hd hcd) hi.run set_list ha) hs hw h1) fun D σ H ⟨a, ns, nx, rt, h1, h2, ⟨z, j, m, h3, h6, h7, h8⟩, h4, h5⟩ =>
    ⟨a, ns, z, h1, h2, h3, _, h1, a, ns, j, h1, h2, h6, a, _, j, m, rfl, rfl, h2, by rw [List.length_map]; exact h7, by
      have := h4 _ _ h8 h1
      rw [List.map_set] at this
      exact this⟩⟩
/-- xs[i], by values -/
theorem get_list : PGet X (rIxL X.K) := by
  intro pins s σ H x y v u Q I rx ry h
  obtain ⟨p, xs, i, z, rfl, rfl, hq, he, q⟩ := h
  cases rx
  obtain ⟨t, rfl⟩ := ry
  obtain ⟨its, r, pl, hz⟩ := I.list hq
  obtain ⟨j, h1, h2, h3, h4, h5⟩ := atI_get he
  obtain ⟨w, ew, rw'⟩ := r.get h2
  have hl := r.length
  have hn := line63
  have fin : EP X pins σ Q w s := ⟨z, H, I, rw', q⟩
  by_cases h0 : 0 ≤ i
  · have hj : i.toNat = j := by
      rw [seqIndex_of h0 h5] at h1
      exact Option.some.inj h1
    exact wpAny_getItem_list pl.isList h0 (by omega) (by rw [hj]; simpa using ew) fin
  · have hj : (i + (its.toArray.size : Int)).toNat = j := by
      rw [seqIndex_neg (by omega) h4] at h1
      rw [List.size_toArray, ← hl]
      exact Option.some.inj h1
    exact wpAny_getItem_list_neg pl.isList (by omega) (by rw [List.size_toArray] <;> omega) (by omega) (by rw [hj]; simpa using ew) fin
def tXa (gi ga : GW) : TW := fun nx _ ns σ => ∃ z j m o, gi ns σ j ∧ atI ns j = some o ∧ ga ns σ z ∧ ixN ns.length j = some m ∧ nx (ns.set m (o + z)) σ
theorem ws_aug {i2 : Expr} {x : Str} {p2 : Pos} (hN : X.N[0]? = some x) (hv : Vis X.env.scope x) (hi : WE X i2 gb) (he : WE X e ga) (hd : (x == ("__debug__" : Str)) = false := by decide) (hcd : (x == ("__classdict__" : Str)) = false := by decide)
    (ha : ∀ ov iv new, augStore i2 ov iv new = (do holding [new, ov, iv] (setItem ov iv new); release [new, ov, iv] []; pure .next) := by intros; rfl) : WS X (.AugAssign (.Subscript (.Name x p) i2 p2) .Add e pos) (tXa gb ga) :=
  ⟨PS.imp (ps_augS (pe_var hN hv hd hcd) hi.run get_list he.run ip_add set_list ha) fun D σ H ⟨a, ns, nx, rt, h1, h2, ⟨z, j, m, o, h3, h6, h7, h8, h9⟩, h4, h5⟩ =>
    ⟨_, h1, a, ns, j, h1, h2, h3, a, _, j, _, rfl, rfl, .of h2, atI_map h6, a, ns, z, h1, h2, h7, o, z, rfl, rfl, a, _, j, m, rfl, rfl, h2, by rw [List.length_map]; exact h8, by
      have := h4 _ _ h9 h1
      rw [List.map_set] at this
      exact this⟩⟩
end
end DL
/-! plain lemmas for readings -/
namespace DL
open PySem PySem.Spec PyProof.Rows L2

abbrev dCallKw (sp : DSp) (g : List D → List D) (ta : TDA) : TD := fun ρ Q => ta ρ fun ds => sp (g ds) Q

/-! ### the loops -/
theorem compD_fun {g : TDG} {tt : TDT} {te : TD} {ρ : DEnv} {f : D → D} {p : D → Bool} : ∀ {ds : List D} {acc : List D} {Q : List D → Prop},
    (∀ d ∈ ds, ∀ (K : D → Prop) (L : Prop), (if p d = true then K (f d) else L) → g d ρ fun ρ2 => tt ρ2 fun b => if b = true then te ρ2 K else L) → Q (acc ++ (ds.filter p).map f) → compD g tt te ρ ds acc Q
  | [], acc, Q, _, q => by simpa [compD] using q
  | d :: ds, acc, Q, h, q => by
    unfold compD
    refine h d List.mem_cons_self _ _ ?_
    by_cases e : p d = true
    · rw [if_pos e]
      refine compD_fun (fun d hd => h d (List.mem_cons_of_mem _ hd)) ?_
      rw [List.filter_cons_of_pos e] at q
      simpa using q
    · rw [if_neg e]
      refine compD_fun (fun d hd => h d (List.mem_cons_of_mem _ hd)) ?_
      rw [List.filter_cons_of_neg e] at q
      exact q
/-- no condition -/
theorem compD_map {g : TDG} {te : TD} {ρ : DEnv} {f : D → D} {ds : List D} {Q : List D → Prop} (h : ∀ d ∈ ds, ∀ K : D → Prop, K (f d) → g d ρ fun ρ2 => te ρ2 K) (q : Q (ds.map f)) : compD g dYes te ρ ds [] Q := by
  refine compD_fun (p := fun _ => true) (f := f) (fun d hd K L k => ?_) ?_
  · rw [if_pos rfl] at k
    exact h d hd K k
  · rw [List.filter_eq_self.mpr (fun _ _ => rfl)]; simpa using q
/-- by an invariant -/
theorem compD_ind {g : TDG} {tt : TDT} {te : TD} {ρ : DEnv} {Q : List D → Prop} (I : List D → List D → Prop) {all : List D} (h : ∀ done d rest, all = done ++ d :: rest → ∀ acc, I done acc → ∀ (K : D → Prop) (L : Prop), (∀ e, I (done ++ [d]) (acc ++ [e]) → K e) → (I (done ++ [d]) acc → L) →
    g d ρ fun ρ2 => tt ρ2 fun b => if b = true then te ρ2 K else L) (fin : ∀ acc, I all acc → Q acc) : ∀ {ds done acc : List D}, all = done ++ ds → I done acc → compD g tt te ρ ds acc Q
  | [], done, acc, e, i => by
    unfold compD
    rw [List.append_nil] at e
    subst e
    exact fin _ i
  | d :: ds, done, acc, e, i => by
    unfold compD
    exact h done d ds e acc i _ _ (fun x ix => compD_ind I h fin (by simpa using e) ix) (fun ix => compD_ind I h fin (by simpa using e) ix)
theorem compF_map {g : TDG} {te : TDA} {ρ : DEnv} {f : D → List D} : ∀ {ds : List D} {acc : List (List D)} {Q : List (List D) → Prop}, (∀ d ∈ ds, ∀ K : List D → Prop, K (f d) → g d ρ fun ρ2 => te ρ2 K) → Q (acc ++ ds.map f) → compF g dYes te ρ ds acc Q
  | [], acc, Q, _, q => by simpa [compF] using q
  | d :: ds, acc, Q, h, q => by
    unfold compF
    refine h d List.mem_cons_self _ (compF_map (fun d hd => h d (List.mem_cons_of_mem _ hd)) ?_)
    simpa using q
/-- a loop, by an invariant: what is done, the slots -/
theorem loopD_ind {g : TDG} {body : TDS} {K : DEnds} (I : List D → DEnv → Prop) {all : List D} (h : ∀ done d rest, all = done ++ d :: rest → ∀ ρ, I done ρ → ∀ N : DEnv → Prop, (∀ ρ', I (done ++ [d]) ρ' → N ρ') → g d ρ fun ρ' => body { K with nx := N, ct := N, bk := K.nx } ρ')
    (fin : ∀ ρ, I all ρ → K.nx ρ) : ∀ {ds done : List D} {ρ : DEnv}, all = done ++ ds → I done ρ → loopD g body K ds ρ
  | [], done, ρ, e, i => by
    unfold loopD
    rw [List.append_nil] at e
    subst e
    exact fin _ i
  | d :: ds, done, ρ, e, i => by
    unfold loopD
    exact h done d ds e ρ i _ fun ρ' i' => loopD_ind I h fin (by simpa using e) i'

/-! ### ints in a row -/
def iv (lo : Int) (n : Nat) : List Int := (List.range n).map fun k => lo + (k : Nat)
theorem rng_iv (lo : Int) (n : Nat) : rng lo n = (iv lo n).map D.int := by simp [rng, iv]
theorem mem_iv {lo x : Int} {n : Nat} : x ∈ iv lo n ↔ lo ≤ x ∧ x < lo + n := by
  unfold iv
  rw [List.mem_map]
  constructor
  · rintro ⟨k, hk, rfl⟩
    rw [List.mem_range] at hk
    omega
  · rintro ⟨h1, h2⟩
    exact ⟨(x - lo).toNat, by rw [List.mem_range]; omega, by omega⟩
theorem iv_length (lo : Int) (n : Nat) : (iv lo n).length = n := by simp [iv]
theorem iv_lt (lo : Int) (n : Nat) : (iv lo n).Pairwise (· < ·) := by
  unfold iv
  rw [List.pairwise_map]
  exact List.pairwise_lt_range.imp fun h => by omega
theorem iv_get {lo : Int} {n i : Nat} (h : i < n) : (iv lo n)[i]? = some (lo + (i : Nat)) := by
  unfold iv
  rw [List.getElem?_map, List.getElem?_range h]; rfl
/-- sorted lists of the same members are the same -/
theorem sorted_ext {α : Type} {r : α → α → Prop} (asym : ∀ a b, r a b → r b a → False) : ∀ {l m : List α}, l.Pairwise r → m.Pairwise r → (∀ x, x ∈ l ↔ x ∈ m) → l = m
  | [], [], _, _, _ => rfl
  | [], b :: m, _, _, h => absurd ((h b).mpr List.mem_cons_self) (by simp)
  | a :: l, [], _, _, h => absurd ((h a).mp List.mem_cons_self) (by simp)
  | a :: l, b :: m, hl, hm, h => by
    rw [List.pairwise_cons] at hl hm
    have e : a = b := by
      rcases List.mem_cons.mp ((h a).mp List.mem_cons_self) with e | e
      · exact e
      · rcases List.mem_cons.mp ((h b).mpr List.mem_cons_self) with e' | e'
        · exact e'.symm
        · exact (asym _ _ (hl.1 b e') (hm.1 a e)).elim
    subst e
    congr 1
    refine sorted_ext asym hl.2 hm.2 fun x => ⟨fun hx => ?_, fun hx => ?_⟩
    · rcases List.mem_cons.mp ((h x).mp (List.mem_cons_of_mem _ hx)) with e | e
      · subst e; exact (asym _ _ (hl.1 x hx) (hl.1 x hx)).elim
      · exact e
    · rcases List.mem_cons.mp ((h x).mpr (List.mem_cons_of_mem _ hx)) with e | e
      · subst e; exact (asym _ _ (hm.1 x hx) (hm.1 x hx)).elim
      · exact e
theorem lt_asym (a b : Int) (h : a < b) (k : b < a) : False := by omega
/-- sorted of a list that is a permutation of an ascending one -/
theorem sorted_of_perm {l m : List Int} (hp : m.Perm l) (hm : m.Pairwise (· ≤ ·)) {k : List Int} (hk : k.Perm l) (hs : k.Pairwise (· ≤ ·)) : m = k := by
  have p : m.Perm k := hp.trans hk.symm
  clear hp hk
  induction m generalizing k with
  | nil => exact (List.Perm.eq_nil p.symm).symm
  | cons a m ih =>
    cases k with
    | nil => exact absurd p.length_eq (by simp)
    | cons b k =>
      rw [List.pairwise_cons] at hm hs
      have e : a = b := by
        have h1 := p.mem_iff.mp (List.mem_cons_self (a := a) (l := m))
        have h2 := p.mem_iff.mpr (List.mem_cons_self (a := b) (l := k))
        rcases List.mem_cons.mp h1 with e | e
        · exact e
        · rcases List.mem_cons.mp h2 with e' | e'
          · exact e'.symm
          · have := hm.1 b e'
            have := hs.1 a e
            omega
      subst e
      rw [ih hm.2 hs.2 (List.Perm.cons_inv p)]
abbrev lexLt (p q : Int × Int) : Prop := p.1 < q.1 ∨ (p.1 = q.1 ∧ p.2 < q.2)
theorem lex_asym (a b : Int × Int) (h : lexLt a b) (k : lexLt b a) : False := by unfold lexLt at h k; omega
theorem sorted_pairs {l m : List (Int × Int)} (hp : m.Perm l) (hm : m.Pairwise lexLe) {k : List (Int × Int)} (hk : k.Perm l) (hs : k.Pairwise lexLe) : m = k := by
  have p : m.Perm k := hp.trans hk.symm
  clear hp hk
  induction m generalizing k with
  | nil => exact (List.Perm.eq_nil p.symm).symm
  | cons a m ih =>
    cases k with
    | nil => exact absurd p.length_eq (by simp)
    | cons b k =>
      rw [List.pairwise_cons] at hm hs
      have e : a = b := by
        have h1 := p.mem_iff.mp (List.mem_cons_self (a := a) (l := m))
        have h2 := p.mem_iff.mpr (List.mem_cons_self (a := b) (l := k))
        rcases List.mem_cons.mp h1 with e | e
        · exact e
        · rcases List.mem_cons.mp h2 with e' | e'
          · exact e'.symm
          · have h3 := hm.1 b e'
            have h4 := hs.1 a e
            unfold lexLe at h3 h4
            exact Prod.ext (by omega) (by omega)
      subst e
      rw [ih hm.2 hs.2 (List.Perm.cons_inv p)]
theorem ints?_all {ds : List D} {ns : List Int} (h : ints? ds = some ns) : ds = ns.map D.int := by
  induction ds generalizing ns with
  | nil => cases h; rfl
  | cons d ds ih =>
    cases d with
    | int i =>
      rw [ints?, Option.map_eq_some_iff] at h
      obtain ⟨ms, h1, rfl⟩ := h
      rw [ih h1]; rfl
    | _ => cases h
end DL
/-! what the functions of the text promise, and that their readings keep it -/
namespace DL
open PySem PySem.Spec PyProof.Rows L2

abbrev startN (n : Nat) (ds : List D) : DEnv := ds.map SV.sh ++ List.replicate (n - ds.length) SV.no
theorem gd0 {x d : SV} {xs : List SV} : (x :: xs).getD 0 d = x := rfl
theorem gdS {x d : SV} {xs : List SV} {n : Nat} : (x :: xs).getD (n + 1) d = xs.getD n d := rfl
theorem st0 {x y : SV} {xs : List SV} : (x :: xs).set 0 y = y :: xs := rfl
theorem stS {x y : SV} {xs : List SV} {n : Nat} : (x :: xs).set (n + 1) y = x :: xs.set n y := rfl
theorem opIx20 {a b : D} {Q : D → Prop} : opIx (.tup [a, b]) (.int 0) Q = Q a := rfl
theorem opIx21 {a b : D} {Q : D → Prop} : opIx (.tup [a, b]) (.int 1) Q = Q b := rfl
def gD (n : Nat) (es : List (Int × Int)) : D := .tup [.int n, .tup (es.map pairD)]
theorem opIxG0 {n : Nat} {es : List (Int × Int)} {Q : D → Prop} : opIx (gD n es) (.int 0) Q = Q (.int n) := rfl
theorem opIxG1 {n : Nat} {es : List (Int × Int)} {Q : D → Prop} : opIx (gD n es) (.int 1) Q = Q (.tup (es.map pairD)) := rfl
abbrev endR (Q : D → Prop) : DEnds := { nx := fun _ => Q .non, rt := Q }
/-- no known tuple in it, no dict, no well -/
def plainD : Nat → D → Bool
  | 0, _ => false
  | n + 1, d => match d with
    | .non => true
    | .bl _ => true
    | .int _ => true
    | .str x => PyData.canLay0 (.str x)
    | .tup xs => xs.all (plainD n)
    | .lst xs => xs.all (plainD n)
    | _ => false

def intOnly : D → Bool
  | .int _ => true
  | _ => false
def sp_is_integer : DSp := fun ds Q => match ds with
  | [d] => Q (.bl (intOnly d))
  | _ => False
def t_is_integer : TDS := (dSeqS (dRet (dAndV (dIs isInt (dVar 0)) (dNotV (dIs isBool (dVar 0))))) dNext)
theorem rd_is_integer (ds : List D) (Q : D → Prop) (h : sp_is_integer ds Q) : t_is_integer (endR Q) (startN 1 ds) := by
  match ds, h with
  | [d], h => cases d <;> exact h
def isNat : D → Bool
  | .int i => decide (0 ≤ i)
  | _ => false
def sp_is_natural : DSp := fun ds Q => match ds with
  | [d] => Q (.bl (isNat d))
  | _ => False
def t_is_natural : TDS := (dSeqS (dRet (dAndV (dCall sp_is_integer (dCons (dVar 0) dNil)) (dOp opGe (dVar 0) (dC (.int 0))))) dNext)
theorem rd_is_natural (ds : List D) (Q : D → Prop) (h : sp_is_natural ds Q) : t_is_natural (endR Q) (startN 1 ds) := by
  match ds, h with
  | [d], h => cases d <;> exact h
/-! all of a list of truths -/
theorem all_reads {g : TDG} {te : TD} {ρ : DEnv} {p : D → Bool} {ds : List D} {Q : D → Prop} (h : ∀ d ∈ ds, ∀ K : D → Prop, K (.bl (p d)) → g d ρ fun ρ2 => te ρ2 K) (q : Q (.bl (ds.all p))) :
    compD g dYes te ρ ds [] fun xs => (spBools fun bs => bs.all id) [.lst xs] Q := by
  refine compD_map (f := fun d => .bl (p d)) h ?_
  show (match bls? (ds.map fun d => .bl (p d)) with | some bs => Q (.bl (bs.all id)) | none => False)
  have e : (ds.map fun d => D.bl (p d)) = (ds.map p).map D.bl := by simp
  rw [e, bls?_map]
  show Q (.bl ((ds.map p).all id))
  rw [List.all_map]
  exact q
def areNats : D → Bool
  | .tup xs => xs.all isNat
  | _ => false
def noFt : D → Bool
  | .ft _ => false
  | _ => true
def sp_are_naturals : DSp := fun ds Q => match ds with
  | [d] => noFt d = true ∧ Q (.bl (areNats d))
  | _ => False
def t_are_naturals : TDS := (dSeqS (dRet (dAndV (dIs isTup (dVar 0)) (dCall (spBools fun bs => bs.all id) (dCons (dFr (dComp (dSeq (dVar 0)) (gN 1) dYes (dCall sp_is_natural (dCons (dVar 1) dNil)) [1])) dNil)))) dNext)
theorem rd_are_naturals (ds : List D) (Q : D → Prop) (h : sp_are_naturals ds Q) : t_are_naturals (endR Q) (startN 2 ds) := by
  match ds, h with
  | [d], ⟨h0, h⟩ =>
    cases d with
    | tup xs => exact all_reads (p := isNat) (fun d _ K k => k) h
    | ft xs => cases h0
    | _ => exact h

theorem eokd_int (i : Int) : eokd 60 (.int i) = true := rfl
theorem deq_int (i j : Int) : deq (.int i) (.int j) = decide (i = j) := by
  show (i == j) = _
  by_cases h : i = j
  · subst h; simp
  · rw [decide_eq_false h]; simpa using h
theorem ne_int {i j : Int} {Q : D → Prop} (h : Q (.bl (decide (i ≠ j)))) : opNe (.int i) (.int j) Q := by
  refine ⟨⟨rfl, rfl⟩, ?_⟩
  rw [deq_int]
  rw [decide_not] at h
  exact h
theorem eq_int {i j : Int} {Q : D → Prop} (h : Q (.bl (decide (i = j)))) : opEq (.int i) (.int j) Q := by
  refine ⟨⟨rfl, rfl⟩, ?_⟩
  rw [deq_int]
  exact h
def isPair (n : Int) : D → Bool
  | .tup [.int i, .int j] => decide (0 ≤ i) && decide (0 ≤ j) && decide (i < j) && decide (j < n)
  | _ => false
def sp_is_pair : DSp := fun ds Q => match ds with
  | [d, .int n] => noFt d = true ∧ Q (.bl (isPair n d))
  | _ => False
def t_is_pair : TDS := (dSeqS (dIf (dOrT (dNotT (dT (dIs isTup (dVar 0)))) (dOrT (dT (dOp opNe (dCall spLen (dCons (dVar 0) dNil)) (dC (.int 2)))) (dNotT (dT (dCall (spBools fun bs => bs.all id) (dCons (dFr (dComp (dSeq (dVar 0)) (gN 2) dYes (dCall sp_is_natural (dCons (dVar 2) dNil)) [2])) dNil)))))) (dSeqS (dRet (dC (.bl false))) dNext) dNext) (dSeqS (dRet (dChain opLt opLt (dOp opIx (dVar 0) (dC (.int 0))) (dOp opIx (dVar 0) (dC (.int 1))) (dVar 1))) dNext))
theorem len_ne (xs : List D) (k : Nat) (h : xs.length ≠ k) : decide ((xs.length : Int) ≠ (k : Nat)) = true := by
  rw [decide_eq_true_eq]; omega
theorem len_eq (xs : List D) (k : Nat) (h : xs.length = k) : decide ((xs.length : Int) ≠ (k : Nat)) = false := by
  rw [decide_eq_false_iff_not]; omega
theorem isPair_len {n : Int} {xs : List D} (h : xs.length ≠ 2) : isPair n (.tup xs) = false := by
  unfold isPair
  split
  · rename_i e
    cases e
    exact absurd rfl h
  · rfl
theorem rd_is_pair (ds : List D) (Q : D → Prop) (h : sp_is_pair ds Q) : t_is_pair (endR Q) (startN 3 ds) := by
  match ds, h with
  | [d, .int n], ⟨h0, h⟩ =>
    show t_is_pair (endR Q) [.sh d, .sh (.int n), .no]
    cases d with
    | ft xs => cases h0
    | tup xs =>
      try simp only [t_is_pair, isTup, endR, dSeqS, dNext, dRet, dRetN, dIf, dDrop, dSet, dPar, dParN, setAll, dFor, dAppend, dExtend, dFreeze, dFreeze2, slotD, dAsg, dNever, dLend, dLendT, dVar, dC, dNil, dCons, dOp, dT, dAndT, dOrT, dNotT, dAndV, dOrV, dNotV, dIfE, dIs, dTup, dLst, dFr, dList, dLstR, dTupR, dRg1, dRg2, dSorted, dRange1, dRange2, dSeq, dEnum, dZip, dComp, wipeD, dCall, dCallKw, dSl, dPart, dNoPart, dYes, dPl, dIndexT, dIndexL, dIndexS, dTupF, gN, gT, gCs, gNl, vSh, vOw, vNil, vCons, vComp2, dDictComp, dNeg, dRep, dChain, spLen, spTuple, opIx20, opIx21, opIxG0, opIxG1, gd0, gdS, st0, stS, List.map_cons, List.map_nil, Bool.not_true, Bool.not_false, Bool.false_eq_true, ↓reduceIte]
      refine ne_int (i := xs.length) (j := (2 : Nat)) ?_
      by_cases hl : xs.length = 2
      · rw [len_eq xs 2 hl]
        refine all_reads (p := isNat) (fun d _ K k => k) ?_
        match xs, hl with
        | [a, b], _ =>
          by_cases ha : isNat a = true
          · by_cases hb : isNat b = true
            · cases a with
              | int i =>
                cases b with
                | int j =>
                  have h1 : decide (0 ≤ i) = true := ha
                  have h2 : decide (0 ≤ j) = true := hb
                  have e : ([D.int i, D.int j].all isNat) = true := by simp only [List.all_cons, List.all_nil, isNat, h1, h2]; rfl
                  rw [e]
                  have h : Q (.bl (decide (0 ≤ i) && decide (0 ≤ j) && decide (i < j) && decide (j < n))) := h
                  rw [h1, h2] at h
                  show (match (D.bl (decide (i < j))) with | .bl true => Q (.bl (decide (j < n))) | .bl false => Q (.bl false) | _ => False)
                  by_cases h3 : i < j
                  · rw [decide_eq_true h3] at h ⊢
                    simpa using h
                  · rw [decide_eq_false h3] at h ⊢
                    exact h
                | _ => cases hb
              | _ => cases ha
            · have e : ([a, b].all isNat) = false := by
                simp only [List.all_cons, List.all_nil, Bool.eq_false_iff.mpr hb, Bool.false_and, Bool.and_false]
              rw [e]
              have e2 : isPair n (.tup [a, b]) = false := by
                unfold isPair
                split
                · rename_i i j q
                  cases q
                  have : decide (0 ≤ j) = false := Bool.eq_false_iff.mpr hb
                  rw [this, Bool.and_false]; rfl
                · rfl
              rw [e2] at h
              exact h
          · have e : ([a, b].all isNat) = false := by
              simp only [List.all_cons, List.all_nil, Bool.eq_false_iff.mpr ha, Bool.false_and, Bool.and_false]
            rw [e]
            have e2 : isPair n (.tup [a, b]) = false := by
              unfold isPair
              split
              · rename_i i j q
                cases q
                have : decide (0 ≤ i) = false := Bool.eq_false_iff.mpr ha
                rw [this]; rfl
              · rfl
            rw [e2] at h
            exact h
      · rw [len_ne xs 2 hl]
        rw [isPair_len hl] at h
        exact h
    | _ => exact h
/-- ascending -/
def ascB : List (Int × Int) → Bool
  | p :: q :: r => (decide (p.1 < q.1) || decide (p.1 = q.1) && decide (p.2 < q.2)) && ascB (q :: r)
  | _ => true
def sp_ascends : DSp := fun ds Q => match ds with
  | [.tup xs] => match pairs? xs with
    | some ps => Q (.bl (ascB ps))
    | none => False
  | _ => False
def t_ascends : TDS := (dSeqS (dRet (dCall (spBools fun bs => bs.all id) (dCons (dFr (dComp (dZip (dCons (dVar 0) (dCons (dSl (dVar 0) (dPart (dC (.int 1))) dNoPart) dNil))) (gT 2 (gCs (gN 1) (gCs (gN 2) gNl))) dYes (dOp opLt (dVar 1) (dVar 2)) [1, 2])) dNil))) dNext)
theorem cut1 (xs : List D) : cutD xs (some 1) none = xs.drop 1 := by
  unfold cutD
  have e1 : HT.sIx xs.length 0 (some 1) = min 1 xs.length := by
    unfold HT.sIx
    simp
    try omega
  have e2 : HT.sIx xs.length xs.length none = xs.length := by unfold HT.sIx; simp
  rw [e1, e2]
  cases xs with
  | nil => rfl
  | cons x xs =>
    rw [List.length_cons, show min 1 (xs.length + 1) = 1 by omega]
    rw [List.take_of_length_le (by simp)]
def ltP : D → Bool
  | .tup [.tup [.int a, .int b], .tup [.int c, .int d]] => HT.lexLt [a, b] [c, d]
  | _ => false
theorem lexLt2 (a b c d : Int) : HT.lexLt [a, b] [c, d] = (decide (a < c) || decide (a = c) && decide (b < d)) := by
  rw [HT.lexLt_cons, HT.lexLt_cons, HT.lexLt_nil_nil]
  by_cases h : a = c <;> by_cases k : b = d <;> simp [h, k]
theorem asc_zip : ∀ ps : List (Int × Int), (zipD (ps.map pairD) ((ps.map pairD).drop 1)).all ltP = ascB ps
  | [] => rfl
  | [p] => rfl
  | p :: q :: r => by
    have ih := asc_zip (q :: r)
    show (ltP (.tup [pairD p, pairD q]) && (zipD ((q :: r).map pairD) (((q :: r).map pairD).drop 1)).all ltP) = _
    rw [ih]
    show (HT.lexLt [p.1, p.2] [q.1, q.2] && _) = ((decide (p.1 < q.1) || decide (p.1 = q.1) && decide (p.2 < q.2)) && _)
    rw [lexLt2]
theorem rd_ascends (ds : List D) (Q : D → Prop) (h : sp_ascends ds Q) : t_ascends (endR Q) (startN 3 ds) := by
  match ds, h with
  | [.tup xs], h =>
    show t_ascends (endR Q) [.sh (.tup xs), .no, .no]
    have h' : match pairs? xs with | some ps => Q (.bl (ascB ps)) | none => False := h
    clear h
    split at h'
    · rename_i ps hp
      have e := pairs?_some hp
      subst e
      try simp only [t_ascends, endR, dSeqS, dNext, dRet, dRetN, dIf, dDrop, dSet, dPar, dParN, setAll, dFor, dAppend, dExtend, dFreeze, dFreeze2, slotD, dAsg, dNever, dLend, dLendT, dVar, dC, dNil, dCons, dOp, dT, dAndT, dOrT, dNotT, dAndV, dOrV, dNotV, dIfE, dIs, dTup, dLst, dFr, dList, dLstR, dTupR, dRg1, dRg2, dSorted, dRange1, dRange2, dSeq, dEnum, dZip, dComp, wipeD, dCall, dCallKw, dSl, dPart, dNoPart, dYes, dPl, dIndexT, dIndexL, dIndexS, dTupF, gN, gT, gCs, gNl, vSh, vOw, vNil, vCons, vComp2, dDictComp, dNeg, dRep, dChain, spLen, spTuple, opIx20, opIx21, opIxG0, opIxG1, gd0, gdS, st0, stS, List.map_cons, List.map_nil, Bool.not_true, Bool.not_false, Bool.false_eq_true, ↓reduceIte]
      rw [cut1]
      refine all_reads (p := ltP) (fun d hd K k => ?_) (by rw [asc_zip]; exact h')
      obtain ⟨i, hi⟩ := List.mem_iff_getElem?.mp hd
      obtain ⟨x, y, hx, hy, rfl⟩ := zipD_get hi
      rw [List.getElem?_map, Option.map_eq_some_iff] at hx
      obtain ⟨p, _, rfl⟩ := hx
      rw [← List.map_drop, List.getElem?_map, Option.map_eq_some_iff] at hy
      obtain ⟨q, _, rfl⟩ := hy
      exact ⟨rfl, k⟩
    · exact h'.elim
/-! ### graphs -/
def isGraph : D → Bool
  | .tup [.int n, .tup es] => decide (0 ≤ n) && (es.all (isPair n) && match pairs? es with | some ps => ascB ps | none => false)
  | _ => false
/-- its parts are no known tuples -/
def partsOk : D → Bool
  | .tup [a, .tup es] => noFt a && es.all noFt
  | .tup [a, b] => noFt a && noFt b
  | .ft _ => false
  | _ => true
def sp_is_graph_of : DSp := fun ds Q => match ds with
  | [d] => partsOk d = true ∧ Q (.bl (isGraph d))
  | _ => False
def t_is_graph_of : TDS := (dSeqS (dIf (dOrT (dNotT (dT (dIs isTup (dVar 0)))) (dOrT (dT (dOp opNe (dCall spLen (dCons (dVar 0) dNil)) (dC (.int 2)))) (dOrT (dNotT (dT (dCall sp_is_natural (dCons (dOp opIx (dVar 0) (dC (.int 0))) dNil)))) (dNotT (dT (dIs isTup (dOp opIx (dVar 0) (dC (.int 1))))))))) (dSeqS (dRet (dC (.bl false))) dNext) dNext) (dSeqS (dRet (dAndV (dCall (spBools fun bs => bs.all id) (dCons (dFr (dComp (dSeq (dOp opIx (dVar 0) (dC (.int 1)))) (gN 1) dYes (dCall sp_is_pair (dCons (dVar 1) (dCons (dOp opIx (dVar 0) (dC (.int 0))) dNil))) [1])) dNil)) (dCall sp_ascends (dCons (dOp opIx (dVar 0) (dC (.int 1))) dNil)))) dNext))
theorem isGraph_len {xs : List D} (h : xs.length ≠ 2) : isGraph (.tup xs) = false := by
  unfold isGraph
  split
  · rename_i e
    cases e
    exact absurd rfl h
  · rfl
theorem isPair_some {n : Int} {d : D} (h : isPair n d = true) : ∃ i j, d = pairD (i, j) ∧ 0 ≤ i ∧ i < j ∧ j < n := by
  unfold isPair at h
  split at h
  · rename_i i j
    simp only [Bool.and_eq_true, decide_eq_true_eq] at h
    exact ⟨i, j, rfl, h.1.1.1, h.1.2, h.2⟩
  · cases h
theorem pairs_of_all {n : Int} : ∀ {es : List D}, es.all (isPair n) = true → ∃ ps, pairs? es = some ps
  | [], _ => ⟨[], rfl⟩
  | e :: es, h => by
    rw [List.all_cons, Bool.and_eq_true] at h
    obtain ⟨i, j, rfl, _⟩ := isPair_some h.1
    obtain ⟨ps, hp⟩ := pairs_of_all h.2
    exact ⟨(i, j) :: ps, by show (pairs? es).map _ = _; rw [hp]; rfl⟩
theorem rd_is_graph_of (ds : List D) (Q : D → Prop) (h : sp_is_graph_of ds Q) : t_is_graph_of (endR Q) (startN 2 ds) := by
  match ds, h with
  | [d], ⟨h0, h⟩ =>
    show t_is_graph_of (endR Q) [.sh d, .no]
    cases d with
    | ft xs => cases h0
    | tup xs =>
      try simp only [t_is_graph_of, isTup, endR, dSeqS, dNext, dRet, dRetN, dIf, dDrop, dSet, dPar, dParN, setAll, dFor, dAppend, dExtend, dFreeze, dFreeze2, slotD, dAsg, dNever, dLend, dLendT, dVar, dC, dNil, dCons, dOp, dT, dAndT, dOrT, dNotT, dAndV, dOrV, dNotV, dIfE, dIs, dTup, dLst, dFr, dList, dLstR, dTupR, dRg1, dRg2, dSorted, dRange1, dRange2, dSeq, dEnum, dZip, dComp, wipeD, dCall, dCallKw, dSl, dPart, dNoPart, dYes, dPl, dIndexT, dIndexL, dIndexS, dTupF, gN, gT, gCs, gNl, vSh, vOw, vNil, vCons, vComp2, dDictComp, dNeg, dRep, dChain, spLen, spTuple, opIx20, opIx21, opIxG0, opIxG1, gd0, gdS, st0, stS, List.map_cons, List.map_nil, Bool.not_true, Bool.not_false, Bool.false_eq_true, ↓reduceIte]
      refine ne_int (i := xs.length) (j := (2 : Nat)) ?_
      by_cases hl : xs.length = 2
      · rw [len_eq xs 2 hl]
        match xs, hl with
        | [a, b], _ =>
          by_cases ha : isNat a = true
          · cases a with
            | int n =>
              have ha : decide (0 ≤ n) = true := ha
              show (if (!decide (0 ≤ n)) = true then _ else _)
              rw [ha]
              cases b with
              | ft _ => cases h0
              | tup es =>
                have h0 : es.all noFt = true := h0
                refine all_reads (p := isPair n) (fun d hd K k => ⟨List.all_eq_true.mp h0 d hd, k⟩) ?_
                have h : Q (.bl (decide (0 ≤ n) && (es.all (isPair n) && match pairs? es with | some ps => ascB ps | none => false))) := h
                rw [ha] at h
                by_cases hp : es.all (isPair n) = true
                · rw [hp] at h ⊢
                  obtain ⟨ps, hps⟩ := pairs_of_all hp
                  rw [hps] at h
                  show (match pairs? es with | some ps => Q (.bl (ascB ps)) | none => False)
                  rw [hps]
                  exact h
                · rw [Bool.eq_false_iff.mpr hp] at h ⊢
                  exact h
              | _ => exact h
            | _ => cases ha
          · show (if (!isNat a) = true then _ else _)
            have e : isGraph (.tup [a, b]) = false := by
              unfold isGraph
              split
              · rename_i n es q
                cases q
                have : decide (0 ≤ n) = false := Bool.eq_false_iff.mpr ha
                rw [this]; rfl
              · rfl
            rw [e] at h
            rw [Bool.eq_false_iff.mpr ha]
            exact h
      · rw [len_ne xs 2 hl]
        rw [isGraph_len hl] at h
        exact h
    | _ => exact h

/-! graphs as plain data -/
structure GOk (n : Nat) (es : List (Int × Int)) : Prop where
  small : n ≤ 1000
  ok : ∀ p ∈ es, 0 ≤ p.1 ∧ p.1 < p.2 ∧ p.2 < n
  asc : es.Pairwise lexLt
theorem ascB_of : ∀ {es : List (Int × Int)}, es.Pairwise lexLt → ascB es = true
  | [], _ => rfl
  | [_], _ => rfl
  | p :: q :: r, h => by
    rw [List.pairwise_cons] at h
    have h1 := h.1 q List.mem_cons_self
    show ((decide (p.1 < q.1) || decide (p.1 = q.1) && decide (p.2 < q.2)) && ascB (q :: r)) = true
    rw [ascB_of h.2, Bool.and_true]
    unfold lexLt at h1
    rcases h1 with h1 | ⟨h1, h2⟩
    · rw [decide_eq_true h1]; rfl
    · rw [decide_eq_true h1, decide_eq_true h2]; simp
theorem isPair_pairD {n : Int} {p : Int × Int} : isPair n (pairD p) = (decide (0 ≤ p.1) && decide (0 ≤ p.2) && decide (p.1 < p.2) && decide (p.2 < n)) := rfl
theorem GOk.graph {n : Nat} {es : List (Int × Int)} (h : GOk n es) : isGraph (gD n es) = true ∧ partsOk (gD n es) = true := by
  constructor
  · show (decide ((0 : Int) ≤ (n : Nat)) && ((es.map pairD).all (isPair n) && match pairs? (es.map pairD) with | some ps => ascB ps | none => false)) = true
    rw [pairs?_map, decide_eq_true (by omega), List.all_map]
    simp only [ascB_of h.asc, Bool.true_and, Bool.and_true]
    rw [List.all_eq_true]
    intro p hp
    obtain ⟨h1, h2, h3⟩ := h.ok p hp
    show isPair n (pairD p) = true
    rw [isPair_pairD]
    simp only [Bool.and_eq_true, decide_eq_true_eq]
    omega
  · show (true && (es.map pairD).all noFt) = true
    rw [List.all_map]
    simp only [Bool.true_and]
    exact List.all_eq_true.mpr fun _ _ => rfl
def sp_check_graph : DSp := fun ds Q => match ds with
  | [d] => (isGraph d = true ∧ partsOk d = true) ∧ Q .non
  | _ => False
def t_check_graph : TDS := (dSeqS (dIf (dNotT (dT (dCall sp_is_graph_of (dCons (dVar 0) dNil)))) (dSeqS dNever dNext) dNext) dNext)
theorem rd_check_graph (ds : List D) (Q : D → Prop) (h : sp_check_graph ds Q) : t_check_graph (endR Q) (startN 1 ds) := by
  match ds, h with
  | [d], ⟨⟨h1, h2⟩, h⟩ =>
    show t_check_graph (endR Q) [.sh d]
    try simp only [t_check_graph, endR, sp_is_graph_of, dSeqS, dNext, dRet, dRetN, dIf, dDrop, dSet, dPar, dParN, setAll, dFor, dAppend, dExtend, dFreeze, dFreeze2, slotD, dAsg, dNever, dLend, dLendT, dVar, dC, dNil, dCons, dOp, dT, dAndT, dOrT, dNotT, dAndV, dOrV, dNotV, dIfE, dIs, dTup, dLst, dFr, dList, dLstR, dTupR, dRg1, dRg2, dSorted, dRange1, dRange2, dSeq, dEnum, dZip, dComp, wipeD, dCall, dCallKw, dSl, dPart, dNoPart, dYes, dPl, dIndexT, dIndexL, dIndexS, dTupF, gN, gT, gCs, gNl, vSh, vOw, vNil, vCons, vComp2, dDictComp, dNeg, dRep, dChain, spLen, spTuple, opIx20, opIx21, opIxG0, opIxG1, gd0, gdS, st0, stS, List.map_cons, List.map_nil, Bool.not_true, Bool.not_false, Bool.false_eq_true, ↓reduceIte]
    refine ⟨h2, ?_⟩
    rw [h1]
    exact h
def isVert (n : Int) : D → Bool
  | .int i => decide (0 ≤ i) && decide (i < n)
  | _ => false
def sp_is_vertex : DSp := fun ds Q => match ds with
  | [.int n, d] => Q (.bl (isVert n d))
  | _ => False
def t_is_vertex : TDS := (dSeqS (dRet (dAndV (dCall sp_is_natural (dCons (dVar 1) dNil)) (dOp opLt (dVar 1) (dVar 0)))) dNext)
theorem rd_is_vertex (ds : List D) (Q : D → Prop) (h : sp_is_vertex ds Q) : t_is_vertex (endR Q) (startN 2 ds) := by
  match ds, h with
  | [.int n, d], h =>
    show t_is_vertex (endR Q) [.sh (.int n), .sh d]
    try simp only [t_is_vertex, endR, sp_is_natural, dSeqS, dNext, dRet, dRetN, dIf, dDrop, dSet, dPar, dParN, setAll, dFor, dAppend, dExtend, dFreeze, dFreeze2, slotD, dAsg, dNever, dLend, dLendT, dVar, dC, dNil, dCons, dOp, dT, dAndT, dOrT, dNotT, dAndV, dOrV, dNotV, dIfE, dIs, dTup, dLst, dFr, dList, dLstR, dTupR, dRg1, dRg2, dSorted, dRange1, dRange2, dSeq, dEnum, dZip, dComp, wipeD, dCall, dCallKw, dSl, dPart, dNoPart, dYes, dPl, dIndexT, dIndexL, dIndexS, dTupF, gN, gT, gCs, gNl, vSh, vOw, vNil, vCons, vComp2, dDictComp, dNeg, dRep, dChain, spLen, spTuple, opIx20, opIx21, opIxG0, opIxG1, gd0, gdS, st0, stS, List.map_cons, List.map_nil, Bool.not_true, Bool.not_false, Bool.false_eq_true, ↓reduceIte]
    cases d with
    | int i =>
      have h : Q (.bl (decide (0 ≤ i) && decide (i < n))) := h
      show (match D.bl (decide (0 ≤ i)) with | .bl true => Q (.bl (decide (i < n))) | .bl false => Q (.bl false) | _ => False)
      by_cases h0 : 0 ≤ i
      · rw [decide_eq_true h0] at h ⊢
        exact h
      · rw [decide_eq_false h0] at h ⊢
        exact h
    | _ => exact h
def sp_check_vertex : DSp := fun ds Q => match ds with
  | [.int n, d] => isVert n d = true ∧ Q .non
  | _ => False
def t_check_vertex : TDS := (dSeqS (dIf (dNotT (dT (dCall sp_is_vertex (dCons (dVar 0) (dCons (dVar 1) dNil))))) (dSeqS dNever dNext) dNext) dNext)
theorem rd_check_vertex (ds : List D) (Q : D → Prop) (h : sp_check_vertex ds Q) : t_check_vertex (endR Q) (startN 2 ds) := by
  match ds, h with
  | [.int n, d], ⟨h1, h⟩ =>
    show t_check_vertex (endR Q) [.sh (.int n), .sh d]
    try simp only [t_check_vertex, endR, sp_is_vertex, dSeqS, dNext, dRet, dRetN, dIf, dDrop, dSet, dPar, dParN, setAll, dFor, dAppend, dExtend, dFreeze, dFreeze2, slotD, dAsg, dNever, dLend, dLendT, dVar, dC, dNil, dCons, dOp, dT, dAndT, dOrT, dNotT, dAndV, dOrV, dNotV, dIfE, dIs, dTup, dLst, dFr, dList, dLstR, dTupR, dRg1, dRg2, dSorted, dRange1, dRange2, dSeq, dEnum, dZip, dComp, wipeD, dCall, dCallKw, dSl, dPart, dNoPart, dYes, dPl, dIndexT, dIndexL, dIndexS, dTupF, gN, gT, gCs, gNl, vSh, vOw, vNil, vCons, vComp2, dDictComp, dNeg, dRep, dChain, spLen, spTuple, opIx20, opIx21, opIxG0, opIxG1, gd0, gdS, st0, stS, List.map_cons, List.map_nil, Bool.not_true, Bool.not_false, Bool.false_eq_true, ↓reduceIte]
    rw [h1]
    exact h
theorem app2_at {ti te : TD} {ρ : DEnv} {K : DEnds} {i : Nat} {xss : List (List D)} {z : Int} {row : List D} {d : D} (h : ρ.getD i .no = .ow2 xss) (hi : ∀ Q, Q (.int z) → ti ρ Q) (he : ∀ Q, Q d → te ρ Q) (h0 : 0 ≤ z)
    (hr : xss[z.toNat]? = some row) (hl : row.length < sizeLine) (hk : K.nx (ρ.set i (.ow2 (xss.set z.toNat (row ++ [d]))))) : dApp2 i ti te K ρ := by
  unfold dApp2
  rw [h]
  refine hi _ ?_
  have hz : z.toNat < xss.length := (List.getElem?_eq_some_iff.mp hr).1
  have e : ixN xss.length z = some z.toNat := by
    unfold ixN
    rw [if_pos h0, if_pos (by omega)]
  show (match ixN xss.length z with | some m => _ | none => False)
  rw [e]
  show (match xss[z.toNat]? with | some xs => te ρ fun d => xs.length < sizeLine ∧ K.nx (ρ.set i (.ow2 (xss.set z.toNat (xs ++ [d])))) | none => False)
  rw [hr]
  exact he _ ⟨hl, hk⟩
theorem set2_at {ti tj te : TD} {ρ : DEnv} {K : DEnds} {i : Nat} {xss : List (List D)} {z y : Int} {row : List D} {d : D} (h : ρ.getD i .no = .ow2 xss) (hi : ∀ Q, Q (.int z) → ti ρ Q) (hj : ∀ Q, Q (.int y) → tj ρ Q) (he : ∀ Q, Q d → te ρ Q) (h0 : 0 ≤ z)
    (hr : xss[z.toNat]? = some row) (h1 : 0 ≤ y) (h2 : y < row.length) (hk : K.nx (ρ.set i (.ow2 (xss.set z.toNat (row.set y.toNat d))))) : dSet2 i ti tj te K ρ := by
  unfold dSet2
  rw [h]
  refine he _ (hi _ ?_)
  have hz : z.toNat < xss.length := (List.getElem?_eq_some_iff.mp hr).1
  have e : ixN xss.length z = some z.toNat := by
    unfold ixN
    rw [if_pos h0, if_pos (by omega)]
  have e2 : ixN row.length y = some y.toNat := by
    unfold ixN
    rw [if_pos h1, if_pos h2]
  simp only [e, hr]
  refine hj _ ?_
  simp only [e2]
  exact hk
theorem iv_set {β : Type} {n : Nat} {f : Int → β} {z : Int} {v : β} (h0 : 0 ≤ z) : ((iv 0 n).map f).set z.toNat v = (iv 0 n).map fun i => if i = z then v else f i := by
  apply List.ext_getElem?
  intro k
  rw [List.getElem?_set, List.length_map, iv_length, List.getElem?_map, List.getElem?_map]
  by_cases hk : k < n
  · rw [iv_get hk]
    by_cases e : z.toNat = k
    · rw [if_pos e, if_pos (by omega)]
      show some v = some (if _ then _ else _)
      rw [if_pos (by omega)]
    · rw [if_neg e]
      show some _ = some (if _ then _ else _)
      rw [if_neg (by omega)]
  · rw [List.getElem?_eq_none (by rw [iv_length]; omega)]
    by_cases e : z.toNat = k
    · rw [if_pos e, if_neg (by omega)]; rfl
    · rw [if_neg e]; rfl
theorem iv_at {β : Type} {n : Nat} {f : Int → β} {z : Int} (h0 : 0 ≤ z) (h1 : z < n) : ((iv 0 n).map f)[z.toNat]? = some (f z) := by
  rw [List.getElem?_map, iv_get (by omega)]
  show some (f (0 + (z.toNat : Int))) = _
  rw [show (0 + (z.toNat : Int)) = z by omega]

def adj (es : List (Int × Int)) (i j : Int) : Bool := decide ((i, j) ∈ es) || decide ((j, i) ∈ es)
def nbr (n : Nat) (es : List (Int × Int)) (i : Int) : List Int := (iv 0 n).filter (adj es i)
def rowsD (n : Nat) (f : Int → List Int) : D := .lst ((iv 0 n).map fun i => .lst ((f i).map D.int))
def nearD (n : Nat) (es : List (Int × Int)) : D := rowsD n (nbr n es)
def sp_near_lists : DSp := fun ds Q => ∃ n es, ds = [gD n es] ∧ GOk n es ∧ Q (nearD n es)
/-- the ends told so far -/
def acc1 (i : Int) (p : Int × Int) : List Int := (if p.1 = i then [p.2] else []) ++ (if p.2 = i then [p.1] else [])
def accs (i : Int) (es : List (Int × Int)) : List Int := es.flatMap (acc1 i)
theorem mem_acc1 {i x : Int} {p : Int × Int} : x ∈ acc1 i p ↔ p = (i, x) ∨ p = (x, i) := by
  obtain ⟨a, b⟩ := p
  unfold acc1
  simp only [List.mem_append, Prod.mk.injEq]
  constructor
  · rintro (h | h)
    · split at h
      · simp at h; exact .inl ⟨by assumption, h.symm⟩
      · cases h
    · split at h
      · simp at h; exact .inr ⟨h.symm, by assumption⟩
      · cases h
  · rintro (⟨h1, h2⟩ | ⟨h1, h2⟩)
    · left; rw [if_pos h1]; simp [h2]
    · right; rw [if_pos h2]; simp [h1]
theorem mem_accs {i x : Int} {es : List (Int × Int)} : x ∈ accs i es ↔ (i, x) ∈ es ∨ (x, i) ∈ es := by
  unfold accs
  rw [List.mem_flatMap]
  constructor
  · rintro ⟨p, hp, h⟩
    rcases mem_acc1.mp h with e | e <;> subst e
    · exact .inl hp
    · exact .inr hp
  · rintro (h | h)
    · exact ⟨_, h, mem_acc1.mpr (.inl rfl)⟩
    · exact ⟨_, h, mem_acc1.mpr (.inr rfl)⟩
theorem nodup_accs {i : Int} : ∀ {es : List (Int × Int)}, (∀ p ∈ es, p.1 < p.2) → es.Pairwise lexLt → (accs i es).Nodup
  | [], _, _ => List.nodup_nil
  | p :: es, h, hp => by
    rw [List.pairwise_cons] at hp
    show (acc1 i p ++ accs i es).Nodup
    have h1 := h p List.mem_cons_self
    refine List.nodup_append.mpr ⟨?_, nodup_accs (fun q hq => h q (List.mem_cons_of_mem _ hq)) hp.2, ?_⟩
    · unfold acc1
      by_cases a : p.1 = i
      · rw [if_pos a, if_neg (by omega)]; simp
      · rw [if_neg a]; split <;> simp
    · rintro x hx y hy rfl
      rcases mem_accs.mp hy with e | e
      · have e1 := hp.1 _ e
        have e2 := h _ (List.mem_cons_of_mem _ e)
        rcases mem_acc1.mp hx with q | q <;> subst q <;> unfold lexLt at e1 <;> simp at e1 e2 h1 <;> omega
      · have e1 := hp.1 _ e
        have e2 := h _ (List.mem_cons_of_mem _ e)
        rcases mem_acc1.mp hx with q | q <;> subst q <;> unfold lexLt at e1 <;> simp at e1 e2 h1 <;> omega
theorem nbr_lt (n : Nat) (es : List (Int × Int)) (i : Int) : (nbr n es i).Pairwise (· < ·) := (iv_lt 0 n).filter _
theorem lt_nodup {l : List Int} (h : l.Pairwise (· < ·)) : l.Nodup := h.imp fun h e => by omega
theorem lt_le {l : List Int} (h : l.Pairwise (· < ·)) : l.Pairwise (· ≤ ·) := h.imp fun h => by omega
theorem mem_adj {es : List (Int × Int)} {i j : Int} : adj es i j = true ↔ (i, j) ∈ es ∨ (j, i) ∈ es := by simp [adj]
theorem GOk.nbr_perm {n : Nat} {es : List (Int × Int)} (h : GOk n es) (i : Int) : (nbr n es i).Perm (accs i es) := by
  rw [List.perm_ext_iff_of_nodup (lt_nodup (nbr_lt n es i)) (nodup_accs (fun p hp => (h.ok p hp).2.1) h.asc)]
  intro x
  rw [mem_accs]
  unfold nbr
  rw [List.mem_filter, mem_adj, mem_iv]
  constructor
  · exact fun q => q.2
  · intro q
    refine ⟨?_, q⟩
    rcases q with q | q
    · have := h.ok _ q; simp at this; omega
    · have := h.ok _ q; simp at this; omega
def t_near_lists : TDS := (dSeqS (dSet 1 (vComp2 (dRange1 (dCons (dOp opIx (dVar 0) (dC (.int 0))) dNil)) (gN 2) dYes (dLst dNil) [2])) (dSeqS (dFor (dSeq (dOp opIx (dVar 0) (dC (.int 1)))) (gT 2 (gCs (gN 3) (gCs (gN 4) gNl))) (dSeqS (dApp2 1 (dVar 3) (dVar 4)) (dSeqS (dApp2 1 (dVar 4) (dVar 3)) dNext))) (dFreeze2 1 (dSeqS (dRet (dFr (dComp (dSeq (dVar 1)) (gN 5) dYes (dFr (dSorted (dCons (dVar 5) dNil))) [5]))) dNext))))
/-- sorted of ints whose ascending order is known -/
theorem sorted_ints {ns ms : List Int} {Q : List D → Prop} (hp : ms.Perm ns) (hs : ms.Pairwise (· ≤ ·)) (q : Q (ms.map D.int)) : spSorted [.lst (ns.map D.int)] Q := by
  show (match ints? (ns.map D.int) with
    | some ns => ∀ ms : List Int, ms.Perm ns → ms.Pairwise (· ≤ ·) → Q (ms.map .int)
    | none => _)
  rw [ints?_map]
  intro ks h1 h2
  rw [sorted_of_perm h1 h2 hp hs]
  exact q
theorem rgb0 {n : Nat} (h : n ≤ 1000) : RgB 0 (n : Int) := ⟨by omega, by omega, by omega, by omega⟩
theorem acc1_len (i : Int) (p : Int × Int) : (acc1 i p).length ≤ 2 := by
  unfold acc1
  rw [List.length_append]
  split <;> split <;> simp
theorem nodup_len {α : Type} [DecidableEq α] : ∀ {l m : List α}, l.Nodup → (∀ x ∈ l, x ∈ m) → l.length ≤ m.length
  | [], _, _, _ => Nat.zero_le _
  | a :: l, m, h, s => by
    rw [List.nodup_cons] at h
    have ha := s a List.mem_cons_self
    have ih := nodup_len (l := l) (m := m.erase a) h.2 fun x hx => (List.mem_erase_of_ne (fun e => h.1 (by rw [← e]; exact hx))).mpr (s x (List.mem_cons_of_mem _ hx))
    have := List.length_erase_of_mem ha
    have := List.length_pos_of_mem ha
    rw [List.length_cons]
    omega
theorem accs_small {n : Nat} {es done : List (Int × Int)} (ok : GOk n es) {rest : List (Int × Int)} (e : es = done ++ rest) (i : Int) : (accs i done).length ≤ n := by
  have h1 : (accs i done).Nodup := nodup_accs (fun p hp => (ok.ok p (by rw [e]; exact List.mem_append_left _ hp)).2.1) (by have := ok.asc; rw [e] at this; exact (List.pairwise_append.mp this).1)
  have h2 : ∀ x ∈ accs i done, x ∈ iv 0 n := fun x hx => by
    rw [mem_iv]
    rcases mem_accs.mp hx with q | q
    · have := ok.ok _ (by rw [e]; exact List.mem_append_left _ q); simp at this; omega
    · have := ok.ok _ (by rw [e]; exact List.mem_append_left _ q); simp at this; omega
  have := nodup_len h1 h2
  rw [iv_length] at this
  exact this
theorem accs_snoc (i : Int) (done : List (Int × Int)) (p : Int × Int) : accs i (done ++ [p]) = accs i done ++ acc1 i p := by simp [accs]
/-- over what a list of ints gives -/
theorem compD_list {α : Type} {g : TDG} {te : TD} {ρ : DEnv} {q r : α → D} : ∀ {l : List α} {acc : List D} {Q : List D → Prop}, (∀ i ∈ l, ∀ K : D → Prop, K (r i) → g (q i) ρ fun ρ2 => te ρ2 K) → Q (acc ++ l.map r) → compD g dYes te ρ (l.map q) acc Q
  | [], acc, Q, _, k => by simpa [compD] using k
  | a :: l, acc, Q, h, k => by
    rw [List.map_cons]
    unfold compD
    refine h a List.mem_cons_self _ (compD_list (fun d hd => h d (List.mem_cons_of_mem _ hd)) ?_)
    simpa using k
/-- with a condition -/
theorem compD_filter {α : Type} {g : TDG} {tt : TDT} {te : TD} {ρ : DEnv} {q r : α → D} {p : α → Bool} : ∀ {l : List α} {acc : List D} {Q : List D → Prop}, (∀ i ∈ l, ∀ (K : D → Prop) (L : Prop), (if p i = true then K (r i) else L) → g (q i) ρ fun ρ2 => tt ρ2 fun b => if b = true then te ρ2 K else L) →
    Q (acc ++ (l.filter p).map r) → compD g tt te ρ (l.map q) acc Q
  | [], acc, Q, _, k => by simpa [compD] using k
  | a :: l, acc, Q, h, k => by
    rw [List.map_cons]
    unfold compD
    refine h a List.mem_cons_self _ _ ?_
    by_cases e : p a = true
    · rw [if_pos e]
      refine compD_filter (fun d hd => h d (List.mem_cons_of_mem _ hd)) ?_
      rw [List.filter_cons_of_pos e] at k
      simpa using k
    · rw [if_neg e]
      refine compD_filter (fun d hd => h d (List.mem_cons_of_mem _ hd)) ?_
      rw [List.filter_cons_of_neg e] at k
      exact k
theorem rd_near_lists (ds : List D) (Q : D → Prop) (h : sp_near_lists ds Q) : t_near_lists (endR Q) (startN 6 ds) := by
  obtain ⟨n, es, rfl, ok, h⟩ := h
  show t_near_lists (endR Q) [.sh (gD n es), .no, .no, .no, .no, .no]
  have hs := ok.small
  try simp only [t_near_lists, endR, dSeqS, dNext, dRet, dRetN, dIf, dDrop, dSet, dPar, dParN, setAll, dFor, dAppend, dExtend, dFreeze, dFreeze2, slotD, dAsg, dNever, dLend, dLendT, dVar, dC, dNil, dCons, dOp, dT, dAndT, dOrT, dNotT, dAndV, dOrV, dNotV, dIfE, dIs, dTup, dLst, dFr, dList, dLstR, dTupR, dRg1, dRg2, dSorted, dRange1, dRange2, dSeq, dEnum, dZip, dComp, wipeD, dCall, dCallKw, dSl, dPart, dNoPart, dYes, dPl, dIndexT, dIndexL, dIndexS, dTupF, gN, gT, gCs, gNl, vSh, vOw, vNil, vCons, vComp2, dDictComp, dNeg, dRep, dChain, spLen, spTuple, opIx20, opIx21, opIxG0, opIxG1, gd0, gdS, st0, stS, List.map_cons, List.map_nil, Bool.not_true, Bool.not_false, Bool.false_eq_true, ↓reduceIte]
  refine ⟨rgb0 hs, compF_map (f := fun _ => []) (fun d hd K k => ⟨Nat.zero_le _, k⟩) ?_⟩
  rw [Int.toNat_natCast, rng_iv, List.map_map, List.nil_append]
  refine loopD_ind (fun done ρ => ∃ (ps rest : List (Int × Int)) (s3 s4 : SV), es = ps ++ rest ∧ done = ps.map pairD ∧ ρ = [.sh (gD n es), .ow2 ((iv 0 n).map fun i => (accs i ps).map D.int), .no, s3, s4, .no]) ?_ ?_ (done := []) rfl ⟨[], es, .no, .no, rfl, rfl, rfl⟩
  · rintro done d rest e ρ ⟨ps, rs, s3, s4, e1, rfl, rfl⟩ N hN
    cases rs with
    | nil => rw [List.append_nil] at e1; rw [← e1] at e; simp at e
    | cons p rs =>
      have ed : d = pairD p := by
        rw [e1, List.map_append] at e
        have := List.append_cancel_left e
        simp at this
        exact this.1.symm
      subst ed
      obtain ⟨h1, h2, h3⟩ := ok.ok p (by rw [e1]; simp)
      refine ⟨rfl, ?_⟩
      try simp only [dSeqS, dNext, dRet, dRetN, dIf, dDrop, dSet, dPar, dParN, setAll, dFor, dAppend, dExtend, dFreeze, dFreeze2, slotD, dAsg, dNever, dLend, dLendT, dVar, dC, dNil, dCons, dOp, dT, dAndT, dOrT, dNotT, dAndV, dOrV, dNotV, dIfE, dIs, dTup, dLst, dFr, dList, dLstR, dTupR, dRg1, dRg2, dSorted, dRange1, dRange2, dSeq, dEnum, dZip, dComp, wipeD, dCall, dCallKw, dSl, dPart, dNoPart, dYes, dPl, dIndexT, dIndexL, dIndexS, dTupF, gN, gT, gCs, gNl, vSh, vOw, vNil, vCons, vComp2, dDictComp, dNeg, dRep, dChain, spLen, spTuple, opIx20, opIx21, opIxG0, opIxG1, gd0, gdS, st0, stS, List.map_cons, List.map_nil, Bool.not_true, Bool.not_false, Bool.false_eq_true, ↓reduceIte]
      refine app2_at (z := p.1) (row := (accs p.1 ps).map D.int) (d := .int p.2) rfl (fun _ q => q) (fun _ q => q) h1 (iv_at h1 (by omega)) (by have := accs_small ok e1 p.1; have := sizeLine_eq; simp; omega) ?_
      rw [iv_set h1]
      try simp only [dSeqS, dNext, dRet, dRetN, dIf, dDrop, dSet, dPar, dParN, setAll, dFor, dAppend, dExtend, dFreeze, dFreeze2, slotD, dAsg, dNever, dLend, dLendT, dVar, dC, dNil, dCons, dOp, dT, dAndT, dOrT, dNotT, dAndV, dOrV, dNotV, dIfE, dIs, dTup, dLst, dFr, dList, dLstR, dTupR, dRg1, dRg2, dSorted, dRange1, dRange2, dSeq, dEnum, dZip, dComp, wipeD, dCall, dCallKw, dSl, dPart, dNoPart, dYes, dPl, dIndexT, dIndexL, dIndexS, dTupF, gN, gT, gCs, gNl, vSh, vOw, vNil, vCons, vComp2, dDictComp, dNeg, dRep, dChain, spLen, spTuple, opIx20, opIx21, opIxG0, opIxG1, gd0, gdS, st0, stS, List.map_cons, List.map_nil, Bool.not_true, Bool.not_false, Bool.false_eq_true, ↓reduceIte]
      refine app2_at (z := p.2) (row := (accs p.2 ps).map D.int) (d := .int p.1) rfl (fun _ q => q) (fun _ q => q) (by omega) (by rw [iv_at (by omega) (by omega), if_neg (by omega)]) (by have := accs_small ok e1 p.2; have := sizeLine_eq; simp; omega) ?_
      rw [iv_set (by omega)]
      refine hN _ ⟨ps ++ [p], rs, .sh (.int p.1), .sh (.int p.2), by simp [e1], by simp, ?_⟩
      try simp only [dSeqS, dNext, dRet, dRetN, dIf, dDrop, dSet, dPar, dParN, setAll, dFor, dAppend, dExtend, dFreeze, dFreeze2, slotD, dAsg, dNever, dLend, dLendT, dVar, dC, dNil, dCons, dOp, dT, dAndT, dOrT, dNotT, dAndV, dOrV, dNotV, dIfE, dIs, dTup, dLst, dFr, dList, dLstR, dTupR, dRg1, dRg2, dSorted, dRange1, dRange2, dSeq, dEnum, dZip, dComp, wipeD, dCall, dCallKw, dSl, dPart, dNoPart, dYes, dPl, dIndexT, dIndexL, dIndexS, dTupF, gN, gT, gCs, gNl, vSh, vOw, vNil, vCons, vComp2, dDictComp, dNeg, dRep, dChain, spLen, spTuple, opIx20, opIx21, opIxG0, opIxG1, gd0, gdS, st0, stS, List.map_cons, List.map_nil, Bool.not_true, Bool.not_false, Bool.false_eq_true, ↓reduceIte]
      congr 3
      refine List.map_congr_left fun i _ => ?_
      rw [accs_snoc, List.map_append]
      unfold acc1
      by_cases a : i = p.2
      · rw [if_pos a, if_neg (c := p.1 = i) (by omega), if_pos (c := p.2 = i) (by omega), a]; simp
      · rw [if_neg a, if_neg (c := p.2 = i) (by omega)]
        by_cases b : i = p.1
        · rw [if_pos b, if_pos (c := p.1 = i) (by omega), b]; simp
        · rw [if_neg b, if_neg (c := p.1 = i) (by omega)]; simp
  · rintro ρ ⟨ps, rs, s3, s4, e1, e2, rfl⟩
    have e3 : ps = es := by
      have e4 : (ps ++ rs).length = ps.length := by rw [← e1]; simpa using congrArg List.length e2
      rw [List.length_append] at e4
      have : rs = [] := List.eq_nil_of_length_eq_zero (by omega)
      rw [this, List.append_nil] at e1
      exact e1.symm
    subst e3
    try simp only [dSeqS, dNext, dRet, dRetN, dIf, dDrop, dSet, dPar, dParN, setAll, dFor, dAppend, dExtend, dFreeze, dFreeze2, slotD, dAsg, dNever, dLend, dLendT, dVar, dC, dNil, dCons, dOp, dT, dAndT, dOrT, dNotT, dAndV, dOrV, dNotV, dIfE, dIs, dTup, dLst, dFr, dList, dLstR, dTupR, dRg1, dRg2, dSorted, dRange1, dRange2, dSeq, dEnum, dZip, dComp, wipeD, dCall, dCallKw, dSl, dPart, dNoPart, dYes, dPl, dIndexT, dIndexL, dIndexS, dTupF, gN, gT, gCs, gNl, vSh, vOw, vNil, vCons, vComp2, dDictComp, dNeg, dRep, dChain, spLen, spTuple, opIx20, opIx21, opIxG0, opIxG1, gd0, gdS, st0, stS, List.map_cons, List.map_nil, Bool.not_true, Bool.not_false, Bool.false_eq_true, ↓reduceIte]
    rw [List.map_map]
    refine compD_list (r := fun i => .lst ((nbr n ps i).map D.int)) (fun i hi K k => ?_) h
    try simp only [dSeqS, dNext, dRet, dRetN, dIf, dDrop, dSet, dPar, dParN, setAll, dFor, dAppend, dExtend, dFreeze, dFreeze2, slotD, dAsg, dNever, dLend, dLendT, dVar, dC, dNil, dCons, dOp, dT, dAndT, dOrT, dNotT, dAndV, dOrV, dNotV, dIfE, dIs, dTup, dLst, dFr, dList, dLstR, dTupR, dRg1, dRg2, dSorted, dRange1, dRange2, dSeq, dEnum, dZip, dComp, wipeD, dCall, dCallKw, dSl, dPart, dNoPart, dYes, dPl, dIndexT, dIndexL, dIndexS, dTupF, gN, gT, gCs, gNl, vSh, vOw, vNil, vCons, vComp2, dDictComp, dNeg, dRep, dChain, spLen, spTuple, opIx20, opIx21, opIxG0, opIxG1, gd0, gdS, st0, stS, List.map_cons, List.map_nil, Bool.not_true, Bool.not_false, Bool.false_eq_true, ↓reduceIte]
    exact sorted_ints (ok.nbr_perm i) (lt_le (nbr_lt n ps i)) k

/-! ### more plain facts -/
theorem deq_refl {n : Nat} {d : D} (h : eokd n d = true) : deq d d = true := PySem.SeqAt.eqv_refl _ (eokd_lay h).1
theorem eokd_ints (k : Nat) (ns : List Int) : (ns.map D.int).all (eokd (k + 1)) = true := by
  rw [List.all_map]
  exact List.all_eq_true.mpr fun _ _ => rfl
theorem ne_self {d : D} {Q : D → Prop} (h : eokd 60 d = true) (q : Q (.bl false)) : opNe d d Q := ⟨⟨h, h⟩, by rw [deq_refl h]; exact q⟩
theorem eq_self' {d : D} {Q : D → Prop} (h : eokd 60 d = true) (q : Q (.bl true)) : opEq d d Q := ⟨⟨h, h⟩, by rw [deq_refl h]; exact q⟩
theorem dmem_ints (j : Int) (ns : List Int) : dmem (.int j) (ns.map D.int) = decide (j ∈ ns) := by
  unfold dmem
  rw [List.any_map]
  induction ns with
  | nil => rfl
  | cons n ns ih =>
    rw [List.any_cons, ih]
    show (deq (.int n) (.int j) || _) = _
    rw [deq_int]
    by_cases a : n = j <;> by_cases b : j ∈ ns <;> simp [a, b]
    · exact fun e => a e.symm
theorem notin_ints {j : Int} {ns : List Int} {Q : D → Prop} (q : Q (.bl (!decide (j ∈ ns)))) : opInN true (.int j) (.lst (ns.map D.int)) Q := ⟨⟨rfl, eokd_ints 58 ns⟩, by
  show Q (.bl (!dmem (.int j) (ns.map D.int)))
  rw [dmem_ints]; exact q⟩
theorem ix_iv {n : Nat} {f : Int → D} {i : Int} {Q : D → Prop} (h0 : 0 ≤ i) (h1 : i < n) (q : Q (f i)) : opIx (.lst ((iv 0 n).map f)) (.int i) Q := by
  show (match atI ((iv 0 n).map f) i with | some d => Q d | none => False)
  have e : ixN ((iv 0 n).map f).length i = some i.toNat := by
    unfold ixN
    rw [List.length_map, iv_length, if_pos h0, if_pos h1]
  rw [atI_ix e, iv_at h0 h1]
  exact q
theorem ix_ivT {n : Nat} {f : Int → D} {i : Int} {Q : D → Prop} (h0 : 0 ≤ i) (h1 : i < n) (q : Q (f i)) : opIx (.tup ((iv 0 n).map f)) (.int i) Q := by
  show (match atI ((iv 0 n).map f) i with | some d => Q d | none => False)
  have e : ixN ((iv 0 n).map f).length i = some i.toNat := by
    unfold ixN
    rw [List.length_map, iv_length, if_pos h0, if_pos h1]
  rw [atI_ix e, iv_at h0 h1]
  exact q
theorem enum_iv {n : Nat} {f : Int → D} : enumD ((iv 0 n).map f) = (iv 0 n).map fun i => .tup [.int i, f i] := by
  apply List.ext_getElem?
  intro k
  unfold enumD
  rw [List.getElem?_zipWith, List.length_map, iv_length, List.getElem?_map, List.getElem?_map]
  by_cases hk : k < n
  · rw [iv_get hk, List.getElem?_range hk]
    simp
  · rw [List.getElem?_eq_none (l := List.range n) (by simp; omega), List.getElem?_eq_none (l := iv 0 n) (by rw [iv_length]; omega)]; rfl
theorem nbr_small {n : Nat} {es : List (Int × Int)} {i : Int} : (nbr n es i).length ≤ n := by
  have := List.length_filter_le (adj es i) (iv 0 n)
  rw [iv_length] at this
  exact this
def cls (n : Nat) (es : List (Int × Int)) (i : Int) : List Int := (iv 0 n).filter fun j => decide (j = i) || adj es i j
def closedD (n : Nat) (es : List (Int × Int)) : D := .tup ((iv 0 n).map fun i => .tup ((cls n es i).map D.int))
theorem GOk.irr {n : Nat} {es : List (Int × Int)} (h : GOk n es) (i : Int) : adj es i i = false := by
  rw [Bool.eq_false_iff]
  intro q
  rcases mem_adj.mp q with q | q
  · have := h.ok _ q; simp at this
  · have := h.ok _ q; simp at this
theorem cls_perm {n : Nat} {es : List (Int × Int)} (ok : GOk n es) {i : Int} (hi : i ∈ iv 0 n) : (cls n es i).Perm (nbr n es i ++ [i]) := by
  rw [List.perm_ext_iff_of_nodup]
  · intro x
    unfold cls nbr
    simp only [List.mem_append, List.mem_filter, List.mem_singleton, Bool.or_eq_true, decide_eq_true_eq]
    constructor
    · rintro ⟨h1, h2 | h2⟩
      · exact .inr h2
      · exact .inl ⟨h1, h2⟩
    · rintro (⟨h1, h2⟩ | h2)
      · exact ⟨h1, .inr h2⟩
      · subst h2; exact ⟨hi, .inl rfl⟩
  · exact lt_nodup ((iv_lt 0 n).filter _)
  · refine List.nodup_append.mpr ⟨lt_nodup (nbr_lt n es i), by simp, ?_⟩
    rintro x hx y hy rfl
    have e : x = i := by simpa using hy
    subst e
    unfold nbr at hx
    rw [List.mem_filter, ok.irr] at hx
    cases hx.2
def sp_closed_rows : DSp := fun ds Q => ∃ n es, ds = [nearD n es] ∧ GOk n es ∧ Q (closedD n es)
def t_closed_rows : TDS := (dSeqS (dRet (dCall spTuple (dCons (dFr (dComp (dEnum (dCons (dVar 0) dNil)) (gT 2 (gCs (gN 1) (gCs (gN 2) gNl))) dYes (dCall spTuple (dCons (dFr (dSorted (dCons (dOp opAdd (dVar 2) (dFr (dLst (dCons (dVar 1) dNil)))) dNil))) dNil)) [1, 2])) dNil))) dNext)
theorem rd_closed_rows (ds : List D) (Q : D → Prop) (h : sp_closed_rows ds Q) : t_closed_rows (endR Q) (startN 3 ds) := by
  obtain ⟨n, es, rfl, ok, h⟩ := h
  show t_closed_rows (endR Q) [.sh (nearD n es), .no, .no]
  have hs := ok.small
  try simp only [t_closed_rows, endR, nearD, rowsD, enum_iv, dSeqS, dNext, dRet, dRetN, dIf, dDrop, dSet, dPar, dParN, setAll, dFor, dAppend, dExtend, dFreeze, dFreeze2, slotD, dAsg, dNever, dLend, dLendT, dVar, dC, dNil, dCons, dOp, dT, dAndT, dOrT, dNotT, dAndV, dOrV, dNotV, dIfE, dIs, dTup, dLst, dFr, dList, dLstR, dTupR, dRg1, dRg2, dSorted, dRange1, dRange2, dSeq, dEnum, dZip, dComp, wipeD, dCall, dCallKw, dSl, dPart, dNoPart, dYes, dPl, dIndexT, dIndexL, dIndexS, dTupF, gN, gT, gCs, gNl, vSh, vOw, vNil, vCons, vComp2, dDictComp, dNeg, dRep, dChain, spLen, spTuple, opIx20, opIx21, opIxG0, opIxG1, gd0, gdS, st0, stS, List.map_cons, List.map_nil, Bool.not_true, Bool.not_false, Bool.false_eq_true, ↓reduceIte]
  refine compD_list (r := fun i => .tup ((cls n es i).map D.int)) (fun i hi K k => ⟨rfl, ?_⟩) h
  try simp only [dSeqS, dNext, dRet, dRetN, dIf, dDrop, dSet, dPar, dParN, setAll, dFor, dAppend, dExtend, dFreeze, dFreeze2, slotD, dAsg, dNever, dLend, dLendT, dVar, dC, dNil, dCons, dOp, dT, dAndT, dOrT, dNotT, dAndV, dOrV, dNotV, dIfE, dIs, dTup, dLst, dFr, dList, dLstR, dTupR, dRg1, dRg2, dSorted, dRange1, dRange2, dSeq, dEnum, dZip, dComp, wipeD, dCall, dCallKw, dSl, dPart, dNoPart, dYes, dPl, dIndexT, dIndexL, dIndexS, dTupF, gN, gT, gCs, gNl, vSh, vOw, vNil, vCons, vComp2, dDictComp, dNeg, dRep, dChain, spLen, spTuple, opIx20, opIx21, opIxG0, opIxG1, gd0, gdS, st0, stS, List.map_cons, List.map_nil, Bool.not_true, Bool.not_false, Bool.false_eq_true, ↓reduceIte]
  refine ⟨by simp; decide, ?_⟩
  have hz := nbr_small (n := n) (es := es) (i := i)
  refine ⟨by have := sizeLine_eq; simp; omega, ?_⟩
  rw [show ((nbr n es i).map D.int ++ [D.int i]) = (nbr n es i ++ [i]).map D.int by simp]
  exact sorted_ints (cls_perm ok hi) (lt_le ((iv_lt 0 n).filter _)) k
def sp_check_sequence : DSp := fun ds Q => ∃ ts ss : List Int, ds = [.lst (ts.map D.int), .tup (ss.map D.int)] ∧ (∀ s ∈ ss, 0 ≤ s) ∧ ss.Perm ts ∧ Q .non
def t_check_sequence : TDS := (dSeqS (dIf (dOrT (dNotT (dT (dCall sp_are_naturals (dCons (dVar 1) dNil)))) (dT (dOp opNe (dFr (dSorted (dCons (dVar 1) dNil))) (dFr (dSorted (dCons (dVar 0) dNil)))))) (dSeqS dNever dNext) dNext) dNext)
theorem exists_sorted (ns : List Int) : ∃ ms : List Int, ms.Perm ns ∧ ms.Pairwise (· ≤ ·) := ⟨ns.mergeSort (fun a b => decide (a ≤ b)), List.mergeSort_perm _ _, by
  have := List.pairwise_mergeSort (le := fun a b : Int => decide (a ≤ b)) (fun a b c h1 h2 => by simp at *; omega) (fun a b => by simp; omega) ns
  exact this.imp fun h => by simpa using h⟩
theorem sorted_intsT {ns ms : List Int} {Q : List D → Prop} (hp : ms.Perm ns) (hs : ms.Pairwise (· ≤ ·)) (q : Q (ms.map D.int)) : spSorted [.tup (ns.map D.int)] Q := by
  show (match ints? (ns.map D.int) with
    | some ns => ∀ ms : List Int, ms.Perm ns → ms.Pairwise (· ≤ ·) → Q (ms.map .int)
    | none => _)
  rw [ints?_map]
  intro ks h1 h2
  rw [sorted_of_perm h1 h2 hp hs]
  exact q
theorem rd_check_sequence (ds : List D) (Q : D → Prop) (h : sp_check_sequence ds Q) : t_check_sequence (endR Q) (startN 2 ds) := by
  obtain ⟨ts, ss, rfl, h0, hp, h⟩ := h
  show t_check_sequence (endR Q) [.sh (.lst (ts.map D.int)), .sh (.tup (ss.map D.int))]
  try simp only [t_check_sequence, endR, sp_are_naturals, dSeqS, dNext, dRet, dRetN, dIf, dDrop, dSet, dPar, dParN, setAll, dFor, dAppend, dExtend, dFreeze, dFreeze2, slotD, dAsg, dNever, dLend, dLendT, dVar, dC, dNil, dCons, dOp, dT, dAndT, dOrT, dNotT, dAndV, dOrV, dNotV, dIfE, dIs, dTup, dLst, dFr, dList, dLstR, dTupR, dRg1, dRg2, dSorted, dRange1, dRange2, dSeq, dEnum, dZip, dComp, wipeD, dCall, dCallKw, dSl, dPart, dNoPart, dYes, dPl, dIndexT, dIndexL, dIndexS, dTupF, gN, gT, gCs, gNl, vSh, vOw, vNil, vCons, vComp2, dDictComp, dNeg, dRep, dChain, spLen, spTuple, opIx20, opIx21, opIxG0, opIxG1, gd0, gdS, st0, stS, List.map_cons, List.map_nil, Bool.not_true, Bool.not_false, Bool.false_eq_true, ↓reduceIte]
  refine ⟨rfl, ?_⟩
  have e : areNats (.tup (ss.map D.int)) = true := by
    show (ss.map D.int).all isNat = true
    rw [List.all_map, List.all_eq_true]
    intro s hs
    exact decide_eq_true (h0 s hs)
  rw [e]
  try simp only [dSeqS, dNext, dRet, dRetN, dIf, dDrop, dSet, dPar, dParN, setAll, dFor, dAppend, dExtend, dFreeze, dFreeze2, slotD, dAsg, dNever, dLend, dLendT, dVar, dC, dNil, dCons, dOp, dT, dAndT, dOrT, dNotT, dAndV, dOrV, dNotV, dIfE, dIs, dTup, dLst, dFr, dList, dLstR, dTupR, dRg1, dRg2, dSorted, dRange1, dRange2, dSeq, dEnum, dZip, dComp, wipeD, dCall, dCallKw, dSl, dPart, dNoPart, dYes, dPl, dIndexT, dIndexL, dIndexS, dTupF, gN, gT, gCs, gNl, vSh, vOw, vNil, vCons, vComp2, dDictComp, dNeg, dRep, dChain, spLen, spTuple, opIx20, opIx21, opIxG0, opIxG1, gd0, gdS, st0, stS, List.map_cons, List.map_nil, Bool.not_true, Bool.not_false, Bool.false_eq_true, ↓reduceIte]
  obtain ⟨ms, h1, h2⟩ := exists_sorted ts
  refine sorted_intsT (h1.trans hp.symm) h2 (sorted_ints h1 h2 (ne_self ?_ ?_))
  · exact eokd_ints 58 ms
  · exact h
def sp_is_graph : DSp := sp_is_graph_of
def t_is_graph : TDS := (dSeqS (dRet (dCall sp_is_graph_of (dCons (dVar 0) dNil))) dNext)
theorem rd_is_graph (ds : List D) (Q : D → Prop) (h : sp_is_graph ds Q) : t_is_graph (endR Q) (startN 1 ds) := by
  match ds, h with
  | [d], h => exact h
def sp_neighbours : DSp := fun ds Q => ∃ n es i, ds = [gD n es, .int i] ∧ GOk n es ∧ 0 ≤ i ∧ i < n ∧ Q (.tup ((nbr n es i).map D.int))
def t_neighbours : TDS := (dSeqS (dDrop (dCall sp_check_graph (dCons (dVar 0) dNil))) (dSeqS (dDrop (dCall sp_check_vertex (dCons (dOp opIx (dVar 0) (dC (.int 0))) (dCons (dVar 1) dNil)))) (dSeqS (dRet (dCall spTuple (dCons (dOp opIx (dCall sp_near_lists (dCons (dVar 0) dNil)) (dVar 1)) dNil))) dNext)))
theorem rd_neighbours (ds : List D) (Q : D → Prop) (h : sp_neighbours ds Q) : t_neighbours (endR Q) (startN 2 ds) := by
  obtain ⟨n, es, i, rfl, ok, h0, h1, h⟩ := h
  show t_neighbours (endR Q) [.sh (gD n es), .sh (.int i)]
  try simp only [t_neighbours, endR, sp_check_graph, sp_check_vertex, sp_near_lists, dSeqS, dNext, dRet, dRetN, dIf, dDrop, dSet, dPar, dParN, setAll, dFor, dAppend, dExtend, dFreeze, dFreeze2, slotD, dAsg, dNever, dLend, dLendT, dVar, dC, dNil, dCons, dOp, dT, dAndT, dOrT, dNotT, dAndV, dOrV, dNotV, dIfE, dIs, dTup, dLst, dFr, dList, dLstR, dTupR, dRg1, dRg2, dSorted, dRange1, dRange2, dSeq, dEnum, dZip, dComp, wipeD, dCall, dCallKw, dSl, dPart, dNoPart, dYes, dPl, dIndexT, dIndexL, dIndexS, dTupF, gN, gT, gCs, gNl, vSh, vOw, vNil, vCons, vComp2, dDictComp, dNeg, dRep, dChain, spLen, spTuple, opIx20, opIx21, opIxG0, opIxG1, gd0, gdS, st0, stS, List.map_cons, List.map_nil, Bool.not_true, Bool.not_false, Bool.false_eq_true, ↓reduceIte]
  refine ⟨ok.graph, ?_, n, es, rfl, ok, ?_⟩
  · show (decide (0 ≤ i) && decide (i < n)) = true
    rw [decide_eq_true h0, decide_eq_true h1]; rfl
  · exact ix_iv h0 h1 h
def sp_closed_table : DSp := fun ds Q => ∃ n es, ds = [gD n es] ∧ GOk n es ∧ Q (.tup [.int n, closedD n es])
def t_closed_table : TDS := (dSeqS (dDrop (dCall sp_check_graph (dCons (dVar 0) dNil))) (dSeqS (dRet (dTup (dCons (dOp opIx (dVar 0) (dC (.int 0))) (dCons (dCall sp_closed_rows (dCons (dCall sp_near_lists (dCons (dVar 0) dNil)) dNil)) dNil)))) dNext))
theorem rd_closed_table (ds : List D) (Q : D → Prop) (h : sp_closed_table ds Q) : t_closed_table (endR Q) (startN 1 ds) := by
  obtain ⟨n, es, rfl, ok, h⟩ := h
  show t_closed_table (endR Q) [.sh (gD n es)]
  try simp only [t_closed_table, endR, sp_check_graph, sp_near_lists, sp_closed_rows, dSeqS, dNext, dRet, dRetN, dIf, dDrop, dSet, dPar, dParN, setAll, dFor, dAppend, dExtend, dFreeze, dFreeze2, slotD, dAsg, dNever, dLend, dLendT, dVar, dC, dNil, dCons, dOp, dT, dAndT, dOrT, dNotT, dAndV, dOrV, dNotV, dIfE, dIs, dTup, dLst, dFr, dList, dLstR, dTupR, dRg1, dRg2, dSorted, dRange1, dRange2, dSeq, dEnum, dZip, dComp, wipeD, dCall, dCallKw, dSl, dPart, dNoPart, dYes, dPl, dIndexT, dIndexL, dIndexS, dTupF, gN, gT, gCs, gNl, vSh, vOw, vNil, vCons, vComp2, dDictComp, dNeg, dRep, dChain, spLen, spTuple, opIx20, opIx21, opIxG0, opIxG1, gd0, gdS, st0, stS, List.map_cons, List.map_nil, Bool.not_true, Bool.not_false, Bool.false_eq_true, ↓reduceIte]
  exact ⟨ok.graph, n, es, rfl, ok, n, es, rfl, ok, by simp; decide, h⟩

/-! the edges of a graph by pairs -/
def rowBy (n : Nat) (A : Int → Int → Bool) (i : Int) : List (Int × Int) := ((iv (i + 1) ((n : Int) - (i + 1)).toNat).filter (A i)).map fun j => (i, j)
def edgesBy (n : Nat) (A : Int → Int → Bool) : List (Int × Int) := (iv 0 n).flatMap (rowBy n A)
theorem mem_rowBy {n : Nat} {A : Int → Int → Bool} {i : Int} {p : Int × Int} : p ∈ rowBy n A i ↔ p.1 = i ∧ i < p.2 ∧ p.2 < n ∧ A i p.2 = true := by
  unfold rowBy
  rw [List.mem_map]
  constructor
  · rintro ⟨j, hj, rfl⟩
    rw [List.mem_filter, mem_iv] at hj
    refine ⟨rfl, ?_, ?_, hj.2⟩
    · show i < j; omega
    · show j < n; omega
  · rintro ⟨h1, h2, h3, h4⟩
    exact ⟨p.2, by rw [List.mem_filter, mem_iv]; exact ⟨by omega, h4⟩, Prod.ext h1.symm rfl⟩
theorem mem_edgesBy {n : Nat} {A : Int → Int → Bool} {p : Int × Int} : p ∈ edgesBy n A ↔ 0 ≤ p.1 ∧ p.1 < p.2 ∧ p.2 < n ∧ A p.1 p.2 = true := by
  unfold edgesBy
  rw [List.mem_flatMap]
  constructor
  · rintro ⟨i, hi, hp⟩
    rw [mem_iv] at hi
    obtain ⟨h1, h2, h3, h4⟩ := mem_rowBy.mp hp
    subst h1
    exact ⟨hi.1, h2, h3, h4⟩
  · rintro ⟨h1, h2, h3, h4⟩
    exact ⟨p.1, mem_iv.mpr (by omega), mem_rowBy.mpr ⟨rfl, h2, h3, h4⟩⟩
theorem rowBy_asc (n : Nat) (A : Int → Int → Bool) (i : Int) : (rowBy n A i).Pairwise lexLt := by
  unfold rowBy
  rw [List.pairwise_map]
  exact ((iv_lt _ _).filter _).imp fun h => .inr ⟨rfl, h⟩
theorem flat_asc {n : Nat} {A : Int → Int → Bool} : ∀ {l : List Int}, l.Pairwise (· < ·) → (l.flatMap (rowBy n A)).Pairwise lexLt
  | [], _ => .nil
  | i :: l, h => by
    rw [List.pairwise_cons] at h
    rw [List.flatMap_cons]
    refine List.pairwise_append.mpr ⟨rowBy_asc n A i, flat_asc h.2, fun p hp q hq => ?_⟩
    obtain ⟨h1, _⟩ := mem_rowBy.mp hp
    obtain ⟨j, hj, hq⟩ := List.mem_flatMap.mp hq
    obtain ⟨h2, _⟩ := mem_rowBy.mp hq
    exact .inl (by rw [h1, h2]; exact h.1 j hj)
theorem edgesBy_ok {n : Nat} (h : n ≤ 1000) (A : Int → Int → Bool) : GOk n (edgesBy n A) where
  small := h
  ok := fun p hp => by
    have := mem_edgesBy.mp hp
    exact ⟨this.1, this.2.1, this.2.2.1⟩
  asc := flat_asc (iv_lt 0 n)
theorem GOk.mem_lt {n : Nat} {es : List (Int × Int)} (ok : GOk n es) {i j : Int} (h : i < j) : (i, j) ∈ es ↔ adj es i j = true := by
  rw [mem_adj]
  constructor
  · exact .inl
  · rintro (q | q)
    · exact q
    · have := (ok.ok _ q).2.1
      simp at this
      omega
theorem GOk.by_adj {n : Nat} {es : List (Int × Int)} (ok : GOk n es) {A : Int → Int → Bool} (h : ∀ i j : Int, 0 ≤ i → i < j → j < n → A i j = adj es i j) : edgesBy n A = es := by
  refine sorted_ext lex_asym (edgesBy_ok ok.small A).asc ok.asc fun p => ?_
  rw [mem_edgesBy]
  constructor
  · rintro ⟨h1, h2, h3, h4⟩
    rw [h _ _ h1 h2 h3] at h4
    exact (ok.mem_lt h2).mpr h4
  · intro hp
    obtain ⟨h1, h2, h3⟩ := ok.ok p hp
    exact ⟨h1, h2, h3, by rw [h _ _ h1 h2 h3]; exact (ok.mem_lt h2).mp hp⟩
theorem adj_edgesBy {n : Nat} (hn : n ≤ 1000) {A : Int → Int → Bool} (sym : ∀ i j, A i j = A j i) {i j : Int} (h0 : 0 ≤ i) (h1 : i < n) (g0 : 0 ≤ j) (g1 : j < n) (hij : i ≠ j) : adj (edgesBy n A) i j = A i j := by
  rw [Bool.eq_iff_iff, mem_adj, mem_edgesBy, mem_edgesBy]
  constructor
  · rintro (⟨_, _, _, h⟩ | ⟨_, _, _, h⟩)
    · exact h
    · rw [sym]; exact h
  · intro h
    rcases Int.lt_or_gt_of_ne hij with q | q
    · exact .inl ⟨h0, q, g1, h⟩
    · exact .inr ⟨g0, q, h1, by rw [sym]; exact h⟩
theorem adj_sym (es : List (Int × Int)) (i j : Int) : adj es i j = adj es j i := by
  unfold adj
  rw [Bool.or_comm]
theorem edgesBy_congr {n : Nat} {A B : Int → Int → Bool} (hn : n ≤ 1000) (h : ∀ i j : Int, 0 ≤ i → i < j → j < n → A i j = B i j) : edgesBy n A = edgesBy n B := by
  refine sorted_ext lex_asym (edgesBy_ok hn A).asc (edgesBy_ok hn B).asc fun p => ?_
  rw [mem_edgesBy, mem_edgesBy]
  constructor
  · rintro ⟨h1, h2, h3, h4⟩
    exact ⟨h1, h2, h3, by rw [← h _ _ h1 h2 h3]; exact h4⟩
  · rintro ⟨h1, h2, h3, h4⟩
    exact ⟨h1, h2, h3, by rw [h _ _ h1 h2 h3]; exact h4⟩
/-! complement -/
def cpl (n : Nat) (es : List (Int × Int)) : List (Int × Int) := edgesBy n fun i j => !adj es i j
theorem cpl_cpl {n : Nat} {es : List (Int × Int)} (ok : GOk n es) : cpl n (cpl n es) = es := by
  refine ok.by_adj fun i j h0 h1 h2 => ?_
  show (!adj (edgesBy n fun i j => !adj es i j) i j) = _
  rw [adj_edgesBy ok.small (fun i j => by rw [adj_sym]) h0 (by omega) (by omega) h2 (by omega), Bool.not_not]
def sp_complement : DSp := fun ds Q => ∃ n es, ds = [gD n es] ∧ GOk n es ∧ Q (gD n (cpl n es))
def t_complement : TDS := (dSeqS (dDrop (dCall sp_check_graph (dCons (dVar 0) dNil))) (dSeqS (dParN [1, 2, 3] (vCons (vSh (dOp opIx (dVar 0) (dC (.int 0)))) (vCons (vSh (dCall sp_near_lists (dCons (dVar 0) dNil))) (vCons (vSh (dFr (dLst dNil))) vNil)))) (dSeqS (dFor (dRange1 (dCons (dVar 1) dNil)) (gN 4) (dSeqS (dSet 3 (vSh (dOp opAdd (dVar 3) (dFr (dComp (dRange2 (dCons (dOp opAdd (dVar 4) (dC (.int 1))) (dCons (dVar 1) dNil))) (gN 5) (dT (dOp (opInN true) (dVar 5) (dOp opIx (dVar 2) (dVar 4)))) (dTup (dCons (dVar 4) (dCons (dVar 5) dNil))) [5]))))) dNext)) (dSeqS (dRet (dTup (dCons (dVar 1) (dCons (dCall spTuple (dCons (dVar 3) dNil)) dNil)))) dNext))))
theorem rowBy_len (n : Nat) (A : Int → Int → Bool) (i : Int) (h : 0 ≤ i) : (rowBy n A i).length ≤ n := by
  unfold rowBy
  rw [List.length_map]
  have := List.length_filter_le (A i) (iv (i + 1) ((n : Int) - (i + 1)).toNat)
  rw [iv_length] at this
  omega
theorem flat_len2 {n : Nat} {A : Int → Int → Bool} : ∀ {l : List Int}, (∀ i ∈ l, 0 ≤ i) → (l.flatMap (rowBy n A)).length ≤ l.length * n
  | [], _ => by simp
  | i :: l, h => by
    rw [List.flatMap_cons, List.length_append, List.length_cons, Nat.succ_mul]
    have := flat_len2 (A := A) (n := n) fun j hj => h j (List.mem_cons_of_mem _ hj)
    have := rowBy_len n A i (h i List.mem_cons_self)
    omega
/-- a split of the ints from 0 -/
theorem iv_split {n : Nat} {done rest : List Int} {i : Int} (h : iv 0 n = done ++ i :: rest) : i = done.length ∧ done.length < n ∧ (∀ x ∈ done, 0 ≤ x ∧ x < i) ∧ done = iv 0 done.length := by
  have hl := congrArg List.length h
  rw [iv_length, List.length_append, List.length_cons] at hl
  have hi : (iv 0 n)[done.length]? = some i := by rw [h]; simp
  rw [iv_get (by omega)] at hi
  have e : (0 : Int) + (done.length : Nat) = i := Option.some.inj hi
  refine ⟨by omega, by omega, fun x hx => ?_, ?_⟩
  · obtain ⟨k, hk⟩ := List.mem_iff_getElem?.mp hx
    have hk2 := (List.getElem?_eq_some_iff.mp hk).1
    have : (iv 0 n)[k]? = some x := by rw [h, List.getElem?_append_left hk2]; exact hk
    rw [iv_get (by omega)] at this
    have := Option.some.inj this
    omega
  · apply List.ext_getElem?
    intro k
    by_cases hk : k < done.length
    · rw [iv_get hk]
      have : (iv 0 n)[k]? = done[k]? := by rw [h, List.getElem?_append_left hk]
      rw [← this, iv_get (by omega)]
    · rw [List.getElem?_eq_none (by omega), List.getElem?_eq_none (by rw [iv_length]; omega)]
theorem rgb2 {n : Nat} {i : Int} (h : n ≤ 1000) (h0 : 0 ≤ i) (h1 : i < n) : RgB (i + 1) (n : Int) := ⟨by omega, by omega, by omega, by omega⟩
/-- a loop over ints in a row -/
theorem loopD_iv {g : TDG} {body : TDS} {K : DEnds} {n : Nat} (I : List Int → DEnv → Prop) (h : ∀ done i rest, iv 0 n = done ++ i :: rest → ∀ ρ, I done ρ → ∀ N : DEnv → Prop, (∀ ρ', I (done ++ [i]) ρ' → N ρ') → g (.int i) ρ fun ρ' => body { K with nx := N, ct := N, bk := K.nx } ρ')
    (fin : ∀ ρ, I (iv 0 n) ρ → K.nx ρ) {ρ : DEnv} (h0 : I [] ρ) : loopD g body K (rng 0 n) ρ := by
  rw [rng_iv]
  refine loopD_ind (fun done ρ => ∃ l r, iv 0 n = l ++ r ∧ done = l.map D.int ∧ I l ρ) ?_ ?_ (done := []) rfl ⟨[], iv 0 n, rfl, rfl, h0⟩
  · rintro done d rest e ρ ⟨l, r, e1, rfl, hi⟩ N hN
    cases r with
    | nil =>
      rw [List.append_nil] at e1
      rw [e1] at e
      simp at e
    | cons i r =>
      have ed : d = .int i := by
        rw [e1, List.map_append] at e
        have := List.append_cancel_left e
        simp at this
        exact this.1.symm
      subst ed
      exact h l i r e1 ρ hi N fun ρ' i' => hN ρ' ⟨l ++ [i], r, by simp [e1], by simp, i'⟩
  · rintro ρ ⟨l, r, e1, e2, hi⟩
    have e3 : iv 0 n = l := by
      have e4 : (l ++ r).length = l.length := by rw [← e1]; simpa using congrArg List.length e2
      rw [List.length_append] at e4
      have : r = [] := List.eq_nil_of_length_eq_zero (by omega)
      rw [this, List.append_nil] at e1
      exact e1
    rw [← e3] at hi
    exact fin ρ hi
theorem rd_complement (ds : List D) (Q : D → Prop) (h : sp_complement ds Q) : t_complement (endR Q) (startN 6 ds) := by
  obtain ⟨n, es, rfl, ok, h⟩ := h
  show t_complement (endR Q) [.sh (gD n es), .no, .no, .no, .no, .no]
  have hs := ok.small
  try simp only [t_complement, endR, sp_check_graph, sp_near_lists, dSeqS, dNext, dRet, dRetN, dIf, dDrop, dSet, dPar, dParN, setAll, dFor, dAppend, dExtend, dFreeze, dFreeze2, slotD, dAsg, dNever, dLend, dLendT, dVar, dC, dNil, dCons, dOp, dT, dAndT, dOrT, dNotT, dAndV, dOrV, dNotV, dIfE, dIs, dTup, dLst, dFr, dList, dLstR, dTupR, dRg1, dRg2, dSorted, dRange1, dRange2, dSeq, dEnum, dZip, dComp, wipeD, dCall, dCallKw, dSl, dPart, dNoPart, dYes, dPl, dIndexT, dIndexL, dIndexS, dTupF, gN, gT, gCs, gNl, vSh, vOw, vNil, vCons, vComp2, dDictComp, dNeg, dRep, dChain, spLen, spTuple, opIx20, opIx21, opIxG0, opIxG1, gd0, gdS, st0, stS, List.map_cons, List.map_nil, Bool.not_true, Bool.not_false, Bool.false_eq_true, ↓reduceIte]
  refine ⟨ok.graph, n, es, rfl, ok, Nat.zero_le _, ⟨rfl, rfl⟩, ?_⟩
  try simp only [dSeqS, dNext, dRet, dRetN, dIf, dDrop, dSet, dPar, dParN, setAll, dFor, dAppend, dExtend, dFreeze, dFreeze2, slotD, dAsg, dNever, dLend, dLendT, dVar, dC, dNil, dCons, dOp, dT, dAndT, dOrT, dNotT, dAndV, dOrV, dNotV, dIfE, dIs, dTup, dLst, dFr, dList, dLstR, dTupR, dRg1, dRg2, dSorted, dRange1, dRange2, dSeq, dEnum, dZip, dComp, wipeD, dCall, dCallKw, dSl, dPart, dNoPart, dYes, dPl, dIndexT, dIndexL, dIndexS, dTupF, gN, gT, gCs, gNl, vSh, vOw, vNil, vCons, vComp2, dDictComp, dNeg, dRep, dChain, spLen, spTuple, opIx20, opIx21, opIxG0, opIxG1, gd0, gdS, st0, stS, List.map_cons, List.map_nil, Bool.not_true, Bool.not_false, Bool.false_eq_true, ↓reduceIte]
  refine ⟨rgb0 hs, ?_⟩
  rw [Int.toNat_natCast]
  refine loopD_iv (fun done ρ => ∃ s4, ρ = [.sh (gD n es), .sh (.int n), .sh (nearD n es), .sh (.lst ((done.flatMap (rowBy n fun i j => !adj es i j)).map pairD)), s4, .no]) ?_ ?_ ⟨.no, rfl⟩
  · rintro done i rest e ρ ⟨s4, rfl⟩ N hN
    obtain ⟨h1, h2, h3, h4⟩ := iv_split e
    try simp only [dSeqS, dNext, dRet, dRetN, dIf, dDrop, dSet, dPar, dParN, setAll, dFor, dAppend, dExtend, dFreeze, dFreeze2, slotD, dAsg, dNever, dLend, dLendT, dVar, dC, dNil, dCons, dOp, dT, dAndT, dOrT, dNotT, dAndV, dOrV, dNotV, dIfE, dIs, dTup, dLst, dFr, dList, dLstR, dTupR, dRg1, dRg2, dSorted, dRange1, dRange2, dSeq, dEnum, dZip, dComp, wipeD, dCall, dCallKw, dSl, dPart, dNoPart, dYes, dPl, dIndexT, dIndexL, dIndexS, dTupF, gN, gT, gCs, gNl, vSh, vOw, vNil, vCons, vComp2, dDictComp, dNeg, dRep, dChain, spLen, spTuple, opIx20, opIx21, opIxG0, opIxG1, gd0, gdS, st0, stS, List.map_cons, List.map_nil, Bool.not_true, Bool.not_false, Bool.false_eq_true, ↓reduceIte]
    refine ⟨rgb2 hs (by omega) (by omega), ?_⟩
    rw [rng_iv]
    refine compD_filter (r := fun j => pairD (i, j)) (p := fun j => !adj es i j) (fun j hj K L k => ?_) ?_
    · rw [mem_iv] at hj
      try simp only [dSeqS, dNext, dRet, dRetN, dIf, dDrop, dSet, dPar, dParN, setAll, dFor, dAppend, dExtend, dFreeze, dFreeze2, slotD, dAsg, dNever, dLend, dLendT, dVar, dC, dNil, dCons, dOp, dT, dAndT, dOrT, dNotT, dAndV, dOrV, dNotV, dIfE, dIs, dTup, dLst, dFr, dList, dLstR, dTupR, dRg1, dRg2, dSorted, dRange1, dRange2, dSeq, dEnum, dZip, dComp, wipeD, dCall, dCallKw, dSl, dPart, dNoPart, dYes, dPl, dIndexT, dIndexL, dIndexS, dTupF, gN, gT, gCs, gNl, vSh, vOw, vNil, vCons, vComp2, dDictComp, dNeg, dRep, dChain, spLen, spTuple, opIx20, opIx21, opIxG0, opIxG1, gd0, gdS, st0, stS, List.map_cons, List.map_nil, Bool.not_true, Bool.not_false, Bool.false_eq_true, ↓reduceIte]
      refine ix_iv (by omega) (by omega) (notin_ints ?_)
      have e1 : decide (j ∈ nbr n es i) = adj es i j := by
        rw [Bool.eq_iff_iff, decide_eq_true_eq]
        unfold nbr
        rw [List.mem_filter, mem_iv]
        exact ⟨fun q => q.2, fun q => ⟨by omega, q⟩⟩
      rw [e1]
      try simp only [dSeqS, dNext, dRet, dRetN, dIf, dDrop, dSet, dPar, dParN, setAll, dFor, dAppend, dExtend, dFreeze, dFreeze2, slotD, dAsg, dNever, dLend, dLendT, dVar, dC, dNil, dCons, dOp, dT, dAndT, dOrT, dNotT, dAndV, dOrV, dNotV, dIfE, dIs, dTup, dLst, dFr, dList, dLstR, dTupR, dRg1, dRg2, dSorted, dRange1, dRange2, dSeq, dEnum, dZip, dComp, wipeD, dCall, dCallKw, dSl, dPart, dNoPart, dYes, dPl, dIndexT, dIndexL, dIndexS, dTupF, gN, gT, gCs, gNl, vSh, vOw, vNil, vCons, vComp2, dDictComp, dNeg, dRep, dChain, spLen, spTuple, opIx20, opIx21, opIxG0, opIxG1, gd0, gdS, st0, stS, List.map_cons, List.map_nil, Bool.not_true, Bool.not_false, Bool.false_eq_true, ↓reduceIte]
      by_cases q : adj es i j = true
      · rw [q] at k ⊢; exact k
      · rw [Bool.eq_false_iff.mpr q] at k ⊢
        exact ⟨by simp; decide, k⟩
    · rw [List.nil_append]
      have hl := flat_len2 (n := n) (A := fun i j => !adj es i j) (l := done) fun x hx => (h3 x hx).1
      have hr := rowBy_len n (fun i j => !adj es i j) i (by omega)
      have hr2 : ((iv (i + 1) ((n : Int) - (i + 1)).toNat).filter fun j => !adj es i j).length ≤ n := by unfold rowBy at hr; rw [List.length_map] at hr; exact hr
      have hm : done.length * n ≤ 1000 * 1000 := Nat.mul_le_mul (by omega) hs
      refine ⟨?_, hN _ ⟨.sh (.int i), ?_⟩⟩
      · rw [List.length_map, List.length_map, sizeLine_eq]; omega
      · congr 5
        rw [List.flatMap_append, List.map_append]
        congr 1
        simp [rowBy]
  · rintro ρ ⟨s4, rfl⟩
    try simp only [dSeqS, dNext, dRet, dRetN, dIf, dDrop, dSet, dPar, dParN, setAll, dFor, dAppend, dExtend, dFreeze, dFreeze2, slotD, dAsg, dNever, dLend, dLendT, dVar, dC, dNil, dCons, dOp, dT, dAndT, dOrT, dNotT, dAndV, dOrV, dNotV, dIfE, dIs, dTup, dLst, dFr, dList, dLstR, dTupR, dRg1, dRg2, dSorted, dRange1, dRange2, dSeq, dEnum, dZip, dComp, wipeD, dCall, dCallKw, dSl, dPart, dNoPart, dYes, dPl, dIndexT, dIndexL, dIndexS, dTupF, gN, gT, gCs, gNl, vSh, vOw, vNil, vCons, vComp2, dDictComp, dNeg, dRep, dChain, spLen, spTuple, opIx20, opIx21, opIxG0, opIxG1, gd0, gdS, st0, stS, List.map_cons, List.map_nil, Bool.not_true, Bool.not_false, Bool.false_eq_true, ↓reduceIte]
    exact ⟨by simp; decide, h⟩

/-! ### sequences of all vertices -/
def atW (way : List Int) (a : Int) : Int := way.getD a.toNat 0
def posW (way : List Int) (v : Int) : Int := (way.idxOf v : Nat)
structure WayOk (n : Nat) (way : List Int) : Prop where
  perm : way.Perm (iv 0 n)
section
variable {n : Nat} {way : List Int}
theorem WayOk.len (w : WayOk n way) : way.length = n := by rw [w.perm.length_eq, iv_length]
theorem WayOk.nd (w : WayOk n way) : way.Nodup := w.perm.nodup_iff.mpr (lt_nodup (iv_lt 0 n))
theorem WayOk.mem (w : WayOk n way) {v : Int} : v ∈ way ↔ 0 ≤ v ∧ v < n := by rw [w.perm.mem_iff, mem_iv]; omega
theorem WayOk.pos_lt (w : WayOk n way) {v : Int} (h : v ∈ way) : 0 ≤ posW way v ∧ posW way v < n := by
  have := List.idxOf_lt_length_iff.mpr h
  rw [w.len] at this
  unfold posW
  omega
theorem WayOk.at_pos (w : WayOk n way) {v : Int} (h : v ∈ way) : atW way (posW way v) = v := by
  unfold atW posW
  rw [Int.toNat_natCast, List.getD_eq_getElem?_getD, (idx_facts h).1]; rfl
theorem WayOk.at_mem (w : WayOk n way) {a : Int} (h0 : 0 ≤ a) (h1 : a < n) : atW way a ∈ way := by
  unfold atW
  have : a.toNat < way.length := by rw [w.len]; omega
  rw [List.getD_eq_getElem?_getD, List.getElem?_eq_getElem this]
  exact List.getElem_mem this
theorem WayOk.pos_at (w : WayOk n way) {a : Int} (h0 : 0 ≤ a) (h1 : a < n) : posW way (atW way a) = a := by
  unfold atW posW
  have : a.toNat < way.length := by rw [w.len]; omega
  rw [List.getD_eq_getElem?_getD, List.getElem?_eq_getElem this]
  show ((way.idxOf way[a.toNat] : Nat) : Int) = a
  rw [w.nd.idxOf_getElem]
  omega
theorem WayOk.pos_inj (w : WayOk n way) {v u : Int} (hv : v ∈ way) (hu : u ∈ way) (e : posW way v = posW way u) : v = u := by
  rw [← w.at_pos hv, ← w.at_pos hu, e]
theorem WayOk.map (w : WayOk n way) : way = (iv 0 n).map (atW way) := by
  apply List.ext_getElem?
  intro k
  rw [List.getElem?_map]
  by_cases hk : k < n
  · rw [iv_get hk]
    show _ = some (atW way (0 + (k : Nat)))
    unfold atW
    have : k < way.length := by rw [w.len]; omega
    rw [show (0 + (k : Int)).toNat = k by omega, List.getD_eq_getElem?_getD, List.getElem?_eq_getElem this]; rfl
  · rw [List.getElem?_eq_none (by rw [w.len]; omega), List.getElem?_eq_none (by rw [iv_length]; omega)]; rfl
theorem WayOk.mapD (w : WayOk n way) : way.map D.int = (iv 0 n).map fun k => D.int (atW way k) := by
  have := congrArg (List.map D.int) w.map
  rw [List.map_map] at this
  exact this
end
/-! dicts of ints -/
def kvI (l : List (Int × Int)) : List (Key × D) := l.map fun p => (Sum.inl p.1, D.int p.2)
theorem kput_new {kvs : List (Key × D)} {k : Key} {d : D} (h : ∀ p ∈ kvs, p.1 ≠ k) : kput kvs k d = kvs ++ [(k, d)] := by
  unfold kput
  rw [if_neg]
  intro e
  rw [List.any_eq_true] at e
  obtain ⟨p, hp, e⟩ := e
  exact h p hp (of_decide_eq_true e)
theorem kvI_keys {l : List (Int × Int)} {k : Int} (h : k ∉ l.map (·.1)) : ∀ p ∈ kvI l, p.1 ≠ Sum.inl k := by
  intro p hp
  unfold kvI at hp
  obtain ⟨q, hq, rfl⟩ := List.mem_map.mp hp
  intro e
  have e : q.1 = k := Sum.inl.inj e
  exact h (List.mem_map.mpr ⟨q, hq, e⟩)
theorem kmerge_kvI : ∀ {l m : List (Int × Int)}, ((m ++ l).map (·.1)).Nodup → kmerge (kvI m) (kvI l) = kvI (m ++ l)
  | [], m, _ => by rw [List.append_nil]; rfl
  | p :: l, m, h => by
    have hk : p.1 ∉ m.map (·.1) := fun q => by
      rw [List.map_append, List.nodup_append] at h
      exact h.2.2 _ q _ (by simp) rfl
    show kmerge (kput (kvI m) (Sum.inl p.1) (D.int p.2)) (kvI l) = _
    rw [kput_new (kvI_keys hk)]
    have e : kvI m ++ [(Sum.inl p.1, D.int p.2)] = kvI (m ++ [p]) := by simp [kvI]
    rw [e, kmerge_kvI (by simpa using h)]
    simp
theorem kval_kvI : ∀ {l : List (Int × Int)} {k x : Int}, (l.map (·.1)).Nodup → (k, x) ∈ l → kval (kvI l) (Sum.inl k) = some (.int x)
  | [], _, _, _, h => by cases h
  | p :: l, k, x, h, m => by
    rw [List.map_cons, List.nodup_cons] at h
    unfold kval kvI
    rw [List.map_cons, List.find?_cons]
    by_cases e : p.1 = k
    · have : decide ((Sum.inl p.1 : Key) = Sum.inl k) = true := decide_eq_true (by rw [e])
      simp only [this]
      rcases List.mem_cons.mp m with q | q
      · rw [← q]; rfl
      · exact absurd (List.mem_map.mpr ⟨(k, x), q, e.symm⟩) h.1
    · have : decide ((Sum.inl p.1 : Key) = Sum.inl k) = false := decide_eq_false fun q => e (Sum.inl.inj q)
      simp only [this]
      rcases List.mem_cons.mp m with q | q
      · exact absurd (by rw [← q]) e
      · exact kval_kvI h.2 q
theorem dget_kvI {l : List (Int × Int)} {k x : Int} {Q : D → Prop} (h : (l.map (·.1)).Nodup) (m : (k, x) ∈ l) (q : Q (.int x)) : opDget (mkD (kvI l)) (.int k) Q := by
  show (match kval (((kvI l).map (·.1)).zip ((kvI l).map (·.2))) (Sum.inl k) with | some d => Q d | none => False)
  rw [zip_mkD, kval_kvI h m]
  exact q
theorem kvs?_kvI {α : Type} {k v : α → Int} : ∀ l : List α, kvs? (l.map fun a => D.tup [.int (k a), .int (v a)]) = some (kvI (l.map fun a => (k a, v a)))
  | [] => rfl
  | a :: l => by
    show (match keyD (.int (k a)) with | some q => (kvs? (l.map fun a => D.tup [.int (k a), .int (v a)])).map ((q, D.int (v a)) :: ·) | none => none) = _
    rw [kvs?_kvI l]; rfl
theorem compK_ints {α : Type} {g : TDG} {tk tv : TD} {ρ : DEnv} {q : α → D} {kf vf : α → Int} : ∀ {l : List α} {m : List (Int × Int)} {Q : List (Key × D) → Prop},
    (∀ a ∈ l, ∀ K : D → D → Prop, K (.int (kf a)) (.int (vf a)) → g (q a) ρ fun ρ2 => tk ρ2 fun y => tv ρ2 fun e => K y e) → ((m ++ l.map fun a => (kf a, vf a)).map (·.1)).Nodup → Q (kvI (m ++ l.map fun a => (kf a, vf a))) → compK g dYes tk tv ρ (l.map q) (kvI m) Q
  | [], m, Q, _, _, h => by
    rw [List.map_nil, List.append_nil] at h
    exact h
  | a :: l, m, Q, h, nd, k => by
    rw [List.map_cons]
    unfold compK
    refine h a List.mem_cons_self (fun y e => match keyD y with
      | some q => compK g dYes tk tv ρ _ (kput _ q e) Q
      | none => False) ?_
    have hk : kf a ∉ m.map (·.1) := fun z => by
      rw [List.map_append, List.nodup_append] at nd
      exact nd.2.2 _ z _ (by simp) rfl
    show compK g dYes tk tv ρ (l.map q) (kput (kvI m) (Sum.inl (kf a)) (D.int (vf a))) Q
    rw [kput_new (kvI_keys hk)]
    have e : kvI m ++ [(Sum.inl (kf a), D.int (vf a))] = kvI (m ++ [(kf a, vf a)]) := by simp [kvI]
    rw [e]
    exact compK_ints (fun b hb => h b (List.mem_cons_of_mem _ hb)) (by simpa using nd) (by simpa using k)
/-! the graph led along a way -/
def ledP (way : List Int) (p : Int × Int) : Int × Int := (min (posW way p.1) (posW way p.2), max (posW way p.1) (posW way p.2))
def ledG (n : Nat) (way : List Int) (es : List (Int × Int)) : List (Int × Int) := edgesBy n fun a b => adj es (atW way a) (atW way b)
theorem led_perm {n : Nat} {way : List Int} {es : List (Int × Int)} (ok : GOk n es) (w : WayOk n way) : (ledG n way es).Perm (es.map (ledP way)) := by
  have mm : ∀ p ∈ es, p.1 ∈ way ∧ p.2 ∈ way := fun p hp => by
    have := ok.ok p hp
    exact ⟨w.mem.mpr (by omega), w.mem.mpr (by omega)⟩
  rw [List.perm_ext_iff_of_nodup]
  · intro x
    unfold ledG
    rw [mem_edgesBy, List.mem_map]
    constructor
    · rintro ⟨h0, h1, h2, h3⟩
      have e1 := w.pos_at h0 (by omega)
      have e2 := w.pos_at (a := x.2) (by omega) h2
      rcases mem_adj.mp h3 with q | q
      · refine ⟨_, q, ?_⟩
        unfold ledP
        show (min (posW way (atW way x.1)) (posW way (atW way x.2)), max (posW way (atW way x.1)) (posW way (atW way x.2))) = x
        rw [e1, e2]
        exact Prod.ext (by show min x.1 x.2 = x.1; omega) (by show max x.1 x.2 = x.2; omega)
      · refine ⟨_, q, ?_⟩
        unfold ledP
        show (min (posW way (atW way x.2)) (posW way (atW way x.1)), max (posW way (atW way x.2)) (posW way (atW way x.1))) = x
        rw [e1, e2]
        exact Prod.ext (by show min x.2 x.1 = x.1; omega) (by show max x.2 x.1 = x.2; omega)
    · rintro ⟨p, hp, rfl⟩
      obtain ⟨m1, m2⟩ := mm p hp
      have h1 := w.pos_lt m1
      have h2 := w.pos_lt m2
      have h3 := ok.ok p hp
      have ne : posW way p.1 ≠ posW way p.2 := fun e => by have := w.pos_inj m1 m2 e; omega
      unfold ledP
      refine ⟨by show 0 ≤ min _ _; omega, by show min _ _ < max _ _; omega, by show max _ _ < _; omega, ?_⟩
      show adj es (atW way (min (posW way p.1) (posW way p.2))) (atW way (max (posW way p.1) (posW way p.2))) = true
      rcases Int.lt_or_gt_of_ne ne with q | q
      · rw [Int.min_eq_left (by omega), Int.max_eq_right (by omega), w.at_pos m1, w.at_pos m2]
        exact mem_adj.mpr (.inl hp)
      · rw [Int.min_eq_right (by omega), Int.max_eq_left (by omega), w.at_pos m1, w.at_pos m2]
        exact mem_adj.mpr (.inr hp)
  · exact (edgesBy_ok ok.small _).asc.imp fun h e => by subst e; exact lex_asym _ _ h h
  · show (es.map (ledP way)).Pairwise (· ≠ ·)
    rw [List.pairwise_map]
    refine List.Pairwise.imp_of_mem (fun {p q} hp hq h e => ?_) ok.asc
    obtain ⟨a1, a2⟩ := mm p hp
    obtain ⟨b1, b2⟩ := mm q hq
    have h3 := ok.ok p hp
    have h4 := ok.ok q hq
    unfold ledP at e
    have e1 : min (posW way p.1) (posW way p.2) = min (posW way q.1) (posW way q.2) := congrArg Prod.fst e
    have e2 : max (posW way p.1) (posW way p.2) = max (posW way q.1) (posW way q.2) := congrArg Prod.snd e
    have : (posW way p.1 = posW way q.1 ∧ posW way p.2 = posW way q.2) ∨ (posW way p.1 = posW way q.2 ∧ posW way p.2 = posW way q.1) := by omega
    rcases this with ⟨z1, z2⟩ | ⟨z1, z2⟩
    · have y1 := w.pos_inj a1 b1 z1
      have y2 := w.pos_inj a2 b2 z2
      unfold lexLt at h
      omega
    · have y1 := w.pos_inj a1 b2 z1
      have y2 := w.pos_inj a2 b1 z2
      omega
theorem lex_le {l : List (Int × Int)} (h : l.Pairwise lexLt) : l.Pairwise lexLe := h.imp fun h => by unfold lexLt at h; unfold lexLe; omega
theorem ledG_ok {n : Nat} (h : n ≤ 1000) (way : List Int) (es : List (Int × Int)) : GOk n (ledG n way es) := edgesBy_ok h _
theorem pairs_not_ints {p : Int × Int} {ps : List (Int × Int)} : ints? ((p :: ps).map pairD) = none := rfl
/-- sorted of pairs whose ascending order is known -/
theorem sorted_prs {ns ms : List (Int × Int)} {Q : List D → Prop} (hp : ms.Perm ns) (hs : ms.Pairwise lexLe) (q : Q (ms.map pairD)) : spSorted [.lst (ns.map pairD)] Q := by
  cases ns with
  | nil =>
    have := List.Perm.eq_nil hp
    subst this
    show ∀ ms : List Int, ms.Perm [] → ms.Pairwise (· ≤ ·) → Q (ms.map .int)
    intro ks h1 h2
    rw [List.Perm.eq_nil h1]
    exact q
  | cons p ps =>
    show (match pairs? ((p :: ps).map pairD) with
      | some ps => ∀ qs : List (Int × Int), qs.Perm ps → qs.Pairwise lexLe → Q (qs.map pairD)
      | none => False)
    rw [pairs?_map]
    intro ks h1 h2
    rw [sorted_pairs h1 h2 hp hs]
    exact q
def plc (way : List Int) (n : Nat) : List (Int × Int) := (iv 0 n).map fun k => (atW way k, k)
theorem plc_nd {n : Nat} {way : List Int} (w : WayOk n way) : ((plc way n).map (·.1)).Nodup := by
  have e : (plc way n).map (·.1) = way := by
    unfold plc
    rw [List.map_map]
    exact w.map.symm
  rw [e]
  exact w.nd
theorem plc_mem {n : Nat} {way : List Int} (w : WayOk n way) {v : Int} (h : v ∈ way) : (v, posW way v) ∈ plc way n := by
  unfold plc
  have := w.pos_lt h
  exact List.mem_map.mpr ⟨posW way v, mem_iv.mpr (by omega), by rw [w.at_pos h]⟩
def sp_renamed_graph : DSp := fun ds Q => ∃ n es way, ds = [gD n es, .tup (way.map D.int)] ∧ GOk n es ∧ WayOk n way ∧ Q (gD n (ledG n way es))
def t_renamed_graph : TDS := (dSeqS (dDrop (dCall sp_check_graph (dCons (dVar 0) dNil))) (dSeqS (dDrop (dCall sp_check_sequence (dCons (dFr (dLstR (dRg1 (dOp opIx (dVar 0) (dC (.int 0)))))) (dCons (dVar 1) dNil)))) (dSeqS (dSet 2 (vSh (dDictComp (dEnum (dCons (dVar 1) dNil)) (gT 2 (gCs (gN 3) (gCs (gN 4) gNl))) dYes (dVar 4) (dVar 3) [3, 4]))) (dSeqS (dSet 5 (vSh (dFr (dComp (dSeq (dOp opIx (dVar 0) (dC (.int 1)))) (gT 2 (gCs (gN 6) (gCs (gN 7) gNl))) dYes (dCall spTuple (dCons (dFr (dSorted (dCons (dFr (dLst (dCons (dOp opDget (dVar 2) (dVar 6)) (dCons (dOp opDget (dVar 2) (dVar 7)) dNil)))) dNil))) dNil)) [6, 7])))) (dSeqS (dRet (dTup (dCons (dOp opIx (dVar 0) (dC (.int 0))) (dCons (dCall spTuple (dCons (dFr (dSorted (dCons (dVar 5) dNil))) dNil)) dNil)))) dNext)))))
theorem rd_renamed_graph (ds : List D) (Q : D → Prop) (h : sp_renamed_graph ds Q) : t_renamed_graph (endR Q) (startN 8 ds) := by
  obtain ⟨n, es, way, rfl, ok, w, h⟩ := h
  show t_renamed_graph (endR Q) [.sh (gD n es), .sh (.tup (way.map D.int)), .no, .no, .no, .no, .no, .no]
  have hs := ok.small
  try simp only [t_renamed_graph, endR, sp_check_graph, sp_check_sequence, dSeqS, dNext, dRet, dRetN, dIf, dDrop, dSet, dPar, dParN, setAll, dFor, dAppend, dExtend, dFreeze, dFreeze2, slotD, dAsg, dNever, dLend, dLendT, dVar, dC, dNil, dCons, dOp, dT, dAndT, dOrT, dNotT, dAndV, dOrV, dNotV, dIfE, dIs, dTup, dLst, dFr, dList, dLstR, dTupR, dRg1, dRg2, dSorted, dRange1, dRange2, dSeq, dEnum, dZip, dComp, wipeD, dCall, dCallKw, dSl, dPart, dNoPart, dYes, dPl, dIndexT, dIndexL, dIndexS, dTupF, gN, gT, gCs, gNl, vSh, vOw, vNil, vCons, vComp2, dDictComp, dNeg, dRep, dChain, spLen, spTuple, opIx20, opIx21, opIxG0, opIxG1, gd0, gdS, st0, stS, List.map_cons, List.map_nil, Bool.not_true, Bool.not_false, Bool.false_eq_true, ↓reduceIte]
  refine ⟨ok.graph, rgb0 hs, iv 0 n, way, ?_, fun s h => (w.mem.mp h).1, w.perm, ?_⟩
  · rw [show ((n : Int) - 0).toNat = n by omega, rng_iv]
  rw [w.mapD, enum_iv]
  refine compK_ints (m := []) (kf := fun k => atW way k) (vf := fun k => k) (fun k hk K q => ⟨rfl, q⟩) (plc_nd w) ?_
  refine compD_list (r := fun p => pairD (ledP way p)) (fun p hp K k => ⟨rfl, ?_⟩) ?_
  · try simp only [dSeqS, dNext, dRet, dRetN, dIf, dDrop, dSet, dPar, dParN, setAll, dFor, dAppend, dExtend, dFreeze, dFreeze2, slotD, dAsg, dNever, dLend, dLendT, dVar, dC, dNil, dCons, dOp, dT, dAndT, dOrT, dNotT, dAndV, dOrV, dNotV, dIfE, dIs, dTup, dLst, dFr, dList, dLstR, dTupR, dRg1, dRg2, dSorted, dRange1, dRange2, dSeq, dEnum, dZip, dComp, wipeD, dCall, dCallKw, dSl, dPart, dNoPart, dYes, dPl, dIndexT, dIndexL, dIndexS, dTupF, gN, gT, gCs, gNl, vSh, vOw, vNil, vCons, vComp2, dDictComp, dNeg, dRep, dChain, spLen, spTuple, opIx20, opIx21, opIxG0, opIxG1, gd0, gdS, st0, stS, List.map_cons, List.map_nil, Bool.not_true, Bool.not_false, Bool.false_eq_true, ↓reduceIte]
    have := ok.ok p hp
    have m1 : p.1 ∈ way := w.mem.mpr (by omega)
    have m2 : p.2 ∈ way := w.mem.mpr (by omega)
    refine dget_kvI (plc_nd w) (plc_mem w m1) (dget_kvI (plc_nd w) (plc_mem w m2) ⟨by simp; decide, ?_⟩)
    refine sorted_ints (ns := [posW way p.1, posW way p.2]) (ms := [(ledP way p).1, (ledP way p).2]) ?_ ?_ k
    · unfold ledP
      by_cases q : posW way p.1 ≤ posW way p.2
      · show [min _ _, max _ _].Perm _
        rw [Int.min_eq_left q, Int.max_eq_right q]
      · show [min _ _, max _ _].Perm _
        rw [Int.min_eq_right (by omega), Int.max_eq_left (by omega)]
        exact .swap _ _ _
    · unfold ledP
      simp
      omega
  · try simp only [dSeqS, dNext, dRet, dRetN, dIf, dDrop, dSet, dPar, dParN, setAll, dFor, dAppend, dExtend, dFreeze, dFreeze2, slotD, dAsg, dNever, dLend, dLendT, dVar, dC, dNil, dCons, dOp, dT, dAndT, dOrT, dNotT, dAndV, dOrV, dNotV, dIfE, dIs, dTup, dLst, dFr, dList, dLstR, dTupR, dRg1, dRg2, dSorted, dRange1, dRange2, dSeq, dEnum, dZip, dComp, wipeD, dCall, dCallKw, dSl, dPart, dNoPart, dYes, dPl, dIndexT, dIndexL, dIndexS, dTupF, gN, gT, gCs, gNl, vSh, vOw, vNil, vCons, vComp2, dDictComp, dNeg, dRep, dChain, spLen, spTuple, opIx20, opIx21, opIxG0, opIxG1, gd0, gdS, st0, stS, List.map_cons, List.map_nil, Bool.not_true, Bool.not_false, Bool.false_eq_true, ↓reduceIte]
    rw [List.nil_append, show (es.map fun p => pairD (ledP way p)) = (es.map (ledP way)).map pairD by simp]
    exact sorted_prs (led_perm ok w) (lex_le (ledG_ok hs way es).asc) ⟨by simp; decide, h⟩

/-! ### the law's own helpers -/
def sp__law_dip : DSp := fun ds Q => match ds with
  | [.well, .int n] => (1 ≤ n ∧ n < 1073741824) ∧ ∀ r : Int, 0 ≤ r → r < n → Q (.int r)
  | _ => False
/-- what _law_like compares: no list -/
def likeD : Nat → D → Bool
  | 0, _ => false
  | n + 1, d => match d with
    | .non => true
    | .bl _ => true
    | .int _ => true
    | .str x => PyData.canLay0 (.str x)
    | .tup xs => decide (xs.length ≤ 4194304) && xs.all (likeD n)
    | _ => false
theorem likeD_mono : ∀ {n m : Nat} {d : D}, n ≤ m → likeD n d = true → likeD m d = true
  | 0, _, _, _, h => by simp [likeD] at h
  | n + 1, 0, _, l, _ => by omega
  | n + 1, m + 1, d, l, h => by
    cases d <;> simp only [likeD] at h ⊢ <;> try exact h
    rw [Bool.and_eq_true, List.all_eq_true] at h ⊢
    exact ⟨h.1, fun x hx => likeD_mono (by omega) (h.2 x hx)⟩
def sp_like (k : Nat) : DSp := fun ds Q => match ds with
  | [told, due] => (told = due ∧ likeD k due = true) ∧ Q (.bl true)
  | _ => False
def t__law_like (sp : DSp) : TDS := (dSeqS (dIf (dT (dIs isTup (dVar 1))) (dSeqS (dIf (dOrT (dNotT (dT (dIs isTup (dVar 0)))) (dT (dOp opNe (dCall spLen (dCons (dVar 0) dNil)) (dCall spLen (dCons (dVar 1) dNil))))) (dSeqS (dRet (dC (.bl false))) dNext) dNext) (dSeqS (dRet (dCall (spBools fun bs => bs.all id) (dCons (dFr (dComp (dRange1 (dCons (dCall spLen (dCons (dVar 1) dNil)) dNil)) (gN 2) dYes (dCall sp (dCons (dOp opIx (dVar 0) (dVar 2)) (dCons (dOp opIx (dVar 1) (dVar 2)) dNil))) [2])) dNil))) dNext)) dNext) (dSeqS (dIf (dT (dOp opIs (dVar 1) (dC .non))) (dSeqS (dRet (dOp opIs (dVar 0) (dC .non))) dNext) dNext) (dSeqS (dIf (dT (dIs isBool (dVar 1))) (dSeqS (dRet (dAndV (dIs isBool (dVar 0)) (dOp opEq (dVar 0) (dVar 1)))) dNext) dNext) (dSeqS (dIf (dT (dIs isStr (dVar 1))) (dSeqS (dRet (dAndV (dIs isStr (dVar 0)) (dOp opEq (dVar 0) (dVar 1)))) dNext) dNext) (dSeqS (dRet (dAndV (dIs isInt (dVar 0)) (dAndV (dNotV (dIs isBool (dVar 0))) (dOp opEq (dVar 0) (dVar 1))))) dNext)))))
theorem rd__law_like (n : Nat) (ds : List D) (Q : D → Prop) (h : sp_like (n + 1) ds Q) : t__law_like (sp_like n) (endR Q) (startN 3 ds) := by
  match ds, h with
  | [told, due], ⟨⟨e, hl⟩, h⟩ =>
    subst e
    show t__law_like (sp_like n) (endR Q) [.sh told, .sh told, .no]
    cases told with
    | tup xs =>
      simp only [likeD] at hl
      rw [Bool.and_eq_true, decide_eq_true_eq, List.all_eq_true] at hl
      try simp only [t__law_like, endR, isTup, dSeqS, dNext, dRet, dRetN, dIf, dDrop, dSet, dPar, dParN, setAll, dFor, dAppend, dExtend, dFreeze, dFreeze2, slotD, dAsg, dNever, dLend, dLendT, dVar, dC, dNil, dCons, dOp, dT, dAndT, dOrT, dNotT, dAndV, dOrV, dNotV, dIfE, dIs, dTup, dLst, dFr, dList, dLstR, dTupR, dRg1, dRg2, dSorted, dRange1, dRange2, dSeq, dEnum, dZip, dComp, wipeD, dCall, dCallKw, dSl, dPart, dNoPart, dYes, dPl, dIndexT, dIndexL, dIndexS, dTupF, gN, gT, gCs, gNl, vSh, vOw, vNil, vCons, vComp2, dDictComp, dNeg, dRep, dChain, spLen, spTuple, opIx20, opIx21, opIxG0, opIxG1, gd0, gdS, st0, stS, List.map_cons, List.map_nil, Bool.not_true, Bool.not_false, Bool.false_eq_true, ↓reduceIte]
      refine ne_int (i := xs.length) (j := xs.length) ?_
      have e0 : decide ((xs.length : Int) ≠ xs.length) = false := by simp
      rw [e0]
      try simp only [dSeqS, dNext, dRet, dRetN, dIf, dDrop, dSet, dPar, dParN, setAll, dFor, dAppend, dExtend, dFreeze, dFreeze2, slotD, dAsg, dNever, dLend, dLendT, dVar, dC, dNil, dCons, dOp, dT, dAndT, dOrT, dNotT, dAndV, dOrV, dNotV, dIfE, dIs, dTup, dLst, dFr, dList, dLstR, dTupR, dRg1, dRg2, dSorted, dRange1, dRange2, dSeq, dEnum, dZip, dComp, wipeD, dCall, dCallKw, dSl, dPart, dNoPart, dYes, dPl, dIndexT, dIndexL, dIndexS, dTupF, gN, gT, gCs, gNl, vSh, vOw, vNil, vCons, vComp2, dDictComp, dNeg, dRep, dChain, spLen, spTuple, opIx20, opIx21, opIxG0, opIxG1, gd0, gdS, st0, stS, List.map_cons, List.map_nil, Bool.not_true, Bool.not_false, Bool.false_eq_true, ↓reduceIte]
      refine ⟨⟨by omega, by omega, by omega, by omega⟩, ?_⟩
      rw [Int.toNat_natCast, rng_iv]
      refine compD_list (r := fun _ => D.bl true) (fun i hi K k => ?_) ?_
      · rw [mem_iv] at hi
        try simp only [dSeqS, dNext, dRet, dRetN, dIf, dDrop, dSet, dPar, dParN, setAll, dFor, dAppend, dExtend, dFreeze, dFreeze2, slotD, dAsg, dNever, dLend, dLendT, dVar, dC, dNil, dCons, dOp, dT, dAndT, dOrT, dNotT, dAndV, dOrV, dNotV, dIfE, dIs, dTup, dLst, dFr, dList, dLstR, dTupR, dRg1, dRg2, dSorted, dRange1, dRange2, dSeq, dEnum, dZip, dComp, wipeD, dCall, dCallKw, dSl, dPart, dNoPart, dYes, dPl, dIndexT, dIndexL, dIndexS, dTupF, gN, gT, gCs, gNl, vSh, vOw, vNil, vCons, vComp2, dDictComp, dNeg, dRep, dChain, spLen, spTuple, opIx20, opIx21, opIxG0, opIxG1, gd0, gdS, st0, stS, List.map_cons, List.map_nil, Bool.not_true, Bool.not_false, Bool.false_eq_true, ↓reduceIte]
        have hx : ∃ d, atI xs i = some d ∧ likeD n d = true := by
          have e : ixN xs.length i = some i.toNat := by
            unfold ixN
            rw [if_pos hi.1, if_pos (by omega)]
          rw [atI_ix e, List.getElem?_eq_getElem (by omega)]
          exact ⟨_, rfl, hl.2 _ (List.getElem_mem _)⟩
        obtain ⟨d, h1, h2⟩ := hx
        show (match atI xs i with | some d => _ | none => False)
        rw [h1]
        show (match atI xs i with | some d => _ | none => False)
        rw [h1]
        exact ⟨⟨rfl, h2⟩, k⟩
      · show (match bls? ([] ++ (iv 0 xs.length).map fun _ => D.bl true) with | some bs => Q (.bl (bs.all id)) | none => False)
        have e : ([] ++ (iv 0 xs.length).map fun _ => D.bl true) = ((iv 0 xs.length).map fun _ => true).map D.bl := by simp
        rw [e, bls?_map]
        show Q (.bl (((iv 0 xs.length).map fun _ => true).all id))
        rw [List.all_map]
        have e2 : (iv 0 xs.length).all (id ∘ fun _ => true) = true := List.all_eq_true.mpr fun _ _ => rfl
        rw [e2]
        exact h
    | non => exact h
    | bl b => exact eq_self' rfl h
    | int i => exact eq_self' rfl h
    | str x => exact eq_self' hl h
    | _ => simp [likeD] at hl
/-- a drawn sequence of all -/
def sp__law_mixed_up : DSp := fun ds Q => match ds with
  | [.well, .int n] => (0 ≤ n ∧ n ≤ 1000) ∧ ∀ way, WayOk n.toNat way → Q (.ft (way.map D.int))
  | _ => False
theorem erase_mapD {α β : Type} (f : α → β) : ∀ (l : List α) (j : Nat), (l.map f).eraseIdx j = (l.eraseIdx j).map f
  | [], j => by simp
  | a :: r, 0 => by simp
  | a :: r, j + 1 => by
    have ih := erase_mapD f r j
    simp [ih]
theorem perm_erase {α : Type} : ∀ {l : List α} {m : Nat} {x : α}, l[m]? = some x → (x :: l.eraseIdx m).Perm l
  | [], _, _, h => by simp at h
  | a :: l, 0, x, h => by simp at h; subst h; exact .refl _
  | a :: l, m + 1, x, h => by
    have h : l[m]? = some x := by simpa using h
    exact (List.Perm.swap a x _).trans ((perm_erase h).cons a)
theorem perm_pop {l fs : List Int} {m : Nat} {x : Int} (h : l[m]? = some x) : ((fs ++ [x]) ++ l.eraseIdx m).Perm (fs ++ l) := by
  rw [List.append_assoc]
  refine List.Perm.append_left fs ?_
  exact perm_erase h
def t__law_mixed_up : TDS := (dSeqS (dPar 2 3 (vCons (vOw (dLstR (dRg1 (dVar 1)))) (vCons (vOw (dLst dNil)) vNil))) (dSeqS (dFor (dRange1 (dCons (dVar 1) dNil)) (gN 4) (dSeqS (dAppPop 3 2 (dCall sp__law_dip (dCons (dVar 0) (dCons (dLend 2 (dCall spLen (dCons (dVar 2) dNil))) dNil)))) dNext)) (dFreeze 3 (dSeqS (dRet (dCall spTupleF (dCons (dVar 3) dNil))) dNext))))
theorem rd__law_mixed_up (ds : List D) (Q : D → Prop) (h : sp__law_mixed_up ds Q) : t__law_mixed_up (endR Q) (startN 5 ds) := by
  match ds, h with
  | [.well, .int n], ⟨⟨h0, h1⟩, h⟩ =>
    show t__law_mixed_up (endR Q) [.sh .well, .sh (.int n), .no, .no, .no]
    obtain ⟨n, rfl⟩ : ∃ m : Nat, n = (m : Nat) := ⟨n.toNat, by omega⟩
    rw [Int.toNat_natCast] at h
    try simp only [t__law_mixed_up, endR, dSeqS, dNext, dRet, dRetN, dIf, dDrop, dSet, dPar, dParN, setAll, dFor, dAppend, dExtend, dFreeze, dFreeze2, slotD, dAsg, dNever, dLend, dLendT, dVar, dC, dNil, dCons, dOp, dT, dAndT, dOrT, dNotT, dAndV, dOrV, dNotV, dIfE, dIs, dTup, dLst, dFr, dList, dLstR, dTupR, dRg1, dRg2, dSorted, dRange1, dRange2, dSeq, dEnum, dZip, dComp, wipeD, dCall, dCallKw, dSl, dPart, dNoPart, dYes, dPl, dIndexT, dIndexL, dIndexS, dTupF, gN, gT, gCs, gNl, vSh, vOw, vNil, vCons, vComp2, dDictComp, dNeg, dRep, dChain, spLen, spTuple, opIx20, opIx21, opIxG0, opIxG1, gd0, gdS, st0, stS, List.map_cons, List.map_nil, Bool.not_true, Bool.not_false, Bool.false_eq_true, ↓reduceIte]
    refine ⟨⟨by omega, by omega, by omega, by omega⟩, Nat.zero_le _, ⟨by omega, by omega, by omega, by omega⟩, ?_⟩
    rw [Int.toNat_natCast, show ((n : Int) - 0).toNat = n by omega]
    refine loopD_iv (fun done ρ => ∃ (fs ls : List Int) (s4 : SV), ρ = [.sh .well, .sh (.int n), .ow (ls.map D.int), .ow (fs.map D.int), s4] ∧ (fs ++ ls).Perm (iv 0 n) ∧ fs.length = done.length) ?_ ?_ ⟨[], iv 0 n, .no, by rw [rng_iv]; rfl, .refl _, rfl⟩
    · rintro done i rest e ρ ⟨fs, ls, s4, rfl, hp, hl⟩ N hN
      obtain ⟨g1, g2, g3, g4⟩ := iv_split e
      have hlen := hp.length_eq
      rw [List.length_append, iv_length] at hlen
      try simp only [dAppPop, sp__law_dip, dSeqS, dNext, dRet, dRetN, dIf, dDrop, dSet, dPar, dParN, setAll, dFor, dAppend, dExtend, dFreeze, dFreeze2, slotD, dAsg, dNever, dLend, dLendT, dVar, dC, dNil, dCons, dOp, dT, dAndT, dOrT, dNotT, dAndV, dOrV, dNotV, dIfE, dIs, dTup, dLst, dFr, dList, dLstR, dTupR, dRg1, dRg2, dSorted, dRange1, dRange2, dSeq, dEnum, dZip, dComp, wipeD, dCall, dCallKw, dSl, dPart, dNoPart, dYes, dPl, dIndexT, dIndexL, dIndexS, dTupF, gN, gT, gCs, gNl, vSh, vOw, vNil, vCons, vComp2, dDictComp, dNeg, dRep, dChain, spLen, spTuple, opIx20, opIx21, opIxG0, opIxG1, gd0, gdS, st0, stS, List.map_cons, List.map_nil, Bool.not_true, Bool.not_false, Bool.false_eq_true, ↓reduceIte]
      refine ⟨rfl, ⟨by simp; omega, by simp; omega⟩, fun r r0 r1 => ?_⟩
      rw [List.length_map] at r1
      have e1 : ixN (ls.map D.int).length r = some r.toNat := by
        unfold ixN
        rw [List.length_map, if_pos r0, if_pos r1]
      have hx : ls[r.toNat]? = some ls[r.toNat] := List.getElem?_eq_getElem (by omega)
      have e2 : (ls.map D.int)[r.toNat]? = some (.int ls[r.toNat]) := by rw [List.getElem?_map, hx]; rfl
      simp only [e1, e2]
      refine ⟨⟨by have := sizeLine_eq; simp; omega, by decide⟩, hN _ ⟨fs ++ [ls[r.toNat]], ls.eraseIdx r.toNat, .sh (.int i), ?_, (perm_pop hx).trans hp, by simp; omega⟩⟩
      rw [erase_mapD]; simp
    · rintro ρ ⟨fs, ls, s4, rfl, hp, hl⟩
      have hlen := hp.length_eq
      rw [List.length_append, iv_length] at hlen
      rw [iv_length] at hl
      have : ls = [] := List.eq_nil_of_length_eq_zero (by omega)
      subst this
      rw [List.append_nil] at hp
      exact h fs ⟨hp⟩
def sp__law_by_pairs : DSp := fun ds Q => match ds with
  | [.well, .int n] => (0 ≤ n ∧ n ≤ 1000) ∧ ∀ es, GOk n.toNat es → Q (gD n.toNat es)
  | _ => False
def t__law_by_pairs : TDS := (dSeqS (dParN [2, 3] (vCons (vSh (dOp opAdd (dC (.int 1)) (dCall sp__law_dip (dCons (dVar 0) (dCons (dC (.int 5)) dNil))))) (vCons (vOw (dLst dNil)) vNil))) (dSeqS (dFor (dRange1 (dCons (dVar 1) dNil)) (gN 4) (dSeqS (dExtend 3 (dFr (dComp (dRange2 (dCons (dOp opAdd (dVar 4) (dC (.int 1))) (dCons (dVar 1) dNil))) (gN 5) (dT (dOp opLt (dCall sp__law_dip (dCons (dVar 0) (dCons (dC (.int 6)) dNil))) (dVar 2))) (dTup (dCons (dVar 4) (dCons (dVar 5) dNil))) [5]))) dNext)) (dFreeze 3 (dSeqS (dRet (dTup (dCons (dVar 1) (dCons (dCall spTuple (dCons (dVar 3) dNil)) dNil)))) dNext))))
theorem rd__law_by_pairs (ds : List D) (Q : D → Prop) (h : sp__law_by_pairs ds Q) : t__law_by_pairs (endR Q) (startN 6 ds) := by
  match ds, h with
  | [.well, .int n], ⟨⟨h0, h1⟩, h⟩ =>
    show t__law_by_pairs (endR Q) [.sh .well, .sh (.int n), .no, .no, .no, .no]
    obtain ⟨n, rfl⟩ : ∃ m : Nat, n = (m : Nat) := ⟨n.toNat, by omega⟩
    rw [Int.toNat_natCast] at h
    try simp only [t__law_by_pairs, endR, sp__law_dip, dSeqS, dNext, dRet, dRetN, dIf, dDrop, dSet, dPar, dParN, setAll, dFor, dAppend, dExtend, dFreeze, dFreeze2, slotD, dAsg, dNever, dLend, dLendT, dVar, dC, dNil, dCons, dOp, dT, dAndT, dOrT, dNotT, dAndV, dOrV, dNotV, dIfE, dIs, dTup, dLst, dFr, dList, dLstR, dTupR, dRg1, dRg2, dSorted, dRange1, dRange2, dSeq, dEnum, dZip, dComp, wipeD, dCall, dCallKw, dSl, dPart, dNoPart, dYes, dPl, dIndexT, dIndexL, dIndexS, dTupF, gN, gT, gCs, gNl, vSh, vOw, vNil, vCons, vComp2, dDictComp, dNeg, dRep, dChain, spLen, spTuple, opIx20, opIx21, opIxG0, opIxG1, gd0, gdS, st0, stS, List.map_cons, List.map_nil, Bool.not_true, Bool.not_false, Bool.false_eq_true, ↓reduceIte]
    refine ⟨⟨by omega, by omega⟩, fun r r0 r1 => ?_⟩
    try simp only [opAdd, dSeqS, dNext, dRet, dRetN, dIf, dDrop, dSet, dPar, dParN, setAll, dFor, dAppend, dExtend, dFreeze, dFreeze2, slotD, dAsg, dNever, dLend, dLendT, dVar, dC, dNil, dCons, dOp, dT, dAndT, dOrT, dNotT, dAndV, dOrV, dNotV, dIfE, dIs, dTup, dLst, dFr, dList, dLstR, dTupR, dRg1, dRg2, dSorted, dRange1, dRange2, dSeq, dEnum, dZip, dComp, wipeD, dCall, dCallKw, dSl, dPart, dNoPart, dYes, dPl, dIndexT, dIndexL, dIndexS, dTupF, gN, gT, gCs, gNl, vSh, vOw, vNil, vCons, vComp2, dDictComp, dNeg, dRep, dChain, spLen, spTuple, opIx20, opIx21, opIxG0, opIxG1, gd0, gdS, st0, stS, List.map_cons, List.map_nil, Bool.not_true, Bool.not_false, Bool.false_eq_true, ↓reduceIte]
    refine ⟨Nat.zero_le _, ⟨rfl, rfl⟩, rgb0 (by omega), ?_⟩
    rw [Int.toNat_natCast]
    have ok0 : GOk n [] := ⟨by omega, fun p hp => (by cases hp), .nil⟩
    refine loopD_iv (fun done ρ => ∃ (es : List (Int × Int)) (s4 : SV), ρ = [.sh .well, .sh (.int n), .sh (.int (1 + r)), .ow (es.map pairD), s4, .no] ∧ GOk n es ∧ (∀ p ∈ es, p.1 < done.length) ∧ es.length ≤ done.length * n) ?_ ?_ ⟨[], .no, rfl, ok0, fun p hp => (by cases hp), by simp⟩
    · rintro done i rest e ρ ⟨es, s4, rfl, ok, hlt, hlen⟩ N hN
      obtain ⟨g1, g2, g3, g4⟩ := iv_split e
      try simp only [opAdd, dSeqS, dNext, dRet, dRetN, dIf, dDrop, dSet, dPar, dParN, setAll, dFor, dAppend, dExtend, dFreeze, dFreeze2, slotD, dAsg, dNever, dLend, dLendT, dVar, dC, dNil, dCons, dOp, dT, dAndT, dOrT, dNotT, dAndV, dOrV, dNotV, dIfE, dIs, dTup, dLst, dFr, dList, dLstR, dTupR, dRg1, dRg2, dSorted, dRange1, dRange2, dSeq, dEnum, dZip, dComp, wipeD, dCall, dCallKw, dSl, dPart, dNoPart, dYes, dPl, dIndexT, dIndexL, dIndexS, dTupF, gN, gT, gCs, gNl, vSh, vOw, vNil, vCons, vComp2, dDictComp, dNeg, dRep, dChain, spLen, spTuple, opIx20, opIx21, opIxG0, opIxG1, gd0, gdS, st0, stS, List.map_cons, List.map_nil, Bool.not_true, Bool.not_false, Bool.false_eq_true, ↓reduceIte]
      refine ⟨rgb2 (by omega) (by omega) (by omega), ?_⟩
      rw [rng_iv]
      -- what is taken of this row: pairs (i, j), j ascending
      refine compD_ind (fun dn ac => ∃ js rs : List Int, iv (i + 1) ((n : Int) - (i + 1)).toNat = js ++ rs ∧ dn = js.map D.int ∧ ∃ ks : List Int, ac = (ks.map fun j => pairD (i, j)) ∧ ks.Sublist js) ?_ ?_ (done := []) rfl ⟨[], _, rfl, rfl, [], rfl, .refl _⟩
      · rintro dn d rs e2 ac ⟨js, ms, e3, rfl, ks, rfl, sub⟩ K L hK hL
        cases ms with
        | nil =>
          rw [List.append_nil] at e3
          rw [e3] at e2
          simp at e2
        | cons j ms =>
          have ed : d = .int j := by
            rw [e3, List.map_append] at e2
            have := List.append_cancel_left e2
            simp at this
            exact this.1.symm
          subst ed
          try simp only [dSeqS, dNext, dRet, dRetN, dIf, dDrop, dSet, dPar, dParN, setAll, dFor, dAppend, dExtend, dFreeze, dFreeze2, slotD, dAsg, dNever, dLend, dLendT, dVar, dC, dNil, dCons, dOp, dT, dAndT, dOrT, dNotT, dAndV, dOrV, dNotV, dIfE, dIs, dTup, dLst, dFr, dList, dLstR, dTupR, dRg1, dRg2, dSorted, dRange1, dRange2, dSeq, dEnum, dZip, dComp, wipeD, dCall, dCallKw, dSl, dPart, dNoPart, dYes, dPl, dIndexT, dIndexL, dIndexS, dTupF, gN, gT, gCs, gNl, vSh, vOw, vNil, vCons, vComp2, dDictComp, dNeg, dRep, dChain, spLen, spTuple, opIx20, opIx21, opIxG0, opIxG1, gd0, gdS, st0, stS, List.map_cons, List.map_nil, Bool.not_true, Bool.not_false, Bool.false_eq_true, ↓reduceIte]
          refine ⟨⟨by omega, by omega⟩, fun c c0 c1 => ?_⟩
          show (if decide (c < 1 + r) = true then _ else _)
          split
          · exact ⟨by simp; decide, hK _ ⟨js ++ [j], ms, by simp [e3], by simp, ks ++ [j], by simp, sub.append (.refl _)⟩⟩
          · exact hL ⟨js ++ [j], ms, by simp [e3], by simp, ks, rfl, sub.trans (List.sublist_append_left _ _)⟩
      · rintro ac ⟨js, rs, e3, e4, ks, rfl, sub⟩
        have e5 : iv (i + 1) ((n : Int) - (i + 1)).toNat = js := by
          have e6 : (js ++ rs).length = js.length := by rw [← e3]; simpa using congrArg List.length e4
          rw [List.length_append] at e6
          have : rs = [] := List.eq_nil_of_length_eq_zero (by omega)
          rw [this, List.append_nil] at e3
          exact e3
        rw [← e5] at sub
        have hk := sub.length_le
        rw [iv_length] at hk
        have hm : done.length * n ≤ 1000 * 1000 := Nat.mul_le_mul (by omega) (by omega)
        have hmem : ∀ j ∈ ks, i < j ∧ j < n := fun j hj => by
          have := mem_iv.mp (sub.subset hj)
          omega
        refine ⟨by have := sizeLine_eq; simp; omega, hN _ ⟨es ++ ks.map fun j => (i, j), .sh (.int i), ?_, ⟨ok.small, ?_, ?_⟩, ?_, ?_⟩⟩
        · rw [List.map_append, List.map_map]; rfl
        · intro p hp
          rcases List.mem_append.mp hp with q | q
          · exact ok.ok p q
          · obtain ⟨j, hj, rfl⟩ := List.mem_map.mp q
            have := hmem j hj
            exact ⟨by show 0 ≤ i; omega, this.1, this.2⟩
        · refine List.pairwise_append.mpr ⟨ok.asc, ?_, fun p hp q hq => ?_⟩
          · rw [List.pairwise_map]
            exact ((iv_lt _ _).sublist sub).imp fun h => .inr ⟨rfl, h⟩
          · obtain ⟨j, hj, rfl⟩ := List.mem_map.mp hq
            have := hlt p hp
            exact .inl (by show p.1 < i; omega)
        · intro p hp
          rw [List.length_append, List.length_singleton]
          rcases List.mem_append.mp hp with q | q
          · have := hlt p q; omega
          · obtain ⟨j, hj, rfl⟩ := List.mem_map.mp q
            show i < _; omega
        · rw [List.length_append, List.length_append, List.length_map, List.length_singleton, Nat.succ_mul]
          omega
    · rintro ρ ⟨es, s4, rfl, ok, _⟩
      try simp only [dSeqS, dNext, dRet, dRetN, dIf, dDrop, dSet, dPar, dParN, setAll, dFor, dAppend, dExtend, dFreeze, dFreeze2, slotD, dAsg, dNever, dLend, dLendT, dVar, dC, dNil, dCons, dOp, dT, dAndT, dOrT, dNotT, dAndV, dOrV, dNotV, dIfE, dIs, dTup, dLst, dFr, dList, dLstR, dTupR, dRg1, dRg2, dSorted, dRange1, dRange2, dSeq, dEnum, dZip, dComp, wipeD, dCall, dCallKw, dSl, dPart, dNoPart, dYes, dPl, dIndexT, dIndexL, dIndexS, dTupF, gN, gT, gCs, gNl, vSh, vOw, vNil, vCons, vComp2, dDictComp, dNeg, dRep, dChain, spLen, spTuple, opIx20, opIx21, opIxG0, opIxG1, gd0, gdS, st0, stS, List.map_cons, List.map_nil, Bool.not_true, Bool.not_false, Bool.false_eq_true, ↓reduceIte]
      exact ⟨by simp; decide, h es ok⟩
def joinsD (n : Nat) (es : List (Int × Int)) : D := .lst ((iv 0 n).map fun i => .lst ((iv 0 n).map fun j => .bl (adj es i j)))
def sp__law_joins : DSp := fun ds Q => ∃ n es, ds = [gD n es] ∧ GOk n es ∧ Q (joinsD n es)
def t__law_joins : TDS := (dSeqS (dSet 1 (vComp2 (dRange1 (dCons (dOp opIx (dVar 0) (dC (.int 0))) dNil)) (gN 2) dYes (dRep (dFr (dLst (dCons (dC (.bl false)) dNil))) (dOp opIx (dVar 0) (dC (.int 0)))) [2])) (dSeqS (dFor (dSeq (dOp opIx (dVar 0) (dC (.int 1)))) (gT 2 (gCs (gN 3) (gCs (gN 4) gNl))) (dSeqS (dSet2 1 (dVar 3) (dVar 4) (dC (.bl true))) (dSeqS (dSet2 1 (dVar 4) (dVar 3) (dC (.bl true))) dNext))) (dFreeze2 1 (dSeqS (dRet (dVar 1)) dNext))))
theorem adj_snoc (es : List (Int × Int)) (p : Int × Int) (i j : Int) : adj (es ++ [p]) i j = (adj es i j || decide ((i, j) = p) || decide ((j, i) = p)) := by
  rw [Bool.eq_iff_iff]
  simp only [adj, Bool.or_eq_true, decide_eq_true_eq, List.mem_append, List.mem_singleton]
  constructor
  · rintro ((h | h) | (h | h))
    · exact .inl (.inl (.inl h))
    · exact .inl (.inr h)
    · exact .inl (.inl (.inr h))
    · exact .inr h
  · rintro (((h | h) | h) | h)
    · exact .inl (.inl h)
    · exact .inr (.inl h)
    · exact .inl (.inr h)
    · exact .inr (.inr h)
theorem rd__law_joins (ds : List D) (Q : D → Prop) (h : sp__law_joins ds Q) : t__law_joins (endR Q) (startN 5 ds) := by
  obtain ⟨n, es, rfl, ok, h⟩ := h
  show t__law_joins (endR Q) [.sh (gD n es), .no, .no, .no, .no]
  have hs := ok.small
  try simp only [t__law_joins, endR, dSeqS, dNext, dRet, dRetN, dIf, dDrop, dSet, dPar, dParN, setAll, dFor, dAppend, dExtend, dFreeze, dFreeze2, slotD, dAsg, dNever, dLend, dLendT, dVar, dC, dNil, dCons, dOp, dT, dAndT, dOrT, dNotT, dAndV, dOrV, dNotV, dIfE, dIs, dTup, dLst, dFr, dList, dLstR, dTupR, dRg1, dRg2, dSorted, dRange1, dRange2, dSeq, dEnum, dZip, dComp, wipeD, dCall, dCallKw, dSl, dPart, dNoPart, dYes, dPl, dIndexT, dIndexL, dIndexS, dTupF, gN, gT, gCs, gNl, vSh, vOw, vNil, vCons, vComp2, dDictComp, dNeg, dRep, dChain, spLen, spTuple, opIx20, opIx21, opIxG0, opIxG1, gd0, gdS, st0, stS, List.map_cons, List.map_nil, Bool.not_true, Bool.not_false, Bool.false_eq_true, ↓reduceIte]
  refine ⟨rgb0 hs, compF_map (f := fun _ => (iv 0 n).map fun _ => D.bl false) (fun d hd K k => ⟨by decide, ⟨by omega, by have := sizeLine_eq; simp; omega⟩, by omega, ?_⟩) ?_⟩
  · have e : (List.replicate ((n : Int).toNat) [D.bl false]).flatten = (iv 0 n).map fun _ => D.bl false := by
      rw [Int.toNat_natCast]
      have : ∀ m : Nat, (List.replicate m [D.bl false]).flatten = List.replicate m (D.bl false) := fun m => by
        induction m with
        | zero => rfl
        | succ m ih => rw [List.replicate_succ, List.flatten_cons, ih]; rfl
      rw [this, List.map_const', iv_length]
    rw [e]
    exact k
  rw [Int.toNat_natCast, rng_iv, List.map_map, List.nil_append]
  refine loopD_ind (fun done ρ => ∃ (ps rest : List (Int × Int)) (s3 s4 : SV), es = ps ++ rest ∧ done = ps.map pairD ∧ ρ = [.sh (gD n es), .ow2 ((iv 0 n).map fun i => (iv 0 n).map fun j => .bl (adj ps i j)), .no, s3, s4]) ?_ ?_ (done := []) rfl ⟨[], es, .no, .no, rfl, rfl, rfl⟩
  · rintro done d rest e ρ ⟨ps, rs, s3, s4, e1, rfl, rfl⟩ N hN
    cases rs with
    | nil => rw [List.append_nil] at e1; rw [← e1] at e; simp at e
    | cons p rs =>
      have ed : d = pairD p := by
        rw [e1, List.map_append] at e
        have := List.append_cancel_left e
        simp at this
        exact this.1.symm
      subst ed
      obtain ⟨h1, h2, h3⟩ := ok.ok p (by rw [e1]; simp)
      refine ⟨rfl, ?_⟩
      try simp only [dSeqS, dNext, dRet, dRetN, dIf, dDrop, dSet, dPar, dParN, setAll, dFor, dAppend, dExtend, dFreeze, dFreeze2, slotD, dAsg, dNever, dLend, dLendT, dVar, dC, dNil, dCons, dOp, dT, dAndT, dOrT, dNotT, dAndV, dOrV, dNotV, dIfE, dIs, dTup, dLst, dFr, dList, dLstR, dTupR, dRg1, dRg2, dSorted, dRange1, dRange2, dSeq, dEnum, dZip, dComp, wipeD, dCall, dCallKw, dSl, dPart, dNoPart, dYes, dPl, dIndexT, dIndexL, dIndexS, dTupF, gN, gT, gCs, gNl, vSh, vOw, vNil, vCons, vComp2, dDictComp, dNeg, dRep, dChain, spLen, spTuple, opIx20, opIx21, opIxG0, opIxG1, gd0, gdS, st0, stS, List.map_cons, List.map_nil, Bool.not_true, Bool.not_false, Bool.false_eq_true, ↓reduceIte]
      refine set2_at (z := p.1) (y := p.2) (row := (iv 0 n).map fun j => .bl (adj ps p.1 j)) (d := .bl true) rfl (fun _ q => q) (fun _ q => q) (fun _ q => q) h1 (iv_at h1 (by omega)) (by omega) (by rw [List.length_map, iv_length]; exact h3) ?_
      rw [iv_set h1, iv_set (by omega)]
      try simp only [dSeqS, dNext, dRet, dRetN, dIf, dDrop, dSet, dPar, dParN, setAll, dFor, dAppend, dExtend, dFreeze, dFreeze2, slotD, dAsg, dNever, dLend, dLendT, dVar, dC, dNil, dCons, dOp, dT, dAndT, dOrT, dNotT, dAndV, dOrV, dNotV, dIfE, dIs, dTup, dLst, dFr, dList, dLstR, dTupR, dRg1, dRg2, dSorted, dRange1, dRange2, dSeq, dEnum, dZip, dComp, wipeD, dCall, dCallKw, dSl, dPart, dNoPart, dYes, dPl, dIndexT, dIndexL, dIndexS, dTupF, gN, gT, gCs, gNl, vSh, vOw, vNil, vCons, vComp2, dDictComp, dNeg, dRep, dChain, spLen, spTuple, opIx20, opIx21, opIxG0, opIxG1, gd0, gdS, st0, stS, List.map_cons, List.map_nil, Bool.not_true, Bool.not_false, Bool.false_eq_true, ↓reduceIte]
      refine set2_at (z := p.2) (y := p.1) (row := (iv 0 n).map fun j => .bl (adj ps p.2 j)) (d := .bl true) rfl (fun _ q => q) (fun _ q => q) (fun _ q => q) (by omega) (by rw [iv_at (by omega) (by omega), if_neg (by omega)]) (by omega) (by rw [List.length_map, iv_length]; omega) ?_
      rw [iv_set h1, iv_set (by omega)]
      refine hN _ ⟨ps ++ [p], rs, .sh (.int p.1), .sh (.int p.2), by simp [e1], by simp, ?_⟩
      try simp only [dSeqS, dNext, dRet, dRetN, dIf, dDrop, dSet, dPar, dParN, setAll, dFor, dAppend, dExtend, dFreeze, dFreeze2, slotD, dAsg, dNever, dLend, dLendT, dVar, dC, dNil, dCons, dOp, dT, dAndT, dOrT, dNotT, dAndV, dOrV, dNotV, dIfE, dIs, dTup, dLst, dFr, dList, dLstR, dTupR, dRg1, dRg2, dSorted, dRange1, dRange2, dSeq, dEnum, dZip, dComp, wipeD, dCall, dCallKw, dSl, dPart, dNoPart, dYes, dPl, dIndexT, dIndexL, dIndexS, dTupF, gN, gT, gCs, gNl, vSh, vOw, vNil, vCons, vComp2, dDictComp, dNeg, dRep, dChain, spLen, spTuple, opIx20, opIx21, opIxG0, opIxG1, gd0, gdS, st0, stS, List.map_cons, List.map_nil, Bool.not_true, Bool.not_false, Bool.false_eq_true, ↓reduceIte]
      congr 3
      refine List.map_congr_left fun i _ => ?_
      obtain ⟨a, b⟩ := p
      simp only at h1 h2 h3 ⊢
      by_cases q1 : i = b
      · subst q1
        rw [if_pos rfl]
        refine List.map_congr_left fun j _ => ?_
        rw [adj_snoc]
        by_cases q2 : j = a
        · subst q2; simp
        · rw [if_neg q2, decide_eq_false (by rintro ⟨⟩; omega), decide_eq_false (by rintro ⟨⟩; exact q2 rfl)]; simp
      · rw [if_neg q1]
        by_cases q2 : i = a
        · subst q2
          rw [if_pos rfl]
          refine List.map_congr_left fun j _ => ?_
          rw [adj_snoc]
          by_cases q3 : j = b
          · subst q3; simp
          · rw [if_neg q3, decide_eq_false (by rintro ⟨⟩; exact q3 rfl), decide_eq_false (by rintro ⟨⟩; omega)]; simp
        · rw [if_neg q2]
          refine List.map_congr_left fun j _ => ?_
          rw [adj_snoc, decide_eq_false (by rintro ⟨⟩; exact q2 rfl), decide_eq_false (by rintro ⟨⟩; exact q1 rfl)]; simp
  · rintro ρ ⟨ps, rs, s3, s4, e1, e2, rfl⟩
    have e3 : ps = es := by
      have e4 : (ps ++ rs).length = ps.length := by rw [← e1]; simpa using congrArg List.length e2
      rw [List.length_append] at e4
      have : rs = [] := List.eq_nil_of_length_eq_zero (by omega)
      rw [this, List.append_nil] at e1
      exact e1.symm
    subst e3
    try simp only [dSeqS, dNext, dRet, dRetN, dIf, dDrop, dSet, dPar, dParN, setAll, dFor, dAppend, dExtend, dFreeze, dFreeze2, slotD, dAsg, dNever, dLend, dLendT, dVar, dC, dNil, dCons, dOp, dT, dAndT, dOrT, dNotT, dAndV, dOrV, dNotV, dIfE, dIs, dTup, dLst, dFr, dList, dLstR, dTupR, dRg1, dRg2, dSorted, dRange1, dRange2, dSeq, dEnum, dZip, dComp, wipeD, dCall, dCallKw, dSl, dPart, dNoPart, dYes, dPl, dIndexT, dIndexL, dIndexS, dTupF, gN, gT, gCs, gNl, vSh, vOw, vNil, vCons, vComp2, dDictComp, dNeg, dRep, dChain, spLen, spTuple, opIx20, opIx21, opIxG0, opIxG1, gd0, gdS, st0, stS, List.map_cons, List.map_nil, Bool.not_true, Bool.not_false, Bool.false_eq_true, ↓reduceIte]
    rw [List.map_map]
    exact h
def sp__law_led : DSp := fun ds Q => ∃ n es way, ds = [gD n es, .tup (way.map D.int)] ∧ GOk n es ∧ WayOk n way ∧ Q (gD n (ledG n way es))
def t__law_led : TDS := (dSeqS (dSet 2 (vSh (dCall spDict (dCons (dFr (dComp (dRange1 (dCons (dCall spLen (dCons (dVar 1) dNil)) dNil)) (gN 3) dYes (dTup (dCons (dOp opIx (dVar 1) (dVar 3)) (dCons (dVar 3) dNil))) [3])) dNil)))) (dSeqS (dSet 4 (vSh (dFr (dComp (dSeq (dOp opIx (dVar 0) (dC (.int 1)))) (gT 2 (gCs (gN 5) (gCs (gN 6) gNl))) dYes (dTup (dCons (dCall spMin2 (dCons (dOp opDget (dVar 2) (dVar 5)) (dCons (dOp opDget (dVar 2) (dVar 6)) dNil))) (dCons (dCall spMax2 (dCons (dOp opDget (dVar 2) (dVar 5)) (dCons (dOp opDget (dVar 2) (dVar 6)) dNil))) dNil))) [5, 6])))) (dSeqS (dRet (dTup (dCons (dOp opIx (dVar 0) (dC (.int 0))) (dCons (dCall spTuple (dCons (dFr (dSorted (dCons (dVar 4) dNil))) dNil)) dNil)))) dNext)))
theorem rd__law_led (ds : List D) (Q : D → Prop) (h : sp__law_led ds Q) : t__law_led (endR Q) (startN 7 ds) := by
  obtain ⟨n, es, way, rfl, ok, w, h⟩ := h
  show t__law_led (endR Q) [.sh (gD n es), .sh (.tup (way.map D.int)), .no, .no, .no, .no, .no]
  have hs := ok.small
  try simp only [t__law_led, endR, dSeqS, dNext, dRet, dRetN, dIf, dDrop, dSet, dPar, dParN, setAll, dFor, dAppend, dExtend, dFreeze, dFreeze2, slotD, dAsg, dNever, dLend, dLendT, dVar, dC, dNil, dCons, dOp, dT, dAndT, dOrT, dNotT, dAndV, dOrV, dNotV, dIfE, dIs, dTup, dLst, dFr, dList, dLstR, dTupR, dRg1, dRg2, dSorted, dRange1, dRange2, dSeq, dEnum, dZip, dComp, wipeD, dCall, dCallKw, dSl, dPart, dNoPart, dYes, dPl, dIndexT, dIndexL, dIndexS, dTupF, gN, gT, gCs, gNl, vSh, vOw, vNil, vCons, vComp2, dDictComp, dNeg, dRep, dChain, spLen, spTuple, opIx20, opIx21, opIxG0, opIxG1, gd0, gdS, st0, stS, List.map_cons, List.map_nil, Bool.not_true, Bool.not_false, Bool.false_eq_true, ↓reduceIte]
  rw [List.length_map, w.len, Int.toNat_natCast, rng_iv]
  refine ⟨rgb0 hs, compD_list (r := fun k => .tup [.int (atW way k), .int k]) (fun k hk K q => ?_) ?_⟩
  · rw [mem_iv] at hk
    try simp only [dSeqS, dNext, dRet, dRetN, dIf, dDrop, dSet, dPar, dParN, setAll, dFor, dAppend, dExtend, dFreeze, dFreeze2, slotD, dAsg, dNever, dLend, dLendT, dVar, dC, dNil, dCons, dOp, dT, dAndT, dOrT, dNotT, dAndV, dOrV, dNotV, dIfE, dIs, dTup, dLst, dFr, dList, dLstR, dTupR, dRg1, dRg2, dSorted, dRange1, dRange2, dSeq, dEnum, dZip, dComp, wipeD, dCall, dCallKw, dSl, dPart, dNoPart, dYes, dPl, dIndexT, dIndexL, dIndexS, dTupF, gN, gT, gCs, gNl, vSh, vOw, vNil, vCons, vComp2, dDictComp, dNeg, dRep, dChain, spLen, spTuple, opIx20, opIx21, opIxG0, opIxG1, gd0, gdS, st0, stS, List.map_cons, List.map_nil, Bool.not_true, Bool.not_false, Bool.false_eq_true, ↓reduceIte]
    rw [w.mapD]
    exact ix_ivT (f := fun k => D.int (atW way k)) (by omega) (by omega) ⟨by simp; decide, q⟩
  · rw [List.nil_append]
    show (match kvs? ((iv 0 n).map fun k => D.tup [.int (atW way k), .int k]) with | some kvs => _ | none => False)
    rw [kvs?_kvI]
    have e : kmerge [] (kvI (plc way n)) = kvI (plc way n) := kmerge_kvI (m := []) (by simpa using plc_nd w)
    unfold plc at e
    try simp only [dSeqS, dNext, dRet, dRetN, dIf, dDrop, dSet, dPar, dParN, setAll, dFor, dAppend, dExtend, dFreeze, dFreeze2, slotD, dAsg, dNever, dLend, dLendT, dVar, dC, dNil, dCons, dOp, dT, dAndT, dOrT, dNotT, dAndV, dOrV, dNotV, dIfE, dIs, dTup, dLst, dFr, dList, dLstR, dTupR, dRg1, dRg2, dSorted, dRange1, dRange2, dSeq, dEnum, dZip, dComp, wipeD, dCall, dCallKw, dSl, dPart, dNoPart, dYes, dPl, dIndexT, dIndexL, dIndexS, dTupF, gN, gT, gCs, gNl, vSh, vOw, vNil, vCons, vComp2, dDictComp, dNeg, dRep, dChain, spLen, spTuple, opIx20, opIx21, opIxG0, opIxG1, gd0, gdS, st0, stS, List.map_cons, List.map_nil, Bool.not_true, Bool.not_false, Bool.false_eq_true, ↓reduceIte]
    rw [e]
    refine compD_list (r := fun p => pairD (ledP way p)) (fun p hp K k => ⟨rfl, ?_⟩) ?_
    · try simp only [spMin2, spMax2, dSeqS, dNext, dRet, dRetN, dIf, dDrop, dSet, dPar, dParN, setAll, dFor, dAppend, dExtend, dFreeze, dFreeze2, slotD, dAsg, dNever, dLend, dLendT, dVar, dC, dNil, dCons, dOp, dT, dAndT, dOrT, dNotT, dAndV, dOrV, dNotV, dIfE, dIs, dTup, dLst, dFr, dList, dLstR, dTupR, dRg1, dRg2, dSorted, dRange1, dRange2, dSeq, dEnum, dZip, dComp, wipeD, dCall, dCallKw, dSl, dPart, dNoPart, dYes, dPl, dIndexT, dIndexL, dIndexS, dTupF, gN, gT, gCs, gNl, vSh, vOw, vNil, vCons, vComp2, dDictComp, dNeg, dRep, dChain, spLen, spTuple, opIx20, opIx21, opIxG0, opIxG1, gd0, gdS, st0, stS, List.map_cons, List.map_nil, Bool.not_true, Bool.not_false, Bool.false_eq_true, ↓reduceIte]
      have := ok.ok p hp
      have m1 : p.1 ∈ way := w.mem.mpr (by omega)
      have m2 : p.2 ∈ way := w.mem.mpr (by omega)
      refine dget_kvI (plc_nd w) (plc_mem w m1) (dget_kvI (plc_nd w) (plc_mem w m2) ?_)
      refine dget_kvI (plc_nd w) (plc_mem w m1) (dget_kvI (plc_nd w) (plc_mem w m2) ⟨by simp; decide, k⟩)
    · try simp only [dSeqS, dNext, dRet, dRetN, dIf, dDrop, dSet, dPar, dParN, setAll, dFor, dAppend, dExtend, dFreeze, dFreeze2, slotD, dAsg, dNever, dLend, dLendT, dVar, dC, dNil, dCons, dOp, dT, dAndT, dOrT, dNotT, dAndV, dOrV, dNotV, dIfE, dIs, dTup, dLst, dFr, dList, dLstR, dTupR, dRg1, dRg2, dSorted, dRange1, dRange2, dSeq, dEnum, dZip, dComp, wipeD, dCall, dCallKw, dSl, dPart, dNoPart, dYes, dPl, dIndexT, dIndexL, dIndexS, dTupF, gN, gT, gCs, gNl, vSh, vOw, vNil, vCons, vComp2, dDictComp, dNeg, dRep, dChain, spLen, spTuple, opIx20, opIx21, opIxG0, opIxG1, gd0, gdS, st0, stS, List.map_cons, List.map_nil, Bool.not_true, Bool.not_false, Bool.false_eq_true, ↓reduceIte]
      rw [List.nil_append, show (es.map fun p => pairD (ledP way p)) = (es.map (ledP way)).map pairD by simp]
      exact sorted_prs (led_perm ok w) (lex_le (ledG_ok hs way es).asc) ⟨by simp; decide, h⟩

/-! what _law_like may compare -/
def sp__law_like : DSp := sp_like 8
theorem likeD_ints (k : Nat) (ns : List Int) (h : ns.length ≤ 4194304) : likeD (k + 2) (.tup (ns.map D.int)) = true := by
  show (decide ((ns.map D.int).length ≤ 4194304) && (ns.map D.int).all (likeD (k + 1))) = true
  rw [List.length_map, decide_eq_true h, List.all_map]
  exact List.all_eq_true.mpr fun _ _ => rfl
theorem GOk.len {n : Nat} {es : List (Int × Int)} (ok : GOk n es) : es.length ≤ n * n := by
  have h : ∀ l : List Int, (l.flatMap fun i => (iv 0 n).map fun j => (i, j)).length = l.length * n := fun l => by
    induction l with
    | nil => simp
    | cons a l ih => rw [List.flatMap_cons, List.length_append, ih, List.length_map, iv_length, List.length_cons, Nat.succ_mul]; omega
  have := nodup_len (l := es) (m := (iv 0 n).flatMap fun i => (iv 0 n).map fun j => (i, j)) (ok.asc.imp fun h e => by subst e; exact lex_asym _ _ h h) fun p hp => by
    have := ok.ok p hp
    exact List.mem_flatMap.mpr ⟨p.1, mem_iv.mpr (by omega), List.mem_map.mpr ⟨p.2, mem_iv.mpr (by omega), rfl⟩⟩
  rw [h, iv_length] at this
  exact this
theorem GOk.len2 {n : Nat} {es : List (Int × Int)} (ok : GOk n es) : es.length ≤ 1000000 := by
  have := ok.len
  have := Nat.mul_le_mul ok.small ok.small
  omega
theorem likeD_pairs (k : Nat) (es : List (Int × Int)) (h : es.length ≤ 4194304) : likeD (k + 3) (.tup (es.map pairD)) = true := by
  show (decide ((es.map pairD).length ≤ 4194304) && (es.map pairD).all (likeD (k + 2))) = true
  rw [List.length_map, decide_eq_true h, List.all_map]
  exact List.all_eq_true.mpr fun p _ => likeD_ints k [p.1, p.2] (by simp)
theorem likeD_graph (k : Nat) {n : Nat} {es : List (Int × Int)} (ok : GOk n es) : likeD (k + 4) (gD n es) = true := by
  have := likeD_pairs k es (by have := ok.len2; omega)
  show (true && (true && (likeD (k + 3) (.tup (es.map pairD)) && true))) = true
  rw [this]; rfl
theorem likeD_rows (k : Nat) {n : Nat} (hn : n ≤ 1000) {f : Int → List Int} (h : ∀ i, (f i).length ≤ n) : likeD (k + 3) (.tup ((iv 0 n).map fun i => .tup ((f i).map D.int))) = true := by
  show (decide (((iv 0 n).map _).length ≤ 4194304) && ((iv 0 n).map _).all (likeD (k + 2))) = true
  rw [List.length_map, iv_length, decide_eq_true (by omega), List.all_map]
  exact List.all_eq_true.mpr fun i _ => likeD_ints k (f i) (by have := h i; omega)
theorem likeD_two {k : Nat} {a b : D} (ha : likeD k a = true) (hb : likeD k b = true) : likeD (k + 1) (.tup [a, b]) = true := by
  show (true && (likeD k a && (likeD k b && true))) = true
  rw [ha, hb]; rfl
theorem like_at {d e : D} {Q : D → Prop} (h : d = e) (hl : likeD 8 e = true) (q : Q (.bl true)) : sp__law_like [d, e] Q := ⟨⟨h, hl⟩, q⟩
theorem cls_small {n : Nat} {es : List (Int × Int)} {i : Int} : (cls n es i).length ≤ n := by
  have := List.length_filter_le (fun j => decide (j = i) || adj es i j) (iv 0 n)
  rw [iv_length] at this
  exact this
/-- back along a way -/
def backW (n : Nat) (w : List Int) : List Int := (iv 0 n).map (posW w)
theorem backW_ok {n : Nat} {w : List Int} (h : WayOk n w) : WayOk n (backW n w) := ⟨by
  unfold backW
  rw [List.perm_ext_iff_of_nodup]
  · intro x
    rw [List.mem_map, mem_iv]
    constructor
    · rintro ⟨v, hv, rfl⟩
      rw [mem_iv] at hv
      have := h.pos_lt (h.mem.mpr (by omega) : v ∈ w)
      omega
    · rintro ⟨h0, h1⟩
      have := h.at_mem h0 (by omega)
      exact ⟨atW w x, mem_iv.mpr (by have := h.mem.mp this; omega), h.pos_at h0 (by omega)⟩
  · show ((iv 0 n).map (posW w)).Pairwise (· ≠ ·)
    rw [List.pairwise_map]
    refine List.Pairwise.imp_of_mem (fun {a b} ha hb hab e => ?_) (iv_lt 0 n)
    rw [mem_iv] at ha hb
    have := h.pos_inj (h.mem.mpr (by omega) : a ∈ w) (h.mem.mpr (by omega) : b ∈ w) e
    omega
  · exact lt_nodup (iv_lt 0 n)⟩
theorem backW_at {n : Nat} {w : List Int} {a : Int} (h0 : 0 ≤ a) (h1 : a < n) : atW (backW n w) a = posW w a := by
  unfold atW backW
  rw [List.getD_eq_getElem?_getD, iv_at h0 h1]; rfl
theorem led_back {n : Nat} {w : List Int} {es : List (Int × Int)} (ok : GOk n es) (h : WayOk n w) : ledG n (backW n w) (ledG n w es) = es := by
  refine ok.by_adj fun i j h0 h1 h2 => ?_
  have hi : i ∈ w := h.mem.mpr (by omega)
  have hj : j ∈ w := h.mem.mpr (by omega)
  have p1 := h.pos_lt hi
  have p2 := h.pos_lt hj
  rw [backW_at (by omega) (by omega), backW_at (by omega) (by omega)]
  unfold ledG
  rw [adj_edgesBy ok.small (fun a b => adj_sym _ _ _) p1.1 p1.2 p2.1 p2.2 (fun e => by have := h.pos_inj hi hj e; omega), h.at_pos hi, h.at_pos hj]
theorem ite_range {c : Prop} [Decidable c] {a : Nat} {g : TDG} {body : TDS} {K : DEnds} {ρ : DEnv} (ha : a ≤ 1000) (h : ∀ m : Nat, (c ∨ m = 0) → loopD g body K (rng 0 m) ρ) : if decide c = true then (RgB 0 (a : Int) ∧ loopD g body K (rng 0 (a : Int).toNat) ρ) else (RgB 0 0 ∧ loopD g body K (rng 0 (0 : Int).toNat) ρ) := by
  split
  · rename_i e
    exact ⟨rgb0 ha, h _ (.inl (of_decide_eq_true e))⟩
  · exact ⟨rgb0 (n := 0) (by omega), h 0 (.inr rfl)⟩
end DL
/-! the well: how it is dealt from, how it is made; the law's head -/
namespace DL
open PySem PySem.Spec PyProof.Rows L2

theorem ixN_nat {n k : Nat} (h : k < n) : ixN n (k : Int) = some k := by
  unfold ixN
  rw [if_pos (by omega), if_pos (by omega), Int.toNat_natCast]
theorem at0 {α : Type} (a : α) (l : List α) : atI (a :: l) 0 = some a := by
  unfold atI
  rw [show (0 : Int) = ((0 : Nat) : Int) from rfl, ixN_nat (by simp)]; rfl
theorem at1 {α : Type} (a b : α) (l : List α) : atI (a :: b :: l) 1 = some b := by
  unfold atI
  rw [show (1 : Int) = ((1 : Nat) : Int) from rfl, ixN_nat (by simp)]; rfl
theorem at2 {α : Type} (a b c : α) (l : List α) : atI (a :: b :: c :: l) 2 = some c := by
  unfold atI
  rw [show (2 : Int) = ((2 : Nat) : Int) from rfl, ixN_nat (by simp)]; rfl
theorem at3 {α : Type} (a b c d : α) (l : List α) : atI (a :: b :: c :: d :: l) 3 = some d := by
  unfold atI
  rw [show (3 : Int) = ((3 : Nat) : Int) from rfl, ixN_nat (by simp)]; rfl

abbrev gAdd := gO (fun _ _ => True) (fun i j => i + j)
abbrev gSub := gO (fun _ _ => True) (fun i j => i - j)
abbrev gMul := gO CMul (fun i j => i * j)
abbrev gMod := gO (fun _ j => 0 < j) (fun i j => i % j)
abbrev gFd := gO CDiv (fun i j => i / j)
abbrev gPow := gO CPow (fun i j => i ^ j.toNat)
abbrev gW (k : Int) : GW := gI (gC k)
def tw_dip : TW :=
  tSq (tI (bAnd (bC (fun i j => decide (i = j)) (gW 0) (gC 0)) (bC (fun i j => decide (i < j)) (gW 3) gL))
    (tSq (tV 2 (gI (gW 3))) (tSq (tXa (gC 3) (gC 1)) (tSq (tI (bC (fun i j => decide (j ≤ i)) (gV 2) (gPow (gC 10) (gC 18)))
      (tSq (tX (gC 0) (gSub (gV 2) (gPow (gC 10) (gC 18)))) tN)
      (tSq (tX (gC 1) (gMod (gAdd (gAdd (gMul (gW 1) (gC 48271)) (gMul (gV 2) (gC 2246822519))) (gW 3)) (gC 2305843009213693951))) tN)) tN))) tN)
  (tSq (tI (bC (fun i j => decide (j < i)) (gW 0) (gC 0))
    (tSq (tV 3 (gMod (gW 0) (gV 1))) (tSq (tX (gC 0) (gFd (gW 0) (gV 1))) (tSq (tR (gV 3)) tN))) tN)
  (tSq (tXa (gC 2) (gC 1))
  (tSq (tV 4 (gMod (gAdd (gW 1) (gMul (gC 11400714819323198485) (gW 2))) (gC 2305843009213693951)))
  (tSq (tV 4 (gMod (gAdd (gMul (gV 4) (gV 4)) (gMul (gC 2654435769) (gW 2))) (gC 2305843009213693951)))
  (tSq (tV 4 (gMod (gAdd (gMul (gMul (gV 4) (gV 4)) (gC 3)) (gW 1)) (gC 2305843009213693951)))
  (tSq (tR (gMod (gFd (gV 4) (gC 1024)) (gV 1))) tN))))))
theorem two18 : (10 : Int) ^ (18 : Int).toNat = 1000000000000000000 := by decide
/-- the second half: from a well whose head is told -/
theorem dip2 {nx : WN} {rt : Int → List Int → Prop} {n w0 w1 w2 w3 : Int} {cells : List Int} {a : V} {o3 o4 o5 : Option V} (hn : 1 ≤ n) (hn2 : n < 1073741824) (h0 : 0 ≤ w0)
    (h : ∀ z v0 v1 v2 : Int, 0 ≤ z → z < n → 0 ≤ v0 → rt z (v0 :: v1 :: v2 :: w3 :: cells)) :
    (tSq (tI (bC (fun i j => decide (j < i)) (gW 0) (gC 0))
    (tSq (tV 3 (gMod (gW 0) (gV 1))) (tSq (tX (gC 0) (gFd (gW 0) (gV 1))) (tSq (tR (gV 3)) tN))) tN)
  (tSq (tXa (gC 2) (gC 1))
  (tSq (tV 4 (gMod (gAdd (gW 1) (gMul (gC 11400714819323198485) (gW 2))) (gC 2305843009213693951)))
  (tSq (tV 4 (gMod (gAdd (gMul (gV 4) (gV 4)) (gMul (gC 2654435769) (gW 2))) (gC 2305843009213693951)))
  (tSq (tV 4 (gMod (gAdd (gMul (gMul (gV 4) (gV 4)) (gC 3)) (gW 1)) (gC 2305843009213693951)))
  (tSq (tR (gMod (gFd (gV 4) (gC 1024)) (gV 1))) tN)))))) nx rt (w0 :: w1 :: w2 :: w3 :: cells) [some a, some (.int n), o3, o4, o5] := by
  refine ⟨_, ⟨w0, 0, ⟨0, rfl, at0 _ _⟩, rfl, rfl⟩, ?_⟩
  show (if decide (0 < w0) = true then _ else _)
  by_cases q : 0 < w0
  · rw [decide_eq_true q, if_pos rfl]
    refine ⟨_, ⟨w0, n, ⟨0, rfl, at0 _ _⟩, rfl, by show 0 < n; omega, rfl⟩, ?_⟩
    refine ⟨_, 0, 0, ⟨w0, n, ⟨0, rfl, at0 _ _⟩, rfl, ⟨by omega, hn2⟩, rfl⟩, rfl, ixN_nat (k := 0) (by simp), ?_⟩
    refine ⟨_, rfl, ?_⟩
    exact h _ _ _ _ (Int.emod_nonneg _ (by omega)) (Int.emod_lt_of_pos _ (by omega)) (Int.ediv_nonneg h0 (by omega))
  · rw [decide_eq_false q, if_neg Bool.false_ne_true]
    refine ⟨1, 2, 2, w2, rfl, at2 _ _ _ _, rfl, ixN_nat (k := 2) (by simp), ?_⟩
    have pos : (0 : Int) < 2305843009213693951 := by decide
    have small : ∀ x : Int, x % 2305843009213693951 < 2 ^ 64 ∧ -(2 ^ 64) < x % 2305843009213693951 := fun x => by
      have h1 := Int.emod_lt_of_pos x pos
      have h2 := Int.emod_nonneg x (show (2305843009213693951 : Int) ≠ 0 by decide)
      omega
    refine ⟨_, ⟨_, _, ⟨_, _, ⟨1, rfl, at1 _ _ _⟩, ⟨_, _, rfl, ⟨2, rfl, at2 _ _ _ _⟩, .inl ⟨by decide, by decide⟩, rfl⟩, trivial, rfl⟩, rfl, pos, rfl⟩, ?_⟩
    refine ⟨_, ⟨_, _, ⟨_, _, ⟨_, _, rfl, rfl, .inl ⟨(small _).2, (small _).1⟩, rfl⟩, ⟨_, _, rfl, ⟨2, rfl, at2 _ _ _ _⟩, .inl ⟨by decide, by decide⟩, rfl⟩, trivial, rfl⟩, rfl, pos, rfl⟩, ?_⟩
    refine ⟨_, ⟨_, _, ⟨_, _, ⟨_, _, ⟨_, _, rfl, rfl, .inl ⟨(small _).2, (small _).1⟩, rfl⟩, rfl, .inr ⟨by decide, by decide⟩, rfl⟩, ⟨1, rfl, at1 _ _ _⟩, trivial, rfl⟩, rfl, pos, rfl⟩, ?_⟩
    refine ⟨_, ⟨_, _, ⟨_, _, rfl, rfl, ⟨by decide, by decide⟩, rfl⟩, rfl, by show 0 < n; omega, rfl⟩, ?_⟩
    exact h _ _ _ _ (Int.emod_nonneg _ (by omega)) (Int.emod_lt_of_pos _ (by omega)) h0
theorem rd_dip {nx : WN} {rt : Int → List Int → Prop} {n : Int} {ns : List Int} {a : V} (hn : 1 ≤ n) (hn2 : n < 1073741824) (wk : WellOK ns) (h : ∀ z ns', 0 ≤ z → z < n → WellOK ns' → rt z ns') : tw_dip nx rt ns [some a, some (.int n), none, none, none] := by
  obtain ⟨w0, w1, w2, w3, cells, rfl, h0, h3, hl⟩ := wk
  simp only [List.length_cons] at hl
  have fin : ∀ v3 : Int, 4 ≤ v3 → ∀ z v0 v1 v2 : Int, 0 ≤ z → z < n → 0 ≤ v0 → rt z (v0 :: v1 :: v2 :: v3 :: cells) := fun v3 g3 z v0 v1 v2 z0 z1 g0 => h _ _ z0 z1 ⟨v0, v1, v2, v3, cells, rfl, g0, g3, by simp; omega⟩
  show ∃ b, _ ∧ if b = true then _ else _
  by_cases q : w0 = 0 ∧ w3 < cells.length + 4
  · obtain ⟨q1, q2⟩ := q
    subst q1
    refine ⟨true, ⟨true, ⟨0, 0, ⟨0, rfl, at0 _ _⟩, rfl, rfl⟩, ?_⟩, ?_⟩
    · rw [if_pos rfl]
      exact ⟨w3, _, ⟨3, rfl, at3 _ _ _ _ _⟩, rfl, (decide_eq_true (by simp; omega)).symm⟩
    · rw [if_pos rfl]
      have hc : ∃ c, atI (0 :: w1 :: w2 :: w3 :: cells) w3 = some c := by
        have e : ixN (0 :: w1 :: w2 :: w3 :: cells).length w3 = some w3.toNat := by
          unfold ixN
          rw [if_pos (by omega), if_pos (by simp; omega)]
        rw [atI_ix e, List.getElem?_eq_getElem (by simp; omega)]
        exact ⟨_, rfl⟩
      obtain ⟨c, hc⟩ := hc
      refine ⟨c, ⟨w3, ⟨3, rfl, at3 _ _ _ _ _⟩, hc⟩, ?_⟩
      refine ⟨1, 3, 3, w3, rfl, at3 _ _ _ _ _, rfl, ixN_nat (k := 3) (by simp), ?_⟩
      refine ⟨_, ⟨c, _, rfl, ⟨10, 18, rfl, rfl, ⟨by decide, by decide, by decide⟩, rfl⟩, rfl⟩, ?_⟩
      show (if decide ((10 : Int) ^ (18 : Int).toNat ≤ c) = true then _ else _)
      rw [two18]
      by_cases q : (1000000000000000000 : Int) ≤ c
      · rw [decide_eq_true q, if_pos rfl]
        refine ⟨_, 0, 0, ⟨c, _, rfl, ⟨10, 18, rfl, rfl, ⟨by decide, by decide, by decide⟩, rfl⟩, trivial, rfl⟩, rfl, ixN_nat (k := 0) (by simp), ?_⟩
        exact dip2 hn hn2 (by show (0 : Int) ≤ c - (10 : Int) ^ (18 : Int).toNat; rw [two18]; omega) (fin (w3 + 1) (by omega))
      · rw [decide_eq_false q, if_neg Bool.false_ne_true]
        refine ⟨_, 1, 1, ⟨_, _, ⟨_, _, ⟨_, _, ⟨_, _, ⟨1, rfl, at1 _ _ _⟩, rfl, .inr ⟨by decide, by decide⟩, rfl⟩, ⟨_, _, rfl, rfl, .inr ⟨by decide, by decide⟩, rfl⟩, trivial, rfl⟩, ⟨3, rfl, at3 _ _ _ _ _⟩, trivial, rfl⟩, rfl, by show (0 : Int) < 2305843009213693951; decide, rfl⟩, rfl, ixN_nat (k := 1) (by simp), ?_⟩
        exact dip2 hn hn2 (Int.le_refl 0) (fin (w3 + 1) (by omega))
  · refine ⟨false, ?_, ?_⟩
    · by_cases q1 : w0 = 0
      · refine ⟨true, ⟨w0, 0, ⟨0, rfl, at0 _ _⟩, rfl, (decide_eq_true q1).symm⟩, ?_⟩
        rw [if_pos rfl]
        exact ⟨w3, _, ⟨3, rfl, at3 _ _ _ _ _⟩, rfl, (decide_eq_false (by simp; omega)).symm⟩
      · refine ⟨false, ⟨w0, 0, ⟨0, rfl, at0 _ _⟩, rfl, (decide_eq_false q1).symm⟩, ?_⟩
        rw [if_neg Bool.false_ne_true]
    · rw [if_neg Bool.false_ne_true]
      exact dip2 hn hn2 h0 (fin w3 h3)
/-- a def whose body is dip's keeps dip's promise -/
theorem dip_ok {P : Program} {w : World} {K : PySem.W.Frag} {mg : Str → Option Value} {base : Heap} {x : Str} {st : Stmt} {f : Addr} {fd : FuncData} {N ps : List Str} {k : Nat} (F : Fun K x x st f fd) (hm : mg x = some (.ref f)) (S : FnScope N ps (defScope st)) (hN : N.length = 5) (hps : ps.length = 2)
    (hbody : ∀ (cdv : Value) (A : Around) (outer : List Env) (s : Shared) (H : Hp), Room k (A.deeper (envOfC x (defScope st) s.heap.objs.size f cdv)) → WSs (cxOf CX0 P w K mg base N x (defScope st) f cdv A outer s H E0).nox (defBody st) tw_dip) : DDef P w K mg base x st (k + 1) ps sp__law_dip := by
  refine ⟨f, fd, F.ok S (fun vs H Q E ⟨aw, S, ds, Q', wf, r, h, c⟩ => ?_) (fun cdv A outer s H vs Q E hr h => ?_), hm, F.kp, F⟩
  · rw [← lenR r, hps]
    match ds, h with
    | [.well, .int n], _ => rfl
  · obtain ⟨aw, S', ds, Q', wf, r, h, c⟩ := h
    refine ⟨liftW tw_dip, (hbody cdv A outer s H hr).run, ?_⟩
    match ds, h with
    | [.well, .int n], ⟨⟨h1, h2⟩, h⟩ =>
      obtain ⟨v, vr, rfl, ⟨a, ha, rfl⟩, v2, vr2, rfl, e2, e3⟩ := r
      cases e2
      cases e3
      obtain ⟨hs, ns, hH, wk⟩ := wf.well a ha
      have est : L2.start N [V.ref a, V.int n] = [some (V.ref a), some (V.int n), none, none, none] := by
        unfold L2.start
        simp [hN, List.replicate]
      rw [est]
      refine ⟨a, ns, fun _ _ => False, fun z ns' => 0 ≤ z ∧ z < n ∧ WellOK ns', rfl, hH, rd_dip h1 h2 wk fun z ns' a b c => ⟨a, b, c⟩, fun _ _ h => h.elim, fun z ns' ⟨z0, z1, wk'⟩ => ?_⟩
      refine c _ (h z z0 z1) (.int z) S' _ ⟨⟨fun b o e => ?_, fun b e => ?_⟩, Le.refl _, fun b o e => .inl e, fun b o e ne => ?_⟩ rfl
      · rw [upd_ne (ne_of_none e hs)]
        exact wf.sub b o e
      · have : a = b := by rw [ha] at e; exact Option.some.inj e
        subst this
        exact ⟨hs, ns', upd_same, wk'⟩
      · rw [upd_ne fun q => ne (by rw [q]; exact ha)]
        exact e
/-! the well is made -/
def spWell (K : PySem.W.Frag) : Sp := fun vs H Q _ => ∃ (a : Addr) (ns : List Int), vs = [.ref a] ∧ SqL K H a (ns.map V.int) ∧ ns.length ≤ 63 ∧
  ∀ (p : Addr) (ns' : List Int) (H' : Hp), WellOK ns' → H' p = some (.lst (ns'.map V.int)) → Q (.ref p) H'
def spLawK (K : PySem.W.Frag) : Sp := fun vs H Q _ => ∃ (a : Addr) (ns : List Int), vs = [.ref a] ∧ SqL K H a (ns.map V.int) ∧ ns.length ≤ 63 ∧ ∀ H', Q (.bl true) H'
theorem PSs.any {X : Cx} {sts : List Stmt} {t : TDS} (h : DSs X sts t) : PSs X sts fun E σ H => ∃ aw S0 H0, liftS aw S0 H0 t E σ H := ⟨fun pins s σ H D I ⟨aw, S0, H0, q⟩ => (h.run aw S0 H0).run pins s σ H D I q⟩
/-- the law's slots when the well stands -/
def lawEnv (n : Nat) : DEnv := .no :: .sh .well :: List.replicate n .no
theorem law_start {t : TDS} {p : Addr} {ns : List Int} {H : Hp} {σ : L2.St} {E : Ends} {n : Nat} (hσ : σ[1]? = some (some (.ref p))) (hl : σ.length = n + 2) (hp : H p = some (.lst (ns.map V.int))) (wk : WellOK ns) (hq : ∀ H', E.rt (.bl true) H')
    (h : t { nx := fun _ => False, rt := fun d => d = .bl true } (lawEnv n)) : ∃ aw S0 H0, liftS aw S0 H0 t E σ H := by
  refine ⟨some p, fun _ => none, H, lawEnv n, fun _ => none, _, ?_, h, ⟨fun _ h => h.elim, fun d e v S' H' _ r => ?_, fun _ h => h.elim, fun _ h => h.elim⟩⟩
  · refine ⟨.refl ⟨(fun _ _ e => by cases e), fun a e => ?_⟩, by unfold lawEnv; simp [hl], fun _ => [], ⟨fun i => ?_, fun _ => List.nodup_nil, fun i j a h => (by cases h), fun i a h => (by cases h)⟩⟩
    · cases e
      exact ⟨rfl, ns, hp, wk⟩
    · match i with
      | 0 => exact rfl
      | 1 =>
        refine ⟨rfl, .ref p, ?_, p, rfl, rfl⟩
        rw [List.getD_eq_getElem?_getD, hσ]; rfl
      | i + 2 =>
        show SlotR _ _ _ ((List.replicate n SV.no).getD i .no) _ _
        rw [List.getD_eq_getElem?_getD, List.getElem?_replicate]
        split <;> exact rfl
  · have e : d = .bl true := e
    subst e
    cases r
    exact hq H'
end DL
namespace DL
open PySem PySem.Spec PyProof.Rows L2
theorem dss_never {X : Cx} {sts : List Stmt} : DSs X sts (fun _ _ => False) := ⟨fun aw S0 H0 => ⟨fun pins s σ H D I ⟨_, _, _, _, h, _⟩ => h.elim⟩⟩
theorem sqL_put {K : PySem.W.Frag} {H : Hp} {a p : Addr} {xs : List V} {o : HO} (h : SqL K H a xs) (hp : H p = none) : SqL K (upd H p o) a xs := by
  rcases h with (h | ⟨ob, h⟩) | h
  · exact .inl (.inl (by rw [upd_ne (ne_of_none h hp)]; exact h))
  · exact .inl (.inr ⟨ob, by rw [upd_ne (ne_of_none h hp)]; exact h⟩)
  · exact .inr h
theorem well_ok (ns : List Int) (h : ns.length ≤ 63) : WellOK ([0, 271828182845, 0, 4] ++ ns) := ⟨0, 271828182845, 0, 4, ns, rfl, by decide, by decide, by simp; omega⟩
theorem blk_in {N : List Str} {sc scope : Scope} {env : Env} {own : List (Str × Nat)} (h : BlkOk N sc scope own) : BlkOk N (relabel sc env) scope own := by
  refine ⟨h.kind, h.uniq, h.ix, fun y hy e => ?_, h.own⟩
  have key : ∀ (l : List (Str × NameKind)) (x : Str), (l.lookup x = some .cell ∨ l.lookup x = some .free) →
      ((l.map fun (n, k) => if (k == NameKind.free && env.scope.kind == .function && env.kindOf n == some .cell) then (n, NameKind.cell) else (n, k)).lookup x = some .cell ∨
       (l.map fun (n, k) => if (k == NameKind.free && env.scope.kind == .function && env.kindOf n == some .cell) then (n, NameKind.cell) else (n, k)).lookup x = some .free) := by
    intro l x
    induction l with
    | nil => intro h; simp at h
    | cons p l ih =>
      obtain ⟨n, k⟩ := p
      intro h
      rw [List.map_cons]
      by_cases q : x = n
      · subst q
        simp only [List.lookup_cons_self, Option.some.injEq] at h
        dsimp only
        split
        · simp
        · simp only [List.lookup_cons_self, Option.some.injEq]
          exact h
      · have q' : (x == n) = false := by simpa using q
        simp only [List.lookup_cons, q'] at h
        dsimp only
        split
        · simp only [List.lookup_cons, q']
          exact ih h
        · simp only [List.lookup_cons, q']
          exact ih h
  exact key _ _ (h.free y hy e)
end DL
/-! DL: an item of an owned list; range downwards -/
namespace DL
open PySem PySem.Spec PyProof.Rows L2
section
variable {X : Cx} {tg : Expr} {ta : TDA} {p pos pos' : Pos}
/-- x[e], x owned -/
def dIxO (i : Nat) (ti : TD) : TD := fun ρ Q => match ρ.getD i .no with
  | .ow xs => ti ρ fun j => match j with
    | .int n => match atI xs n with
      | some d => Q d
      | none => False
    | _ => False
  | _ => False
theorem de_ixO (i : Nat) {x : Str} {b : Expr} {tb : TD} (hN : X.N[i]? = some x) (hv : Vis X.env.scope x) (hb : DE X b tb) (hd : (x == ("__debug__" : Str)) = false := by decide) (hcd : (x == ("__classdict__" : Str)) = false := by decide) (hs : PlainIx b := by intro _ _; rfl) : DE X (.Subscript (.Name x p) b pos) (dIxO i tb) :=
  ⟨fun aw S0 H0 => PE.imp (pe_ix ix_list (pe_var hN hv hd hcd) (hb.run aw S0 H0) hs) fun σ H k ⟨ρ, S, Q, r, h, c⟩ => by
    unfold dIxO at h
    split at h
    · rename_i xs hx
      obtain ⟨a, vs, e1, h1, z1, r1, h2, h3, mu⟩ := r.owned hx
      refine ⟨_, e1, ρ, S, _, r, h, fun d hd v S1 H1 x1 rd => ?_⟩
      split at hd
      · split at hd
        · rename_i n _ d e
          cases rd
          obtain ⟨v, h4, r2⟩ := atI_rep (r1.mono x1.le) e
          exact ⟨a, vs, n, v, rfl, rfl, .of (mu x1).1, h4, c _ hd v S1 H1 x1 r2⟩
        · exact hd.elim
      · exact hd.elim
    · exact h.elim⟩
/-- the ints from lo downwards, n of them -/
def rngD (lo : Int) (n : Nat) : List D := (List.range n).map fun k => D.int (lo - (k : Nat))
theorem itok_rngD {aw : Option Addr} {S : Hp} {lo : Int} {n : Nat} (h : n ≤ sizeLine) : ItOk aw (Itc lo (-1) n) (rngD lo n) (fun S2 _ => Le S S2) where
  size := by unfold rngD; simpa using h
  go := fun S2 H2 _ w i d e => by
    unfold rngD at e
    rw [List.getElem?_map] at e
    have hi : i < n := by
      rcases Nat.lt_or_ge i n with h | h
      · exact h
      · rw [List.getElem?_eq_none (by simpa using h)] at e; cases e
    rw [List.getElem?_range hi] at e
    cases e
    refine ⟨hi, fun x H' y => ?_⟩
    obtain ⟨rfl, rfl⟩ := y
    exact ⟨S2, .refl w, by show V.int _ = V.int _; congr 1; omega⟩
  stop := fun S2 H2 _ w => by
    show n ≤ (rngD lo n).length
    unfold rngD
    simp
def dRange3 (ta : TDA) : TDI := fun ρ Q => ta ρ fun ds => match ds with
  | [.int i, .int j, .int k] => (RgB i j ∧ k = -1) ∧ Q (rngD i (i - j).toNat)
  | _ => False
theorem di_range3 {a b c : Expr} (hg : Gl X "range") (hm : X.mg "range" = none) (ha : DA X [a, b, c] ta) (hs : starEach [a, b, c] X.env = (false, eval a X.env) :: starEach [b, c] X.env := by rfl) (hpl : (backTo pos (starEach [b, c] X.env)).any (·.1) = false := by rfl) :
    DI X tg (.Call (.Name "range" p) [a, b, c] [] pos) (dRange3 ta) :=
  ⟨fun aw S0 H0 => PI.imp (pi_range3 hg hm (ha.run aw S0 H0) hs hpl) fun σ H R ⟨ρ, S, Q, r, h, c⟩ => ⟨ρ, S, _, r, h, fun ds hd vs S1 H1 x1 r1 => by
    split at hd
    · rename_i i j k
      obtain ⟨v, vr, rfl, e, v2, vr2, rfl, e2, v3, vr3, rfl, e3, t⟩ := r1
      cases e
      cases e2
      cases e3
      cases t
      obtain ⟨⟨hb, rfl⟩, hd⟩ := hd
      obtain ⟨b1, b2, b3, b4⟩ := hb
      exact ⟨i, j, -1, (i - j).toNat, rfl, .neg (by omega) (by omega) (by omega) (by omega), c _ hd _ S1 H1 x1 (itok_rngD (by rw [sizeLine_eq]; omega))⟩
    · exact hd.elim⟩⟩
end
end DL
/-! orders: what the functions promise -/
namespace DL
open PySem PySem.Spec PyProof.Rows L2

/-! ### steps and orders as plain data -/
def rel (ps : List (Int × Int)) (i j : Int) : Bool := decide ((i, j) ∈ ps)
structure SOk (n : Nat) (ps : List (Int × Int)) : Prop where
  small : n ≤ 1000
  ok : ∀ p ∈ ps, 0 ≤ p.1 ∧ p.1 < n ∧ 0 ≤ p.2 ∧ p.2 < n ∧ p.1 ≠ p.2
  asc : ps.Pairwise lexLt
structure OOk (n : Nat) (ps : List (Int × Int)) : Prop extends SOk n ps where
  tr : ∀ i j k, (i, j) ∈ ps → (j, k) ∈ ps → (i, k) ∈ ps
def prow (n : Nat) (R : Int → Int → Bool) (i : Int) : List (Int × Int) := ((iv 0 n).filter (R i)).map fun j => (i, j)
def pairsBy (n : Nat) (R : Int → Int → Bool) : List (Int × Int) := (iv 0 n).flatMap (prow n R)
theorem mem_prow {n : Nat} {R : Int → Int → Bool} {i : Int} {p : Int × Int} : p ∈ prow n R i ↔ p.1 = i ∧ 0 ≤ p.2 ∧ p.2 < n ∧ R i p.2 = true := by
  unfold prow
  rw [List.mem_map]
  constructor
  · rintro ⟨j, hj, rfl⟩
    rw [List.mem_filter, mem_iv] at hj
    refine ⟨rfl, ?_, ?_, hj.2⟩
    · show 0 ≤ j; omega
    · show j < n; omega
  · rintro ⟨h1, h2, h3, h4⟩
    exact ⟨p.2, by rw [List.mem_filter, mem_iv]; exact ⟨by omega, h4⟩, Prod.ext h1.symm rfl⟩
theorem mem_pairsBy {n : Nat} {R : Int → Int → Bool} {p : Int × Int} : p ∈ pairsBy n R ↔ 0 ≤ p.1 ∧ p.1 < n ∧ 0 ≤ p.2 ∧ p.2 < n ∧ R p.1 p.2 = true := by
  unfold pairsBy
  rw [List.mem_flatMap]
  constructor
  · rintro ⟨i, hi, hp⟩
    rw [mem_iv] at hi
    obtain ⟨h1, h2, h3, h4⟩ := mem_prow.mp hp
    subst h1
    exact ⟨hi.1, by omega, h2, h3, h4⟩
  · rintro ⟨h1, h2, h3, h4, h5⟩
    exact ⟨p.1, mem_iv.mpr (by omega), mem_prow.mpr ⟨rfl, h3, h4, h5⟩⟩
theorem prow_asc (n : Nat) (R : Int → Int → Bool) (i : Int) : (prow n R i).Pairwise lexLt := by
  unfold prow
  rw [List.pairwise_map]
  exact ((iv_lt _ _).filter _).imp fun h => .inr ⟨rfl, h⟩
theorem flatP_asc {n : Nat} {R : Int → Int → Bool} : ∀ {l : List Int}, l.Pairwise (· < ·) → (l.flatMap (prow n R)).Pairwise lexLt
  | [], _ => .nil
  | i :: l, h => by
    rw [List.pairwise_cons] at h
    rw [List.flatMap_cons]
    refine List.pairwise_append.mpr ⟨prow_asc n R i, flatP_asc h.2, fun p hp q hq => ?_⟩
    obtain ⟨h1, _⟩ := mem_prow.mp hp
    obtain ⟨j, hj, hq⟩ := List.mem_flatMap.mp hq
    obtain ⟨h2, _⟩ := mem_prow.mp hq
    exact .inl (by rw [h1, h2]; exact h.1 j hj)
theorem pairsBy_asc (n : Nat) (R : Int → Int → Bool) : (pairsBy n R).Pairwise lexLt := flatP_asc (iv_lt 0 n)
theorem lex_nodup {l : List (Int × Int)} (h : l.Pairwise lexLt) : l.Nodup := h.imp fun h e => by subst e; exact lex_asym _ _ h h
theorem SOk.by_rel {n : Nat} {ps : List (Int × Int)} (ok : SOk n ps) {R : Int → Int → Bool} (h : ∀ i j : Int, 0 ≤ i → i < n → 0 ≤ j → j < n → R i j = rel ps i j) : pairsBy n R = ps := by
  refine sorted_ext lex_asym (pairsBy_asc n R) ok.asc fun p => ?_
  rw [mem_pairsBy]
  constructor
  · rintro ⟨h1, h2, h3, h4, h5⟩
    rw [h _ _ h1 h2 h3 h4] at h5
    exact of_decide_eq_true h5
  · intro hp
    obtain ⟨h1, h2, h3, h4, _⟩ := ok.ok p hp
    exact ⟨h1, h2, h3, h4, by rw [h _ _ h1 h2 h3 h4]; exact decide_eq_true hp⟩
theorem rel_pairsBy {n : Nat} {R : Int → Int → Bool} {i j : Int} (h0 : 0 ≤ i) (h1 : i < n) (g0 : 0 ≤ j) (g1 : j < n) : rel (pairsBy n R) i j = R i j := by
  unfold rel
  rw [Bool.eq_iff_iff, decide_eq_true_eq, mem_pairsBy]
  exact ⟨fun h => h.2.2.2.2, fun h => ⟨h0, h1, g0, g1, h⟩⟩
def undr (n : Nat) (ps : List (Int × Int)) (i : Int) : List Int := (iv 0 n).filter fun k => rel ps k i
def ovr (n : Nat) (ps : List (Int × Int)) (i : Int) : List Int := (iv 0 n).filter fun k => rel ps i k
/-! lists that a loop fills row by row -/
theorem fill_rows {n : Nat} {a b : Int × Int → Int} {ps : List (Int × Int)} (i : Int) (h : ∀ p ∈ ps, 0 ≤ b p ∧ b p < n) (nd : ps.Nodup) (inj : ∀ p q, p ∈ ps → q ∈ ps → a p = a q → b p = b q → p = q) :
    ((iv 0 n).filter fun k => ps.any fun p => decide (a p = i) && decide (b p = k)).Perm ((ps.filter fun p => decide (a p = i)).map b) := by
  rw [List.perm_ext_iff_of_nodup]
  · intro x
    rw [List.mem_filter, mem_iv, List.any_eq_true, List.mem_map]
    constructor
    · rintro ⟨_, p, hp, e⟩
      simp only [Bool.and_eq_true, decide_eq_true_eq] at e
      exact ⟨p, List.mem_filter.mpr ⟨hp, decide_eq_true e.1⟩, e.2⟩
    · rintro ⟨p, hp, rfl⟩
      rw [List.mem_filter, decide_eq_true_eq] at hp
      have := h p hp.1
      exact ⟨by omega, p, hp.1, by simp [hp.2]⟩
  · exact lt_nodup ((iv_lt 0 n).filter _)
  · show ((ps.filter fun p => decide (a p = i)).map b).Pairwise (· ≠ ·)
    rw [List.pairwise_map]
    refine List.Pairwise.imp_of_mem (fun {p q} hp hq hne e => ?_) (nd.filter _)
    rw [List.mem_filter, decide_eq_true_eq] at hp hq
    exact hne (inj p q hp.1 hq.1 (hp.2.trans hq.2.symm) e)
/-- the loop of under_lists and over_lists: p goes to row a p as b p -/
theorem fill_loop {n : Nat} {ps : List (Int × Int)} {a b : Int × Int → Int} (hn : n ≤ 1000) (hrow : ∀ p ∈ ps, 0 ≤ a p ∧ a p < n) (hval : ∀ p ∈ ps, 0 ≤ b p ∧ b p < n) (nd : ps.Nodup) (inj : ∀ p q, p ∈ ps → q ∈ ps → a p = a q → b p = b q → p = q)
    {x0 x2 x5 : SV} {K : DEnds} {body : TDS} (hb : ∀ (p : Int × Int), p ∈ ps → ∀ (f : Int → List D) (Kx : DEnds), (f (a p)).length < sizeLine → Kx.nx [x0, .ow2 (((iv 0 n).map f).set (a p).toNat (f (a p) ++ [.int (b p)])), x2, .sh (.int p.1), .sh (.int p.2), x5] → body Kx [x0, .ow2 ((iv 0 n).map f), x2, .sh (.int p.1), .sh (.int p.2), x5])
    (fin : ∀ s3 s4, K.nx [x0, .ow2 ((iv 0 n).map fun i => ((ps.filter fun p => decide (a p = i)).map b).map D.int), x2, s3, s4, x5]) : loopD (gT 2 (gCs (gN 3) (gCs (gN 4) gNl))) body K (ps.map pairD) [x0, .ow2 ((iv 0 n).map fun _ => []), x2, .no, .no, x5] := by
  refine loopD_ind (fun done ρ => ∃ (qs rest : List (Int × Int)) (s3 s4 : SV), ps = qs ++ rest ∧ done = qs.map pairD ∧ ρ = [x0, .ow2 ((iv 0 n).map fun i => ((qs.filter fun p => decide (a p = i)).map b).map D.int), x2, s3, s4, x5]) ?_ ?_ (done := []) rfl ⟨[], ps, .no, .no, rfl, rfl, rfl⟩
  · rintro done d rest e ρ ⟨qs, rs, s3, s4, e1, rfl, rfl⟩ N hN
    cases rs with
    | nil => rw [List.append_nil] at e1; rw [← e1] at e; simp at e
    | cons p rs =>
      have ed : d = pairD p := by
        rw [e1, List.map_append] at e
        have := List.append_cancel_left e
        simp at this
        exact this.1.symm
      subst ed
      have hp : p ∈ ps := by rw [e1]; simp
      have hlen : ((qs.filter fun q => decide (a q = a p)).map b).length ≤ n := by
        have h1 : ((qs.filter fun q => decide (a q = a p)).map b).Nodup := by
          have nq : qs.Nodup := by rw [e1] at nd; exact (List.nodup_append.mp nd).1
          show ((qs.filter _).map b).Pairwise (· ≠ ·)
          rw [List.pairwise_map]
          refine List.Pairwise.imp_of_mem (fun {u v} hu hv hne e => ?_) (nq.filter _)
          rw [List.mem_filter, decide_eq_true_eq] at hu hv
          exact hne (inj u v (by rw [e1]; exact List.mem_append_left _ hu.1) (by rw [e1]; exact List.mem_append_left _ hv.1) (hu.2.trans hv.2.symm) e)
        have := nodup_len h1 (m := iv 0 n) fun x hx => by
          obtain ⟨q, hq, rfl⟩ := List.mem_map.mp hx
          have := hval q (by rw [e1]; exact List.mem_append_left _ (List.mem_filter.mp hq).1)
          exact mem_iv.mpr (by omega)
        rw [iv_length] at this
        exact this
      refine ⟨rfl, hb p hp _ _ (by have := sizeLine_eq; simp only [List.length_map] at hlen ⊢; omega) ?_⟩
      rw [iv_set (hrow p hp).1]
      refine hN _ ⟨qs ++ [p], rs, .sh (.int p.1), .sh (.int p.2), by simp [e1], by simp, ?_⟩
      congr 3
      refine List.map_congr_left fun i _ => ?_
      rw [List.filter_append]
      by_cases q : i = a p
      · subst q; simp
      · rw [if_neg q]
        have : ¬ a p = i := fun e => q e.symm
        simp [this]
  · rintro ρ ⟨qs, rs, s3, s4, e1, e2, rfl⟩
    have e3 : qs = ps := by
      have e4 : (qs ++ rs).length = qs.length := by rw [← e1]; simpa using congrArg List.length e2
      rw [List.length_append] at e4
      have : rs = [] := List.eq_nil_of_length_eq_zero (by omega)
      rw [this, List.append_nil] at e1
      exact e1.symm
    subst e3
    exact fin s3 s4
def sp_under_lists : DSp := fun ds Q => ∃ n ps, ds = [gD n ps] ∧ SOk n ps ∧ Q (rowsD n (undr n ps))
def t_under_lists : TDS := (dSeqS (dSet 1 (vComp2 (dRange1 (dCons (dOp opIx (dVar 0) (dC (.int 0))) dNil)) (gN 2) dYes (dLst dNil) [2])) (dSeqS (dFor (dSeq (dOp opIx (dVar 0) (dC (.int 1)))) (gT 2 (gCs (gN 3) (gCs (gN 4) gNl))) (dSeqS (dApp2 1 (dVar 4) (dVar 3)) dNext)) (dFreeze2 1 (dSeqS (dRet (dFr (dComp (dSeq (dVar 1)) (gN 5) dYes (dFr (dSorted (dCons (dVar 5) dNil))) [5]))) dNext))))
theorem rd_under_lists (ds : List D) (Q : D → Prop) (h : sp_under_lists ds Q) : t_under_lists (endR Q) (startN 6 ds) := by
  obtain ⟨n, ps, rfl, ok, h⟩ := h
  show t_under_lists (endR Q) [.sh (gD n ps), .no, .no, .no, .no, .no]
  have hs := ok.small
  try simp only [t_under_lists, endR, dSeqS, dNext, dRet, dRetN, dIf, dDrop, dSet, dPar, dParN, setAll, dFor, dAppend, dExtend, dFreeze, dFreeze2, slotD, dAsg, dNever, dLend, dLendT, dVar, dC, dNil, dCons, dOp, dT, dAndT, dOrT, dNotT, dAndV, dOrV, dNotV, dIfE, dIs, dTup, dLst, dFr, dList, dLstR, dTupR, dRg1, dRg2, dSorted, dRange1, dRange2, dSeq, dEnum, dZip, dComp, wipeD, dCall, dCallKw, dSl, dPart, dNoPart, dYes, dPl, dIndexT, dIndexL, dIndexS, dTupF, gN, gT, gCs, gNl, vSh, vOw, vNil, vCons, vComp2, dDictComp, dNeg, dRep, dChain, spLen, spTuple, opIx20, opIx21, opIxG0, opIxG1, gd0, gdS, st0, stS, List.map_cons, List.map_nil, Bool.not_true, Bool.not_false, Bool.false_eq_true, ↓reduceIte]
  refine ⟨rgb0 hs, compF_map (f := fun _ => []) (fun d hd K k => ⟨Nat.zero_le _, k⟩) ?_⟩
  rw [Int.toNat_natCast, rng_iv, List.map_map, List.nil_append]
  have hok := ok.ok
  refine fill_loop (a := fun p => p.2) (b := fun p => p.1) hs (fun p hp => by have := hok p hp; omega) (fun p hp => by have := hok p hp; omega) (lex_nodup ok.asc) (fun p q _ _ e1 e2 => Prod.ext e2 e1) (fun p hp f Kx hl k => ?_) (fun s3 s4 => ?_)
  · try simp only [dSeqS, dNext, dRet, dRetN, dIf, dDrop, dSet, dPar, dParN, setAll, dFor, dAppend, dExtend, dFreeze, dFreeze2, slotD, dAsg, dNever, dLend, dLendT, dVar, dC, dNil, dCons, dOp, dT, dAndT, dOrT, dNotT, dAndV, dOrV, dNotV, dIfE, dIs, dTup, dLst, dFr, dList, dLstR, dTupR, dRg1, dRg2, dSorted, dRange1, dRange2, dSeq, dEnum, dZip, dComp, wipeD, dCall, dCallKw, dSl, dPart, dNoPart, dYes, dPl, dIndexT, dIndexL, dIndexS, dTupF, gN, gT, gCs, gNl, vSh, vOw, vNil, vCons, vComp2, dDictComp, dNeg, dRep, dChain, spLen, spTuple, opIx20, opIx21, opIxG0, opIxG1, gd0, gdS, st0, stS, List.map_cons, List.map_nil, Bool.not_true, Bool.not_false, Bool.false_eq_true, ↓reduceIte]
    have := hok p hp
    exact app2_at (z := p.2) (row := f p.2) (d := .int p.1) rfl (fun _ q => q) (fun _ q => q) (by omega) (iv_at (by omega) (by omega)) hl k
  · try simp only [dSeqS, dNext, dRet, dRetN, dIf, dDrop, dSet, dPar, dParN, setAll, dFor, dAppend, dExtend, dFreeze, dFreeze2, slotD, dAsg, dNever, dLend, dLendT, dVar, dC, dNil, dCons, dOp, dT, dAndT, dOrT, dNotT, dAndV, dOrV, dNotV, dIfE, dIs, dTup, dLst, dFr, dList, dLstR, dTupR, dRg1, dRg2, dSorted, dRange1, dRange2, dSeq, dEnum, dZip, dComp, wipeD, dCall, dCallKw, dSl, dPart, dNoPart, dYes, dPl, dIndexT, dIndexL, dIndexS, dTupF, gN, gT, gCs, gNl, vSh, vOw, vNil, vCons, vComp2, dDictComp, dNeg, dRep, dChain, spLen, spTuple, opIx20, opIx21, opIxG0, opIxG1, gd0, gdS, st0, stS, List.map_cons, List.map_nil, Bool.not_true, Bool.not_false, Bool.false_eq_true, ↓reduceIte]
    rw [List.map_map]
    refine compD_list (r := fun i => .lst ((undr n ps i).map D.int)) (fun i hi K k => ?_) h
    try simp only [dSeqS, dNext, dRet, dRetN, dIf, dDrop, dSet, dPar, dParN, setAll, dFor, dAppend, dExtend, dFreeze, dFreeze2, slotD, dAsg, dNever, dLend, dLendT, dVar, dC, dNil, dCons, dOp, dT, dAndT, dOrT, dNotT, dAndV, dOrV, dNotV, dIfE, dIs, dTup, dLst, dFr, dList, dLstR, dTupR, dRg1, dRg2, dSorted, dRange1, dRange2, dSeq, dEnum, dZip, dComp, wipeD, dCall, dCallKw, dSl, dPart, dNoPart, dYes, dPl, dIndexT, dIndexL, dIndexS, dTupF, gN, gT, gCs, gNl, vSh, vOw, vNil, vCons, vComp2, dDictComp, dNeg, dRep, dChain, spLen, spTuple, opIx20, opIx21, opIxG0, opIxG1, gd0, gdS, st0, stS, List.map_cons, List.map_nil, Bool.not_true, Bool.not_false, Bool.false_eq_true, ↓reduceIte]
    refine sorted_ints ?_ (lt_le ((iv_lt 0 n).filter _)) k
    have := fill_rows (n := n) (a := fun p => p.2) (b := fun p => p.1) (ps := ps) i (fun p hp => by have := hok p hp; omega) (lex_nodup ok.asc) (fun p q _ _ e1 e2 => Prod.ext e2 e1)
    refine List.Perm.trans (List.Perm.of_eq ?_) this
    congr 1
    funext k
    unfold rel
    rw [Bool.eq_iff_iff, decide_eq_true_eq, List.any_eq_true]
    constructor
    · intro h; exact ⟨_, h, by simp⟩
    · rintro ⟨p, hp, e⟩
      simp only [Bool.and_eq_true, decide_eq_true_eq] at e
      rw [show (k, i) = p from Prod.ext e.2.symm e.1.symm]
      exact hp
def sp_over_lists : DSp := fun ds Q => ∃ n ps, ds = [gD n ps] ∧ SOk n ps ∧ Q (rowsD n (ovr n ps))
def t_over_lists : TDS := (dSeqS (dSet 1 (vComp2 (dRange1 (dCons (dOp opIx (dVar 0) (dC (.int 0))) dNil)) (gN 2) dYes (dLst dNil) [2])) (dSeqS (dFor (dSeq (dOp opIx (dVar 0) (dC (.int 1)))) (gT 2 (gCs (gN 3) (gCs (gN 4) gNl))) (dSeqS (dApp2 1 (dVar 3) (dVar 4)) dNext)) (dFreeze2 1 (dSeqS (dRet (dFr (dComp (dSeq (dVar 1)) (gN 5) dYes (dFr (dSorted (dCons (dVar 5) dNil))) [5]))) dNext))))
theorem rd_over_lists (ds : List D) (Q : D → Prop) (h : sp_over_lists ds Q) : t_over_lists (endR Q) (startN 6 ds) := by
  obtain ⟨n, ps, rfl, ok, h⟩ := h
  show t_over_lists (endR Q) [.sh (gD n ps), .no, .no, .no, .no, .no]
  have hs := ok.small
  try simp only [t_over_lists, endR, dSeqS, dNext, dRet, dRetN, dIf, dDrop, dSet, dPar, dParN, setAll, dFor, dAppend, dExtend, dFreeze, dFreeze2, slotD, dAsg, dNever, dLend, dLendT, dVar, dC, dNil, dCons, dOp, dT, dAndT, dOrT, dNotT, dAndV, dOrV, dNotV, dIfE, dIs, dTup, dLst, dFr, dList, dLstR, dTupR, dRg1, dRg2, dSorted, dRange1, dRange2, dSeq, dEnum, dZip, dComp, wipeD, dCall, dCallKw, dSl, dPart, dNoPart, dYes, dPl, dIndexT, dIndexL, dIndexS, dTupF, gN, gT, gCs, gNl, vSh, vOw, vNil, vCons, vComp2, dDictComp, dNeg, dRep, dChain, spLen, spTuple, opIx20, opIx21, opIxG0, opIxG1, gd0, gdS, st0, stS, List.map_cons, List.map_nil, Bool.not_true, Bool.not_false, Bool.false_eq_true, ↓reduceIte]
  refine ⟨rgb0 hs, compF_map (f := fun _ => []) (fun d hd K k => ⟨Nat.zero_le _, k⟩) ?_⟩
  rw [Int.toNat_natCast, rng_iv, List.map_map, List.nil_append]
  have hok := ok.ok
  refine fill_loop (a := fun p => p.1) (b := fun p => p.2) hs (fun p hp => by have := hok p hp; omega) (fun p hp => by have := hok p hp; omega) (lex_nodup ok.asc) (fun p q _ _ e1 e2 => Prod.ext e1 e2) (fun p hp f Kx hl k => ?_) (fun s3 s4 => ?_)
  · try simp only [dSeqS, dNext, dRet, dRetN, dIf, dDrop, dSet, dPar, dParN, setAll, dFor, dAppend, dExtend, dFreeze, dFreeze2, slotD, dAsg, dNever, dLend, dLendT, dVar, dC, dNil, dCons, dOp, dT, dAndT, dOrT, dNotT, dAndV, dOrV, dNotV, dIfE, dIs, dTup, dLst, dFr, dList, dLstR, dTupR, dRg1, dRg2, dSorted, dRange1, dRange2, dSeq, dEnum, dZip, dComp, wipeD, dCall, dCallKw, dSl, dPart, dNoPart, dYes, dPl, dIndexT, dIndexL, dIndexS, dTupF, gN, gT, gCs, gNl, vSh, vOw, vNil, vCons, vComp2, dDictComp, dNeg, dRep, dChain, spLen, spTuple, opIx20, opIx21, opIxG0, opIxG1, gd0, gdS, st0, stS, List.map_cons, List.map_nil, Bool.not_true, Bool.not_false, Bool.false_eq_true, ↓reduceIte]
    have := hok p hp
    exact app2_at (z := p.1) (row := f p.1) (d := .int p.2) rfl (fun _ q => q) (fun _ q => q) (by omega) (iv_at (by omega) (by omega)) hl k
  · try simp only [dSeqS, dNext, dRet, dRetN, dIf, dDrop, dSet, dPar, dParN, setAll, dFor, dAppend, dExtend, dFreeze, dFreeze2, slotD, dAsg, dNever, dLend, dLendT, dVar, dC, dNil, dCons, dOp, dT, dAndT, dOrT, dNotT, dAndV, dOrV, dNotV, dIfE, dIs, dTup, dLst, dFr, dList, dLstR, dTupR, dRg1, dRg2, dSorted, dRange1, dRange2, dSeq, dEnum, dZip, dComp, wipeD, dCall, dCallKw, dSl, dPart, dNoPart, dYes, dPl, dIndexT, dIndexL, dIndexS, dTupF, gN, gT, gCs, gNl, vSh, vOw, vNil, vCons, vComp2, dDictComp, dNeg, dRep, dChain, spLen, spTuple, opIx20, opIx21, opIxG0, opIxG1, gd0, gdS, st0, stS, List.map_cons, List.map_nil, Bool.not_true, Bool.not_false, Bool.false_eq_true, ↓reduceIte]
    rw [List.map_map]
    refine compD_list (r := fun i => .lst ((ovr n ps i).map D.int)) (fun i hi K k => ?_) h
    try simp only [dSeqS, dNext, dRet, dRetN, dIf, dDrop, dSet, dPar, dParN, setAll, dFor, dAppend, dExtend, dFreeze, dFreeze2, slotD, dAsg, dNever, dLend, dLendT, dVar, dC, dNil, dCons, dOp, dT, dAndT, dOrT, dNotT, dAndV, dOrV, dNotV, dIfE, dIs, dTup, dLst, dFr, dList, dLstR, dTupR, dRg1, dRg2, dSorted, dRange1, dRange2, dSeq, dEnum, dZip, dComp, wipeD, dCall, dCallKw, dSl, dPart, dNoPart, dYes, dPl, dIndexT, dIndexL, dIndexS, dTupF, gN, gT, gCs, gNl, vSh, vOw, vNil, vCons, vComp2, dDictComp, dNeg, dRep, dChain, spLen, spTuple, opIx20, opIx21, opIxG0, opIxG1, gd0, gdS, st0, stS, List.map_cons, List.map_nil, Bool.not_true, Bool.not_false, Bool.false_eq_true, ↓reduceIte]
    refine sorted_ints ?_ (lt_le ((iv_lt 0 n).filter _)) k
    have := fill_rows (n := n) (a := fun p => p.1) (b := fun p => p.2) (ps := ps) i (fun p hp => by have := hok p hp; omega) (lex_nodup ok.asc) (fun p q _ _ e1 e2 => Prod.ext e1 e2)
    refine List.Perm.trans (List.Perm.of_eq ?_) this
    congr 1
    funext k
    unfold rel
    rw [Bool.eq_iff_iff, decide_eq_true_eq, List.any_eq_true]
    constructor
    · intro h; exact ⟨_, h, by simp⟩
    · rintro ⟨p, hp, e⟩
      simp only [Bool.and_eq_true, decide_eq_true_eq] at e
      rw [show (i, k) = p from Prod.ext e.1.symm e.2.symm]
      exact hp

/-! is_order -/
def isStep (n : Int) : D → Bool
  | .tup [.int i, .int j] => decide (0 ≤ i) && decide (i < n) && (decide (0 ≤ j) && decide (j < n)) && decide (i ≠ j)
  | _ => false
def sp_is_step : DSp := fun ds Q => match ds with
  | [d, .int n] => noFt d = true ∧ Q (.bl (isStep n d))
  | _ => False
def t_is_step : TDS := (dSeqS (dIf (dOrT (dNotT (dT (dIs isTup (dVar 0)))) (dOrT (dT (dOp opNe (dCall spLen (dCons (dVar 0) dNil)) (dC (.int 2)))) (dNotT (dT (dCall (spBools fun bs => bs.all id) (dCons (dFr (dComp (dSeq (dVar 0)) (gN 2) dYes (dCall sp_is_vertex (dCons (dVar 1) (dCons (dVar 2) dNil))) [2])) dNil)))))) (dSeqS (dRet (dC (.bl false))) dNext) dNext) (dSeqS (dRet (dOp opNe (dOp opIx (dVar 0) (dC (.int 0))) (dOp opIx (dVar 0) (dC (.int 1))))) dNext))
theorem isStep_len {n : Int} {xs : List D} (h : xs.length ≠ 2) : isStep n (.tup xs) = false := by
  unfold isStep
  split
  · rename_i e
    cases e
    exact absurd rfl h
  · rfl
theorem isVert_int {n : Int} {d : D} (h : isVert n d = true) : ∃ i, d = .int i ∧ 0 ≤ i ∧ i < n := by
  cases d with
  | int i =>
    have h : (decide (0 ≤ i) && decide (i < n)) = true := h
    simp only [Bool.and_eq_true, decide_eq_true_eq] at h
    exact ⟨i, rfl, h⟩
  | _ => cases h
theorem rd_is_step (ds : List D) (Q : D → Prop) (h : sp_is_step ds Q) : t_is_step (endR Q) (startN 3 ds) := by
  match ds, h with
  | [d, .int n], ⟨h0, h⟩ =>
    show t_is_step (endR Q) [.sh d, .sh (.int n), .no]
    cases d with
    | ft xs => cases h0
    | tup xs =>
      try simp only [t_is_step, isTup, endR, dSeqS, dNext, dRet, dRetN, dIf, dDrop, dSet, dPar, dParN, setAll, dFor, dAppend, dExtend, dFreeze, dFreeze2, slotD, dAsg, dNever, dLend, dLendT, dVar, dC, dNil, dCons, dOp, dT, dAndT, dOrT, dNotT, dAndV, dOrV, dNotV, dIfE, dIs, dTup, dLst, dFr, dList, dLstR, dTupR, dRg1, dRg2, dSorted, dRange1, dRange2, dSeq, dEnum, dZip, dComp, wipeD, dCall, dCallKw, dSl, dPart, dNoPart, dYes, dPl, dIndexT, dIndexL, dIndexS, dTupF, gN, gT, gCs, gNl, vSh, vOw, vNil, vCons, vComp2, dDictComp, dNeg, dRep, dChain, spLen, spTuple, opIx20, opIx21, opIxG0, opIxG1, gd0, gdS, st0, stS, List.map_cons, List.map_nil, Bool.not_true, Bool.not_false, Bool.false_eq_true, ↓reduceIte]
      refine ne_int (i := xs.length) (j := (2 : Nat)) ?_
      by_cases hl : xs.length = 2
      · rw [len_eq xs 2 hl]
        refine all_reads (p := isVert n) (fun d _ K k => k) ?_
        match xs, hl with
        | [a, b], _ =>
          have e : ([a, b].all (isVert n)) = (isVert n a && isVert n b) := by simp
          rw [e]
          by_cases ha : isVert n a = true
          · by_cases hb : isVert n b = true
            · obtain ⟨i, rfl, i0, i1⟩ := isVert_int ha
              obtain ⟨j, rfl, j0, j1⟩ := isVert_int hb
              rw [ha, hb]
              refine ne_int ?_
              have h : Q (.bl (decide (0 ≤ i) && decide (i < n) && (decide (0 ≤ j) && decide (j < n)) && decide (i ≠ j))) := h
              rw [decide_eq_true i0, decide_eq_true i1, decide_eq_true j0, decide_eq_true j1] at h
              exact h
            · have e2 : isStep n (.tup [a, b]) = false := by
                unfold isStep
                split
                · rename_i i j q
                  cases q
                  have : (decide (0 ≤ j) && decide (j < n)) = false := Bool.eq_false_iff.mpr hb
                  rw [this, Bool.and_false]; rfl
                · rfl
              rw [e2] at h
              rw [Bool.eq_false_iff.mpr hb, Bool.and_false]
              exact h
          · have e2 : isStep n (.tup [a, b]) = false := by
              unfold isStep
              split
              · rename_i i j q
                cases q
                have : (decide (0 ≤ i) && decide (i < n)) = false := Bool.eq_false_iff.mpr ha
                rw [this]; rfl
              · rfl
            rw [e2] at h
            rw [Bool.eq_false_iff.mpr ha, Bool.false_and]
            exact h
      · rw [len_ne xs 2 hl]
        rw [isStep_len hl] at h
        exact h
    | _ => exact h
/-- handed on -/
def trB (n : Nat) (ps : List (Int × Int)) : Bool := ps.all fun p => (undr n ps p.1).all fun k => rel ps k p.2
def sp_is_handed_on : DSp := fun ds Q => ∃ n ps, ds = [gD n ps] ∧ SOk n ps ∧ Q (.bl (trB n ps))
def t_is_handed_on : TDS := (dSeqS (dSet 1 (vSh (dCall sp_under_lists (dCons (dVar 0) dNil)))) (dSeqS (dFor (dSeq (dOp opIx (dVar 0) (dC (.int 1)))) (gT 2 (gCs (gN 2) (gCs (gN 3) gNl))) (dSeqS (dIf (dNotT (dT (dCall (spBools fun bs => bs.all id) (dCons (dFr (dComp (dSeq (dOp opIx (dVar 1) (dVar 2))) (gN 4) dYes (dOp (opInN false) (dVar 4) (dOp opIx (dVar 1) (dVar 3))) [4])) dNil)))) (dSeqS (dRet (dC (.bl false))) dNext) dNext) dNext)) (dSeqS (dRet (dNotV (dCall (spBools fun bs => bs.any id) (dCons (dFr (dComp (dRange1 (dCons (dOp opIx (dVar 0) (dC (.int 0))) dNil)) (gN 5) dYes (dOp (opInN false) (dVar 5) (dOp opIx (dVar 1) (dVar 5))) [5])) dNil)))) dNext)))
theorem any_reads {g : TDG} {te : TD} {ρ : DEnv} {p : D → Bool} {ds : List D} {Q : D → Prop} (h : ∀ d ∈ ds, ∀ K : D → Prop, K (.bl (p d)) → g d ρ fun ρ2 => te ρ2 K) (q : Q (.bl (ds.any p))) :
    compD g dYes te ρ ds [] fun xs => (spBools fun bs => bs.any id) [.lst xs] Q := by
  refine compD_map (f := fun d => .bl (p d)) h ?_
  show (match bls? (ds.map fun d => .bl (p d)) with | some bs => Q (.bl (bs.any id)) | none => False)
  have e : (ds.map fun d => D.bl (p d)) = (ds.map p).map D.bl := by simp
  rw [e, bls?_map]
  show Q (.bl ((ds.map p).any id))
  rw [List.any_map]
  exact q
theorem in_ints {j : Int} {ns : List Int} {Q : D → Prop} (q : Q (.bl (decide (j ∈ ns)))) : opInN false (.int j) (.lst (ns.map D.int)) Q := ⟨⟨rfl, eokd_ints 58 ns⟩, by
  show Q (.bl (dmem (.int j) (ns.map D.int)))
  rw [dmem_ints]; exact q⟩
/-- all over a list of ints -/
theorem all_ints {g : TDG} {te : TD} {ρ : DEnv} {p : Int → Bool} {l : List Int} {Q : D → Prop} (h : ∀ i ∈ l, ∀ K : D → Prop, K (.bl (p i)) → g (.int i) ρ fun ρ2 => te ρ2 K) (q : Q (.bl (l.all p))) :
    compD g dYes te ρ (l.map D.int) [] fun xs => (spBools fun bs => bs.all id) [.lst xs] Q := by
  refine compD_list (r := fun i => .bl (p i)) h ?_
  show (match bls? ([] ++ l.map fun i => .bl (p i)) with | some bs => Q (.bl (bs.all id)) | none => False)
  have e : ([] ++ l.map fun i => D.bl (p i)) = (l.map p).map D.bl := by simp
  rw [e, bls?_map]
  show Q (.bl ((l.map p).all id))
  rw [List.all_map]
  exact q
theorem any_ints {g : TDG} {te : TD} {ρ : DEnv} {p : Int → Bool} {l : List Int} {Q : D → Prop} (h : ∀ i ∈ l, ∀ K : D → Prop, K (.bl (p i)) → g (.int i) ρ fun ρ2 => te ρ2 K) (q : Q (.bl (l.any p))) :
    compD g dYes te ρ (l.map D.int) [] fun xs => (spBools fun bs => bs.any id) [.lst xs] Q := by
  refine compD_list (r := fun i => .bl (p i)) h ?_
  show (match bls? ([] ++ l.map fun i => .bl (p i)) with | some bs => Q (.bl (bs.any id)) | none => False)
  have e : ([] ++ l.map fun i => D.bl (p i)) = (l.map p).map D.bl := by simp
  rw [e, bls?_map]
  show Q (.bl ((l.map p).any id))
  rw [List.any_map]
  exact q
theorem mem_undr {n : Nat} {ps : List (Int × Int)} (ok : SOk n ps) {i k : Int} : k ∈ undr n ps i ↔ (k, i) ∈ ps := by
  unfold undr rel
  rw [List.mem_filter, mem_iv, decide_eq_true_eq]
  constructor
  · exact fun h => h.2
  · intro h
    have := ok.ok _ h
    exact ⟨by simp at this; omega, h⟩
theorem mem_ovr {n : Nat} {ps : List (Int × Int)} (ok : SOk n ps) {i k : Int} : k ∈ ovr n ps i ↔ (i, k) ∈ ps := by
  unfold ovr rel
  rw [List.mem_filter, mem_iv, decide_eq_true_eq]
  constructor
  · exact fun h => h.2
  · intro h
    have := ok.ok _ h
    exact ⟨by simp at this; omega, h⟩
theorem rd_is_handed_on (ds : List D) (Q : D → Prop) (h : sp_is_handed_on ds Q) : t_is_handed_on (endR Q) (startN 6 ds) := by
  obtain ⟨n, ps, rfl, ok, h⟩ := h
  show t_is_handed_on (endR Q) [.sh (gD n ps), .no, .no, .no, .no, .no]
  have hs := ok.small
  try simp only [t_is_handed_on, endR, sp_under_lists, dSeqS, dNext, dRet, dRetN, dIf, dDrop, dSet, dPar, dParN, setAll, dFor, dAppend, dExtend, dFreeze, dFreeze2, slotD, dAsg, dNever, dLend, dLendT, dVar, dC, dNil, dCons, dOp, dT, dAndT, dOrT, dNotT, dAndV, dOrV, dNotV, dIfE, dIs, dTup, dLst, dFr, dList, dLstR, dTupR, dRg1, dRg2, dSorted, dRange1, dRange2, dSeq, dEnum, dZip, dComp, wipeD, dCall, dCallKw, dSl, dPart, dNoPart, dYes, dPl, dIndexT, dIndexL, dIndexS, dTupF, gN, gT, gCs, gNl, vSh, vOw, vNil, vCons, vComp2, dDictComp, dNeg, dRep, dChain, spLen, spTuple, opIx20, opIx21, opIxG0, opIxG1, gd0, gdS, st0, stS, List.map_cons, List.map_nil, Bool.not_true, Bool.not_false, Bool.false_eq_true, ↓reduceIte]
  refine ⟨n, ps, rfl, ok, ?_⟩
  refine loopD_ind (fun done ρ => ∃ (qs rest : List (Int × Int)) (s2 s3 : SV), ps = qs ++ rest ∧ done = qs.map pairD ∧ (∀ p ∈ qs, ((undr n ps p.1).all fun k => rel ps k p.2) = true) ∧ ρ = [.sh (gD n ps), .sh (rowsD n (undr n ps)), s2, s3, .no, .no]) ?_ ?_ (done := []) rfl ⟨[], ps, .no, .no, rfl, rfl, fun p h => (by cases h), rfl⟩
  · rintro done d rest e ρ ⟨qs, rs, s2, s3, e1, rfl, hall, rfl⟩ N hN
    cases rs with
    | nil => rw [List.append_nil] at e1; rw [← e1] at e; simp at e
    | cons p rs =>
      have ed : d = pairD p := by
        rw [e1, List.map_append] at e
        have := List.append_cancel_left e
        simp at this
        exact this.1.symm
      subst ed
      have hp : p ∈ ps := by rw [e1]; simp
      obtain ⟨h1, h2, h3, h4, _⟩ := ok.ok p hp
      refine ⟨rfl, ?_⟩
      try simp only [rowsD, dSeqS, dNext, dRet, dRetN, dIf, dDrop, dSet, dPar, dParN, setAll, dFor, dAppend, dExtend, dFreeze, dFreeze2, slotD, dAsg, dNever, dLend, dLendT, dVar, dC, dNil, dCons, dOp, dT, dAndT, dOrT, dNotT, dAndV, dOrV, dNotV, dIfE, dIs, dTup, dLst, dFr, dList, dLstR, dTupR, dRg1, dRg2, dSorted, dRange1, dRange2, dSeq, dEnum, dZip, dComp, wipeD, dCall, dCallKw, dSl, dPart, dNoPart, dYes, dPl, dIndexT, dIndexL, dIndexS, dTupF, gN, gT, gCs, gNl, vSh, vOw, vNil, vCons, vComp2, dDictComp, dNeg, dRep, dChain, spLen, spTuple, opIx20, opIx21, opIxG0, opIxG1, gd0, gdS, st0, stS, List.map_cons, List.map_nil, Bool.not_true, Bool.not_false, Bool.false_eq_true, ↓reduceIte]
      refine ix_iv (f := fun i => .lst ((undr n ps i).map D.int)) h1 h2 ?_
      try simp only [dSeqS, dNext, dRet, dRetN, dIf, dDrop, dSet, dPar, dParN, setAll, dFor, dAppend, dExtend, dFreeze, dFreeze2, slotD, dAsg, dNever, dLend, dLendT, dVar, dC, dNil, dCons, dOp, dT, dAndT, dOrT, dNotT, dAndV, dOrV, dNotV, dIfE, dIs, dTup, dLst, dFr, dList, dLstR, dTupR, dRg1, dRg2, dSorted, dRange1, dRange2, dSeq, dEnum, dZip, dComp, wipeD, dCall, dCallKw, dSl, dPart, dNoPart, dYes, dPl, dIndexT, dIndexL, dIndexS, dTupF, gN, gT, gCs, gNl, vSh, vOw, vNil, vCons, vComp2, dDictComp, dNeg, dRep, dChain, spLen, spTuple, opIx20, opIx21, opIxG0, opIxG1, gd0, gdS, st0, stS, List.map_cons, List.map_nil, Bool.not_true, Bool.not_false, Bool.false_eq_true, ↓reduceIte]
      refine all_ints (p := fun k => rel ps k p.2) (fun k hk K q => ?_) ?_
      · try simp only [dSeqS, dNext, dRet, dRetN, dIf, dDrop, dSet, dPar, dParN, setAll, dFor, dAppend, dExtend, dFreeze, dFreeze2, slotD, dAsg, dNever, dLend, dLendT, dVar, dC, dNil, dCons, dOp, dT, dAndT, dOrT, dNotT, dAndV, dOrV, dNotV, dIfE, dIs, dTup, dLst, dFr, dList, dLstR, dTupR, dRg1, dRg2, dSorted, dRange1, dRange2, dSeq, dEnum, dZip, dComp, wipeD, dCall, dCallKw, dSl, dPart, dNoPart, dYes, dPl, dIndexT, dIndexL, dIndexS, dTupF, gN, gT, gCs, gNl, vSh, vOw, vNil, vCons, vComp2, dDictComp, dNeg, dRep, dChain, spLen, spTuple, opIx20, opIx21, opIxG0, opIxG1, gd0, gdS, st0, stS, List.map_cons, List.map_nil, Bool.not_true, Bool.not_false, Bool.false_eq_true, ↓reduceIte]
        refine ix_iv (f := fun i => .lst ((undr n ps i).map D.int)) h3 h4 (in_ints ?_)
        have e : decide (k ∈ undr n ps p.2) = rel ps k p.2 := by
          unfold rel
          rw [Bool.eq_iff_iff, decide_eq_true_eq, decide_eq_true_eq, mem_undr ok]
        rw [e]
        exact q
      · by_cases q : ((undr n ps p.1).all fun k => rel ps k p.2) = true
        · rw [q]
          refine hN _ ⟨qs ++ [p], rs, .sh (.int p.1), .sh (.int p.2), by simp [e1], by simp, fun r hr => ?_, rfl⟩
          rcases List.mem_append.mp hr with hr | hr
          · exact hall r hr
          · rw [List.mem_singleton.mp hr]; exact q
        · rw [Bool.eq_false_iff.mpr q]
          have e : trB n ps = false := by
            rw [Bool.eq_false_iff]
            intro z
            exact q (List.all_eq_true.mp z p hp)
          rw [e] at h
          exact h
  · rintro ρ ⟨qs, rs, s2, s3, e1, e2, hall, rfl⟩
    have e3 : qs = ps := by
      have e4 : (qs ++ rs).length = qs.length := by rw [← e1]; simpa using congrArg List.length e2
      rw [List.length_append] at e4
      have : rs = [] := List.eq_nil_of_length_eq_zero (by omega)
      rw [this, List.append_nil] at e1
      exact e1.symm
    subst e3
    try simp only [rowsD, dSeqS, dNext, dRet, dRetN, dIf, dDrop, dSet, dPar, dParN, setAll, dFor, dAppend, dExtend, dFreeze, dFreeze2, slotD, dAsg, dNever, dLend, dLendT, dVar, dC, dNil, dCons, dOp, dT, dAndT, dOrT, dNotT, dAndV, dOrV, dNotV, dIfE, dIs, dTup, dLst, dFr, dList, dLstR, dTupR, dRg1, dRg2, dSorted, dRange1, dRange2, dSeq, dEnum, dZip, dComp, wipeD, dCall, dCallKw, dSl, dPart, dNoPart, dYes, dPl, dIndexT, dIndexL, dIndexS, dTupF, gN, gT, gCs, gNl, vSh, vOw, vNil, vCons, vComp2, dDictComp, dNeg, dRep, dChain, spLen, spTuple, opIx20, opIx21, opIxG0, opIxG1, gd0, gdS, st0, stS, List.map_cons, List.map_nil, Bool.not_true, Bool.not_false, Bool.false_eq_true, ↓reduceIte]
    refine ⟨rgb0 hs, ?_⟩
    rw [Int.toNat_natCast, rng_iv]
    refine any_ints (p := fun k => rel qs k k) (fun k hk K q => ?_) ?_
    · rw [mem_iv] at hk
      try simp only [dSeqS, dNext, dRet, dRetN, dIf, dDrop, dSet, dPar, dParN, setAll, dFor, dAppend, dExtend, dFreeze, dFreeze2, slotD, dAsg, dNever, dLend, dLendT, dVar, dC, dNil, dCons, dOp, dT, dAndT, dOrT, dNotT, dAndV, dOrV, dNotV, dIfE, dIs, dTup, dLst, dFr, dList, dLstR, dTupR, dRg1, dRg2, dSorted, dRange1, dRange2, dSeq, dEnum, dZip, dComp, wipeD, dCall, dCallKw, dSl, dPart, dNoPart, dYes, dPl, dIndexT, dIndexL, dIndexS, dTupF, gN, gT, gCs, gNl, vSh, vOw, vNil, vCons, vComp2, dDictComp, dNeg, dRep, dChain, spLen, spTuple, opIx20, opIx21, opIxG0, opIxG1, gd0, gdS, st0, stS, List.map_cons, List.map_nil, Bool.not_true, Bool.not_false, Bool.false_eq_true, ↓reduceIte]
      refine ix_iv (f := fun i => .lst ((undr n qs i).map D.int)) (by omega) (by omega) (in_ints ?_)
      have e : decide (k ∈ undr n qs k) = rel qs k k := by
        unfold rel
        rw [Bool.eq_iff_iff, decide_eq_true_eq, decide_eq_true_eq, mem_undr ok]
      rw [e]
      exact q
    · have e : ((iv 0 n).any fun k => rel qs k k) = false := by
        rw [List.any_eq_false]
        intro k _ z
        have := (ok.ok _ (of_decide_eq_true z)).2.2.2.2
        exact this rfl
      have e2 : trB n qs = true := List.all_eq_true.mpr hall
      rw [e]
      rw [e2] at h
      exact h
def isOrder : D → Bool
  | .tup [.int n, .tup es] => decide (0 ≤ n) && (es.all (isStep n) && match pairs? es with | some ps => ascB ps && trB n.toNat ps | none => false)
  | _ => false
/-- the number of things is small -/
def fewD : D → Bool
  | .tup [.int n, _] => decide (n ≤ 1000)
  | _ => true
def sp_is_order_of : DSp := fun ds Q => match ds with
  | [d] => (partsOk d = true ∧ fewD d = true) ∧ Q (.bl (isOrder d))
  | _ => False
def t_is_order_of : TDS := (dSeqS (dIf (dOrT (dNotT (dT (dIs isTup (dVar 0)))) (dOrT (dT (dOp opNe (dCall spLen (dCons (dVar 0) dNil)) (dC (.int 2)))) (dOrT (dNotT (dT (dCall sp_is_natural (dCons (dOp opIx (dVar 0) (dC (.int 0))) dNil)))) (dNotT (dT (dIs isTup (dOp opIx (dVar 0) (dC (.int 1))))))))) (dSeqS (dRet (dC (.bl false))) dNext) dNext) (dSeqS (dRet (dAndV (dCall (spBools fun bs => bs.all id) (dCons (dFr (dComp (dSeq (dOp opIx (dVar 0) (dC (.int 1)))) (gN 1) dYes (dCall sp_is_step (dCons (dVar 1) (dCons (dOp opIx (dVar 0) (dC (.int 0))) dNil))) [1])) dNil)) (dAndV (dCall sp_ascends (dCons (dOp opIx (dVar 0) (dC (.int 1))) dNil)) (dCall sp_is_handed_on (dCons (dVar 0) dNil))))) dNext))
theorem isOrder_len {xs : List D} (h : xs.length ≠ 2) : isOrder (.tup xs) = false := by
  unfold isOrder
  split
  · rename_i e
    cases e
    exact absurd rfl h
  · rfl
theorem isStep_some {n : Int} {d : D} (h : isStep n d = true) : ∃ i j, d = pairD (i, j) ∧ 0 ≤ i ∧ i < n ∧ 0 ≤ j ∧ j < n ∧ i ≠ j := by
  unfold isStep at h
  split at h
  · rename_i i j
    simp only [Bool.and_eq_true, decide_eq_true_eq] at h
    exact ⟨i, j, rfl, h.1.1.1, h.1.1.2, h.1.2.1, h.1.2.2, h.2⟩
  · cases h
theorem steps_of_all {n : Int} : ∀ {es : List D}, es.all (isStep n) = true → ∃ ps : List (Int × Int), es = ps.map pairD ∧ ∀ p ∈ ps, 0 ≤ p.1 ∧ p.1 < n ∧ 0 ≤ p.2 ∧ p.2 < n ∧ p.1 ≠ p.2
  | [], _ => ⟨[], rfl, fun p h => by cases h⟩
  | e :: es, h => by
    rw [List.all_cons, Bool.and_eq_true] at h
    obtain ⟨i, j, rfl, hh⟩ := isStep_some h.1
    obtain ⟨ps, rfl, hp⟩ := steps_of_all h.2
    refine ⟨(i, j) :: ps, rfl, fun p h => ?_⟩
    rcases List.mem_cons.mp h with h | h
    · subst h; exact hh
    · exact hp p h
theorem ascB_pw : ∀ {ps : List (Int × Int)}, ascB ps = true → ps.Pairwise lexLt
  | [], _ => .nil
  | [_], _ => List.pairwise_singleton _ _
  | p :: q :: r, h => by
    have h : ((decide (p.1 < q.1) || decide (p.1 = q.1) && decide (p.2 < q.2)) && ascB (q :: r)) = true := h
    rw [Bool.and_eq_true] at h
    have ih := ascB_pw h.2
    have h1 : lexLt p q := by
      have := h.1
      simp only [Bool.or_eq_true, Bool.and_eq_true, decide_eq_true_eq] at this
      exact this
    refine List.pairwise_cons.mpr ⟨fun x hx => ?_, ih⟩
    rcases List.mem_cons.mp hx with hx | hx
    · subst hx; exact h1
    · have h2 := (List.pairwise_cons.mp ih).1 x hx
      unfold lexLt at *
      omega
theorem rd_is_order_of (ds : List D) (Q : D → Prop) (h : sp_is_order_of ds Q) : t_is_order_of (endR Q) (startN 2 ds) := by
  match ds, h with
  | [d], ⟨⟨h0, hf⟩, h⟩ =>
    show t_is_order_of (endR Q) [.sh d, .no]
    cases d with
    | ft xs => cases h0
    | tup xs =>
      try simp only [t_is_order_of, isTup, endR, dSeqS, dNext, dRet, dRetN, dIf, dDrop, dSet, dPar, dParN, setAll, dFor, dAppend, dExtend, dFreeze, dFreeze2, slotD, dAsg, dNever, dLend, dLendT, dVar, dC, dNil, dCons, dOp, dT, dAndT, dOrT, dNotT, dAndV, dOrV, dNotV, dIfE, dIs, dTup, dLst, dFr, dList, dLstR, dTupR, dRg1, dRg2, dSorted, dRange1, dRange2, dSeq, dEnum, dZip, dComp, wipeD, dCall, dCallKw, dSl, dPart, dNoPart, dYes, dPl, dIndexT, dIndexL, dIndexS, dTupF, gN, gT, gCs, gNl, vSh, vOw, vNil, vCons, vComp2, dDictComp, dNeg, dRep, dChain, spLen, spTuple, opIx20, opIx21, opIxG0, opIxG1, gd0, gdS, st0, stS, List.map_cons, List.map_nil, Bool.not_true, Bool.not_false, Bool.false_eq_true, ↓reduceIte]
      refine ne_int (i := xs.length) (j := (2 : Nat)) ?_
      by_cases hl : xs.length = 2
      · rw [len_eq xs 2 hl]
        match xs, hl with
        | [a, b], _ =>
          by_cases ha : isNat a = true
          · cases a with
            | int n =>
              have ha : decide (0 ≤ n) = true := ha
              show (if (!decide (0 ≤ n)) = true then _ else _)
              rw [ha]
              cases b with
              | ft _ => cases h0
              | tup es =>
                have h0 : es.all noFt = true := h0
                refine all_reads (p := isStep n) (fun d hd K k => ⟨List.all_eq_true.mp h0 d hd, k⟩) ?_
                have h : Q (.bl (decide (0 ≤ n) && (es.all (isStep n) && match pairs? es with | some ps => ascB ps && trB n.toNat ps | none => false))) := h
                rw [ha] at h
                by_cases hp : es.all (isStep n) = true
                · rw [hp] at h ⊢
                  obtain ⟨ps, rfl, hps⟩ := steps_of_all hp
                  rw [pairs?_map] at h
                  show (match pairs? (ps.map pairD) with | some ps => _ | none => False)
                  rw [pairs?_map]
                  have h : Q (.bl (ascB ps && trB n.toNat ps)) := h
                  show (match D.bl (ascB ps) with | .bl true => _ | .bl false => _ | _ => False)
                  by_cases hasc : ascB ps = true
                  · rw [hasc] at h ⊢
                    have hf : decide (n ≤ 1000) = true := hf
                    rw [decide_eq_true_eq] at hf ha
                    obtain ⟨m, rfl⟩ : ∃ m : Nat, n = (m : Nat) := ⟨n.toNat, by omega⟩
                    exact ⟨m, ps, rfl, ⟨by omega, hps, ascB_pw hasc⟩, h⟩
                  · rw [Bool.eq_false_iff.mpr hasc] at h ⊢
                    exact h
                · rw [Bool.eq_false_iff.mpr hp] at h ⊢
                  exact h
              | _ => exact h
            | _ => cases ha
          · show (if (!isNat a) = true then _ else _)
            have e : isOrder (.tup [a, b]) = false := by
              unfold isOrder
              split
              · rename_i n es q
                cases q
                have : decide (0 ≤ n) = false := Bool.eq_false_iff.mpr ha
                rw [this]; rfl
              · rfl
            rw [e] at h
            rw [Bool.eq_false_iff.mpr ha]
            exact h
      · rw [len_ne xs 2 hl]
        rw [isOrder_len hl] at h
        exact h
    | _ => exact h

theorem partsOk_gD (n : Nat) (ps : List (Int × Int)) : partsOk (gD n ps) = true := by
  show (true && (ps.map pairD).all noFt) = true
  rw [List.all_map]
  simp only [Bool.true_and]
  exact List.all_eq_true.mpr fun _ _ => rfl
theorem trB_of {n : Nat} {ps : List (Int × Int)} (ok : OOk n ps) : trB n ps = true := by
  unfold trB
  rw [List.all_eq_true]
  intro p hp
  rw [List.all_eq_true]
  intro k hk
  exact decide_eq_true (ok.tr _ _ _ ((mem_undr ok.toSOk).mp hk) hp)
theorem OOk.order {n : Nat} {ps : List (Int × Int)} (ok : OOk n ps) : isOrder (gD n ps) = true ∧ partsOk (gD n ps) = true ∧ fewD (gD n ps) = true := by
  refine ⟨?_, partsOk_gD n ps, decide_eq_true (by have := ok.small; omega)⟩
  show (decide ((0 : Int) ≤ (n : Nat)) && ((ps.map pairD).all (isStep n) && match pairs? (ps.map pairD) with | some ps => ascB ps && trB (n : Int).toNat ps | none => false)) = true
  rw [pairs?_map, decide_eq_true (by omega), List.all_map]
  simp only [ascB_of ok.asc, Int.toNat_natCast, trB_of ok, Bool.true_and, Bool.and_true]
  rw [List.all_eq_true]
  intro p hp
  obtain ⟨h1, h2, h3, h4, h5⟩ := ok.ok p hp
  show (decide (0 ≤ p.1) && decide (p.1 < n) && (decide (0 ≤ p.2) && decide (p.2 < n)) && decide (p.1 ≠ p.2)) = true
  simp only [Bool.and_eq_true, decide_eq_true_eq]
  omega
def sp_check_order : DSp := fun ds Q => match ds with
  | [d] => (isOrder d = true ∧ partsOk d = true ∧ fewD d = true) ∧ Q .non
  | _ => False
def t_check_order : TDS := (dSeqS (dIf (dNotT (dT (dCall sp_is_order_of (dCons (dVar 0) dNil)))) (dSeqS dNever dNext) dNext) dNext)
theorem rd_check_order (ds : List D) (Q : D → Prop) (h : sp_check_order ds Q) : t_check_order (endR Q) (startN 1 ds) := by
  match ds, h with
  | [d], ⟨⟨h1, h2, h3⟩, h⟩ =>
    show t_check_order (endR Q) [.sh d]
    try simp only [t_check_order, endR, sp_is_order_of, dSeqS, dNext, dRet, dRetN, dIf, dDrop, dSet, dPar, dParN, setAll, dFor, dAppend, dExtend, dFreeze, dFreeze2, slotD, dAsg, dNever, dLend, dLendT, dVar, dC, dNil, dCons, dOp, dT, dAndT, dOrT, dNotT, dAndV, dOrV, dNotV, dIfE, dIs, dTup, dLst, dFr, dList, dLstR, dTupR, dRg1, dRg2, dSorted, dRange1, dRange2, dSeq, dEnum, dZip, dComp, wipeD, dCall, dCallKw, dSl, dPart, dNoPart, dYes, dPl, dIndexT, dIndexL, dIndexS, dTupF, gN, gT, gCs, gNl, vSh, vOw, vNil, vCons, vComp2, dDictComp, dNeg, dRep, dChain, spLen, spTuple, opIx20, opIx21, opIxG0, opIxG1, gd0, gdS, st0, stS, List.map_cons, List.map_nil, Bool.not_true, Bool.not_false, Bool.false_eq_true, ↓reduceIte]
    refine ⟨⟨h2, h3⟩, ?_⟩
    rw [h1]
    exact h
def sp_is_order : DSp := sp_is_order_of
def t_is_order : TDS := (dSeqS (dRet (dCall sp_is_order_of (dCons (dVar 0) dNil))) dNext)
theorem rd_is_order (ds : List D) (Q : D → Prop) (h : sp_is_order ds Q) : t_is_order (endR Q) (startN 1 ds) := by
  match ds, h with
  | [d], h => exact h
def sp_below : DSp := fun ds Q => ∃ n ps i, ds = [gD n ps, .int i] ∧ OOk n ps ∧ 0 ≤ i ∧ i < n ∧ Q (.tup ((undr n ps i).map D.int))
def t_below : TDS := (dSeqS (dDrop (dCall sp_check_order (dCons (dVar 0) dNil))) (dSeqS (dDrop (dCall sp_check_vertex (dCons (dOp opIx (dVar 0) (dC (.int 0))) (dCons (dVar 1) dNil)))) (dSeqS (dRet (dCall spTuple (dCons (dOp opIx (dCall sp_under_lists (dCons (dVar 0) dNil)) (dVar 1)) dNil))) dNext)))
theorem rd_below (ds : List D) (Q : D → Prop) (h : sp_below ds Q) : t_below (endR Q) (startN 2 ds) := by
  obtain ⟨n, ps, i, rfl, ok, h0, h1, h⟩ := h
  show t_below (endR Q) [.sh (gD n ps), .sh (.int i)]
  try simp only [t_below, endR, sp_check_order, sp_check_vertex, sp_under_lists, dSeqS, dNext, dRet, dRetN, dIf, dDrop, dSet, dPar, dParN, setAll, dFor, dAppend, dExtend, dFreeze, dFreeze2, slotD, dAsg, dNever, dLend, dLendT, dVar, dC, dNil, dCons, dOp, dT, dAndT, dOrT, dNotT, dAndV, dOrV, dNotV, dIfE, dIs, dTup, dLst, dFr, dList, dLstR, dTupR, dRg1, dRg2, dSorted, dRange1, dRange2, dSeq, dEnum, dZip, dComp, wipeD, dCall, dCallKw, dSl, dPart, dNoPart, dYes, dPl, dIndexT, dIndexL, dIndexS, dTupF, gN, gT, gCs, gNl, vSh, vOw, vNil, vCons, vComp2, dDictComp, dNeg, dRep, dChain, spLen, spTuple, opIx20, opIx21, opIxG0, opIxG1, gd0, gdS, st0, stS, List.map_cons, List.map_nil, Bool.not_true, Bool.not_false, Bool.false_eq_true, ↓reduceIte]
  refine ⟨ok.order, ?_, n, ps, rfl, ok.toSOk, ?_⟩
  · show (decide (0 ≤ i) && decide (i < n)) = true
    rw [decide_eq_true h0, decide_eq_true h1]; rfl
  · exact ix_iv (f := fun i => .lst ((undr n ps i).map D.int)) h0 h1 h
def sp_above : DSp := fun ds Q => ∃ n ps i, ds = [gD n ps, .int i] ∧ OOk n ps ∧ 0 ≤ i ∧ i < n ∧ Q (.tup ((ovr n ps i).map D.int))
def t_above : TDS := (dSeqS (dDrop (dCall sp_check_order (dCons (dVar 0) dNil))) (dSeqS (dDrop (dCall sp_check_vertex (dCons (dOp opIx (dVar 0) (dC (.int 0))) (dCons (dVar 1) dNil)))) (dSeqS (dRet (dCall spTuple (dCons (dOp opIx (dCall sp_over_lists (dCons (dVar 0) dNil)) (dVar 1)) dNil))) dNext)))
theorem rd_above (ds : List D) (Q : D → Prop) (h : sp_above ds Q) : t_above (endR Q) (startN 2 ds) := by
  obtain ⟨n, ps, i, rfl, ok, h0, h1, h⟩ := h
  show t_above (endR Q) [.sh (gD n ps), .sh (.int i)]
  try simp only [t_above, endR, sp_check_order, sp_check_vertex, sp_over_lists, dSeqS, dNext, dRet, dRetN, dIf, dDrop, dSet, dPar, dParN, setAll, dFor, dAppend, dExtend, dFreeze, dFreeze2, slotD, dAsg, dNever, dLend, dLendT, dVar, dC, dNil, dCons, dOp, dT, dAndT, dOrT, dNotT, dAndV, dOrV, dNotV, dIfE, dIs, dTup, dLst, dFr, dList, dLstR, dTupR, dRg1, dRg2, dSorted, dRange1, dRange2, dSeq, dEnum, dZip, dComp, wipeD, dCall, dCallKw, dSl, dPart, dNoPart, dYes, dPl, dIndexT, dIndexL, dIndexS, dTupF, gN, gT, gCs, gNl, vSh, vOw, vNil, vCons, vComp2, dDictComp, dNeg, dRep, dChain, spLen, spTuple, opIx20, opIx21, opIxG0, opIxG1, gd0, gdS, st0, stS, List.map_cons, List.map_nil, Bool.not_true, Bool.not_false, Bool.false_eq_true, ↓reduceIte]
  refine ⟨ok.order, ?_, n, ps, rfl, ok.toSOk, ?_⟩
  · show (decide (0 ≤ i) && decide (i < n)) = true
    rw [decide_eq_true h0, decide_eq_true h1]; rfl
  · exact ix_iv (f := fun i => .lst ((ovr n ps i).map D.int)) h0 h1 h
def revP (n : Nat) (ps : List (Int × Int)) : List (Int × Int) := pairsBy n fun i j => rel ps j i
theorem mem_revP {n : Nat} {ps : List (Int × Int)} (ok : SOk n ps) {i j : Int} : (i, j) ∈ revP n ps ↔ (j, i) ∈ ps := by
  unfold revP rel
  rw [mem_pairsBy, decide_eq_true_eq]
  constructor
  · exact fun h => h.2.2.2.2
  · intro h
    have := ok.ok _ h
    simp at this
    exact ⟨by show 0 ≤ i; omega, by show i < n; omega, by show 0 ≤ j; omega, by show j < n; omega, h⟩
theorem OOk.rev {n : Nat} {ps : List (Int × Int)} (ok : OOk n ps) : OOk n (revP n ps) where
  small := ok.small
  ok := fun p hp => by
    have := ok.ok _ ((mem_revP ok.toSOk).mp hp)
    simp at this
    omega
  asc := pairsBy_asc n _
  tr := fun i j k h1 h2 => by
    rw [mem_revP ok.toSOk] at *
    exact ok.tr _ _ _ h2 h1
theorem rev_perm {n : Nat} {ps : List (Int × Int)} (ok : SOk n ps) : (revP n ps).Perm (ps.map fun p => (p.2, p.1)) := by
  rw [List.perm_ext_iff_of_nodup (show (revP n ps).Nodup from lex_nodup (pairsBy_asc n _))]
  · intro p
    obtain ⟨i, j⟩ := p
    rw [mem_revP ok, List.mem_map]
    constructor
    · exact fun h => ⟨_, h, rfl⟩
    · rintro ⟨q, hq, e⟩
      cases e
      exact hq
  · show (ps.map _).Pairwise (· ≠ ·)
    rw [List.pairwise_map]
    exact (lex_nodup ok.asc).imp fun h e => h (Prod.ext (congrArg Prod.snd e) (congrArg Prod.fst e))
def sp_reversed_order : DSp := fun ds Q => ∃ n ps, ds = [gD n ps] ∧ OOk n ps ∧ Q (gD n (revP n ps))
def t_reversed_order : TDS := (dSeqS (dDrop (dCall sp_check_order (dCons (dVar 0) dNil))) (dSeqS (dRet (dTup (dCons (dOp opIx (dVar 0) (dC (.int 0))) (dCons (dCall spTuple (dCons (dFr (dSorted (dCons (dFr (dComp (dSeq (dOp opIx (dVar 0) (dC (.int 1)))) (gT 2 (gCs (gN 1) (gCs (gN 2) gNl))) dYes (dTup (dCons (dVar 2) (dCons (dVar 1) dNil))) [1, 2])) dNil))) dNil)) dNil)))) dNext))
theorem rd_reversed_order (ds : List D) (Q : D → Prop) (h : sp_reversed_order ds Q) : t_reversed_order (endR Q) (startN 3 ds) := by
  obtain ⟨n, ps, rfl, ok, h⟩ := h
  show t_reversed_order (endR Q) [.sh (gD n ps), .no, .no]
  try simp only [t_reversed_order, endR, sp_check_order, dSeqS, dNext, dRet, dRetN, dIf, dDrop, dSet, dPar, dParN, setAll, dFor, dAppend, dExtend, dFreeze, dFreeze2, slotD, dAsg, dNever, dLend, dLendT, dVar, dC, dNil, dCons, dOp, dT, dAndT, dOrT, dNotT, dAndV, dOrV, dNotV, dIfE, dIs, dTup, dLst, dFr, dList, dLstR, dTupR, dRg1, dRg2, dSorted, dRange1, dRange2, dSeq, dEnum, dZip, dComp, wipeD, dCall, dCallKw, dSl, dPart, dNoPart, dYes, dPl, dIndexT, dIndexL, dIndexS, dTupF, gN, gT, gCs, gNl, vSh, vOw, vNil, vCons, vComp2, dDictComp, dNeg, dRep, dChain, spLen, spTuple, opIx20, opIx21, opIxG0, opIxG1, gd0, gdS, st0, stS, List.map_cons, List.map_nil, Bool.not_true, Bool.not_false, Bool.false_eq_true, ↓reduceIte]
  refine ⟨ok.order, ?_⟩
  refine compD_list (r := fun p => pairD (p.2, p.1)) (fun p hp K k => ⟨rfl, by simp; decide, k⟩) ?_
  rw [List.nil_append, show (ps.map fun p => pairD (p.2, p.1)) = (ps.map fun p => (p.2, p.1)).map pairD by simp]
  exact sorted_prs (rev_perm ok.toSOk) (lex_le ok.rev.asc) ⟨by simp; decide, h⟩
def loose (n : Nat) (ps : List (Int × Int)) : List (Int × Int) := edgesBy n fun i j => !rel ps i j && !rel ps j i
def sp_loose_graph : DSp := fun ds Q => ∃ n ps, ds = [gD n ps] ∧ OOk n ps ∧ Q (gD n (loose n ps))
def t_loose_graph : TDS := (dSeqS (dDrop (dCall sp_check_order (dCons (dVar 0) dNil))) (dSeqS (dParN [1, 2, 3] (vCons (vSh (dOp opIx (dVar 0) (dC (.int 0)))) (vCons (vSh (dCall sp_under_lists (dCons (dVar 0) dNil))) (vCons (vSh (dFr (dLst dNil))) vNil)))) (dSeqS (dFor (dRange1 (dCons (dVar 1) dNil)) (gN 4) (dSeqS (dSet 5 (vSh (dFr (dComp (dRange2 (dCons (dOp opAdd (dVar 4) (dC (.int 1))) (dCons (dVar 1) dNil))) (gN 6) (dAndT (dT (dOp (opInN true) (dVar 4) (dOp opIx (dVar 2) (dVar 6)))) (dT (dOp (opInN true) (dVar 6) (dOp opIx (dVar 2) (dVar 4))))) (dVar 6) [6])))) (dSeqS (dSet 3 (vSh (dOp opAdd (dVar 3) (dFr (dComp (dSeq (dVar 5)) (gN 6) dYes (dTup (dCons (dVar 4) (dCons (dVar 6) dNil))) [6]))))) dNext))) (dSeqS (dRet (dTup (dCons (dVar 1) (dCons (dCall spTuple (dCons (dVar 3) dNil)) dNil)))) dNext))))
theorem rd_loose_graph (ds : List D) (Q : D → Prop) (h : sp_loose_graph ds Q) : t_loose_graph (endR Q) (startN 7 ds) := by
  obtain ⟨n, ps, rfl, ok, h⟩ := h
  show t_loose_graph (endR Q) [.sh (gD n ps), .no, .no, .no, .no, .no, .no]
  have hs := ok.small
  try simp only [t_loose_graph, endR, sp_check_order, sp_under_lists, dSeqS, dNext, dRet, dRetN, dIf, dDrop, dSet, dPar, dParN, setAll, dFor, dAppend, dExtend, dFreeze, dFreeze2, slotD, dAsg, dNever, dLend, dLendT, dVar, dC, dNil, dCons, dOp, dT, dAndT, dOrT, dNotT, dAndV, dOrV, dNotV, dIfE, dIs, dTup, dLst, dFr, dList, dLstR, dTupR, dRg1, dRg2, dSorted, dRange1, dRange2, dSeq, dEnum, dZip, dComp, wipeD, dCall, dCallKw, dSl, dPart, dNoPart, dYes, dPl, dIndexT, dIndexL, dIndexS, dTupF, gN, gT, gCs, gNl, vSh, vOw, vNil, vCons, vComp2, dDictComp, dNeg, dRep, dChain, spLen, spTuple, opIx20, opIx21, opIxG0, opIxG1, gd0, gdS, st0, stS, List.map_cons, List.map_nil, Bool.not_true, Bool.not_false, Bool.false_eq_true, ↓reduceIte]
  refine ⟨ok.order, n, ps, rfl, ok.toSOk, Nat.zero_le _, ⟨rfl, rfl⟩, rgb0 hs, ?_⟩
  rw [Int.toNat_natCast]
  refine loopD_iv (fun done ρ => ∃ s4 s5, ρ = [.sh (gD n ps), .sh (.int n), .sh (rowsD n (undr n ps)), .sh (.lst ((done.flatMap (rowBy n fun i j => !rel ps i j && !rel ps j i)).map pairD)), s4, s5, .no]) ?_ ?_ ⟨.no, .no, rfl⟩
  · rintro done i rest e ρ ⟨s4, s5, rfl⟩ N hN
    obtain ⟨h1, h2, h3, h4⟩ := iv_split e
    try simp only [opAdd, dSeqS, dNext, dRet, dRetN, dIf, dDrop, dSet, dPar, dParN, setAll, dFor, dAppend, dExtend, dFreeze, dFreeze2, slotD, dAsg, dNever, dLend, dLendT, dVar, dC, dNil, dCons, dOp, dT, dAndT, dOrT, dNotT, dAndV, dOrV, dNotV, dIfE, dIs, dTup, dLst, dFr, dList, dLstR, dTupR, dRg1, dRg2, dSorted, dRange1, dRange2, dSeq, dEnum, dZip, dComp, wipeD, dCall, dCallKw, dSl, dPart, dNoPart, dYes, dPl, dIndexT, dIndexL, dIndexS, dTupF, gN, gT, gCs, gNl, vSh, vOw, vNil, vCons, vComp2, dDictComp, dNeg, dRep, dChain, spLen, spTuple, opIx20, opIx21, opIxG0, opIxG1, gd0, gdS, st0, stS, List.map_cons, List.map_nil, Bool.not_true, Bool.not_false, Bool.false_eq_true, ↓reduceIte]
    refine ⟨rgb2 hs (by omega) (by omega), ?_⟩
    rw [rng_iv]
    refine compD_filter (r := D.int) (p := fun j => !rel ps i j && !rel ps j i) (fun j hj K L k => ?_) ?_
    · rw [mem_iv] at hj
      have e1 : ∀ a b : Int, decide (a ∈ undr n ps b) = rel ps a b := fun a b => by
        unfold rel
        rw [Bool.eq_iff_iff, decide_eq_true_eq, decide_eq_true_eq, mem_undr ok.toSOk]
      try simp only [rowsD, dSeqS, dNext, dRet, dRetN, dIf, dDrop, dSet, dPar, dParN, setAll, dFor, dAppend, dExtend, dFreeze, dFreeze2, slotD, dAsg, dNever, dLend, dLendT, dVar, dC, dNil, dCons, dOp, dT, dAndT, dOrT, dNotT, dAndV, dOrV, dNotV, dIfE, dIs, dTup, dLst, dFr, dList, dLstR, dTupR, dRg1, dRg2, dSorted, dRange1, dRange2, dSeq, dEnum, dZip, dComp, wipeD, dCall, dCallKw, dSl, dPart, dNoPart, dYes, dPl, dIndexT, dIndexL, dIndexS, dTupF, gN, gT, gCs, gNl, vSh, vOw, vNil, vCons, vComp2, dDictComp, dNeg, dRep, dChain, spLen, spTuple, opIx20, opIx21, opIxG0, opIxG1, gd0, gdS, st0, stS, List.map_cons, List.map_nil, Bool.not_true, Bool.not_false, Bool.false_eq_true, ↓reduceIte]
      refine ix_iv (f := fun i => .lst ((undr n ps i).map D.int)) (by omega) (by omega) (notin_ints ?_)
      rw [e1]
      by_cases q : rel ps i j = true
      · rw [q] at k ⊢; exact k
      · rw [Bool.eq_false_iff.mpr q] at k ⊢
        refine ix_iv (f := fun i => .lst ((undr n ps i).map D.int)) (by omega) (by omega) (notin_ints ?_)
        rw [e1]
        exact k
    · rw [List.nil_append]
      refine compD_list (r := fun j => pairD (i, j)) (fun j hj K k => ⟨by simp; decide, k⟩) ?_
      rw [List.nil_append]
      have hl := flat_len2 (n := n) (A := fun i j => !rel ps i j && !rel ps j i) (l := done) fun x hx => (h3 x hx).1
      have hr := rowBy_len n (fun i j => !rel ps i j && !rel ps j i) i (by omega)
      have hr2 : ((iv (i + 1) ((n : Int) - (i + 1)).toNat).filter fun j => !rel ps i j && !rel ps j i).length ≤ n := by unfold rowBy at hr; rw [List.length_map] at hr; exact hr
      have hm : done.length * n ≤ 1000 * 1000 := Nat.mul_le_mul (by omega) hs
      refine ⟨?_, hN _ ⟨.sh (.int i), .sh (.lst (((iv (i + 1) ((n : Int) - (i + 1)).toNat).filter fun j => !rel ps i j && !rel ps j i).map D.int)), ?_⟩⟩
      · rw [List.length_map, List.length_map, sizeLine_eq]; omega
      · congr 5
        rw [List.flatMap_append, List.map_append]
        congr 1
        simp [rowBy]
  · rintro ρ ⟨s4, s5, rfl⟩
    try simp only [dSeqS, dNext, dRet, dRetN, dIf, dDrop, dSet, dPar, dParN, setAll, dFor, dAppend, dExtend, dFreeze, dFreeze2, slotD, dAsg, dNever, dLend, dLendT, dVar, dC, dNil, dCons, dOp, dT, dAndT, dOrT, dNotT, dAndV, dOrV, dNotV, dIfE, dIs, dTup, dLst, dFr, dList, dLstR, dTupR, dRg1, dRg2, dSorted, dRange1, dRange2, dSeq, dEnum, dZip, dComp, wipeD, dCall, dCallKw, dSl, dPart, dNoPart, dYes, dPl, dIndexT, dIndexL, dIndexS, dTupF, gN, gT, gCs, gNl, vSh, vOw, vNil, vCons, vComp2, dDictComp, dNeg, dRep, dChain, spLen, spTuple, opIx20, opIx21, opIxG0, opIxG1, gd0, gdS, st0, stS, List.map_cons, List.map_nil, Bool.not_true, Bool.not_false, Bool.false_eq_true, ↓reduceIte]
    exact ⟨by simp; decide, h⟩
/-! ### how the law draws orders -/
/-- lows and highs -/
def RowsOk (n : Nat) (rows : List (Int × Int)) : Prop := rows.length = n ∧ ∀ r ∈ rows, 0 ≤ r.1 ∧ r.1 ≤ r.2 ∧ r.2 ≤ 100000000
def sp__law_drawn_spans : DSp := fun ds Q => match ds with
  | [.well, .int n] => (0 ≤ n ∧ n ≤ 1000) ∧ ∀ rows, RowsOk n.toNat rows → Q (.tup (rows.map pairD))
  | _ => False
def t__law_drawn_spans : TDS := (dSeqS (dSet 2 (vSh (dOp opAdd (dC (.int 1)) (dCall sp__law_dip (dCons (dVar 0) (dCons (dOp opAdd (dVar 1) (dC (.int 2))) dNil)))))) (dSeqS (dSet 3 (vSh (dFr (dComp (dRange1 (dCons (dVar 1) dNil)) (gN 4) dYes (dCall sp__law_dip (dCons (dVar 0) (dCons (dOp opAdd (dOp opMul (dC (.int 2)) (dVar 1)) (dC (.int 1))) dNil))) [4])))) (dSeqS (dRet (dCall spTuple (dCons (dFr (dComp (dSeq (dVar 3)) (gN 5) dYes (dTup (dCons (dVar 5) (dCons (dOp opAdd (dVar 5) (dCall sp__law_dip (dCons (dVar 0) (dCons (dVar 2) dNil)))) dNil))) [5])) dNil))) dNext)))
theorem rd__law_drawn_spans (ds : List D) (Q : D → Prop) (h : sp__law_drawn_spans ds Q) : t__law_drawn_spans (endR Q) (startN 6 ds) := by
  match ds, h with
  | [.well, .int n], ⟨⟨h0, h1⟩, h⟩ =>
    show t__law_drawn_spans (endR Q) [.sh .well, .sh (.int n), .no, .no, .no, .no]
    obtain ⟨n, rfl⟩ : ∃ m : Nat, n = (m : Nat) := ⟨n.toNat, by omega⟩
    rw [Int.toNat_natCast] at h
    try simp only [t__law_drawn_spans, endR, sp__law_dip, opAdd, opMul, dSeqS, dNext, dRet, dRetN, dIf, dDrop, dSet, dPar, dParN, setAll, dFor, dAppend, dExtend, dFreeze, dFreeze2, slotD, dAsg, dNever, dLend, dLendT, dVar, dC, dNil, dCons, dOp, dT, dAndT, dOrT, dNotT, dAndV, dOrV, dNotV, dIfE, dIs, dTup, dLst, dFr, dList, dLstR, dTupR, dRg1, dRg2, dSorted, dRange1, dRange2, dSeq, dEnum, dZip, dComp, wipeD, dCall, dCallKw, dSl, dPart, dNoPart, dYes, dPl, dIndexT, dIndexL, dIndexS, dTupF, gN, gT, gCs, gNl, vSh, vOw, vNil, vCons, vComp2, dDictComp, dNeg, dRep, dChain, spLen, spTuple, opIx20, opIx21, opIxG0, opIxG1, gd0, gdS, st0, stS, List.map_cons, List.map_nil, Bool.not_true, Bool.not_false, Bool.false_eq_true, ↓reduceIte]
    refine ⟨⟨by omega, by omega⟩, fun r r0 r1 => ⟨rgb0 (by omega), ?_⟩⟩
    rw [Int.toNat_natCast, rng_iv]
    refine compD_ind (fun dn ac => ∃ ls : List Int, ac = ls.map D.int ∧ ls.length = dn.length ∧ ∀ l ∈ ls, 0 ≤ l ∧ l ≤ 10000) ?_ ?_ (done := []) rfl ⟨[], rfl, rfl, fun l h => by cases h⟩
    · rintro dn d rs e ac ⟨ls, rfl, hl, hb⟩ K L hK hL
      try simp only [dSeqS, dNext, dRet, dRetN, dIf, dDrop, dSet, dPar, dParN, setAll, dFor, dAppend, dExtend, dFreeze, dFreeze2, slotD, dAsg, dNever, dLend, dLendT, dVar, dC, dNil, dCons, dOp, dT, dAndT, dOrT, dNotT, dAndV, dOrV, dNotV, dIfE, dIs, dTup, dLst, dFr, dList, dLstR, dTupR, dRg1, dRg2, dSorted, dRange1, dRange2, dSeq, dEnum, dZip, dComp, wipeD, dCall, dCallKw, dSl, dPart, dNoPart, dYes, dPl, dIndexT, dIndexL, dIndexS, dTupF, gN, gT, gCs, gNl, vSh, vOw, vNil, vCons, vComp2, dDictComp, dNeg, dRep, dChain, spLen, spTuple, opIx20, opIx21, opIxG0, opIxG1, gd0, gdS, st0, stS, List.map_cons, List.map_nil, Bool.not_true, Bool.not_false, Bool.false_eq_true, ↓reduceIte]
      refine ⟨.inl ⟨by decide, by decide⟩, ⟨by omega, by omega⟩, fun c c0 c1 => ?_⟩
      refine hK _ ⟨ls ++ [c], by simp, by simp [hl], fun l hl2 => ?_⟩
      rcases List.mem_append.mp hl2 with q | q
      · exact hb l q
      · rw [List.mem_singleton.mp q]; omega
    · rintro ac ⟨ls, rfl, hl, hb⟩
      rw [List.nil_append, List.length_map, iv_length] at hl
      refine compD_ind (fun dn ac => ∃ (qs rs : List Int) (rows : List (Int × Int)), ls = qs ++ rs ∧ dn = qs.map D.int ∧ ac = rows.map pairD ∧ rows.length = qs.length ∧ ∀ r ∈ rows, 0 ≤ r.1 ∧ r.1 ≤ r.2 ∧ r.2 ≤ 100000000) ?_ ?_ (done := []) rfl ⟨[], ls, [], rfl, rfl, rfl, rfl, fun l h => by cases h⟩
      · rintro dn d rs e ac ⟨qs, ms, rows, e1, rfl, rfl, hl2, hb2⟩ K L hK hL
        cases ms with
        | nil => rw [List.append_nil] at e1; rw [e1] at e; simp at e
        | cons l ms =>
          have ed : d = .int l := by
            rw [e1, List.map_append] at e
            have := List.append_cancel_left e
            simp at this
            exact this.1.symm
          subst ed
          have hbl := hb l (by rw [e1]; simp)
          try simp only [dSeqS, dNext, dRet, dRetN, dIf, dDrop, dSet, dPar, dParN, setAll, dFor, dAppend, dExtend, dFreeze, dFreeze2, slotD, dAsg, dNever, dLend, dLendT, dVar, dC, dNil, dCons, dOp, dT, dAndT, dOrT, dNotT, dAndV, dOrV, dNotV, dIfE, dIs, dTup, dLst, dFr, dList, dLstR, dTupR, dRg1, dRg2, dSorted, dRange1, dRange2, dSeq, dEnum, dZip, dComp, wipeD, dCall, dCallKw, dSl, dPart, dNoPart, dYes, dPl, dIndexT, dIndexL, dIndexS, dTupF, gN, gT, gCs, gNl, vSh, vOw, vNil, vCons, vComp2, dDictComp, dNeg, dRep, dChain, spLen, spTuple, opIx20, opIx21, opIxG0, opIxG1, gd0, gdS, st0, stS, List.map_cons, List.map_nil, Bool.not_true, Bool.not_false, Bool.false_eq_true, ↓reduceIte]
          refine ⟨⟨by omega, by omega⟩, fun c c0 c1 => ⟨by simp; decide, ?_⟩⟩
          refine hK _ ⟨qs ++ [l], ms, rows ++ [(l, l + c)], by simp [e1], by simp, by simp, by simp [hl2], fun r hr => ?_⟩
          rcases List.mem_append.mp hr with q | q
          · exact hb2 r q
          · rw [List.mem_singleton.mp q]
            refine ⟨hbl.1, by show l ≤ l + c; omega, by show l + c ≤ _; omega⟩
      · rintro ac ⟨qs, ms, rows, e1, e2, rfl, hl2, hb2⟩
        have e3 : qs.length = ls.length := by simpa using (congrArg List.length e2).symm
        exact h rows ⟨by omega, hb2⟩
/-- both ends ascend -/
def Asc2 (rows : List (Int × Int)) : Prop := rows.Pairwise fun a b => a.1 < b.1 ∧ a.2 < b.2
def sp__law_drawn_levels : DSp := fun ds Q => match ds with
  | [.well, .int n] => (0 ≤ n ∧ n ≤ 1000) ∧ ∀ rows, RowsOk n.toNat rows → Asc2 rows → Q (.tup (rows.map pairD))
  | _ => False
def t__law_drawn_levels : TDS := (dSeqS (dParN [2, 3, 4] (vCons (vSh (dOp opAdd (dC (.int 1)) (dCall sp__law_dip (dCons (dVar 0) (dCons (dC (.int 4)) dNil))))) (vCons (vSh (dCall sp__law_dip (dCons (dVar 0) (dCons (dC (.int 8)) dNil)))) (vCons (vOw (dLst dNil)) vNil)))) (dSeqS (dParN [5, 6] (vCons (vSh (dC (.int 0))) (vCons (vSh (dC (.int 0))) vNil))) (dSeqS (dFor (dRange1 (dCons (dVar 1) dNil)) (gN 7) (dSeqS (dSet 5 (vSh (dOp opAdd (dOp opAdd (dVar 5) (dC (.int 1))) (dCall sp__law_dip (dCons (dVar 0) (dCons (dVar 2) dNil)))))) (dSeqS (dSet 6 (vSh (dCall spMax2 (dCons (dOp opAdd (dOp opAdd (dVar 6) (dC (.int 1))) (dCall sp__law_dip (dCons (dVar 0) (dCons (dC (.int 2)) dNil)))) (dCons (dOp opAdd (dVar 5) (dIfE (dT (dOp opGt (dVar 3) (dC (.int 0)))) (dCall sp__law_dip (dCons (dVar 0) (dCons (dVar 3) dNil))) (dC (.int 0)))) dNil))))) (dSeqS (dAppend 4 (dTup (dCons (dVar 5) (dCons (dVar 6) dNil)))) dNext)))) (dFreeze 4 (dSeqS (dRet (dCall spTuple (dCons (dVar 4) dNil))) dNext)))))
theorem rd__law_drawn_levels (ds : List D) (Q : D → Prop) (h : sp__law_drawn_levels ds Q) : t__law_drawn_levels (endR Q) (startN 8 ds) := by
  match ds, h with
  | [.well, .int n], ⟨⟨h0, h1⟩, h⟩ =>
    show t__law_drawn_levels (endR Q) [.sh .well, .sh (.int n), .no, .no, .no, .no, .no, .no]
    obtain ⟨n, rfl⟩ : ∃ m : Nat, n = (m : Nat) := ⟨n.toNat, by omega⟩
    rw [Int.toNat_natCast] at h
    try simp only [t__law_drawn_levels, endR, sp__law_dip, opAdd, dSeqS, dNext, dRet, dRetN, dIf, dDrop, dSet, dPar, dParN, setAll, dFor, dAppend, dExtend, dFreeze, dFreeze2, slotD, dAsg, dNever, dLend, dLendT, dVar, dC, dNil, dCons, dOp, dT, dAndT, dOrT, dNotT, dAndV, dOrV, dNotV, dIfE, dIs, dTup, dLst, dFr, dList, dLstR, dTupR, dRg1, dRg2, dSorted, dRange1, dRange2, dSeq, dEnum, dZip, dComp, wipeD, dCall, dCallKw, dSl, dPart, dNoPart, dYes, dPl, dIndexT, dIndexL, dIndexS, dTupF, gN, gT, gCs, gNl, vSh, vOw, vNil, vCons, vComp2, dDictComp, dNeg, dRep, dChain, spLen, spTuple, opIx20, opIx21, opIxG0, opIxG1, gd0, gdS, st0, stS, List.map_cons, List.map_nil, Bool.not_true, Bool.not_false, Bool.false_eq_true, ↓reduceIte]
    refine ⟨⟨by omega, by omega⟩, fun r r0 r1 => ⟨⟨by omega, by omega⟩, fun wd w0 w1 => ?_⟩⟩
    try simp only [dSeqS, dNext, dRet, dRetN, dIf, dDrop, dSet, dPar, dParN, setAll, dFor, dAppend, dExtend, dFreeze, dFreeze2, slotD, dAsg, dNever, dLend, dLendT, dVar, dC, dNil, dCons, dOp, dT, dAndT, dOrT, dNotT, dAndV, dOrV, dNotV, dIfE, dIs, dTup, dLst, dFr, dList, dLstR, dTupR, dRg1, dRg2, dSorted, dRange1, dRange2, dSeq, dEnum, dZip, dComp, wipeD, dCall, dCallKw, dSl, dPart, dNoPart, dYes, dPl, dIndexT, dIndexL, dIndexS, dTupF, gN, gT, gCs, gNl, vSh, vOw, vNil, vCons, vComp2, dDictComp, dNeg, dRep, dChain, spLen, spTuple, opIx20, opIx21, opIxG0, opIxG1, gd0, gdS, st0, stS, List.map_cons, List.map_nil, Bool.not_true, Bool.not_false, Bool.false_eq_true, ↓reduceIte]
    refine ⟨Nat.zero_le _, ⟨rfl, rfl⟩, ⟨rfl, rfl⟩, rgb0 (by omega), ?_⟩
    rw [Int.toNat_natCast]
    refine loopD_iv (fun done ρ => ∃ (rows : List (Int × Int)) (lo hi : Int) (s7 : SV), ρ = [.sh .well, .sh (.int n), .sh (.int (1 + r)), .sh (.int wd), .ow (rows.map pairD), .sh (.int lo), .sh (.int hi), s7] ∧ rows.length = done.length ∧ Asc2 rows ∧
      (∀ q ∈ rows, 0 ≤ q.1 ∧ q.1 ≤ q.2 ∧ q.1 ≤ lo ∧ q.2 ≤ hi) ∧ 0 ≤ lo ∧ 0 ≤ hi ∧ lo ≤ 5 * done.length ∧ hi ≤ 100 * done.length) ?_ ?_ ⟨[], 0, 0, .no, rfl, rfl, .nil, fun q h => (by cases h), by omega, by omega, by simp, by simp⟩
    · rintro done i rest e ρ ⟨rows, lo, hi, s7, rfl, hl, ha, hb, l0, i0, l1, i1⟩ N hN
      obtain ⟨g1, g2, g3, g4⟩ := iv_split e
      try simp only [opGt, opI, dSeqS, dNext, dRet, dRetN, dIf, dDrop, dSet, dPar, dParN, setAll, dFor, dAppend, dExtend, dFreeze, dFreeze2, slotD, dAsg, dNever, dLend, dLendT, dVar, dC, dNil, dCons, dOp, dT, dAndT, dOrT, dNotT, dAndV, dOrV, dNotV, dIfE, dIs, dTup, dLst, dFr, dList, dLstR, dTupR, dRg1, dRg2, dSorted, dRange1, dRange2, dSeq, dEnum, dZip, dComp, wipeD, dCall, dCallKw, dSl, dPart, dNoPart, dYes, dPl, dIndexT, dIndexL, dIndexS, dTupF, gN, gT, gCs, gNl, vSh, vOw, vNil, vCons, vComp2, dDictComp, dNeg, dRep, dChain, spLen, spTuple, opIx20, opIx21, opIxG0, opIxG1, gd0, gdS, st0, stS, List.map_cons, List.map_nil, Bool.not_true, Bool.not_false, Bool.false_eq_true, ↓reduceIte]
      refine ⟨⟨by omega, by omega⟩, fun c c0 c1 => ⟨⟨by omega, by omega⟩, fun c2 d0 d1 => ?_⟩⟩
      have fin : ∀ x : Int, 0 ≤ x → x ≤ 8 → (fun d => spMax2 [D.int (hi + 1 + c2), d] fun d => [D.int (lo + 1 + c), d].length ≤ sizeLine ∧ (rows.map pairD).length < sizeLine ∧ N [.sh .well, .sh (.int n), .sh (.int (1 + r)), .sh (.int wd), .ow (rows.map pairD ++ [.tup [.int (lo + 1 + c), d]]), .sh (.int (lo + 1 + c)), .sh d, .sh (.int i)]) (.int (lo + 1 + c + x)) := fun x x0 x1 => by
        refine ⟨by simp; decide, by have := sizeLine_eq; simp; omega, hN _ ⟨rows ++ [(lo + 1 + c, max (hi + 1 + c2) (lo + 1 + c + x))], lo + 1 + c, max (hi + 1 + c2) (lo + 1 + c + x), .sh (.int i), by simp, by simp [hl], ?_, ?_, by omega, by omega, ?_, ?_⟩⟩
        · refine List.pairwise_append.mpr ⟨ha, List.pairwise_singleton _ _, fun a hh b hb2 => ?_⟩
          rw [List.mem_singleton.mp hb2]
          have := hb a hh
          exact ⟨by show a.1 < lo + 1 + c; omega, by show a.2 < max _ _; omega⟩
        · intro q hq
          rcases List.mem_append.mp hq with hq | hq
          · have := hb q hq
            omega
          · rw [List.mem_singleton.mp hq]
            refine ⟨by show 0 ≤ lo + 1 + c; omega, by show lo + 1 + c ≤ max _ _; omega, Int.le_refl _, Int.le_refl _⟩
        · simp only [List.length_append, List.length_singleton]; omega
        · simp only [List.length_append, List.length_singleton]; omega
      split
      · rename_i q
        have q := of_decide_eq_true q
        refine ⟨⟨by omega, by omega⟩, fun x x0 x1 => ?_⟩
        exact fin x x0 (by omega)
      · exact fin 0 (by omega) (by omega)
    · rintro ρ ⟨rows, lo, hi, s7, rfl, hl, ha, hb, l0, i0, l1, i1⟩
      rw [iv_length] at hl i1
      try simp only [dSeqS, dNext, dRet, dRetN, dIf, dDrop, dSet, dPar, dParN, setAll, dFor, dAppend, dExtend, dFreeze, dFreeze2, slotD, dAsg, dNever, dLend, dLendT, dVar, dC, dNil, dCons, dOp, dT, dAndT, dOrT, dNotT, dAndV, dOrV, dNotV, dIfE, dIs, dTup, dLst, dFr, dList, dLstR, dTupR, dRg1, dRg2, dSorted, dRange1, dRange2, dSeq, dEnum, dZip, dComp, wipeD, dCall, dCallKw, dSl, dPart, dNoPart, dYes, dPl, dIndexT, dIndexL, dIndexS, dTupF, gN, gT, gCs, gNl, vSh, vOw, vNil, vCons, vComp2, dDictComp, dNeg, dRep, dChain, spLen, spTuple, opIx20, opIx21, opIxG0, opIxG1, gd0, gdS, st0, stS, List.map_cons, List.map_nil, Bool.not_true, Bool.not_false, Bool.false_eq_true, ↓reduceIte]
      exact h rows ⟨hl, fun q hq => by have := hb q hq; omega⟩ ha

/-! ### lists of what is below -/
structure URows (n : Nat) (U : Int → List Int) : Prop where
  small : n ≤ 1000
  nd : ∀ i : Int, 0 ≤ i → i < n → (U i).Nodup
  rg : ∀ i x : Int, 0 ≤ i → i < n → x ∈ U i → 0 ≤ x ∧ x < n
structure UOrd (n : Nat) (U : Int → List Int) : Prop extends URows n U where
  ir : ∀ i : Int, 0 ≤ i → i < n → i ∉ U i
  tr : ∀ i x y : Int, 0 ≤ i → i < n → x ∈ U i → y ∈ U x → y ∈ U i
theorem URows.len {n : Nat} {U : Int → List Int} (u : URows n U) {i : Int} (h0 : 0 ≤ i) (h1 : i < n) : (U i).length ≤ n := by
  have := nodup_len (u.nd i h0 h1) (m := iv 0 n) fun x hx => by
    have := u.rg i x h0 h1 hx
    exact mem_iv.mpr (by omega)
  rw [iv_length] at this
  exact this
def rankP (n : Nat) (U : Int → List Int) : List (Int × Int) := pairsBy n fun l h => decide (l ∈ U h)
theorem mem_rankP {n : Nat} {U : Int → List Int} (u : URows n U) {l h : Int} (h0 : 0 ≤ h) (h1 : h < n) : (l, h) ∈ rankP n U ↔ l ∈ U h := by
  unfold rankP
  rw [mem_pairsBy, decide_eq_true_eq]
  constructor
  · exact fun q => q.2.2.2.2
  · intro q
    have := u.rg h l h0 h1 q
    exact ⟨this.1, this.2, h0, h1, q⟩
theorem mem_rankP' {n : Nat} {U : Int → List Int} {l h : Int} (m : (l, h) ∈ rankP n U) : l ∈ U h ∧ 0 ≤ l ∧ l < n ∧ 0 ≤ h ∧ h < n := by
  unfold rankP at m
  rw [mem_pairsBy, decide_eq_true_eq] at m
  exact ⟨m.2.2.2.2, m.1, m.2.1, m.2.2.1, m.2.2.2.1⟩
theorem UOrd.ook {n : Nat} {U : Int → List Int} (u : UOrd n U) : OOk n (rankP n U) where
  small := u.small
  ok := fun p hp => by
    obtain ⟨h1, h2, h3, h4, h5⟩ := mem_rankP' (l := p.1) (h := p.2) hp
    exact ⟨h2, h3, h4, h5, fun e => u.ir p.2 h4 h5 (by rw [← e]; rw [← e] at h1; exact h1)⟩
  asc := pairsBy_asc n _
  tr := fun i j k h1 h2 => by
    obtain ⟨a1, a2, a3, a4, a5⟩ := mem_rankP' h1
    obtain ⟨b1, b2, b3, b4, b5⟩ := mem_rankP' h2
    exact (mem_rankP u.toURows b4 b5).mpr (u.tr k j i b4 b5 b1 a1)
def colU (U : Int → List Int) (h : Int) : List (Int × Int) := (U h).map fun x => (x, h)
theorem nodup_flat {U : Int → List Int} : ∀ {l : List Int}, l.Nodup → (∀ i ∈ l, (U i).Nodup) → (l.flatMap (colU U)).Nodup
  | [], _, _ => List.nodup_nil
  | a :: l, hl, h => by
    rw [List.nodup_cons] at hl
    rw [List.flatMap_cons]
    refine List.nodup_append.mpr ⟨?_, nodup_flat hl.2 fun i hi => h i (List.mem_cons_of_mem _ hi), ?_⟩
    · show ((U a).map _).Pairwise (· ≠ ·)
      rw [List.pairwise_map]
      exact (h a List.mem_cons_self).imp fun q e => q (congrArg Prod.fst e)
    · rintro p hp q hq rfl
      obtain ⟨x, hx, rfl⟩ := List.mem_map.mp hp
      obtain ⟨b, hb, hq⟩ := List.mem_flatMap.mp hq
      obtain ⟨y, hy, e⟩ := List.mem_map.mp hq
      have : b = a := congrArg Prod.snd e
      exact hl.1 (by rw [← this]; exact hb)
theorem rank_perm {n : Nat} {U : Int → List Int} (u : URows n U) : (rankP n U).Perm ((iv 0 n).flatMap (colU U)) := by
  rw [List.perm_ext_iff_of_nodup (show (rankP n U).Nodup from lex_nodup (pairsBy_asc n _)) (nodup_flat (lt_nodup (iv_lt 0 n)) fun i hi => by rw [mem_iv] at hi; exact u.nd i (by omega) (by omega))]
  rintro ⟨l, h⟩
  rw [List.mem_flatMap]
  constructor
  · intro m
    obtain ⟨h1, h2, h3, h4, h5⟩ := mem_rankP' m
    exact ⟨h, mem_iv.mpr (by omega), List.mem_map.mpr ⟨l, h1, rfl⟩⟩
  · rintro ⟨a, ha, m⟩
    rw [mem_iv] at ha
    obtain ⟨x, hx, e⟩ := List.mem_map.mp m
    cases e
    exact (mem_rankP u (by omega) (by omega)).mpr hx
def sp__law_ranked : DSp := fun ds Q => ∃ n U, ds = [rowsD n U] ∧ URows n U ∧ Q (gD n (rankP n U))
def t__law_ranked : TDS := (dSeqS (dSet 1 (vOw (dLst dNil))) (dSeqS (dFor (dRange1 (dCons (dCall spLen (dCons (dVar 0) dNil)) dNil)) (gN 2) (dSeqS (dExtend 1 (dFr (dComp (dSeq (dOp opIx (dVar 0) (dVar 2))) (gN 3) dYes (dTup (dCons (dVar 3) (dCons (dVar 2) dNil))) [3]))) dNext)) (dFreeze 1 (dSeqS (dRet (dTup (dCons (dCall spLen (dCons (dVar 0) dNil)) (dCons (dCall spTuple (dCons (dFr (dSorted (dCons (dVar 1) dNil))) dNil)) dNil)))) dNext))))
theorem rd__law_ranked (ds : List D) (Q : D → Prop) (h : sp__law_ranked ds Q) : t__law_ranked (endR Q) (startN 4 ds) := by
  obtain ⟨n, U, rfl, u, h⟩ := h
  show t__law_ranked (endR Q) [.sh (rowsD n U), .no, .no, .no]
  have hs := u.small
  have el : ((iv 0 n).map fun i => D.lst ((U i).map D.int)).length = n := by rw [List.length_map, iv_length]
  try simp only [t__law_ranked, endR, rowsD, el, dSeqS, dNext, dRet, dRetN, dIf, dDrop, dSet, dPar, dParN, setAll, dFor, dAppend, dExtend, dFreeze, dFreeze2, slotD, dAsg, dNever, dLend, dLendT, dVar, dC, dNil, dCons, dOp, dT, dAndT, dOrT, dNotT, dAndV, dOrV, dNotV, dIfE, dIs, dTup, dLst, dFr, dList, dLstR, dTupR, dRg1, dRg2, dSorted, dRange1, dRange2, dSeq, dEnum, dZip, dComp, wipeD, dCall, dCallKw, dSl, dPart, dNoPart, dYes, dPl, dIndexT, dIndexL, dIndexS, dTupF, gN, gT, gCs, gNl, vSh, vOw, vNil, vCons, vComp2, dDictComp, dNeg, dRep, dChain, spLen, spTuple, opIx20, opIx21, opIxG0, opIxG1, gd0, gdS, st0, stS, List.map_cons, List.map_nil, Bool.not_true, Bool.not_false, Bool.false_eq_true, ↓reduceIte]
  refine ⟨Nat.zero_le _, rgb0 hs, ?_⟩
  rw [Int.toNat_natCast]
  refine loopD_iv (fun done ρ => ∃ s2, ρ = [.sh (rowsD n U), .ow ((done.flatMap (colU U)).map pairD), s2, .no] ∧ (done.flatMap (colU U)).length ≤ done.length * n) ?_ ?_ ⟨.no, rfl, by simp⟩
  · rintro done i rest e ρ ⟨s2, rfl, hl⟩ N hN
    obtain ⟨h1, h2, h3, h4⟩ := iv_split e
    try simp only [rowsD, dSeqS, dNext, dRet, dRetN, dIf, dDrop, dSet, dPar, dParN, setAll, dFor, dAppend, dExtend, dFreeze, dFreeze2, slotD, dAsg, dNever, dLend, dLendT, dVar, dC, dNil, dCons, dOp, dT, dAndT, dOrT, dNotT, dAndV, dOrV, dNotV, dIfE, dIs, dTup, dLst, dFr, dList, dLstR, dTupR, dRg1, dRg2, dSorted, dRange1, dRange2, dSeq, dEnum, dZip, dComp, wipeD, dCall, dCallKw, dSl, dPart, dNoPart, dYes, dPl, dIndexT, dIndexL, dIndexS, dTupF, gN, gT, gCs, gNl, vSh, vOw, vNil, vCons, vComp2, dDictComp, dNeg, dRep, dChain, spLen, spTuple, opIx20, opIx21, opIxG0, opIxG1, gd0, gdS, st0, stS, List.map_cons, List.map_nil, Bool.not_true, Bool.not_false, Bool.false_eq_true, ↓reduceIte]
    refine ix_iv (f := fun i => .lst ((U i).map D.int)) (by omega) (by omega) ?_
    try simp only [dSeqS, dNext, dRet, dRetN, dIf, dDrop, dSet, dPar, dParN, setAll, dFor, dAppend, dExtend, dFreeze, dFreeze2, slotD, dAsg, dNever, dLend, dLendT, dVar, dC, dNil, dCons, dOp, dT, dAndT, dOrT, dNotT, dAndV, dOrV, dNotV, dIfE, dIs, dTup, dLst, dFr, dList, dLstR, dTupR, dRg1, dRg2, dSorted, dRange1, dRange2, dSeq, dEnum, dZip, dComp, wipeD, dCall, dCallKw, dSl, dPart, dNoPart, dYes, dPl, dIndexT, dIndexL, dIndexS, dTupF, gN, gT, gCs, gNl, vSh, vOw, vNil, vCons, vComp2, dDictComp, dNeg, dRep, dChain, spLen, spTuple, opIx20, opIx21, opIxG0, opIxG1, gd0, gdS, st0, stS, List.map_cons, List.map_nil, Bool.not_true, Bool.not_false, Bool.false_eq_true, ↓reduceIte]
    refine compD_list (r := fun x => pairD (x, i)) (fun x hx K k => ⟨by simp; decide, k⟩) ?_
    rw [List.nil_append]
    have hu := u.len (i := i) (by omega) (by omega)
    have hm : done.length * n ≤ 1000 * 1000 := Nat.mul_le_mul (by omega) hs
    refine ⟨by have := sizeLine_eq; simp only [List.length_map]; omega, hN _ ⟨.sh (.int i), ?_, ?_⟩⟩
    · show [SV.sh (rowsD n U), SV.ow _, _, SV.no] = _
      congr 3
      rw [List.flatMap_append, List.map_append]
      congr 1
      simp [colU]
    · have e1 : ([i].flatMap (colU U)).length = (U i).length := by simp [colU]
      rw [List.flatMap_append, List.length_append, e1, List.length_append, List.length_singleton, Nat.succ_mul]
      omega
  · rintro ρ ⟨s2, rfl, hl⟩
    try simp only [rowsD, el, dSeqS, dNext, dRet, dRetN, dIf, dDrop, dSet, dPar, dParN, setAll, dFor, dAppend, dExtend, dFreeze, dFreeze2, slotD, dAsg, dNever, dLend, dLendT, dVar, dC, dNil, dCons, dOp, dT, dAndT, dOrT, dNotT, dAndV, dOrV, dNotV, dIfE, dIs, dTup, dLst, dFr, dList, dLstR, dTupR, dRg1, dRg2, dSorted, dRange1, dRange2, dSeq, dEnum, dZip, dComp, wipeD, dCall, dCallKw, dSl, dPart, dNoPart, dYes, dPl, dIndexT, dIndexL, dIndexS, dTupF, gN, gT, gCs, gNl, vSh, vOw, vNil, vCons, vComp2, dDictComp, dNeg, dRep, dChain, spLen, spTuple, opIx20, opIx21, opIxG0, opIxG1, gd0, gdS, st0, stS, List.map_cons, List.map_nil, Bool.not_true, Bool.not_false, Bool.false_eq_true, ↓reduceIte]
    refine sorted_prs (rank_perm u) (lex_le (pairsBy_asc n _)) ⟨by simp; decide, h⟩
def rowAt (rs : List (Int × Int)) (i : Int) : Int × Int := rs.getD i.toNat (0, 0)
theorem rows_map {n : Nat} {rs : List (Int × Int)} (h : rs.length = n) : rs = (iv 0 n).map (rowAt rs) := by
  apply List.ext_getElem?
  intro k
  rw [List.getElem?_map]
  by_cases hk : k < n
  · rw [iv_get hk]
    show _ = some (rowAt rs (0 + (k : Nat)))
    unfold rowAt
    have : k < rs.length := by omega
    rw [show (0 + (k : Int)).toNat = k by omega, List.getD_eq_getElem?_getD, List.getElem?_eq_getElem this]; rfl
  · rw [List.getElem?_eq_none (by omega), List.getElem?_eq_none (by rw [iv_length]; omega)]; rfl
theorem rowAt_mem {n : Nat} {rs : List (Int × Int)} (h : rs.length = n) {i : Int} (h0 : 0 ≤ i) (h1 : i < n) : rowAt rs i ∈ rs := by
  unfold rowAt
  have : i.toNat < rs.length := by omega
  rw [List.getD_eq_getElem?_getD, List.getElem?_eq_getElem this]
  exact List.getElem_mem this
def endsU (n : Nat) (rs : List (Int × Int)) (h : Int) : List Int := (iv 0 n).filter fun o => decide ((rowAt rs o).2 < (rowAt rs h).1)
theorem endsU_ord {n : Nat} {rs : List (Int × Int)} (hn : n ≤ 1000) (ok : RowsOk n rs) : UOrd n (endsU n rs) where
  small := hn
  nd := fun i _ _ => lt_nodup ((iv_lt 0 n).filter _)
  rg := fun i x _ _ hx => by
    have := mem_iv.mp (List.mem_filter.mp hx).1
    omega
  ir := fun i h0 h1 hi => by
    have h := of_decide_eq_true (List.mem_filter.mp hi).2
    have := ok.2 _ (rowAt_mem ok.1 h0 h1)
    omega
  tr := fun i x y h0 h1 hx hy => by
    unfold endsU at *
    rw [List.mem_filter, decide_eq_true_eq] at *
    have hx1 := mem_iv.mp hx.1
    have := ok.2 _ (rowAt_mem ok.1 (i := x) (by omega) (by omega))
    exact ⟨hy.1, by omega⟩
def sp__law_by_ends : DSp := fun ds Q => ∃ n rs, ds = [.tup (rs.map pairD)] ∧ n ≤ 1000 ∧ RowsOk n rs ∧ Q (rowsD n (endsU n rs))
def t__law_by_ends : TDS := (dSeqS (dRet (dFr (dComp (dSeq (dVar 0)) (gT 2 (gCs (gN 1) (gCs (gN 2) gNl))) dYes (dFr (dComp (dRange1 (dCons (dCall spLen (dCons (dVar 0) dNil)) dNil)) (gN 3) (dT (dOp opLt (dOp opIx (dOp opIx (dVar 0) (dVar 3)) (dC (.int 1))) (dVar 1))) (dVar 3) [3])) [1, 2]))) dNext)
theorem rd__law_by_ends (ds : List D) (Q : D → Prop) (h : sp__law_by_ends ds Q) : t__law_by_ends (endR Q) (startN 4 ds) := by
  obtain ⟨n, rs, rfl, hn, ok, h⟩ := h
  show t__law_by_ends (endR Q) [.sh (.tup (rs.map pairD)), .no, .no, .no]
  try simp only [t__law_by_ends, endR, dSeqS, dNext, dRet, dRetN, dIf, dDrop, dSet, dPar, dParN, setAll, dFor, dAppend, dExtend, dFreeze, dFreeze2, slotD, dAsg, dNever, dLend, dLendT, dVar, dC, dNil, dCons, dOp, dT, dAndT, dOrT, dNotT, dAndV, dOrV, dNotV, dIfE, dIs, dTup, dLst, dFr, dList, dLstR, dTupR, dRg1, dRg2, dSorted, dRange1, dRange2, dSeq, dEnum, dZip, dComp, wipeD, dCall, dCallKw, dSl, dPart, dNoPart, dYes, dPl, dIndexT, dIndexL, dIndexS, dTupF, gN, gT, gCs, gNl, vSh, vOw, vNil, vCons, vComp2, dDictComp, dNeg, dRep, dChain, spLen, spTuple, opIx20, opIx21, opIxG0, opIxG1, gd0, gdS, st0, stS, List.map_cons, List.map_nil, Bool.not_true, Bool.not_false, Bool.false_eq_true, ↓reduceIte]
  have er : rs.map pairD = (iv 0 n).map fun i => pairD (rowAt rs i) := by
    have := congrArg (List.map pairD) (rows_map ok.1)
    rw [List.map_map] at this
    exact this
  rw [er]
  refine compD_list (r := fun i => .lst ((endsU n rs i).map D.int)) (fun i hi K k => ⟨rfl, ?_⟩) h
  have el : ((iv 0 n).map fun i => pairD (rowAt rs i)).length = n := by rw [List.length_map, iv_length]
  try simp only [el, dSeqS, dNext, dRet, dRetN, dIf, dDrop, dSet, dPar, dParN, setAll, dFor, dAppend, dExtend, dFreeze, dFreeze2, slotD, dAsg, dNever, dLend, dLendT, dVar, dC, dNil, dCons, dOp, dT, dAndT, dOrT, dNotT, dAndV, dOrV, dNotV, dIfE, dIs, dTup, dLst, dFr, dList, dLstR, dTupR, dRg1, dRg2, dSorted, dRange1, dRange2, dSeq, dEnum, dZip, dComp, wipeD, dCall, dCallKw, dSl, dPart, dNoPart, dYes, dPl, dIndexT, dIndexL, dIndexS, dTupF, gN, gT, gCs, gNl, vSh, vOw, vNil, vCons, vComp2, dDictComp, dNeg, dRep, dChain, spLen, spTuple, opIx20, opIx21, opIxG0, opIxG1, gd0, gdS, st0, stS, List.map_cons, List.map_nil, Bool.not_true, Bool.not_false, Bool.false_eq_true, ↓reduceIte]
  refine ⟨rgb0 hn, ?_⟩
  rw [Int.toNat_natCast, rng_iv]
  refine compD_filter (r := D.int) (p := fun o => decide ((rowAt rs o).2 < (rowAt rs i).1)) (fun o ho K L q => ?_) k
  rw [mem_iv] at ho
  try simp only [dSeqS, dNext, dRet, dRetN, dIf, dDrop, dSet, dPar, dParN, setAll, dFor, dAppend, dExtend, dFreeze, dFreeze2, slotD, dAsg, dNever, dLend, dLendT, dVar, dC, dNil, dCons, dOp, dT, dAndT, dOrT, dNotT, dAndV, dOrV, dNotV, dIfE, dIs, dTup, dLst, dFr, dList, dLstR, dTupR, dRg1, dRg2, dSorted, dRange1, dRange2, dSeq, dEnum, dZip, dComp, wipeD, dCall, dCallKw, dSl, dPart, dNoPart, dYes, dPl, dIndexT, dIndexL, dIndexS, dTupF, gN, gT, gCs, gNl, vSh, vOw, vNil, vCons, vComp2, dDictComp, dNeg, dRep, dChain, spLen, spTuple, opIx20, opIx21, opIxG0, opIxG1, gd0, gdS, st0, stS, List.map_cons, List.map_nil, Bool.not_true, Bool.not_false, Bool.false_eq_true, ↓reduceIte]
  refine ix_ivT (f := fun i => pairD (rowAt rs i)) (by omega) (by omega) ?_
  try simp only [dSeqS, dNext, dRet, dRetN, dIf, dDrop, dSet, dPar, dParN, setAll, dFor, dAppend, dExtend, dFreeze, dFreeze2, slotD, dAsg, dNever, dLend, dLendT, dVar, dC, dNil, dCons, dOp, dT, dAndT, dOrT, dNotT, dAndV, dOrV, dNotV, dIfE, dIs, dTup, dLst, dFr, dList, dLstR, dTupR, dRg1, dRg2, dSorted, dRange1, dRange2, dSeq, dEnum, dZip, dComp, wipeD, dCall, dCallKw, dSl, dPart, dNoPart, dYes, dPl, dIndexT, dIndexL, dIndexS, dTupF, gN, gT, gCs, gNl, vSh, vOw, vNil, vCons, vComp2, dDictComp, dNeg, dRep, dChain, spLen, spTuple, opIx20, opIx21, opIxG0, opIxG1, gd0, gdS, st0, stS, List.map_cons, List.map_nil, Bool.not_true, Bool.not_false, Bool.false_eq_true, ↓reduceIte]
  exact q
/-- closed under what is below, each below its place -/
structure Good (us : List (List Int)) : Prop where
  at_ : ∀ h : Nat, ∀ l, us[h]? = some l → l.Nodup ∧ ∀ x ∈ l, 0 ≤ x ∧ x < h ∧ ∀ m, us[x.toNat]? = some m → ∀ y ∈ m, y ∈ l
def Uof (us : List (List Int)) (i : Int) : List Int := us.getD i.toNat []
theorem Uof_map (us : List (List Int)) : us = (iv 0 us.length).map (Uof us) := by
  apply List.ext_getElem?
  intro k
  rw [List.getElem?_map]
  by_cases hk : k < us.length
  · rw [iv_get hk]
    show _ = some (Uof us (0 + (k : Nat)))
    unfold Uof
    rw [show (0 + (k : Int)).toNat = k by omega, List.getD_eq_getElem?_getD, List.getElem?_eq_getElem hk]; rfl
  · rw [List.getElem?_eq_none (by omega), List.getElem?_eq_none (by rw [iv_length]; omega)]; rfl
theorem Uof_at {us : List (List Int)} {i : Int} (h0 : 0 ≤ i) (h1 : i < us.length) : us[i.toNat]? = some (Uof us i) := by
  unfold Uof
  have : i.toNat < us.length := by omega
  rw [List.getD_eq_getElem?_getD, List.getElem?_eq_getElem this]; rfl
theorem Good.ord {us : List (List Int)} (g : Good us) (hn : us.length ≤ 1000) : UOrd us.length (Uof us) where
  small := hn
  nd := fun i h0 h1 => (g.at_ _ _ (Uof_at h0 h1)).1
  rg := fun i x h0 h1 hx => by
    have := (g.at_ _ _ (Uof_at h0 h1)).2 x hx
    omega
  ir := fun i h0 h1 hi => by
    have := (g.at_ _ _ (Uof_at h0 h1)).2 i hi
    omega
  tr := fun i x y h0 h1 hx hy => by
    obtain ⟨a, b, c⟩ := (g.at_ _ _ (Uof_at h0 h1)).2 x hx
    exact c _ (Uof_at a (by omega)) y hy
def sp__law_handed_on : DSp := fun ds Q => match ds with
  | [.well, .int n] => (0 ≤ n ∧ n ≤ 1000) ∧ ∀ U, UOrd n.toNat U → Q (rowsD n.toNat U)
  | _ => False
def t__law_handed_on : TDS := (dSeqS (dParN [2, 3] (vCons (vSh (dCall sp__law_dip (dCons (dVar 0) (dCons (dC (.int 5)) dNil)))) (vCons (vOw (dLst dNil)) vNil))) (dSeqS (dFor (dRange1 (dCons (dVar 1) dNil)) (gN 4) (dSeqS (dSet 5 (vSh (dFr (dComp (dRange1 (dCons (dVar 4) dNil)) (gN 6) (dT (dOp opLt (dCall sp__law_dip (dCons (dVar 0) (dCons (dC (.int 5)) dNil))) (dVar 2))) (dVar 6) [6])))) (dSeqS (dFor (dRange3 (dCons (dOp opSub (dVar 4) (dC (.int 1))) (dCons (dNeg (dC (.int 1))) (dCons (dNeg (dC (.int 1))) dNil)))) (gN 6) (dSeqS (dIf (dT (dOp (opInN false) (dVar 6) (dVar 5))) (dSeqS (dSet 5 (vSh (dOp opAdd (dVar 5) (dFr (dComp (dSeq (dIxO 3 (dVar 6))) (gN 7) (dT (dOp (opInN true) (dVar 7) (dVar 5))) (dVar 7) [7]))))) dNext) dNext) dNext)) (dSeqS (dAppend 3 (dVar 5)) dNext)))) (dFreeze 3 (dSeqS (dRet (dVar 3)) dNext))))
theorem rngD_split {lo : Int} {n : Nat} {done rest : List D} {d : D} (h : rngD lo n = done ++ d :: rest) : d = .int (lo - done.length) ∧ done.length < n := by
  have hl := congrArg List.length h
  unfold rngD at hl
  rw [List.length_map, List.length_range, List.length_append, List.length_cons] at hl
  have hi : (rngD lo n)[done.length]? = some d := by rw [h]; simp
  unfold rngD at hi
  rw [List.getElem?_map, List.getElem?_range (by omega)] at hi
  exact ⟨(Option.some.inj hi).symm, by omega⟩
theorem rd__law_handed_on (ds : List D) (Q : D → Prop) (h : sp__law_handed_on ds Q) : t__law_handed_on (endR Q) (startN 8 ds) := by
  match ds, h with
  | [.well, .int n], ⟨⟨h0, h1⟩, h⟩ =>
    show t__law_handed_on (endR Q) [.sh .well, .sh (.int n), .no, .no, .no, .no, .no, .no]
    obtain ⟨n, rfl⟩ : ∃ m : Nat, n = (m : Nat) := ⟨n.toNat, by omega⟩
    rw [Int.toNat_natCast] at h
    try simp only [t__law_handed_on, endR, sp__law_dip, dSeqS, dNext, dRet, dRetN, dIf, dDrop, dSet, dPar, dParN, setAll, dFor, dAppend, dExtend, dFreeze, dFreeze2, slotD, dAsg, dNever, dLend, dLendT, dVar, dC, dNil, dCons, dOp, dT, dAndT, dOrT, dNotT, dAndV, dOrV, dNotV, dIfE, dIs, dTup, dLst, dFr, dList, dLstR, dTupR, dRg1, dRg2, dSorted, dRange1, dRange2, dSeq, dEnum, dZip, dComp, wipeD, dCall, dCallKw, dSl, dPart, dNoPart, dYes, dPl, dIndexT, dIndexL, dIndexS, dTupF, gN, gT, gCs, gNl, vSh, vOw, vNil, vCons, vComp2, dDictComp, dNeg, dRep, dChain, spLen, spTuple, opIx20, opIx21, opIxG0, opIxG1, gd0, gdS, st0, stS, List.map_cons, List.map_nil, Bool.not_true, Bool.not_false, Bool.false_eq_true, ↓reduceIte]
    refine ⟨⟨by omega, by omega⟩, fun r r0 r1 => ⟨Nat.zero_le _, ⟨rfl, rfl⟩, rgb0 (by omega), ?_⟩⟩
    rw [Int.toNat_natCast]
    refine loopD_iv (fun done ρ => ∃ (us : List (List Int)) (s4 s5 s6 : SV), ρ = [.sh .well, .sh (.int n), .sh (.int r), .ow (us.map fun l => .lst (l.map D.int)), s4, s5, s6, .no] ∧ us.length = done.length ∧ Good us) ?_ ?_ ⟨[], .no, .no, .no, rfl, rfl, ⟨fun h l e => by simp at e⟩⟩
    · rintro done i rest e ρ ⟨us, s4, s5, s6, rfl, hl, g⟩ N hN
      obtain ⟨g1, g2, g3, g4⟩ := iv_split e
      try simp only [dSeqS, dNext, dRet, dRetN, dIf, dDrop, dSet, dPar, dParN, setAll, dFor, dAppend, dExtend, dFreeze, dFreeze2, slotD, dAsg, dNever, dLend, dLendT, dVar, dC, dNil, dCons, dOp, dT, dAndT, dOrT, dNotT, dAndV, dOrV, dNotV, dIfE, dIs, dTup, dLst, dFr, dList, dLstR, dTupR, dRg1, dRg2, dSorted, dRange1, dRange2, dSeq, dEnum, dZip, dComp, wipeD, dCall, dCallKw, dSl, dPart, dNoPart, dYes, dPl, dIndexT, dIndexL, dIndexS, dTupF, gN, gT, gCs, gNl, vSh, vOw, vNil, vCons, vComp2, dDictComp, dNeg, dRep, dChain, spLen, spTuple, opIx20, opIx21, opIxG0, opIxG1, gd0, gdS, st0, stS, List.map_cons, List.map_nil, Bool.not_true, Bool.not_false, Bool.false_eq_true, ↓reduceIte]
      refine ⟨⟨by omega, by omega, by omega, by omega⟩, ?_⟩
      rw [rng_iv]
      refine compD_ind (fun dn ac => ∃ js rs : List Int, iv 0 i.toNat = js ++ rs ∧ dn = js.map D.int ∧ ∃ ks : List Int, ac = ks.map D.int ∧ ks.Sublist js) ?_ ?_ (done := []) rfl ⟨[], _, rfl, rfl, [], rfl, .refl _⟩
      · rintro dn d rs e2 ac ⟨js, ms, e3, rfl, ks, rfl, sub⟩ K L hK hL
        cases ms with
        | nil =>
          rw [List.append_nil] at e3
          rw [e3] at e2
          simp at e2
        | cons j ms =>
          have ed : d = .int j := by
            rw [e3, List.map_append] at e2
            have := List.append_cancel_left e2
            simp at this
            exact this.1.symm
          subst ed
          try simp only [dSeqS, dNext, dRet, dRetN, dIf, dDrop, dSet, dPar, dParN, setAll, dFor, dAppend, dExtend, dFreeze, dFreeze2, slotD, dAsg, dNever, dLend, dLendT, dVar, dC, dNil, dCons, dOp, dT, dAndT, dOrT, dNotT, dAndV, dOrV, dNotV, dIfE, dIs, dTup, dLst, dFr, dList, dLstR, dTupR, dRg1, dRg2, dSorted, dRange1, dRange2, dSeq, dEnum, dZip, dComp, wipeD, dCall, dCallKw, dSl, dPart, dNoPart, dYes, dPl, dIndexT, dIndexL, dIndexS, dTupF, gN, gT, gCs, gNl, vSh, vOw, vNil, vCons, vComp2, dDictComp, dNeg, dRep, dChain, spLen, spTuple, opIx20, opIx21, opIxG0, opIxG1, gd0, gdS, st0, stS, List.map_cons, List.map_nil, Bool.not_true, Bool.not_false, Bool.false_eq_true, ↓reduceIte]
          refine ⟨⟨by omega, by omega⟩, fun c c0 c1 => ?_⟩
          show (if decide (c < r) = true then _ else _)
          split
          · exact hK _ ⟨js ++ [j], ms, by simp [e3], by simp, ks ++ [j], by simp, sub.append (.refl _)⟩
          · exact hL ⟨js ++ [j], ms, by simp [e3], by simp, ks, rfl, sub.trans (List.sublist_append_left _ _)⟩
      · rintro ac ⟨js, rs, e3, e4, ks, rfl, sub⟩
        have e5 : iv 0 i.toNat = js := by
          have e6 : (js ++ rs).length = js.length := by rw [← e3]; simpa using congrArg List.length e4
          rw [List.length_append] at e6
          have : rs = [] := List.eq_nil_of_length_eq_zero (by omega)
          rw [this, List.append_nil] at e3
          exact e3
        rw [← e5] at sub
        have kb : ks.Nodup ∧ ∀ x ∈ ks, 0 ≤ x ∧ x < i := ⟨lt_nodup ((iv_lt _ _).sublist sub), fun x hx => by
          have := mem_iv.mp (sub.subset hx)
          omega⟩
        try simp only [opSub, dSeqS, dNext, dRet, dRetN, dIf, dDrop, dSet, dPar, dParN, setAll, dFor, dAppend, dExtend, dFreeze, dFreeze2, slotD, dAsg, dNever, dLend, dLendT, dVar, dC, dNil, dCons, dOp, dT, dAndT, dOrT, dNotT, dAndV, dOrV, dNotV, dIfE, dIs, dTup, dLst, dFr, dList, dLstR, dTupR, dRg1, dRg2, dSorted, dRange1, dRange2, dSeq, dEnum, dZip, dComp, wipeD, dCall, dCallKw, dSl, dPart, dNoPart, dYes, dPl, dIndexT, dIndexL, dIndexS, dTupF, gN, gT, gCs, gNl, vSh, vOw, vNil, vCons, vComp2, dDictComp, dNeg, dRep, dChain, spLen, spTuple, opIx20, opIx21, opIxG0, opIxG1, gd0, gdS, st0, stS, List.map_cons, List.map_nil, Bool.not_true, Bool.not_false, Bool.false_eq_true, ↓reduceIte]
        refine ⟨⟨⟨by omega, by omega, by omega, by omega⟩, rfl⟩, ?_⟩
        refine loopD_ind (fun dn ρ => ∃ (lot : List Int) (s6 : SV), ρ = [.sh .well, .sh (.int n), .sh (.int r), .ow (us.map fun l => .lst (l.map D.int)), .sh (.int i), .sh (.lst (lot.map D.int)), s6, .no] ∧ lot.Nodup ∧ (∀ x ∈ lot, 0 ≤ x ∧ x < i) ∧
          ∀ x ∈ lot, i - dn.length ≤ x → ∀ y ∈ Uof us x, y ∈ lot) ?_ ?_ (done := []) rfl ⟨ks, _, rfl, kb.1, kb.2, fun x hx q => by have := kb.2 x hx; simp at q; omega⟩
        · rintro dn d rs e6 ρ ⟨lot, s6, rfl, nd, rg, cl⟩ N2 hN2
          obtain ⟨rfl, hlt⟩ := rngD_split (by simpa using e6)
          have hlow : ∃ low : Int, low = i - 1 - dn.length := ⟨_, rfl⟩
          obtain ⟨low, hlow⟩ := hlow
          rw [← hlow]
          have b0 : 0 ≤ low := by omega
          have b1 : low < i := by omega
          try simp only [dSeqS, dNext, dRet, dRetN, dIf, dDrop, dSet, dPar, dParN, setAll, dFor, dAppend, dExtend, dFreeze, dFreeze2, slotD, dAsg, dNever, dLend, dLendT, dVar, dC, dNil, dCons, dOp, dT, dAndT, dOrT, dNotT, dAndV, dOrV, dNotV, dIfE, dIs, dTup, dLst, dFr, dList, dLstR, dTupR, dRg1, dRg2, dSorted, dRange1, dRange2, dSeq, dEnum, dZip, dComp, wipeD, dCall, dCallKw, dSl, dPart, dNoPart, dYes, dPl, dIndexT, dIndexL, dIndexS, dTupF, gN, gT, gCs, gNl, vSh, vOw, vNil, vCons, vComp2, dDictComp, dNeg, dRep, dChain, spLen, spTuple, opIx20, opIx21, opIxG0, opIxG1, gd0, gdS, st0, stS, List.map_cons, List.map_nil, Bool.not_true, Bool.not_false, Bool.false_eq_true, ↓reduceIte]
          refine in_ints ?_
          try simp only [dSeqS, dNext, dRet, dRetN, dIf, dDrop, dSet, dPar, dParN, setAll, dFor, dAppend, dExtend, dFreeze, dFreeze2, slotD, dAsg, dNever, dLend, dLendT, dVar, dC, dNil, dCons, dOp, dT, dAndT, dOrT, dNotT, dAndV, dOrV, dNotV, dIfE, dIs, dTup, dLst, dFr, dList, dLstR, dTupR, dRg1, dRg2, dSorted, dRange1, dRange2, dSeq, dEnum, dZip, dComp, wipeD, dCall, dCallKw, dSl, dPart, dNoPart, dYes, dPl, dIndexT, dIndexL, dIndexS, dTupF, gN, gT, gCs, gNl, vSh, vOw, vNil, vCons, vComp2, dDictComp, dNeg, dRep, dChain, spLen, spTuple, opIx20, opIx21, opIxG0, opIxG1, gd0, gdS, st0, stS, List.map_cons, List.map_nil, Bool.not_true, Bool.not_false, Bool.false_eq_true, ↓reduceIte]
          split
          · rename_i q
            have q := of_decide_eq_true q
            try simp only [dIxO, dSeqS, dNext, dRet, dRetN, dIf, dDrop, dSet, dPar, dParN, setAll, dFor, dAppend, dExtend, dFreeze, dFreeze2, slotD, dAsg, dNever, dLend, dLendT, dVar, dC, dNil, dCons, dOp, dT, dAndT, dOrT, dNotT, dAndV, dOrV, dNotV, dIfE, dIs, dTup, dLst, dFr, dList, dLstR, dTupR, dRg1, dRg2, dSorted, dRange1, dRange2, dSeq, dEnum, dZip, dComp, wipeD, dCall, dCallKw, dSl, dPart, dNoPart, dYes, dPl, dIndexT, dIndexL, dIndexS, dTupF, gN, gT, gCs, gNl, vSh, vOw, vNil, vCons, vComp2, dDictComp, dNeg, dRep, dChain, spLen, spTuple, opIx20, opIx21, opIxG0, opIxG1, gd0, gdS, st0, stS, List.map_cons, List.map_nil, Bool.not_true, Bool.not_false, Bool.false_eq_true, ↓reduceIte]
            have hat : atI (us.map fun l => D.lst (l.map D.int)) low = some (.lst ((Uof us low).map D.int)) := by
              have e : ixN (us.map fun l => D.lst (l.map D.int)).length low = some low.toNat := by
                unfold ixN
                rw [List.length_map, if_pos b0, if_pos (by omega)]
              rw [atI_ix e, List.getElem?_map, Uof_at b0 (by omega)]; rfl
            rw [hat]
            try simp only [dSeqS, dNext, dRet, dRetN, dIf, dDrop, dSet, dPar, dParN, setAll, dFor, dAppend, dExtend, dFreeze, dFreeze2, slotD, dAsg, dNever, dLend, dLendT, dVar, dC, dNil, dCons, dOp, dT, dAndT, dOrT, dNotT, dAndV, dOrV, dNotV, dIfE, dIs, dTup, dLst, dFr, dList, dLstR, dTupR, dRg1, dRg2, dSorted, dRange1, dRange2, dSeq, dEnum, dZip, dComp, wipeD, dCall, dCallKw, dSl, dPart, dNoPart, dYes, dPl, dIndexT, dIndexL, dIndexS, dTupF, gN, gT, gCs, gNl, vSh, vOw, vNil, vCons, vComp2, dDictComp, dNeg, dRep, dChain, spLen, spTuple, opIx20, opIx21, opIxG0, opIxG1, gd0, gdS, st0, stS, List.map_cons, List.map_nil, Bool.not_true, Bool.not_false, Bool.false_eq_true, ↓reduceIte]
            refine compD_filter (r := D.int) (p := fun y => !decide (y ∈ lot)) (fun y hy K L k => ?_) ?_
            · try simp only [dSeqS, dNext, dRet, dRetN, dIf, dDrop, dSet, dPar, dParN, setAll, dFor, dAppend, dExtend, dFreeze, dFreeze2, slotD, dAsg, dNever, dLend, dLendT, dVar, dC, dNil, dCons, dOp, dT, dAndT, dOrT, dNotT, dAndV, dOrV, dNotV, dIfE, dIs, dTup, dLst, dFr, dList, dLstR, dTupR, dRg1, dRg2, dSorted, dRange1, dRange2, dSeq, dEnum, dZip, dComp, wipeD, dCall, dCallKw, dSl, dPart, dNoPart, dYes, dPl, dIndexT, dIndexL, dIndexS, dTupF, gN, gT, gCs, gNl, vSh, vOw, vNil, vCons, vComp2, dDictComp, dNeg, dRep, dChain, spLen, spTuple, opIx20, opIx21, opIxG0, opIxG1, gd0, gdS, st0, stS, List.map_cons, List.map_nil, Bool.not_true, Bool.not_false, Bool.false_eq_true, ↓reduceIte]
              exact notin_ints k
            · rw [List.nil_append]
              obtain ⟨un, ug⟩ := g.at_ _ _ (Uof_at b0 (by omega))
              have add : ∀ y ∈ (Uof us low).filter fun y => !decide (y ∈ lot), y ∉ lot ∧ 0 ≤ y ∧ y < low := fun y hy => by
                rw [List.mem_filter, Bool.not_eq_true', decide_eq_false_iff_not] at hy
                have := ug y hy.1
                exact ⟨hy.2, by omega, by omega⟩
              have nd2 : (lot ++ (Uof us low).filter fun y => !decide (y ∈ lot)).Nodup := List.nodup_append.mpr ⟨nd, un.filter _, fun a ha b hb e => (add b hb).1 (by rw [← e]; exact ha)⟩
              have rg2 : ∀ x ∈ lot ++ (Uof us low).filter fun y => !decide (y ∈ lot), 0 ≤ x ∧ x < i := fun x hx => by
                rcases List.mem_append.mp hx with z | z
                · exact rg x z
                · have := add x z; omega
              have len2 := nodup_len nd2 (m := iv 0 n) fun x hx => by
                have := rg2 x hx
                exact mem_iv.mpr (by omega)
              rw [iv_length, List.length_append] at len2
              refine ⟨by have := sizeLine_eq; simp only [List.length_map]; omega, hN2 _ ⟨lot ++ (Uof us low).filter fun y => !decide (y ∈ lot), .sh (.int low), by simp, nd2, rg2, fun x hx q2 y hy => ?_⟩⟩
              rcases List.mem_append.mp hx with z | z
              · by_cases ex : x = low
                · subst ex
                  by_cases yl : y ∈ lot
                  · exact List.mem_append_left _ yl
                  · exact List.mem_append_right _ (List.mem_filter.mpr ⟨hy, by simp [yl]⟩)
                · exact List.mem_append_left _ (cl x z (by simp at q2; omega) y hy)
              · have := add x z
                simp at q2
                omega
          · rename_i q
            have q : low ∉ lot := fun z => q (decide_eq_true z)
            refine hN2 _ ⟨lot, .sh (.int low), rfl, nd, rg, fun x hx q2 y hy => cl x hx ?_ y hy⟩
            have : x ≠ low := fun z => q (by rw [← z]; exact hx)
            simp at q2
            omega
        · rintro ρ ⟨lot, s6, rfl, nd, rg, cl⟩
          try simp only [dSeqS, dNext, dRet, dRetN, dIf, dDrop, dSet, dPar, dParN, setAll, dFor, dAppend, dExtend, dFreeze, dFreeze2, slotD, dAsg, dNever, dLend, dLendT, dVar, dC, dNil, dCons, dOp, dT, dAndT, dOrT, dNotT, dAndV, dOrV, dNotV, dIfE, dIs, dTup, dLst, dFr, dList, dLstR, dTupR, dRg1, dRg2, dSorted, dRange1, dRange2, dSeq, dEnum, dZip, dComp, wipeD, dCall, dCallKw, dSl, dPart, dNoPart, dYes, dPl, dIndexT, dIndexL, dIndexS, dTupF, gN, gT, gCs, gNl, vSh, vOw, vNil, vCons, vComp2, dDictComp, dNeg, dRep, dChain, spLen, spTuple, opIx20, opIx21, opIxG0, opIxG1, gd0, gdS, st0, stS, List.map_cons, List.map_nil, Bool.not_true, Bool.not_false, Bool.false_eq_true, ↓reduceIte]
          have len2 := nodup_len nd (m := iv 0 n) fun x hx => by
            have := rg x hx
            exact mem_iv.mpr (by omega)
          rw [iv_length] at len2
          refine ⟨by have := sizeLine_eq; simp only [List.length_map]; omega, hN _ ⟨us ++ [lot], .sh (.int i), .sh (.lst (lot.map D.int)), s6, by simp, by simp [hl], ⟨fun h l e => ?_⟩⟩⟩
          have hup : ∀ (x : Int) (m : List Int), 0 ≤ x → x < us.length → (us ++ [lot])[x.toNat]? = some m → us[x.toNat]? = some m := fun x m x0 x1 q => by
            rw [List.getElem?_append_left (by omega)] at q; exact q
          by_cases hh : h < us.length
          · rw [List.getElem?_append_left hh] at e
            obtain ⟨a, b⟩ := g.at_ h l e
            refine ⟨a, fun x hx => ?_⟩
            obtain ⟨c1, c2, c3⟩ := b x hx
            exact ⟨c1, c2, fun m q => c3 m (hup x m c1 (by omega) q)⟩
          · have hh2 : h = us.length := by
              have := (List.getElem?_eq_some_iff.mp e).1
              simp at this
              omega
            subst hh2
            simp at e
            subst e
            refine ⟨nd, fun x hx => ?_⟩
            have b := rg x hx
            refine ⟨b.1, by omega, fun m q y hy => ?_⟩
            have q := hup x m b.1 (by omega) q
            rw [Uof_at b.1 (by omega)] at q
            cases q
            refine cl x hx ?_ y hy
            have : (rngD (i - 1) (i - 1 - -1).toNat).length = i.toNat := by unfold rngD; simp
            rw [List.nil_append, this]
            omega
    · rintro ρ ⟨us, s4, s5, s6, rfl, hl, g⟩
      rw [iv_length] at hl
      try simp only [dSeqS, dNext, dRet, dRetN, dIf, dDrop, dSet, dPar, dParN, setAll, dFor, dAppend, dExtend, dFreeze, dFreeze2, slotD, dAsg, dNever, dLend, dLendT, dVar, dC, dNil, dCons, dOp, dT, dAndT, dOrT, dNotT, dAndV, dOrV, dNotV, dIfE, dIs, dTup, dLst, dFr, dList, dLstR, dTupR, dRg1, dRg2, dSorted, dRange1, dRange2, dSeq, dEnum, dZip, dComp, wipeD, dCall, dCallKw, dSl, dPart, dNoPart, dYes, dPl, dIndexT, dIndexL, dIndexS, dTupF, gN, gT, gCs, gNl, vSh, vOw, vNil, vCons, vComp2, dDictComp, dNeg, dRep, dChain, spLen, spTuple, opIx20, opIx21, opIxG0, opIxG1, gd0, gdS, st0, stS, List.map_cons, List.map_nil, Bool.not_true, Bool.not_false, Bool.false_eq_true, ↓reduceIte]
      have u := g.ord (by omega)
      rw [hl] at u
      have e : D.lst (us.map fun l => D.lst (l.map D.int)) = rowsD n (Uof us) := by
        unfold rowsD
        have := congrArg (List.map fun l => D.lst (l.map D.int)) (Uof_map us)
        rw [List.map_map, hl] at this
        exact congrArg D.lst this
      rw [e]
      exact h _ u
def renU (U : Int → List Int) (way : List Int) (h : Int) : List Int := (U (atW way h)).map (posW way)
theorem renU_ord {n : Nat} {U : Int → List Int} {way : List Int} (u : UOrd n U) (w : WayOk n way) : UOrd n (renU U way) := by
  have inr : ∀ i : Int, 0 ≤ i → i < n → 0 ≤ atW way i ∧ atW way i < n := fun i h0 h1 => w.mem.mp (w.at_mem h0 h1)
  have mm : ∀ i x : Int, 0 ≤ i → i < n → x ∈ U (atW way i) → x ∈ way := fun i x h0 h1 hx => by
    have := inr i h0 h1
    exact w.mem.mpr (u.rg _ x this.1 this.2 hx)
  refine ⟨⟨u.small, fun i h0 h1 => ?_, fun i x h0 h1 hx => ?_⟩, fun i h0 h1 hi => ?_, fun i x y h0 h1 hx hy => ?_⟩
  · unfold renU
    show ((U (atW way i)).map _).Pairwise (· ≠ ·)
    rw [List.pairwise_map]
    have a := inr i h0 h1
    exact List.Pairwise.imp_of_mem (fun {p q} hp hq hne e => hne (w.pos_inj (mm i p h0 h1 hp) (mm i q h0 h1 hq) e)) (u.nd _ a.1 a.2)
  · obtain ⟨y, hy, rfl⟩ := List.mem_map.mp hx
    exact w.pos_lt (mm i y h0 h1 hy)
  · obtain ⟨y, hy, e⟩ := List.mem_map.mp hi
    have a := inr i h0 h1
    have : y = atW way i := by rw [← w.at_pos (mm i y h0 h1 hy), e]
    subst this
    exact u.ir _ a.1 a.2 hy
  · obtain ⟨x', hx', rfl⟩ := List.mem_map.mp hx
    obtain ⟨y', hy', rfl⟩ := List.mem_map.mp hy
    rw [w.at_pos (mm i x' h0 h1 hx')] at hy'
    have a := inr i h0 h1
    exact List.mem_map.mpr ⟨y', u.tr _ x' y' a.1 a.2 hx' hy', rfl⟩
def sp__law_renamed : DSp := fun ds Q => ∃ n U way, ds = [rowsD n U, .ft (way.map D.int)] ∧ UOrd n U ∧ WayOk n way ∧ Q (rowsD n (renU U way))
def t__law_renamed : TDS := (dSeqS (dRet (dFr (dComp (dSeq (dPl (dVar 1))) (gN 2) dYes (dFr (dComp (dSeq (dOp opIx (dVar 0) (dVar 2))) (gN 3) dYes (dIndexT (dVar 1) (dVar 3)) [3])) [2]))) dNext)
theorem rd__law_renamed (ds : List D) (Q : D → Prop) (h : sp__law_renamed ds Q) : t__law_renamed (endR Q) (startN 4 ds) := by
  obtain ⟨n, U, way, rfl, u, w, h⟩ := h
  show t__law_renamed (endR Q) [.sh (rowsD n U), .sh (.ft (way.map D.int)), .no, .no]
  try simp only [t__law_renamed, endR, dSeqS, dNext, dRet, dRetN, dIf, dDrop, dSet, dPar, dParN, setAll, dFor, dAppend, dExtend, dFreeze, dFreeze2, slotD, dAsg, dNever, dLend, dLendT, dVar, dC, dNil, dCons, dOp, dT, dAndT, dOrT, dNotT, dAndV, dOrV, dNotV, dIfE, dIs, dTup, dLst, dFr, dList, dLstR, dTupR, dRg1, dRg2, dSorted, dRange1, dRange2, dSeq, dEnum, dZip, dComp, wipeD, dCall, dCallKw, dSl, dPart, dNoPart, dYes, dPl, dIndexT, dIndexL, dIndexS, dTupF, gN, gT, gCs, gNl, vSh, vOw, vNil, vCons, vComp2, dDictComp, dNeg, dRep, dChain, spLen, spTuple, opIx20, opIx21, opIxG0, opIxG1, gd0, gdS, st0, stS, List.map_cons, List.map_nil, Bool.not_true, Bool.not_false, Bool.false_eq_true, ↓reduceIte]
  refine compD_list (r := fun spot => .lst (((U spot).map (posW way)).map D.int)) (fun spot hsp K k => ?_) ?_
  · have hm := w.mem.mp hsp
    try simp only [rowsD, dSeqS, dNext, dRet, dRetN, dIf, dDrop, dSet, dPar, dParN, setAll, dFor, dAppend, dExtend, dFreeze, dFreeze2, slotD, dAsg, dNever, dLend, dLendT, dVar, dC, dNil, dCons, dOp, dT, dAndT, dOrT, dNotT, dAndV, dOrV, dNotV, dIfE, dIs, dTup, dLst, dFr, dList, dLstR, dTupR, dRg1, dRg2, dSorted, dRange1, dRange2, dSeq, dEnum, dZip, dComp, wipeD, dCall, dCallKw, dSl, dPart, dNoPart, dYes, dPl, dIndexT, dIndexL, dIndexS, dTupF, gN, gT, gCs, gNl, vSh, vOw, vNil, vCons, vComp2, dDictComp, dNeg, dRep, dChain, spLen, spTuple, opIx20, opIx21, opIxG0, opIxG1, gd0, gdS, st0, stS, List.map_cons, List.map_nil, Bool.not_true, Bool.not_false, Bool.false_eq_true, ↓reduceIte]
    refine ix_iv (f := fun i => .lst ((U i).map D.int)) hm.1 hm.2 ?_
    try simp only [dSeqS, dNext, dRet, dRetN, dIf, dDrop, dSet, dPar, dParN, setAll, dFor, dAppend, dExtend, dFreeze, dFreeze2, slotD, dAsg, dNever, dLend, dLendT, dVar, dC, dNil, dCons, dOp, dT, dAndT, dOrT, dNotT, dAndV, dOrV, dNotV, dIfE, dIs, dTup, dLst, dFr, dList, dLstR, dTupR, dRg1, dRg2, dSorted, dRange1, dRange2, dSeq, dEnum, dZip, dComp, wipeD, dCall, dCallKw, dSl, dPart, dNoPart, dYes, dPl, dIndexT, dIndexL, dIndexS, dTupF, gN, gT, gCs, gNl, vSh, vOw, vNil, vCons, vComp2, dDictComp, dNeg, dRep, dChain, spLen, spTuple, opIx20, opIx21, opIxG0, opIxG1, gd0, gdS, st0, stS, List.map_cons, List.map_nil, Bool.not_true, Bool.not_false, Bool.false_eq_true, ↓reduceIte]
    refine compD_list (r := fun x => D.int (posW way x)) (fun x hx K q => ?_) ?_
    · try simp only [opIdx, dSeqS, dNext, dRet, dRetN, dIf, dDrop, dSet, dPar, dParN, setAll, dFor, dAppend, dExtend, dFreeze, dFreeze2, slotD, dAsg, dNever, dLend, dLendT, dVar, dC, dNil, dCons, dOp, dT, dAndT, dOrT, dNotT, dAndV, dOrV, dNotV, dIfE, dIs, dTup, dLst, dFr, dList, dLstR, dTupR, dRg1, dRg2, dSorted, dRange1, dRange2, dSeq, dEnum, dZip, dComp, wipeD, dCall, dCallKw, dSl, dPart, dNoPart, dYes, dPl, dIndexT, dIndexL, dIndexS, dTupF, gN, gT, gCs, gNl, vSh, vOw, vNil, vCons, vComp2, dDictComp, dNeg, dRep, dChain, spLen, spTuple, opIx20, opIx21, opIxG0, opIxG1, gd0, gdS, st0, stS, List.map_cons, List.map_nil, Bool.not_true, Bool.not_false, Bool.false_eq_true, ↓reduceIte]
      rw [ints?_map]
      exact ⟨w.mem.mpr (u.rg spot x hm.1 hm.2 hx), q⟩
    · rw [List.nil_append, show ((U spot).map fun x => D.int (posW way x)) = ((U spot).map (posW way)).map D.int by simp]
      exact k
  · rw [List.nil_append]
    have e : (way.map fun spot => D.lst (((U spot).map (posW way)).map D.int)) = (iv 0 n).map fun i => D.lst ((renU U way i).map D.int) := by
      have := congrArg (List.map fun spot => D.lst (((U spot).map (posW way)).map D.int)) w.map
      rw [List.map_map] at this
      exact this
    rw [e]
    exact h
def sp__law_drawn_under : DSp := fun ds Q => match ds with
  | [.well, .int m] => (0 ≤ m ∧ m ≤ 900) ∧ ∀ (n : Nat) U, (n : Int) ≤ m → UOrd n U → Q (rowsD n U)
  | _ => False
def t__law_drawn_under : TDS := (dSeqS (dPar 2 3 (vCons (vSh (dCall sp__law_dip (dCons (dVar 0) (dCons (dC (.int 4)) dNil)))) (vCons (vSh (dCall sp__law_dip (dCons (dVar 0) (dCons (dOp opAdd (dVar 1) (dC (.int 1))) dNil)))) vNil))) (dSeqS (dIf (dT (dOp opLt (dVar 2) (dC (.int 2)))) (dSeqS (dSet 4 (vSh (dCall sp__law_handed_on (dCons (dVar 0) (dCons (dVar 3) dNil))))) dNext) (dSeqS (dSet 4 (vSh (dCall sp__law_by_ends (dCons (dIfE (dT (dOp opEq (dVar 2) (dC (.int 2)))) (dCall sp__law_drawn_spans (dCons (dVar 0) (dCons (dVar 3) dNil))) (dCall sp__law_drawn_levels (dCons (dVar 0) (dCons (dVar 3) dNil)))) dNil)))) dNext)) (dSeqS (dRet (dCall sp__law_renamed (dCons (dVar 4) (dCons (dCall sp__law_mixed_up (dCons (dVar 0) (dCons (dVar 3) dNil))) dNil)))) dNext)))
theorem rd__law_drawn_under (ds : List D) (Q : D → Prop) (h : sp__law_drawn_under ds Q) : t__law_drawn_under (endR Q) (startN 5 ds) := by
  match ds, h with
  | [.well, .int m], ⟨⟨h0, h1⟩, h⟩ =>
    show t__law_drawn_under (endR Q) [.sh .well, .sh (.int m), .no, .no, .no]
    try simp only [t__law_drawn_under, endR, sp__law_dip, opAdd, dSeqS, dNext, dRet, dRetN, dIf, dDrop, dSet, dPar, dParN, setAll, dFor, dAppend, dExtend, dFreeze, dFreeze2, slotD, dAsg, dNever, dLend, dLendT, dVar, dC, dNil, dCons, dOp, dT, dAndT, dOrT, dNotT, dAndV, dOrV, dNotV, dIfE, dIs, dTup, dLst, dFr, dList, dLstR, dTupR, dRg1, dRg2, dSorted, dRange1, dRange2, dSeq, dEnum, dZip, dComp, wipeD, dCall, dCallKw, dSl, dPart, dNoPart, dYes, dPl, dIndexT, dIndexL, dIndexS, dTupF, gN, gT, gCs, gNl, vSh, vOw, vNil, vCons, vComp2, dDictComp, dNeg, dRep, dChain, spLen, spTuple, opIx20, opIx21, opIxG0, opIxG1, gd0, gdS, st0, stS, List.map_cons, List.map_nil, Bool.not_true, Bool.not_false, Bool.false_eq_true, ↓reduceIte]
    refine ⟨⟨by omega, by omega⟩, fun k k0 k1 => ⟨⟨by omega, by omega⟩, fun n n0 n1 => ?_⟩⟩
    obtain ⟨n, rfl⟩ : ∃ m : Nat, n = (m : Nat) := ⟨n.toNat, by omega⟩
    try simp only [dSeqS, dNext, dRet, dRetN, dIf, dDrop, dSet, dPar, dParN, setAll, dFor, dAppend, dExtend, dFreeze, dFreeze2, slotD, dAsg, dNever, dLend, dLendT, dVar, dC, dNil, dCons, dOp, dT, dAndT, dOrT, dNotT, dAndV, dOrV, dNotV, dIfE, dIs, dTup, dLst, dFr, dList, dLstR, dTupR, dRg1, dRg2, dSorted, dRange1, dRange2, dSeq, dEnum, dZip, dComp, wipeD, dCall, dCallKw, dSl, dPart, dNoPart, dYes, dPl, dIndexT, dIndexL, dIndexS, dTupF, gN, gT, gCs, gNl, vSh, vOw, vNil, vCons, vComp2, dDictComp, dNeg, dRep, dChain, spLen, spTuple, opIx20, opIx21, opIxG0, opIxG1, gd0, gdS, st0, stS, List.map_cons, List.map_nil, Bool.not_true, Bool.not_false, Bool.false_eq_true, ↓reduceIte]
    have fin : ∀ U, UOrd n U → sp__law_mixed_up [.well, .int n] fun d => sp__law_renamed [rowsD n U, d] Q := fun U u => by
      refine ⟨⟨by omega, by omega⟩, fun way w => ?_⟩
      rw [Int.toNat_natCast] at w
      exact ⟨n, U, way, rfl, u, w, h n _ (by omega) (renU_ord u w)⟩
    show (if decide (k < 2) = true then _ else _)
    split
    · refine ⟨⟨by omega, by omega⟩, fun U u => ?_⟩
      rw [Int.toNat_natCast] at u ⊢
      exact fin U u
    · refine eq_int ?_
      try simp only [dSeqS, dNext, dRet, dRetN, dIf, dDrop, dSet, dPar, dParN, setAll, dFor, dAppend, dExtend, dFreeze, dFreeze2, slotD, dAsg, dNever, dLend, dLendT, dVar, dC, dNil, dCons, dOp, dT, dAndT, dOrT, dNotT, dAndV, dOrV, dNotV, dIfE, dIs, dTup, dLst, dFr, dList, dLstR, dTupR, dRg1, dRg2, dSorted, dRange1, dRange2, dSeq, dEnum, dZip, dComp, wipeD, dCall, dCallKw, dSl, dPart, dNoPart, dYes, dPl, dIndexT, dIndexL, dIndexS, dTupF, gN, gT, gCs, gNl, vSh, vOw, vNil, vCons, vComp2, dDictComp, dNeg, dRep, dChain, spLen, spTuple, opIx20, opIx21, opIxG0, opIxG1, gd0, gdS, st0, stS, List.map_cons, List.map_nil, Bool.not_true, Bool.not_false, Bool.false_eq_true, ↓reduceIte]
      have fin2 : ∀ rows, RowsOk n rows → sp__law_by_ends [.tup (rows.map pairD)] fun d => sp__law_mixed_up [.well, .int n] fun d1 => sp__law_renamed [d, d1] Q := fun rows ok => ⟨n, rows, rfl, by omega, ok, fin _ (endsU_ord (by omega) ok)⟩
      split
      · refine ⟨⟨by omega, by omega⟩, fun rows ok => ?_⟩
        rw [Int.toNat_natCast] at ok
        exact fin2 rows ok
      · refine ⟨⟨by omega, by omega⟩, fun rows ok _ => ?_⟩
        rw [Int.toNat_natCast] at ok
        exact fin2 rows ok
end DL
namespace DL
open PySem PySem.Spec PyProof.Rows L2
def t_law : TDS := (dSeqS (dFor (dRange1 (dCons (dC (.int 3)) dNil)) (gN 2) (dSeqS (dSet 3 (vSh (dCall sp__law_drawn_under (dCons (dVar 1) (dCons (dC (.int 20)) dNil))))) (dSeqS (dParN [4, 5] (vCons (vSh (dCall spLen (dCons (dVar 3) dNil))) (vCons (vSh (dCall sp__law_ranked (dCons (dVar 3) dNil))) vNil))) (dSeqS (dSet 6 (vSh (dFr (dComp (dRange1 (dCons (dVar 4) dNil)) (gN 7) dYes (dFr (dComp (dRange1 (dCons (dVar 4) dNil)) (gN 8) (dT (dOp (opInN false) (dVar 7) (dOp opIx (dVar 3) (dVar 8)))) (dVar 8) [8])) [7])))) (dSeqS (dSet 9 (vOw (dLst dNil))) (dSeqS (dFor (dRange1 (dCons (dVar 4) dNil)) (gN 10) (dSeqS (dExtend 9 (dFr (dComp (dRange2 (dCons (dOp opAdd (dVar 10) (dC (.int 1))) (dCons (dVar 4) dNil))) (gN 11) (dAndT (dT (dOp (opInN true) (dVar 10) (dOp opIx (dVar 3) (dVar 11)))) (dT (dOp (opInN true) (dVar 11) (dOp opIx (dVar 3) (dVar 10))))) (dTup (dCons (dVar 10) (dCons (dVar 11) dNil))) [11]))) dNext)) (dFreeze 9 (dSeqS (dSet 12 (vSh (dCall sp__law_ranked (dCons (dVar 6) dNil)))) (dSeqS (dFor (dRange1 (dCons (dIfE (dT (dOp opGt (dVar 4) (dC (.int 0)))) (dC (.int 5)) (dC (.int 0))) dNil)) (gN 13) (dSeqS (dSet 14 (vSh (dCall sp__law_dip (dCons (dVar 1) (dCons (dVar 4) dNil))))) (dSeqS (dSet 15 (vSh (dTup (dCons (dCall spTuple (dCons (dFr (dSorted (dCons (dOp opIx (dVar 3) (dVar 14)) dNil))) dNil)) (dCons (dCall spTuple (dCons (dOp opIx (dVar 6) (dVar 14)) dNil)) dNil))))) (dSeqS (dIf (dNotT (dT (dCall sp__law_like (dCons (dTup (dCons (dCall sp_below (dCons (dVar 5) (dCons (dVar 14) dNil))) (dCons (dCallKw sp_above gId (dCons (dVar 5) (dCons (dVar 14) dNil))) dNil))) (dCons (dVar 15) dNil))))) (dSeqS (dRet (dC (.bl false))) dNext) dNext) (dSeqS (dIf (dNotT (dT (dCall sp__law_like (dCons (dTup (dCons (dCall sp_above (dCons (dVar 12) (dCons (dVar 14) dNil))) (dCons (dCallKw sp_below g2 (dCons (dVar 14) (dCons (dVar 12) dNil))) dNil))) (dCons (dVar 15) dNil))))) (dSeqS (dRet (dC (.bl false))) dNext) dNext) dNext))))) (dSeqS (dIf (dNotT (dT (dCall sp__law_like (dCons (dTup (dCons (dCall sp_reversed_order (dCons (dVar 5) dNil)) (dCons (dCallKw sp_reversed_order g1 (dCons (dVar 12) dNil)) dNil))) (dCons (dTup (dCons (dVar 12) (dCons (dVar 5) dNil))) dNil))))) (dSeqS (dRet (dC (.bl false))) dNext) dNext) (dSeqS (dSet 16 (vSh (dTup (dCons (dVar 4) (dCons (dCall spTuple (dCons (dVar 9) dNil)) dNil))))) (dSeqS (dIf (dNotT (dT (dCall sp__law_like (dCons (dTup (dCons (dCall sp_loose_graph (dCons (dVar 5) dNil)) (dCons (dCallKw sp_loose_graph g1 (dCons (dVar 12) dNil)) (dCons (dCall sp_is_order (dCons (dVar 5) dNil)) (dCons (dCallKw sp_is_order g1 (dCons (dVar 12) dNil)) dNil))))) (dCons (dTup (dCons (dVar 16) (dCons (dVar 16) (dCons (dC (.bl true)) (dCons (dC (.bl true)) dNil))))) dNil))))) (dSeqS (dRet (dC (.bl false))) dNext) dNext) dNext)))))))))))) (dSeqS (dRet (dC (.bl true))) dNext))
theorem sorted_undr {n : Nat} {U : Int → List Int} (u : URows n U) {i : Int} (h0 : 0 ≤ i) (h1 : i < n) : (undr n (rankP n U) i).Perm (U i) := by
  rw [List.perm_ext_iff_of_nodup (show (undr n (rankP n U) i).Nodup from lt_nodup ((iv_lt 0 n).filter _)) (u.nd i h0 h1)]
  intro x
  unfold undr
  rw [List.mem_filter, mem_iv]
  constructor
  · rintro ⟨_, q⟩
    exact (mem_rankP u h0 h1).mp (of_decide_eq_true q)
  · intro q
    have := u.rg i x h0 h1 q
    exact ⟨by omega, decide_eq_true ((mem_rankP u h0 h1).mpr q)⟩
def overU (n : Nat) (U : Int → List Int) (l : Int) : List Int := (iv 0 n).filter fun h => decide (l ∈ U h)
theorem overU_ovr {n : Nat} {U : Int → List Int} (u : URows n U) (l : Int) : overU n U l = ovr n (rankP n U) l := by
  unfold overU ovr
  refine List.filter_congr fun h hh => ?_
  rw [mem_iv] at hh
  unfold rel
  rw [Bool.eq_iff_iff, decide_eq_true_eq, decide_eq_true_eq, mem_rankP u (by omega) (by omega)]
theorem overU_rows {n : Nat} {U : Int → List Int} (hn : n ≤ 1000) : URows n (overU n U) where
  small := hn
  nd := fun i _ _ => lt_nodup ((iv_lt 0 n).filter _)
  rg := fun i x _ _ hx => by
    have := mem_iv.mp (List.mem_filter.mp hx).1
    omega
theorem rank_over {n : Nat} {U : Int → List Int} (u : UOrd n U) : rankP n (overU n U) = revP n (rankP n U) := by
  refine sorted_ext lex_asym (pairsBy_asc n _) (pairsBy_asc n _) fun p => ?_
  obtain ⟨i, j⟩ := p
  constructor
  · intro m
    obtain ⟨h1, h2, h3, h4, h5⟩ := mem_rankP' m
    rw [mem_revP u.ook.toSOk, mem_rankP u.toURows h2 h3]
    exact of_decide_eq_true (List.mem_filter.mp h1).2
  · intro m
    have m2 := (mem_revP u.ook.toSOk).mp m
    obtain ⟨h1, h2, h3, h4, h5⟩ := mem_rankP' m2
    refine (mem_rankP (overU_rows u.small) h2 h3).mpr ?_
    exact List.mem_filter.mpr ⟨mem_iv.mpr (by omega), decide_eq_true h1⟩
theorem ovr_rev {n : Nat} {ps : List (Int × Int)} (ok : SOk n ps) (i : Int) : ovr n (revP n ps) i = undr n ps i := by
  unfold ovr undr rel
  refine List.filter_congr fun k _ => ?_
  rw [Bool.eq_iff_iff, decide_eq_true_eq, decide_eq_true_eq, mem_revP ok]
theorem undr_rev {n : Nat} {ps : List (Int × Int)} (ok : SOk n ps) (i : Int) : undr n (revP n ps) i = ovr n ps i := by
  unfold ovr undr rel
  refine List.filter_congr fun k _ => ?_
  rw [Bool.eq_iff_iff, decide_eq_true_eq, decide_eq_true_eq, mem_revP ok]
theorem rev_rev {n : Nat} {ps : List (Int × Int)} (ok : OOk n ps) : revP n (revP n ps) = ps := by
  refine ok.toSOk.by_rel fun i j _ _ _ _ => ?_
  unfold rel
  rw [Bool.eq_iff_iff, decide_eq_true_eq, decide_eq_true_eq, mem_revP ok.toSOk]
theorem loose_rev {n : Nat} {ps : List (Int × Int)} (ok : OOk n ps) : loose n (revP n ps) = loose n ps := by
  refine edgesBy_congr ok.small fun i j _ _ _ => ?_
  have e : ∀ a b : Int, rel (revP n ps) a b = rel ps b a := fun a b => by
    unfold rel
    rw [Bool.eq_iff_iff, decide_eq_true_eq, decide_eq_true_eq, mem_revP ok.toSOk]
  rw [e, e, Bool.and_comm]
theorem likeD_filter (k : Nat) {n : Nat} (hn : n ≤ 1000) (p : Int → Bool) : likeD (k + 2) (.tup (((iv 0 n).filter p).map D.int)) = true :=
  likeD_ints k _ (by have := List.length_filter_le p (iv 0 n); rw [iv_length] at this; omega)
theorem likeD_prs (k : Nat) {n : Nat} {ps : List (Int × Int)} (ok : SOk n ps) : likeD (k + 4) (gD n ps) = true := by
  have hl : ps.length ≤ 1000000 := by
    have h : ∀ l : List Int, (l.flatMap fun i => (iv 0 n).map fun j => (i, j)).length = l.length * n := fun l => by
      induction l with
      | nil => simp
      | cons a l ih => rw [List.flatMap_cons, List.length_append, ih, List.length_map, iv_length, List.length_cons, Nat.succ_mul]; omega
    have := nodup_len (l := ps) (m := (iv 0 n).flatMap fun i => (iv 0 n).map fun j => (i, j)) (lex_nodup ok.asc) fun p hp => by
      have := ok.ok p hp
      exact List.mem_flatMap.mpr ⟨p.1, mem_iv.mpr (by omega), List.mem_map.mpr ⟨p.2, mem_iv.mpr (by omega), rfl⟩⟩
    rw [h, iv_length] at this
    have := Nat.mul_le_mul ok.small ok.small
    omega
  have := likeD_pairs k ps (by omega)
  show (true && (true && (likeD (k + 3) (.tup (ps.map pairD)) && true))) = true
  rw [this]; rfl
theorem len_rows {n : Nat} {U : Int → List Int} {Q : D → Prop} : spLen [rowsD n U] Q = Q (.int n) := by
  show Q (.int (((iv 0 n).map fun i => D.lst ((U i).map D.int)).length : Nat)) = _
  rw [List.length_map, iv_length]
theorem rd_law (Q : D → Prop) (K : DEnv → Prop) (q : Q (.bl true)) : t_law { nx := K, rt := Q } [.no, .sh .well, .no, .no, .no, .no, .no, .no, .no, .no, .no, .no, .no, .no, .no, .no, .no] := by
  try simp only [t_law, dSeqS, dNext, dRet, dRetN, dIf, dDrop, dSet, dPar, dParN, setAll, dFor, dAppend, dExtend, dFreeze, dFreeze2, slotD, dAsg, dNever, dLend, dLendT, dVar, dC, dNil, dCons, dOp, dT, dAndT, dOrT, dNotT, dAndV, dOrV, dNotV, dIfE, dIs, dTup, dLst, dFr, dList, dLstR, dTupR, dRg1, dRg2, dSorted, dRange1, dRange2, dSeq, dEnum, dZip, dComp, wipeD, dCall, dCallKw, dSl, dPart, dNoPart, dYes, dPl, dIndexT, dIndexL, dIndexS, dTupF, gN, gT, gCs, gNl, vSh, vOw, vNil, vCons, vComp2, dDictComp, dNeg, dRep, dChain, spTuple, opIx20, opIx21, opIxG0, opIxG1, gd0, gdS, st0, stS, List.map_cons, List.map_nil, spLen, Bool.not_true, Bool.not_false, Bool.false_eq_true, ↓reduceIte]
  refine ⟨⟨by omega, by omega, by omega, by omega⟩, ?_⟩
  refine loopD_iv (n := 3) (fun _ ρ => ∃ l : List SV, l.length = 15 ∧ ρ = .no :: .sh .well :: l) ?_ ?_ ⟨_, rfl, rfl⟩
  · rintro done turn rest _ ρ ⟨l, hl, rfl⟩ N hN
    match l, hl with
    | [s2, s3, s4, s5, s6, s7, s8, s9, s10, s11, s12, s13, s14, s15, s16], _ =>
      try simp only [sp__law_drawn_under, dSeqS, dNext, dRet, dRetN, dIf, dDrop, dSet, dPar, dParN, setAll, dFor, dAppend, dExtend, dFreeze, dFreeze2, slotD, dAsg, dNever, dLend, dLendT, dVar, dC, dNil, dCons, dOp, dT, dAndT, dOrT, dNotT, dAndV, dOrV, dNotV, dIfE, dIs, dTup, dLst, dFr, dList, dLstR, dTupR, dRg1, dRg2, dSorted, dRange1, dRange2, dSeq, dEnum, dZip, dComp, wipeD, dCall, dCallKw, dSl, dPart, dNoPart, dYes, dPl, dIndexT, dIndexL, dIndexS, dTupF, gN, gT, gCs, gNl, vSh, vOw, vNil, vCons, vComp2, dDictComp, dNeg, dRep, dChain, spTuple, opIx20, opIx21, opIxG0, opIxG1, gd0, gdS, st0, stS, List.map_cons, List.map_nil, Bool.not_true, Bool.not_false, Bool.false_eq_true, ↓reduceIte]
      refine ⟨⟨by omega, by omega⟩, fun n U hn u => ?_⟩
      have hs : n ≤ 1000 := by omega
      have okP := u.ook
      rw [len_rows]
      try simp only [sp__law_ranked, dSeqS, dNext, dRet, dRetN, dIf, dDrop, dSet, dPar, dParN, setAll, dFor, dAppend, dExtend, dFreeze, dFreeze2, slotD, dAsg, dNever, dLend, dLendT, dVar, dC, dNil, dCons, dOp, dT, dAndT, dOrT, dNotT, dAndV, dOrV, dNotV, dIfE, dIs, dTup, dLst, dFr, dList, dLstR, dTupR, dRg1, dRg2, dSorted, dRange1, dRange2, dSeq, dEnum, dZip, dComp, wipeD, dCall, dCallKw, dSl, dPart, dNoPart, dYes, dPl, dIndexT, dIndexL, dIndexS, dTupF, gN, gT, gCs, gNl, vSh, vOw, vNil, vCons, vComp2, dDictComp, dNeg, dRep, dChain, spTuple, opIx20, opIx21, opIxG0, opIxG1, gd0, gdS, st0, stS, List.map_cons, List.map_nil, spLen, Bool.not_true, Bool.not_false, Bool.false_eq_true, ↓reduceIte]

      refine ⟨n, U, rfl, u.toURows, ⟨rfl, rfl⟩, rgb0 hs, ?_⟩
      rw [Int.toNat_natCast, rng_iv]
      refine compD_list (r := fun l => .lst ((overU n U l).map D.int)) (fun l hl K k => ?_) ?_
      · rw [mem_iv] at hl
        try simp only [rowsD, dSeqS, dNext, dRet, dRetN, dIf, dDrop, dSet, dPar, dParN, setAll, dFor, dAppend, dExtend, dFreeze, dFreeze2, slotD, dAsg, dNever, dLend, dLendT, dVar, dC, dNil, dCons, dOp, dT, dAndT, dOrT, dNotT, dAndV, dOrV, dNotV, dIfE, dIs, dTup, dLst, dFr, dList, dLstR, dTupR, dRg1, dRg2, dSorted, dRange1, dRange2, dSeq, dEnum, dZip, dComp, wipeD, dCall, dCallKw, dSl, dPart, dNoPart, dYes, dPl, dIndexT, dIndexL, dIndexS, dTupF, gN, gT, gCs, gNl, vSh, vOw, vNil, vCons, vComp2, dDictComp, dNeg, dRep, dChain, spTuple, opIx20, opIx21, opIxG0, opIxG1, gd0, gdS, st0, stS, List.map_cons, List.map_nil, spLen, Bool.not_true, Bool.not_false, Bool.false_eq_true, ↓reduceIte]
        refine ⟨rgb0 hs, ?_⟩
        rw [Int.toNat_natCast, rng_iv]
        refine compD_filter (r := D.int) (p := fun h => decide (l ∈ U h)) (fun h hh K L q => ?_) k
        rw [mem_iv] at hh
        try simp only [dSeqS, dNext, dRet, dRetN, dIf, dDrop, dSet, dPar, dParN, setAll, dFor, dAppend, dExtend, dFreeze, dFreeze2, slotD, dAsg, dNever, dLend, dLendT, dVar, dC, dNil, dCons, dOp, dT, dAndT, dOrT, dNotT, dAndV, dOrV, dNotV, dIfE, dIs, dTup, dLst, dFr, dList, dLstR, dTupR, dRg1, dRg2, dSorted, dRange1, dRange2, dSeq, dEnum, dZip, dComp, wipeD, dCall, dCallKw, dSl, dPart, dNoPart, dYes, dPl, dIndexT, dIndexL, dIndexS, dTupF, gN, gT, gCs, gNl, vSh, vOw, vNil, vCons, vComp2, dDictComp, dNeg, dRep, dChain, spTuple, opIx20, opIx21, opIxG0, opIxG1, gd0, gdS, st0, stS, List.map_cons, List.map_nil, spLen, Bool.not_true, Bool.not_false, Bool.false_eq_true, ↓reduceIte]
        exact ix_iv (f := fun i => .lst ((U i).map D.int)) (by omega) (by omega) (in_ints q)
      rw [List.nil_append]
      refine ⟨Nat.zero_le _, rgb0 hs, ?_⟩
      rw [← rng_iv]
      have eO : D.lst ((iv 0 n).map fun l => D.lst ((overU n U l).map D.int)) = rowsD n (overU n U) := rfl
      rw [eO]
      have e1 : ∀ a b : Int, 0 ≤ b → b < n → decide (a ∈ U b) = rel (rankP n U) a b := fun a b b0 b1 => by
        unfold rel
        rw [Bool.eq_iff_iff, decide_eq_true_eq, decide_eq_true_eq, mem_rankP u.toURows b0 b1]
      refine loopD_iv (fun dn ρ => ∃ (s10 : SV), ρ = [.no, .sh .well, .sh (.int turn), .sh (rowsD n U), .sh (.int n), .sh (gD n (rankP n U)), .sh (rowsD n (overU n U)), s7, s8, .ow ((dn.flatMap (rowBy n fun i j => !rel (rankP n U) i j && !rel (rankP n U) j i)).map pairD), s10, s11, s12, s13, s14, s15, s16]) ?_ ?_ ⟨_, rfl⟩
      · rintro dn i rs e ρ ⟨s10, rfl⟩ N hN
        obtain ⟨g1, g2, g3, g4⟩ := iv_split e
        try simp only [opAdd, dSeqS, dNext, dRet, dRetN, dIf, dDrop, dSet, dPar, dParN, setAll, dFor, dAppend, dExtend, dFreeze, dFreeze2, slotD, dAsg, dNever, dLend, dLendT, dVar, dC, dNil, dCons, dOp, dT, dAndT, dOrT, dNotT, dAndV, dOrV, dNotV, dIfE, dIs, dTup, dLst, dFr, dList, dLstR, dTupR, dRg1, dRg2, dSorted, dRange1, dRange2, dSeq, dEnum, dZip, dComp, wipeD, dCall, dCallKw, dSl, dPart, dNoPart, dYes, dPl, dIndexT, dIndexL, dIndexS, dTupF, gN, gT, gCs, gNl, vSh, vOw, vNil, vCons, vComp2, dDictComp, dNeg, dRep, dChain, spTuple, opIx20, opIx21, opIxG0, opIxG1, gd0, gdS, st0, stS, List.map_cons, List.map_nil, spLen, Bool.not_true, Bool.not_false, Bool.false_eq_true, ↓reduceIte]
        refine ⟨rgb2 (by omega) (by omega) (by omega), ?_⟩
        rw [rng_iv]
        refine compD_filter (r := fun j => pairD (i, j)) (p := fun j => !rel (rankP n U) i j && !rel (rankP n U) j i) (fun j hj K L k => ?_) ?_
        · rw [mem_iv] at hj
          try simp only [rowsD, dSeqS, dNext, dRet, dRetN, dIf, dDrop, dSet, dPar, dParN, setAll, dFor, dAppend, dExtend, dFreeze, dFreeze2, slotD, dAsg, dNever, dLend, dLendT, dVar, dC, dNil, dCons, dOp, dT, dAndT, dOrT, dNotT, dAndV, dOrV, dNotV, dIfE, dIs, dTup, dLst, dFr, dList, dLstR, dTupR, dRg1, dRg2, dSorted, dRange1, dRange2, dSeq, dEnum, dZip, dComp, wipeD, dCall, dCallKw, dSl, dPart, dNoPart, dYes, dPl, dIndexT, dIndexL, dIndexS, dTupF, gN, gT, gCs, gNl, vSh, vOw, vNil, vCons, vComp2, dDictComp, dNeg, dRep, dChain, spTuple, opIx20, opIx21, opIxG0, opIxG1, gd0, gdS, st0, stS, List.map_cons, List.map_nil, spLen, Bool.not_true, Bool.not_false, Bool.false_eq_true, ↓reduceIte]
          refine ix_iv (f := fun i => .lst ((U i).map D.int)) (by omega) (by omega) (notin_ints ?_)
          rw [e1 i j (by omega) (by omega)]
          by_cases q : rel (rankP n U) i j = true
          · rw [q] at k ⊢; exact k
          · rw [Bool.eq_false_iff.mpr q] at k ⊢
            refine ix_iv (f := fun i => .lst ((U i).map D.int)) (by omega) (by omega) (notin_ints ?_)
            rw [e1 j i (by omega) (by omega)]
            by_cases q2 : rel (rankP n U) j i = true
            · rw [q2] at k ⊢; exact k
            · rw [Bool.eq_false_iff.mpr q2] at k ⊢
              exact ⟨by simp; decide, k⟩
        · rw [List.nil_append]
          have hl := flat_len2 (n := n) (A := fun i j => !rel (rankP n U) i j && !rel (rankP n U) j i) (l := dn) fun x hx => (g3 x hx).1
          have hr := rowBy_len n (fun i j => !rel (rankP n U) i j && !rel (rankP n U) j i) i (by omega)
          have hr2 : ((iv (i + 1) ((n : Int) - (i + 1)).toNat).filter fun j => !rel (rankP n U) i j && !rel (rankP n U) j i).length ≤ n := by unfold rowBy at hr; rw [List.length_map] at hr; exact hr
          have hm : dn.length * n ≤ 25 * 25 := Nat.mul_le_mul (by omega) (by omega)
          refine ⟨?_, hN _ ⟨.sh (.int i), ?_⟩⟩
          · rw [List.length_map, List.length_map, sizeLine_eq]; omega
          · congr 10
            rw [List.flatMap_append, List.map_append]
            congr 1
            simp [rowBy]
      · rintro ρ ⟨s10, rfl⟩
        have eL : (iv 0 n).flatMap (rowBy n fun i j => !rel (rankP n U) i j && !rel (rankP n U) j i) = loose n (rankP n U) := rfl
        rw [eL]
        have okL : GOk n (loose n (rankP n U)) := edgesBy_ok hs _
        try simp only [sp__law_ranked, dSeqS, dNext, dRet, dRetN, dIf, dDrop, dSet, dPar, dParN, setAll, dFor, dAppend, dExtend, dFreeze, dFreeze2, slotD, dAsg, dNever, dLend, dLendT, dVar, dC, dNil, dCons, dOp, dT, dAndT, dOrT, dNotT, dAndV, dOrV, dNotV, dIfE, dIs, dTup, dLst, dFr, dList, dLstR, dTupR, dRg1, dRg2, dSorted, dRange1, dRange2, dSeq, dEnum, dZip, dComp, wipeD, dCall, dCallKw, dSl, dPart, dNoPart, dYes, dPl, dIndexT, dIndexL, dIndexS, dTupF, gN, gT, gCs, gNl, vSh, vOw, vNil, vCons, vComp2, dDictComp, dNeg, dRep, dChain, spTuple, opIx20, opIx21, opIxG0, opIxG1, gd0, gdS, st0, stS, List.map_cons, List.map_nil, spLen, Bool.not_true, Bool.not_false, Bool.false_eq_true, ↓reduceIte]
        refine ⟨n, overU n U, rfl, overU_rows hs, ?_⟩
        rw [rank_over u]
        generalize hP : rankP n U = P at *
        have okR := okP.rev
        try simp only [opGt, opI, dSeqS, dNext, dRet, dRetN, dIf, dDrop, dSet, dPar, dParN, setAll, dFor, dAppend, dExtend, dFreeze, dFreeze2, slotD, dAsg, dNever, dLend, dLendT, dVar, dC, dNil, dCons, dOp, dT, dAndT, dOrT, dNotT, dAndV, dOrV, dNotV, dIfE, dIs, dTup, dLst, dFr, dList, dLstR, dTupR, dRg1, dRg2, dSorted, dRange1, dRange2, dSeq, dEnum, dZip, dComp, wipeD, dCall, dCallKw, dSl, dPart, dNoPart, dYes, dPl, dIndexT, dIndexL, dIndexS, dTupF, gN, gT, gCs, gNl, vSh, vOw, vNil, vCons, vComp2, dDictComp, dNeg, dRep, dChain, spTuple, opIx20, opIx21, opIxG0, opIxG1, gd0, gdS, st0, stS, List.map_cons, List.map_nil, spLen, Bool.not_true, Bool.not_false, Bool.false_eq_true, ↓reduceIte]
        refine ite_range (a := 5) (by omega) fun m hm => ?_
        refine loopD_iv (fun _ ρ => ∃ (s13 s14 s15 : SV), ρ = [.no, .sh .well, .sh (.int turn), .sh (rowsD n U), .sh (.int n), .sh (gD n P), .sh (rowsD n (overU n U)), s7, s8, .sh (.lst ((loose n P).map pairD)), s10, s11, .sh (gD n (revP n P)), s13, s14, s15, s16]) ?_ ?_ ⟨_, _, _, rfl⟩
        · rintro dn i rs e ρ ⟨s13, s14, s15, rfl⟩ N hN
          obtain ⟨g1, g2, g3, g4⟩ := iv_split e
          have hn0 : 0 < (n : Int) := by omega
          try simp only [sp__law_dip, dSeqS, dNext, dRet, dRetN, dIf, dDrop, dSet, dPar, dParN, setAll, dFor, dAppend, dExtend, dFreeze, dFreeze2, slotD, dAsg, dNever, dLend, dLendT, dVar, dC, dNil, dCons, dOp, dT, dAndT, dOrT, dNotT, dAndV, dOrV, dNotV, dIfE, dIs, dTup, dLst, dFr, dList, dLstR, dTupR, dRg1, dRg2, dSorted, dRange1, dRange2, dSeq, dEnum, dZip, dComp, wipeD, dCall, dCallKw, dSl, dPart, dNoPart, dYes, dPl, dIndexT, dIndexL, dIndexS, dTupF, gN, gT, gCs, gNl, vSh, vOw, vNil, vCons, vComp2, dDictComp, dNeg, dRep, dChain, spTuple, opIx20, opIx21, opIxG0, opIxG1, gd0, gdS, st0, stS, List.map_cons, List.map_nil, spLen, Bool.not_true, Bool.not_false, Bool.false_eq_true, ↓reduceIte]
          refine ⟨⟨by omega, by omega⟩, fun v v0 v1 => ?_⟩
          try simp only [rowsD, dSeqS, dNext, dRet, dRetN, dIf, dDrop, dSet, dPar, dParN, setAll, dFor, dAppend, dExtend, dFreeze, dFreeze2, slotD, dAsg, dNever, dLend, dLendT, dVar, dC, dNil, dCons, dOp, dT, dAndT, dOrT, dNotT, dAndV, dOrV, dNotV, dIfE, dIs, dTup, dLst, dFr, dList, dLstR, dTupR, dRg1, dRg2, dSorted, dRange1, dRange2, dSeq, dEnum, dZip, dComp, wipeD, dCall, dCallKw, dSl, dPart, dNoPart, dYes, dPl, dIndexT, dIndexL, dIndexS, dTupF, gN, gT, gCs, gNl, vSh, vOw, vNil, vCons, vComp2, dDictComp, dNeg, dRep, dChain, spTuple, opIx20, opIx21, opIxG0, opIxG1, gd0, gdS, st0, stS, List.map_cons, List.map_nil, spLen, Bool.not_true, Bool.not_false, Bool.false_eq_true, ↓reduceIte]
          refine ix_iv (f := fun i => D.lst ((U i).map D.int)) v0 v1 ?_
          have hsu := sorted_undr u.toURows v0 v1
          rw [hP] at hsu
          refine sorted_ints hsu (lt_le ((iv_lt 0 n).filter _)) ?_
          try simp only [dSeqS, dNext, dRet, dRetN, dIf, dDrop, dSet, dPar, dParN, setAll, dFor, dAppend, dExtend, dFreeze, dFreeze2, slotD, dAsg, dNever, dLend, dLendT, dVar, dC, dNil, dCons, dOp, dT, dAndT, dOrT, dNotT, dAndV, dOrV, dNotV, dIfE, dIs, dTup, dLst, dFr, dList, dLstR, dTupR, dRg1, dRg2, dSorted, dRange1, dRange2, dSeq, dEnum, dZip, dComp, wipeD, dCall, dCallKw, dSl, dPart, dNoPart, dYes, dPl, dIndexT, dIndexL, dIndexS, dTupF, gN, gT, gCs, gNl, vSh, vOw, vNil, vCons, vComp2, dDictComp, dNeg, dRep, dChain, spTuple, opIx20, opIx21, opIxG0, opIxG1, gd0, gdS, st0, stS, List.map_cons, List.map_nil, spLen, Bool.not_true, Bool.not_false, Bool.false_eq_true, ↓reduceIte]
          refine ix_iv (f := fun i => D.lst ((overU n U i).map D.int)) v0 v1 ?_
          have eo : overU n U v = ovr n P v := by rw [overU_ovr u.toURows, hP]
          try simp only [eo, dSeqS, dNext, dRet, dRetN, dIf, dDrop, dSet, dPar, dParN, setAll, dFor, dAppend, dExtend, dFreeze, dFreeze2, slotD, dAsg, dNever, dLend, dLendT, dVar, dC, dNil, dCons, dOp, dT, dAndT, dOrT, dNotT, dAndV, dOrV, dNotV, dIfE, dIs, dTup, dLst, dFr, dList, dLstR, dTupR, dRg1, dRg2, dSorted, dRange1, dRange2, dSeq, dEnum, dZip, dComp, wipeD, dCall, dCallKw, dSl, dPart, dNoPart, dYes, dPl, dIndexT, dIndexL, dIndexS, dTupF, gN, gT, gCs, gNl, vSh, vOw, vNil, vCons, vComp2, dDictComp, dNeg, dRep, dChain, spTuple, opIx20, opIx21, opIxG0, opIxG1, gd0, gdS, st0, stS, List.map_cons, List.map_nil, spLen, Bool.not_true, Bool.not_false, Bool.false_eq_true, ↓reduceIte]
          refine ⟨by simp; decide, ?_⟩
          try simp only [sp_below, sp_above, gId, g2, dSeqS, dNext, dRet, dRetN, dIf, dDrop, dSet, dPar, dParN, setAll, dFor, dAppend, dExtend, dFreeze, dFreeze2, slotD, dAsg, dNever, dLend, dLendT, dVar, dC, dNil, dCons, dOp, dT, dAndT, dOrT, dNotT, dAndV, dOrV, dNotV, dIfE, dIs, dTup, dLst, dFr, dList, dLstR, dTupR, dRg1, dRg2, dSorted, dRange1, dRange2, dSeq, dEnum, dZip, dComp, wipeD, dCall, dCallKw, dSl, dPart, dNoPart, dYes, dPl, dIndexT, dIndexL, dIndexS, dTupF, gN, gT, gCs, gNl, vSh, vOw, vNil, vCons, vComp2, dDictComp, dNeg, dRep, dChain, spTuple, opIx20, opIx21, opIxG0, opIxG1, gd0, gdS, st0, stS, List.map_cons, List.map_nil, spLen, Bool.not_true, Bool.not_false, Bool.false_eq_true, ↓reduceIte]
          have hl1 := likeD_filter 5 hs fun k => rel P k v
          have hl2 := likeD_filter 5 hs fun k => rel P v k
          refine ⟨n, P, v, rfl, okP, v0, v1, n, P, v, rfl, okP, v0, v1, by simp; decide, ?_⟩
          refine like_at rfl (likeD_two (k := 7) hl1 hl2) ?_
          try simp only [dSeqS, dNext, dRet, dRetN, dIf, dDrop, dSet, dPar, dParN, setAll, dFor, dAppend, dExtend, dFreeze, dFreeze2, slotD, dAsg, dNever, dLend, dLendT, dVar, dC, dNil, dCons, dOp, dT, dAndT, dOrT, dNotT, dAndV, dOrV, dNotV, dIfE, dIs, dTup, dLst, dFr, dList, dLstR, dTupR, dRg1, dRg2, dSorted, dRange1, dRange2, dSeq, dEnum, dZip, dComp, wipeD, dCall, dCallKw, dSl, dPart, dNoPart, dYes, dPl, dIndexT, dIndexL, dIndexS, dTupF, gN, gT, gCs, gNl, vSh, vOw, vNil, vCons, vComp2, dDictComp, dNeg, dRep, dChain, spTuple, opIx20, opIx21, opIxG0, opIxG1, gd0, gdS, st0, stS, List.map_cons, List.map_nil, spLen, Bool.not_true, Bool.not_false, Bool.false_eq_true, ↓reduceIte]
          refine ⟨n, revP n P, v, rfl, okR, v0, v1, n, revP n P, v, rfl, okR, v0, v1, by simp; decide, ?_⟩
          rw [ovr_rev okP.toSOk, undr_rev okP.toSOk]
          refine like_at rfl (likeD_two (k := 7) hl1 hl2) ?_
          try simp only [dSeqS, dNext, dRet, dRetN, dIf, dDrop, dSet, dPar, dParN, setAll, dFor, dAppend, dExtend, dFreeze, dFreeze2, slotD, dAsg, dNever, dLend, dLendT, dVar, dC, dNil, dCons, dOp, dT, dAndT, dOrT, dNotT, dAndV, dOrV, dNotV, dIfE, dIs, dTup, dLst, dFr, dList, dLstR, dTupR, dRg1, dRg2, dSorted, dRange1, dRange2, dSeq, dEnum, dZip, dComp, wipeD, dCall, dCallKw, dSl, dPart, dNoPart, dYes, dPl, dIndexT, dIndexL, dIndexS, dTupF, gN, gT, gCs, gNl, vSh, vOw, vNil, vCons, vComp2, dDictComp, dNeg, dRep, dChain, spTuple, opIx20, opIx21, opIxG0, opIxG1, gd0, gdS, st0, stS, List.map_cons, List.map_nil, spLen, Bool.not_true, Bool.not_false, Bool.false_eq_true, ↓reduceIte]
          exact hN _ ⟨_, _, _, rfl⟩
        · rintro ρ ⟨s13, s14, s15, rfl⟩
          try simp only [sp_reversed_order, g1, dSeqS, dNext, dRet, dRetN, dIf, dDrop, dSet, dPar, dParN, setAll, dFor, dAppend, dExtend, dFreeze, dFreeze2, slotD, dAsg, dNever, dLend, dLendT, dVar, dC, dNil, dCons, dOp, dT, dAndT, dOrT, dNotT, dAndV, dOrV, dNotV, dIfE, dIs, dTup, dLst, dFr, dList, dLstR, dTupR, dRg1, dRg2, dSorted, dRange1, dRange2, dSeq, dEnum, dZip, dComp, wipeD, dCall, dCallKw, dSl, dPart, dNoPart, dYes, dPl, dIndexT, dIndexL, dIndexS, dTupF, gN, gT, gCs, gNl, vSh, vOw, vNil, vCons, vComp2, dDictComp, dNeg, dRep, dChain, spTuple, opIx20, opIx21, opIxG0, opIxG1, gd0, gdS, st0, stS, List.map_cons, List.map_nil, spLen, Bool.not_true, Bool.not_false, Bool.false_eq_true, ↓reduceIte]
          refine ⟨n, P, rfl, okP, n, revP n P, rfl, okR, by simp; decide, by simp; decide, ?_⟩
          rw [rev_rev okP]
          refine like_at rfl (likeD_two (k := 7) (likeD_prs 3 okR.toSOk) (likeD_prs 3 okP.toSOk)) ?_
          try simp only [sp_loose_graph, sp_is_order, sp_is_order_of, g1, dSeqS, dNext, dRet, dRetN, dIf, dDrop, dSet, dPar, dParN, setAll, dFor, dAppend, dExtend, dFreeze, dFreeze2, slotD, dAsg, dNever, dLend, dLendT, dVar, dC, dNil, dCons, dOp, dT, dAndT, dOrT, dNotT, dAndV, dOrV, dNotV, dIfE, dIs, dTup, dLst, dFr, dList, dLstR, dTupR, dRg1, dRg2, dSorted, dRange1, dRange2, dSeq, dEnum, dZip, dComp, wipeD, dCall, dCallKw, dSl, dPart, dNoPart, dYes, dPl, dIndexT, dIndexL, dIndexS, dTupF, gN, gT, gCs, gNl, vSh, vOw, vNil, vCons, vComp2, dDictComp, dNeg, dRep, dChain, spTuple, opIx20, opIx21, opIxG0, opIxG1, gd0, gdS, st0, stS, List.map_cons, List.map_nil, spLen, Bool.not_true, Bool.not_false, Bool.false_eq_true, ↓reduceIte]
          refine ⟨by simp; decide, n, P, rfl, okP, n, revP n P, rfl, okR, okP.order.2, ⟨okR.order.2.1, okR.order.2.2⟩, ?_⟩
          rw [okP.order.1, okR.order.1, loose_rev okP]
          refine ⟨by simp; decide, by simp; decide, ?_⟩
          have hg := likeD_graph 3 okL
          refine like_at rfl ?_ ?_
          · show (true && (likeD 7 (gD n (loose n P)) && (likeD 7 (gD n (loose n P)) && (true && (true && true))))) = true
            rw [hg]; rfl
          · try simp only [dSeqS, dNext, dRet, dRetN, dIf, dDrop, dSet, dPar, dParN, setAll, dFor, dAppend, dExtend, dFreeze, dFreeze2, slotD, dAsg, dNever, dLend, dLendT, dVar, dC, dNil, dCons, dOp, dT, dAndT, dOrT, dNotT, dAndV, dOrV, dNotV, dIfE, dIs, dTup, dLst, dFr, dList, dLstR, dTupR, dRg1, dRg2, dSorted, dRange1, dRange2, dSeq, dEnum, dZip, dComp, wipeD, dCall, dCallKw, dSl, dPart, dNoPart, dYes, dPl, dIndexT, dIndexL, dIndexS, dTupF, gN, gT, gCs, gNl, vSh, vOw, vNil, vCons, vComp2, dDictComp, dNeg, dRep, dChain, spTuple, opIx20, opIx21, opIxG0, opIxG1, gd0, gdS, st0, stS, List.map_cons, List.map_nil, spLen, Bool.not_true, Bool.not_false, Bool.false_eq_true, ↓reduceIte]
            exact hN _ ⟨_, rfl, rfl⟩
  · rintro ρ ⟨l, hl, rfl⟩
    exact q
end DL
namespace DL
open PySem PySem.Spec PyProof.Rows L2
def top (i : Nat) : Stmt := PySem.Challenge.pw_wholebeside_k69_what_is_below_and_above.main.body.getD i (.Pass ⟨0, 0, 0, 0⟩)
abbrev s__law_well : Stmt := top 25
abbrev s__law_dip : Stmt := top 26
abbrev s__law_handed_on : Stmt := top 33
abbrev s__law_by_ends : Stmt := top 32
abbrev s__law_drawn_spans : Stmt := top 28
abbrev s__law_drawn_levels : Stmt := top 29
abbrev s__law_renamed : Stmt := top 34
abbrev s__law_mixed_up : Stmt := top 30
abbrev s__law_drawn_under : Stmt := top 35
abbrev s__law_ranked : Stmt := top 31
abbrev s__law_like : Stmt := top 27
abbrev s_is_integer : Stmt := top 5
abbrev s_is_natural : Stmt := top 6
abbrev s_is_vertex : Stmt := top 9
abbrev s_is_step : Stmt := top 12
abbrev s_ascends : Stmt := top 8
abbrev s_under_lists : Stmt := top 13
abbrev s_is_handed_on : Stmt := top 15
abbrev s_is_order_of : Stmt := top 16
abbrev s_check_order : Stmt := top 17
abbrev s_check_vertex : Stmt := top 10
abbrev s_over_lists : Stmt := top 14
abbrev s_above : Stmt := top 21
abbrev s_below : Stmt := top 20
abbrev s_reversed_order : Stmt := top 22
abbrev s_is_order : Stmt := top 19
abbrev s_loose_graph : Stmt := top 23
abbrev s_law : Stmt := top 36
structure Txt (mg : Str → Option Value) : Prop where
  b_all : mg "all" = none
  b_any : mg "any" = none
  b_bool : mg "bool" = none
  b_int : mg "int" = none
  b_isinstance : mg "isinstance" = none
  b_len : mg "len" = none
  b_list : mg "list" = none
  b_max : mg "max" = none
  b_range : mg "range" = none
  b_sorted : mg "sorted" = none
  b_str : mg "str" = none
  b_tuple : mg "tuple" = none
  b_zip : mg "zip" = none
section
variable {P : Program} {w : World} {K : PySem.W.Frag} {mg : Str → Option Value} {base : Heap}
theorem sc__law_well : FnScope ["script"] ["script"] (defScope s__law_well) := ⟨rfl, rfl, rfl, by decide +kernel, rfl, by decide +kernel, by decide +kernel⟩
theorem ok__law_well {f : Addr} {fd : FuncData} (F : Fun K "_law_well" "_law_well" s__law_well f fd) (T : Txt mg) : FnOk P w K mg base CX0 1 f fd ["script"] (spWell K) := by
  refine F.ok sc__law_well (fun vs H Q E h => ?_) (fun cdv A outer s H vs Q E hr h => ?_)
  · obtain ⟨a, ns, rfl, _⟩ := h
    rfl
  · obtain ⟨a, ns, rfl, hS, hl, k⟩ := h
    refine ⟨_, pss_one (ps_ret (pe_op op_cat (pe_lst (pa_cons pe_int (pa_cons pe_int (pa_cons pe_int (pa_cons pe_int pa_nil))))) (pe_callTy call_list_of rfl T.b_list PyProof.Rows.boot_list (pa_cons (pe_var (i := 0) rfl (.inl rfl) (by decide) (by decide)) pa_nil) (by decide) (by decide) rfl rfl))), ?_⟩
    refine ⟨by simp; decide, fun p hp => ⟨.ref a, rfl, a, ns.map V.int, rfl, .inl (sqL_put hS hp), fun q hq => ?_⟩⟩
    have npq : p ≠ q := fun e => by rw [← e, upd_same] at hq; cases hq
    refine ⟨p, q, _, _, rfl, rfl, by rw [upd_ne npq, upd_same], upd_same, by simp; have := sizeLine_eq; omega, fun r hr => ?_⟩
    exact k r ([0, 271828182845, 0, 4] ++ ns) _ (well_ok ns hl) (by rw [upd_same, List.map_append]; rfl)
theorem sc__law_dip : FnScope ["well", "many", "cell", "dealt", "drawn"] ["well", "many"] (defScope s__law_dip) := ⟨rfl, rfl, rfl, by decide +kernel, rfl, by decide +kernel, by decide +kernel⟩
theorem ok__law_dip {f : Addr} {fd : FuncData} (F : Fun K "_law_dip" "_law_dip" s__law_dip f fd) (hm : mg "_law_dip" = some (.ref f)) (T : Txt mg) : DDef P w K mg base "_law_dip" s__law_dip 1 ["well", "many"] sp__law_dip :=
  dip_ok F hm sc__law_dip rfl rfl fun cdv A outer s H hr => (wss_cons (ws_if (wt_and (wt_eq (we_ix rfl (.inl rfl) we_int) we_int) (wt_cmp op_lt (we_ix rfl (.inl rfl) we_int) (we_len rfl (.inl rfl) rfl T.b_len))) (wss_cons (ws_set 2 (by decide) sc__law_dip.nd rfl (.inl rfl) (we_ix rfl (.inl rfl) (we_ix rfl (.inl rfl) we_int))) (wss_cons (ws_aug rfl (.inl rfl) we_int we_int) (wss_cons (ws_if (wt_cmp op_ge (we_var 2) (we_op op_pow we_int we_int)) (wss_cons (ws_setIx rfl (.inl rfl) we_int (we_op0 op_sub (we_var 2) (we_op op_pow we_int we_int))) wss_nil) (wss_cons (ws_setIx rfl (.inl rfl) we_int (we_op op_mod (we_int1 rfl T.b_int (we_op0 op_add (we_op0 op_add (we_op op_mul (we_ix rfl (.inl rfl) we_int) we_int) (we_op op_mul (we_var 2) we_int)) (we_ix rfl (.inl rfl) we_int))) we_int)) wss_nil)) wss_nil))) wss_nil) (wss_cons (ws_if (wt_cmp op_gt (we_ix rfl (.inl rfl) we_int) we_int) (wss_cons (ws_set 3 (by decide) sc__law_dip.nd rfl (.inl rfl) (we_op op_mod (we_int1 rfl T.b_int (we_ix rfl (.inl rfl) we_int)) (we_var 1))) (wss_cons (ws_setIx rfl (.inl rfl) we_int (we_op op_fdiv (we_ix rfl (.inl rfl) we_int) (we_var 1))) (wss_cons (ws_ret (we_var 3)) wss_nil))) wss_nil) (wss_cons (ws_aug rfl (.inl rfl) we_int we_int) (wss_cons (ws_set 4 (by decide) sc__law_dip.nd rfl (.inl rfl) (we_op op_mod (we_int1 rfl T.b_int (we_op0 op_add (we_ix rfl (.inl rfl) we_int) (we_op op_mul we_int (we_ix rfl (.inl rfl) we_int)))) we_int)) (wss_cons (ws_set 4 (by decide) sc__law_dip.nd rfl (.inl rfl) (we_op op_mod (we_int1 rfl T.b_int (we_op0 op_add (we_op op_mul (we_var 4) (we_var 4)) (we_op op_mul we_int (we_ix rfl (.inl rfl) we_int)))) we_int)) (wss_cons (ws_set 4 (by decide) sc__law_dip.nd rfl (.inl rfl) (we_op op_mod (we_int1 rfl T.b_int (we_op0 op_add (we_op op_mul (we_op op_mul (we_var 4) (we_var 4)) we_int) (we_ix rfl (.inl rfl) we_int))) we_int)) (wss_cons (ws_ret (we_op op_mod (we_int1 rfl T.b_int (we_op op_fdiv (we_var 4) we_int)) (we_var 1))) wss_nil)))))))
theorem sc__law_handed_on : FnScope ["well", "many", "thick", "under", "high", "lot", "low", "own"] ["well", "many"] (defScope s__law_handed_on) := ⟨rfl, rfl, rfl, by decide +kernel, rfl, by decide +kernel, by decide +kernel⟩
theorem ok__law_handed_on {f : Addr} {fd : FuncData} (F : Fun K "_law_handed_on" "_law_handed_on" s__law_handed_on f fd) (hm : mg "_law_handed_on" = some (.ref f)) (T : Txt mg) (D__law_dip : DDef P w K mg base "_law_dip" s__law_dip 1 ["well", "many"] sp__law_dip) : DDef P w K mg base "_law_handed_on" s__law_handed_on 2 ["well", "many"] sp__law_handed_on :=
  def_ok (k := 1) F hm sc__law_handed_on (fun ds Q h => by match ds, h with | [.well, .int _], _ => rfl) (fun cdv A outer s H hr => ⟨t__law_handed_on, (dss_cons (ds_parN (n := 2) rfl (dvs_cons (DE.v (de_call D__law_dip hr (by decide) rfl (fun _ _ _ _ _ _ us hl => match us, hl with | [_, _], _ => rfl) (da_cons (de_var 0) (da_cons de_int da_nil)))) (dvs_cons (DF.v (df_lst da_nil)) dvs_nil)) (ng_cons 2 sc__law_handed_on.nd rfl (.inr rfl) (ng_cons 3 sc__law_handed_on.nd rfl (.inl rfl) ng_nil))) (dss_cons (ds_for PassesOwn.never rfl (di_range1 rfl T.b_range (da_cons (de_var 1) da_nil)) (dg_name 4 sc__law_handed_on.nd rfl (.inl rfl)) (dss_cons (ds_set 5 sc__law_handed_on.nd rfl (.inr rfl) (DE.v (DF.de (df_comp rfl sc__law_handed_on.nd (DI.o (di_range1 rfl T.b_range (da_cons (de_var 4) da_nil))) (own := [("low", 6)]) (by dsimp only [Cx.blk, Cx.nox, Cx.wish, cxOf, envOfC]; exact ⟨rfl, by decide +kernel, by decide +kernel, by decide +kernel, by decide +kernel⟩) (fun _ _ _ _ _ => (dg_name 6 sc__law_handed_on.nd rfl (.inl rfl))) (fun _ _ _ _ _ => (dts_one (dt_lt hr (de_call D__law_dip hr (by decide) rfl (fun _ _ _ _ _ _ us hl => match us, hl with | [_, _], _ => rfl) (da_cons (de_var 0) (da_cons de_int da_nil))) (de_var 2)))) (fun _ _ _ _ _ => (de_var 6)))))) (dss_cons (ds_for PassesOwn.never rfl (di_range3 rfl T.b_range (da_cons (de_sub (de_var 4) de_int) (da_cons (de_neg de_int) (da_cons (de_neg de_int) da_nil)))) (dg_name 6 sc__law_handed_on.nd rfl (.inl rfl)) (dss_cons (ds_if (dt_in hr (de_var 6) (de_var 5)) (dss_cons (ds_set 5 sc__law_handed_on.nd rfl (.inr rfl) (DE.v (de_add (de_var 5) (DF.de (df_comp rfl sc__law_handed_on.nd (DI.o (di_seq (de_ixO 3 rfl (by first | exact Or.inl rfl | exact Or.inr (Or.inl rfl) | exact Or.inr (Or.inr rfl)) (de_var 6)))) (own := [("own", 7)]) (by dsimp only [Cx.blk, Cx.nox, Cx.wish, cxOf, envOfC]; exact ⟨rfl, by decide +kernel, by decide +kernel, by decide +kernel, by decide +kernel⟩) (fun _ _ _ _ _ => (dg_name 7 sc__law_handed_on.nd rfl (.inl rfl))) (fun _ _ _ _ _ => (dts_one (dt_notin hr (de_var 7) (de_var 5)))) (fun _ _ _ _ _ => (de_var 7))))))) dss_nil) dss_nil) dss_nil)) (dss_cons (ds_append 3 rfl (.inl rfl) (de_var 5)) dss_nil)))) (dss_freeze 3 (dss_cons (ds_ret (de_var 3)) dss_nil)))), fun ds Q h => rd__law_handed_on ds Q h⟩)
theorem sc__law_by_ends : FnScope ["rows", "low", "high", "own"] ["rows"] (defScope s__law_by_ends) := ⟨rfl, rfl, rfl, by decide +kernel, rfl, by decide +kernel, by decide +kernel⟩
theorem ok__law_by_ends {f : Addr} {fd : FuncData} (F : Fun K "_law_by_ends" "_law_by_ends" s__law_by_ends f fd) (hm : mg "_law_by_ends" = some (.ref f)) (T : Txt mg)  : DDef P w K mg base "_law_by_ends" s__law_by_ends 1 ["rows"] sp__law_by_ends :=
  def_ok (k := 0) F hm sc__law_by_ends (fun ds Q h => by first | (obtain ⟨_, rfl, _⟩ := h; rfl) | (obtain ⟨_, _, rfl, _⟩ := h; rfl) | (obtain ⟨_, _, _, rfl, _⟩ := h; rfl) | (obtain ⟨_, _, _, _, rfl, _⟩ := h; rfl) | (obtain ⟨_, _, _, _, _, rfl, _⟩ := h; rfl)) (fun cdv A outer s H hr => ⟨t__law_by_ends, (dss_cons (ds_ret (DF.de (df_comp rfl sc__law_by_ends.nd (DI.o (di_seq (de_var 0))) (own := [("low", 1), ("high", 2)]) (by dsimp only [Cx.blk, Cx.nox, Cx.wish, cxOf, envOfC]; exact ⟨rfl, by decide +kernel, by decide +kernel, by decide +kernel, by decide +kernel⟩) (fun _ _ _ _ _ => (dg_tup rfl (dgs_cons (dg_name 1 sc__law_by_ends.nd rfl (.inr rfl)) (dgs_cons (dg_name 2 sc__law_by_ends.nd rfl (.inl rfl)) dgs_nil)))) (fun _ _ _ _ _ => dts_nil) (fun _ _ _ _ _ => (DF.de (df_comp rfl sc__law_by_ends.nd (DI.o (di_range1 rfl T.b_range (da_cons (de_len rfl T.b_len (da_cons (de_var 0) da_nil)) da_nil))) (own := [("own", 3)]) (blk_in (by dsimp only [Cx.blk, Cx.nox, Cx.wish, cxOf, envOfC]; exact ⟨rfl, by decide +kernel, by decide +kernel, by decide +kernel, by decide +kernel⟩)) (fun _ _ _ _ _ => (dg_name 3 sc__law_by_ends.nd rfl (.inl rfl))) (fun _ _ _ _ _ => (dts_one (dt_lt hr (de_ix (de_ix (de_var 0) (de_var 3)) de_int) (de_var 1)))) (fun _ _ _ _ _ => (de_var 3)))))))) dss_nil), fun ds Q h => rd__law_by_ends ds Q h⟩)
theorem sc__law_drawn_spans : FnScope ["well", "many", "reach", "lows", "step", "low"] ["well", "many"] (defScope s__law_drawn_spans) := ⟨rfl, rfl, rfl, by decide +kernel, rfl, by decide +kernel, by decide +kernel⟩
theorem ok__law_drawn_spans {f : Addr} {fd : FuncData} (F : Fun K "_law_drawn_spans" "_law_drawn_spans" s__law_drawn_spans f fd) (hm : mg "_law_drawn_spans" = some (.ref f)) (T : Txt mg) (D__law_dip : DDef P w K mg base "_law_dip" s__law_dip 1 ["well", "many"] sp__law_dip) : DDef P w K mg base "_law_drawn_spans" s__law_drawn_spans 2 ["well", "many"] sp__law_drawn_spans :=
  def_ok (k := 1) F hm sc__law_drawn_spans (fun ds Q h => by match ds, h with | [.well, .int _], _ => rfl) (fun cdv A outer s H hr => ⟨t__law_drawn_spans, (dss_cons (ds_set 2 sc__law_drawn_spans.nd rfl (.inr rfl) (DE.v (de_add de_int (de_call D__law_dip hr (by decide) rfl (fun _ _ _ _ _ _ us hl => match us, hl with | [_, _], _ => rfl) (da_cons (de_var 0) (da_cons (de_add (de_var 1) de_int) da_nil)))))) (dss_cons (ds_setLc 3 rfl sc__law_drawn_spans.nd rfl rfl (by rfl) (DI.o (di_range1 rfl T.b_range (da_cons (de_var 1) da_nil))) (own := [("step", 4)]) (by dsimp only [Cx.blk, Cx.nox, Cx.wish, cxOf, envOfC]; exact ⟨rfl, by decide +kernel, by decide +kernel, by decide +kernel, by decide +kernel⟩) (fun _ _ _ _ _ => (dg_name 4 sc__law_drawn_spans.nd rfl (.inl rfl))) (fun _ _ _ _ _ => dts_nil) (fun _ _ _ _ _ => (de_call D__law_dip hr (by decide) rfl (fun _ _ _ _ _ _ us hl => match us, hl with | [_, _], _ => rfl) (da_cons (de_var 0) (da_cons (de_add (de_mul de_int (de_var 1)) de_int) da_nil)))) cv_sh) (dss_cons (ds_ret (de_tuple rfl T.b_tuple (da_cons (DF.de (df_comp rfl sc__law_drawn_spans.nd (DI.o (di_seq (de_var 3))) (own := [("low", 5)]) (by dsimp only [Cx.blk, Cx.nox, Cx.wish, cxOf, envOfC]; exact ⟨rfl, by decide +kernel, by decide +kernel, by decide +kernel, by decide +kernel⟩) (fun _ _ _ _ _ => (dg_name 5 sc__law_drawn_spans.nd rfl (.inl rfl))) (fun _ _ _ _ _ => dts_nil) (fun _ _ _ _ _ => (de_tup (da_cons (de_var 5) (da_cons (de_add (de_var 5) (de_call D__law_dip hr (by decide) rfl (fun _ _ _ _ _ _ us hl => match us, hl with | [_, _], _ => rfl) (da_cons (de_var 0) (da_cons (de_var 2) da_nil)))) da_nil)))))) da_nil))) dss_nil))), fun ds Q h => rd__law_drawn_spans ds Q h⟩)
theorem sc__law_drawn_levels : FnScope ["well", "many", "reach", "wide", "found", "low", "high", "step"] ["well", "many"] (defScope s__law_drawn_levels) := ⟨rfl, rfl, rfl, by decide +kernel, rfl, by decide +kernel, by decide +kernel⟩
theorem ok__law_drawn_levels {f : Addr} {fd : FuncData} (F : Fun K "_law_drawn_levels" "_law_drawn_levels" s__law_drawn_levels f fd) (hm : mg "_law_drawn_levels" = some (.ref f)) (T : Txt mg) (D__law_dip : DDef P w K mg base "_law_dip" s__law_dip 1 ["well", "many"] sp__law_dip) : DDef P w K mg base "_law_drawn_levels" s__law_drawn_levels 2 ["well", "many"] sp__law_drawn_levels :=
  def_ok (k := 1) F hm sc__law_drawn_levels (fun ds Q h => by match ds, h with | [.well, .int _], _ => rfl) (fun cdv A outer s H hr => ⟨t__law_drawn_levels, (dss_cons (ds_par3 2 3 4 rfl sc__law_drawn_levels.nd rfl rfl rfl (by decide) (by decide) (by decide) rfl rfl rfl (dvs_cons (DE.v (de_add de_int (de_call D__law_dip hr (by decide) rfl (fun _ _ _ _ _ _ us hl => match us, hl with | [_, _], _ => rfl) (da_cons (de_var 0) (da_cons de_int da_nil))))) (dvs_cons (DE.v (de_call D__law_dip hr (by decide) rfl (fun _ _ _ _ _ _ us hl => match us, hl with | [_, _], _ => rfl) (da_cons (de_var 0) (da_cons de_int da_nil)))) (dvs_cons (DF.v (df_lst da_nil)) dvs_nil))) rfl) (dss_cons (ds_parN (n := 2) rfl (dvs_cons (DE.v de_int) (dvs_cons (DE.v de_int) dvs_nil)) (ng_cons 5 sc__law_drawn_levels.nd rfl (.inl rfl) (ng_cons 6 sc__law_drawn_levels.nd rfl (.inl rfl) ng_nil))) (dss_cons (ds_for PassesOwn.never rfl (di_range1 rfl T.b_range (da_cons (de_var 1) da_nil)) (dg_name 7 sc__law_drawn_levels.nd rfl (.inl rfl)) (dss_cons (ds_set 5 sc__law_drawn_levels.nd rfl (.inl rfl) (DE.v (de_add (de_add (de_var 5) de_int) (de_call D__law_dip hr (by decide) rfl (fun _ _ _ _ _ _ us hl => match us, hl with | [_, _], _ => rfl) (da_cons (de_var 0) (da_cons (de_var 2) da_nil)))))) (dss_cons (ds_set 6 sc__law_drawn_levels.nd rfl (.inl rfl) (DE.v (de_max2 rfl rfl T.b_max (da_cons (de_add (de_add (de_var 6) de_int) (de_call D__law_dip hr (by decide) rfl (fun _ _ _ _ _ _ us hl => match us, hl with | [_, _], _ => rfl) (da_cons (de_var 0) (da_cons de_int da_nil)))) (da_cons (de_add (de_var 5) (de_if (dt_gt (de_var 3) de_int) (de_call D__law_dip hr (by decide) rfl (fun _ _ _ _ _ _ us hl => match us, hl with | [_, _], _ => rfl) (da_cons (de_var 0) (da_cons (de_var 3) da_nil))) de_int)) da_nil))))) (dss_cons (ds_append 4 rfl (.inl rfl) (de_tup (da_cons (de_var 5) (da_cons (de_var 6) da_nil)))) dss_nil)))) (dss_freeze 4 (dss_cons (ds_ret (de_tuple rfl T.b_tuple (da_cons (de_var 4) da_nil))) dss_nil))))), fun ds Q h => rd__law_drawn_levels ds Q h⟩)
theorem sc__law_renamed : FnScope ["under", "way", "spot", "own"] ["under", "way"] (defScope s__law_renamed) := ⟨rfl, rfl, rfl, by decide +kernel, rfl, by decide +kernel, by decide +kernel⟩
theorem ok__law_renamed {f : Addr} {fd : FuncData} (F : Fun K "_law_renamed" "_law_renamed" s__law_renamed f fd) (hm : mg "_law_renamed" = some (.ref f)) (T : Txt mg)  : DDef P w K mg base "_law_renamed" s__law_renamed 1 ["under", "way"] sp__law_renamed :=
  def_ok (k := 0) F hm sc__law_renamed (fun ds Q h => by first | (obtain ⟨_, rfl, _⟩ := h; rfl) | (obtain ⟨_, _, rfl, _⟩ := h; rfl) | (obtain ⟨_, _, _, rfl, _⟩ := h; rfl) | (obtain ⟨_, _, _, _, rfl, _⟩ := h; rfl) | (obtain ⟨_, _, _, _, _, rfl, _⟩ := h; rfl)) (fun cdv A outer s H hr => ⟨t__law_renamed, (dss_cons (ds_ret (DF.de (df_comp rfl sc__law_renamed.nd (DI.o (di_seq (de_pl (de_var 1)))) (own := [("spot", 2)]) (by dsimp only [Cx.blk, Cx.nox, Cx.wish, cxOf, envOfC]; exact ⟨rfl, by decide +kernel, by decide +kernel, by decide +kernel, by decide +kernel⟩) (fun _ _ _ _ _ => (dg_name 2 sc__law_renamed.nd rfl (.inl rfl))) (fun _ _ _ _ _ => dts_nil) (fun _ _ _ _ _ => (DF.de (df_comp rfl sc__law_renamed.nd (DI.o (di_seq (de_ix (de_var 0) (de_var 2)))) (own := [("own", 3)]) (blk_in (by dsimp only [Cx.blk, Cx.nox, Cx.wish, cxOf, envOfC]; exact ⟨rfl, by decide +kernel, by decide +kernel, by decide +kernel, by decide +kernel⟩)) (fun _ _ _ _ _ => (dg_name 3 sc__law_renamed.nd rfl (.inl rfl))) (fun _ _ _ _ _ => dts_nil) (fun _ _ _ _ _ => (de_indexT (de_var 1) (de_var 3))))))))) dss_nil), fun ds Q h => rd__law_renamed ds Q h⟩)
theorem sc__law_mixed_up : FnScope ["well", "many", "left", "found", "step"] ["well", "many"] (defScope s__law_mixed_up) := ⟨rfl, rfl, rfl, by decide +kernel, rfl, by decide +kernel, by decide +kernel⟩
theorem ok__law_mixed_up {f : Addr} {fd : FuncData} (F : Fun K "_law_mixed_up" "_law_mixed_up" s__law_mixed_up f fd) (hm : mg "_law_mixed_up" = some (.ref f)) (T : Txt mg) (D__law_dip : DDef P w K mg base "_law_dip" s__law_dip 1 ["well", "many"] sp__law_dip) : DDef P w K mg base "_law_mixed_up" s__law_mixed_up 2 ["well", "many"] sp__law_mixed_up :=
  def_ok (k := 1) F hm sc__law_mixed_up (fun ds Q h => by match ds, h with | [.well, .int _], _ => rfl) (fun cdv A outer s H hr => ⟨t__law_mixed_up, (dss_cons (ds_par 2 3 rfl sc__law_mixed_up.nd rfl rfl (by decide) rfl rfl (dvs_cons (DF.v (df_listR rfl rfl T.b_list (dr_1 rfl T.b_range (de_var 1)))) (dvs_cons (DF.v (df_lst da_nil)) dvs_nil)) rfl) (dss_cons (ds_for PassesOwn.never rfl (di_range1 rfl T.b_range (da_cons (de_var 1) da_nil)) (dg_name 4 sc__law_mixed_up.nd rfl (.inl rfl)) (dss_cons (ds_appPop 3 2 rfl (.inl rfl) rfl (.inl rfl) (de_call D__law_dip hr (by decide) rfl (fun _ _ _ _ _ _ us hl => match us, hl with | [_, _], _ => rfl) (da_cons (de_var 0) (da_cons (de_lend 2 (de_len rfl T.b_len (da_cons (de_var 2) da_nil))) da_nil)))) dss_nil)) (dss_freeze 3 (dss_cons (ds_ret (de_tupleF rfl T.b_tuple (da_cons (de_var 3) da_nil))) dss_nil)))), fun ds Q h => rd__law_mixed_up ds Q h⟩)
theorem sc__law_drawn_under : FnScope ["well", "most", "kind", "many", "under"] ["well", "most"] (defScope s__law_drawn_under) := ⟨rfl, rfl, rfl, by decide +kernel, rfl, by decide +kernel, by decide +kernel⟩
theorem ok__law_drawn_under {f : Addr} {fd : FuncData} (F : Fun K "_law_drawn_under" "_law_drawn_under" s__law_drawn_under f fd) (hm : mg "_law_drawn_under" = some (.ref f)) (T : Txt mg) (D__law_dip : DDef P w K mg base "_law_dip" s__law_dip 1 ["well", "many"] sp__law_dip) (D__law_handed_on : DDef P w K mg base "_law_handed_on" s__law_handed_on 2 ["well", "many"] sp__law_handed_on) (D__law_by_ends : DDef P w K mg base "_law_by_ends" s__law_by_ends 1 ["rows"] sp__law_by_ends) (D__law_drawn_spans : DDef P w K mg base "_law_drawn_spans" s__law_drawn_spans 2 ["well", "many"] sp__law_drawn_spans) (D__law_drawn_levels : DDef P w K mg base "_law_drawn_levels" s__law_drawn_levels 2 ["well", "many"] sp__law_drawn_levels) (D__law_renamed : DDef P w K mg base "_law_renamed" s__law_renamed 1 ["under", "way"] sp__law_renamed) (D__law_mixed_up : DDef P w K mg base "_law_mixed_up" s__law_mixed_up 2 ["well", "many"] sp__law_mixed_up) : DDef P w K mg base "_law_drawn_under" s__law_drawn_under 3 ["well", "most"] sp__law_drawn_under :=
  def_ok (k := 2) F hm sc__law_drawn_under (fun ds Q h => by match ds, h with | [.well, .int _], _ => rfl) (fun cdv A outer s H hr => ⟨t__law_drawn_under, (dss_cons (ds_par 2 3 rfl sc__law_drawn_under.nd rfl rfl (by decide) rfl rfl (dvs_cons (DE.v (de_call D__law_dip hr (by decide) rfl (fun _ _ _ _ _ _ us hl => match us, hl with | [_, _], _ => rfl) (da_cons (de_var 0) (da_cons de_int da_nil)))) (dvs_cons (DE.v (de_call D__law_dip hr (by decide) rfl (fun _ _ _ _ _ _ us hl => match us, hl with | [_, _], _ => rfl) (da_cons (de_var 0) (da_cons (de_add (de_var 1) de_int) da_nil)))) dvs_nil)) rfl) (dss_cons (ds_if (dt_lt hr (de_var 2) de_int) (dss_cons (ds_set 4 sc__law_drawn_under.nd rfl (.inl rfl) (DE.v (de_call D__law_handed_on hr (by decide) rfl (fun _ _ _ _ _ _ us hl => match us, hl with | [_, _], _ => rfl) (da_cons (de_var 0) (da_cons (de_var 3) da_nil))))) dss_nil) (dss_cons (ds_set 4 sc__law_drawn_under.nd rfl (.inl rfl) (DE.v (de_call D__law_by_ends hr (by decide) rfl (fun _ _ _ _ _ _ us hl => match us, hl with | [_], _ => rfl) (da_cons (de_if (dt_eq hr (de_var 2) de_int) (de_call D__law_drawn_spans hr (by decide) rfl (fun _ _ _ _ _ _ us hl => match us, hl with | [_, _], _ => rfl) (da_cons (de_var 0) (da_cons (de_var 3) da_nil))) (de_call D__law_drawn_levels hr (by decide) rfl (fun _ _ _ _ _ _ us hl => match us, hl with | [_, _], _ => rfl) (da_cons (de_var 0) (da_cons (de_var 3) da_nil)))) da_nil)))) dss_nil)) (dss_cons (ds_ret (de_call D__law_renamed hr (by decide) rfl (fun _ _ _ _ _ _ us hl => match us, hl with | [_, _], _ => rfl) (da_cons (de_var 4) (da_cons (de_call D__law_mixed_up hr (by decide) rfl (fun _ _ _ _ _ _ us hl => match us, hl with | [_, _], _ => rfl) (da_cons (de_var 0) (da_cons (de_var 3) da_nil))) da_nil)))) dss_nil))), fun ds Q h => rd__law_drawn_under ds Q h⟩)
theorem sc__law_ranked : FnScope ["under", "pairs", "high", "low"] ["under"] (defScope s__law_ranked) := ⟨rfl, rfl, rfl, by decide +kernel, rfl, by decide +kernel, by decide +kernel⟩
theorem ok__law_ranked {f : Addr} {fd : FuncData} (F : Fun K "_law_ranked" "_law_ranked" s__law_ranked f fd) (hm : mg "_law_ranked" = some (.ref f)) (T : Txt mg)  : DDef P w K mg base "_law_ranked" s__law_ranked 1 ["under"] sp__law_ranked :=
  def_ok (k := 0) F hm sc__law_ranked (fun ds Q h => by first | (obtain ⟨_, rfl, _⟩ := h; rfl) | (obtain ⟨_, _, rfl, _⟩ := h; rfl) | (obtain ⟨_, _, _, rfl, _⟩ := h; rfl) | (obtain ⟨_, _, _, _, rfl, _⟩ := h; rfl) | (obtain ⟨_, _, _, _, _, rfl, _⟩ := h; rfl)) (fun cdv A outer s H hr => ⟨t__law_ranked, (dss_cons (ds_set 1 sc__law_ranked.nd rfl (.inl rfl) (DF.v (df_lst da_nil))) (dss_cons (ds_for PassesOwn.never rfl (di_range1 rfl T.b_range (da_cons (de_len rfl T.b_len (da_cons (de_var 0) da_nil)) da_nil)) (dg_name 2 sc__law_ranked.nd rfl (.inr rfl)) (dss_cons (ds_extend 1 rfl (.inl rfl) (DF.de (df_comp rfl sc__law_ranked.nd (DI.o (di_seq (de_ix (de_var 0) (de_var 2)))) (own := [("low", 3)]) (by dsimp only [Cx.blk, Cx.nox, Cx.wish, cxOf, envOfC]; exact ⟨rfl, by decide +kernel, by decide +kernel, by decide +kernel, by decide +kernel⟩) (fun _ _ _ _ _ => (dg_name 3 sc__law_ranked.nd rfl (.inl rfl))) (fun _ _ _ _ _ => dts_nil) (fun _ _ _ _ _ => (de_tup (da_cons (de_var 3) (da_cons (de_var 2) da_nil))))))) dss_nil)) (dss_freeze 1 (dss_cons (ds_ret (de_tup (da_cons (de_len rfl T.b_len (da_cons (de_var 0) da_nil)) (da_cons (de_tuple rfl T.b_tuple (da_cons (DF.de (df_sorted rfl T.b_sorted (da_cons (de_var 1) da_nil))) da_nil)) da_nil)))) dss_nil)))), fun ds Q h => rd__law_ranked ds Q h⟩)
theorem sc__law_like : FnScope ["told", "due", "k"] ["told", "due"] (defScope s__law_like) := ⟨rfl, rfl, rfl, by decide +kernel, rfl, by decide +kernel, by decide +kernel⟩
theorem ok__law_like {f : Addr} {fd : FuncData} (F : Fun K "_law_like" "_law_like" s__law_like f fd) (hm : mg "_law_like" = some (.ref f)) (T : Txt mg) : ∀ n : Nat, DDef P w K mg base "_law_like" s__law_like (n + 1) ["told", "due"] (sp_like n)
  | 0 => def_ok F hm sc__law_like (fun ds Q h => by match ds, h with | [_, _], _ => rfl) (fun cdv A outer s H hr => ⟨_, dss_never, fun ds Q h => by
      match ds, h with
      | [_, _], ⟨⟨_, h⟩, _⟩ => simp [likeD] at h⟩)
  | n + 1 => by
    have D__law_like := ok__law_like F hm T n
    exact def_ok F hm sc__law_like (fun ds Q h => by match ds, h with | [_, _], _ => rfl) (fun cdv A outer s H hr => ⟨t__law_like (sp_like n), (dss_cons (ds_if (dt_val (de_isTup rfl T.b_isinstance rfl T.b_tuple (de_var 1))) (dss_cons (ds_if (DW.dt (dw_or (dt_not (dt_val (de_isTup rfl T.b_isinstance rfl T.b_tuple (de_var 0)))) (dw_or1 (dt_ne hr (de_len rfl T.b_len (da_cons (de_var 0) da_nil)) (de_len rfl T.b_len (da_cons (de_var 1) da_nil)))))) (dss_cons (ds_ret de_bl) dss_nil) dss_nil) (dss_cons (ds_ret (de_all rfl rfl T.b_all (da_cons (DF.de (df_comp rfl sc__law_like.nd (DI.o (di_range1 rfl T.b_range (da_cons (de_len rfl T.b_len (da_cons (de_var 1) da_nil)) da_nil))) (own := [("k", 2)]) (by dsimp only [Cx.blk, Cx.nox, Cx.wish, cxOf, envOfC]; exact ⟨rfl, by decide +kernel, by decide +kernel, by decide +kernel, by decide +kernel⟩) (fun _ _ _ _ _ => (dg_name 2 sc__law_like.nd rfl (.inl rfl))) (fun _ _ _ _ _ => dts_nil) (fun _ _ _ _ _ => (de_call D__law_like hr (Nat.le_refl _) rfl (fun _ _ _ _ _ _ us hl => match us, hl with | [_, _], _ => rfl) (da_cons (de_ix (de_var 0) (de_var 2)) (da_cons (de_ix (de_var 1) (de_var 2)) da_nil)))))) da_nil))) dss_nil)) dss_nil) (dss_cons (ds_if (dt_is (de_var 1) de_non) (dss_cons (ds_ret (de_is (de_var 0) de_non)) dss_nil) dss_nil) (dss_cons (ds_if (dt_val (de_isBool rfl T.b_isinstance rfl T.b_bool (de_var 1))) (dss_cons (ds_ret (de_and (de_isBool rfl T.b_isinstance rfl T.b_bool (de_var 0)) (de_one (de_eq hr (de_var 0) (de_var 1))))) dss_nil) dss_nil) (dss_cons (ds_if (dt_val (de_isStr rfl T.b_isinstance rfl T.b_str (de_var 1))) (dss_cons (ds_ret (de_and (de_isStr rfl T.b_isinstance rfl T.b_str (de_var 0)) (de_one (de_eq hr (de_var 0) (de_var 1))))) dss_nil) dss_nil) (dss_cons (ds_ret (de_and (de_isInt rfl T.b_isinstance rfl T.b_int (de_var 0)) (de_and (de_not (de_isBool rfl T.b_isinstance rfl T.b_bool (de_var 0))) (de_one (de_eq hr (de_var 0) (de_var 1)))))) dss_nil))))), fun ds Q h => rd__law_like n ds Q h⟩)
theorem sc_is_integer : FnScope ["value"] ["value"] (defScope s_is_integer) := ⟨rfl, rfl, rfl, by decide +kernel, rfl, by decide +kernel, by decide +kernel⟩
theorem ok_is_integer {f : Addr} {fd : FuncData} (F : Fun K "is_integer" "is_integer" s_is_integer f fd) (hm : mg "is_integer" = some (.ref f)) (T : Txt mg)  : DDef P w K mg base "is_integer" s_is_integer 1 ["value"] sp_is_integer :=
  def_ok (k := 0) F hm sc_is_integer (fun ds Q h => by match ds, h with | [_], _ => rfl) (fun cdv A outer s H hr => ⟨t_is_integer, (dss_cons (ds_ret (de_and (de_isInt rfl T.b_isinstance rfl T.b_int (de_var 0)) (de_one (de_not (de_isBool rfl T.b_isinstance rfl T.b_bool (de_var 0)))))) dss_nil), fun ds Q h => rd_is_integer ds Q h⟩)
theorem sc_is_natural : FnScope ["value"] ["value"] (defScope s_is_natural) := ⟨rfl, rfl, rfl, by decide +kernel, rfl, by decide +kernel, by decide +kernel⟩
theorem ok_is_natural {f : Addr} {fd : FuncData} (F : Fun K "is_natural" "is_natural" s_is_natural f fd) (hm : mg "is_natural" = some (.ref f)) (T : Txt mg) (D_is_integer : DDef P w K mg base "is_integer" s_is_integer 1 ["value"] sp_is_integer) : DDef P w K mg base "is_natural" s_is_natural 2 ["value"] sp_is_natural :=
  def_ok (k := 1) F hm sc_is_natural (fun ds Q h => by match ds, h with | [_], _ => rfl) (fun cdv A outer s H hr => ⟨t_is_natural, (dss_cons (ds_ret (de_and (de_call D_is_integer hr (by decide) rfl (fun _ _ _ _ _ _ us hl => match us, hl with | [_], _ => rfl) (da_cons (de_var 0) da_nil)) (de_one (de_ge (de_var 0) de_int)))) dss_nil), fun ds Q h => rd_is_natural ds Q h⟩)
theorem sc_is_vertex : FnScope ["many", "value"] ["many", "value"] (defScope s_is_vertex) := ⟨rfl, rfl, rfl, by decide +kernel, rfl, by decide +kernel, by decide +kernel⟩
theorem ok_is_vertex {f : Addr} {fd : FuncData} (F : Fun K "is_vertex" "is_vertex" s_is_vertex f fd) (hm : mg "is_vertex" = some (.ref f)) (T : Txt mg) (D_is_natural : DDef P w K mg base "is_natural" s_is_natural 2 ["value"] sp_is_natural) : DDef P w K mg base "is_vertex" s_is_vertex 3 ["many", "value"] sp_is_vertex :=
  def_ok (k := 2) F hm sc_is_vertex (fun ds Q h => by match ds, h with | [.int _, _], _ => rfl) (fun cdv A outer s H hr => ⟨t_is_vertex, (dss_cons (ds_ret (de_and (de_call D_is_natural hr (by decide) rfl (fun _ _ _ _ _ _ us hl => match us, hl with | [_], _ => rfl) (da_cons (de_var 1) da_nil)) (de_one (de_lt hr (de_var 1) (de_var 0))))) dss_nil), fun ds Q h => rd_is_vertex ds Q h⟩)
theorem sc_is_step : FnScope ["value", "many", "own"] ["value", "many"] (defScope s_is_step) := ⟨rfl, rfl, rfl, by decide +kernel, rfl, by decide +kernel, by decide +kernel⟩
theorem ok_is_step {f : Addr} {fd : FuncData} (F : Fun K "is_step" "is_step" s_is_step f fd) (hm : mg "is_step" = some (.ref f)) (T : Txt mg) (D_is_vertex : DDef P w K mg base "is_vertex" s_is_vertex 3 ["many", "value"] sp_is_vertex) : DDef P w K mg base "is_step" s_is_step 4 ["value", "many"] sp_is_step :=
  def_ok (k := 3) F hm sc_is_step (fun ds Q h => by match ds, h with | [_, .int _], _ => rfl) (fun cdv A outer s H hr => ⟨t_is_step, (dss_cons (ds_if (DW.dt (dw_or (dt_not (dt_val (de_isTup rfl T.b_isinstance rfl T.b_tuple (de_var 0)))) (dw_or (dt_ne hr (de_len rfl T.b_len (da_cons (de_var 0) da_nil)) de_int) (dw_or1 (dt_not (dt_val (de_all rfl rfl T.b_all (da_cons (DF.de (df_comp rfl sc_is_step.nd (DI.o (di_seq (de_var 0))) (own := [("own", 2)]) (by dsimp only [Cx.blk, Cx.nox, Cx.wish, cxOf, envOfC]; exact ⟨rfl, by decide +kernel, by decide +kernel, by decide +kernel, by decide +kernel⟩) (fun _ _ _ _ _ => (dg_name 2 sc_is_step.nd rfl (.inl rfl))) (fun _ _ _ _ _ => dts_nil) (fun _ _ _ _ _ => (de_call D_is_vertex hr (by decide) rfl (fun _ _ _ _ _ _ us hl => match us, hl with | [_, _], _ => rfl) (da_cons (de_var 1) (da_cons (de_var 2) da_nil)))))) da_nil)))))))) (dss_cons (ds_ret de_bl) dss_nil) dss_nil) (dss_cons (ds_ret (de_ne hr (de_ix (de_var 0) de_int) (de_ix (de_var 0) de_int))) dss_nil)), fun ds Q h => rd_is_step ds Q h⟩)
theorem sc_ascends : FnScope ["some", "one", "other"] ["some"] (defScope s_ascends) := ⟨rfl, rfl, rfl, by decide +kernel, rfl, by decide +kernel, by decide +kernel⟩
theorem ok_ascends {f : Addr} {fd : FuncData} (F : Fun K "ascends" "ascends" s_ascends f fd) (hm : mg "ascends" = some (.ref f)) (T : Txt mg)  : DDef P w K mg base "ascends" s_ascends 1 ["some"] sp_ascends :=
  def_ok (k := 0) F hm sc_ascends (fun ds Q h => by match ds, h with | [.tup _], _ => rfl) (fun cdv A outer s H hr => ⟨t_ascends, (dss_cons (ds_ret (de_all rfl rfl T.b_all (da_cons (DF.de (df_comp rfl sc_ascends.nd (DI.o (di_zip rfl T.b_zip (da_cons (de_var 0) (da_cons (de_slice (de_var 0) (do_some de_int) do_none) da_nil)))) (own := [("one", 1), ("other", 2)]) (by dsimp only [Cx.blk, Cx.nox, Cx.wish, cxOf, envOfC]; exact ⟨rfl, by decide +kernel, by decide +kernel, by decide +kernel, by decide +kernel⟩) (fun _ _ _ _ _ => (dg_tup rfl (dgs_cons (dg_name 1 sc_ascends.nd rfl (.inl rfl)) (dgs_cons (dg_name 2 sc_ascends.nd rfl (.inl rfl)) dgs_nil)))) (fun _ _ _ _ _ => dts_nil) (fun _ _ _ _ _ => (de_lt hr (de_var 1) (de_var 2))))) da_nil))) dss_nil), fun ds Q h => rd_ascends ds Q h⟩)
theorem sc_under_lists : FnScope ["order", "found", "thing", "one", "other", "own"] ["order"] (defScope s_under_lists) := ⟨rfl, rfl, rfl, by decide +kernel, rfl, by decide +kernel, by decide +kernel⟩
theorem ok_under_lists {f : Addr} {fd : FuncData} (F : Fun K "under_lists" "under_lists" s_under_lists f fd) (hm : mg "under_lists" = some (.ref f)) (T : Txt mg)  : DDef P w K mg base "under_lists" s_under_lists 1 ["order"] sp_under_lists :=
  def_ok (k := 0) F hm sc_under_lists (fun ds Q h => by first | (obtain ⟨_, rfl, _⟩ := h; rfl) | (obtain ⟨_, _, rfl, _⟩ := h; rfl) | (obtain ⟨_, _, _, rfl, _⟩ := h; rfl) | (obtain ⟨_, _, _, _, rfl, _⟩ := h; rfl) | (obtain ⟨_, _, _, _, _, rfl, _⟩ := h; rfl)) (fun cdv A outer s H hr => ⟨t_under_lists, (dss_cons (ds_setLc2 1 rfl sc_under_lists.nd rfl rfl (by rfl) (DI.o (di_range1 rfl T.b_range (da_cons (de_ix (de_var 0) de_int) da_nil))) (own := [("thing", 2)]) (by dsimp only [Cx.blk, Cx.nox, Cx.wish, cxOf, envOfC]; exact ⟨rfl, by decide +kernel, by decide +kernel, by decide +kernel, by decide +kernel⟩) (fun _ _ _ _ _ => (dg_name 2 sc_under_lists.nd rfl (.inl rfl))) (fun _ _ _ _ _ => dts_nil) (fun _ _ _ _ _ => (df_lst da_nil))) (dss_cons (ds_for PassesOwn.never rfl (di_seq (de_ix (de_var 0) de_int)) (dg_tup rfl (dgs_cons (dg_name 3 sc_under_lists.nd rfl (.inl rfl)) (dgs_cons (dg_name 4 sc_under_lists.nd rfl (.inl rfl)) dgs_nil))) (dss_cons (ds_app2 1 rfl (.inl rfl) (de_var 4) (de_var 3)) dss_nil)) (dss_freeze2 1 (dss_cons (ds_ret (DF.de (df_comp rfl sc_under_lists.nd (DI.o (di_seq (de_var 1))) (own := [("own", 5)]) (by dsimp only [Cx.blk, Cx.nox, Cx.wish, cxOf, envOfC]; exact ⟨rfl, by decide +kernel, by decide +kernel, by decide +kernel, by decide +kernel⟩) (fun _ _ _ _ _ => (dg_name 5 sc_under_lists.nd rfl (.inl rfl))) (fun _ _ _ _ _ => dts_nil) (fun _ _ _ _ _ => (DF.de (df_sorted rfl T.b_sorted (da_cons (de_var 5) da_nil))))))) dss_nil)))), fun ds Q h => rd_under_lists ds Q h⟩)
theorem sc_is_handed_on : FnScope ["order", "under", "one", "other", "own", "thing"] ["order"] (defScope s_is_handed_on) := ⟨rfl, rfl, rfl, by decide +kernel, rfl, by decide +kernel, by decide +kernel⟩
theorem ok_is_handed_on {f : Addr} {fd : FuncData} (F : Fun K "is_handed_on" "is_handed_on" s_is_handed_on f fd) (hm : mg "is_handed_on" = some (.ref f)) (T : Txt mg) (D_under_lists : DDef P w K mg base "under_lists" s_under_lists 1 ["order"] sp_under_lists) : DDef P w K mg base "is_handed_on" s_is_handed_on 2 ["order"] sp_is_handed_on :=
  def_ok (k := 1) F hm sc_is_handed_on (fun ds Q h => by first | (obtain ⟨_, rfl, _⟩ := h; rfl) | (obtain ⟨_, _, rfl, _⟩ := h; rfl) | (obtain ⟨_, _, _, rfl, _⟩ := h; rfl) | (obtain ⟨_, _, _, _, rfl, _⟩ := h; rfl) | (obtain ⟨_, _, _, _, _, rfl, _⟩ := h; rfl)) (fun cdv A outer s H hr => ⟨t_is_handed_on, (dss_cons (ds_set 1 sc_is_handed_on.nd rfl (.inr rfl) (DE.v (de_call D_under_lists hr (by decide) rfl (fun _ _ _ _ _ _ us hl => match us, hl with | [_], _ => rfl) (da_cons (de_var 0) da_nil)))) (dss_cons (ds_for PassesOwn.never rfl (di_seq (de_ix (de_var 0) de_int)) (dg_tup rfl (dgs_cons (dg_name 2 sc_is_handed_on.nd rfl (.inl rfl)) (dgs_cons (dg_name 3 sc_is_handed_on.nd rfl (.inr rfl)) dgs_nil))) (dss_cons (ds_if (dt_not (dt_val (de_all rfl rfl T.b_all (da_cons (DF.de (df_comp rfl sc_is_handed_on.nd (DI.o (di_seq (de_ix (de_var 1) (de_var 2)))) (own := [("own", 4)]) (by dsimp only [Cx.blk, Cx.nox, Cx.wish, cxOf, envOfC]; exact ⟨rfl, by decide +kernel, by decide +kernel, by decide +kernel, by decide +kernel⟩) (fun _ _ _ _ _ => (dg_name 4 sc_is_handed_on.nd rfl (.inl rfl))) (fun _ _ _ _ _ => dts_nil) (fun _ _ _ _ _ => (de_in hr (de_var 4) (de_ix (de_var 1) (de_var 3)))))) da_nil)))) (dss_cons (ds_ret de_bl) dss_nil) dss_nil) dss_nil)) (dss_cons (ds_ret (de_not (de_any rfl rfl T.b_any (da_cons (DF.de (df_comp rfl sc_is_handed_on.nd (DI.o (di_range1 rfl T.b_range (da_cons (de_ix (de_var 0) de_int) da_nil))) (own := [("thing", 5)]) (by dsimp only [Cx.blk, Cx.nox, Cx.wish, cxOf, envOfC]; exact ⟨rfl, by decide +kernel, by decide +kernel, by decide +kernel, by decide +kernel⟩) (fun _ _ _ _ _ => (dg_name 5 sc_is_handed_on.nd rfl (.inl rfl))) (fun _ _ _ _ _ => dts_nil) (fun _ _ _ _ _ => (de_in hr (de_var 5) (de_ix (de_var 1) (de_var 5)))))) da_nil)))) dss_nil))), fun ds Q h => rd_is_handed_on ds Q h⟩)
theorem sc_is_order_of : FnScope ["value", "pair"] ["value"] (defScope s_is_order_of) := ⟨rfl, rfl, rfl, by decide +kernel, rfl, by decide +kernel, by decide +kernel⟩
theorem ok_is_order_of {f : Addr} {fd : FuncData} (F : Fun K "is_order_of" "is_order_of" s_is_order_of f fd) (hm : mg "is_order_of" = some (.ref f)) (T : Txt mg) (D_is_natural : DDef P w K mg base "is_natural" s_is_natural 2 ["value"] sp_is_natural) (D_is_step : DDef P w K mg base "is_step" s_is_step 4 ["value", "many"] sp_is_step) (D_ascends : DDef P w K mg base "ascends" s_ascends 1 ["some"] sp_ascends) (D_is_handed_on : DDef P w K mg base "is_handed_on" s_is_handed_on 2 ["order"] sp_is_handed_on) : DDef P w K mg base "is_order_of" s_is_order_of 5 ["value"] sp_is_order_of :=
  def_ok (k := 4) F hm sc_is_order_of (fun ds Q h => by match ds, h with | [_], _ => rfl) (fun cdv A outer s H hr => ⟨t_is_order_of, (dss_cons (ds_if (DW.dt (dw_or (dt_not (dt_val (de_isTup rfl T.b_isinstance rfl T.b_tuple (de_var 0)))) (dw_or (dt_ne hr (de_len rfl T.b_len (da_cons (de_var 0) da_nil)) de_int) (dw_or (dt_not (dt_val (de_call D_is_natural hr (by decide) rfl (fun _ _ _ _ _ _ us hl => match us, hl with | [_], _ => rfl) (da_cons (de_ix (de_var 0) de_int) da_nil)))) (dw_or1 (dt_not (dt_val (de_isTup rfl T.b_isinstance rfl T.b_tuple (de_ix (de_var 0) de_int))))))))) (dss_cons (ds_ret de_bl) dss_nil) dss_nil) (dss_cons (ds_ret (de_and (de_all rfl rfl T.b_all (da_cons (DF.de (df_comp rfl sc_is_order_of.nd (DI.o (di_seq (de_ix (de_var 0) de_int))) (own := [("pair", 1)]) (by dsimp only [Cx.blk, Cx.nox, Cx.wish, cxOf, envOfC]; exact ⟨rfl, by decide +kernel, by decide +kernel, by decide +kernel, by decide +kernel⟩) (fun _ _ _ _ _ => (dg_name 1 sc_is_order_of.nd rfl (.inl rfl))) (fun _ _ _ _ _ => dts_nil) (fun _ _ _ _ _ => (de_call D_is_step hr (by decide) rfl (fun _ _ _ _ _ _ us hl => match us, hl with | [_, _], _ => rfl) (da_cons (de_var 1) (da_cons (de_ix (de_var 0) de_int) da_nil)))))) da_nil)) (de_and (de_call D_ascends hr (by decide) rfl (fun _ _ _ _ _ _ us hl => match us, hl with | [_], _ => rfl) (da_cons (de_ix (de_var 0) de_int) da_nil)) (de_one (de_call D_is_handed_on hr (by decide) rfl (fun _ _ _ _ _ _ us hl => match us, hl with | [_], _ => rfl) (da_cons (de_var 0) da_nil)))))) dss_nil)), fun ds Q h => rd_is_order_of ds Q h⟩)
theorem sc_check_order : FnScope ["order"] ["order"] (defScope s_check_order) := ⟨rfl, rfl, rfl, by decide +kernel, rfl, by decide +kernel, by decide +kernel⟩
theorem ok_check_order {f : Addr} {fd : FuncData} (F : Fun K "check_order" "check_order" s_check_order f fd) (hm : mg "check_order" = some (.ref f)) (T : Txt mg) (D_is_order_of : DDef P w K mg base "is_order_of" s_is_order_of 5 ["value"] sp_is_order_of) : DDef P w K mg base "check_order" s_check_order 6 ["order"] sp_check_order :=
  def_ok (k := 5) F hm sc_check_order (fun ds Q h => by match ds, h with | [_], _ => rfl) (fun cdv A outer s H hr => ⟨t_check_order, (dss_cons (ds_if (dt_not (dt_val (de_call D_is_order_of hr (by decide) rfl (fun _ _ _ _ _ _ us hl => match us, hl with | [_], _ => rfl) (da_cons (de_var 0) da_nil)))) (dss_cons ds_never dss_nil) dss_nil) dss_nil), fun ds Q h => rd_check_order ds Q h⟩)
theorem sc_check_vertex : FnScope ["many", "vertex"] ["many", "vertex"] (defScope s_check_vertex) := ⟨rfl, rfl, rfl, by decide +kernel, rfl, by decide +kernel, by decide +kernel⟩
theorem ok_check_vertex {f : Addr} {fd : FuncData} (F : Fun K "check_vertex" "check_vertex" s_check_vertex f fd) (hm : mg "check_vertex" = some (.ref f)) (T : Txt mg) (D_is_vertex : DDef P w K mg base "is_vertex" s_is_vertex 3 ["many", "value"] sp_is_vertex) : DDef P w K mg base "check_vertex" s_check_vertex 4 ["many", "vertex"] sp_check_vertex :=
  def_ok (k := 3) F hm sc_check_vertex (fun ds Q h => by match ds, h with | [.int _, _], _ => rfl) (fun cdv A outer s H hr => ⟨t_check_vertex, (dss_cons (ds_if (dt_not (dt_val (de_call D_is_vertex hr (by decide) rfl (fun _ _ _ _ _ _ us hl => match us, hl with | [_, _], _ => rfl) (da_cons (de_var 0) (da_cons (de_var 1) da_nil))))) (dss_cons ds_never dss_nil) dss_nil) dss_nil), fun ds Q h => rd_check_vertex ds Q h⟩)
theorem sc_over_lists : FnScope ["order", "found", "thing", "one", "other", "own"] ["order"] (defScope s_over_lists) := ⟨rfl, rfl, rfl, by decide +kernel, rfl, by decide +kernel, by decide +kernel⟩
theorem ok_over_lists {f : Addr} {fd : FuncData} (F : Fun K "over_lists" "over_lists" s_over_lists f fd) (hm : mg "over_lists" = some (.ref f)) (T : Txt mg)  : DDef P w K mg base "over_lists" s_over_lists 1 ["order"] sp_over_lists :=
  def_ok (k := 0) F hm sc_over_lists (fun ds Q h => by first | (obtain ⟨_, rfl, _⟩ := h; rfl) | (obtain ⟨_, _, rfl, _⟩ := h; rfl) | (obtain ⟨_, _, _, rfl, _⟩ := h; rfl) | (obtain ⟨_, _, _, _, rfl, _⟩ := h; rfl) | (obtain ⟨_, _, _, _, _, rfl, _⟩ := h; rfl)) (fun cdv A outer s H hr => ⟨t_over_lists, (dss_cons (ds_setLc2 1 rfl sc_over_lists.nd rfl rfl (by rfl) (DI.o (di_range1 rfl T.b_range (da_cons (de_ix (de_var 0) de_int) da_nil))) (own := [("thing", 2)]) (by dsimp only [Cx.blk, Cx.nox, Cx.wish, cxOf, envOfC]; exact ⟨rfl, by decide +kernel, by decide +kernel, by decide +kernel, by decide +kernel⟩) (fun _ _ _ _ _ => (dg_name 2 sc_over_lists.nd rfl (.inl rfl))) (fun _ _ _ _ _ => dts_nil) (fun _ _ _ _ _ => (df_lst da_nil))) (dss_cons (ds_for PassesOwn.never rfl (di_seq (de_ix (de_var 0) de_int)) (dg_tup rfl (dgs_cons (dg_name 3 sc_over_lists.nd rfl (.inl rfl)) (dgs_cons (dg_name 4 sc_over_lists.nd rfl (.inl rfl)) dgs_nil))) (dss_cons (ds_app2 1 rfl (.inl rfl) (de_var 3) (de_var 4)) dss_nil)) (dss_freeze2 1 (dss_cons (ds_ret (DF.de (df_comp rfl sc_over_lists.nd (DI.o (di_seq (de_var 1))) (own := [("own", 5)]) (by dsimp only [Cx.blk, Cx.nox, Cx.wish, cxOf, envOfC]; exact ⟨rfl, by decide +kernel, by decide +kernel, by decide +kernel, by decide +kernel⟩) (fun _ _ _ _ _ => (dg_name 5 sc_over_lists.nd rfl (.inl rfl))) (fun _ _ _ _ _ => dts_nil) (fun _ _ _ _ _ => (DF.de (df_sorted rfl T.b_sorted (da_cons (de_var 5) da_nil))))))) dss_nil)))), fun ds Q h => rd_over_lists ds Q h⟩)
theorem sc_above : FnScope ["order", "vertex"] ["order", "vertex"] (defScope s_above) := ⟨rfl, rfl, rfl, by decide +kernel, rfl, by decide +kernel, by decide +kernel⟩
theorem ok_above {f : Addr} {fd : FuncData} (F : Fun K "above" "above" s_above f fd) (hm : mg "above" = some (.ref f)) (T : Txt mg) (D_check_order : DDef P w K mg base "check_order" s_check_order 6 ["order"] sp_check_order) (D_check_vertex : DDef P w K mg base "check_vertex" s_check_vertex 4 ["many", "vertex"] sp_check_vertex) (D_over_lists : DDef P w K mg base "over_lists" s_over_lists 1 ["order"] sp_over_lists) : DDef P w K mg base "above" s_above 7 ["order", "vertex"] sp_above :=
  def_ok (k := 6) F hm sc_above (fun ds Q h => by first | (obtain ⟨_, rfl, _⟩ := h; rfl) | (obtain ⟨_, _, rfl, _⟩ := h; rfl) | (obtain ⟨_, _, _, rfl, _⟩ := h; rfl) | (obtain ⟨_, _, _, _, rfl, _⟩ := h; rfl) | (obtain ⟨_, _, _, _, _, rfl, _⟩ := h; rfl)) (fun cdv A outer s H hr => ⟨t_above, (dss_cons (ds_expr (de_call D_check_order hr (by decide) rfl (fun _ _ _ _ _ _ us hl => match us, hl with | [_], _ => rfl) (da_cons (de_var 0) da_nil))) (dss_cons (ds_expr (de_call D_check_vertex hr (by decide) rfl (fun _ _ _ _ _ _ us hl => match us, hl with | [_, _], _ => rfl) (da_cons (de_ix (de_var 0) de_int) (da_cons (de_var 1) da_nil)))) (dss_cons (ds_ret (de_tuple rfl T.b_tuple (da_cons (de_ix (de_call D_over_lists hr (by decide) rfl (fun _ _ _ _ _ _ us hl => match us, hl with | [_], _ => rfl) (da_cons (de_var 0) da_nil)) (de_var 1)) da_nil))) dss_nil))), fun ds Q h => rd_above ds Q h⟩)
theorem sc_below : FnScope ["order", "vertex"] ["order", "vertex"] (defScope s_below) := ⟨rfl, rfl, rfl, by decide +kernel, rfl, by decide +kernel, by decide +kernel⟩
theorem ok_below {f : Addr} {fd : FuncData} (F : Fun K "below" "below" s_below f fd) (hm : mg "below" = some (.ref f)) (T : Txt mg) (D_check_order : DDef P w K mg base "check_order" s_check_order 6 ["order"] sp_check_order) (D_check_vertex : DDef P w K mg base "check_vertex" s_check_vertex 4 ["many", "vertex"] sp_check_vertex) (D_under_lists : DDef P w K mg base "under_lists" s_under_lists 1 ["order"] sp_under_lists) : DDef P w K mg base "below" s_below 7 ["order", "vertex"] sp_below :=
  def_ok (k := 6) F hm sc_below (fun ds Q h => by first | (obtain ⟨_, rfl, _⟩ := h; rfl) | (obtain ⟨_, _, rfl, _⟩ := h; rfl) | (obtain ⟨_, _, _, rfl, _⟩ := h; rfl) | (obtain ⟨_, _, _, _, rfl, _⟩ := h; rfl) | (obtain ⟨_, _, _, _, _, rfl, _⟩ := h; rfl)) (fun cdv A outer s H hr => ⟨t_below, (dss_cons (ds_expr (de_call D_check_order hr (by decide) rfl (fun _ _ _ _ _ _ us hl => match us, hl with | [_], _ => rfl) (da_cons (de_var 0) da_nil))) (dss_cons (ds_expr (de_call D_check_vertex hr (by decide) rfl (fun _ _ _ _ _ _ us hl => match us, hl with | [_, _], _ => rfl) (da_cons (de_ix (de_var 0) de_int) (da_cons (de_var 1) da_nil)))) (dss_cons (ds_ret (de_tuple rfl T.b_tuple (da_cons (de_ix (de_call D_under_lists hr (by decide) rfl (fun _ _ _ _ _ _ us hl => match us, hl with | [_], _ => rfl) (da_cons (de_var 0) da_nil)) (de_var 1)) da_nil))) dss_nil))), fun ds Q h => rd_below ds Q h⟩)
theorem sc_reversed_order : FnScope ["order", "one", "other"] ["order"] (defScope s_reversed_order) := ⟨rfl, rfl, rfl, by decide +kernel, rfl, by decide +kernel, by decide +kernel⟩
theorem ok_reversed_order {f : Addr} {fd : FuncData} (F : Fun K "reversed_order" "reversed_order" s_reversed_order f fd) (hm : mg "reversed_order" = some (.ref f)) (T : Txt mg) (D_check_order : DDef P w K mg base "check_order" s_check_order 6 ["order"] sp_check_order) : DDef P w K mg base "reversed_order" s_reversed_order 7 ["order"] sp_reversed_order :=
  def_ok (k := 6) F hm sc_reversed_order (fun ds Q h => by first | (obtain ⟨_, rfl, _⟩ := h; rfl) | (obtain ⟨_, _, rfl, _⟩ := h; rfl) | (obtain ⟨_, _, _, rfl, _⟩ := h; rfl) | (obtain ⟨_, _, _, _, rfl, _⟩ := h; rfl) | (obtain ⟨_, _, _, _, _, rfl, _⟩ := h; rfl)) (fun cdv A outer s H hr => ⟨t_reversed_order, (dss_cons (ds_expr (de_call D_check_order hr (by decide) rfl (fun _ _ _ _ _ _ us hl => match us, hl with | [_], _ => rfl) (da_cons (de_var 0) da_nil))) (dss_cons (ds_ret (de_tup (da_cons (de_ix (de_var 0) de_int) (da_cons (de_tuple rfl T.b_tuple (da_cons (DF.de (df_sorted rfl T.b_sorted (da_cons (DF.de (df_comp rfl sc_reversed_order.nd (DI.o (di_seq (de_ix (de_var 0) de_int))) (own := [("one", 1), ("other", 2)]) (by dsimp only [Cx.blk, Cx.nox, Cx.wish, cxOf, envOfC]; exact ⟨rfl, by decide +kernel, by decide +kernel, by decide +kernel, by decide +kernel⟩) (fun _ _ _ _ _ => (dg_tup rfl (dgs_cons (dg_name 1 sc_reversed_order.nd rfl (.inl rfl)) (dgs_cons (dg_name 2 sc_reversed_order.nd rfl (.inl rfl)) dgs_nil)))) (fun _ _ _ _ _ => dts_nil) (fun _ _ _ _ _ => (de_tup (da_cons (de_var 2) (da_cons (de_var 1) da_nil)))))) da_nil))) da_nil)) da_nil)))) dss_nil)), fun ds Q h => rd_reversed_order ds Q h⟩)
theorem sc_is_order : FnScope ["value"] ["value"] (defScope s_is_order) := ⟨rfl, rfl, rfl, by decide +kernel, rfl, by decide +kernel, by decide +kernel⟩
theorem ok_is_order {f : Addr} {fd : FuncData} (F : Fun K "is_order" "is_order" s_is_order f fd) (hm : mg "is_order" = some (.ref f)) (T : Txt mg) (D_is_order_of : DDef P w K mg base "is_order_of" s_is_order_of 5 ["value"] sp_is_order_of) : DDef P w K mg base "is_order" s_is_order 6 ["value"] sp_is_order :=
  def_ok (k := 5) F hm sc_is_order (fun ds Q h => by match ds, h with | [_], _ => rfl) (fun cdv A outer s H hr => ⟨t_is_order, (dss_cons (ds_ret (de_call D_is_order_of hr (by decide) rfl (fun _ _ _ _ _ _ us hl => match us, hl with | [_], _ => rfl) (da_cons (de_var 0) da_nil))) dss_nil), fun ds Q h => rd_is_order ds Q h⟩)
theorem sc_loose_graph : FnScope ["order", "many", "under", "edges", "one", "some", "other"] ["order"] (defScope s_loose_graph) := ⟨rfl, rfl, rfl, by decide +kernel, rfl, by decide +kernel, by decide +kernel⟩
theorem ok_loose_graph {f : Addr} {fd : FuncData} (F : Fun K "loose_graph" "loose_graph" s_loose_graph f fd) (hm : mg "loose_graph" = some (.ref f)) (T : Txt mg) (D_check_order : DDef P w K mg base "check_order" s_check_order 6 ["order"] sp_check_order) (D_under_lists : DDef P w K mg base "under_lists" s_under_lists 1 ["order"] sp_under_lists) : DDef P w K mg base "loose_graph" s_loose_graph 7 ["order"] sp_loose_graph :=
  def_ok (k := 6) F hm sc_loose_graph (fun ds Q h => by first | (obtain ⟨_, rfl, _⟩ := h; rfl) | (obtain ⟨_, _, rfl, _⟩ := h; rfl) | (obtain ⟨_, _, _, rfl, _⟩ := h; rfl) | (obtain ⟨_, _, _, _, rfl, _⟩ := h; rfl) | (obtain ⟨_, _, _, _, _, rfl, _⟩ := h; rfl)) (fun cdv A outer s H hr => ⟨t_loose_graph, (dss_cons (ds_expr (de_call D_check_order hr (by decide) rfl (fun _ _ _ _ _ _ us hl => match us, hl with | [_], _ => rfl) (da_cons (de_var 0) da_nil))) (dss_cons (ds_parN (n := 3) rfl (dvs_cons (DE.v (de_ix (de_var 0) de_int)) (dvs_cons (DE.v (de_call D_under_lists hr (by decide) rfl (fun _ _ _ _ _ _ us hl => match us, hl with | [_], _ => rfl) (da_cons (de_var 0) da_nil))) (dvs_cons (DE.v (DF.de (df_lst da_nil))) dvs_nil))) (ng_cons 1 sc_loose_graph.nd rfl (.inl rfl) (ng_cons 2 sc_loose_graph.nd rfl (.inr rfl) (ng_cons 3 sc_loose_graph.nd rfl (.inl rfl) ng_nil)))) (dss_cons (ds_for PassesOwn.never rfl (di_range1 rfl T.b_range (da_cons (de_var 1) da_nil)) (dg_name 4 sc_loose_graph.nd rfl (.inr rfl)) (dss_cons (ds_setLc 5 rfl sc_loose_graph.nd rfl rfl (by rfl) (DI.o (di_range2 rfl T.b_range (da_cons (de_add (de_var 4) de_int) (da_cons (de_var 1) da_nil)))) (own := [("other", 6)]) (by dsimp only [Cx.blk, Cx.nox, Cx.wish, cxOf, envOfC]; exact ⟨rfl, by decide +kernel, by decide +kernel, by decide +kernel, by decide +kernel⟩) (fun _ _ _ _ _ => (dg_name 6 sc_loose_graph.nd rfl (.inl rfl))) (fun _ _ _ _ _ => (dts_one (DW.dt (dw_and (dt_notin hr (de_var 4) (de_ix (de_var 2) (de_var 6))) (dw_and1 (dt_notin hr (de_var 6) (de_ix (de_var 2) (de_var 4)))))))) (fun _ _ _ _ _ => (de_var 6)) cv_sh) (dss_cons (ds_set 3 sc_loose_graph.nd rfl (.inl rfl) (DE.v (de_add (de_var 3) (DF.de (df_comp rfl sc_loose_graph.nd (DI.o (di_seq (de_var 5))) (own := [("other", 6)]) (by dsimp only [Cx.blk, Cx.nox, Cx.wish, cxOf, envOfC]; exact ⟨rfl, by decide +kernel, by decide +kernel, by decide +kernel, by decide +kernel⟩) (fun _ _ _ _ _ => (dg_name 6 sc_loose_graph.nd rfl (.inl rfl))) (fun _ _ _ _ _ => dts_nil) (fun _ _ _ _ _ => (de_tup (da_cons (de_var 4) (da_cons (de_var 6) da_nil))))))))) dss_nil))) (dss_cons (ds_ret (de_tup (da_cons (de_var 1) (da_cons (de_tuple rfl T.b_tuple (da_cons (de_var 3) da_nil)) da_nil)))) dss_nil)))), fun ds Q h => rd_loose_graph ds Q h⟩)
theorem sc_law : FnScope ["script", "well", "turn", "under", "many", "rank", "over", "low", "high", "edges", "one", "other", "turned", "step", "spot", "due", "loose"] ["script"] (defScope s_law) := ⟨rfl, rfl, rfl, by decide +kernel, rfl, by decide +kernel, by decide +kernel⟩
theorem ok_law {f fW : Addr} {fd fdW : FuncData} (F : Fun K "law" "law" s_law f fd) (T : Txt mg) (FW : Fun K "_law_well" "_law_well" s__law_well fW fdW) (mW : mg "_law_well" = some (.ref fW)) (D__law_drawn_under : DDef P w K mg base "_law_drawn_under" s__law_drawn_under 3 ["well", "most"] sp__law_drawn_under) (D__law_ranked : DDef P w K mg base "_law_ranked" s__law_ranked 1 ["under"] sp__law_ranked) (D__law_dip : DDef P w K mg base "_law_dip" s__law_dip 1 ["well", "many"] sp__law_dip) (D__law_like : DDef P w K mg base "_law_like" s__law_like 9 ["told", "due"] sp__law_like) (D_above : DDef P w K mg base "above" s_above 7 ["order", "vertex"] sp_above) (D_below : DDef P w K mg base "below" s_below 7 ["order", "vertex"] sp_below) (D_reversed_order : DDef P w K mg base "reversed_order" s_reversed_order 7 ["order"] sp_reversed_order) (D_is_order : DDef P w K mg base "is_order" s_is_order 6 ["value"] sp_is_order) (D_loose_graph : DDef P w K mg base "loose_graph" s_loose_graph 7 ["order"] sp_loose_graph) : FnOk P w K mg base CX0 10 f fd ["script"] (spLawK K) := by
  have GW : FnOk P w K mg base CX0 1 fW fdW ["script"] (spWell K) := ok__law_well FW T
  refine F.ok sc_law (fun vs H Q E h => ?_) (fun cdv A outer s H vs Q E hr h => ?_)
  · obtain ⟨a, ns, rfl, _⟩ := h
    rfl
  · obtain ⟨a, ns, rfl, hS, hl, k⟩ := h
    have dr : DSs (cxOf CX0 P w K mg base ["script", "well", "turn", "under", "many", "rank", "over", "low", "high", "edges", "one", "other", "turned", "step", "spot", "due", "loose"] "law" (defScope s_law) f cdv A outer s H E0).nox ((defBody s_law).drop 1) t_law := (dss_cons (ds_for PassesOwn.never rfl (di_range1 rfl T.b_range (da_cons de_int da_nil)) (dg_name 2 sc_law.nd rfl (.inl rfl)) (dss_cons (ds_set 3 sc_law.nd rfl (.inr rfl) (DE.v (de_call D__law_drawn_under hr (by decide) rfl (fun _ _ _ _ _ _ us hl => match us, hl with | [_, _], _ => rfl) (da_cons (de_var 1) (da_cons de_int da_nil))))) (dss_cons (ds_parN (n := 2) rfl (dvs_cons (DE.v (de_len rfl T.b_len (da_cons (de_var 3) da_nil))) (dvs_cons (DE.v (de_call D__law_ranked hr (by decide) rfl (fun _ _ _ _ _ _ us hl => match us, hl with | [_], _ => rfl) (da_cons (de_var 3) da_nil))) dvs_nil)) (ng_cons 4 sc_law.nd rfl (.inr rfl) (ng_cons 5 sc_law.nd rfl (.inl rfl) ng_nil))) (dss_cons (ds_setLc 6 rfl sc_law.nd rfl rfl (by rfl) (DI.o (di_range1 rfl T.b_range (da_cons (de_var 4) da_nil))) (own := [("low", 7)]) (by dsimp only [Cx.blk, Cx.nox, Cx.wish, cxOf, envOfC]; exact ⟨rfl, by decide +kernel, by decide +kernel, by decide +kernel, by decide +kernel⟩) (fun _ _ _ _ _ => (dg_name 7 sc_law.nd rfl (.inr rfl))) (fun _ _ _ _ _ => dts_nil) (fun _ _ _ _ _ => (DF.de (df_comp rfl sc_law.nd (DI.o (di_range1 rfl T.b_range (da_cons (de_var 4) da_nil))) (own := [("high", 8)]) (blk_in (by dsimp only [Cx.blk, Cx.nox, Cx.wish, cxOf, envOfC]; exact ⟨rfl, by decide +kernel, by decide +kernel, by decide +kernel, by decide +kernel⟩)) (fun _ _ _ _ _ => (dg_name 8 sc_law.nd rfl (.inl rfl))) (fun _ _ _ _ _ => (dts_one (dt_in hr (de_var 7) (de_ix (de_var 3) (de_var 8))))) (fun _ _ _ _ _ => (de_var 8))))) cv_sh) (dss_cons (ds_set 9 sc_law.nd rfl (.inl rfl) (DF.v (df_lst da_nil))) (dss_cons (ds_for PassesOwn.never rfl (di_range1 rfl T.b_range (da_cons (de_var 4) da_nil)) (dg_name 10 sc_law.nd rfl (.inr rfl)) (dss_cons (ds_extend 9 rfl (.inl rfl) (DF.de (df_comp rfl sc_law.nd (DI.o (di_range2 rfl T.b_range (da_cons (de_add (de_var 10) de_int) (da_cons (de_var 4) da_nil)))) (own := [("other", 11)]) (by dsimp only [Cx.blk, Cx.nox, Cx.wish, cxOf, envOfC]; exact ⟨rfl, by decide +kernel, by decide +kernel, by decide +kernel, by decide +kernel⟩) (fun _ _ _ _ _ => (dg_name 11 sc_law.nd rfl (.inl rfl))) (fun _ _ _ _ _ => (dts_one (DW.dt (dw_and (dt_notin hr (de_var 10) (de_ix (de_var 3) (de_var 11))) (dw_and1 (dt_notin hr (de_var 11) (de_ix (de_var 3) (de_var 10)))))))) (fun _ _ _ _ _ => (de_tup (da_cons (de_var 10) (da_cons (de_var 11) da_nil))))))) dss_nil)) (dss_freeze 9 (dss_cons (ds_set 12 sc_law.nd rfl (.inl rfl) (DE.v (de_call D__law_ranked hr (by decide) rfl (fun _ _ _ _ _ _ us hl => match us, hl with | [_], _ => rfl) (da_cons (de_var 6) da_nil)))) (dss_cons (ds_for PassesOwn.never rfl (di_range1 rfl T.b_range (da_cons (de_if (dt_gt (de_var 4) de_int) de_int de_int) da_nil)) (dg_name 13 sc_law.nd rfl (.inl rfl)) (dss_cons (ds_set 14 sc_law.nd rfl (.inl rfl) (DE.v (de_call D__law_dip hr (by decide) rfl (fun _ _ _ _ _ _ us hl => match us, hl with | [_, _], _ => rfl) (da_cons (de_var 1) (da_cons (de_var 4) da_nil))))) (dss_cons (ds_set 15 sc_law.nd rfl (.inl rfl) (DE.v (de_tup (da_cons (de_tuple rfl T.b_tuple (da_cons (DF.de (df_sorted rfl T.b_sorted (da_cons (de_ix (de_var 3) (de_var 14)) da_nil))) da_nil)) (da_cons (de_tuple rfl T.b_tuple (da_cons (de_ix (de_var 6) (de_var 14)) da_nil)) da_nil))))) (dss_cons (ds_if (dt_not (dt_val (de_call D__law_like hr (by decide) rfl (fun _ _ _ _ _ _ us hl => match us, hl with | [_, _], _ => rfl) (da_cons (de_tup (da_cons (de_call D_below hr (by decide) rfl (fun _ _ _ _ _ _ us hl => match us, hl with | [_, _], _ => rfl) (da_cons (de_var 5) (da_cons (de_var 14) da_nil))) (da_cons (de_callKw D_above hr (by decide) rfl (kw_id (fun _ _ _ _ _ _ _ _ => rfl) rfl) (by decide) (dk_cons (de_var 5) (dk_cons (de_var 14) dk_nil))) da_nil))) (da_cons (de_var 15) da_nil))))) (dss_cons (ds_ret de_bl) dss_nil) dss_nil) (dss_cons (ds_if (dt_not (dt_val (de_call D__law_like hr (by decide) rfl (fun _ _ _ _ _ _ us hl => match us, hl with | [_, _], _ => rfl) (da_cons (de_tup (da_cons (de_call D_above hr (by decide) rfl (fun _ _ _ _ _ _ us hl => match us, hl with | [_, _], _ => rfl) (da_cons (de_var 12) (da_cons (de_var 14) da_nil))) (da_cons (de_callKw D_below hr (by decide) rfl (kw_two (fun _ _ _ _ _ _ _ _ => rfl) rfl) (by decide) (dk_cons (de_var 14) (dk_cons (de_var 12) dk_nil))) da_nil))) (da_cons (de_var 15) da_nil))))) (dss_cons (ds_ret de_bl) dss_nil) dss_nil) dss_nil))))) (dss_cons (ds_if (dt_not (dt_val (de_call D__law_like hr (by decide) rfl (fun _ _ _ _ _ _ us hl => match us, hl with | [_, _], _ => rfl) (da_cons (de_tup (da_cons (de_call D_reversed_order hr (by decide) rfl (fun _ _ _ _ _ _ us hl => match us, hl with | [_], _ => rfl) (da_cons (de_var 5) da_nil)) (da_cons (de_callKw D_reversed_order hr (by decide) rfl (kw_one (fun _ _ _ _ _ _ _ => rfl) rfl) (by decide) (dk_cons (de_var 12) dk_nil)) da_nil))) (da_cons (de_tup (da_cons (de_var 12) (da_cons (de_var 5) da_nil))) da_nil))))) (dss_cons (ds_ret de_bl) dss_nil) dss_nil) (dss_cons (ds_set 16 sc_law.nd rfl (.inl rfl) (DE.v (de_tup (da_cons (de_var 4) (da_cons (de_tuple rfl T.b_tuple (da_cons (de_var 9) da_nil)) da_nil))))) (dss_cons (ds_if (dt_not (dt_val (de_call D__law_like hr (by decide) rfl (fun _ _ _ _ _ _ us hl => match us, hl with | [_, _], _ => rfl) (da_cons (de_tup (da_cons (de_call D_loose_graph hr (by decide) rfl (fun _ _ _ _ _ _ us hl => match us, hl with | [_], _ => rfl) (da_cons (de_var 5) da_nil)) (da_cons (de_callKw D_loose_graph hr (by decide) rfl (kw_one (fun _ _ _ _ _ _ _ => rfl) rfl) (by decide) (dk_cons (de_var 12) dk_nil)) (da_cons (de_call D_is_order hr (by decide) rfl (fun _ _ _ _ _ _ us hl => match us, hl with | [_], _ => rfl) (da_cons (de_var 5) da_nil)) (da_cons (de_callKw D_is_order hr (by decide) rfl (kw_one (fun _ _ _ _ _ _ _ => rfl) rfl) (by decide) (dk_cons (de_var 12) dk_nil)) da_nil))))) (da_cons (de_tup (da_cons (de_var 16) (da_cons (de_var 16) (da_cons de_bl (da_cons de_bl da_nil))))) da_nil))))) (dss_cons (ds_ret de_bl) dss_nil) dss_nil) dss_nil)))))))))))) (dss_cons (ds_ret de_bl) dss_nil))
    refine ⟨_, pss_cons (ps_set (i := 1) sc_law.nd rfl (.inl rfl) (pe_call (E := E0) GW (hr.mono (by decide)) rfl mW FW.kp (FW.binds (ps := ["script"]) fun _ _ _ _ _ _ us hl => match us, hl with | [_], _ => rfl) .nil pass0 (pa_cons (pe_var (i := 0) rfl (.inl rfl) (by decide) (by decide)) pa_nil) (by decide) rfl rfl)) (PSs.any dr), ?_⟩
    refine ⟨.ref a, rfl, a, ns, rfl, hS, hl, fun p ns' H' wk hp => ?_⟩
    exact law_start (n := 15) rfl rfl hp wk (fun H' => k H') (rd_law _ _ rfl)
end
theorem all_mk {l : PySem.W.OpenLaw} {w : World} {K : PySem.W.Frag} {h : Heap} {mg : Str → Option Value} {fa f__law_well f__law_dip f__law_handed_on f__law_by_ends f__law_drawn_spans f__law_drawn_levels f__law_renamed f__law_mixed_up f__law_drawn_under f__law_ranked f__law_like f_is_integer f_is_natural f_is_vertex f_is_step f_ascends f_under_lists f_is_handed_on f_is_order_of f_check_order f_check_vertex f_over_lists f_above f_below f_reversed_order f_is_order f_loose_graph f_law : Addr} (X : K.In h) (G : h.Ns mainGlobals mg) (hfa : mg "law" = some (.ref fa))
    {od0 an0 od1 an1 od2 an2 od3 an3 od4 an4 od5 an5 od6 an6 od7 an7 od8 an8 od9 an9 od10 an10 od11 an11 od12 an12 od13 an13 od14 an14 od15 an15 od16 an16 od17 an17 od18 an18 od19 an19 od20 an20 od21 an21 od22 an22 od23 an23 od24 an24 od25 an25 od26 an26 od27 an27 : Option Addr} {sl0 sl1 sl2 sl3 sl4 sl5 sl6 sl7 sl8 sl9 sl10 sl11 sl12 sl13 sl14 sl15 sl16 sl17 sl18 sl19 sl20 sl21 sl22 sl23 sl24 sl25 sl26 sl27 : Array (Option Value)} {oc0 kV0 dc0 pm0 cd0 ct0 oc1 kV1 dc1 pm1 cd1 ct1 oc2 kV2 dc2 pm2 cd2 ct2 oc3 kV3 dc3 pm3 cd3 ct3 oc4 kV4 dc4 pm4 cd4 ct4 oc5 kV5 dc5 pm5 cd5 ct5 oc6 kV6 dc6 pm6 cd6 ct6 oc7 kV7 dc7 pm7 cd7 ct7 oc8 kV8 dc8 pm8 cd8 ct8 oc9 kV9 dc9 pm9 cd9 ct9 oc10 kV10 dc10 pm10 cd10 ct10 oc11 kV11 dc11 pm11 cd11 ct11 oc12 kV12 dc12 pm12 cd12 ct12 oc13 kV13 dc13 pm13 cd13 ct13 oc14 kV14 dc14 pm14 cd14 ct14 oc15 kV15 dc15 pm15 cd15 ct15 oc16 kV16 dc16 pm16 cd16 ct16 oc17 kV17 dc17 pm17 cd17 ct17 oc18 kV18 dc18 pm18 cd18 ct18 oc19 kV19 dc19 pm19 cd19 ct19 oc20 kV20 dc20 pm20 cd20 ct20 oc21 kV21 dc21 pm21 cd21 ct21 oc22 kV22 dc22 pm22 cd22 ct22 oc23 kV23 dc23 pm23 cd23 ct23 oc24 kV24 dc24 pm24 cd24 ct24 oc25 kV25 dc25 pm25 cd25 ct25 oc26 kV26 dc26 pm26 cd26 ct26 oc27 kV27 dc27 pm27 cd27 ct27 : Value}
    (a0 : PySem.W.nsIn K mainGlobals "_law_well" = some (some (.ref f__law_well))) (l0 : K.lookup f__law_well = some ⟨oc0, od0, .func (PySem.W.fnOf "_law_well" "_law_well" (defArgs s__law_well) (defBody s__law_well) (defScope s__law_well) .none kV0 dc0 pm0 an0 cd0 ct0), sl0⟩) (c0 : PySem.W.codeIn K cd0 "_law_well" = true) (k0 : PySem.W.keepIn K (.ref f__law_well) = true)
    (a1 : PySem.W.nsIn K mainGlobals "_law_dip" = some (some (.ref f__law_dip))) (l1 : K.lookup f__law_dip = some ⟨oc1, od1, .func (PySem.W.fnOf "_law_dip" "_law_dip" (defArgs s__law_dip) (defBody s__law_dip) (defScope s__law_dip) .none kV1 dc1 pm1 an1 cd1 ct1), sl1⟩) (c1 : PySem.W.codeIn K cd1 "_law_dip" = true) (k1 : PySem.W.keepIn K (.ref f__law_dip) = true)
    (a2 : PySem.W.nsIn K mainGlobals "_law_handed_on" = some (some (.ref f__law_handed_on))) (l2 : K.lookup f__law_handed_on = some ⟨oc2, od2, .func (PySem.W.fnOf "_law_handed_on" "_law_handed_on" (defArgs s__law_handed_on) (defBody s__law_handed_on) (defScope s__law_handed_on) .none kV2 dc2 pm2 an2 cd2 ct2), sl2⟩) (c2 : PySem.W.codeIn K cd2 "_law_handed_on" = true) (k2 : PySem.W.keepIn K (.ref f__law_handed_on) = true)
    (a3 : PySem.W.nsIn K mainGlobals "_law_by_ends" = some (some (.ref f__law_by_ends))) (l3 : K.lookup f__law_by_ends = some ⟨oc3, od3, .func (PySem.W.fnOf "_law_by_ends" "_law_by_ends" (defArgs s__law_by_ends) (defBody s__law_by_ends) (defScope s__law_by_ends) .none kV3 dc3 pm3 an3 cd3 ct3), sl3⟩) (c3 : PySem.W.codeIn K cd3 "_law_by_ends" = true) (k3 : PySem.W.keepIn K (.ref f__law_by_ends) = true)
    (a4 : PySem.W.nsIn K mainGlobals "_law_drawn_spans" = some (some (.ref f__law_drawn_spans))) (l4 : K.lookup f__law_drawn_spans = some ⟨oc4, od4, .func (PySem.W.fnOf "_law_drawn_spans" "_law_drawn_spans" (defArgs s__law_drawn_spans) (defBody s__law_drawn_spans) (defScope s__law_drawn_spans) .none kV4 dc4 pm4 an4 cd4 ct4), sl4⟩) (c4 : PySem.W.codeIn K cd4 "_law_drawn_spans" = true) (k4 : PySem.W.keepIn K (.ref f__law_drawn_spans) = true)
    (a5 : PySem.W.nsIn K mainGlobals "_law_drawn_levels" = some (some (.ref f__law_drawn_levels))) (l5 : K.lookup f__law_drawn_levels = some ⟨oc5, od5, .func (PySem.W.fnOf "_law_drawn_levels" "_law_drawn_levels" (defArgs s__law_drawn_levels) (defBody s__law_drawn_levels) (defScope s__law_drawn_levels) .none kV5 dc5 pm5 an5 cd5 ct5), sl5⟩) (c5 : PySem.W.codeIn K cd5 "_law_drawn_levels" = true) (k5 : PySem.W.keepIn K (.ref f__law_drawn_levels) = true)
    (a6 : PySem.W.nsIn K mainGlobals "_law_renamed" = some (some (.ref f__law_renamed))) (l6 : K.lookup f__law_renamed = some ⟨oc6, od6, .func (PySem.W.fnOf "_law_renamed" "_law_renamed" (defArgs s__law_renamed) (defBody s__law_renamed) (defScope s__law_renamed) .none kV6 dc6 pm6 an6 cd6 ct6), sl6⟩) (c6 : PySem.W.codeIn K cd6 "_law_renamed" = true) (k6 : PySem.W.keepIn K (.ref f__law_renamed) = true)
    (a7 : PySem.W.nsIn K mainGlobals "_law_mixed_up" = some (some (.ref f__law_mixed_up))) (l7 : K.lookup f__law_mixed_up = some ⟨oc7, od7, .func (PySem.W.fnOf "_law_mixed_up" "_law_mixed_up" (defArgs s__law_mixed_up) (defBody s__law_mixed_up) (defScope s__law_mixed_up) .none kV7 dc7 pm7 an7 cd7 ct7), sl7⟩) (c7 : PySem.W.codeIn K cd7 "_law_mixed_up" = true) (k7 : PySem.W.keepIn K (.ref f__law_mixed_up) = true)
    (a8 : PySem.W.nsIn K mainGlobals "_law_drawn_under" = some (some (.ref f__law_drawn_under))) (l8 : K.lookup f__law_drawn_under = some ⟨oc8, od8, .func (PySem.W.fnOf "_law_drawn_under" "_law_drawn_under" (defArgs s__law_drawn_under) (defBody s__law_drawn_under) (defScope s__law_drawn_under) .none kV8 dc8 pm8 an8 cd8 ct8), sl8⟩) (c8 : PySem.W.codeIn K cd8 "_law_drawn_under" = true) (k8 : PySem.W.keepIn K (.ref f__law_drawn_under) = true)
    (a9 : PySem.W.nsIn K mainGlobals "_law_ranked" = some (some (.ref f__law_ranked))) (l9 : K.lookup f__law_ranked = some ⟨oc9, od9, .func (PySem.W.fnOf "_law_ranked" "_law_ranked" (defArgs s__law_ranked) (defBody s__law_ranked) (defScope s__law_ranked) .none kV9 dc9 pm9 an9 cd9 ct9), sl9⟩) (c9 : PySem.W.codeIn K cd9 "_law_ranked" = true) (k9 : PySem.W.keepIn K (.ref f__law_ranked) = true)
    (a10 : PySem.W.nsIn K mainGlobals "_law_like" = some (some (.ref f__law_like))) (l10 : K.lookup f__law_like = some ⟨oc10, od10, .func (PySem.W.fnOf "_law_like" "_law_like" (defArgs s__law_like) (defBody s__law_like) (defScope s__law_like) .none kV10 dc10 pm10 an10 cd10 ct10), sl10⟩) (c10 : PySem.W.codeIn K cd10 "_law_like" = true) (k10 : PySem.W.keepIn K (.ref f__law_like) = true)
    (a11 : PySem.W.nsIn K mainGlobals "is_integer" = some (some (.ref f_is_integer))) (l11 : K.lookup f_is_integer = some ⟨oc11, od11, .func (PySem.W.fnOf "is_integer" "is_integer" (defArgs s_is_integer) (defBody s_is_integer) (defScope s_is_integer) .none kV11 dc11 pm11 an11 cd11 ct11), sl11⟩) (c11 : PySem.W.codeIn K cd11 "is_integer" = true) (k11 : PySem.W.keepIn K (.ref f_is_integer) = true)
    (a12 : PySem.W.nsIn K mainGlobals "is_natural" = some (some (.ref f_is_natural))) (l12 : K.lookup f_is_natural = some ⟨oc12, od12, .func (PySem.W.fnOf "is_natural" "is_natural" (defArgs s_is_natural) (defBody s_is_natural) (defScope s_is_natural) .none kV12 dc12 pm12 an12 cd12 ct12), sl12⟩) (c12 : PySem.W.codeIn K cd12 "is_natural" = true) (k12 : PySem.W.keepIn K (.ref f_is_natural) = true)
    (a13 : PySem.W.nsIn K mainGlobals "is_vertex" = some (some (.ref f_is_vertex))) (l13 : K.lookup f_is_vertex = some ⟨oc13, od13, .func (PySem.W.fnOf "is_vertex" "is_vertex" (defArgs s_is_vertex) (defBody s_is_vertex) (defScope s_is_vertex) .none kV13 dc13 pm13 an13 cd13 ct13), sl13⟩) (c13 : PySem.W.codeIn K cd13 "is_vertex" = true) (k13 : PySem.W.keepIn K (.ref f_is_vertex) = true)
    (a14 : PySem.W.nsIn K mainGlobals "is_step" = some (some (.ref f_is_step))) (l14 : K.lookup f_is_step = some ⟨oc14, od14, .func (PySem.W.fnOf "is_step" "is_step" (defArgs s_is_step) (defBody s_is_step) (defScope s_is_step) .none kV14 dc14 pm14 an14 cd14 ct14), sl14⟩) (c14 : PySem.W.codeIn K cd14 "is_step" = true) (k14 : PySem.W.keepIn K (.ref f_is_step) = true)
    (a15 : PySem.W.nsIn K mainGlobals "ascends" = some (some (.ref f_ascends))) (l15 : K.lookup f_ascends = some ⟨oc15, od15, .func (PySem.W.fnOf "ascends" "ascends" (defArgs s_ascends) (defBody s_ascends) (defScope s_ascends) .none kV15 dc15 pm15 an15 cd15 ct15), sl15⟩) (c15 : PySem.W.codeIn K cd15 "ascends" = true) (k15 : PySem.W.keepIn K (.ref f_ascends) = true)
    (a16 : PySem.W.nsIn K mainGlobals "under_lists" = some (some (.ref f_under_lists))) (l16 : K.lookup f_under_lists = some ⟨oc16, od16, .func (PySem.W.fnOf "under_lists" "under_lists" (defArgs s_under_lists) (defBody s_under_lists) (defScope s_under_lists) .none kV16 dc16 pm16 an16 cd16 ct16), sl16⟩) (c16 : PySem.W.codeIn K cd16 "under_lists" = true) (k16 : PySem.W.keepIn K (.ref f_under_lists) = true)
    (a17 : PySem.W.nsIn K mainGlobals "is_handed_on" = some (some (.ref f_is_handed_on))) (l17 : K.lookup f_is_handed_on = some ⟨oc17, od17, .func (PySem.W.fnOf "is_handed_on" "is_handed_on" (defArgs s_is_handed_on) (defBody s_is_handed_on) (defScope s_is_handed_on) .none kV17 dc17 pm17 an17 cd17 ct17), sl17⟩) (c17 : PySem.W.codeIn K cd17 "is_handed_on" = true) (k17 : PySem.W.keepIn K (.ref f_is_handed_on) = true)
    (a18 : PySem.W.nsIn K mainGlobals "is_order_of" = some (some (.ref f_is_order_of))) (l18 : K.lookup f_is_order_of = some ⟨oc18, od18, .func (PySem.W.fnOf "is_order_of" "is_order_of" (defArgs s_is_order_of) (defBody s_is_order_of) (defScope s_is_order_of) .none kV18 dc18 pm18 an18 cd18 ct18), sl18⟩) (c18 : PySem.W.codeIn K cd18 "is_order_of" = true) (k18 : PySem.W.keepIn K (.ref f_is_order_of) = true)
    (a19 : PySem.W.nsIn K mainGlobals "check_order" = some (some (.ref f_check_order))) (l19 : K.lookup f_check_order = some ⟨oc19, od19, .func (PySem.W.fnOf "check_order" "check_order" (defArgs s_check_order) (defBody s_check_order) (defScope s_check_order) .none kV19 dc19 pm19 an19 cd19 ct19), sl19⟩) (c19 : PySem.W.codeIn K cd19 "check_order" = true) (k19 : PySem.W.keepIn K (.ref f_check_order) = true)
    (a20 : PySem.W.nsIn K mainGlobals "check_vertex" = some (some (.ref f_check_vertex))) (l20 : K.lookup f_check_vertex = some ⟨oc20, od20, .func (PySem.W.fnOf "check_vertex" "check_vertex" (defArgs s_check_vertex) (defBody s_check_vertex) (defScope s_check_vertex) .none kV20 dc20 pm20 an20 cd20 ct20), sl20⟩) (c20 : PySem.W.codeIn K cd20 "check_vertex" = true) (k20 : PySem.W.keepIn K (.ref f_check_vertex) = true)
    (a21 : PySem.W.nsIn K mainGlobals "over_lists" = some (some (.ref f_over_lists))) (l21 : K.lookup f_over_lists = some ⟨oc21, od21, .func (PySem.W.fnOf "over_lists" "over_lists" (defArgs s_over_lists) (defBody s_over_lists) (defScope s_over_lists) .none kV21 dc21 pm21 an21 cd21 ct21), sl21⟩) (c21 : PySem.W.codeIn K cd21 "over_lists" = true) (k21 : PySem.W.keepIn K (.ref f_over_lists) = true)
    (a22 : PySem.W.nsIn K mainGlobals "above" = some (some (.ref f_above))) (l22 : K.lookup f_above = some ⟨oc22, od22, .func (PySem.W.fnOf "above" "above" (defArgs s_above) (defBody s_above) (defScope s_above) .none kV22 dc22 pm22 an22 cd22 ct22), sl22⟩) (c22 : PySem.W.codeIn K cd22 "above" = true) (k22 : PySem.W.keepIn K (.ref f_above) = true)
    (a23 : PySem.W.nsIn K mainGlobals "below" = some (some (.ref f_below))) (l23 : K.lookup f_below = some ⟨oc23, od23, .func (PySem.W.fnOf "below" "below" (defArgs s_below) (defBody s_below) (defScope s_below) .none kV23 dc23 pm23 an23 cd23 ct23), sl23⟩) (c23 : PySem.W.codeIn K cd23 "below" = true) (k23 : PySem.W.keepIn K (.ref f_below) = true)
    (a24 : PySem.W.nsIn K mainGlobals "reversed_order" = some (some (.ref f_reversed_order))) (l24 : K.lookup f_reversed_order = some ⟨oc24, od24, .func (PySem.W.fnOf "reversed_order" "reversed_order" (defArgs s_reversed_order) (defBody s_reversed_order) (defScope s_reversed_order) .none kV24 dc24 pm24 an24 cd24 ct24), sl24⟩) (c24 : PySem.W.codeIn K cd24 "reversed_order" = true) (k24 : PySem.W.keepIn K (.ref f_reversed_order) = true)
    (a25 : PySem.W.nsIn K mainGlobals "is_order" = some (some (.ref f_is_order))) (l25 : K.lookup f_is_order = some ⟨oc25, od25, .func (PySem.W.fnOf "is_order" "is_order" (defArgs s_is_order) (defBody s_is_order) (defScope s_is_order) .none kV25 dc25 pm25 an25 cd25 ct25), sl25⟩) (c25 : PySem.W.codeIn K cd25 "is_order" = true) (k25 : PySem.W.keepIn K (.ref f_is_order) = true)
    (a26 : PySem.W.nsIn K mainGlobals "loose_graph" = some (some (.ref f_loose_graph))) (l26 : K.lookup f_loose_graph = some ⟨oc26, od26, .func (PySem.W.fnOf "loose_graph" "loose_graph" (defArgs s_loose_graph) (defBody s_loose_graph) (defScope s_loose_graph) .none kV26 dc26 pm26 an26 cd26 ct26), sl26⟩) (c26 : PySem.W.codeIn K cd26 "loose_graph" = true) (k26 : PySem.W.keepIn K (.ref f_loose_graph) = true)
    (a27 : PySem.W.nsIn K mainGlobals "law" = some (some (.ref f_law))) (l27 : K.lookup f_law = some ⟨oc27, od27, .func (PySem.W.fnOf "law" "law" (defArgs s_law) (defBody s_law) (defScope s_law) .none kV27 dc27 pm27 an27 cd27 ct27), sl27⟩) (c27 : PySem.W.codeIn K cd27 "law" = true) (k27 : PySem.W.keepIn K (.ref f_law) = true)
    (z_all : PySem.W.nsIn K mainGlobals "all" = some none)
    (z_any : PySem.W.nsIn K mainGlobals "any" = some none)
    (z_bool : PySem.W.nsIn K mainGlobals "bool" = some none)
    (z_int : PySem.W.nsIn K mainGlobals "int" = some none)
    (z_isinstance : PySem.W.nsIn K mainGlobals "isinstance" = some none)
    (z_len : PySem.W.nsIn K mainGlobals "len" = some none)
    (z_list : PySem.W.nsIn K mainGlobals "list" = some none)
    (z_max : PySem.W.nsIn K mainGlobals "max" = some none)
    (z_range : PySem.W.nsIn K mainGlobals "range" = some none)
    (z_sorted : PySem.W.nsIn K mainGlobals "sorted" = some none)
    (z_str : PySem.W.nsIn K mainGlobals "str" = some none)
    (z_tuple : PySem.W.nsIn K mainGlobals "tuple" = some none)
    (z_zip : PySem.W.nsIn K mainGlobals "zip" = some none)
    : ∃ fd : FuncData, (∀ (s : Shared) (v : Value), BindsTo s fd ⟨[v], []⟩ [("script", v)]) ∧ ∀ base : Heap, K.In base → base.Ns mainGlobals mg → FnOk l.prog w K mg base CX0 10 fa fd ["script"] (spLawK K) := by
  have e := hfa.symm.trans (PySem.W.mg_of X G a27)
  cases e
  have T : Txt mg := ⟨PySem.W.mg_none_of X G z_all, PySem.W.mg_none_of X G z_any, PySem.W.mg_none_of X G z_bool, PySem.W.mg_none_of X G z_int, PySem.W.mg_none_of X G z_isinstance, PySem.W.mg_none_of X G z_len, PySem.W.mg_none_of X G z_list, PySem.W.mg_none_of X G z_max, PySem.W.mg_none_of X G z_range, PySem.W.mg_none_of X G z_sorted, PySem.W.mg_none_of X G z_str, PySem.W.mg_none_of X G z_tuple, PySem.W.mg_none_of X G z_zip⟩
  have F0 := fun_mk (st := s__law_well) l0 c0 k0
  have m0 := PySem.W.mg_of X G a0
  have F1 := fun_mk (st := s__law_dip) l1 c1 k1
  have m1 := PySem.W.mg_of X G a1
  have F2 := fun_mk (st := s__law_handed_on) l2 c2 k2
  have m2 := PySem.W.mg_of X G a2
  have F3 := fun_mk (st := s__law_by_ends) l3 c3 k3
  have m3 := PySem.W.mg_of X G a3
  have F4 := fun_mk (st := s__law_drawn_spans) l4 c4 k4
  have m4 := PySem.W.mg_of X G a4
  have F5 := fun_mk (st := s__law_drawn_levels) l5 c5 k5
  have m5 := PySem.W.mg_of X G a5
  have F6 := fun_mk (st := s__law_renamed) l6 c6 k6
  have m6 := PySem.W.mg_of X G a6
  have F7 := fun_mk (st := s__law_mixed_up) l7 c7 k7
  have m7 := PySem.W.mg_of X G a7
  have F8 := fun_mk (st := s__law_drawn_under) l8 c8 k8
  have m8 := PySem.W.mg_of X G a8
  have F9 := fun_mk (st := s__law_ranked) l9 c9 k9
  have m9 := PySem.W.mg_of X G a9
  have F10 := fun_mk (st := s__law_like) l10 c10 k10
  have m10 := PySem.W.mg_of X G a10
  have F11 := fun_mk (st := s_is_integer) l11 c11 k11
  have m11 := PySem.W.mg_of X G a11
  have F12 := fun_mk (st := s_is_natural) l12 c12 k12
  have m12 := PySem.W.mg_of X G a12
  have F13 := fun_mk (st := s_is_vertex) l13 c13 k13
  have m13 := PySem.W.mg_of X G a13
  have F14 := fun_mk (st := s_is_step) l14 c14 k14
  have m14 := PySem.W.mg_of X G a14
  have F15 := fun_mk (st := s_ascends) l15 c15 k15
  have m15 := PySem.W.mg_of X G a15
  have F16 := fun_mk (st := s_under_lists) l16 c16 k16
  have m16 := PySem.W.mg_of X G a16
  have F17 := fun_mk (st := s_is_handed_on) l17 c17 k17
  have m17 := PySem.W.mg_of X G a17
  have F18 := fun_mk (st := s_is_order_of) l18 c18 k18
  have m18 := PySem.W.mg_of X G a18
  have F19 := fun_mk (st := s_check_order) l19 c19 k19
  have m19 := PySem.W.mg_of X G a19
  have F20 := fun_mk (st := s_check_vertex) l20 c20 k20
  have m20 := PySem.W.mg_of X G a20
  have F21 := fun_mk (st := s_over_lists) l21 c21 k21
  have m21 := PySem.W.mg_of X G a21
  have F22 := fun_mk (st := s_above) l22 c22 k22
  have m22 := PySem.W.mg_of X G a22
  have F23 := fun_mk (st := s_below) l23 c23 k23
  have m23 := PySem.W.mg_of X G a23
  have F24 := fun_mk (st := s_reversed_order) l24 c24 k24
  have m24 := PySem.W.mg_of X G a24
  have F25 := fun_mk (st := s_is_order) l25 c25 k25
  have m25 := PySem.W.mg_of X G a25
  have F26 := fun_mk (st := s_loose_graph) l26 c26 k26
  have m26 := PySem.W.mg_of X G a26
  have F27 := fun_mk (st := s_law) l27 c27 k27
  refine ⟨PySem.W.fnOf "law" "law" (defArgs s_law) (defBody s_law) (defScope s_law) .none kV27 dc27 pm27 an27 cd27 ct27, fun s v => .of_eq rfl, fun base _ _ => ?_⟩
  have D__law_dip : DDef l.prog w K mg base "_law_dip" s__law_dip 1 ["well", "many"] sp__law_dip := ok__law_dip F1 m1 T 
  have D__law_handed_on : DDef l.prog w K mg base "_law_handed_on" s__law_handed_on 2 ["well", "many"] sp__law_handed_on := ok__law_handed_on F2 m2 T D__law_dip
  have D__law_by_ends : DDef l.prog w K mg base "_law_by_ends" s__law_by_ends 1 ["rows"] sp__law_by_ends := ok__law_by_ends F3 m3 T 
  have D__law_drawn_spans : DDef l.prog w K mg base "_law_drawn_spans" s__law_drawn_spans 2 ["well", "many"] sp__law_drawn_spans := ok__law_drawn_spans F4 m4 T D__law_dip
  have D__law_drawn_levels : DDef l.prog w K mg base "_law_drawn_levels" s__law_drawn_levels 2 ["well", "many"] sp__law_drawn_levels := ok__law_drawn_levels F5 m5 T D__law_dip
  have D__law_renamed : DDef l.prog w K mg base "_law_renamed" s__law_renamed 1 ["under", "way"] sp__law_renamed := ok__law_renamed F6 m6 T 
  have D__law_mixed_up : DDef l.prog w K mg base "_law_mixed_up" s__law_mixed_up 2 ["well", "many"] sp__law_mixed_up := ok__law_mixed_up F7 m7 T D__law_dip
  have D__law_drawn_under : DDef l.prog w K mg base "_law_drawn_under" s__law_drawn_under 3 ["well", "most"] sp__law_drawn_under := ok__law_drawn_under F8 m8 T D__law_dip D__law_handed_on D__law_by_ends D__law_drawn_spans D__law_drawn_levels D__law_renamed D__law_mixed_up
  have D__law_ranked : DDef l.prog w K mg base "_law_ranked" s__law_ranked 1 ["under"] sp__law_ranked := ok__law_ranked F9 m9 T 
  have D__law_like : DDef l.prog w K mg base "_law_like" s__law_like 9 ["told", "due"] sp__law_like := ok__law_like F10 m10 T 8
  have D_is_integer : DDef l.prog w K mg base "is_integer" s_is_integer 1 ["value"] sp_is_integer := ok_is_integer F11 m11 T 
  have D_is_natural : DDef l.prog w K mg base "is_natural" s_is_natural 2 ["value"] sp_is_natural := ok_is_natural F12 m12 T D_is_integer
  have D_is_vertex : DDef l.prog w K mg base "is_vertex" s_is_vertex 3 ["many", "value"] sp_is_vertex := ok_is_vertex F13 m13 T D_is_natural
  have D_is_step : DDef l.prog w K mg base "is_step" s_is_step 4 ["value", "many"] sp_is_step := ok_is_step F14 m14 T D_is_vertex
  have D_ascends : DDef l.prog w K mg base "ascends" s_ascends 1 ["some"] sp_ascends := ok_ascends F15 m15 T 
  have D_under_lists : DDef l.prog w K mg base "under_lists" s_under_lists 1 ["order"] sp_under_lists := ok_under_lists F16 m16 T 
  have D_is_handed_on : DDef l.prog w K mg base "is_handed_on" s_is_handed_on 2 ["order"] sp_is_handed_on := ok_is_handed_on F17 m17 T D_under_lists
  have D_is_order_of : DDef l.prog w K mg base "is_order_of" s_is_order_of 5 ["value"] sp_is_order_of := ok_is_order_of F18 m18 T D_is_natural D_is_step D_ascends D_is_handed_on
  have D_check_order : DDef l.prog w K mg base "check_order" s_check_order 6 ["order"] sp_check_order := ok_check_order F19 m19 T D_is_order_of
  have D_check_vertex : DDef l.prog w K mg base "check_vertex" s_check_vertex 4 ["many", "vertex"] sp_check_vertex := ok_check_vertex F20 m20 T D_is_vertex
  have D_over_lists : DDef l.prog w K mg base "over_lists" s_over_lists 1 ["order"] sp_over_lists := ok_over_lists F21 m21 T 
  have D_above : DDef l.prog w K mg base "above" s_above 7 ["order", "vertex"] sp_above := ok_above F22 m22 T D_check_order D_check_vertex D_over_lists
  have D_below : DDef l.prog w K mg base "below" s_below 7 ["order", "vertex"] sp_below := ok_below F23 m23 T D_check_order D_check_vertex D_under_lists
  have D_reversed_order : DDef l.prog w K mg base "reversed_order" s_reversed_order 7 ["order"] sp_reversed_order := ok_reversed_order F24 m24 T D_check_order
  have D_is_order : DDef l.prog w K mg base "is_order" s_is_order 6 ["value"] sp_is_order := ok_is_order F25 m25 T D_is_order_of
  have D_loose_graph : DDef l.prog w K mg base "loose_graph" s_loose_graph 7 ["order"] sp_loose_graph := ok_loose_graph F26 m26 T D_check_order D_under_lists
  exact ok_law F27 T F0 m0 D__law_drawn_under D__law_ranked D__law_dip D__law_like D_above D_below D_reversed_order D_is_order D_loose_graph
theorem walk {l : PySem.W.OpenLaw} {q : Program} {loose : List Str} {XP : (Str → Option Value) → Heap → Prop} {YP : World → Heap → Prop} {d : DefRec} {K : Params → PySem.W.Frag} (hn : l.most = some 63) (hdf : d.params.defaults = [])
    (hY : ∀ (w : World) (h : Heap), YP w h → (K w.params).In h)
    (F : ∀ (w : World) (mg : Str → Option Value) (fa : Addr) (h : Heap), (K w.params).In h → h.Ns mainGlobals mg → mg d.name = some (.ref fa) →
      ∃ fd : FuncData, (∀ (s : Shared) (u : Value), BindsTo s fd ⟨[u], []⟩ [("script", u)]) ∧ ∀ base : Heap, (K w.params).In base → base.Ns mainGlobals mg → FnOk l.prog w (K w.params) mg base CX0 10 fa fd ["script"] (spLawK (K w.params))) :
    PySem.W.WalkO q loose XP YP l.row.toRowW d [] (fun f vs => PySem.call f vs) :=
  L2.walk_of (n := 63) (k := 10) (x := "script") (CX := fun _ => CX0) (sp := fun w => spLawK (K w.params)) hn (by decide) hdf ⟨rfl, by decide, by decide⟩ hY F (fun _ _ a ns hl _ hS => ⟨a, ns, rfl, hS, hl, fun _ => rfl⟩) fun _ _ _ _ _ z => z
end DL
open PySem PySem.W PyProof.Rows
set_option maxRecDepth 100000 in
set_option maxHeartbeats 0 in
theorem PySem.Challenge.cw_wholebeside_k69_what_is_below_and_above_holds : PySem.Challenge.rw_wholebeside_k69_what_is_below_and_above.Holds := by
  w_on; o_law; k_head; (case hw => w_witness2)
  k_fill
  refine DL.walk (l := PySem.Challenge.rw_wholebeside_k69_what_is_below_and_above) rfl rfl (fun w h Y => PySem.W.kIn_of Y) ?F
  case F =>
    intro w mg fa h KX G hmg
    refine' DL.all_mk KX G hmg ?a0 ?l0 ?c0 ?k0 ?a1 ?l1 ?c1 ?k1 ?a2 ?l2 ?c2 ?k2 ?a3 ?l3 ?c3 ?k3 ?a4 ?l4 ?c4 ?k4 ?a5 ?l5 ?c5 ?k5 ?a6 ?l6 ?c6 ?k6 ?a7 ?l7 ?c7 ?k7 ?a8 ?l8 ?c8 ?k8 ?a9 ?l9 ?c9 ?k9 ?a10 ?l10 ?c10 ?k10 ?a11 ?l11 ?c11 ?k11 ?a12 ?l12 ?c12 ?k12 ?a13 ?l13 ?c13 ?k13 ?a14 ?l14 ?c14 ?k14 ?a15 ?l15 ?c15 ?k15 ?a16 ?l16 ?c16 ?k16 ?a17 ?l17 ?c17 ?k17 ?a18 ?l18 ?c18 ?k18 ?a19 ?l19 ?c19 ?k19 ?a20 ?l20 ?c20 ?k20 ?a21 ?l21 ?c21 ?k21 ?a22 ?l22 ?c22 ?k22 ?a23 ?l23 ?c23 ?k23 ?a24 ?l24 ?c24 ?k24 ?a25 ?l25 ?c25 ?k25 ?a26 ?l26 ?c26 ?k26 ?a27 ?l27 ?c27 ?k27 ?z_all ?z_any ?z_bool ?z_int ?z_isinstance ?z_len ?z_list ?z_max ?z_range ?z_sorted ?z_str ?z_tuple ?z_zip
    (case a0 => k_is)
    (case l0 => k_is)
    (case c0 => k_is)
    (case k0 => k_is)
    (case a1 => k_is)
    (case l1 => k_is)
    (case c1 => k_is)
    (case k1 => k_is)
    (case a2 => k_is)
    (case l2 => k_is)
    (case c2 => k_is)
    (case k2 => k_is)
    (case a3 => k_is)
    (case l3 => k_is)
    (case c3 => k_is)
    (case k3 => k_is)
    (case a4 => k_is)
    (case l4 => k_is)
    (case c4 => k_is)
    (case k4 => k_is)
    (case a5 => k_is)
    (case l5 => k_is)
    (case c5 => k_is)
    (case k5 => k_is)
    (case a6 => k_is)
    (case l6 => k_is)
    (case c6 => k_is)
    (case k6 => k_is)
    (case a7 => k_is)
    (case l7 => k_is)
    (case c7 => k_is)
    (case k7 => k_is)
    (case a8 => k_is)
    (case l8 => k_is)
    (case c8 => k_is)
    (case k8 => k_is)
    (case a9 => k_is)
    (case l9 => k_is)
    (case c9 => k_is)
    (case k9 => k_is)
    (case a10 => k_is)
    (case l10 => k_is)
    (case c10 => k_is)
    (case k10 => k_is)
    (case a11 => k_is)
    (case l11 => k_is)
    (case c11 => k_is)
    (case k11 => k_is)
    (case a12 => k_is)
    (case l12 => k_is)
    (case c12 => k_is)
    (case k12 => k_is)
    (case a13 => k_is)
    (case l13 => k_is)
    (case c13 => k_is)
    (case k13 => k_is)
    (case a14 => k_is)
    (case l14 => k_is)
    (case c14 => k_is)
    (case k14 => k_is)
    (case a15 => k_is)
    (case l15 => k_is)
    (case c15 => k_is)
    (case k15 => k_is)
    (case a16 => k_is)
    (case l16 => k_is)
    (case c16 => k_is)
    (case k16 => k_is)
    (case a17 => k_is)
    (case l17 => k_is)
    (case c17 => k_is)
    (case k17 => k_is)
    (case a18 => k_is)
    (case l18 => k_is)
    (case c18 => k_is)
    (case k18 => k_is)
    (case a19 => k_is)
    (case l19 => k_is)
    (case c19 => k_is)
    (case k19 => k_is)
    (case a20 => k_is)
    (case l20 => k_is)
    (case c20 => k_is)
    (case k20 => k_is)
    (case a21 => k_is)
    (case l21 => k_is)
    (case c21 => k_is)
    (case k21 => k_is)
    (case a22 => k_is)
    (case l22 => k_is)
    (case c22 => k_is)
    (case k22 => k_is)
    (case a23 => k_is)
    (case l23 => k_is)
    (case c23 => k_is)
    (case k23 => k_is)
    (case a24 => k_is)
    (case l24 => k_is)
    (case c24 => k_is)
    (case k24 => k_is)
    (case a25 => k_is)
    (case l25 => k_is)
    (case c25 => k_is)
    (case k25 => k_is)
    (case a26 => k_is)
    (case l26 => k_is)
    (case c26 => k_is)
    (case k26 => k_is)
    (case a27 => k_is)
    (case l27 => k_is)
    (case c27 => k_is)
    (case k27 => k_is)
    (case z_all => k_is)
    (case z_any => k_is)
    (case z_bool => k_is)
    (case z_int => k_is)
    (case z_isinstance => k_is)
    (case z_len => k_is)
    (case z_list => k_is)
    (case z_max => k_is)
    (case z_range => k_is)
    (case z_sorted => k_is)
    (case z_str => k_is)
    (case z_tuple => k_is)
    (case z_zip => k_is)
