import PyProof.Rows.All
import Wide.All
import OpenK.AllK
import Wide.FinOn
import HandS.ForMost
import HandS.Wide
import HandS.IsInst
import HandS.Style
import PySem.Challenge.RW_leavehall_k01_halls_that_are_halls
set_option Elab.async false
set_option linter.all false
set_option maxRecDepth 100000
set_option maxHeartbeats 4000000
/-! DL: plain data over the hand layer: names hold data, the heap is out of sight. -/
namespace DL
open PySem PySem.Spec PyProof.Rows L2

abbrev D := PyData
abbrev AS := Addr → Prop

mutual
inductive Rep (S : AS) (H : Hp) : V → D → Prop
  | non : Rep S H .non .none
  | bl (b : Bool) : Rep S H (.bl b) (.bool b)
  | int (i : Int) : Rep S H (.int i) (.int i)
  | str (x : Str) : Rep S H (.str x) (.str x)
  | lst {a : Addr} {xs : List V} {ds : List D} : S a → Rd H a (.lst xs) → Reps S H xs ds → Rep S H (.ref a) (.list ds)
  | tup {a : Addr} {xs : List V} {ds : List D} : S a → Rd H a (.tup xs) → Reps S H xs ds → Rep S H (.ref a) (.tuple ds)
inductive Reps (S : AS) (H : Hp) : List V → List D → Prop
  | nil : Reps S H [] []
  | cons {v : V} {vs : List V} {d : D} {ds : List D} : Rep S H v d → Reps S H vs ds → Reps S H (v :: vs) (d :: ds)
end

theorem rd_keep {H H' : Hp} {a : Addr} {u : HO} (k : ∀ o, H a = some o → H' a = some o) (h : Rd H a u) : Rd H' a u := by
  rcases h with h | ⟨o, h⟩
  · exact .inl (k _ h)
  · exact .inr ⟨o, k _ h⟩
theorem rd_inj {H : Hp} {a : Addr} {xs ys : List V} (h : Rd H a (.lst xs)) (h2 : Rd H a (.lst ys)) : xs = ys := by
  rcases h with h | ⟨o, h⟩ <;> rcases h2 with h2 | ⟨o2, h2⟩ <;> (rw [h] at h2; cases h2) <;> rfl
theorem rd_ex {H : Hp} {a : Addr} {u : HO} (h : Rd H a u) : H a ≠ none := by
  rcases h with h | ⟨o, h⟩ <;> (rw [h]; exact Option.some_ne_none _)

mutual
theorem Rep.mono {S S' : AS} {H H' : Hp} (hs : ∀ a, S a → S' a) (k : ∀ a o, S a → H a = some o → H' a = some o) : ∀ {v : V} {d : D}, Rep S H v d → Rep S' H' v d
  | _, _, .non => .non
  | _, _, .bl b => .bl b
  | _, _, .int i => .int i
  | _, _, .str x => .str x
  | _, _, .lst h1 h2 h3 => .lst (hs _ h1) (rd_keep (fun o e => k _ o h1 e) h2) (Reps.mono hs k h3)
  | _, _, .tup h1 h2 h3 => .tup (hs _ h1) (rd_keep (fun o e => k _ o h1 e) h2) (Reps.mono hs k h3)
theorem Reps.mono {S S' : AS} {H H' : Hp} (hs : ∀ a, S a → S' a) (k : ∀ a o, S a → H a = some o → H' a = some o) : ∀ {v : List V} {d : List D}, Reps S H v d → Reps S' H' v d
  | _, _, .nil => .nil
  | _, _, .cons h t => .cons (Rep.mono hs k h) (Reps.mono hs k t)
end

section
variable {S : AS} {H : Hp}
theorem Reps.len : ∀ {vs : List V} {ds : List D}, Reps S H vs ds → vs.length = ds.length
  | _, _, .nil => rfl
  | _, _, .cons _ t => congrArg (· + 1) t.len
theorem Reps.get : ∀ {vs : List V} {ds : List D} {i : Nat} {v : V}, Reps S H vs ds → vs[i]? = some v → ∃ d, ds[i]? = some d ∧ Rep S H v d
  | _, _, i, v, .nil, e => by simp at e
  | _, _, 0, v, .cons h _, e => by simp at e; subst e; exact ⟨_, rfl, h⟩
  | _, _, i + 1, v, .cons _ t, e => by
    obtain ⟨d, h1, h2⟩ := Reps.get (i := i) (v := v) t (by simpa using e)
    exact ⟨d, by simpa using h1, h2⟩
theorem Reps.getD : ∀ {vs : List V} {ds : List D} {i : Nat} {d : D}, Reps S H vs ds → ds[i]? = some d → ∃ v, vs[i]? = some v ∧ Rep S H v d
  | _, _, i, v, .nil, e => by simp at e
  | _, _, 0, v, .cons h _, e => by simp at e; subst e; exact ⟨_, rfl, h⟩
  | _, _, i + 1, v, .cons _ t, e => by
    obtain ⟨d, h1, h2⟩ := Reps.getD (i := i) (d := v) t (by simpa using e)
    exact ⟨d, by simpa using h1, h2⟩
theorem Reps.append : ∀ {vs ws : List V} {ds es : List D}, Reps S H vs ds → Reps S H ws es → Reps S H (vs ++ ws) (ds ++ es)
  | _, _, _, _, .nil, s => s
  | _, _, _, _, .cons h t, s => .cons h (Reps.append t s)
theorem Reps.set {v : V} {d : D} (r : Rep S H v d) : ∀ {vs : List V} {ds : List D} (i : Nat), Reps S H vs ds → Reps S H (vs.set i v) (ds.set i d)
  | _, _, _, .nil => .nil
  | _, _, 0, .cons _ t => .cons r t
  | _, _, i + 1, .cons q t => .cons q (Reps.set r i t)
theorem Reps.take : ∀ {vs : List V} {ds : List D} (n : Nat), Reps S H vs ds → Reps S H (vs.take n) (ds.take n)
  | _, _, 0, _ => .nil
  | _, _, _ + 1, .nil => .nil
  | _, _, n + 1, .cons r t => .cons r (Reps.take n t)
theorem Reps.drop : ∀ {vs : List V} {ds : List D} (n : Nat), Reps S H vs ds → Reps S H (vs.drop n) (ds.drop n)
  | _, _, 0, r => r
  | _, _, _ + 1, .nil => .nil
  | _, _, n + 1, .cons _ t => Reps.drop n t
theorem Reps.reverse : ∀ {vs : List V} {ds : List D}, Reps S H vs ds → Reps S H vs.reverse ds.reverse
  | _, _, .nil => .nil
  | _, _, .cons h t => by
    rw [List.reverse_cons, List.reverse_cons]
    exact (Reps.reverse t).append (.cons h .nil)
theorem Reps.dropLast {vs : List V} {ds : List D} (h : Reps S H vs ds) : Reps S H vs.dropLast ds.dropLast := by
  rw [List.dropLast_eq_take, List.dropLast_eq_take, h.len]
  exact h.take _
theorem Reps.rep {vs : List V} {ds : List D} (h : Reps S H vs ds) : ∀ k : Nat, Reps S H (List.replicate k vs).flatten (List.replicate k ds).flatten
  | 0 => .nil
  | k + 1 => by
    rw [List.replicate_succ, List.replicate_succ, List.flatten_cons, List.flatten_cons]
    exact h.append (Reps.rep h k)
theorem Reps.erase : ∀ {vs : List V} {ds : List D} (i : Nat), Reps S H vs ds → Reps S H (vs.eraseIdx i) (ds.eraseIdx i)
  | _, _, _, .nil => .nil
  | _, _, 0, .cons _ t => t
  | _, _, i + 1, .cons q t => .cons q (Reps.erase i t)
theorem Reps.ints : ∀ {vs : List V} {ns : List Int}, Reps S H vs (ns.map PyData.int) → vs = ns.map V.int
  | [], [], .nil => rfl
  | _ :: _, n :: r, .cons h t => by
    cases h
    rw [List.map_cons, Reps.ints t]
theorem Reps.bools : ∀ {vs : List V} {ns : List Bool}, Reps S H vs (ns.map PyData.bool) → vs = ns.map V.bl
  | [], [], .nil => rfl
  | _ :: _, n :: r, .cons h t => by
    cases h
    rw [List.map_cons, Reps.bools t]
theorem Reps.strs : ∀ {vs : List V} {ns : List Str}, Reps S H vs (ns.map PyData.str) → vs = ns.map V.str
  | [], [], .nil => rfl
  | _ :: _, n :: r, .cons h t => by
    cases h
    rw [List.map_cons, Reps.strs t]
theorem Reps.ofInts : ∀ (ns : List Int), Reps S H (ns.map V.int) (ns.map PyData.int)
  | [] => .nil
  | n :: r => .cons (.int n) (Reps.ofInts r)
end

/-! ### data in the hand layer's sense -/
mutual
theorem Rep.dp {K : PySem.W.Frag} {S : AS} {H : Hp} : ∀ {v : V} {d : D}, Rep S H v d → Dp K H v d
  | _, _, .non => .non
  | _, _, .bl b => .bl b
  | _, _, .int i => .int i
  | _, _, .str x => .str x
  | _, _, .lst h1 h2 h3 => .lst (.inl h2) (Reps.dp h3)
  | _, _, .tup h1 h2 h3 => .tup (.inl h2) (Reps.dp h3)
theorem Reps.dp {K : PySem.W.Frag} {S : AS} {H : Hp} : ∀ {v : List V} {d : List D}, Reps S H v d → DpAll K H v d
  | _, _, .nil => .nil
  | _, _, .cons h t => .cons (Rep.dp h) (Reps.dp t)
end

/-! ### what names hold -/
/-- a thing of one's own kind: what stands at v, its addresses F -/
structure Res where
  R : AS → Hp → V → AS → Prop
  st : ∀ {S S' : AS} {H H' : Hp} {v : V} {F : AS}, R S H v F → (∀ a, S a → S' a) → (∀ a o, S a ∨ F a → H a = some o → H' a = some o) → R S' H' v F
  lv : ∀ {S : AS} {H : Hp} {v : V} {F : AS}, R S H v F → ∀ a, F a → H a ≠ none

/-- a list of the written part -/
def KL (K : PySem.W.Frag) (a : Addr) (xs : List V) : Prop := ∃ (o : Obj) (its : Array Value) (n : Nat), K.lookup a = some o ∧ o.cls = .type "list" ∧ o.dict = none ∧ o.data = .seq its n ∧ its.size ≤ sizeLine ∧ Vals xs its.toList
inductive Slot where
  | junk
  | val (d : D)
  | own (ds : List D)
  | bor (K : PySem.W.Frag) (ds : List D)
  | res (r : Res)

def Slot.mutb : Slot → Bool
  | .own _ => true
  | .res _ => true
  | _ => false

def SlotOk (S : AS) (H : Hp) (o : Option V) (s : Slot) (F : AS) : Prop :=
  match s with
  | .junk => ∀ a, ¬ F a
  | .val d => (∀ a, ¬ F a) ∧ ∃ v, o = some v ∧ Rep S H v d
  | .own ds => ∃ p vs, o = some (.ref p) ∧ (∀ a, F a ↔ a = p) ∧ H p = some (.lst vs) ∧ Reps S H vs ds
  | .bor K ds => ∃ p vs, o = some (.ref p) ∧ (∀ a, F a → a = p) ∧ ((F p ∧ Rd H p (.lst vs)) ∨ KL K p vs) ∧ Reps S H vs ds
  | .res r => ∃ v, o = some v ∧ r.R S H v F

theorem SlotOk.keep {S S' : AS} {H H' : Hp} {o : Option V} {s : Slot} {F : AS} (h : SlotOk S H o s F) (hs : ∀ a, S a → S' a) (k : ∀ a u, S a ∨ F a → H a = some u → H' a = some u) : SlotOk S' H' o s F := by
  cases s with
  | junk => exact h
  | val d =>
    obtain ⟨h0, v, e, r⟩ := h
    exact ⟨h0, v, e, r.mono hs fun a u q => k a u (.inl q)⟩
  | own ds =>
    obtain ⟨p, vs, e, hF, hp, r⟩ := h
    exact ⟨p, vs, e, hF, k p _ (.inr ((hF p).mpr rfl)) hp, r.mono hs fun a u q => k a u (.inl q)⟩
  | bor K ds =>
    obtain ⟨p, vs, e, hF, hp, r⟩ := h
    exact ⟨p, vs, e, hF, hp.imp (fun z => ⟨z.1, rd_keep (fun o y => k p o (.inr z.1) y) z.2⟩) id, r.mono hs fun a u q => k a u (.inl q)⟩
  | res r =>
    obtain ⟨v, e, q⟩ := h
    exact ⟨v, e, r.st q hs k⟩

structure EnvOk (H0 : Hp) (S0 : AS) (G : List Slot) (S : AS) (F : Nat → AS) (q : L2.St) (H : Hp) : Prop where
  len : q.length = G.length
  ext : ∀ a o, H0 a = some o → H a = some o
  sfr : ∀ a, S a → S0 a ∨ H0 a = none
  slv : ∀ a, S a → H a ≠ none
  flv : ∀ i a, F i a → H a ≠ none
  sl : ∀ i s, G[i]? = some s → ∃ o, q[i]? = some o ∧ SlotOk S H o s (F i)
  mu : ∀ i s, G[i]? = some s → s.mutb = true → ∀ a, F i a → H0 a = none ∧ ¬ S a ∧ ∀ j, j ≠ i → ¬ F j a
  out : ∀ i, G.length ≤ i → ∀ a, ¬ F i a
  bo : ∀ i K ds, G[i]? = some (.bor K ds) → ∀ a, F i a → H0 a ≠ none

structure Grow (S : AS) (H : Hp) (S' : AS) (H' : Hp) : Prop where
  ext : ∀ a o, H a = some o → H' a = some o
  sub : ∀ a, S a → S' a
  new : ∀ a, S' a → S a ∨ H a = none
  lv : ∀ a, S' a → S a ∨ H' a ≠ none

theorem Grow.refl (S : AS) (H : Hp) : Grow S H S H := ⟨fun _ _ h => h, fun _ h => h, fun _ h => .inl h, fun _ h => .inl h⟩
theorem ne_none_ext {H H' : Hp} (e : ∀ a o, H a = some o → H' a = some o) {a : Addr} (h : H a ≠ none) : H' a ≠ none := by
  cases q : H a with
  | none => exact absurd q h
  | some o =>
    rw [e a o q]
    exact Option.some_ne_none _
theorem none_ext {H H' : Hp} (e : ∀ a o, H a = some o → H' a = some o) {a : Addr} (h : H' a = none) : H a = none := by
  cases q : H a with
  | none => rfl
  | some o =>
    rw [e a o q] at h
    cases h
theorem Grow.trans {S S1 S2 : AS} {H H1 H2 : Hp} (g : Grow S H S1 H1) (k : Grow S1 H1 S2 H2) : Grow S H S2 H2 :=
  ⟨fun a o h => k.ext a o (g.ext a o h), fun a h => k.sub a (g.sub a h), fun a h => (k.new a h).elim (g.new a) fun q => .inr (none_ext g.ext q),
    fun a h => (k.lv a h).elim (fun q => (g.lv a q).imp id (ne_none_ext k.ext)) .inr⟩
/-- a new object, frozen at once -/
theorem Grow.alloc {S : AS} {H : Hp} {p : Addr} {o : HO} (h : H p = none) : Grow S H (fun a => S a ∨ a = p) (upd H p o) :=
  ⟨fun a u e => by rw [upd_ne (ne_of_none e h)]; exact e, fun a q => .inl q, fun a q => q.imp id fun e => by rw [e]; exact h, fun a q => q.imp id fun e => by rw [e, upd_same]; exact Option.some_ne_none _⟩
/-- a new object, not frozen -/
theorem Grow.alloc0 {S : AS} {H : Hp} {p : Addr} {o : HO} (h : H p = none) : Grow S H S (upd H p o) :=
  ⟨fun a u e => by rw [upd_ne (ne_of_none e h)]; exact e, fun a q => q, fun a q => .inl q, fun a q => .inl q⟩

section
variable {H0 : Hp} {S0 : AS} {G : List Slot} {S S' : AS} {F : Nat → AS} {q : L2.St} {H H' : Hp}
theorem EnvOk.grow (e : EnvOk H0 S0 G S F q H) (g : Grow S H S' H') : EnvOk H0 S0 G S' F q H' where
  len := e.len
  ext := fun a o h => g.ext a o (e.ext a o h)
  sfr := fun a h => (g.new a h).elim (e.sfr a) fun z => .inr (none_ext e.ext z)
  slv := fun a h => (g.lv a h).elim (fun z => ne_none_ext g.ext (e.slv a z)) id
  flv := fun i a h => ne_none_ext g.ext (e.flv i a h)
  sl := fun i s h => by
    obtain ⟨o, h1, h2⟩ := e.sl i s h
    exact ⟨o, h1, h2.keep g.sub fun a u _ z => g.ext a u z⟩
  mu := fun i s h hm a ha => by
    obtain ⟨h1, h2, h3⟩ := e.mu i s h hm a ha
    exact ⟨h1, fun z => (g.new a z).elim h2 fun z => e.flv i a ha z, h3⟩
  out := e.out
  bo := e.bo

/-- a slot gets new contents; what stood there is let go -/
theorem EnvOk.put (e : EnvOk H0 S0 G S F q H) {i : Nat} (hi : i < G.length) {t : Slot} {o : Option V} {Fi : AS} (h : SlotOk S H o t Fi) (hl : ∀ a, Fi a → H a ≠ none)
    (hm : t.mutb = true → ∀ a, Fi a → H0 a = none ∧ ¬ S a ∧ ∀ j, j ≠ i → ¬ F j a)
    (hd : ∀ j s, j ≠ i → G[j]? = some s → s.mutb = true → ∀ a, F j a → ¬ Fi a) (hb : ∀ K ds, t ≠ .bor K ds) :
    EnvOk H0 S0 (G.set i t) S (fun j => if j = i then Fi else F j) (q.set i o) H where
  len := by rw [List.length_set, List.length_set, e.len]
  ext := e.ext
  sfr := e.sfr
  slv := e.slv
  flv := fun j a ha => by
    by_cases z : j = i
    · rw [if_pos z] at ha; exact hl a ha
    · rw [if_neg z] at ha; exact e.flv j a ha
  sl := fun j s hs => by
    by_cases z : j = i
    · subst z
      rw [List.getElem?_set_self hi] at hs
      cases hs
      refine ⟨o, List.getElem?_set_self (by rw [e.len]; exact hi), ?_⟩
      rw [if_pos rfl]; exact h
    · rw [List.getElem?_set_ne (Ne.symm z)] at hs
      obtain ⟨u, h1, h2⟩ := e.sl j s hs
      refine ⟨u, by rw [List.getElem?_set_ne (Ne.symm z)]; exact h1, ?_⟩
      rw [if_neg z]; exact h2
  mu := fun j s hs ms a ha => by
    by_cases z : j = i
    · subst z
      rw [List.getElem?_set_self hi] at hs
      cases hs
      rw [if_pos rfl] at ha
      obtain ⟨h1, h2, h3⟩ := hm ms a ha
      exact ⟨h1, h2, fun k hk => by rw [if_neg hk]; exact h3 k hk⟩
    · rw [List.getElem?_set_ne (Ne.symm z)] at hs
      rw [if_neg z] at ha
      obtain ⟨h1, h2, h3⟩ := e.mu j s hs ms a ha
      refine ⟨h1, h2, fun k hk => ?_⟩
      by_cases zk : k = i
      · rw [if_pos zk]; exact hd j s z hs ms a ha
      · rw [if_neg zk]; exact h3 k hk
  out := fun j hj a ha => by
    rw [List.length_set] at hj
    rw [if_neg (by omega)] at ha
    exact e.out j hj a ha
  bo := fun j K ds hs a ha => by
    by_cases z : j = i
    · subst z
      rw [List.getElem?_set_self hi] at hs
      cases hs
      exact absurd rfl (hb K ds)
    · rw [List.getElem?_set_ne (Ne.symm z)] at hs
      rw [if_neg z] at ha
      exact e.bo j K ds hs a ha
theorem EnvOk.putv (e : EnvOk H0 S0 G S F q H) {i : Nat} (hi : i < G.length) {d : D} {v : V} (r : Rep S H v d) : EnvOk H0 S0 (G.set i (.val d)) S (fun j => if j = i then (fun _ => False) else F j) (q.set i (some v)) H :=
  e.put hi ⟨fun _ z => z, v, rfl, r⟩ (fun _ z => z.elim) (fun z => by cases z) (fun _ _ _ _ _ _ _ z => z) fun K ds z => by cases z
theorem EnvOk.putj (e : EnvOk H0 S0 G S F q H) {i : Nat} (hi : i < G.length) (o : Option V) : EnvOk H0 S0 (G.set i .junk) S (fun j => if j = i then (fun _ => False) else F j) (q.set i o) H :=
  e.put hi (fun _ z => z) (fun _ z => z.elim) (fun z => by cases z) (fun _ _ _ _ _ _ _ z => z) fun K ds z => by cases z
/-- a new list, one's own -/
theorem EnvOk.puto (e : EnvOk H0 S0 G S F q H) {i : Nat} (hi : i < G.length) {ds : List D} {p : Addr} {vs : List V} (hp : H p = some (.lst vs)) (r : Reps S H vs ds) (h0 : H0 p = none) (hS : ¬ S p) (hF : ∀ j, ¬ F j p) :
    EnvOk H0 S0 (G.set i (.own ds)) S (fun j => if j = i then (fun a => a = p) else F j) (q.set i (some (.ref p))) H :=
  e.put hi ⟨p, vs, rfl, fun _ => Iff.rfl, hp, r⟩ (fun a z => by rw [z, hp]; exact Option.some_ne_none _) (fun _ a z => by rw [z]; exact ⟨h0, hS, fun j _ => hF j⟩) (fun j _ _ _ _ a ha z => hF j (z ▸ ha)) fun K ds z => by cases z
/-- a list of one's own changes -/
theorem EnvOk.store (e : EnvOk H0 S0 G S F q H) {i : Nat} {ds : List D} (hi : G[i]? = some (.own ds)) {ds' : List D} {p : Addr} {vs' : List V} (hp : q[i]? = some (some (.ref p))) (r : Reps S H vs' ds') :
    EnvOk H0 S0 (G.set i (.own ds')) S F q (upd H p (.lst vs')) := by
  obtain ⟨o, h1, p', vs, rfl, hF, hp', r'⟩ := e.sl i _ hi
  rw [hp] at h1
  cases h1
  have pF : F i p := (hF p).mpr rfl
  obtain ⟨m1, m2, m3⟩ := e.mu i _ hi rfl p pF
  have il : i < G.length := (List.getElem?_eq_some_iff.mp hi).1
  refine ⟨by rw [List.length_set, e.len], fun a o h => ?_, e.sfr, fun a h => ?_, fun j a h => ?_, fun j s hs => ?_, fun j s hs ms => ?_, fun j hj => e.out j (by rw [List.length_set] at hj; exact hj), fun j K es hs => ?_⟩
  · rw [upd_ne (ne_of_none h m1)]; exact e.ext a o h
  · by_cases z : a = p
    · rw [z, upd_same]; exact Option.some_ne_none _
    · rw [upd_ne z]; exact e.slv a h
  · by_cases z : a = p
    · rw [z, upd_same]; exact Option.some_ne_none _
    · rw [upd_ne z]; exact e.flv j a h
  · by_cases z : j = i
    · subst z
      rw [List.getElem?_set_self il] at hs
      cases hs
      refine ⟨_, hp, p, vs', rfl, hF, upd_same, r.mono (fun _ z => z) fun a o ha h => ?_⟩
      have zz : a ≠ p := fun z => by subst z; exact m2 ha
      rw [upd_ne zz]; exact h
    · rw [List.getElem?_set_ne (Ne.symm z)] at hs
      obtain ⟨o, h1, h2⟩ := e.sl j s hs
      refine ⟨o, h1, h2.keep (fun _ z => z) fun a u ha h => ?_⟩
      have zz : a ≠ p := fun w => by subst w; exact ha.elim m2 (m3 j z)
      rw [upd_ne zz]; exact h
  · by_cases z : j = i
    · subst z
      rw [List.getElem?_set_self il] at hs
      cases hs
      exact e.mu j _ hi rfl
    · rw [List.getElem?_set_ne (Ne.symm z)] at hs
      exact e.mu j s hs ms
  · by_cases z : j = i
    · subst z
      rw [List.getElem?_set_self il] at hs
      cases hs
    · rw [List.getElem?_set_ne (Ne.symm z)] at hs
      exact e.bo j K es hs
/-- a list of one's own is frozen -/
theorem EnvOk.freeze (e : EnvOk H0 S0 G S F q H) {i : Nat} {ds : List D} (hi : G[i]? = some (.own ds)) : ∃ S' F', (∀ a, S a → S' a) ∧ EnvOk H0 S0 (G.set i (.val (.list ds))) S' F' q H := by
  obtain ⟨o, h1, p, vs, rfl, hF, hp, r⟩ := e.sl i _ hi
  have pF : F i p := (hF p).mpr rfl
  obtain ⟨m1, m2, m3⟩ := e.mu i _ hi rfl p pF
  have il : i < G.length := (List.getElem?_eq_some_iff.mp hi).1
  have hs0 : ∀ a, S a → (fun a => S a ∨ a = p) a := fun a z => .inl z
  refine ⟨fun a => S a ∨ a = p, fun j => if j = i then (fun _ => False) else F j, hs0, ⟨by rw [List.length_set, e.len], e.ext, fun a h => h.elim (e.sfr a) fun z => .inr (by rw [z]; exact m1), fun a h => h.elim (e.slv a) fun z => ?_, fun j a h => ?_, fun j s hs => ?_, fun j s hs ms a ha => ?_, fun j hj a ha => ?_, fun j K es hs a ha => ?_⟩⟩
  · rw [z, hp]; exact Option.some_ne_none _
  · by_cases z : j = i
    · rw [if_pos z] at h; exact h.elim
    · rw [if_neg z] at h; exact e.flv j a h
  · by_cases z : j = i
    · subst z
      rw [List.getElem?_set_self il] at hs
      cases hs
      refine ⟨_, h1, ?_⟩
      rw [if_pos rfl]
      exact ⟨fun _ z => z, _, rfl, .lst (.inr rfl) (.inl hp) (r.mono hs0 fun _ _ _ z => z)⟩
    · rw [List.getElem?_set_ne (Ne.symm z)] at hs
      obtain ⟨o, h1, h2⟩ := e.sl j s hs
      refine ⟨o, h1, ?_⟩
      rw [if_neg z]
      exact h2.keep hs0 fun _ _ _ z => z
  · by_cases z : j = i
    · subst z
      rw [List.getElem?_set_self il] at hs
      cases hs
      cases ms
    · rw [List.getElem?_set_ne (Ne.symm z)] at hs
      rw [if_neg z] at ha
      obtain ⟨h1, h2, h3⟩ := e.mu j s hs ms a ha
      refine ⟨h1, fun w => w.elim h2 fun w => m3 j z (w ▸ ha), fun k hk => ?_⟩
      by_cases zk : k = i
      · rw [if_pos zk]; exact fun w => w
      · rw [if_neg zk]; exact h3 k hk
  · rw [List.length_set] at hj
    rw [if_neg (by omega)] at ha
    exact e.out j hj a ha
  · by_cases z : j = i
    · rw [if_pos z] at ha
      exact ha.elim
    · rw [List.getElem?_set_ne (Ne.symm z)] at hs
      rw [if_neg z] at ha
      exact e.bo j K es hs a ha
/-- an object that no name and nothing frozen knows changes -/
theorem EnvOk.other (e : EnvOk H0 S0 G S F q H) {p : Addr} {u : HO} (h0 : H0 p = none) (hS : ¬ S p) (hF : ∀ j, ¬ F j p) : EnvOk H0 S0 G S F q (upd H p u) where
  len := e.len
  ext := fun a o h => by rw [upd_ne (ne_of_none h h0)]; exact e.ext a o h
  sfr := e.sfr
  slv := fun a h => by
    by_cases z : a = p
    · rw [z, upd_same]; exact Option.some_ne_none _
    · rw [upd_ne z]; exact e.slv a h
  flv := fun j a h => by
    by_cases z : a = p
    · rw [z, upd_same]; exact Option.some_ne_none _
    · rw [upd_ne z]; exact e.flv j a h
  sl := fun j s hs => by
    obtain ⟨o, h1, h2⟩ := e.sl j s hs
    refine ⟨o, h1, h2.keep (fun _ z => z) fun a u ha h => ?_⟩
    have zz : a ≠ p := fun w => by subst w; exact ha.elim hS (hF j)
    rw [upd_ne zz]; exact h
  mu := e.mu
  out := e.out
  bo := e.bo
end
/-- what is frozen stays as it is -/
structure Keep (S : AS) (H : Hp) (S' : AS) (H' : Hp) : Prop where
  sub : ∀ a, S a → S' a
  obj : ∀ a o, S a → H a = some o → H' a = some o
theorem Keep.refl (S : AS) (H : Hp) : Keep S H S H := ⟨fun _ h => h, fun _ _ _ h => h⟩
theorem Keep.trans {S S1 S2 : AS} {H H1 H2 : Hp} (g : Keep S H S1 H1) (k : Keep S1 H1 S2 H2) : Keep S H S2 H2 := ⟨fun a h => k.sub a (g.sub a h), fun a o z h => k.obj a o (g.sub a z) (g.obj a o z h)⟩
theorem Grow.keep {S S1 : AS} {H H1 : Hp} (g : Grow S H S1 H1) : Keep S H S1 H1 := ⟨g.sub, fun a o _ h => g.ext a o h⟩
theorem Keep.upd {S : AS} {H : Hp} {p : Addr} {o : HO} (h : ¬ S p) : Keep S H S (upd H p o) := ⟨fun _ z => z, fun a u z e => by
  have zz : a ≠ p := fun w => by subst w; exact h z
  rw [upd_ne zz]; exact e⟩
theorem Rep.keep {S S' : AS} {H H' : Hp} (k : Keep S H S' H') {v : V} {d : D} (r : Rep S H v d) : Rep S' H' v d := r.mono k.sub k.obj
theorem Reps.keep {S S' : AS} {H H' : Hp} (k : Keep S H S' H') {v : List V} {d : List D} (r : Reps S H v d) : Reps S' H' v d := r.mono k.sub k.obj
end DL

namespace DL
open PySem PySem.Spec PyProof.Rows L2

/-! ### the machine's own readings -/
def wE (X : Cx) (e : Expr) : TE := fun q H Q => ∀ pins s, Inv X pins q H s → wpAny (model X.prog X.w) X.A (eval e X.env) (EP X pins q Q) X.xe s
def wT (X : Cx) (e : Expr) : TT := fun q H Q => ∀ pins s, Inv X pins q H s → wpAny (model X.prog X.w) X.A (isTrue e X.env (eval e X.env)) (TP X pins q Q) X.xe s
def wW (X : Cx) (e : Expr) : TT := fun q H Q => ∀ whole pins s, Inv X pins q H s → wpAny (model X.prog X.w) X.A (isTrue e X.env whole) (TP X pins q Q) X.xe s
def wA (X : Cx) (es : List Expr) : TA := fun q H Q => ∀ pos pins s, Inv X pins q H s → wpAny (model X.prog X.w) X.A (spliced (backTo pos (starEach es X.env))) (AP X pins q Q) X.xe s
def wSs (X : Cx) (ss : List Stmt) : TS := fun Dd q H => ∀ pins s, Inv X pins q H s → wpAny (model X.prog X.w) X.A (execs ss X.env) (SP X pins Dd) X.xe s
def wG (X : Cx) (tg : Expr) : TG := fun v q H Q => ∀ pins s u, Inv X pins q H s → RelV v u → wpAny (model X.prog X.w) X.A (assign tg X.env u) (fun _ s' => ∃ q' H', Inv X pins q' H' s' ∧ Q q' H') X.xe s
def wGs (X : Cx) (ts : List Expr) : TGs := fun vs q H Q => ∀ pins s us, Inv X pins q H s → Vals vs us → wpAny (model X.prog X.w) X.A (assignInOrder ((assignEach ts X.env).map (·.2)) us) (fun _ s' => ∃ q' H', Inv X pins q' H' s' ∧ Q q' H') X.xe s
section
variable {X : Cx} {e : Expr} {es : List Expr} {ss : List Stmt} {q : L2.St} {H : Hp}
theorem pwE : PE X e (wE X e) := ⟨fun pins s _ _ _ I h => h pins s I⟩
theorem pwT : PT X e (wT X e) := ⟨fun pins s _ _ _ I h => h pins s I⟩
theorem pwW : PW X e (wW X e) := ⟨fun wh pins s _ _ _ I h => h wh pins s I⟩
theorem pwA : PA X es (wA X es) := ⟨fun pos pins s _ _ _ I h => h pos pins s I⟩
theorem pwSs : PSs X ss (wSs X ss) := ⟨fun pins s _ _ _ I h => h pins s I⟩
theorem pwG : PG X e (wG X e) := ⟨fun pins s _ _ _ u _ I r h => h pins s u I r⟩
theorem pwGs : PGs X es (wGs X es) := ⟨fun pins s _ _ _ us _ I r h => h pins s us I r⟩
theorem wE_of {t : TE} {Q : VK} (h : PE X e t) (k : t q H Q) : wE X e q H Q := fun pins s I => h.run pins s q H Q I k
theorem wT_of {t : TT} {Q : Bool → Hp → Prop} (h : PT X e t) (k : t q H Q) : wT X e q H Q := fun pins s I => h.run pins s q H Q I k
theorem wW_of {t : TT} {Q : Bool → Hp → Prop} (h : PW X e t) (k : t q H Q) : wW X e q H Q := fun wh pins s I => h.run wh pins s q H Q I k
theorem wA_of {t : TA} {Q : List V → Hp → Prop} (h : PA X es t) (k : t q H Q) : wA X es q H Q := fun pos pins s I => h.run pos pins s q H Q I k
theorem wSs_of {t : TS} {Dd : Ends} (h : PSs X ss t) (k : t Dd q H) : wSs X ss Dd q H := fun pins s I => h.run pins s q H Dd I k
theorem wG_of {t : TG} {v : V} {Q : L2.St → Hp → Prop} (h : PG X e t) (k : t v q H Q) : wG X e v q H Q := fun pins s u I r => h.run pins s q H v u Q I r k
theorem wGs_of {t : TGs} {vs : List V} {Q : L2.St → Hp → Prop} (h : PGs X es t) (k : t vs q H Q) : wGs X es vs q H Q := fun pins s us I r => h.run pins s q H vs us Q I r k
end

/-! ### data judgements -/
inductive RV where
  | val (d : D)
  | own (ds : List D)
def RV.dat : RV → D
  | .val d => d
  | .own ds => .list ds
inductive Out where
  | nxt (G : List Slot)
  | ret (r : RV)
  | brk (G : List Slot)
  | cnt (G : List Slot)

def DE (X : Cx) (H0 : Hp) (S0 : AS) (e : Expr) (G : List Slot) (d : D) : Prop := ∀ S F q H, EnvOk H0 S0 G S F q H → ∀ Q : VK, (∀ v H' S', Grow S H S' H' → Rep S' H' v d → Q v H') → wE X e q H Q
def DO (X : Cx) (H0 : Hp) (S0 : AS) (e : Expr) (G : List Slot) (ds : List D) : Prop := ∀ S F q H, EnvOk H0 S0 G S F q H → ∀ Q : VK, (∀ p vs H' S', Grow S H S' H' → H p = none → ¬ S' p → H' p = some (.lst vs) → Reps S' H' vs ds → Q (.ref p) H') → wE X e q H Q
def DLs (X : Cx) (H0 : Hp) (S0 : AS) (e : Expr) (G : List Slot) (ds : List D) : Prop := ∀ S F q H, EnvOk H0 S0 G S F q H → ∀ Q : VK, (∀ p vs H' S', Grow S H S' H' → SqL X.K H' p vs → Reps S' H' vs ds → Q (.ref p) H') → wE X e q H Q
/-- a list that no written part holds -/
def DLr (X : Cx) (H0 : Hp) (S0 : AS) (e : Expr) (G : List Slot) (ds : List D) : Prop := ∀ S F q H, EnvOk H0 S0 G S F q H → ∀ Q : VK, (∀ p vs H' S', Grow S H S' H' → Rd H' p (.lst vs) → Reps S' H' vs ds → Q (.ref p) H') → wE X e q H Q
def DT (X : Cx) (H0 : Hp) (S0 : AS) (e : Expr) (G : List Slot) (b : Bool) : Prop := ∀ S F q H, EnvOk H0 S0 G S F q H → ∀ Q : Bool → Hp → Prop, (∀ H' S', Grow S H S' H' → Q b H') → wT X e q H Q
def DW (X : Cx) (H0 : Hp) (S0 : AS) (e : Expr) (G : List Slot) (b : Bool) : Prop := ∀ S F q H, EnvOk H0 S0 G S F q H → ∀ Q : Bool → Hp → Prop, (∀ H' S', Grow S H S' H' → Q b H') → wW X e q H Q
def DA (X : Cx) (H0 : Hp) (S0 : AS) (es : List Expr) (G : List Slot) (ds : List D) : Prop := ∀ S F q H, EnvOk H0 S0 G S F q H → ∀ Q : List V → Hp → Prop, (∀ vs H' S', Grow S H S' H' → Reps S' H' vs ds → Q vs H') → wA X es q H Q

/-- arguments: a value, or (true) a list that is lent -/
inductive RepB (K : PySem.W.Frag) (S : AS) (H : Hp) : Bool → V → D → Prop
  | v {x : V} {d : D} : Rep S H x d → RepB K S H false x d
  | b {p : Addr} {vs : List V} {ds : List D} : SqL K H p vs → Reps S H vs ds → RepB K S H true (.ref p) (.list ds)
inductive RepsB (K : PySem.W.Frag) (S : AS) (H : Hp) : List Bool → List V → List D → Prop
  | nil : RepsB K S H [] [] []
  | cons {b : Bool} {v : V} {d : D} {bs : List Bool} {vs : List V} {ds : List D} : RepB K S H b v d → RepsB K S H bs vs ds → RepsB K S H (b :: bs) (v :: vs) (d :: ds)
theorem sql_ext {K : PySem.W.Frag} {H H' : Hp} {a : Addr} {xs : List V} (e : ∀ a o, H a = some o → H' a = some o) (h : SqL K H a xs) : SqL K H' a xs := h.imp (rd_keep fun o z => e _ o z) id
def DB (X : Cx) (H0 : Hp) (S0 : AS) (bs : List Bool) (es : List Expr) (G : List Slot) (ds : List D) : Prop := ∀ S F q H, EnvOk H0 S0 G S F q H → ∀ Q : List V → Hp → Prop, (∀ vs H' S', Grow S H S' H' → RepsB X.K S' H' bs vs ds → Q vs H') → wA X es q H Q

structure EndOk (H0 : Hp) (S0 S1 : AS) (H1 : Hp) (P : Out → Prop) (Dd : Ends) : Prop where
  nx : ∀ G S F q H, P (.nxt G) → Keep S1 H1 S H → EnvOk H0 S0 G S F q H → Dd.nx q H
  bk : ∀ G S F q H, P (.brk G) → Keep S1 H1 S H → EnvOk H0 S0 G S F q H → Dd.bk q H
  ct : ∀ G S F q H, P (.cnt G) → Keep S1 H1 S H → EnvOk H0 S0 G S F q H → Dd.ct q H
  rv : ∀ d v S H, P (.ret (.val d)) → (∀ a o, H0 a = some o → H a = some o) → (∀ a, S a → S0 a ∨ H0 a = none) → (∀ a, S a → H a ≠ none) → Rep S H v d → Dd.rt v H
  ro : ∀ ds p vs S H, P (.ret (.own ds)) → (∀ a o, H0 a = some o → H a = some o) → (∀ a, S a → S0 a ∨ H0 a = none) → (∀ a, S a → H a ≠ none) → H0 p = none → ¬ S p → H p = some (.lst vs) → Reps S H vs ds → Dd.rt (.ref p) H
def DS (X : Cx) (H0 : Hp) (S0 : AS) (ss : List Stmt) (G : List Slot) (P : Out → Prop) : Prop := ∀ S F q H Dd, EnvOk H0 S0 G S F q H → EndOk H0 S0 S H P Dd → wSs X ss Dd q H

/-- where one stands -/
structure XOk (P : Program) (w : World) (K : PySem.W.Frag) (mg : Str → Option Value) (base : Heap) (k : Nat) (N : List Str) (sc : Scope) (fa : Bool) (X : Cx) : Prop where
  eP : X.prog = P
  ew : X.w = w
  eK : X.K = K
  emg : X.mg = mg
  eb : X.base = base
  eN : X.N = N
  es : X.env.scope = sc
  nd : N.Nodup
  calm : X.calm = true
  room : Room k X.A
  fn : fa = true → ∀ x, X.fn x = true
  po : PassesOwn (model X.prog X.w) X.A X.env X.xe

def visB (sc : Scope) (x : Str) : Bool := match sc.names.lookup x with
  | some .local => true
  | some .cell => true
  | some .free => true
  | _ => false
def locB (sc : Scope) (x : Str) : Bool := match sc.names.lookup x with
  | some .local => true
  | some .cell => true
  | _ => false
def globB (sc : Scope) (x : Str) : Bool := match sc.names.lookup x with
  | some .globalImplicit => true
  | _ => false
theorem vis_of {sc : Scope} {x : Str} (h : visB sc x = true) : Vis sc x := by
  unfold visB at h
  unfold Vis
  split at h <;> first | (rename_i e; rw [e]; simp) | cases h
theorem loc_of {sc : Scope} {x : Str} (h : locB sc x = true) : L2.Loc sc x := by
  unfold locB at h
  unfold L2.Loc
  split at h <;> first | (rename_i e; rw [e]; simp) | cases h

section
variable {P : Program} {w : World} {K : PySem.W.Frag} {mg : Str → Option Value} {base : Heap} {k : Nat} {N : List Str} {sc : Scope} {fa : Bool} {X : Cx} {H0 : Hp} {S0 : AS} {G : List Slot} {pos p1 p2 p3 : Pos}
theorem XOk.gl (hX : XOk P w K mg base k N sc fa X) {x : Str} (h : globB sc x = true) : Gl X x := by
  unfold globB at h
  show X.env.scope.names.lookup x = some .globalImplicit
  rw [hX.es]
  split at h <;> first | assumption | cases h

/-! #### from one to another -/
theorem dls_val {e : Expr} {ds : List D} (h : DE X H0 S0 e G (.list ds)) : DLs X H0 S0 e G ds := fun S F q H E Q k => h S F q H E Q fun v H' S' g r => by
  cases r with
  | lst h1 h2 h3 => exact k _ _ H' S' g (.inl h2) h3
theorem dlr_val {e : Expr} {ds : List D} (h : DE X H0 S0 e G (.list ds)) : DLr X H0 S0 e G ds := fun S F q H E Q k => h S F q H E Q fun v H' S' g r => by
  cases r with
  | lst h1 h2 h3 => exact k _ _ H' S' g h2 h3
theorem dlr_own {e : Expr} {ds : List D} (h : DO X H0 S0 e G ds) : DLr X H0 S0 e G ds := fun S F q H E Q k => h S F q H E Q fun p vs H' S' g _ _ hp r => k p vs H' S' g (.inl hp) r
theorem dls_own {e : Expr} {ds : List D} (h : DO X H0 S0 e G ds) : DLs X H0 S0 e G ds := fun S F q H E Q k => h S F q H E Q fun p vs H' S' g _ _ hp r => k p vs H' S' g (.inl (.inl hp)) r
theorem de_own {e : Expr} {ds : List D} (h : DO X H0 S0 e G ds) : DE X H0 S0 e G (.list ds) := fun S F q H E Q k => h S F q H E Q fun p vs H' S' g hn hs hp r =>
  k (.ref p) H' (fun a => S' a ∨ a = p) ⟨g.ext, fun a z => .inl (g.sub a z), fun a z => z.elim (g.new a) fun z => .inr (by rw [z]; exact hn), fun a z => z.elim (g.lv a) fun z => .inr (by rw [z, hp]; exact Option.some_ne_none _)⟩
    (.lst (.inr rfl) (.inl hp) (r.mono (fun _ z => .inl z) fun _ _ _ z => z))
/-! #### names, constants -/
theorem de_v (i : Nat) (hX : XOk P w K mg base k N sc fa X) {x : Str} {d : D} (hN : N[i]? = some x := by rfl) (hv : visB sc x = true := by decide +kernel) (h : G[i]? = some (.val d) := by rfl) (hd : (x == ("__debug__" : Str)) = false := by decide) (hcd : (x == ("__classdict__" : Str)) = false := by decide) :
    DE X H0 S0 (.Name x pos) G d := fun S F q H E Q kk => by
  obtain ⟨o, h1, _, v, rfl, r⟩ := E.sl i _ h
  exact wE_of (pe_var (X := X) (i := i) (by rw [hX.eN]; exact hN) (by rw [hX.es]; exact vis_of hv) hd hcd) ⟨v, h1, kk v H S (Grow.refl S H) r⟩
theorem dlr_o (i : Nat) (hX : XOk P w K mg base k N sc fa X) {x : Str} {ds : List D} (hN : N[i]? = some x := by rfl) (hv : visB sc x = true := by decide +kernel) (h : G[i]? = some (.own ds) := by rfl) (hd : (x == ("__debug__" : Str)) = false := by decide) (hcd : (x == ("__classdict__" : Str)) = false := by decide) :
    DLr X H0 S0 (.Name x pos) G ds := fun S F q H E Q kk => by
  obtain ⟨o, h1, p, vs, rfl, _, hp, r⟩ := E.sl i _ h
  exact wE_of (pe_var (X := X) (i := i) (by rw [hX.eN]; exact hN) (by rw [hX.es]; exact vis_of hv) hd hcd) ⟨_, h1, kk p vs H S (Grow.refl S H) (.inl hp) r⟩
theorem dls_r {e : Expr} {ds : List D} (h : DLr X H0 S0 e G ds) : DLs X H0 S0 e G ds := fun S F q H E Q kk => h S F q H E Q fun p vs H' S' g hp r => kk p vs H' S' g (.inl hp) r
theorem dls_o (i : Nat) (hX : XOk P w K mg base k N sc fa X) {x : Str} {ds : List D} (hN : N[i]? = some x := by rfl) (hv : visB sc x = true := by decide +kernel) (h : G[i]? = some (.own ds) := by rfl) (hd : (x == ("__debug__" : Str)) = false := by decide) (hcd : (x == ("__classdict__" : Str)) = false := by decide) :
    DLs X H0 S0 (.Name x pos) G ds := dls_r (dlr_o i hX hN hv h hd hcd)
theorem dls_b (i : Nat) (hX : XOk P w K mg base k N sc fa X) {x : Str} {ds : List D} (hN : N[i]? = some x := by rfl) (hv : visB sc x = true := by decide +kernel) (h : G[i]? = some (.bor K ds) := by rfl) (hd : (x == ("__debug__" : Str)) = false := by decide) (hcd : (x == ("__classdict__" : Str)) = false := by decide) :
    DLs X H0 S0 (.Name x pos) G ds := fun S F q H E Q kk => by
  obtain ⟨o, h1, p, vs, rfl, _, hp, r⟩ := E.sl i _ h
  refine wE_of (pe_var (X := X) (i := i) (by rw [hX.eN]; exact hN) (by rw [hX.es]; exact vis_of hv) hd hcd) ⟨_, h1, kk p vs H S (Grow.refl S H) ?_ r⟩
  rw [hX.eK]
  exact hp.imp (fun z => z.2) id
theorem de_int {i : Int} {j : Nat} : DE X H0 S0 (.Constant (.int i) j pos) G (.int i) := fun S F q H E Q kk => wE_of pe_int (kk _ H S (Grow.refl S H) (.int i))
theorem de_bl {b : Bool} {j : Nat} : DE X H0 S0 (.Constant (.bool b) j pos) G (.bool b) := fun S F q H E Q kk => wE_of pe_bl (kk _ H S (Grow.refl S H) (.bl b))
theorem de_non {j : Nat} : DE X H0 S0 (.Constant .none j pos) G .none := fun S F q H E Q kk => wE_of pe_non (kk _ H S (Grow.refl S H) .non)
theorem de_str {x : Str} {j : Nat} : DE X H0 S0 (.Constant (.str x) j pos) G (.str x) := fun S F q H E Q kk => wE_of pe_str (kk _ H S (Grow.refl S H) (.str x))

/-! #### operators -/
theorem de_op2 {op : Operator} {r : R2} {a b : Expr} {x y z : D} (ho : OpR X (binaryOp op) r) (ha : DE X H0 S0 a G x) (hb : DE X H0 S0 b G y)
    (hr : ∀ S H v u (Q : VK), Rep S H v x → Rep S H u y → (∀ v' H' S', Grow S H S' H' → Rep S' H' v' z → Q v' H') → r v u H Q) : DE X H0 S0 (.BinOp a op b pos) G z := fun S F q H E Q kk =>
  wE_of (pe_op ho pwE pwE) (ha S F q H E _ fun v H1 S1 g1 r1 => hb S1 F q H1 (E.grow g1) _ fun u H2 S2 g2 r2 =>
    hr S2 H2 v u Q (r1.mono g2.sub fun a o _ e => g2.ext a o e) r2 fun v' H3 S3 g3 r3 => kk v' H3 S3 ((g1.trans g2).trans g3) r3)
theorem de_opI {op : Operator} {C : Int → Int → Prop} {g : Int → Int → Int} {a b : Expr} {i j : Int} (ho : OpR X (binaryOp op) (rI C fun i j => .int (g i j))) (ha : DE X H0 S0 a G (.int i)) (hb : DE X H0 S0 b G (.int j)) (hc : C i j) : DE X H0 S0 (.BinOp a op b pos) G (.int (g i j)) :=
  de_op2 ho ha hb fun S H v u Q rv ru kk => by
    cases rv; cases ru
    exact ⟨_, _, rfl, rfl, hc, kk _ H S (Grow.refl S H) (.int _)⟩
theorem de_opI0 {op : Operator} {g : Int → Int → Int} {a b : Expr} {i j : Int} (ho : OpR X (binaryOp op) (rI0 fun i j => .int (g i j))) (ha : DE X H0 S0 a G (.int i)) (hb : DE X H0 S0 b G (.int j)) : DE X H0 S0 (.BinOp a op b pos) G (.int (g i j)) :=
  de_op2 ho ha hb fun S H v u Q rv ru kk => by
    cases rv; cases ru
    exact ⟨_, _, rfl, rfl, kk _ H S (Grow.refl S H) (.int _)⟩
theorem de_add {a b : Expr} {i j : Int} (ha : DE X H0 S0 a G (.int i)) (hb : DE X H0 S0 b G (.int j)) : DE X H0 S0 (.BinOp a .Add b pos) G (.int (i + j)) := de_opI0 op_add ha hb
theorem de_sub {a b : Expr} {i j : Int} (ha : DE X H0 S0 a G (.int i)) (hb : DE X H0 S0 b G (.int j)) : DE X H0 S0 (.BinOp a .Sub b pos) G (.int (i - j)) := de_opI0 op_sub ha hb
/-- one factor is below 2 ^ 64 -/
theorem de_mul {a b : Expr} {i j : Int} (ha : DE X H0 S0 a G (.int i)) (hb : DE X H0 S0 b G (.int j)) (hc : CMul i j) : DE X H0 S0 (.BinOp a .Mult b pos) G (.int (i * j)) := de_opI op_mul ha hb hc
/-- a written factor -/
theorem de_mulL {a b : Expr} {i j : Int} (ha : DE X H0 S0 a G (.int i)) (hb : DE X H0 S0 b G (.int j)) (hc : -(2 ^ 64) < i ∧ i < 2 ^ 64 := by decide +kernel) : DE X H0 S0 (.BinOp a .Mult b pos) G (.int (i * j)) := de_opI op_mul ha hb (.inl hc)
theorem de_mulR {a b : Expr} {i j : Int} (ha : DE X H0 S0 a G (.int i)) (hb : DE X H0 S0 b G (.int j)) (hc : -(2 ^ 64) < j ∧ j < 2 ^ 64 := by decide +kernel) : DE X H0 S0 (.BinOp a .Mult b pos) G (.int (i * j)) := de_opI op_mul ha hb (.inr hc)
theorem de_mulW {a b : Expr} {i j : Int} (ha : DE X H0 S0 a G (.int i)) (hb : DE X H0 S0 b G (.int j)) (hc : CMulW i j) : DE X H0 S0 (.BinOp a .Mult b pos) G (.int (i * j)) := de_opI op_mulW ha hb hc
theorem de_div {a b : Expr} {i j : Int} (ha : DE X H0 S0 a G (.int i)) (hb : DE X H0 S0 b G (.int j)) (hc : CDivW i j := by exact ⟨by decide +kernel, by decide +kernel⟩) : DE X H0 S0 (.BinOp a .FloorDiv b pos) G (.int (i / j)) := de_opI op_fdivW ha hb hc
theorem de_mod {a b : Expr} {i j : Int} (ha : DE X H0 S0 a G (.int i)) (hb : DE X H0 S0 b G (.int j)) (hc : 0 < j := by decide +kernel) : DE X H0 S0 (.BinOp a .Mod b pos) G (.int (i % j)) := de_opI op_mod ha hb hc
theorem de_pow {a b : Expr} {i j : Int} (ha : DE X H0 S0 a G (.int i)) (hb : DE X H0 S0 b G (.int j)) (hc : CPow i j := by exact ⟨by decide +kernel, by decide +kernel, by decide +kernel⟩) : DE X H0 S0 (.BinOp a .Pow b pos) G (.int (i ^ j.toNat)) := de_opI op_pow ha hb hc
theorem de_neg {a : Expr} {i : Int} (ha : DE X H0 S0 a G (.int i)) : DE X H0 S0 (.UnaryOp .USub a pos) G (.int (-i)) := fun S F q H E Q kk =>
  wE_of (pe_un un_neg pwE) (ha S F q H E _ fun v H1 S1 g1 r1 => by
    cases r1
    exact ⟨_, rfl, kk _ H1 S1 g1 (.int _)⟩)
theorem de_adds {a b : Expr} {x y : Str} (ha : DE X H0 S0 a G (.str x)) (hb : DE X H0 S0 b G (.str y)) (hz : x.length + y.length ≤ sizeLine) : DE X H0 S0 (.BinOp a .Add b pos) G (.str (x ++ y)) :=
  de_op2 op_add_str ha hb fun S H v u Q rv ru kk => by
    cases rv; cases ru
    exact ⟨_, _, rfl, rfl, hz, kk _ H S (Grow.refl S H) (.str _)⟩

/-! #### comparisons -/
theorem de_cmp {op : CmpOp} {r : R2} {a b : Expr} {x y : D} {z : Bool} (ho : OpR X (compareOp op) r) (ha : DE X H0 S0 a G x) (hb : DE X H0 S0 b G y) (hm : behindInMarks op b = false)
    (hr : ∀ S H v u (Q : VK), Rep S H v x → Rep S H u y → Q (.bl z) H → r v u H Q) : DE X H0 S0 (.Compare a [op] [b] pos) G (.bool z) := fun S F q H E Q kk =>
  wE_of (pe_cmpR ho pwE pwE hm) (ha S F q H E _ fun v H1 S1 g1 r1 => hb S1 F q H1 (E.grow g1) _ fun u H2 S2 g2 r2 =>
    hr S2 H2 v u Q (r1.mono g2.sub fun a o _ e => g2.ext a o e) r2 (kk _ H2 S2 (g1.trans g2) (.bl z)))
theorem dt_cmp {op : CmpOp} {r : R2} {a b : Expr} {x y : D} {z : Bool} (ho : OpR X (compareOp op) r) (ha : DE X H0 S0 a G x) (hb : DE X H0 S0 b G y) (hm : behindInMarks op b = false)
    (hr : ∀ S H v u (Q : VK), Rep S H v x → Rep S H u y → Q (.bl z) H → r v u H Q) : DT X H0 S0 (.Compare a [op] [b] pos) G z := fun S F q H E Q kk =>
  wT_of (pt_cmpR ho pwE pwE hm) (ha S F q H E _ fun v H1 S1 g1 r1 => hb S1 F q H1 (E.grow g1) _ fun u H2 S2 g2 r2 =>
    hr S2 H2 v u _ (r1.mono g2.sub fun a o _ e => g2.ext a o e) r2 ⟨z, rfl, kk H2 S2 (g1.trans g2)⟩)
/-- what a comparison of two things is -/
inductive CmpD : CmpOp → D → D → Bool → Prop
  | lt {i j : Int} : CmpD .Lt (.int i) (.int j) (decide (i < j))
  | le {i j : Int} : CmpD .LtE (.int i) (.int j) (decide (i ≤ j))
  | gt {i j : Int} : CmpD .Gt (.int i) (.int j) (decide (j < i))
  | ge {i j : Int} : CmpD .GtE (.int i) (.int j) (decide (j ≤ i))
  | eq {i j : Int} : CmpD .Eq (.int i) (.int j) (decide (i = j))
  | ne {i j : Int} : CmpD .NotEq (.int i) (.int j) (!decide (i = j))
  | eqs {i j : Str} : CmpD .Eq (.str i) (.str j) (decide (i = j))
  | nes {i j : Str} : CmpD .NotEq (.str i) (.str j) (!decide (i = j))
  | eqb {i j : Bool} : CmpD .Eq (.bool i) (.bool j) (decide (i = j))
  | neb {i j : Bool} : CmpD .NotEq (.bool i) (.bool j) (!decide (i = j))
def cmpR (X : Cx) (op : CmpOp) : R2 := fun x y H Q => ∃ z, (∃ d e S, Rep S H x d ∧ Rep S H y e ∧ CmpD op d e z) ∧ Q (.bl z) H
theorem op_cmp (op : CmpOp) : OpR X (compareOp op) (cmpR X op) := by
  intro pins s q H x y v u Q I rx ry h
  obtain ⟨z, ⟨d, e, S, r1, r2, c⟩, hq⟩ := h
  have i1 : ∀ {i j : Int}, decide (V.int i = V.int j) = decide (i = j) := fun {i j} => by simp
  have i2 : ∀ {i j : Str}, decide (V.str i = V.str j) = decide (i = j) := fun {i j} => by simp
  have i3 : ∀ {i j : Bool}, decide (V.bl i = V.bl j) = decide (i = j) := fun {i j} => by simp
  cases c with
  | lt => cases r1; cases r2; exact op_lt pins s q H _ _ v u Q I rx ry ⟨_, _, rfl, rfl, hq⟩
  | le => cases r1; cases r2; exact op_le pins s q H _ _ v u Q I rx ry ⟨_, _, rfl, rfl, hq⟩
  | gt => cases r1; cases r2; exact op_gt pins s q H _ _ v u Q I rx ry ⟨_, _, rfl, rfl, hq⟩
  | ge => cases r1; cases r2; exact op_ge pins s q H _ _ v u Q I rx ry ⟨_, _, rfl, rfl, hq⟩
  | eq => cases r1; cases r2; exact op_eq pins s q H _ _ v u Q I rx ry ⟨rfl, by rw [i1]; exact hq⟩
  | ne => cases r1; cases r2; exact op_ne pins s q H _ _ v u Q I rx ry ⟨rfl, by rw [i1]; exact hq⟩
  | eqs => cases r1; cases r2; exact op_eq pins s q H _ _ v u Q I rx ry ⟨rfl, by rw [i2]; exact hq⟩
  | nes => cases r1; cases r2; exact op_ne pins s q H _ _ v u Q I rx ry ⟨rfl, by rw [i2]; exact hq⟩
  | eqb => cases r1; cases r2; exact op_eq pins s q H _ _ v u Q I rx ry ⟨rfl, by rw [i3]; exact hq⟩
  | neb => cases r1; cases r2; exact op_ne pins s q H _ _ v u Q I rx ry ⟨rfl, by rw [i3]; exact hq⟩
theorem CmpD.mark {op : CmpOp} {x y : D} {z : Bool} (c : CmpD op x y z) (b : Expr) : behindInMarks op b = false := by
  cases c <;> exact nomark b
theorem de_c {op : CmpOp} {a b : Expr} {x y : D} {z : Bool} (ha : DE X H0 S0 a G x) (hb : DE X H0 S0 b G y) (c : CmpD op x y z) : DE X H0 S0 (.Compare a [op] [b] pos) G (.bool z) :=
  de_cmp (op_cmp op) ha hb (c.mark b) fun S H v u Q r1 r2 h => ⟨z, ⟨x, y, S, r1, r2, c⟩, h⟩
theorem dt_c {op : CmpOp} {a b : Expr} {x y : D} {z : Bool} (ha : DE X H0 S0 a G x) (hb : DE X H0 S0 b G y) (c : CmpD op x y z) : DT X H0 S0 (.Compare a [op] [b] pos) G z :=
  dt_cmp (op_cmp op) ha hb (c.mark b) fun S H v u Q r1 r2 h => ⟨z, ⟨x, y, S, r1, r2, c⟩, h⟩
/-- x is None -/
def isNone : D → Bool
  | .none => true
  | _ => false
theorem rep_none {S : AS} {H : Hp} {v : V} {d : D} (r : Rep S H v d) : decide (v = .non) = isNone d := by
  cases r <;> simp [isNone]
theorem de_isN {a : Expr} {x : D} {j : Nat} (ha : DE X H0 S0 a G x) : DE X H0 S0 (.Compare a [.Is] [.Constant .none j p2] pos) G (.bool (isNone x)) :=
  de_cmp op_isN ha de_non (nomark _) fun S H v u Q r1 r2 h => by cases r2; exact ⟨rfl, by rw [rep_none r1]; exact h⟩
theorem dt_isN {a : Expr} {x : D} {j : Nat} (ha : DE X H0 S0 a G x) : DT X H0 S0 (.Compare a [.Is] [.Constant .none j p2] pos) G (isNone x) :=
  dt_cmp op_isN ha de_non (nomark _) fun S H v u Q r1 r2 h => by cases r2; exact ⟨rfl, by rw [rep_none r1]; exact h⟩
theorem de_notN {a : Expr} {x : D} {j : Nat} (ha : DE X H0 S0 a G x) : DE X H0 S0 (.Compare a [.IsNot] [.Constant .none j p2] pos) G (.bool (!isNone x)) :=
  de_cmp op_notN ha de_non (nomark _) fun S H v u Q r1 r2 h => by cases r2; exact ⟨rfl, by rw [rep_none r1]; exact h⟩
theorem dt_notN {a : Expr} {x : D} {j : Nat} (ha : DE X H0 S0 a G x) : DT X H0 S0 (.Compare a [.IsNot] [.Constant .none j p2] pos) G (!isNone x) :=
  dt_cmp op_notN ha de_non (nomark _) fun S H v u Q r1 r2 h => by cases r2; exact ⟨rfl, by rw [rep_none r1]; exact h⟩
/-- == of data -/
def DP (X : Cx) (H0 : Hp) (S0 : AS) (e : Expr) (G : List Slot) (d : D) : Prop := ∀ S F q H, EnvOk H0 S0 G S F q H → ∀ Q : VK, (∀ v H' S', Grow S H S' H' → (∀ H'', (∀ a o, H' a = some o → H'' a = some o) → Dp X.K H'' v d) → Q v H') → wE X e q H Q
theorem dp_e {e : Expr} {d : D} (h : DE X H0 S0 e G d) : DP X H0 S0 e G d := fun S F q H E Q kk => h S F q H E Q fun v H' S' g r => kk v H' S' g fun H'' e => (r.mono (S' := S') (fun _ z => z) fun a o _ z => e a o z).dp
theorem dp_l {e : Expr} {ds : List D} (h : DLs X H0 S0 e G ds) : DP X H0 S0 e G (.list ds) := fun S F q H E Q kk => h S F q H E Q fun p vs H' S' g hp r =>
  kk _ H' S' g fun H'' e => .lst (sql_ext e hp) (r.mono (S' := S') (fun _ z => z) fun a o _ z => e a o z).dp
theorem de_eqD (hX : XOk P w K mg base k N sc fa X) {a b : Expr} {x y : D} (ha : DP X H0 S0 a G x) (hb : DP X H0 S0 b G y) (h1 : SeqAt.shaped x = true) (h2 : SeqAt.shaped y = true) : DE X H0 S0 (.Compare a [.Eq] [b] pos) G (.bool (PyData.eqv x y)) := fun S F q H E Q kk =>
  wE_of (pe_cmpR (op_eqD hX.room.units) pwE pwE (nomark _)) (ha S F q H E _ fun v H1 S1 g1 r1 => hb S1 F q H1 (E.grow g1) _ fun u H2 S2 g2 r2 => ⟨x, y, r1 H2 g2.ext, r2 H2 fun _ _ z => z, h1, h2, kk _ H2 S2 (g1.trans g2) (.bl _)⟩)
theorem dt_eqD (hX : XOk P w K mg base k N sc fa X) {a b : Expr} {x y : D} (ha : DP X H0 S0 a G x) (hb : DP X H0 S0 b G y) (h1 : SeqAt.shaped x = true) (h2 : SeqAt.shaped y = true) : DT X H0 S0 (.Compare a [.Eq] [b] pos) G (PyData.eqv x y) := fun S F q H E Q kk =>
  wT_of (pt_cmpR (op_eqD hX.room.units) pwE pwE (nomark _)) (ha S F q H E _ fun v H1 S1 g1 r1 => hb S1 F q H1 (E.grow g1) _ fun u H2 S2 g2 r2 => ⟨x, y, r1 H2 g2.ext, r2 H2 fun _ _ z => z, h1, h2, _, rfl, kk H2 S2 (g1.trans g2)⟩)
theorem de_neD (hX : XOk P w K mg base k N sc fa X) {a b : Expr} {x y : D} (ha : DP X H0 S0 a G x) (hb : DP X H0 S0 b G y) (h1 : SeqAt.shaped x = true) (h2 : SeqAt.shaped y = true) : DE X H0 S0 (.Compare a [.NotEq] [b] pos) G (.bool (!PyData.eqv x y)) := fun S F q H E Q kk =>
  wE_of (pe_cmpR (op_neD hX.room.units) pwE pwE (nomark _)) (ha S F q H E _ fun v H1 S1 g1 r1 => hb S1 F q H1 (E.grow g1) _ fun u H2 S2 g2 r2 => ⟨x, y, r1 H2 g2.ext, r2 H2 fun _ _ z => z, h1, h2, kk _ H2 S2 (g1.trans g2) (.bl _)⟩)
theorem dt_neD (hX : XOk P w K mg base k N sc fa X) {a b : Expr} {x y : D} (ha : DP X H0 S0 a G x) (hb : DP X H0 S0 b G y) (h1 : SeqAt.shaped x = true) (h2 : SeqAt.shaped y = true) : DT X H0 S0 (.Compare a [.NotEq] [b] pos) G (!PyData.eqv x y) := fun S F q H E Q kk =>
  wT_of (pt_cmpR (op_neD hX.room.units) pwE pwE (nomark _)) (ha S F q H E _ fun v H1 S1 g1 r1 => hb S1 F q H1 (E.grow g1) _ fun u H2 S2 g2 r2 => ⟨x, y, r1 H2 g2.ext, r2 H2 fun _ _ z => z, h1, h2, _, rfl, kk H2 S2 (g1.trans g2)⟩)
/-- a < b < c of whole numbers -/
theorem chainR {op op' : CmpOp} {S : AS} {H : Hp} {Q : VK} {x y z : D} {b1 b2 : Bool} {v u t : V} (rv : Rep S H v x) (ru : Rep S H u y) (c1 : CmpD op x y b1) (c2 : CmpD op' y z b2) : True := trivial
theorem de_chain {op op' : CmpOp} {a b c : Expr} {x y z : D} {b1 b2 : Bool} (ha : DE X H0 S0 a G x) (hb : DE X H0 S0 b G y) (hc : DE X H0 S0 c G z) (c1 : CmpD op x y b1) (c2 : CmpD op' y z b2)
    (hm : lastMarks [op, op'] [b, c] = false := by with_unfolding_all rfl) : DE X H0 S0 (.Compare a [op, op'] [b, c] pos) G (.bool (b1 && b2)) := fun S F q H E Q kk =>
  wE_of (pe_chain (op_cmp op) (op_cmp op') pwE pwE pwE hm) (ha S F q H E _ fun v H1 S1 g1 r1 => hb S1 F q H1 (E.grow g1) _ fun u H2 S2 g2 r2 =>
    ⟨b1, ⟨x, y, S2, r1.mono g2.sub fun a o _ e => g2.ext a o e, r2, c1⟩, b1, rfl, by
      cases b1 with
      | false => exact iteF (kk _ H2 S2 (g1.trans g2) (.bl _))
      | true =>
        refine iteT (hc S2 F q H2 ((E.grow g1).grow g2) _ fun t H3 S3 g3 r3 => ⟨b2, ⟨y, z, S3, r2.mono g3.sub fun a o _ e => g3.ext a o e, r3, c2⟩, ?_⟩)
        exact kk _ H3 S3 ((g1.trans g2).trans g3) (.bl _)⟩)
theorem dt_chain {op op' : CmpOp} {a b c : Expr} {x y z : D} {b1 b2 : Bool} (ha : DE X H0 S0 a G x) (hb : DE X H0 S0 b G y) (hc : DE X H0 S0 c G z) (c1 : CmpD op x y b1) (c2 : CmpD op' y z b2)
    (hm : lastMarks [op, op'] [b, c] = false := by with_unfolding_all rfl) : DT X H0 S0 (.Compare a [op, op'] [b, c] pos) G (b1 && b2) := fun S F q H E Q kk =>
  wT_of (pt_chain (op_cmp op) (op_cmp op') pwE pwE pwE hm) (ha S F q H E _ fun v H1 S1 g1 r1 => hb S1 F q H1 (E.grow g1) _ fun u H2 S2 g2 r2 =>
    ⟨b1, ⟨x, y, S2, r1.mono g2.sub fun a o _ e => g2.ext a o e, r2, c1⟩, b1, rfl, by
      cases b1 with
      | false => exact iteF ⟨_, rfl, kk H2 S2 (g1.trans g2)⟩
      | true =>
        refine iteT (hc S2 F q H2 ((E.grow g1).grow g2) _ fun t H3 S3 g3 r3 => ⟨b2, ⟨y, z, S3, r2.mono g3.sub fun a o _ e => g3.ext a o e, r3, c2⟩, ?_⟩)
        exact ⟨_, rfl, kk H3 S3 ((g1.trans g2).trans g3)⟩⟩)

/-! #### tests -/
theorem dt_e {e : Expr} {b : Bool} (h : DE X H0 S0 e G (.bool b)) (he : ∀ whole, isTrue e X.env whole = (do let v ← whole; standAt e.pos; holding [v] (truthy v)) := by intro _; rfl) : DT X H0 S0 e G b := fun S F q H E Q kk =>
  wT_of (pt_val pwE he) (h S F q H E _ fun v H1 S1 g1 r1 => by cases r1; exact ⟨_, rfl, kk H1 S1 g1⟩)
theorem dt_not {a : Expr} {b : Bool} (h : DT X H0 S0 a G b) : DT X H0 S0 (.UnaryOp .Not a pos) G (!b) := fun S F q H E Q kk =>
  wT_of (pt_not pwT) (h S F q H E _ fun H1 S1 g1 => kk H1 S1 g1)
theorem dw_t {a : Expr} {op : BoolOp} {b : Bool} (h : DT X H0 S0 a G b) : DW X H0 S0 (.BoolOp op [a] pos) G b := fun S F q H E Q kk => by
  cases op with
  | And => exact wW_of (pw_and1 pwT) (h S F q H E Q kk)
  | Or => exact wW_of (pw_or1 pwT) (h S F q H E Q kk)
theorem dw_and {a b : Expr} {rest : List Expr} {x y : Bool} (h1 : DT X H0 S0 a G x) (h2 : x = true → DW X H0 S0 (.BoolOp .And (b :: rest) pos) G y) : DW X H0 S0 (.BoolOp .And (a :: b :: rest) pos) G (x && y) := fun S F q H E Q kk =>
  wW_of (pw_and pwT pwW) (h1 S F q H E _ fun H1 S1 g1 => by
    cases x with
    | false => exact iteF (kk H1 S1 g1)
    | true => exact iteT (h2 rfl S1 F q H1 (E.grow g1) _ fun H2 S2 g2 => kk H2 S2 (g1.trans g2)))
theorem dw_or {a b : Expr} {rest : List Expr} {x y : Bool} (h1 : DT X H0 S0 a G x) (h2 : x = false → DW X H0 S0 (.BoolOp .Or (b :: rest) pos) G y) : DW X H0 S0 (.BoolOp .Or (a :: b :: rest) pos) G (x || y) := fun S F q H E Q kk =>
  wW_of (pw_or pwT pwW) (h1 S F q H E _ fun H1 S1 g1 => by
    cases x with
    | true => exact iteT (kk H1 S1 g1)
    | false => exact iteF (h2 rfl S1 F q H1 (E.grow g1) _ fun H2 S2 g2 => kk H2 S2 (g1.trans g2)))
theorem dt_w {e : Expr} {b : Bool} (h : DW X H0 S0 e G b) : DT X H0 S0 e G b := fun S F q H E Q kk => wT_of (PW.pt pwW) (h S F q H E Q kk)
/-- and, or, not as values -/
theorem de_one {op : BoolOp} {a : Expr} {d : D} (h : DE X H0 S0 a G d) : DE X H0 S0 (.BoolOp op [a] pos) G d := fun S F q H E Q kk => wE_of (pe_one pwE) (h S F q H E Q kk)
theorem de_and {a b : Expr} {rest : List Expr} {x y : Bool} (h1 : DE X H0 S0 a G (.bool x)) (h2 : x = true → DE X H0 S0 (.BoolOp .And (b :: rest) pos) G (.bool y)) : DE X H0 S0 (.BoolOp .And (a :: b :: rest) pos) G (.bool (x && y)) := fun S F q H E Q kk =>
  wE_of (pe_and pwE pwE) (h1 S F q H E _ fun v H1 S1 g1 r1 => by
    cases r1
    refine ⟨_, rfl, ?_⟩
    cases x with
    | false => exact iteF (kk _ H1 S1 g1 (.bl _))
    | true => exact iteT (h2 rfl S1 F q H1 (E.grow g1) _ fun v H2 S2 g2 r2 => kk _ H2 S2 (g1.trans g2) r2))
theorem de_or {a b : Expr} {rest : List Expr} {x y : Bool} (h1 : DE X H0 S0 a G (.bool x)) (h2 : x = false → DE X H0 S0 (.BoolOp .Or (b :: rest) pos) G (.bool y)) : DE X H0 S0 (.BoolOp .Or (a :: b :: rest) pos) G (.bool (x || y)) := fun S F q H E Q kk =>
  wE_of (pe_or pwE pwE) (h1 S F q H E _ fun v H1 S1 g1 r1 => by
    cases r1
    refine ⟨_, rfl, ?_⟩
    cases x with
    | true => exact iteT (kk _ H1 S1 g1 (.bl _))
    | false => exact iteF (h2 rfl S1 F q H1 (E.grow g1) _ fun v H2 S2 g2 r2 => kk _ H2 S2 (g1.trans g2) r2))
theorem de_not {a : Expr} {x : Bool} (h1 : DE X H0 S0 a G (.bool x)) : DE X H0 S0 (.UnaryOp .Not a pos) G (.bool (!x)) := fun S F q H E Q kk =>
  wE_of (pe_not pwE) (h1 S F q H E _ fun v H1 S1 g1 r1 => by
    cases r1
    exact ⟨_, rfl, kk _ H1 S1 g1 (.bl _)⟩)
theorem de_if {c a b : Expr} {t : Bool} {x y : D} (hc : DT X H0 S0 c G t) (h1 : t = true → DE X H0 S0 a G x) (h2 : t = false → DE X H0 S0 b G y) : DE X H0 S0 (.IfExp c a b pos) G (if t = true then x else y) := fun S F q H E Q kk =>
  wE_of (pe_ifExp pwT pwE pwE) (hc S F q H E _ fun H1 S1 g1 => by
    cases t with
    | true => exact iteT (h1 rfl S1 F q H1 (E.grow g1) _ fun v H2 S2 g2 r2 => kk _ H2 S2 (g1.trans g2) r2)
    | false => exact iteF (h2 rfl S1 F q H1 (E.grow g1) _ fun v H2 S2 g2 r2 => kk _ H2 S2 (g1.trans g2) r2))

/-! #### tuples, lists -/
theorem da_nil : DA X H0 S0 [] G [] := fun S F q H E Q kk => wA_of pa_nil (kk [] H S (Grow.refl S H) .nil)
theorem da_cons {e : Expr} {es : List Expr} {d : D} {ds : List D} (h1 : DE X H0 S0 e G d) (h2 : DA X H0 S0 es G ds) (hs : starEach (e :: es) X.env = (false, eval e X.env) :: starEach es X.env := by rfl) : DA X H0 S0 (e :: es) G (d :: ds) := fun S F q H E Q kk =>
  wA_of (pa_cons pwE pwA hs) (h1 S F q H E _ fun v H1 S1 g1 r1 => h2 S1 F q H1 (E.grow g1) _ fun vs H2 S2 g2 r2 => kk _ H2 S2 (g1.trans g2) (.cons (r1.mono g2.sub fun a o _ e => g2.ext a o e) r2))
theorem de_tup {es : List Expr} {ds : List D} {x1} (h : DA X H0 S0 es G ds) (hz : ds.length ≤ 1000 := by exact Nat.le_of_ble_eq_true rfl) : DE X H0 S0 (.Tuple es x1 pos) G (.tuple ds) := fun S F q H E Q kk =>
  wE_of (pe_tup pwA) (h S F q H E _ fun vs H1 S1 g1 r1 => ⟨by rw [r1.len]; exact Nat.le_of_lt (small1000 hz), fun p hp => kk _ _ _ (g1.trans (Grow.alloc hp))
    (.tup (.inr rfl) (.inl upd_same) (r1.mono (fun _ z => .inl z) fun a o _ e => by rw [upd_ne (ne_of_none e hp)]; exact e))⟩)
theorem do_lst {es : List Expr} {ds : List D} (h : DA X H0 S0 es G ds) (hz : ds.length ≤ 1000 := by exact Nat.le_of_ble_eq_true rfl) : DO X H0 S0 (.List es pos) G ds := fun S F q H E Q kk =>
  wE_of (pe_lst pwA) (h S F q H E _ fun vs H1 S1 g1 r1 => ⟨by rw [r1.len]; exact Nat.le_of_lt (small1000 hz), fun p hp => kk p vs _ _ (g1.trans (Grow.alloc0 hp)) (none_ext g1.ext hp)
    (fun z => (E.grow g1).slv p z hp) upd_same (r1.mono (fun _ z => z) fun a o _ e => by rw [upd_ne (ne_of_none e hp)]; exact e)⟩)

/-! #### statements -/
theorem EndOk.imp {S1 : AS} {H1 : Hp} {P P' : Out → Prop} {Dd : Ends} (h : EndOk H0 S0 S1 H1 P' Dd) (i : ∀ o, P o → P' o) : EndOk H0 S0 S1 H1 P Dd :=
  ⟨fun G S F q H p => h.nx G S F q H (i _ p), fun G S F q H p => h.bk G S F q H (i _ p), fun G S F q H p => h.ct G S F q H (i _ p), fun d v S H p => h.rv d v S H (i _ p), fun ds p vs S H z => h.ro ds p vs S H (i _ z)⟩
theorem DS.imp {ss : List Stmt} {P P' : Out → Prop} (h : DS X H0 S0 ss G P) (i : ∀ o, P o → P' o) : DS X H0 S0 ss G P' := fun S F q H Dd E k => h S F q H Dd E (k.imp i)
theorem EndOk.at_ {S1 S2 : AS} {H1 H2 : Hp} {P : Out → Prop} {Dd : Ends} (h : EndOk H0 S0 S1 H1 P Dd) (k : Keep S1 H1 S2 H2) : EndOk H0 S0 S2 H2 P Dd :=
  ⟨fun G S F q H p c => h.nx G S F q H p (k.trans c), fun G S F q H p c => h.bk G S F q H p (k.trans c), fun G S F q H p c => h.ct G S F q H p (k.trans c), h.rv, h.ro⟩
theorem ds_nil {P : Out → Prop} (h : P (.nxt G)) : DS X H0 S0 [] G P := fun S F q H Dd E k => wSs_of pss_nil (k.nx G S F q H h (Keep.refl S H) E)
/-- what a block wants behind it -/
def seqP (M : List Slot → Prop) (P : Out → Prop) : Out → Prop
  | .nxt G => M G
  | o => P o
theorem EndOk.seq {S1 : AS} {H1 : Hp} {P : Out → Prop} {M : List Slot → Prop} {Dd : Ends} {nx : L2.St → Hp → Prop} (k : EndOk H0 S0 S1 H1 P Dd) (h : ∀ G S F q H, M G → Keep S1 H1 S H → EnvOk H0 S0 G S F q H → nx q H) : EndOk H0 S0 S1 H1 (seqP M P) { Dd with nx := nx } :=
  ⟨h, k.bk, k.ct, k.rv, k.ro⟩
theorem ds_set (i : Nat) {x : Str} {e : Expr} {rest : List Stmt} {d : D} {P' : Out → Prop} (hX : XOk P w K mg base k N sc true X) (hN : N[i]? = some x := by rfl) (hv : locB sc x = true := by decide +kernel) (hi : i < G.length := by exact Nat.le_of_ble_eq_true rfl) (he : DE X H0 S0 e G d) (h : DS X H0 S0 rest (G.set i (.val d)) P')
    (hs : swapsWith e (some (.Name x p1)) pos.line X.env = pure false := by rfl) : DS X H0 S0 (.Assign [.Name x p1] e pos :: rest) G P' := fun S F q H Dd E kk =>
  wSs_of (pss_cons (ps_set (i := i) (by rw [hX.eN]; exact hX.nd) (by rw [hX.eN]; exact hN) (by rw [hX.es]; exact loc_of hv) pwE hs (by
    rcases loc_of hv with z | z
    · exact .inr (by rw [hX.es]; exact z)
    · exact .inl (hX.fn rfl x))) pwSs) (he S F q H E _ fun v H1 S1 g1 r1 => h S1 _ _ H1 Dd ((E.grow g1).putv hi r1) (kk.at_ g1.keep))
theorem ds_seto (i : Nat) {x : Str} {e : Expr} {rest : List Stmt} {ds : List D} {P' : Out → Prop} (hX : XOk P w K mg base k N sc true X) (hN : N[i]? = some x := by rfl) (hv : locB sc x = true := by decide +kernel) (hi : i < G.length := by exact Nat.le_of_ble_eq_true rfl) (he : DO X H0 S0 e G ds) (h : DS X H0 S0 rest (G.set i (.own ds)) P')
    (hs : swapsWith e (some (.Name x p1)) pos.line X.env = pure false := by rfl) : DS X H0 S0 (.Assign [.Name x p1] e pos :: rest) G P' := fun S F q H Dd E kk =>
  wSs_of (pss_cons (ps_set (i := i) (by rw [hX.eN]; exact hX.nd) (by rw [hX.eN]; exact hN) (by rw [hX.es]; exact loc_of hv) pwE hs (by
    rcases loc_of hv with z | z
    · exact .inr (by rw [hX.es]; exact z)
    · exact .inl (hX.fn rfl x))) pwSs) (he S F q H E _ fun p vs H1 S1 g1 hn hS hp r1 => h S1 _ _ H1 Dd ((E.grow g1).puto hi hp r1 (none_ext E.ext hn) hS fun j z => E.flv j p z hn) (kk.at_ g1.keep))
theorem ds_ret {e : Expr} {rest : List Stmt} {d : D} {P' : Out → Prop} (he : DE X H0 S0 e G d) (h : P' (.ret (.val d))) : DS X H0 S0 (.Return (some e) pos :: rest) G P' := fun S F q H Dd E kk =>
  wSs_of (pss_cons (ps_ret pwE) pwSs) (he S F q H E _ fun v H1 S1 g1 r1 => kk.rv d v S1 H1 h (E.grow g1).ext (E.grow g1).sfr (E.grow g1).slv r1)
theorem ds_reto {e : Expr} {rest : List Stmt} {ds : List D} {P' : Out → Prop} (he : DO X H0 S0 e G ds) (h : P' (.ret (.own ds))) : DS X H0 S0 (.Return (some e) pos :: rest) G P' := fun S F q H Dd E kk =>
  wSs_of (pss_cons (ps_ret pwE) pwSs) (he S F q H E _ fun p vs H1 S1 g1 hn hS hp r1 => kk.ro ds p vs S1 H1 h (E.grow g1).ext (E.grow g1).sfr (E.grow g1).slv (none_ext E.ext hn) hS hp r1)
/-- return x, x a list of one's own -/
theorem ds_retv (i : Nat) {x : Str} {rest : List Stmt} {ds : List D} {P' : Out → Prop} (hX : XOk P w K mg base k N sc fa X) (hN : N[i]? = some x := by rfl) (hv : visB sc x = true := by decide +kernel) (hi : G[i]? = some (.own ds) := by rfl) (h : P' (.ret (.own ds)))
    (hd : (x == ("__debug__" : Str)) = false := by decide) (hcd : (x == ("__classdict__" : Str)) = false := by decide) : DS X H0 S0 (.Return (some (.Name x p1)) pos :: rest) G P' := fun S F q H Dd E kk => by
  obtain ⟨o, h1, p, vs, rfl, hF, hp, r⟩ := E.sl i _ hi
  obtain ⟨m1, m2, m3⟩ := E.mu i _ hi rfl p ((hF p).mpr rfl)
  exact wSs_of (pss_cons (ps_ret (pe_var (X := X) (i := i) (by rw [hX.eN]; exact hN) (by rw [hX.es]; exact vis_of hv) hd hcd)) pwSs) ⟨_, h1, kk.ro ds p vs S H h E.ext E.sfr E.slv m1 m2 hp r⟩
theorem ds_retN {rest : List Stmt} {P' : Out → Prop} (h : P' (.ret (.val .none))) : DS X H0 S0 (.Return none pos :: rest) G P' := fun S F q H Dd E kk =>
  wSs_of (pss_cons ps_retN pwSs) (kk.rv .none .non S H h E.ext E.sfr E.slv .non)
/-- if: M holds of the names where a branch comes to its end -/
theorem ds_if {c : Expr} {a b rest : List Stmt} {t : Bool} {P' : Out → Prop} (M : List Slot → Prop) (hc : DT X H0 S0 c G t) (h1 : t = true → DS X H0 S0 a G (seqP M P')) (h2 : t = false → DS X H0 S0 b G (seqP M P')) (h : ∀ G', M G' → DS X H0 S0 rest G' P') :
    DS X H0 S0 (.If c a b pos :: rest) G P' := fun S F q H Dd E kk =>
  wSs_of (pss_cons (ps_if pwT pwSs pwSs) pwSs) (hc S F q H E _ fun H1 S1 g1 => by
    have K2 : EndOk H0 S0 S1 H1 (seqP M P') { Dd with nx := wSs X rest Dd } := (kk.at_ g1.keep).seq fun G' S' F' q' H' m c E' => h G' m S' F' q' H' Dd E' (kk.at_ (g1.keep.trans c))
    cases t with
    | true => exact iteT (h1 rfl S1 F q H1 _ (E.grow g1) K2)
    | false => exact iteF (h2 rfl S1 F q H1 _ (E.grow g1) K2))
/-- each branch goes on with what follows -/
theorem ds_if2 {c : Expr} {a b rest : List Stmt} {t : Bool} {P' : Out → Prop} (hc : DT X H0 S0 c G t) (h1 : t = true → DS X H0 S0 a G (seqP (fun G' => DS X H0 S0 rest G' P') P')) (h2 : t = false → DS X H0 S0 b G (seqP (fun G' => DS X H0 S0 rest G' P') P')) :
    DS X H0 S0 (.If c a b pos :: rest) G P' := ds_if _ hc h1 h2 fun _ h => h
theorem ds_pass {rest : List Stmt} {P' : Out → Prop} (h : DS X H0 S0 rest G P') : DS X H0 S0 (.Pass pos :: rest) G P' := fun S F q H Dd E kk =>
  wSs_of (pss_cons ps_pass pwSs) (h S F q H Dd E kk)
theorem ds_freeze (i : Nat) {ss : List Stmt} {ds : List D} {P' : Out → Prop} (hi : G[i]? = some (.own ds) := by rfl) (h : DS X H0 S0 ss (G.set i (.val (.list ds))) P') : DS X H0 S0 ss G P' := fun S F q H Dd E kk => by
  obtain ⟨S', F', hs, E'⟩ := E.freeze hi
  exact h S' F' q H Dd E' (kk.at_ ⟨hs, fun _ _ _ z => z⟩)
/-- a name is let go -/
theorem EnvOk.drop {S : AS} {F : Nat → AS} {q : L2.St} {H : Hp} (E : EnvOk H0 S0 G S F q H) {i : Nat} (hi : i < G.length := by exact Nat.le_of_ble_eq_true rfl) : ∃ F', EnvOk H0 S0 (G.set i .junk) S F' q H := by
  obtain ⟨o, h1, _⟩ := E.sl i _ (List.getElem?_eq_getElem hi)
  have e : q.set i o = q := by
    obtain ⟨h3, h4⟩ := List.getElem?_eq_some_iff.mp h1
    rw [← h4]
    exact List.set_getElem_self h3
  have := E.putj hi o
  rw [e] at this
  exact ⟨_, this⟩
theorem ds_drop (i : Nat) {ss : List Stmt} {P' : Out → Prop} (hi : i < G.length := by exact Nat.le_of_ble_eq_true rfl) (h : DS X H0 S0 ss (G.set i .junk) P') : DS X H0 S0 ss G P' := fun S F q H Dd E kk => by
  obtain ⟨F', E'⟩ := E.drop hi
  exact h S F' q H Dd E' kk
end
end DL

namespace DL
open PySem PySem.Spec PyProof.Rows L2

/-! ### targets -/
def DG (X : Cx) (H0 : Hp) (S0 : AS) (tg : Expr) (d : D) (G G' : List Slot) (tv : List Nat) : Prop := ∀ S F q H, EnvOk H0 S0 G S F q H → ∀ v, Rep S H v d → ∀ Q : L2.St → Hp → Prop,
  (∀ F' q', EnvOk H0 S0 G' S F' q' H → (q'.length = q.length ∧ ∀ j, j ∉ tv → q'[j]? = q[j]?) → Q q' H) → wG X tg v q H Q
def DGs (X : Cx) (H0 : Hp) (S0 : AS) (ts : List Expr) (ds : List D) (G G' : List Slot) (tv : List Nat) : Prop := ∀ S F q H, EnvOk H0 S0 G S F q H → ∀ vs, Reps S H vs ds → ∀ Q : L2.St → Hp → Prop,
  (∀ F' q', EnvOk H0 S0 G' S F' q' H → (q'.length = q.length ∧ ∀ j, j ∉ tv → q'[j]? = q[j]?) → Q q' H) → wGs X ts vs q H Q
section
variable {P : Program} {w : World} {K : PySem.W.Frag} {mg : Str → Option Value} {base : Heap} {k : Nat} {N : List Str} {sc : Scope} {fa : Bool} {X : Cx} {H0 : Hp} {S0 : AS} {G G1 G2 : List Slot} {pos p1 p2 p3 : Pos}
theorem dg_name (i : Nat) (hX : XOk P w K mg base k N sc true X) {x : Str} {d : D} (hN : N[i]? = some x := by rfl) (hv : locB sc x = true := by decide +kernel) (hi : i < G.length := by exact Nat.le_of_ble_eq_true rfl) : DG X H0 S0 (.Name x pos) d G (G.set i (.val d)) [i] := fun S F q H E v r Q kk =>
  wG_of (pg_name (i := i) (by rw [hX.eN]; exact hX.nd) (by rw [hX.eN]; exact hN) (by rw [hX.es]; exact loc_of hv) (.inl (hX.fn rfl x))) (kk _ _ (E.putv hi r) ⟨List.length_set, fun j hj => List.getElem?_set_ne (fun z => hj (by rw [z]; exact List.mem_singleton.mpr rfl))⟩)
/-- a comprehension's own name -/
def ownB (sc : Scope) (x : Str) : Bool := match sc.names.lookup x with
  | some .local => true
  | _ => false
theorem own_of {sc : Scope} {x : Str} (h : ownB sc x = true) : sc.names.lookup x = some .local := by
  unfold ownB at h
  split at h <;> first | assumption | cases h
theorem dg_loc (i : Nat) (hX : XOk P w K mg base k N sc fa X) {x : Str} {d : D} (hN : N[i]? = some x := by rfl) (hv : ownB sc x = true := by decide +kernel) (hi : i < G.length := by exact Nat.le_of_ble_eq_true rfl) : DG X H0 S0 (.Name x pos) d G (G.set i (.val d)) [i] := fun S F q H E v r Q kk =>
  wG_of (pg_name (i := i) (by rw [hX.eN]; exact hX.nd) (by rw [hX.eN]; exact hN) (by rw [hX.es]; exact .inl (own_of hv)) (.inr (by rw [hX.es]; exact own_of hv))) (kk _ _ (E.putv hi r) ⟨List.length_set, fun j hj => List.getElem?_set_ne (fun z => hj (by rw [z]; exact List.mem_singleton.mpr rfl))⟩)
theorem dgs_nil : DGs X H0 S0 [] [] G G [] := fun S F q H E vs r Q kk => by
  cases r
  exact wGs_of pgs_nil ⟨rfl, kk F q E ⟨rfl, fun _ _ => rfl⟩⟩
theorem dgs_cons {e : Expr} {es : List Expr} {d : D} {ds : List D} {t u : List Nat} (h1 : DG X H0 S0 e d G G1 t) (h2 : DGs X H0 S0 es ds G1 G2 u) (hs : (assignEach (e :: es) X.env).map (·.2) = assign e X.env :: (assignEach es X.env).map (·.2) := by rfl) :
    DGs X H0 S0 (e :: es) (d :: ds) G G2 (t ++ u) := fun S F q H E vs r Q kk => by
  cases r with
  | cons r rr =>
    exact wGs_of (pgs_cons pwG pwGs hs) ⟨_, _, rfl, h1 S F q H E _ r _ fun F1 q1 E1 a1 => h2 S F1 q1 H E1 _ rr _ fun F2 q2 E2 a2 => kk F2 q2 E2 ⟨a2.1.trans a1.1, fun j hj => by
      rw [List.mem_append, not_or] at hj
      rw [a2.2 j hj.2, a1.2 j hj.1]⟩⟩
theorem dg_tup (hX : XOk P w K mg base k N sc fa X) {es : List Expr} {c : Nat} {ds : List D} {t : List Nat} (h : DGs X H0 S0 es ds G G1 t) (hn : (assignEach es X.env).length = ds.length := by rfl) (hst : (assignEach es X.env).findIdx? (·.1) = none := by rfl) :
    DG X H0 S0 (.Tuple es c pos) (.tuple ds) G G1 t := fun S F q H E v r Q kk => by
  cases r with
  | tup h1 h2 h3 => exact wG_of (pg_tup hX.calm pwGs hn hst) ⟨_, _, rfl, .inl h2, h3.len, h S F q H E _ h3 Q kk⟩
/-- a, b, .. = e -/
theorem ds_unpack (hX : XOk P w K mg base k N sc fa X) {tg e : Expr} {rest : List Stmt} {d : D} {P' : Out → Prop} {t : List Nat} (he : DE X H0 S0 e G d) (hg : DG X H0 S0 tg d G G1 t) (h : DS X H0 S0 rest G1 P')
    (hs : swapsWithSole [tg] e pos.line X.env = pure false := by rfl) (hw : swappedStores [tg] e X.env = pure none := by rfl) (h1 : (assignEach [tg] X.env).map (·.2) = [assign tg X.env] := by rfl) : DS X H0 S0 (.Assign [tg] e pos :: rest) G P' := fun S F q H Dd E kk =>
  wSs_of (pss_cons (ps_asg pwE pwG hs hw h1) pwSs) (he S F q H E _ fun v H1 S1 g1 r1 => hg S1 F q H1 (E.grow g1) v r1 _ fun F2 q2 E2 _ => h S1 F2 q2 H1 Dd E2 (kk.at_ g1.keep))

/-! ### what is walked -/
structure JOk (J : It) (B : AS) (Hb : Hp) (ds : List D) : Prop where
  go : ∀ (i : Nat) (S : AS) (H : Hp) (d : D), (∀ a, B a → S a ∨ H a ≠ none) → (∀ a o, B a → Hb a = some o → H a = some o) → (∀ v d, Rep (fun a => B a) Hb v d → Rep S H v d) → ds[i]? = some d → J.go i H ∧ ∀ x H', J.yld i H x H' → ∃ S', Grow S H S' H' ∧ Rep S' H' x d
  stop : ∀ (i : Nat) (H : Hp), (∀ a o, B a → Hb a = some o → H a = some o) → ds.length ≤ i → J.stop i H
/-- the things that a loop walks; B: what must stay as it is -/
def DI (X : Cx) (H0 : Hp) (S0 : AS) (tg it : Expr) (G : List Slot) (ds : List D) : Prop := ∃ wi, PI X tg it wi ∧ ∀ S F q H, EnvOk H0 S0 G S F q H → ∀ R : It → Hp → Prop,
  (∀ (J : It) H' S', Grow S H S' H' → (∀ (i : Nat) (S2 : AS) (H2 : Hp) (d : D), Keep S' H' S2 H2 → (∀ a o, H0 a = some o → H2 a = some o) → ds[i]? = some d → J.go i H2 ∧ ∀ x H3, J.yld i H2 x H3 → ∃ S3, Grow S2 H2 S3 H3 ∧ Rep S3 H3 x d) →
    (∀ (i : Nat) (S2 : AS) (H2 : Hp), Keep S' H' S2 H2 → (∀ a o, H0 a = some o → H2 a = some o) → ds.length ≤ i → J.stop i H2) → R J H') → wi q H R
theorem rd_l {K : PySem.W.Frag} {H : Hp} {a : Addr} {xs : List V} (h : Rd H a (.lst xs)) : SqL K H a xs := .inl h
theorem di_list {tg e : Expr} {ds : List D} (he : DE X H0 S0 e G (.list ds)) : DI X H0 S0 tg e G ds := by
  refine ⟨_, pi_list pwE, fun S F q H E R kk => he S F q H E _ fun v H1 S1 g1 r1 => ?_⟩
  cases r1 with
  | lst h1 h2 h3 =>
    refine ⟨_, rfl, ⟨_, .inl h2⟩, kk _ H1 S1 g1 (fun i S2 H2 d c _ hd => ?_) fun i S2 H2 c _ hl => ?_⟩
    · have h2' := rd_keep (fun o z => c.obj _ o h1 z) h2
      obtain ⟨v, hv, rv⟩ := (h3.keep c).getD hd
      exact ⟨⟨_, v, .inl h2', hv⟩, fun x H3 y => ⟨S2, by rw [y.1]; exact Grow.refl S2 H2, by
        have := y.2 _ (.inl h2')
        rw [hv] at this
        cases this
        rw [y.1]; exact rv⟩⟩
    · exact ⟨_, .inl (rd_keep (fun o z => c.obj _ o h1 z) h2), by rw [h3.len]; exact hl⟩
def rngD (lo : Int) (n : Nat) : List D := (List.range n).map fun (i : Nat) => PyData.int (lo + (i : Int))
theorem rngD_len (lo : Int) (n : Nat) : (rngD lo n).length = n := by unfold rngD; rw [List.length_map, List.length_range]
theorem rngD_get {lo : Int} {n i : Nat} {d : D} (h : (rngD lo n)[i]? = some d) : i < n ∧ d = .int (lo + (i : Int)) := by
  have hi : i < n := by
    have := (List.getElem?_eq_some_iff.mp h).1
    rwa [rngD_len] at this
  refine ⟨hi, ?_⟩
  unfold rngD at h
  rw [List.getElem?_map, List.getElem?_range hi] at h
  exact (Option.some.inj h).symm
theorem di_range1 (hX : XOk P w K mg base k N sc fa X) (hr : mg "range" = none) (hg : globB sc "range" = true := by decide +kernel) {tg a : Expr} {n : Int} (he : DE X H0 S0 a G (.int n)) (h1 : -(2 ^ 62) ≤ n) (h2 : n < 2 ^ 62)
    (hs : starEach [a] X.env = [(false, eval a X.env)] := by rfl) : DI X H0 S0 tg (.Call (.Name "range" p1) [a] [] pos) G (rngD 0 n.toNat) := by
  refine ⟨_, pi_range1 (hX.gl hg) (by rw [hX.emg]; exact hr) (pa_cons pwE pa_nil hs) hs, fun S F q H E R kk => he S F q H E _ fun v H1 S1 g1 r1 => ?_⟩
  cases r1
  refine ⟨n, rfl, h1, h2, kk _ H1 S1 g1 (fun i S2 H2 d c z hd => ?_) fun i S2 H2 c z hl => ?_⟩
  · obtain ⟨hi, rfl⟩ := rngD_get hd
    exact ⟨hi, fun x H3 y => ⟨S2, by rw [y.1]; exact Grow.refl S2 H2, by rw [y.2]; exact .int _⟩⟩
  · rw [rngD_len] at hl
    exact hl
theorem di_range2 (hX : XOk P w K mg base k N sc fa X) (hr : mg "range" = none) (hg : globB sc "range" = true := by decide +kernel) {tg a b : Expr} {lo n : Int} (ha : DE X H0 S0 a G (.int lo)) (he : DE X H0 S0 b G (.int n)) (h0 : -(2 ^ 62) ≤ lo ∧ lo < 2 ^ 62 ∧ -(2 ^ 62) ≤ n ∧ n < 2 ^ 62)
    (hs : starEach [a, b] X.env = [(false, eval a X.env), (false, eval b X.env)] := by rfl) (hs2 : starEach [b] X.env = [(false, eval b X.env)] := by rfl) : DI X H0 S0 tg (.Call (.Name "range" p1) [a, b] [] pos) G (rngD lo (n - lo).toNat) := by
  refine ⟨_, pi_range2 (hX.gl hg) (by rw [hX.emg]; exact hr) (pa_cons pwE (pa_cons pwE pa_nil hs2) (hs.trans (by rw [hs2]))) hs hs2, fun S F q H E R kk => ha S F q H E _ fun v H1 S1 g1 r1 => he S1 F q H1 (E.grow g1) _ fun u H2 S2 g2 r2 => ?_⟩
  cases r1
  cases r2
  refine ⟨lo, n, rfl, h0, kk _ H2 S2 (g1.trans g2) (fun i S3 H3 d c z hd => ?_) fun i S3 H3 c z hl => ?_⟩
  · obtain ⟨hi, rfl⟩ := rngD_get hd
    exact ⟨hi, fun x H4 y => ⟨S3, by rw [y.1]; exact Grow.refl S3 H3, by rw [y.2]; exact .int _⟩⟩
  · rw [rngD_len] at hl
    exact hl
/-- a list that stays where it is: frozen, or lent -/
def DF (X : Cx) (H0 : Hp) (S0 : AS) (e : Expr) (G : List Slot) (ds : List D) : Prop := ∀ S F q H, EnvOk H0 S0 G S F q H → ∀ Q : VK,
  (∀ p vs H' S', Grow S H S' H' → SqL X.K H' p vs → Reps S' H' vs ds → (∀ (S2 : AS) (H2 : Hp), Keep S' H' S2 H2 → (∀ a o, H0 a = some o → H2 a = some o) → SqL X.K H2 p vs) → Q (.ref p) H') → wE X e q H Q
theorem df_e {e : Expr} {ds : List D} (h : DE X H0 S0 e G (.list ds)) : DF X H0 S0 e G ds := fun S F q H E Q kk => h S F q H E Q fun v H1 S1 g1 r1 => by
  cases r1 with
  | lst h1 h2 h3 => exact kk _ _ H1 S1 g1 (.inl h2) h3 fun S2 H2 c _ => .inl (rd_keep (fun o z => c.obj _ o h1 z) h2)
theorem df_bor (i : Nat) (hX : XOk P w K mg base k N sc fa X) {x : Str} {ds : List D} (hN : N[i]? = some x := by rfl) (hv : visB sc x = true := by decide +kernel) (h : G[i]? = some (.bor K ds) := by rfl) (hd : (x == ("__debug__" : Str)) = false := by decide) (hcd : (x == ("__classdict__" : Str)) = false := by decide) :
    DF X H0 S0 (.Name x pos) G ds := fun S F q H E Q kk => by
  obtain ⟨o, e1, p, vs, rfl, hF, hp, r⟩ := E.sl i _ h
  refine wE_of (pe_var (X := X) (i := i) (by rw [hX.eN]; exact hN) (by rw [hX.es]; exact vis_of hv) hd hcd) ⟨_, e1, ?_⟩
  have go : ∀ (H2 : Hp), (∀ a o, H0 a = some o → H2 a = some o) → SqL X.K H2 p vs := fun H2 z => by
    rw [hX.eK]
    rcases hp with ⟨hF, hp⟩ | hp
    · have hb := E.bo i K ds h p hF
      cases e0 : H0 p with
      | none => exact absurd e0 hb
      | some o =>
        refine .inl (rd_keep (fun u hu => ?_) hp)
        rw [E.ext p o e0] at hu
        cases hu
        exact z p o e0
    · exact .inr hp
  exact kk p vs H S (Grow.refl S H) (go H E.ext) r fun S2 H2 c z => go H2 z
/-- a list that stays, walked -/
theorem di_f {tg e : Expr} {ds : List D} (he : DF X H0 S0 e G ds) : DI X H0 S0 tg e G ds := by
  refine ⟨_, pi_list pwE, fun S F q H E R kk => he S F q H E _ fun p vs H1 S1 g1 h2 h3 h4 => ?_⟩
  refine ⟨p, rfl, ⟨_, h2⟩, kk _ H1 S1 g1 (fun i S2 H2 d c z hd => ?_) fun i S2 H2 c z hl => ?_⟩
  · obtain ⟨v, hv, rv⟩ := (h3.keep c).getD hd
    exact ⟨⟨_, v, h4 S2 H2 c z, hv⟩, fun x H3 y => ⟨S2, by rw [y.1]; exact Grow.refl S2 H2, by
      have := y.2 _ (h4 S2 H2 c z)
      rw [hv] at this
      cases this
      rw [y.1]; exact rv⟩⟩
  · exact ⟨_, h4 S2 H2 c z, by rw [h3.len]; exact hl⟩
theorem grow_tup {S : AS} {H : Hp} {T : Addr} {vs : List V} {ds : List D} (hT : H T = none) (r : Reps S H vs ds) : Grow S H (fun a => S a ∨ a = T) (upd H T (.tup vs)) ∧ Rep (fun a => S a ∨ a = T) (upd H T (.tup vs)) (.ref T) (.tuple ds) :=
  ⟨Grow.alloc hT, .tup (.inr rfl) (.inl upd_same) (r.mono (fun _ z => .inl z) fun a o _ e => by rw [upd_ne (ne_of_none e hT)]; exact e)⟩
def enumD (ds : List D) : List D := (List.range ds.length).map fun (i : Nat) => PyData.tuple [.int (i : Int), ds.getD i .none]
theorem enumD_len (ds : List D) : (enumD ds).length = ds.length := by unfold enumD; rw [List.length_map, List.length_range]
theorem di_enum (hX : XOk P w K mg base k N sc fa X) (hr : mg "enumerate" = none) (hg : globB sc "enumerate" = true := by decide +kernel) {ts : List Expr} {c : Nat} {e : Expr} {ds : List D} (he : DF X H0 S0 e G ds) (hs : starEach [e] X.env = [(false, eval e X.env)] := by rfl) :
    DI X H0 S0 (.Tuple ts c p2) (.Call (.Name "enumerate" p1) [e] [] pos) G (enumD ds) := by
  refine ⟨_, pi_enum (hX.gl hg) (by rw [hX.emg]; exact hr) (pa_cons pwE pa_nil hs) hs, fun S F q H E R kk => he S F q H E _ fun p vs H1 S1 g1 h2 h3 h4 => ?_⟩
  refine ⟨p, vs, rfl, h2, kk _ H1 S1 g1 (fun i S2 H2 d c z hd => ?_) fun i S2 H2 c z hl => ?_⟩
  · have hi : i < ds.length := by
      have := (List.getElem?_eq_some_iff.mp hd).1
      rwa [enumD_len] at this
    unfold enumD at hd
    rw [List.getElem?_map, List.getElem?_range hi] at hd
    have hd' := (Option.some.inj hd).symm
    subst hd'
    have e1 : ds[i]? = some (ds.getD i .none) := by rw [List.getD_eq_getElem?_getD, List.getElem?_eq_getElem hi]; rfl
    obtain ⟨v, hv, rv⟩ := (h3.keep c).getD e1
    refine ⟨⟨vs, v, h4 S2 H2 c z, hv⟩, fun x H3 y => ?_⟩
    obtain ⟨T, x1, rfl, nT, rfl, fx⟩ := y
    have := fx _ (h4 S2 H2 c z)
    rw [hv] at this
    cases this
    have gt := grow_tup (ds := [.int (i : Int), ds.getD i .none]) nT (.cons (.int _) (.cons rv .nil))
    exact ⟨_, gt.1, gt.2⟩
  · rw [enumD_len] at hl
    exact ⟨vs, h4 S2 H2 c z, by rw [h3.len]; exact hl⟩
def zipD (xs ys : List D) : List D := (xs.zip ys).map fun p => PyData.tuple [p.1, p.2]
theorem di_zip (hX : XOk P w K mg base k N sc fa X) (hr : mg "zip" = none) (hg : globB sc "zip" = true := by decide +kernel) {ts : List Expr} {c : Nat} {e e2 : Expr} {xs ys : List D} (he : DF X H0 S0 e G xs) (he2 : DF X H0 S0 e2 G ys)
    (hs : starEach [e, e2] X.env = (false, eval e X.env) :: starEach [e2] X.env := by rfl) (hpl : (backTo pos (starEach [e2] X.env)).any (·.1) = false := by rfl) (hs2 : starEach [e2] X.env = (false, eval e2 X.env) :: starEach [] X.env := by rfl) :
    DI X H0 S0 (.Tuple ts c p2) (.Call (.Name "zip" p1) [e, e2] [] pos) G (zipD xs ys) := by
  refine ⟨_, pi_zip (hX.gl hg) (by rw [hX.emg]; exact hr) (pa_cons pwE (pa_cons pwE pa_nil hs2) hs) hs hpl, fun S F q H E R kk => he S F q H E _ fun p vs H1 S1 g1 h2 h3 h4 => he2 S1 F q H1 (E.grow g1) _ fun p' vs' H2 S2 g2 k2 k3 k4 => ?_⟩
  refine ⟨p, p', vs, vs', rfl, h4 S2 H2 g2.keep ((E.grow g1).grow g2).ext, k2, kk _ H2 S2 (g1.trans g2) (fun i S3 H3 d c z hd => ?_) fun i S3 H3 c z hl => ?_⟩
  · have c1 := g2.keep.trans c
    unfold zipD at hd
    rw [List.getElem?_map] at hd
    cases ez : (xs.zip ys)[i]? with
    | none => rw [ez] at hd; cases hd
    | some pr =>
      rw [ez] at hd
      obtain ⟨x0, y0⟩ := pr
      have hd' := (Option.some.inj hd).symm
      subst hd'
      obtain ⟨ex, ey⟩ : xs[i]? = some x0 ∧ ys[i]? = some y0 := by
        have := List.getElem?_zip_eq_some.mp ez
        exact this
      obtain ⟨v, hv, rv⟩ := (h3.keep c1).getD ex
      obtain ⟨v', hv', rv'⟩ := (k3.keep c).getD ey
      have q1 := h4 S3 H3 c1 z
      have q2 := k4 S3 H3 c z
      refine ⟨⟨vs, vs', v, v', q1, q2, hv, hv'⟩, fun x H4 y => ?_⟩
      obtain ⟨T, x1, y1, rfl, nT, rfl, fx, fy⟩ := y
      have a1 := fx _ q1
      rw [hv] at a1
      cases a1
      have a2 := fy _ q2
      rw [hv'] at a2
      cases a2
      have gt := grow_tup (ds := [x0, y0]) nT (.cons rv (.cons rv' .nil))
      exact ⟨_, gt.1, gt.2⟩
  · have c1 := g2.keep.trans c
    unfold zipD at hl
    rw [List.length_map, List.length_zip] at hl
    refine ⟨vs, vs', h4 S3 H3 c1 z, k4 S3 H3 c z, ?_⟩
    rw [h3.len, k3.len]
    omega

/-! ### loops -/
def loopP (M B : List Slot → Prop) (P : Out → Prop) : Out → Prop
  | .nxt G => M G
  | .cnt G => M G
  | .brk G => B G
  | .ret r => P (.ret r)
theorem EndOk.loop {S1 : AS} {H1 : Hp} {P : Out → Prop} {M B : List Slot → Prop} {Dd : Ends} {nx bk : L2.St → Hp → Prop} (kk : EndOk H0 S0 S1 H1 P Dd) (h : ∀ G S F q H, M G → Keep S1 H1 S H → EnvOk H0 S0 G S F q H → nx q H)
    (hb : ∀ G S F q H, B G → Keep S1 H1 S H → EnvOk H0 S0 G S F q H → bk q H) : EndOk H0 S0 S1 H1 (loopP M B P) { Dd with nx := nx, ct := nx, bk := bk } := ⟨h, hb, h, kk.rv, kk.ro⟩
/-- for: I by the turn -/
theorem ds_for (hX : XOk P w K mg base k N sc fa X) {tg it : Expr} {body rest : List Stmt} {ds : List D} {P' : Out → Prop} (I : Nat → List Slot → Prop) (hit : DI X H0 S0 tg it G ds) (h0 : I 0 G)
    (hs : ∀ i d Gi, ds[i]? = some d → I i Gi → ∃ G2 t, DG X H0 S0 tg d Gi G2 t ∧ DS X H0 S0 body G2 (loopP (I (i + 1)) (fun G' => DS X H0 S0 rest G' P') P')) (he : ∀ Gn, I ds.length Gn → DS X H0 S0 rest Gn P')
    (hf : ∀ x, foldedSetIterable it X.env x = pure x := by intro _; rfl) : DS X H0 S0 (.For tg it body [] pos :: rest) G P' := fun S F q H Dd E kk => by
  obtain ⟨wi, hpi, hwi⟩ := hit
  refine wSs_of (pss_cons (ps_for hX.po hX.calm hpi pwG pwSs hf) pwSs) (hwi S F q H E _ fun J H1 S1 g1 hgo hstop => ?_)
  refine ⟨fun i m q2 H2 => m = ds.length - i ∧ i ≤ ds.length ∧ ∃ G2 S2 F2, EnvOk H0 S0 G2 S2 F2 q2 H2 ∧ I i G2 ∧ Keep S1 H1 S2 H2, ⟨ds.length, by simp, Nat.zero_le _, G, S1, F, E.grow g1, h0, Keep.refl S1 H1⟩, ?_⟩
  rintro i m q2 H2 ⟨rfl, hi, G2, S2, F2, E2, I2, c2⟩
  by_cases hlt : i < ds.length
  · have hd : ds[i]? = some ds[i] := List.getElem?_eq_getElem hlt
    obtain ⟨hg1, hg2⟩ := hgo i S2 H2 _ c2 E2.ext hd
    refine .inr ⟨hg1, fun q3 H3 => ∃ G3 S3 F3, EnvOk H0 S0 G3 S3 F3 q3 H3 ∧ I (i + 1) G3 ∧ Keep S1 H1 S3 H3, fun q3 H3 hN => ?_, fun x H3 hy => ?_⟩
    · obtain ⟨G3, S3, F3, E3, I3, c3⟩ := hN
      exact ⟨ds.length - (i + 1), by omega, rfl, hlt, G3, S3, F3, E3, I3, c3⟩
    · obtain ⟨S3, g3, r3⟩ := hg2 x H3 hy
      obtain ⟨G4, t, hG, hB⟩ := hs i _ G2 hd I2
      refine hG S3 F2 q2 H3 (E2.grow g3) x r3 _ fun F4 q4 E4 _ => hB S3 F4 q4 H3 _ E4 ?_
      have c3 := c2.trans g3.keep
      exact (kk.at_ (g1.keep.trans c3)).loop (fun G5 S5 F5 q5 H5 m5 c5 E5 => ⟨G5, S5, F5, E5, m5, c3.trans c5⟩) fun G5 S5 F5 q5 H5 m5 c5 E5 => m5 S5 F5 q5 H5 Dd E5 (kk.at_ ((g1.keep.trans c3).trans c5))
  · have e : i = ds.length := by omega
    subst e
    exact .inl ⟨hstop _ S2 H2 c2 E2.ext (Nat.le_refl _), he G2 I2 S2 F2 q2 H2 Dd E2 (kk.at_ (g1.keep.trans c2))⟩
/-- for over things of one kind: I by what is left -/
theorem ds_forT (hX : XOk P w K mg base k N sc fa X) {T : Type} {enc : T → D} {xs : List T} {tg it : Expr} {body rest : List Stmt} {P' : Out → Prop} (I : List T → List Slot → Prop) (hit : DI X H0 S0 tg it G (xs.map enc)) (h0 : I xs G)
    (hs : ∀ x r Gi, I (x :: r) Gi → x ∈ xs → ∃ G2 t, DG X H0 S0 tg (enc x) Gi G2 t ∧ DS X H0 S0 body G2 (loopP (I r) (fun G' => DS X H0 S0 rest G' P') P')) (he : ∀ Gn, I [] Gn → DS X H0 S0 rest Gn P')
    (hf : ∀ x, foldedSetIterable it X.env x = pure x := by intro _; rfl) : DS X H0 S0 (.For tg it body [] pos :: rest) G P' :=
  ds_for hX (fun i Gi => I (xs.drop i) Gi) hit h0 (fun i d Gi hd hI => by
    rw [List.getElem?_map] at hd
    cases e : xs[i]? with
    | none => rw [e] at hd; cases hd
    | some x =>
      rw [e] at hd
      have hd' := (Option.some.inj hd).symm
      subst hd'
      obtain ⟨hl, hx⟩ := List.getElem?_eq_some_iff.mp e
      have ed : xs.drop i = x :: xs.drop (i + 1) := by rw [List.drop_eq_getElem_cons hl, hx]
      rw [ed] at hI
      exact hs x _ Gi hI (by rw [← hx]; exact List.getElem_mem hl)) (fun Gn hI => by
    rw [List.length_map, List.drop_length] at hI
    exact he Gn hI) hf
theorem ds_while (hX : XOk P w K mg base k N sc fa X) {c : Expr} {body rest : List Stmt} {P' : Out → Prop} (I : Nat → List Slot → Prop) (m0 : Nat) (h0 : I m0 G)
    (hs : ∀ m Gi, I m Gi → ∃ t, DT X H0 S0 c Gi t ∧ (t = true → DS X H0 S0 body Gi (loopP (fun G' => ∃ m', m' < m ∧ I m' G') (fun G' => DS X H0 S0 rest G' P') P')) ∧ (t = false → DS X H0 S0 rest Gi P')) :
    DS X H0 S0 (.While c body [] pos :: rest) G P' := fun S F q H Dd E kk => by
  refine wSs_of (pss_cons (ps_while hX.po pwT pwSs) pwSs) ⟨fun m q2 H2 => ∃ G2 S2 F2, EnvOk H0 S0 G2 S2 F2 q2 H2 ∧ I m G2 ∧ Keep S H S2 H2, ⟨m0, G, S, F, E, h0, Keep.refl S H⟩, ?_⟩
  rintro m q2 H2 ⟨G2, S2, F2, E2, I2, c2⟩
  obtain ⟨t, hT, hB, hE⟩ := hs m G2 I2
  refine hT S2 F2 q2 H2 E2 _ fun H3 S3 g3 => ?_
  have c3 := c2.trans g3.keep
  cases t with
  | false => exact iteF (hE rfl S3 F2 q2 H3 Dd (E2.grow g3) (kk.at_ c3))
  | true =>
    refine iteT ⟨fun q4 H4 => ∃ m', m' < m ∧ ∃ G4 S4 F4, EnvOk H0 S0 G4 S4 F4 q4 H4 ∧ I m' G4 ∧ Keep S H S4 H4, fun q4 H4 h => h, ?_⟩
    exact hB rfl S3 F2 q2 H3 _ (E2.grow g3) ((kk.at_ c3).loop (fun G5 S5 F5 q5 H5 ⟨m', hm, m5⟩ c5 E5 => ⟨m', hm, G5, S5, F5, E5, m5, c3.trans c5⟩) fun G5 S5 F5 q5 H5 m5 c5 E5 => m5 S5 F5 q5 H5 Dd E5 (kk.at_ (c3.trans c5)))
theorem ds_brk {rest : List Stmt} {P' : Out → Prop} (h : P' (.brk G)) : DS X H0 S0 (.Break pos :: rest) G P' := fun S F q H Dd E kk =>
  wSs_of (pss_cons ps_break pwSs) (kk.bk G S F q H h (Keep.refl S H) E)
theorem ds_cnt {rest : List Stmt} {P' : Out → Prop} (h : P' (.cnt G)) : DS X H0 S0 (.Continue pos :: rest) G P' := fun S F q H Dd E kk =>
  wSs_of (pss_cons ps_continue pwSs) (kk.ct G S F q H h (Keep.refl S H) E)
end
end DL

namespace DL
open PySem PySem.Spec PyProof.Rows L2

/-! ### what a def promises -/
abbrev Tr := List D → (RV → Prop) → Prop
def spD (K : PySem.W.Frag) (bs : List Bool) (T : Tr) : Sp := fun vs H Q _ => ∃ (S : AS) (ds : List D) (P' : RV → Prop), (∀ a, S a → H a ≠ none) ∧ RepsB K S H bs vs ds ∧ T ds P' ∧
  (∀ d v S' H', P' (.val d) → (∀ a o, H a = some o → H' a = some o) → (∀ a, S' a → S a ∨ H a = none) → (∀ a, S' a → H' a ≠ none) → Rep S' H' v d → Q v H') ∧
  (∀ ds p vs S' H', P' (.own ds) → (∀ a o, H a = some o → H' a = some o) → (∀ a, S' a → S a ∨ H a = none) → (∀ a, S' a → H' a ≠ none) → H p = none → ¬ S' p → H' p = some (.lst vs) → Reps S' H' vs ds → Q (.ref p) H')
structure Callee (P : Program) (w : World) (K : PySem.W.Frag) (mg : Str → Option Value) (base : Heap) (k : Nat) (x : Str) (bs : List Bool) (T : Tr) : Prop where
  ex : ∃ f fd ps, FnOk P w K mg base CX0 k f fd ps (spD K bs T) ∧ mg x = some (.ref f) ∧ PySem.W.keepIn K (.ref f) = true ∧ Binds K fd ps []
theorem RepsB.len {K : PySem.W.Frag} {S : AS} {H : Hp} : ∀ {bs : List Bool} {vs : List V} {ds : List D}, RepsB K S H bs vs ds → vs.length = ds.length
  | _, _, _, .nil => rfl
  | _, _, _, .cons _ t => congrArg (· + 1) t.len
theorem RepsB.lenb {K : PySem.W.Frag} {S : AS} {H : Hp} : ∀ {bs : List Bool} {vs : List V} {ds : List D}, RepsB K S H bs vs ds → bs.length = ds.length
  | _, _, _, .nil => rfl
  | _, _, _, .cons _ t => congrArg (· + 1) t.lenb
section
variable {P : Program} {w : World} {K : PySem.W.Frag} {mg : Str → Option Value} {base : Heap} {k : Nat} {N : List Str} {sc : Scope} {fa : Bool} {X : Cx} {H0 : Hp} {S0 : AS} {G G1 G2 : List Slot} {pos p1 p2 p3 : Pos}
theorem db_nil : DB X H0 S0 [] [] G [] := fun S F q H E Q kk => wA_of pa_nil (kk [] H S (Grow.refl S H) .nil)
theorem db_v {e : Expr} {es : List Expr} {d : D} {ds : List D} {bs : List Bool} (h1 : DE X H0 S0 e G d) (h2 : DB X H0 S0 bs es G ds) (hs : starEach (e :: es) X.env = (false, eval e X.env) :: starEach es X.env := by rfl) : DB X H0 S0 (false :: bs) (e :: es) G (d :: ds) := fun S F q H E Q kk =>
  wA_of (pa_cons pwE pwA hs) (h1 S F q H E _ fun v H1 S1 g1 r1 => h2 S1 F q H1 (E.grow g1) _ fun vs H2 S2 g2 r2 => kk _ H2 S2 (g1.trans g2) (.cons (.v (r1.keep g2.keep)) r2))
theorem db_b {e : Expr} {es : List Expr} {l ds : List D} {bs : List Bool} (h1 : DLs X H0 S0 e G l) (h2 : DB X H0 S0 bs es G ds) (hs : starEach (e :: es) X.env = (false, eval e X.env) :: starEach es X.env := by rfl) : DB X H0 S0 (true :: bs) (e :: es) G (.list l :: ds) := fun S F q H E Q kk =>
  wA_of (pa_cons pwE pwA hs) (h1 S F q H E _ fun p vs H1 S1 g1 hp r1 => h2 S1 F q H1 (E.grow g1) _ fun vs' H2 S2 g2 r2 => kk _ H2 S2 (g1.trans g2) (.cons (.b (sql_ext g2.ext hp) (r1.keep g2.keep)) r2))
theorem call_core {j : Nat} {bs : List Bool} {T : Tr} {x : Str} {e : Expr} {es : List Expr} {ds : List D} {P' : RV → Prop} (hX : XOk P w K mg base k N sc fa X) (c : Callee P w K mg base j x bs T) (hj : j ≤ k := by decide) (hg : globB sc x = true := by decide +kernel) (ha : DB X H0 S0 bs (e :: es) G ds) (ht : T ds P')
    (hdb : (x == ("__debug__" : Str)) = false) (he : starEach (e :: es) X.env = (false, eval e X.env) :: starEach es X.env) (hpl : (backTo pos (starEach es X.env)).any (·.1) = false) :
    ∀ S F q H, EnvOk H0 S0 G S F q H → ∀ Q : VK, (∀ d v S' H', P' (.val d) → Grow S H S' H' → Rep S' H' v d → Q v H') →
      (∀ ds p vs S' H', P' (.own ds) → Grow S H S' H' → H p = none → ¬ S' p → H' p = some (.lst vs) → Reps S' H' vs ds → Q (.ref p) H') → wE X (.Call (.Name x p1) (e :: es) [] pos) q H Q := by
  obtain ⟨f, fd, ps, FO, hm, hk, hb⟩ := c.ex
  cases hX.eP
  cases hX.ew
  cases hX.eK
  cases hX.emg
  cases hX.eb
  intro S F q H E Q k1 k2
  refine wE_of (pe_call FO (hX.room.mono hj) (hX.gl hg) hm hk hb .nil pass0 pwA hdb he hpl) (ha S F q H E _ fun vs H1 S1 g1 r1 => ?_)
  rw [List.append_nil]
  have E1 := E.grow g1
  refine ⟨S1, ds, P', E1.slv, r1, ht, fun d v S' H' hp ex nw lv r => ?_, fun d p vs S' H' hp ex nw lv hn hs hq r => ?_⟩
  · exact k1 d v (fun a => S1 a ∨ S' a) H' hp (g1.trans ⟨ex, fun a z => .inl z, fun a z => z.elim .inl (nw a), fun a z => z.imp id (lv a)⟩) (r.mono (fun a z => .inr z) fun _ _ _ z => z)
  · exact k2 d p vs (fun a => S1 a ∨ S' a) H' hp (g1.trans ⟨ex, fun a z => .inl z, fun a z => z.elim .inl (nw a), fun a z => z.imp id (lv a)⟩) (none_ext g1.ext hn) (fun z => z.elim (fun z => E1.slv p z hn) hs) hq (r.mono (fun a z => .inr z) fun _ _ _ z => z)
theorem de_call {j : Nat} {bs : List Bool} {T : Tr} {x : Str} {e : Expr} {es : List Expr} {ds : List D} {d : D} (hX : XOk P w K mg base k N sc fa X) (c : Callee P w K mg base j x bs T) (hj : j ≤ k := by decide) (hg : globB sc x = true := by decide +kernel) (ha : DB X H0 S0 bs (e :: es) G ds) (ht : T ds (fun r => r.dat = d))
    (hdb : (x == ("__debug__" : Str)) = false := by decide) (he : starEach (e :: es) X.env = (false, eval e X.env) :: starEach es X.env := by rfl) (hpl : (backTo pos (starEach es X.env)).any (·.1) = false := by rfl) :
    DE X H0 S0 (.Call (.Name x p1) (e :: es) [] pos) G d := fun S F q H E Q kk =>
  call_core hX c hj hg ha ht hdb he hpl S F q H E Q (fun d' v S' H' hp g r => by
    have hp' : d' = d := hp
    subst hp'
    exact kk v H' S' g r) fun l p vs S' H' hp g hn hs hq r => by
    have hp' : PyData.list l = d := hp
    subst hp'
    exact kk _ H' (fun a => S' a ∨ a = p) ⟨g.ext, fun a z => .inl (g.sub a z), fun a z => z.elim (g.new a) fun z => .inr (by rw [z]; exact hn), fun a z => z.elim (g.lv a) fun z => .inr (by rw [z, hq]; exact Option.some_ne_none _)⟩
      (.lst (.inr rfl) (.inl hq) (r.mono (fun _ z => .inl z) fun _ _ _ z => z))
theorem do_call {j : Nat} {bs : List Bool} {T : Tr} {x : Str} {e : Expr} {es : List Expr} {ds l : List D} (hX : XOk P w K mg base k N sc fa X) (c : Callee P w K mg base j x bs T) (hj : j ≤ k := by decide) (hg : globB sc x = true := by decide +kernel) (ha : DB X H0 S0 bs (e :: es) G ds) (ht : T ds (fun r => r = .own l))
    (hdb : (x == ("__debug__" : Str)) = false := by decide) (he : starEach (e :: es) X.env = (false, eval e X.env) :: starEach es X.env := by rfl) (hpl : (backTo pos (starEach es X.env)).any (·.1) = false := by rfl) :
    DO X H0 S0 (.Call (.Name x p1) (e :: es) [] pos) G l := fun S F q H E Q kk =>
  call_core hX c hj hg ha ht hdb he hpl S F q H E Q (fun d' v S' H' hp g r => by cases hp) fun l' p vs S' H' hp g hn hs hq r => by
    cases hp
    exact kk p vs H' S' g hn hs hq r

/-! ### a def by its body -/
def slotB (K : PySem.W.Frag) : Bool → D → Slot
  | false, d => .val d
  | true, .list ds => .bor K ds
  | true, _ => .junk
def slots (K : PySem.W.Frag) : List Bool → List D → List Slot
  | b :: bs, d :: ds => slotB K b d :: slots K bs ds
  | _, _ => []
def atStart (K : PySem.W.Frag) (N : List Str) (bs : List Bool) (ds : List D) : List Slot := slots K bs ds ++ List.replicate (N.length - ds.length) .junk
theorem slots_len {K : PySem.W.Frag} {S : AS} {H : Hp} : ∀ {bs : List Bool} {vs : List V} {ds : List D}, RepsB K S H bs vs ds → (slots K bs ds).length = ds.length
  | _, _, _, .nil => rfl
  | _, _, _, .cons _ t => congrArg (· + 1) (slots_len t)
theorem slots_at {K : PySem.W.Frag} {S : AS} {H : Hp} : ∀ {bs : List Bool} {vs : List V} {ds : List D}, RepsB K S H bs vs ds → ∀ (i : Nat) (s : Slot), (slots K bs ds)[i]? = some s → ∃ b v d, vs[i]? = some v ∧ RepB K S H b v d ∧ s = slotB K b d
  | _, _, _, .nil, i, s, h => by simp [slots] at h
  | _, _, _, .cons r t, 0, s, h => by
    simp [slots] at h
    exact ⟨_, _, _, rfl, r, h.symm⟩
  | _, _, _, .cons r t, i + 1, s, h => by
    simp [slots] at h
    obtain ⟨b, v, d, h1, h2, h3⟩ := slots_at t i s h
    exact ⟨b, v, d, by simpa using h1, h2, h3⟩
def bodyP (P' : RV → Prop) : Out → Prop
  | .ret r => P' r
  | .nxt _ => P' (.val .none)
  | _ => False
theorem start_ok {K : PySem.W.Frag} {N ps : List Str} {S : AS} {H : Hp} {bs : List Bool} {vs : List V} {ds : List D} (r : RepsB K S H bs vs ds) (hl : ds.length ≤ N.length) (lv : ∀ a, S a → H a ≠ none) : ∃ F, EnvOk H S (atStart K N bs ds) S F (L2.start N vs) H := by
  have hlen := r.len
  have hsl := slots_len r
  have glen : (atStart K N bs ds).length = N.length := by
    unfold atStart
    rw [List.length_append, List.length_replicate, hsl]
    omega
  have gat : ∀ i s, (atStart K N bs ds)[i]? = some s → (∃ b v d, vs[i]? = some v ∧ RepB K S H b v d ∧ s = slotB K b d) ∨ (s = .junk ∧ ds.length ≤ i) := fun i s h => by
    unfold atStart at h
    by_cases hi : i < ds.length
    · rw [List.getElem?_append_left (by omega)] at h
      exact .inl (slots_at r i s h)
    · rw [List.getElem?_append_right (by omega), List.getElem?_replicate] at h
      split at h
      · cases h; exact .inr ⟨rfl, by omega⟩
      · cases h
  have qat : ∀ i, i < N.length → ∃ o, (L2.start N vs)[i]? = some o := fun i hi => by
    have : i < (L2.start N vs).length := by
      unfold L2.start
      rw [List.length_append, List.length_map, List.length_replicate]
      omega
    exact ⟨_, List.getElem?_eq_getElem this⟩
  have qv : ∀ i v, vs[i]? = some v → (L2.start N vs)[i]? = some (some v) := fun i v h => by
    have hi : i < vs.length := (List.getElem?_eq_some_iff.mp h).1
    unfold L2.start
    rw [List.getElem?_append_left (by rw [List.length_map]; exact hi), List.getElem?_map, h]
    rfl
  refine ⟨fun i a => ∃ K' l, (atStart K N bs ds)[i]? = some (.bor K' l) ∧ vs[i]? = some (.ref a) ∧ H a ≠ none, ⟨?_, fun _ _ h => h, fun a h => .inl h, lv, ?_, ?_, ?_, ?_, ?_⟩⟩
  · rw [glen]
    unfold L2.start
    rw [List.length_append, List.length_map, List.length_replicate]
    omega
  · rintro i a ⟨K', l, h1, h2, h3⟩
    exact h3
  · intro i s h
    have hi : i < N.length := by rw [← glen]; exact (List.getElem?_eq_some_iff.mp h).1
    rcases gat i s h with ⟨b, v, d, h3, h4, h5⟩ | ⟨h3, _⟩
    · refine ⟨some v, qv i v h3, ?_⟩
      subst h5
      cases h4 with
      | v r =>
        refine ⟨?_, v, rfl, r⟩
        rintro a ⟨K', l, q1, _⟩
        rw [h] at q1
        cases q1
      | @b p ws l' hp r =>
        refine ⟨p, _, rfl, ?_, ?_, r⟩
        · rintro a ⟨K', l, q1, q2, _⟩
          rw [h3] at q2
          cases q2
          rfl
        · exact hp.imp (fun z => ⟨⟨_, _, h, h3, rd_ex z⟩, z⟩) id
    · obtain ⟨o, ho⟩ := qat i hi
      subst h3
      refine ⟨o, ho, ?_⟩
      rintro a ⟨K', l, q1, _⟩
      rw [h] at q1
      cases q1
  · intro i s h hm
    rcases gat i s h with ⟨b, v, d, h3, h4, h5⟩ | ⟨h3, _⟩
    · subst h5
      cases h4 <;> cases hm
    · subst h3
      cases hm
  · rintro i hi a ⟨K', l, h1, _⟩
    rw [List.getElem?_eq_none hi] at h1
    cases h1
  · rintro i K' l h a ⟨_, l', h1, h2, h3⟩
    exact h3
/-- a def of the text keeps its promise -/
theorem fnok_of {x qual : Str} {st : Stmt} {f : Addr} {fd : FuncData} {N ps : List Str} {bs : List Bool} {T : Tr} (F : Fun K x qual st f fd) (Sc : FnScope N ps (defScope st))
    (hT : ∀ ds P', T ds P' → ds.length = ps.length)
    (body : ∀ (X : Cx) (H0 : Hp) (S0 : AS) (ds : List D) (P' : RV → Prop), XOk P w K mg base k N (defScope st) true X → T ds P' → DS X H0 S0 (defBody st) (atStart K N bs ds) (bodyP P')) : FnOk P w K mg base CX0 (k + 1) f fd ps (spD K bs T) := by
  refine F.ok Sc (fun vs H Q E h => ?_) (fun cdv A outer s H vs Q E hr h => ?_)
  · obtain ⟨S, ds, P', _, r, ht, _⟩ := h
    rw [r.len]
    exact hT ds P' ht
  · obtain ⟨S, ds, P', lv, r, ht, k1, k2⟩ := h
    have hpl : ps.length ≤ N.length := by have := congrArg List.length Sc.pre; rw [List.length_take] at this; omega
    have hX : XOk P w K mg base k N (defScope st) true ((cxOf CX0 P w K mg base N qual (defScope st) f cdv A outer s H E).nox) := ⟨rfl, rfl, rfl, rfl, rfl, rfl, rfl, Sc.nd, rfl, hr, fun _ _ => rfl, PassesOwn.never⟩
    obtain ⟨F0, E0⟩ := start_ok (N := N) (ps := ps) r (by rw [hT ds P' ht]; exact hpl) lv
    refine ⟨_, pwSs, body _ H S ds P' hX ht S F0 _ H _ E0 ⟨fun G S' F q H' h c E' => ?_, fun G S' F q H' h c E' => h.elim, fun G S' F q H' h c E' => h.elim, fun d v S' H' h ex sf sl r => k1 d v S' H' h ex sf sl r, fun ds p vs S' H' h ex sf sl hn hs hq r => k2 ds p vs S' H' h ex sf sl hn hs hq r⟩⟩
    exact k1 .none .non S' H' h E'.ext E'.sfr E'.slv .non
theorem callee_of {x qual : Str} {st : Stmt} {f : Addr} {fd : FuncData} {N ps : List Str} {bs : List Bool} {T : Tr} (F : Fun K x qual st f fd) (Sc : FnScope N ps (defScope st)) (hm : mg x = some (.ref f)) (hb : Binds K fd ps [])
    (hT : ∀ ds P', T ds P' → ds.length = ps.length)
    (body : ∀ (X : Cx) (H0 : Hp) (S0 : AS) (ds : List D) (P' : RV → Prop), XOk P w K mg base k N (defScope st) true X → T ds P' → DS X H0 S0 (defBody st) (atStart K N bs ds) (bodyP P')) : Callee P w K mg base (k + 1) x bs T :=
  ⟨f, fd, ps, fnok_of F Sc hT body, hm, F.kp, hb⟩

/-! ### subscripts -/
theorem at_enc {T : Type} (enc : T → D) {xs : List T} {i : Int} {x : T} (h0 : 0 ≤ i) (h : xs[i.toNat]? = some x) : atI (xs.map enc) i = some (enc x) := by
  have := atI_nat (xs := xs.map enc) (j := i.toNat) (v := enc x) (by rw [List.getElem?_map, h]; rfl)
  rwa [Int.toNat_of_nonneg h0] at this
theorem atI_len {α : Type} {xs : List α} {i : Int} {v : α} (h : atI xs i = some v) : ∃ j, ixN xs.length i = some j ∧ xs[j]? = some v := by
  unfold atI at h
  cases e : ixN xs.length i with
  | none => rw [e] at h; cases h
  | some j => rw [e] at h; exact ⟨j, rfl, h⟩
theorem atI_of {α : Type} {xs : List α} {i : Int} {j : Nat} {v : α} (h1 : ixN xs.length i = some j) (h2 : xs[j]? = some v) : atI xs i = some v := by
  unfold atI
  rw [h1]
  exact h2
theorem de_ix {a b : Expr} {ds : List D} {i : Int} {d : D} (ha : DLs X H0 S0 a G ds) (hb : DE X H0 S0 b G (.int i)) (h : atI ds i = some d) (hp : PlainIx b := by exact fun _ _ => rfl) : DE X H0 S0 (.Subscript a b pos) G d := fun S F q H E Q kk =>
  wE_of (pe_ix ix_list pwE pwE hp) (ha S F q H E _ fun p vs H1 S1 g1 h1 r1 => hb S1 F q H1 (E.grow g1) _ fun u H2 S2 g2 r2 => by
    cases r2
    obtain ⟨j, e1, e2⟩ := atI_len h
    obtain ⟨v, hv, rv⟩ := r1.getD e2
    exact ⟨p, vs, i, v, rfl, rfl, sql_ext g2.ext h1, atI_of (by rw [r1.len]; exact e1) hv, kk v H2 S2 (g1.trans g2) (rv.keep g2.keep)⟩)
theorem de_ixt {a b : Expr} {ds : List D} {i : Int} {d : D} (ha : DE X H0 S0 a G (.tuple ds)) (hb : DE X H0 S0 b G (.int i)) (h : atI ds i = some d) (hp : PlainIx b := by exact fun _ _ => rfl) : DE X H0 S0 (.Subscript a b pos) G d := fun S F q H E Q kk =>
  wE_of (pe_ix ix_tup pwE pwE hp) (ha S F q H E _ fun v H1 S1 g1 r1 => hb S1 F q H1 (E.grow g1) _ fun u H2 S2 g2 r2 => by
    cases r2
    cases r1 with
    | tup h1 h2 h3 =>
      obtain ⟨j, e1, e2⟩ := atI_len h
      obtain ⟨v, hv, rv⟩ := h3.getD e2
      exact ⟨_, _, i, v, rfl, rfl, .inl (rd_keep (fun o z => g2.ext _ o z) h2), atI_of (by rw [h3.len]; exact e1) hv, kk v H2 S2 (g1.trans g2) (rv.keep g2.keep)⟩)
def cutD (xs : List D) (lo hi : Option Int) : List D := (xs.drop (HT.sIx xs.length 0 lo)).take (HT.sIx xs.length xs.length hi - HT.sIx xs.length 0 lo)
theorem cut_rep {S : AS} {H : Hp} {vs : List V} {ds : List D} (r : Reps S H vs ds) (lo hi : Option Int) : Reps S H (cutV vs lo hi) (cutD ds lo hi) := by
  unfold cutV cutD
  rw [r.len]
  exact (r.drop _).take _
/-- a bound of a slice -/
def DPo (X : Cx) (H0 : Hp) (S0 : AS) (e : Option Expr) (G : List Slot) (o : Option Int) : Prop := ∃ t, PO X e t ∧ ∀ S F q H, EnvOk H0 S0 G S F q H → ∀ Q : Option Int → Hp → Prop, (∀ H' S', Grow S H S' H' → Q o H') → t q H Q
theorem dpo_none : DPo X H0 S0 none G none := ⟨_, po_none, fun S F q H E Q kk => kk H S (Grow.refl S H)⟩
theorem dpo_some {e : Expr} {i : Int} (he : DE X H0 S0 e G (.int i)) : DPo X H0 S0 (some e) G (some i) := ⟨_, po_some pwE, fun S F q H E Q kk => he S F q H E _ fun v H1 S1 g1 r1 => by
  cases r1
  exact ⟨i, rfl, kk H1 S1 g1⟩⟩
theorem do_slice {a : Expr} {lo hi : Option Expr} {l u : Option Int} {ds : List D} (ha : DLs X H0 S0 a G ds) (hl : DPo X H0 S0 lo G l) (hu : DPo X H0 S0 hi G u) : DO X H0 S0 (.Subscript a (.Slice lo hi none p2) pos) G (cutD ds l u) := fun S F q H E Q kk => by
  obtain ⟨tl, pl, hl⟩ := hl
  obtain ⟨tu, pu, hu⟩ := hu
  refine wE_of (pe_slice sl_list pwE pl pu) (ha S F q H E _ fun p vs H1 S1 g1 h1 r1 => hl S1 F q H1 (E.grow g1) _ fun H2 S2 g2 => hu S2 F q H2 ((E.grow g1).grow g2) _ fun H3 S3 g3 => ?_)
  have g23 := g2.trans g3
  refine ⟨p, vs, rfl, sql_ext g23.ext h1, fun p' hp => kk p' _ _ _ ((g1.trans g23).trans (Grow.alloc0 hp)) (none_ext (g1.trans g23).ext hp) (fun z => ((E.grow g1).grow g23).slv p' z hp) upd_same
    ((cut_rep (r1.keep g23.keep) l u).mono (fun _ z => z) fun a o _ e => by rw [upd_ne (ne_of_none e hp)]; exact e)⟩

/-! ### a list of one's own changes -/
theorem own_at {S : AS} {F : Nat → AS} {q : L2.St} {H : Hp} (E : EnvOk H0 S0 G S F q H) {i : Nat} {ds : List D} (hi : G[i]? = some (.own ds) := by rfl) : ∃ p vs, q[i]? = some (some (.ref p)) ∧ F i p ∧ H p = some (.lst vs) ∧ Reps S H vs ds ∧ ¬ S p := by
  obtain ⟨o, h1, p, vs, rfl, hF, hp, r⟩ := E.sl i _ hi
  exact ⟨p, vs, h1, (hF p).mpr rfl, hp, r, (E.mu i _ hi rfl p ((hF p).mpr rfl)).2.1⟩
theorem ds_append (i : Nat) (hX : XOk P w K mg base k N sc fa X) {x : Str} {e : Expr} {rest : List Stmt} {ds : List D} {d : D} {P' : Out → Prop} {apos : Pos} (hN : N[i]? = some x := by rfl) (hv : visB sc x = true := by decide +kernel) (hi : G[i]? = some (.own ds) := by rfl) (he : DE X H0 S0 e G d) (hz : ds.length < 16777216)
    (h : DS X H0 S0 rest (G.set i (.own (ds ++ [d]))) P') (hd : (x == ("__debug__" : Str)) = false := by decide) (hcd : (x == ("__classdict__" : Str)) = false := by decide)
    (hbase : attributeBase (.Name x p1) "append" X.env (eval (.Name x p1) X.env) = eval (.Name x p1) X.env := by rfl)
    (hfew : ((backTo p2 (starEach [e] X.env)).all (fun x => !x.1) && (backToKw p2 (keywordEach [] X.env)).all (fun x => x.1.isSome)
      && decide ([e].length + ([] : List Keyword).length + (if ([] : List Keyword).isEmpty then 0 else 1) < 30)) = true := by rfl)
    (hline : (apos.endLine == p2.line) = true := by rfl) (hs : starEach [e] X.env = (false, eval e X.env) :: starEach [] X.env := by rfl) (hplain : (backTo p2 (starEach [] X.env)).any (·.1) = false := by rfl)
    (hsw : swapsWith (.Call (.Attribute (.Name x p1) "append" apos) [e] [] p2) none pos.line X.env = pure false := by rfl) :
    DS X H0 S0 (.Expr (.Call (.Attribute (.Name x p1) "append" apos) [e] [] p2) pos :: rest) G P' := fun S F q H Dd E kk => by
  obtain ⟨p, vs, e1, hF, hp, r, hS⟩ := own_at E hi
  refine wSs_of (pss_cons (ps_expr (pe_bm PySem.F.plainAttrs_list PySem.F.slot_list_append PySem.F.type_list_append mt_append (pe_var (X := X) (i := i) (by rw [hX.eN]; exact hN) (by rw [hX.es]; exact vis_of hv) hd hcd) (pa_cons pwE pa_nil hs) hbase hfew hline hs hplain) hsw) pwSs) ?_
  refine ⟨_, e1, .inl ⟨rfl, _, .inl (.inl hp)⟩, he S F q H E _ fun v H1 S1 g1 r1 => ?_⟩
  have E1 := E.grow g1
  have hp1 := g1.ext _ _ hp
  have m1 := (E1.mu i _ hi rfl p hF).2.1
  refine ⟨p, vs, v, rfl, rfl, hp1, by rw [r.len, sizeLine_eq]; exact hz, ?_⟩
  exact h S1 F q _ Dd (E1.store hi e1 ((r.keep g1.keep).append (.cons r1 .nil))) (kk.at_ (g1.keep.trans (Keep.upd m1)))
/-- x[j] = e -/
theorem ds_setix (i : Nat) (hX : XOk P w K mg base k N sc fa X) {x : Str} {e b : Expr} {rest : List Stmt} {ds : List D} {d : D} {n : Int} {j : Nat} {P' : Out → Prop} (hN : N[i]? = some x := by rfl) (hv : visB sc x = true := by decide +kernel) (hi : G[i]? = some (.own ds) := by rfl) (he : DE X H0 S0 e G d) (hb : DE X H0 S0 b G (.int n)) (hj : ixN ds.length n = some j)
    (h : DS X H0 S0 rest (G.set i (.own (ds.set j d))) P') (hd : (x == ("__debug__" : Str)) = false := by decide) (hcd : (x == ("__classdict__" : Str)) = false := by decide)
    (ha : ∀ v, assign (.Subscript (.Name x p1) b p2) X.env v = (do
      let ov ← holding [v] (eval (.Name x p1) X.env)
      let iv ← holding [v, ov] (eval b X.env)
      standAt p2
      holding [v, ov, iv] (setItem ov iv v)
      release [v, ov, iv] []) := by intro _; rfl)
    (hs : swapsWithSole [.Subscript (.Name x p1) b p2] e pos.line X.env = pure false := by rfl) (hw : swappedStores [.Subscript (.Name x p1) b p2] e X.env = pure none := by rfl) (h1 : (assignEach [.Subscript (.Name x p1) b p2] X.env).map (·.2) = [assign (.Subscript (.Name x p1) b p2) X.env] := by rfl) :
    DS X H0 S0 (.Assign [.Subscript (.Name x p1) b p2] e pos :: rest) G P' := fun S F q H Dd E kk => by
  refine wSs_of (pss_cons (ps_asg pwE (pg_sub (pe_var (X := X) (i := i) (by rw [hX.eN]; exact hN) (by rw [hX.es]; exact vis_of hv) hd hcd) pwE set_list ha) hs hw h1) pwSs) (he S F q H E _ fun v H1 S1 g1 r1 => ?_)
  have E1 := E.grow g1
  obtain ⟨p, vs, e1, hF, hp, r, hS⟩ := own_at E1 hi
  refine ⟨_, e1, hb S1 F q H1 E1 _ fun u H2 S2 g2 r2 => ?_⟩
  cases r2
  have E2 := E1.grow g2
  have m1 := (E2.mu i _ hi rfl p hF).2.1
  refine ⟨p, vs, n, j, rfl, rfl, g2.ext _ _ hp, by rw [r.len]; exact hj, ?_⟩
  exact h S2 F q _ Dd (E2.store hi e1 (Reps.set (r1.keep g2.keep) j (r.keep g2.keep))) (kk.at_ ((g1.keep.trans g2.keep).trans (Keep.upd m1)))
theorem get_list {X : Cx} : PGet X (fun o i H Q => ∃ p xs k v, o = .ref p ∧ i = .int k ∧ SqL X.K H p xs ∧ atI xs k = some v ∧ Q v H) := by
  intro pins s q H o i ov iv Q I ro ri h
  obtain ⟨p, xs, n, v, rfl, rfl, hq, hat, hQ⟩ := h
  cases ro
  obtain ⟨t, rfl⟩ := ri
  obtain ⟨its, r, pl, hz⟩ := I.list hq
  obtain ⟨j, h1, h2, h3, h4, h5⟩ := atI_get hat
  obtain ⟨u, ew, rw'⟩ := r.get h2
  have hl := r.length
  have hn := line63
  have fin : EP X pins q Q u s := ⟨v, H, I, rw', hQ⟩
  by_cases h0 : 0 ≤ n
  · have hj : n.toNat = j := by
      rw [seqIndex_of h0 h5] at h1
      exact Option.some.inj h1
    exact wpAny_getItem_list pl.isList h0 (by omega) (by rw [hj]; simpa using ew) fin
  · have hj : (n + (its.toArray.size : Int)).toNat = j := by
      rw [seqIndex_neg (by omega) h4] at h1
      rw [List.size_toArray, ← hl]
      exact Option.some.inj h1
    exact wpAny_getItem_list_neg pl.isList (by omega) (by rw [List.size_toArray] <;> omega) (by omega) (by rw [hj]; simpa using ew) fin
end
end DL

namespace DL
open PySem PySem.Spec PyProof.Rows L2

/-! ### lists glued, said again; over any list that is read -/
theorem lstR {X : Cx} {pins : List (Addr × Obj)} {q : L2.St} {H : Hp} {s : Shared} {l : Addr} {xs : List V} (I : Inv X pins q H s) (h : Rd H l (.lst xs)) :
    xs.length ≤ sizeLine ∧ ∃ (its : List Value) (n : Nat), Vals xs its ∧ xs.length = its.length ∧ s.heap.get? l = some { cls := .type "list", data := .seq its.toArray n } := by
  obtain ⟨z, its, n, r, e⟩ := h.ok I.hok
  exact ⟨z, its, n, r, r.length, e⟩
def rCatR : R2 := fun x y H Q => ∃ l b xs zs, x = .ref l ∧ y = .ref b ∧ Rd H l (.lst xs) ∧ Rd H b (.lst zs) ∧ xs.length + zs.length ≤ sizeLine ∧ ∀ p, H p = none → Q (.ref p) (upd H p (.lst (xs ++ zs)))
theorem op_catR {X : Cx} : OpR X (binaryOp .Add) rCatR := by
  intro pins s q H x y v u Q I rx ry h
  obtain ⟨l, b, xs, zs, rfl, rfl, hH, hB, hz, hq⟩ := h
  cases rx
  cases ry
  obtain ⟨z, its, n, r, hl, e⟩ := lstR I hH
  obtain ⟨z2, its2, n2, r2, hl2, e2⟩ := lstR I hB
  refine PySem.P.add_list e e2 ?_ (by rw [List.size_toArray, List.size_toArray]; omega)
  have ea : its.toArray ++ its2.toArray = (its ++ its2).toArray := by simp
  rw [ea]
  exact ⟨.ref _, _, I.lnew (t' := s.toks) (r.append r2) (by rw [List.length_append]; omega), rfl, hq _ I.fresh⟩
section
variable {P : Program} {w : World} {K : PySem.W.Frag} {mg : Str → Option Value} {base : Heap} {k : Nat} {N : List Str} {sc : Scope} {fa : Bool} {X : Cx} {H0 : Hp} {S0 : AS} {G G1 G2 : List Slot} {pos p1 p2 p3 : Pos}
theorem do_cat {a b : Expr} {xs ys : List D} (ha : DLr X H0 S0 a G xs) (hb : DLr X H0 S0 b G ys) (hz : xs.length + ys.length ≤ 16777216) : DO X H0 S0 (.BinOp a .Add b pos) G (xs ++ ys) := fun S F q H E Q kk =>
  wE_of (pe_op op_catR pwE pwE) (ha S F q H E _ fun p vs H1 S1 g1 h1 r1 => hb S1 F q H1 (E.grow g1) _ fun p' vs' H2 S2 g2 h2 r2 =>
    ⟨p, p', vs, vs', rfl, rfl, rd_keep (fun o z => g2.ext _ o z) h1, h2, by rw [r1.len, r2.len, sizeLine_eq]; exact hz, fun c hc => kk c _ _ _ ((g1.trans g2).trans (Grow.alloc0 hc)) (none_ext (g1.trans g2).ext hc) (fun z => ((E.grow g1).grow g2).slv c z hc) upd_same
      (((r1.keep g2.keep).append r2).mono (fun _ z => z) fun a o _ e => by rw [upd_ne (ne_of_none e hc)]; exact e)⟩)
/-- [x] * n -/
theorem do_rep {b x : Expr} {d : D} {n : Int} (hx : DE X H0 S0 x G d) (hb : DE X H0 S0 b G (.int n)) (h1 : -(2 ^ 63) ≤ n) (h2 : n ≤ 16777216) (hs : starEach [x] X.env = (false, eval x X.env) :: starEach [] X.env := by rfl) :
    DO X H0 S0 (.BinOp (.List [x] p1) .Mult b pos) G (List.replicate n.toNat d) := fun S F q H E Q kk =>
  wE_of (pe_op op_rep (pe_lst (pa_cons pwE pa_nil hs)) pwE) (hx S F q H E _ fun v H1 S1 g1 r1 => ⟨by show 1 ≤ sizeLine; decide, fun l hl => by
    have gl : Grow S1 H1 S1 (upd H1 l (.lst [v])) := Grow.alloc0 hl
    refine hb S1 F q _ ((E.grow g1).grow gl) _ fun u H2 S2 g2 r2 => ?_
    cases r2
    have e1 : (List.replicate n.toNat [v]).flatten = List.replicate n.toNat v := by
      generalize n.toNat = m
      induction m with
      | zero => rfl
      | succ m ih => rw [List.replicate_succ, List.flatten_cons, ih, List.replicate_succ]; rfl
    have g3 := (g1.trans gl).trans g2
    refine ⟨l, n, [v], rfl, rfl, g2.ext _ _ upd_same, h1, by omega, by rw [sizeLine_eq]; show 1 * n.toNat ≤ 16777216; omega, fun c hc => ?_⟩
    rw [e1]
    have rr : ∀ m : Nat, Reps S2 (upd H2 c (.lst (List.replicate n.toNat v))) (List.replicate m v) (List.replicate m d) := fun m => by
      induction m with
      | zero => exact .nil
      | succ m ih =>
        rw [List.replicate_succ, List.replicate_succ]
        exact .cons ((r1.keep ((gl.trans g2).keep)).mono (fun _ z => z) fun a o _ e => by rw [upd_ne (ne_of_none e hc)]; exact e) ih
    exact kk c _ _ S2 (g3.trans (Grow.alloc0 hc)) (none_ext g3.ext hc) (fun z => (E.grow g3).slv c z hc) upd_same (rr _)⟩)

/-! ### built-ins -/
theorem de_cb {id : String} {x : Str} {r : List V → Hp → VK → Prop} {e : Expr} {es : List Expr} {ds : List D} {z : D} (hX : XOk P w K mg base k N sc fa X) (hc : CallR X (.builtin id) r) (hm : mg x = none) (hg : globB sc x = true := by decide +kernel) (hv : bootBuiltins x = some (.builtin id)) (ha : DA X H0 S0 (e :: es) G ds)
    (hr : ∀ S H vs (Q : VK), Reps S H vs ds → (∀ v, Rep S H v z → Q v H) → r vs H Q)
    (hn : x ≠ "__name__" := by decide) (hdb : (x == ("__debug__" : Str)) = false := by decide) (he : starEach (e :: es) X.env = (false, eval e X.env) :: starEach es X.env := by rfl) (hpl : (backTo pos (starEach es X.env)).any (·.1) = false := by rfl) :
    DE X H0 S0 (.Call (.Name x p1) (e :: es) [] pos) G z := fun S F q H E Q kk =>
  wE_of (pe_callB hc (hX.gl hg) (by rw [hX.emg]; exact hm) hv pwA hn hdb he hpl) (ha S F q H E _ fun vs H1 S1 g1 r1 => hr S1 H1 vs Q r1 fun v rv => kk v H1 S1 g1 rv)
theorem de_ct {id : String} {x : Str} {r : List V → Hp → VK → Prop} {e : Expr} {es : List Expr} {ds : List D} {z : D} (hX : XOk P w K mg base k N sc fa X) (hc : CallR X (.type id) r) (hm : mg x = none) (hg : globB sc x = true := by decide +kernel) (hv : bootBuiltins x = some (.type id)) (ha : DA X H0 S0 (e :: es) G ds)
    (hr : ∀ S H vs (Q : VK), Reps S H vs ds → (∀ v, Rep S H v z → Q v H) → r vs H Q)
    (hn : x ≠ "__name__" := by decide) (hdb : (x == ("__debug__" : Str)) = false := by decide) (he : starEach (e :: es) X.env = (false, eval e X.env) :: starEach es X.env := by rfl) (hpl : (backTo pos (starEach es X.env)).any (·.1) = false := by rfl) :
    DE X H0 S0 (.Call (.Name x p1) (e :: es) [] pos) G z := fun S F q H E Q kk =>
  wE_of (pe_callTy hc (hX.gl hg) (by rw [hX.emg]; exact hm) hv pwA hn hdb he hpl) (ha S F q H E _ fun vs H1 S1 g1 r1 => hr S1 H1 vs Q r1 fun v rv => kk v H1 S1 g1 rv)
theorem de_abs {a : Expr} {i : Int} (hX : XOk P w K mg base k N sc fa X) (hm : mg "abs" = none) (hg : globB sc "abs" = true := by decide +kernel) (ha : DE X H0 S0 a G (.int i)) (hs : starEach [a] X.env = (false, eval a X.env) :: starEach [] X.env := by rfl) (hpl : (backTo pos (starEach [] X.env)).any (·.1) = false := by rfl) :
    DE X H0 S0 (.Call (.Name "abs" p1) [a] [] pos) G (.int (i.natAbs : Int)) :=
  de_cb hX call_abs hm hg PyProof.Rows.boot_abs (da_cons ha da_nil hs) (fun S H vs Q r kk => by
    cases r with
    | cons r t =>
      cases t; cases r
      refine ⟨i, rfl, kk _ ?_⟩
      have e : (if i < 0 then -i else i) = (i.natAbs : Int) := by split <;> omega
      rw [e]
      exact .int _) (by decide) (by decide) hs hpl
theorem de_max2 {a b : Expr} {i j : Int} (hX : XOk P w K mg base k N sc fa X) (hm : mg "max" = none) (hg : globB sc "max" = true := by decide +kernel) (ha : DE X H0 S0 a G (.int i)) (hb : DE X H0 S0 b G (.int j)) (hs : starEach [a, b] X.env = (false, eval a X.env) :: starEach [b] X.env := by rfl) (hs2 : starEach [b] X.env = (false, eval b X.env) :: starEach [] X.env := by rfl) (hpl : (backTo pos (starEach [b] X.env)).any (·.1) = false := by rfl) :
    DE X H0 S0 (.Call (.Name "max" p1) [a, b] [] pos) G (.int (max i j)) :=
  de_cb hX (call_max2 hX.calm) hm hg PyProof.Rows.boot_max (da_cons ha (da_cons hb da_nil hs2) hs) (fun S H vs Q r kk => by
    cases r with
    | cons r t =>
      cases t with
      | cons r2 t =>
        cases t; cases r; cases r2
        refine ⟨i, j, rfl, kk _ ?_⟩
        have e : (if j > i then j else i) = max i j := by split <;> omega
        rw [e]
        exact .int _) (by decide) (by decide) hs hpl
theorem de_min2 {a b : Expr} {i j : Int} (hX : XOk P w K mg base k N sc fa X) (hm : mg "min" = none) (hg : globB sc "min" = true := by decide +kernel) (ha : DE X H0 S0 a G (.int i)) (hb : DE X H0 S0 b G (.int j)) (hs : starEach [a, b] X.env = (false, eval a X.env) :: starEach [b] X.env := by rfl) (hs2 : starEach [b] X.env = (false, eval b X.env) :: starEach [] X.env := by rfl) (hpl : (backTo pos (starEach [b] X.env)).any (·.1) = false := by rfl) :
    DE X H0 S0 (.Call (.Name "min" p1) [a, b] [] pos) G (.int (min i j)) :=
  de_cb hX (call_min2 hX.calm) hm hg PyProof.Rows.boot_min (da_cons ha (da_cons hb da_nil hs2) hs) (fun S H vs Q r kk => by
    cases r with
    | cons r t =>
      cases t with
      | cons r2 t =>
        cases t; cases r; cases r2
        refine ⟨i, j, rfl, kk _ ?_⟩
        have e : (if j < i then j else i) = min i j := by split <;> omega
        rw [e]
        exact .int _) (by decide) (by decide) hs hpl
def b2i (b : Bool) : Int := if b then 1 else 0
theorem de_intb {a : Expr} {b : Bool} (hX : XOk P w K mg base k N sc fa X) (hm : mg "int" = none) (hg : globB sc "int" = true := by decide +kernel) (ha : DE X H0 S0 a G (.bool b)) (hs : starEach [a] X.env = (false, eval a X.env) :: starEach [] X.env := by rfl) (hpl : (backTo pos (starEach [] X.env)).any (·.1) = false := by rfl) :
    DE X H0 S0 (.Call (.Name "int" p1) [a] [] pos) G (.int (b2i b)) :=
  de_ct hX call_int1 hm hg PyProof.Rows.boot_int (da_cons ha da_nil hs) (fun S H vs Q r kk => by
    cases r with
    | cons r t =>
      cases t; cases r
      exact .inr ⟨b, rfl, kk _ (.int _)⟩) (by decide) (by decide) hs hpl
/-- a call of a built-in upon one list -/
theorem de_cl {id : String} {x : Str} {r : List V → Hp → VK → Prop} {e : Expr} {ds : List D} {z : D} (hX : XOk P w K mg base k N sc fa X) (hc : CallR X (.builtin id) r) (hm : mg x = none) (hg : globB sc x = true := by decide +kernel) (hv : bootBuiltins x = some (.builtin id)) (ha : DLs X H0 S0 e G ds)
    (hr : ∀ S H p vs (Q : VK), SqL X.K H p vs → Reps S H vs ds → (∀ v, Rep S H v z → Q v H) → r [.ref p] H Q)
    (hn : x ≠ "__name__" := by decide) (hdb : (x == ("__debug__" : Str)) = false := by decide) (he : starEach [e] X.env = (false, eval e X.env) :: starEach [] X.env := by rfl) (hpl : (backTo pos (starEach [] X.env)).any (·.1) = false := by rfl) :
    DE X H0 S0 (.Call (.Name x p1) [e] [] pos) G z := fun S F q H E Q kk =>
  wE_of (pe_callB hc (hX.gl hg) (by rw [hX.emg]; exact hm) hv (pa_cons pwE pa_nil he) hn hdb he hpl) (ha S F q H E _ fun p vs H1 S1 g1 h1 r1 => hr S1 H1 p vs Q h1 r1 fun v rv => kk v H1 S1 g1 rv)
theorem de_len {a : Expr} {ds : List D} (hX : XOk P w K mg base k N sc fa X) (hm : mg "len" = none) (hg : globB sc "len" = true := by decide +kernel) (ha : DLs X H0 S0 a G ds) (he : starEach [a] X.env = (false, eval a X.env) :: starEach [] X.env := by rfl) (hpl : (backTo pos (starEach [] X.env)).any (·.1) = false := by rfl) :
    DE X H0 S0 (.Call (.Name "len" p1) [a] [] pos) G (.int (ds.length : Int)) :=
  de_cl hX call_len_seq hm hg PySem.boot_len ha (fun S H p vs Q h r kk => ⟨p, vs, rfl, .inl h, kk _ (by rw [r.len]; exact .int _)⟩) (by decide) (by decide) he hpl
theorem de_lent {a : Expr} {ds : List D} (hX : XOk P w K mg base k N sc fa X) (hm : mg "len" = none) (hg : globB sc "len" = true := by decide +kernel) (ha : DE X H0 S0 a G (.tuple ds)) (he : starEach [a] X.env = (false, eval a X.env) :: starEach [] X.env := by rfl) (hpl : (backTo pos (starEach [] X.env)).any (·.1) = false := by rfl) :
    DE X H0 S0 (.Call (.Name "len" p1) [a] [] pos) G (.int (ds.length : Int)) :=
  de_cb hX call_len_seq hm hg PySem.boot_len (da_cons ha da_nil he) (fun S H vs Q r kk => by
    cases r with
    | cons r t =>
      cases t
      cases r with
      | tup h1 h2 h3 => exact ⟨_, _, rfl, .inr (.inl h2), kk _ (by rw [h3.len]; exact .int _)⟩) (by decide) (by decide) he hpl
theorem de_sum {a : Expr} {ns : List Int} (hX : XOk P w K mg base k N sc fa X) (hm : mg "sum" = none) (hg : globB sc "sum" = true := by decide +kernel) (ha : DLs X H0 S0 a G (ns.map PyData.int)) (he : starEach [a] X.env = (false, eval a X.env) :: starEach [] X.env := by rfl) (hpl : (backTo pos (starEach [] X.env)).any (·.1) = false := by rfl) :
    DE X H0 S0 (.Call (.Name "sum" p1) [a] [] pos) G (.int ns.sum) :=
  de_cl hX (cr_sum hX.calm) hm hg PyProof.Rows.boot_sum ha (fun S H p vs Q h r kk => ⟨p, ns, rfl, by rw [← r.ints]; exact h, kk _ (.int _)⟩) (by decide) (by decide) he hpl
theorem de_min {a : Expr} {ns : List Int} {m : Int} (hX : XOk P w K mg base k N sc fa X) (hm : mg "min" = none) (hg : globB sc "min" = true := by decide +kernel) (ha : DLs X H0 S0 a G (ns.map PyData.int)) (hi : m ∈ ns) (hl : ∀ y, y ∈ ns → m ≤ y) (he : starEach [a] X.env = (false, eval a X.env) :: starEach [] X.env := by rfl) (hpl : (backTo pos (starEach [] X.env)).any (·.1) = false := by rfl) :
    DE X H0 S0 (.Call (.Name "min" p1) [a] [] pos) G (.int m) :=
  de_cl hX (cr_min hX.calm) hm hg PyProof.Rows.boot_min ha (fun S H p vs Q h r kk => ⟨p, ns, rfl, by rw [← r.ints]; exact h, List.length_pos_of_mem hi, fun m' h1 h2 => by
    have e : m' = m := Int.le_antisymm (h2 m hi) (hl m' h1)
    rw [e]
    exact kk _ (.int _)⟩) (by decide) (by decide) he hpl
theorem do_list {a : Expr} {ds : List D} (hX : XOk P w K mg base k N sc fa X) (hm : mg "list" = none) (hg : globB sc "list" = true := by decide +kernel) (ha : DLs X H0 S0 a G ds) (he : starEach [a] X.env = (false, eval a X.env) :: starEach [] X.env := by rfl) (hpl : (backTo pos (starEach [] X.env)).any (·.1) = false := by rfl) :
    DO X H0 S0 (.Call (.Name "list" p1) [a] [] pos) G ds := fun S F q H E Q kk =>
  wE_of (pe_callTy call_list_of (hX.gl hg) (by rw [hX.emg]; exact hm) PyProof.Rows.boot_list (pa_cons pwE pa_nil he) (by decide) (by decide) he hpl) (ha S F q H E _ fun p vs H1 S1 g1 h1 r1 => ⟨p, vs, rfl, .inl h1, fun l hl =>
    kk l vs _ S1 (g1.trans (Grow.alloc0 hl)) (none_ext g1.ext hl) (fun z => (E.grow g1).slv l z hl) upd_same (r1.mono (fun _ z => z) fun a o _ e => by rw [upd_ne (ne_of_none e hl)]; exact e)⟩)
/-- isinstance of data -/
def tyD : D → String
  | .none => "NoneType"
  | .bool _ => "bool"
  | .int _ => "int"
  | .str _ => "str"
  | .list _ => "list"
  | .tuple _ => "tuple"
  | .dict _ => "dict"
def isiS (T t : String) : Bool := T == t || (T == "int" && t == "bool")
def isiB (T : String) (d : D) : Bool := isiS T (tyD d)
theorem kitS {T : String} (hT : T = "int" ∨ T = "bool" ∨ T = "list" ∨ T = "tuple" ∨ T = "str") : kitB "NoneType" T = some (isiS T "NoneType") ∧ kitB "bool" T = some (isiS T "bool") ∧ kitB "int" T = some (isiS T "int") ∧ kitB "str" T = some (isiS T "str") ∧
    kitB "list" T = some (isiS T "list") ∧ kitB "tuple" T = some (isiS T "tuple") := by
  rcases hT with rfl | rfl | rfl | rfl | rfl <;> exact ⟨by decide +kernel, by decide +kernel, by decide +kernel, by decide +kernel, by decide +kernel, by decide +kernel⟩
theorem rep_ty {K : PySem.W.Frag} {S : AS} {H : Hp} {v : V} {d : D} {T : String} (hT : T = "int" ∨ T = "bool" ∨ T = "list" ∨ T = "tuple" ∨ T = "str") (r : Rep S H v d) : ∃ t, TyX K H v t ∧ PySem.W.kitOne K t (.type T) = some (isiB T d) := by
  obtain ⟨h1, h2, h3, h4, h5, h6⟩ := kitS hT
  cases r with
  | non => exact ⟨_, .base .non, kit_ty h1⟩
  | bl b => exact ⟨_, .base (.bl b), kit_ty h2⟩
  | int i => exact ⟨_, .base (.int i), kit_ty h3⟩
  | str x => exact ⟨_, .base (.str x), kit_ty h4⟩
  | lst q1 q2 q3 =>
    rcases q2 with q2 | ⟨o, q2⟩
    · exact ⟨_, .base (.lst q2), kit_ty h5⟩
    · exact ⟨_, .base (.frz q2), kit_ty h5⟩
  | tup q1 q2 q3 =>
    rcases q2 with q2 | ⟨o, q2⟩
    · exact ⟨_, .base (.tup q2), kit_ty h6⟩
    · exact ⟨_, .fTuple q2, kit_ty h6⟩
theorem de_isi {a : Expr} {T : String} {x : Str} {d : D} (hX : XOk P w K mg base k N sc fa X) (hm : mg "isinstance" = none) (hg : globB sc "isinstance" = true := by decide +kernel) (hmT : mg x = none) (hgT : globB sc x = true := by decide +kernel) (hvT : bootBuiltins x = some (.type T)) (hT : T = "int" ∨ T = "bool" ∨ T = "list" ∨ T = "tuple" ∨ T = "str")
    (ha : DE X H0 S0 a G d) (hn : x ≠ "__name__" := by decide) (hdb : (x == ("__debug__" : Str)) = false := by decide)
    (hs : starEach [a, .Name x p2] X.env = (false, eval a X.env) :: starEach [.Name x p2] X.env := by rfl) (hs2 : starEach [.Name x p2] X.env = (false, eval (.Name x p2) X.env) :: starEach [] X.env := by rfl) (hpl : (backTo pos (starEach [.Name x p2] X.env)).any (·.1) = false := by rfl) :
    DE X H0 S0 (.Call (.Name "isinstance" p1) [a, .Name x p2] [] pos) G (.bool (isiB T d)) := fun S F q H E Q kk =>
  wE_of (pe_callB call_isi (hX.gl hg) (by rw [hX.emg]; exact hm) PyProof.Rows.boot_isinstance (pa_cons pwE (pa_cons (pe_bltn (v := .ty T) (hX.gl hgT) (by rw [hX.emg]; exact hmT) hvT rfl hn hdb) pa_nil hs2) hs) (by decide) (by decide) hs hpl)
    (ha S F q H E _ fun v H1 S1 g1 r1 => by
      obtain ⟨t, ht, hk⟩ := rep_ty (K := X.K) hT r1
      exact ⟨v, .ty T, t, .type T, _, rfl, .ty T, ht, hk, kk _ H1 S1 g1 (.bl _)⟩)
/-- isinstance(xs, list) of a list of one's own -/
theorem de_isil {a : Expr} {ds : List D} (hX : XOk P w K mg base k N sc fa X) (hm : mg "isinstance" = none) (hg : globB sc "isinstance" = true := by decide +kernel) (hmT : mg "list" = none) (hgT : globB sc "list" = true := by decide +kernel)
    (ha : DLs X H0 S0 a G ds)
    (hs : starEach [a, .Name "list" p2] X.env = (false, eval a X.env) :: starEach [.Name "list" p2] X.env := by rfl) (hs2 : starEach [.Name "list" p2] X.env = (false, eval (.Name "list" p2) X.env) :: starEach [] X.env := by rfl) (hpl : (backTo pos (starEach [.Name "list" p2] X.env)).any (·.1) = false := by rfl) :
    DE X H0 S0 (.Call (.Name "isinstance" p1) [a, .Name "list" p2] [] pos) G (.bool true) := fun S F q H E Q kk =>
  wE_of (pe_callB call_isi (hX.gl hg) (by rw [hX.emg]; exact hm) PyProof.Rows.boot_isinstance (pa_cons pwE (pa_cons (pe_bltn (v := .ty "list") (hX.gl hgT) (by rw [hX.emg]; exact hmT) PyProof.Rows.boot_list rfl (by decide) (by decide)) pa_nil hs2) hs) (by decide) (by decide) hs hpl)
    (ha S F q H E _ fun p vs H1 S1 g1 h1 r1 => by
      refine ⟨.ref p, .ty "list", .type "list", .type "list", true, rfl, .ty "list", ?_, kit_ty (by decide +kernel), kk _ H1 S1 g1 (.bl _)⟩
      rcases h1 with (h1 | ⟨o, h1⟩) | ⟨o, its, n, e1, e2, _⟩
      · exact .base (.lst h1)
      · exact .base (.frz h1)
      · exact .kList e1 e2)
/-- x in xs, x not in xs: flat things -/
def flatD : D → Bool
  | .none => true
  | .bool _ => true
  | .int _ => true
  | .str _ => true
  | _ => false
end

/-! ### stores with an operator -/
section
variable {P : Program} {w : World} {K : PySem.W.Frag} {mg : Str → Option Value} {base : Heap} {k : Nat} {N : List Str} {sc : Scope} {fa : Bool} {X : Cx} {H0 : Hp} {S0 : AS} {G G1 G2 : List Slot} {pos p1 p2 p3 : Pos}
inductive AugD : Operator → Int → Int → Int → Prop
  | add {i j : Int} : AugD .Add i j (i + j)
  | sub {i j : Int} : AugD .Sub i j (i - j)
def ipA (op : Operator) : TIp := fun x y H Q => ∃ i j z, x = .int i ∧ y = .int j ∧ AugD op i j z ∧ Q (.int z) H
theorem ip_aug (op : Operator) : PIp X op (ipA op) := by
  intro pins s q H x y v u Q I r1 r2 h
  obtain ⟨i, j, z, e1, e2, c, hq⟩ := h
  cases c with
  | add => exact ip_add pins s q H x y v u Q I r1 r2 ⟨i, j, e1, e2, hq⟩
  | sub => exact ip_sub pins s q H x y v u Q I r1 r2 ⟨i, j, e1, e2, hq⟩
theorem ds_aug (i : Nat) {op : Operator} {x : Str} {e : Expr} {rest : List Stmt} {a b z : Int} {P' : Out → Prop} (hX : XOk P w K mg base k N sc true X) (hN : N[i]? = some x := by rfl) (hv : locB sc x = true := by decide +kernel) (hi : G[i]? = some (.val (.int a)) := by rfl) (he : DE X H0 S0 e G (.int b)) (c : AugD op a b z) (h : DS X H0 S0 rest (G.set i (.val (.int z))) P') :
    DS X H0 S0 (.AugAssign (.Name x p1) op e pos :: rest) G P' := fun S F q H Dd E kk => by
  obtain ⟨o, h1, _, v, rfl, r⟩ := E.sl i _ hi
  cases r
  refine wSs_of (pss_cons (ps_aug (i := i) (by rw [hX.eN]; exact hX.nd) (by rw [hX.eN]; exact hN) (by rw [hX.es]; exact loc_of hv) pwE (ip_aug op) (.inl (hX.fn rfl x))) pwSs) ⟨_, h1, he S F q H E _ fun u H1 S1 g1 r1 => ?_⟩
  cases r1
  exact ⟨a, b, z, rfl, rfl, c, h S1 _ _ H1 Dd ((E.grow g1).putv (List.getElem?_eq_some_iff.mp hi).1 (.int z)) (kk.at_ g1.keep)⟩
/-- x[j] op= e -/
theorem ds_augix (i : Nat) {op : Operator} {x : Str} {e b : Expr} {rest : List Stmt} {ds : List D} {n u c z : Int} {j : Nat} {P' : Out → Prop} (hX : XOk P w K mg base k N sc fa X) (hN : N[i]? = some x := by rfl) (hv : visB sc x = true := by decide +kernel) (hi : G[i]? = some (.own ds) := by rfl) (hb : DE X H0 S0 b G (.int n)) (hj : ixN ds.length n = some j) (hu : ds[j]? = some (.int u))
    (he : DE X H0 S0 e G (.int c)) (hc : AugD op u c z) (h : DS X H0 S0 rest (G.set i (.own (ds.set j (.int z)))) P') (hd : (x == ("__debug__" : Str)) = false := by decide) (hcd : (x == ("__classdict__" : Str)) = false := by decide)
    (ha : ∀ ov iv new, augStore b ov iv new = (do holding [new, ov, iv] (setItem ov iv new); release [new, ov, iv] []; pure .next) := by intros; rfl) :
    DS X H0 S0 (.AugAssign (.Subscript (.Name x p1) b p2) op e pos :: rest) G P' := fun S F q H Dd E kk => by
  obtain ⟨p, vs, e1, hF, hp, r, hS⟩ := own_at E hi
  refine wSs_of (pss_cons (ps_augS (pe_var (X := X) (i := i) (by rw [hX.eN]; exact hN) (by rw [hX.es]; exact vis_of hv) hd hcd) pwE get_list pwE (ip_aug op) set_list ha) pwSs) ⟨_, e1, hb S F q H E _ fun w1 H1 S1 g1 r1 => ?_⟩
  cases r1
  obtain ⟨v, hv', rv⟩ := r.getD hu
  cases rv
  have E1 := E.grow g1
  refine ⟨p, vs, n, .int u, rfl, rfl, .inl (.inl (g1.ext _ _ hp)), atI_of (by rw [r.len]; exact hj) hv', he S1 F q H1 E1 _ fun w2 H2 S2 g2 r2 => ?_⟩
  cases r2
  have E2 := E1.grow g2
  have m1 := (E2.mu i _ hi rfl p hF).2.1
  refine ⟨u, c, z, rfl, rfl, hc, p, vs, n, j, rfl, rfl, g2.ext _ _ (g1.ext _ _ hp), by rw [r.len]; exact hj, ?_⟩
  exact h S2 F q _ Dd (E2.store hi e1 (Reps.set (.int z) j (r.keep (g1.trans g2).keep))) (kk.at_ ((g1.keep.trans g2.keep).trans (Keep.upd m1)))
end
end DL

namespace DL
open PySem PySem.Spec PyProof.Rows L2

/-! ### comprehensions -/
def wipeG (G : List Slot) : List Nat → List Slot
  | [] => G
  | v :: vs => (wipeG G vs).set v .junk
theorem wipeG_len (G : List Slot) : ∀ vs : List Nat, (wipeG G vs).length = G.length
  | [] => rfl
  | v :: vs => by unfold wipeG; rw [List.length_set, wipeG_len G vs]
theorem wipe_at (q : L2.St) (j : Nat) : ∀ vs : List Nat, (wipe q vs)[j]? = if j ∈ vs then (if j < q.length then some none else none) else q[j]?
  | [] => by simp [wipe]
  | v :: vs => by
    unfold wipe
    by_cases hj : v = j
    · subst hj
      rw [if_pos List.mem_cons_self]
      by_cases hl : v < q.length
      · rw [if_pos hl, List.getElem?_set_self (by rw [wipe_length]; exact hl)]
      · rw [if_neg hl]
        exact List.getElem?_eq_none (by rw [List.length_set, wipe_length]; omega)
    · rw [List.getElem?_set_ne hj, wipe_at q j vs]
      have e : (j ∈ v :: vs) = (j ∈ vs) := by
        rw [List.mem_cons]
        exact propext ⟨fun z => z.elim (fun z => absurd z.symm hj) id, .inr⟩
      simp only [e]
theorem wipe_eq {q q' : L2.St} {vs : List Nat} (hl : q'.length = q.length) (h : ∀ j, j ∉ vs → q'[j]? = q[j]?) : wipe q' vs = wipe q vs := by
  apply List.ext_getElem?
  intro j
  rw [wipe_at, wipe_at, hl]
  by_cases hj : j ∈ vs
  · rw [if_pos hj, if_pos hj]
  · rw [if_neg hj, if_neg hj, h j hj]
theorem wipe_wipe {q : L2.St} {vs : List Nat} : wipe (wipe q vs) vs = wipe q vs := wipe_eq (wipe_length q vs) fun j hj => by rw [wipe_at, if_neg hj]
section
variable {P : Program} {w : World} {K : PySem.W.Frag} {mg : Str → Option Value} {base : Heap} {k : Nat} {N : List Str} {sc : Scope} {fa : Bool} {X : Cx} {H0 : Hp} {S0 : AS} {G G1 G2 : List Slot} {pos p1 p2 p3 : Pos}
theorem EnvOk.wiped {S : AS} {F : Nat → AS} {q : L2.St} {H : Hp} (E : EnvOk H0 S0 G S F q H) : ∀ vs : List Nat, (∀ v ∈ vs, v < G.length) → ∃ F', EnvOk H0 S0 (wipeG G vs) S F' (wipe q vs) H ∧ ∀ j a, F' j a → F j a
  | [], _ => ⟨F, E, fun _ _ h => h⟩
  | v :: vs, h => by
    obtain ⟨F1, E1, s1⟩ := EnvOk.wiped E vs fun u hu => h u (List.mem_cons_of_mem _ hu)
    refine ⟨_, E1.putj (by rw [wipeG_len]; exact h v List.mem_cons_self) none, fun j a ha => ?_⟩
    by_cases z : j = v
    · rw [if_pos z] at ha; exact ha.elim
    · rw [if_neg z] at ha; exact s1 j a ha
/-- the tests of a clause -/
def wTs (X : Cx) (ifs : List Expr) : TT := fun q H Q => ∀ pins s, Inv X pins q H s → wpAny (model X.prog X.w) X.A (forIn ifs true fun c r => if r = true then do let ok ← isTrue c X.env (eval c X.env); pure (ForInStep.yield ok) else pure (ForInStep.yield r)) (TP X pins q Q) X.xe s
def DTs (X : Cx) (H0 : Hp) (S0 : AS) (ifs : List Expr) (G : List Slot) (b : Bool) : Prop := ∀ S F q H, EnvOk H0 S0 G S F q H → ∀ Q : Bool → Hp → Prop, (∀ H' S', Grow S H S' H' → Q b H') → wTs X ifs q H Q
theorem pwTs {ifs : List Expr} : PTs X ifs (wTs X ifs) := ⟨fun pins s _ _ _ I h => h pins s I⟩
theorem wTs_of {ifs : List Expr} {t : TT} {q : L2.St} {H : Hp} {Q : Bool → Hp → Prop} (h : PTs X ifs t) (kk : t q H Q) : wTs X ifs q H Q := fun pins s I => h.run pins s q H Q I kk
theorem dts_nil : DTs X H0 S0 [] G true := fun S F q H E Q kk => wTs_of pts_nil (kk H S (Grow.refl S H))
theorem dts_one {c : Expr} {b : Bool} (h : DT X H0 S0 c G b) : DTs X H0 S0 [c] G b := fun S F q H E Q kk => wTs_of (pts_one pwT) (h S F q H E Q kk)

abbrev blkX (X : Cx) (s : Shared) (Hh : Hp) (scope : Scope) (cl : List (Str × Addr)) (C : Addr) (fp : List Addr) : Cx := X.blk s Hh scope (compEnvC scope cl C X.env) fp
theorem XOk.blk (hX : XOk P w K mg base k N sc fa X) (s : Shared) (Hh : Hp) (scope : Scope) (cl : List (Str × Addr)) (C : Addr) (fp : List Addr) : XOk P w K mg base k N (relS scope sc) false (blkX X s Hh scope cl C fp) :=
  ⟨hX.eP, hX.ew, hX.eK, hX.emg, hX.eb, hX.eN, by
    have e : (blkX X s Hh scope cl C fp).env.scope = relS scope X.env.scope := rfl
    rw [e, hX.es], hX.nd, hX.calm, hX.room, (fun z => by cases z), PassesOwn.never⟩
def gB (X : Cx) (scope : Scope) (tg : Expr) : TG := fun v q H Q => ∀ s Hh cl C fp, wG (blkX X s Hh scope cl C fp) tg v q H Q
def tB' (X : Cx) (scope : Scope) (ifs : List Expr) : TT := fun q H Q => ∀ s Hh cl C fp, wTs (blkX X s Hh scope cl C fp) ifs q H Q
def eB (X : Cx) (scope : Scope) (e : Expr) : TE := fun q H Q => ∀ s Hh cl C fp, wE (blkX X s Hh scope cl C fp) e q H Q

theorem blt_all {G : List Slot} {js : List Nat} (hj : (js.all fun v => Nat.blt v G.length) = true) : ∀ v ∈ js, v < G.length := fun v hv => by
  have := List.all_eq_true.mp hj v hv
  exact Nat.lt_of_lt_of_le (Nat.lt_succ_self v) (Nat.le_of_ble_eq_true this)
/-- [elt for tg in it if ..]: xs the things walked, p which of them are taken, g what they give -/
structure Comp (P : Program) (w : World) (K : PySem.W.Frag) (mg : Str → Option Value) (base : Heap) (k : Nat) (N : List Str) (sc : Scope) (H0 : Hp) (S0 : AS) (G : List Slot) (elt tg : Expr) (ifs : List Expr) (scope : Scope) (vs : List Nat) {T : Type} (enc : T → D) (xs : List T) (p : T → Bool) (g : T → D) : Prop where
  turn : ∀ x ∈ xs, ∃ G2 t, (∀ X', XOk P w K mg base k N (relS scope sc) false X' → DG X' H0 S0 tg (enc x) (wipeG G vs) G2 t) ∧ (∀ j ∈ t, j ∈ vs) ∧ (∀ X', XOk P w K mg base k N (relS scope sc) false X' → DTs X' H0 S0 ifs G2 (p x)) ∧
    (p x = true → ∀ X', XOk P w K mg base k N (relS scope sc) false X' → DE X' H0 S0 elt G2 (g x))
theorem comp_core (hX : XOk P w K mg base k N sc fa X) {elt tg : Expr} {ifs : List Expr} {scope : Scope} {vs : List Nat} {T : Type} {enc : T → D} {xs : List T} {p : T → Bool} {g : T → D} {wi : TI} (hsz : xs.length ≤ 16777216) (hvs : ∀ v ∈ vs, v < G.length)
    (hwi : ∀ S F q H, EnvOk H0 S0 G S F q H → ∀ R : It → Hp → Prop,
      (∀ (J : It) H' S', Grow S H S' H' → (∀ (i : Nat) (S2 : AS) (H2 : Hp) (d : D), Keep S' H' S2 H2 → (∀ a o, H0 a = some o → H2 a = some o) → (xs.map enc)[i]? = some d → J.go i H2 ∧ ∀ x H3, J.yld i H2 x H3 → ∃ S3, Grow S2 H2 S3 H3 ∧ Rep S3 H3 x d) →
        (∀ (i : Nat) (S2 : AS) (H2 : Hp), Keep S' H' S2 H2 → (∀ a o, H0 a = some o → H2 a = some o) → (xs.map enc).length ≤ i → J.stop i H2) → R J H') → wi q H R)
    (hC : Comp P w K mg base k N sc H0 S0 G elt tg ifs scope vs enc xs p g) : ∀ S F q H, EnvOk H0 S0 G S F q H → ∀ Q : VK, (∀ p' ws H' S', Grow S H S' H' → H p' = none → ¬ S' p' → H' p' = some (.lst ws) → Reps S' H' ws ((xs.filter p).map g) → Q (.ref p') H') →
      tLc wi (gB X scope tg) (tB' X scope ifs) (eB X scope elt) vs q H Q := by
  intro S F q H E Q kk
  refine hwi S F q H E _ fun J H1 S1 g1 hgo hstop Dn hD => ?_
  have E1 := E.grow g1
  obtain ⟨Fw, Ew, sw⟩ := E1.wiped vs hvs
  have n0 : H0 Dn = none := none_ext E1.ext hD
  have nF : ∀ j, ¬ Fw j Dn := fun j z => E1.flv j Dn (sw j Dn z) hD
  have nS : ¬ S1 Dn := fun z => E1.slv Dn z hD
  let St : Nat → Hp → Prop := fun i H' => ∃ S' acc, EnvOk H0 S0 (wipeG G vs) S' Fw (wipe q vs) H' ∧ Grow S1 H1 S' H' ∧ ¬ S' Dn ∧ H' Dn = some (.lst acc) ∧ Reps S' H' acc (((xs.take i).filter p).map g)
  refine ⟨fun i m H' => m = xs.length - i ∧ i ≤ xs.length ∧ St i H', ⟨xs.length, by simp, Nat.zero_le _, S1, [], Ew.other n0 nS nF, Grow.alloc0 hD, nS, upd_same, .nil⟩, ?_⟩
  rintro i m Hi ⟨rfl, hi, Si, acc, Ei, gi, nSi, hDi, ri⟩
  have sz : acc.length ≤ i := by
    rw [ri.len, List.length_map]
    exact Nat.le_trans (List.length_filter_le _ _) (by rw [List.length_take]; exact Nat.min_le_left _ _)
  by_cases hlt : i < xs.length
  · have hx : xs[i]? = some xs[i] := List.getElem?_eq_getElem hlt
    have hd : (xs.map enc)[i]? = some (enc xs[i]) := by rw [List.getElem?_map, hx]; rfl
    obtain ⟨go1, go2⟩ := hgo i Si Hi _ gi.keep Ei.ext hd
    refine .inr ⟨go1, St (i + 1), fun H' h => ⟨xs.length - (i + 1), by omega, rfl, hlt, h⟩, fun x' H3 hy => ?_⟩
    obtain ⟨S3, g3, r3⟩ := go2 x' H3 hy
    obtain ⟨G2, t, hG, ht, hT, hE⟩ := hC.turn xs[i] (List.getElem_mem hlt)
    have etk : xs.take (i + 1) = xs.take i ++ [xs[i]] := by rw [List.take_succ, hx]; rfl
    intro s Hh cl C fp
    refine hG _ (hX.blk s Hh scope cl C fp) S3 Fw _ H3 (Ei.grow g3) x' r3 _ fun F' q' E' a' => ⟨?_, ?_⟩
    · rw [wipe_eq (q := wipe q vs) a'.1 fun j hj => a'.2 j fun z => hj (ht j z), wipe_wipe]
    · intro s Hh cl C fp
      refine hT _ (hX.blk s Hh scope cl C fp) S3 F' q' H3 E' _ fun H4 S4 g4 => ?_
      have last : ∀ {S5 : AS} {H5 : Hp} {v : V}, Grow S4 H4 S5 H5 → p xs[i] = true → Rep S5 H5 v (g xs[i]) → St (i + 1) (upd H5 Dn (.lst (acc ++ [v]))) := fun {S5 H5 v} g5 hp rv => by
        have gg := (g3.trans g4).trans g5
        have n5 : ¬ S5 Dn := fun z => (gg.new Dn z).elim nSi fun z => by rw [hDi] at z; cases z
        have g6 := gi.trans gg
        refine ⟨S5, _, (Ei.grow gg).other n0 n5 nF, ⟨fun a o h => ?_, g6.sub, g6.new, fun a z => ?_⟩, n5, upd_same, ?_⟩
        · rw [upd_ne (ne_of_none h hD)]; exact g6.ext a o h
        · refine (g6.lv a z).imp id fun y => ?_
          by_cases za : a = Dn
          · rw [za, upd_same]; exact Option.some_ne_none _
          · rw [upd_ne za]; exact y
        · rw [etk, List.filter_append, List.map_append, List.filter_cons, if_pos hp]
          exact ((ri.keep gg.keep).append (.cons rv .nil)).keep (Keep.upd n5)
      cases hp : p xs[i] with
      | true =>
        refine iteT fun s Hh cl C fp => hE hp _ (hX.blk s Hh scope cl C fp) S4 F' q' H4 (E'.grow g4) _ fun y H5 S5 g5 r5 => ⟨acc, ?_, ?_, last g5 hp r5⟩
        · exact g5.ext _ _ (g4.ext _ _ (g3.ext _ _ hDi))
        · rw [sizeLine_eq]; omega
      | false =>
        refine iteF ?_
        have gg := g3.trans g4
        have n5 : ¬ S4 Dn := fun z => (gg.new Dn z).elim nSi fun z => by rw [hDi] at z; cases z
        refine ⟨S4, acc, Ei.grow gg, gi.trans gg, n5, gg.ext _ _ hDi, ?_⟩
        rw [etk, List.filter_append, List.map_append, List.filter_cons, if_neg (by rw [hp]; decide)]
        show Reps S4 H4 acc (_ ++ [])
        rw [List.append_nil]
        exact ri.keep gg.keep
  · have e : i = xs.length := by omega
    subst e
    rw [List.take_length] at ri
    exact .inl ⟨hstop _ Si Hi gi.keep Ei.ext (by rw [List.length_map]; exact Nat.le_refl _), kk Dn acc Hi Si (g1.trans gi) (none_ext g1.ext hD) nSi hDi ri⟩
theorem do_comp (hX : XOk P w K mg base k N sc fa X) {elt tg it : Expr} {ifs : List Expr} {scope : Scope} (own : List (Str × Nat)) {T : Type} {enc : T → D} {xs : List T} {p : T → Bool} {g : T → D} (hit : DI X H0 S0 tg it G (xs.map enc)) (hsz : xs.length ≤ 16777216) (hvs : ((own.map (·.2)).all fun v => Nat.blt v G.length) = true := by rfl)
    (hb : blkC N sc scope own = true := by decide +kernel) (hC : Comp P w K mg base k N sc H0 S0 G elt tg ifs scope (own.map (·.2)) enc xs p g) (hs : ∀ x, foldedSetIterable it X.env x = pure x := by intro _; rfl) :
    DO X H0 S0 (.ListComp elt [⟨tg, it, ifs, 0⟩] scope pos) G ((xs.filter p).map g) := fun S F q H E Q kk => by
  obtain ⟨wi, hpi, hwi⟩ := hit
  refine wE_of (pe_lc (own := own) hX.calm (by rw [hX.eN]; exact hX.nd) hpi (by rw [hX.eN, hX.es]; exact blkOk_by hb) (g := gB X scope tg) (tt := tB' X scope ifs) (te := eB X scope elt) ?_ ?_ ?_ hs) (comp_core hX hsz (blt_all hvs) hwi hC S F q H E Q kk)
  · exact fun s Hh C cl fp => ⟨fun pins s2 q2 H2 v u Q2 I r h => h s Hh cl C fp pins s2 u I r⟩
  · exact fun s Hh C cl fp => ⟨fun pins s2 q2 H2 Q2 I h => h s Hh cl C fp pins s2 I⟩
  · exact fun s Hh C cl fp => ⟨fun pins s2 q2 H2 Q2 I h => h s Hh cl C fp pins s2 I⟩
/-- y = [..], y a plain name -/
theorem ds_setC (i : Nat) {y : Str} {rest : List Stmt} {P' : Out → Prop} (hX : XOk P w K mg base k N sc true X) {elt tg it : Expr} {ifs : List Expr} {scope : Scope} (own : List (Str × Nat)) {T : Type} {enc : T → D} {xs : List T} {p : T → Bool} {g : T → D} (hN : N[i]? = some y := by rfl) (hv : ownB sc y = true := by decide +kernel) (hi : i < G.length := by exact Nat.le_of_ble_eq_true rfl)
    (hit : DI X H0 S0 tg it G (xs.map enc)) (hsz : xs.length ≤ 16777216) (hvs : ((own.map (·.2)).all fun v => Nat.blt v G.length) = true := by rfl)
    (hb : blkC N sc scope own = true := by decide +kernel) (hsk : sc.kind = .function := by rfl) (hl : (p1.line == p2.line) = true := by rfl) (ha : (scope.names.any fun (n, k) => n == y && (k == .local || k == .cell)) = false := by decide +kernel) (hC : Comp P w K mg base k N sc H0 S0 G elt tg ifs scope (own.map (·.2)) enc xs p g)
    (h : DS X H0 S0 rest (G.set i (.own ((xs.filter p).map g))) P') (hs : ∀ x, foldedSetIterable it X.env x = pure x := by intro _; rfl) :
    DS X H0 S0 (.Assign [.Name y p1] (.ListComp elt [⟨tg, it, ifs, 0⟩] scope p2) pos :: rest) G P' := fun S F q H Dd E kk => by
  obtain ⟨wi, hpi, hwi⟩ := hit
  refine wSs_of (pss_cons (ps_setLc (i := i) (own := own) hX.calm (by rw [hX.eN]; exact hX.nd) (by rw [hX.eN]; exact hN) (by rw [hX.es]; exact own_of hv) (sw_true (by rw [hX.es]; exact hsk) (by rw [hX.es]; exact own_of hv) hl ha) hpi (by rw [hX.eN, hX.es]; exact blkOk_by hb) (g := gB X scope tg) (tt := tB' X scope ifs) (te := eB X scope elt) ?_ ?_ ?_ hs) pwSs)
    (comp_core hX hsz (blt_all hvs) hwi hC S F q H E (fun v H2 => wSs X rest Dd (q.set i (some v)) H2) fun p' ws H1 S1 g1 hn hS hp r1 => h S1 _ _ H1 Dd ((E.grow g1).puto hi hp r1 (none_ext E.ext hn) hS fun j z => E.flv j p' z hn) (kk.at_ g1.keep))
  · exact fun s Hh C cl fp => ⟨fun pins s2 q2 H2 v u Q2 I r h => h s Hh cl C fp pins s2 u I r⟩
  · exact fun s Hh C cl fp => ⟨fun pins s2 q2 H2 Q2 I h => h s Hh cl C fp pins s2 I⟩
  · exact fun s Hh C cl fp => ⟨fun pins s2 q2 H2 Q2 I h => h s Hh cl C fp pins s2 I⟩
end
end DL

namespace DL
open PySem PySem.Spec PyProof.Rows L2

/-! ### the same of things of one kind -/
section
variable {P : Program} {w : World} {K : PySem.W.Frag} {mg : Str → Option Value} {base : Heap} {k : Nat} {N : List Str} {sc : Scope} {fa : Bool} {X : Cx} {H0 : Hp} {S0 : AS} {G G1 G2 : List Slot} {pos p1 p2 p3 : Pos}
theorem DO.cast {e : Expr} {xs ys : List D} (h : DO X H0 S0 e G xs) (q : xs = ys) : DO X H0 S0 e G ys := q ▸ h
theorem DE.cast {e : Expr} {x y : D} (h : DE X H0 S0 e G x) (q : x = y) : DE X H0 S0 e G y := q ▸ h
theorem DI.cast {tg e : Expr} {x y : List D} (h : DI X H0 S0 tg e G x) (q : x = y) : DI X H0 S0 tg e G y := q ▸ h
theorem DS.env {ss : List Stmt} {G' : List Slot} {P' : Out → Prop} (h : DS X H0 S0 ss G' P') (q : G = G') : DS X H0 S0 ss G P' := q ▸ h
/-- [g for x in xs] -/
theorem do_map (hX : XOk P w K mg base k N sc fa X) {elt tg it : Expr} {scope : Scope} (own : List (Str × Nat)) {T T2 : Type} {enc : T → D} {xs : List T} (enc2 : T2 → D) (g : T → T2) (hit : DI X H0 S0 tg it G (xs.map enc)) (hsz : xs.length ≤ 16777216)
    (turn : ∀ x ∈ xs, ∃ G2 t, (∀ X', XOk P w K mg base k N (relS scope sc) false X' → DG X' H0 S0 tg (enc x) (wipeG G (own.map (·.2))) G2 t) ∧ (∀ j ∈ t, j ∈ own.map (·.2)) ∧ (∀ X', XOk P w K mg base k N (relS scope sc) false X' → DE X' H0 S0 elt G2 (enc2 (g x))))
    (hvs : ((own.map (·.2)).all fun v => Nat.blt v G.length) = true := by rfl) (hb : blkC N sc scope own = true := by decide +kernel) (hs : ∀ x, foldedSetIterable it X.env x = pure x := by intro _; rfl) :
    DO X H0 S0 (.ListComp elt [⟨tg, it, [], 0⟩] scope pos) G ((xs.map g).map enc2) :=
  (do_comp hX own (p := fun _ => true) (g := fun x => enc2 (g x)) hit hsz hvs hb ⟨fun x hx => by
    obtain ⟨G2, t, h1, h2, h3⟩ := turn x hx
    exact ⟨G2, t, h1, h2, fun X' hX' => dts_nil, fun _ X' hX' => h3 X' hX'⟩⟩ hs).cast (by rw [List.filter_eq_self.mpr (fun _ _ => rfl), List.map_map]; rfl)
/-- [g for x in xs if p] -/
theorem do_filt (hX : XOk P w K mg base k N sc fa X) {elt tg it c : Expr} {scope : Scope} (own : List (Str × Nat)) {T T2 : Type} {enc : T → D} {xs : List T} (enc2 : T2 → D) (p : T → Bool) (g : T → T2) (hit : DI X H0 S0 tg it G (xs.map enc)) (hsz : xs.length ≤ 16777216)
    (turn : ∀ x ∈ xs, ∃ G2 t, (∀ X', XOk P w K mg base k N (relS scope sc) false X' → DG X' H0 S0 tg (enc x) (wipeG G (own.map (·.2))) G2 t) ∧ (∀ j ∈ t, j ∈ own.map (·.2)) ∧ (∀ X', XOk P w K mg base k N (relS scope sc) false X' → DT X' H0 S0 c G2 (p x)) ∧
      (p x = true → ∀ X', XOk P w K mg base k N (relS scope sc) false X' → DE X' H0 S0 elt G2 (enc2 (g x))))
    (hvs : ((own.map (·.2)).all fun v => Nat.blt v G.length) = true := by rfl) (hb : blkC N sc scope own = true := by decide +kernel) (hs : ∀ x, foldedSetIterable it X.env x = pure x := by intro _; rfl) :
    DO X H0 S0 (.ListComp elt [⟨tg, it, [c], 0⟩] scope pos) G (((xs.filter p).map g).map enc2) :=
  (do_comp hX own (p := p) (g := fun x => enc2 (g x)) hit hsz hvs hb ⟨fun x hx => by
    obtain ⟨G2, t, h1, h2, h3, h4⟩ := turn x hx
    exact ⟨G2, t, h1, h2, fun X' hX' => dts_one (h3 X' hX'), h4⟩⟩ hs).cast (by rw [List.map_map]; rfl)
theorem ds_setM (i : Nat) {y : Str} {rest : List Stmt} {P' : Out → Prop} (hX : XOk P w K mg base k N sc true X) {elt tg it : Expr} {scope : Scope} (own : List (Str × Nat)) {T T2 : Type} {enc : T → D} {xs : List T} (enc2 : T2 → D) (g : T → T2)
    (hit : DI X H0 S0 tg it G (xs.map enc)) (hsz : xs.length ≤ 16777216)
    (turn : ∀ x ∈ xs, ∃ G2 t, (∀ X', XOk P w K mg base k N (relS scope sc) false X' → DG X' H0 S0 tg (enc x) (wipeG G (own.map (·.2))) G2 t) ∧ (∀ j ∈ t, j ∈ own.map (·.2)) ∧ (∀ X', XOk P w K mg base k N (relS scope sc) false X' → DE X' H0 S0 elt G2 (enc2 (g x))))
    (h : DS X H0 S0 rest (G.set i (.own ((xs.map g).map enc2))) P') (hN : N[i]? = some y := by rfl) (hv : ownB sc y = true := by decide +kernel) (hi : i < G.length := by exact Nat.le_of_ble_eq_true rfl)
    (hvs : ((own.map (·.2)).all fun v => Nat.blt v G.length) = true := by rfl) (hb : blkC N sc scope own = true := by decide +kernel) (hsk : sc.kind = .function := by rfl) (hl : (p1.line == p2.line) = true := by rfl) (ha : (scope.names.any fun (n, k) => n == y && (k == .local || k == .cell)) = false := by decide +kernel) (hs : ∀ x, foldedSetIterable it X.env x = pure x := by intro _; rfl) :
    DS X H0 S0 (.Assign [.Name y p1] (.ListComp elt [⟨tg, it, [], 0⟩] scope p2) pos :: rest) G P' := by
  have e : (xs.map g).map enc2 = (xs.filter fun _ => true).map fun x => enc2 (g x) := by rw [List.filter_eq_self.mpr (fun _ _ => rfl), List.map_map]; rfl
  rw [e] at h
  exact ds_setC i hX own (p := fun _ => true) (g := fun x => enc2 (g x)) hN hv hi hit hsz hvs hb hsk hl ha ⟨fun x hx => by
    obtain ⟨G2, t, h1, h2, h3⟩ := turn x hx
    exact ⟨G2, t, h1, h2, fun X' hX' => dts_nil, fun _ X' hX' => h3 X' hX'⟩⟩ h hs
theorem ds_setF (i : Nat) {y : Str} {rest : List Stmt} {P' : Out → Prop} (hX : XOk P w K mg base k N sc true X) {elt tg it c : Expr} {scope : Scope} (own : List (Str × Nat)) {T T2 : Type} {enc : T → D} {xs : List T} (enc2 : T2 → D) (p : T → Bool) (g : T → T2)
    (hit : DI X H0 S0 tg it G (xs.map enc)) (hsz : xs.length ≤ 16777216)
    (turn : ∀ x ∈ xs, ∃ G2 t, (∀ X', XOk P w K mg base k N (relS scope sc) false X' → DG X' H0 S0 tg (enc x) (wipeG G (own.map (·.2))) G2 t) ∧ (∀ j ∈ t, j ∈ own.map (·.2)) ∧ (∀ X', XOk P w K mg base k N (relS scope sc) false X' → DT X' H0 S0 c G2 (p x)) ∧
      (p x = true → ∀ X', XOk P w K mg base k N (relS scope sc) false X' → DE X' H0 S0 elt G2 (enc2 (g x))))
    (h : DS X H0 S0 rest (G.set i (.own (((xs.filter p).map g).map enc2))) P') (hN : N[i]? = some y := by rfl) (hv : ownB sc y = true := by decide +kernel) (hi : i < G.length := by exact Nat.le_of_ble_eq_true rfl)
    (hvs : ((own.map (·.2)).all fun v => Nat.blt v G.length) = true := by rfl) (hb : blkC N sc scope own = true := by decide +kernel) (hsk : sc.kind = .function := by rfl) (hl : (p1.line == p2.line) = true := by rfl) (ha : (scope.names.any fun (n, k) => n == y && (k == .local || k == .cell)) = false := by decide +kernel) (hs : ∀ x, foldedSetIterable it X.env x = pure x := by intro _; rfl) :
    DS X H0 S0 (.Assign [.Name y p1] (.ListComp elt [⟨tg, it, [c], 0⟩] scope p2) pos :: rest) G P' := by
  have e : ((xs.filter p).map g).map enc2 = (xs.filter p).map fun x => enc2 (g x) := by rw [List.map_map]; rfl
  rw [e] at h
  exact ds_setC i hX own (p := p) (g := fun x => enc2 (g x)) hN hv hi hit hsz hvs hb hsk hl ha ⟨fun x hx => by
    obtain ⟨G2, t, h1, h2, h3, h4⟩ := turn x hx
    exact ⟨G2, t, h1, h2, fun X' hX' => dts_one (h3 X' hX'), h4⟩⟩ h hs
def cutL {T : Type} (xs : List T) (lo hi : Option Int) : List T := (xs.drop (HT.sIx xs.length 0 lo)).take (HT.sIx xs.length xs.length hi - HT.sIx xs.length 0 lo)
theorem cut_map {T : Type} (enc : T → D) (xs : List T) (lo hi : Option Int) : cutD (xs.map enc) lo hi = (cutL xs lo hi).map enc := by
  unfold cutD cutL
  rw [List.length_map, List.map_take, List.map_drop]
theorem do_sliceE {a : Expr} {lo hi : Option Expr} {l u : Option Int} {T : Type} {enc : T → D} {xs : List T} (ha : DLs X H0 S0 a G (xs.map enc)) (hl : DPo X H0 S0 lo G l) (hu : DPo X H0 S0 hi G u) : DO X H0 S0 (.Subscript a (.Slice lo hi none p2) pos) G ((cutL xs l u).map enc) :=
  (do_slice ha hl hu).cast (cut_map enc xs l u)
theorem do_catE {a b : Expr} {T : Type} {enc : T → D} {xs ys : List T} (ha : DLr X H0 S0 a G (xs.map enc)) (hb : DLr X H0 S0 b G (ys.map enc)) (hz : xs.length + ys.length ≤ 16777216) : DO X H0 S0 (.BinOp a .Add b pos) G ((xs ++ ys).map enc) :=
  (do_cat ha hb (by rw [List.length_map, List.length_map]; exact hz)).cast List.map_append.symm
theorem ds_appendE (i : Nat) (hX : XOk P w K mg base k N sc fa X) {x : Str} {e : Expr} {rest : List Stmt} {T : Type} (enc : T → D) {xs : List T} (y : T) {P' : Out → Prop} {apos : Pos} (hi : G[i]? = some (.own (xs.map enc)) := by rfl) (he : DE X H0 S0 e G (enc y)) (hz : xs.length < 16777216)
    (h : DS X H0 S0 rest (G.set i (.own ((xs ++ [y]).map enc))) P') (hN : N[i]? = some x := by rfl) (hv : visB sc x = true := by decide +kernel) (hd : (x == ("__debug__" : Str)) = false := by decide) (hcd : (x == ("__classdict__" : Str)) = false := by decide)
    (hbase : attributeBase (.Name x p1) "append" X.env (eval (.Name x p1) X.env) = eval (.Name x p1) X.env := by rfl)
    (hfew : ((backTo p2 (starEach [e] X.env)).all (fun x => !x.1) && (backToKw p2 (keywordEach [] X.env)).all (fun x => x.1.isSome)
      && decide ([e].length + ([] : List Keyword).length + (if ([] : List Keyword).isEmpty then 0 else 1) < 30)) = true := by rfl)
    (hline : (apos.endLine == p2.line) = true := by rfl) (hs : starEach [e] X.env = (false, eval e X.env) :: starEach [] X.env := by rfl) (hplain : (backTo p2 (starEach [] X.env)).any (·.1) = false := by rfl)
    (hsw : swapsWith (.Call (.Attribute (.Name x p1) "append" apos) [e] [] p2) none pos.line X.env = pure false := by rfl) :
    DS X H0 S0 (.Expr (.Call (.Attribute (.Name x p1) "append" apos) [e] [] p2) pos :: rest) G P' :=
  ds_append i hX hN hv hi he (by rw [List.length_map]; exact hz) (by rw [List.map_append] at h; exact h) hd hcd hbase hfew hline hs hplain hsw
theorem ixN_nat {n : Nat} {i : Int} (h0 : 0 ≤ i) (h : i < n) : ixN n i = some i.toNat := by
  unfold ixN
  rw [if_pos h0, if_pos h]
theorem ixN_last {n : Nat} (h : 0 < n) : ixN n (-1) = some (n - 1) := by
  unfold ixN
  rw [if_neg (by decide), if_pos (by omega)]
  congr 1
  omega
/-- an item at a known place -/
theorem at_E {T : Type} (enc : T → D) {xs : List T} {i : Int} (h0 : 0 ≤ i) (h : i < xs.length) (d : T) : atI (xs.map enc) i = some (enc (xs.getD i.toNat d)) := by
  refine at_enc enc h0 ?_
  have hl : i.toNat < xs.length := by omega
  rw [List.getElem?_eq_getElem hl, List.getD_eq_getElem?_getD, List.getElem?_eq_getElem hl]
  rfl
theorem at_L {T : Type} (enc : T → D) {xs : List T} (h : xs ≠ []) (d : T) : atI (xs.map enc) (-1) = some (enc (xs.getLastD d)) := by
  have hl : 0 < xs.length := List.length_pos_iff.mpr h
  refine atI_of (ixN_last (by rw [List.length_map]; exact hl)) ?_
  rw [List.length_map, List.getElem?_map]
  cases xs with
  | nil => exact absurd rfl h
  | cons a r =>
    rw [List.getElem?_eq_getElem (by simp), List.getLastD_cons, ← List.getLast_eq_getLastD (by simp), List.getLast_eq_getElem]
    rfl
theorem ds_setixE (i : Nat) (hX : XOk P w K mg base k N sc fa X) {x : Str} {e b : Expr} {rest : List Stmt} {T : Type} (enc : T → D) {xs : List T} (y : T) {n : Int} {P' : Out → Prop} (hi : G[i]? = some (.own (xs.map enc)) := by rfl) (he : DE X H0 S0 e G (enc y)) (hb : DE X H0 S0 b G (.int n)) (h0 : 0 ≤ n) (hl : n < xs.length)
    (h : DS X H0 S0 rest (G.set i (.own ((xs.set n.toNat y).map enc))) P') (hN : N[i]? = some x := by rfl) (hv : visB sc x = true := by decide +kernel) (hd : (x == ("__debug__" : Str)) = false := by decide) (hcd : (x == ("__classdict__" : Str)) = false := by decide)
    (ha : ∀ v, assign (.Subscript (.Name x p1) b p2) X.env v = (do
      let ov ← holding [v] (eval (.Name x p1) X.env)
      let iv ← holding [v, ov] (eval b X.env)
      standAt p2
      holding [v, ov, iv] (setItem ov iv v)
      release [v, ov, iv] []) := by intro _; rfl)
    (hs : swapsWithSole [.Subscript (.Name x p1) b p2] e pos.line X.env = pure false := by rfl) (hw : swappedStores [.Subscript (.Name x p1) b p2] e X.env = pure none := by rfl) (h1 : (assignEach [.Subscript (.Name x p1) b p2] X.env).map (·.2) = [assign (.Subscript (.Name x p1) b p2) X.env] := by rfl) :
    DS X H0 S0 (.Assign [.Subscript (.Name x p1) b p2] e pos :: rest) G P' :=
  ds_setix i hX hN hv hi he hb (ixN_nat h0 (by rw [List.length_map]; exact hl)) (by rw [List.map_set] at h; exact h) hd hcd ha hs hw h1
/-- xs[n] op= e of a list of whole numbers -/
theorem ds_augixI (i : Nat) (hX : XOk P w K mg base k N sc fa X) {op : Operator} {x : Str} {e b : Expr} {rest : List Stmt} {xs : List Int} {n c z : Int} {P' : Out → Prop} (hi : G[i]? = some (.own (xs.map PyData.int)) := by rfl) (hb : DE X H0 S0 b G (.int n)) (h0 : 0 ≤ n) (hl : n < xs.length) (he : DE X H0 S0 e G (.int c)) (hc : AugD op (xs.getD n.toNat 0) c z)
    (h : DS X H0 S0 rest (G.set i (.own ((xs.set n.toNat z).map PyData.int))) P') (hN : N[i]? = some x := by rfl) (hv : visB sc x = true := by decide +kernel) (hd : (x == ("__debug__" : Str)) = false := by decide) (hcd : (x == ("__classdict__" : Str)) = false := by decide)
    (ha : ∀ ov iv new, augStore b ov iv new = (do holding [new, ov, iv] (setItem ov iv new); release [new, ov, iv] []; pure .next) := by intros; rfl) :
    DS X H0 S0 (.AugAssign (.Subscript (.Name x p1) b p2) op e pos :: rest) G P' :=
  ds_augix i hX hN hv hi hb (ixN_nat h0 (by rw [List.length_map]; exact hl)) (by
    have hl' : n.toNat < xs.length := by omega
    rw [List.getElem?_map, List.getElem?_eq_getElem hl', List.getD_eq_getElem?_getD, List.getElem?_eq_getElem hl']
    rfl) he hc (by rw [List.map_set] at h; exact h) hd hcd ha
theorem rng_map (lo : Int) (n : Nat) : rngD lo n = ((List.range n).map fun (i : Nat) => lo + (i : Int)).map PyData.int := by
  unfold rngD
  rw [List.map_map]
  rfl
theorem enum_map {T : Type} (enc : T → D) (xs : List T) : enumD (xs.map enc) = xs.zipIdx.map fun p => PyData.tuple [.int (p.2 : Int), enc p.1] := by
  apply List.ext_getElem?
  intro i
  unfold enumD
  rw [List.getElem?_map, List.getElem?_map, List.length_map, List.getElem?_zipIdx]
  by_cases hi : i < xs.length
  · rw [List.getElem?_range hi, List.getElem?_eq_getElem hi]
    simp [hi]
  · rw [List.getElem?_eq_none (by rw [List.length_range]; omega), List.getElem?_eq_none (by omega)]
    rfl
theorem zip_map {T U : Type} (e1 : T → D) (e2 : U → D) (xs : List T) (ys : List U) : zipD (xs.map e1) (ys.map e2) = (xs.zip ys).map fun p => PyData.tuple [e1 p.1, e2 p.2] := by
  unfold zipD
  rw [List.zip_map, List.map_map]
  rfl
end

section
variable {P : Program} {w : World} {K : PySem.W.Frag} {mg : Str → Option Value} {base : Heap} {k : Nat} {N : List Str} {sc : Scope} {fa : Bool} {X : Cx} {H0 : Hp} {S0 : AS} {G G1 G2 : List Slot} {pos p1 p2 p3 : Pos}
/-- whole numbers 0, 1 .. -/
def rng (n : Int) : List Int := (List.range n.toNat).map fun (i : Nat) => (i : Int)
def rng2 (lo n : Int) : List Int := (List.range (n - lo).toNat).map fun (i : Nat) => lo + (i : Int)
theorem rng_len (n : Int) : (rng n).length = n.toNat := by unfold rng; rw [List.length_map, List.length_range]
theorem mem_rng {n x : Int} (h : x ∈ rng n) : 0 ≤ x ∧ x < n := by
  unfold rng at h
  obtain ⟨j, h2, rfl⟩ := List.mem_map.mp h
  have := List.mem_range.mp h2
  omega
theorem mem_rng2 {lo n x : Int} (h : x ∈ rng2 lo n) : lo ≤ x ∧ x < n := by
  unfold rng2 at h
  obtain ⟨j, h2, rfl⟩ := List.mem_map.mp h
  have := List.mem_range.mp h2
  omega
theorem rng_of {n x : Int} (h0 : 0 ≤ x) (h : x < n) : x ∈ rng n := by
  unfold rng
  exact List.mem_map.mpr ⟨x.toNat, List.mem_range.mpr (by omega), by omega⟩
theorem rngD_rng (n : Int) : rngD 0 n.toNat = (rng n).map PyData.int := by
  unfold rngD rng
  rw [List.map_map]
  refine List.map_congr_left fun i _ => ?_
  show PyData.int (0 + (i : Int)) = PyData.int (i : Int)
  rw [Int.zero_add]
theorem di_rng (hX : XOk P w K mg base k N sc fa X) (hr : mg "range" = none) {tg a : Expr} {n : Int} (he : DE X H0 S0 a G (.int n)) (h : -1000000 ≤ n ∧ n ≤ 1000000) (hg : globB sc "range" = true := by decide +kernel)
    (hs : starEach [a] X.env = [(false, eval a X.env)] := by rfl) : DI X H0 S0 tg (.Call (.Name "range" p1) [a] [] pos) G ((rng n).map PyData.int) :=
  (di_range1 hX hr hg he (by omega) (by omega) hs).cast (rngD_rng n)
theorem di_rng2 (hX : XOk P w K mg base k N sc fa X) (hr : mg "range" = none) {tg a b : Expr} {lo n : Int} (ha : DE X H0 S0 a G (.int lo)) (he : DE X H0 S0 b G (.int n)) (h : -1000000 ≤ lo ∧ lo ≤ 1000000 ∧ -1000000 ≤ n ∧ n ≤ 1000000) (hg : globB sc "range" = true := by decide +kernel)
    (hs : starEach [a, b] X.env = [(false, eval a X.env), (false, eval b X.env)] := by rfl) (hs2 : starEach [b] X.env = [(false, eval b X.env)] := by rfl) : DI X H0 S0 tg (.Call (.Name "range" p1) [a, b] [] pos) G ((rng2 lo n).map PyData.int) :=
  (di_range2 hX hr hg ha he (by omega) hs hs2).cast (rng_map lo _)
theorem EnvOk.drops {S : AS} {F : Nat → AS} {q : L2.St} {H : Hp} (E : EnvOk H0 S0 G S F q H) : ∀ vs : List Nat, (∀ v ∈ vs, v < G.length) → ∃ F', EnvOk H0 S0 (wipeG G vs) S F' q H
  | [], _ => ⟨F, E⟩
  | v :: vs, h => by
    obtain ⟨F1, E1⟩ := EnvOk.drops E vs fun u hu => h u (List.mem_cons_of_mem _ hu)
    exact E1.drop (by rw [wipeG_len]; exact h v List.mem_cons_self)
/-- some names are let go -/
theorem ds_wipe (js : List Nat) {ss : List Stmt} {P' : Out → Prop} (h : DS X H0 S0 ss (wipeG G js) P') (hj : (js.all fun v => Nat.blt v G.length) = true := by rfl) : DS X H0 S0 ss G P' := fun S F q H Dd E kk => by
  obtain ⟨F', E'⟩ := E.drops js fun v hv => by
    have := List.all_eq_true.mp hj v hv
    exact Nat.lt_of_lt_of_le (Nat.lt_succ_self v) (Nat.le_of_ble_eq_true this)
  exact h S F' q H Dd E' kk
/-- a block's end: the names at js are let go -/
theorem ds_end (js : List Nat) {P' : Out → Prop} (h : P' (.nxt (wipeG G js))) (hj : (js.all fun v => Nat.blt v G.length) = true := by rfl) : DS X H0 S0 [] G P' := ds_wipe js (ds_nil h) hj
/-- for: what the names hold is E of a state, which each turn steps; J by what is left -/
theorem ds_fold (hX : XOk P w K mg base k N sc fa X) {Sg T : Type} {enc : T → D} {xs : List T} {tg it : Expr} {body rest : List Stmt} {P' : Out → Prop} (E : Sg → List Slot) (step : Sg → T → Sg) (J : List T → Sg → Prop) (s0 : Sg) (hit : DI X H0 S0 tg it G (xs.map enc)) (h0 : G = E s0) (j0 : J xs s0)
    (hs : ∀ s x r, x ∈ xs → J (x :: r) s → ∃ G2 t, DG X H0 S0 tg (enc x) (E s) G2 t ∧ DS X H0 S0 body G2 (loopP (fun G' => G' = E (step s x)) (fun G' => DS X H0 S0 rest G' P') P')) (hj : ∀ s x r, x ∈ xs → J (x :: r) s → J r (step s x))
    (he : J [] (xs.foldl step s0) → DS X H0 S0 rest (E (xs.foldl step s0)) P') (hf : ∀ x, foldedSetIterable it X.env x = pure x := by intro _; rfl) : DS X H0 S0 (.For tg it body [] pos :: rest) G P' :=
  ds_forT hX (fun r Gi => ∃ s, Gi = E s ∧ J r s ∧ r.foldl step s = xs.foldl step s0) hit ⟨s0, h0, j0, rfl⟩ (fun x r Gi hI hx => by
    obtain ⟨s, rfl, js, hr⟩ := hI
    obtain ⟨G2, t, hG, hB⟩ := hs s x r hx js
    refine ⟨G2, t, hG, hB.imp fun o ho => ?_⟩
    cases o with
    | nxt G' => exact ⟨_, ho, hj s x r hx js, hr⟩
    | cnt G' => exact ⟨_, ho, hj s x r hx js, hr⟩
    | brk G' => exact ho
    | ret r => exact ho) (fun Gn hI => by
    obtain ⟨s, rfl, js, hr⟩ := hI
    have hr' : s = xs.foldl step s0 := hr
    subst hr'
    exact he js) hf
theorem foldl_app {T U : Type} (f : T → U) : ∀ (xs : List T) (acc : List U), xs.foldl (fun a x => a ++ [f x]) acc = acc ++ xs.map f
  | [], acc => by simp
  | x :: r, acc => by rw [List.foldl_cons, foldl_app f r]; simp
end

section
variable {P : Program} {w : World} {K : PySem.W.Frag} {mg : Str → Option Value} {base : Heap} {k : Nat} {N : List Str} {sc : Scope} {fa : Bool} {X : Cx} {H0 : Hp} {S0 : AS} {G G1 G2 : List Slot} {pos p1 p2 p3 : Pos}
/-! in, not in -/
theorem inV_int (i : Int) : ∀ ns : List Int, inV (.int i) (ns.map V.int) = ns.contains i
  | [] => rfl
  | n :: r => by
    have ih := inV_int i r
    unfold inV at ih ⊢
    rw [List.map_cons, List.any_cons, ih, List.contains_cons]
    have e : eqV (V.int n) (V.int i) = (i == n) := by
      show (n == i) = (i == n)
      rw [Bool.eq_iff_iff, beq_iff_eq, beq_iff_eq]
      exact ⟨fun z => z.symm, fun z => z.symm⟩
    rw [e]
theorem flat_ints (ns : List Int) : (ns.map V.int).all flatV = true := by
  rw [List.all_map]
  exact List.all_eq_true.mpr fun _ _ => rfl
theorem dt_ninI {a b : Expr} {i : Int} {ns : List Int} (ha : DE X H0 S0 a G (.int i)) (hb : DLs X H0 S0 b G (ns.map PyData.int)) (hm : behindInMarks .NotIn b = false := by rfl) : DT X H0 S0 (.Compare a [.NotIn] [b] pos) G (!ns.contains i) := fun S F q H E Q kk =>
  wT_of (pt_cmpR op_notIn_seq pwE pwE hm) (ha S F q H E _ fun v H1 S1 g1 r1 => hb S1 F q H1 (E.grow g1) _ fun p vs H2 S2 g2 h2 r2 => by
    cases r1
    have e := r2.ints
    subst e
    exact ⟨p, _, rfl, .inl h2, rfl, flat_ints ns, _, rfl, by rw [inV_int]; exact kk H2 S2 (g1.trans g2)⟩)
theorem dt_inI {a b : Expr} {i : Int} {ns : List Int} (ha : DE X H0 S0 a G (.int i)) (hb : DLs X H0 S0 b G (ns.map PyData.int)) (hm : behindInMarks .In b = false := by rfl) : DT X H0 S0 (.Compare a [.In] [b] pos) G (ns.contains i) := fun S F q H E Q kk =>
  wT_of (pt_cmpR op_in_seq pwE pwE hm) (ha S F q H E _ fun v H1 S1 g1 r1 => hb S1 F q H1 (E.grow g1) _ fun p vs H2 S2 g2 h2 r2 => by
    cases r1
    have e := r2.ints
    subst e
    exact ⟨p, _, rfl, .inl h2, rfl, flat_ints ns, _, rfl, by rw [inV_int]; exact kk H2 S2 (g1.trans g2)⟩)
/-! methods of lists of one's own, without arguments -/
theorem ds_pop (i : Nat) (hX : XOk P w K mg base k N sc fa X) {x : Str} {rest : List Stmt} {ds : List D} {P' : Out → Prop} {apos : Pos} (hi : G[i]? = some (.own ds) := by rfl) (hz : ds ≠ []) (h : DS X H0 S0 rest (G.set i (.own ds.dropLast)) P') (hN : N[i]? = some x := by rfl) (hv : visB sc x = true := by decide +kernel)
    (hd : (x == ("__debug__" : Str)) = false := by decide) (hcd : (x == ("__classdict__" : Str)) = false := by decide)
    (hbase : attributeBase (.Name x p1) "pop" X.env (eval (.Name x p1) X.env) = eval (.Name x p1) X.env := by rfl) (hline : (apos.endLine == p2.line) = true := by rfl) (hsw : swapsWith (.Call (.Attribute (.Name x p1) "pop" apos) [] [] p2) none pos.line X.env = pure false := by rfl) :
    DS X H0 S0 (.Expr (.Call (.Attribute (.Name x p1) "pop" apos) [] [] p2) pos :: rest) G P' := fun S F q H Dd E kk => by
  obtain ⟨p, vs, e1, hF, hp, r, hS⟩ := own_at E hi
  refine wSs_of (pss_cons (ps_expr (pe_bm0 PySem.F.plainAttrs_list PySem.F.slot_list_pop PySem.F.type_list_pop mt_pop (pe_var (X := X) (i := i) (by rw [hX.eN]; exact hN) (by rw [hX.es]; exact vis_of hv) hd hcd) hbase hline) hsw) pwSs) ?_
  have hl : vs.length - 1 < vs.length := by
    have := List.length_pos_iff.mpr hz
    rw [r.len]
    omega
  refine ⟨_, e1, .inl ⟨rfl, _, .inl (.inl hp)⟩, p, vs, _, rfl, rfl, hp, List.getElem?_eq_getElem hl, ?_⟩
  exact h S F q _ Dd (E.store hi e1 r.dropLast) (kk.at_ (Keep.upd hS))
theorem ds_clear (i : Nat) (hX : XOk P w K mg base k N sc fa X) {x : Str} {rest : List Stmt} {ds : List D} {P' : Out → Prop} {apos : Pos} (hi : G[i]? = some (.own ds) := by rfl) (h : DS X H0 S0 rest (G.set i (.own [])) P') (hN : N[i]? = some x := by rfl) (hv : visB sc x = true := by decide +kernel)
    (hd : (x == ("__debug__" : Str)) = false := by decide) (hcd : (x == ("__classdict__" : Str)) = false := by decide)
    (hbase : attributeBase (.Name x p1) "clear" X.env (eval (.Name x p1) X.env) = eval (.Name x p1) X.env := by rfl) (hline : (apos.endLine == p2.line) = true := by rfl) (hsw : swapsWith (.Call (.Attribute (.Name x p1) "clear" apos) [] [] p2) none pos.line X.env = pure false := by rfl) :
    DS X H0 S0 (.Expr (.Call (.Attribute (.Name x p1) "clear" apos) [] [] p2) pos :: rest) G P' := fun S F q H Dd E kk => by
  obtain ⟨p, vs, e1, hF, hp, r, hS⟩ := own_at E hi
  refine wSs_of (pss_cons (ps_expr (pe_bm0 PySem.F.plainAttrs_list PySem.F.slot_list_clear PySem.F.type_list_clear mt_clear (pe_var (X := X) (i := i) (by rw [hX.eN]; exact hN) (by rw [hX.es]; exact vis_of hv) hd hcd) hbase hline) hsw) pwSs) ?_
  exact ⟨_, e1, .inl ⟨rfl, _, .inl (.inl hp)⟩, p, vs, rfl, rfl, hp, h S F q _ Dd (E.store hi e1 .nil) (kk.at_ (Keep.upd hS))⟩
end

/-- the law's own promise, and the call that the statement makes -/
def tLaw : Tr := fun ds P' => ∃ (ns : List Int), ds = [.list (ns.map PyData.int)] ∧ ns.length ≤ 63 ∧ P' (.val (.bool true))
theorem sp_law {K : PySem.W.Frag} {H : Hp} {a : Addr} {ns : List Int} (hl : ns.length ≤ 63) (hS : SqL K H a (ns.map V.int)) : spD K [true] tLaw [.ref a] H (fun v _ => v = .bl true) fun _ _ _ => False :=
  ⟨fun _ => False, [.list (ns.map PyData.int)], fun r => r = .val (.bool true), fun _ z => z.elim, .cons (.b hS (Reps.ofInts ns)) .nil, ⟨ns, rfl, hl, rfl⟩, fun d v S' H' hp _ _ _ r => by
    cases hp
    cases r
    rfl, fun ds p vs S' H' hp _ _ _ _ _ _ _ => by cases hp⟩

/-! ### shapes of data (==) -/
def shp (n : Nat) (d : D) : Prop := d.canLay0 = true ∧ d.depth ≤ n
theorem shp_of {n : Nat} {d : D} (h : shp n d) (hn : n ≤ 64) : SeqAt.shaped d = true := by
  unfold SeqAt.shaped
  rw [h.1, Bool.true_and]
  exact decide_eq_true (Nat.le_trans h.2 hn)
theorem shp_int (i : Int) (n : Nat) : shp n (.int i) := ⟨by simp [PyData.canLay0], by simp [PyData.depth]⟩
theorem shp_none (n : Nat) : shp n .none := ⟨by simp [PyData.canLay0], by simp [PyData.depth]⟩
theorem shp_bool (b : Bool) (n : Nat) : shp n (.bool b) := ⟨by simp [PyData.canLay0], by simp [PyData.depth]⟩
theorem shp_all {n : Nat} : ∀ {xs : List D}, (∀ x ∈ xs, shp n x) → PyData.canLayAll0 xs = true ∧ PyData.depthAll xs ≤ n
  | [], _ => ⟨by simp [PyData.canLayAll0], by simp [PyData.depthAll]⟩
  | x :: r, h => by
    obtain ⟨h1, h2⟩ := h x List.mem_cons_self
    obtain ⟨h3, h4⟩ := shp_all (xs := r) fun y hy => h y (List.mem_cons_of_mem _ hy)
    refine ⟨by simp [PyData.canLayAll0, h1, h3], ?_⟩
    simp only [PyData.depthAll]
    omega
theorem shp_list {n : Nat} {xs : List D} (h : ∀ x ∈ xs, shp n x) : shp (n + 1) (.list xs) := by
  obtain ⟨h1, h2⟩ := shp_all h
  refine ⟨by simp only [PyData.canLay0]; exact h1, ?_⟩
  simp only [PyData.depth]
  omega
theorem shp_tup {n : Nat} {xs : List D} (h : ∀ x ∈ xs, shp n x) : shp (n + 1) (.tuple xs) := by
  obtain ⟨h1, h2⟩ := shp_all h
  refine ⟨by simp only [PyData.canLay0]; exact h1, ?_⟩
  simp only [PyData.depth]
  omega
theorem shp_map {T : Type} {n : Nat} {enc : T → D} (h : ∀ x, shp n (enc x)) (xs : List T) : shp (n + 1) (.list (xs.map enc)) := shp_list fun x hx => by
  obtain ⟨y, _, rfl⟩ := List.mem_map.mp hx
  exact h y
theorem shp_mono {n m : Nat} {d : D} (h : shp n d) (l : n ≤ m) : shp m d := ⟨h.1, Nat.le_trans h.2 l⟩
theorem eqv_self {n : Nat} {d : D} (h : shp n d) : PyData.eqv d d = true := SeqAt.eqv_refl d h.1
theorem eqv_nil {xs : List D} : PyData.eqv (.list xs) (.list []) = xs.isEmpty := by
  cases xs <;> simp [PyData.eqv, PyData.eqvAll]
end DL

namespace DL
open PySem PySem.Spec PyProof.Rows L2
section
variable {P : Program} {w : World} {K : PySem.W.Frag} {mg : Str → Option Value} {base : Heap} {k : Nat} {N : List Str} {sc : Scope} {fa : Bool} {X : Cx} {H0 : Hp} {S0 : AS} {G G1 G2 : List Slot} {pos p1 p2 p3 p4 : Pos}
/-- xs[::-1] -/
theorem do_rev {a : Expr} {ds : List D} {j : Nat} (ha : DLs X H0 S0 a G ds) : DO X H0 S0 (.Subscript a (.Slice none none (some (.UnaryOp .USub (.Constant (.int 1) j p1) p2)) p3) pos) G ds.reverse := fun S F q H E Q kk =>
  wE_of (pe_revL pwE) (ha S F q H E _ fun p vs H1 S1 g1 h1 r1 => ⟨p, vs, rfl, h1, fun c hc => kk c _ _ S1 (g1.trans (Grow.alloc0 hc)) (none_ext g1.ext hc) (fun z => (E.grow g1).slv c z hc) upd_same
    (r1.reverse.mono (fun _ z => z) fun a o _ e => by rw [upd_ne (ne_of_none e hc)]; exact e)⟩)
theorem do_revE {a : Expr} {T : Type} {enc : T → D} {xs : List T} {j : Nat} (ha : DLs X H0 S0 a G (xs.map enc)) : DO X H0 S0 (.Subscript a (.Slice none none (some (.UnaryOp .USub (.Constant (.int 1) j p1) p2)) p3) pos) G (xs.reverse.map enc) :=
  (do_rev ha).cast (by rw [List.map_reverse])
/-- xs[-1] = e -/
theorem ds_setlast (i : Nat) (hX : XOk P w K mg base k N sc fa X) {x : Str} {e b : Expr} {rest : List Stmt} {T : Type} (enc : T → D) {xs : List T} (y : T) {P' : Out → Prop} (hi : G[i]? = some (.own (xs.map enc)) := by rfl) (he : DE X H0 S0 e G (enc y)) (hb : DE X H0 S0 b G (.int (-1))) (hl : xs ≠ [])
    (h : DS X H0 S0 rest (G.set i (.own ((xs.set (xs.length - 1) y).map enc))) P') (hN : N[i]? = some x := by rfl) (hv : visB sc x = true := by decide +kernel) (hd : (x == ("__debug__" : Str)) = false := by decide) (hcd : (x == ("__classdict__" : Str)) = false := by decide)
    (ha : ∀ v, assign (.Subscript (.Name x p1) b p2) X.env v = (do
      let ov ← holding [v] (eval (.Name x p1) X.env)
      let iv ← holding [v, ov] (eval b X.env)
      standAt p2
      holding [v, ov, iv] (setItem ov iv v)
      release [v, ov, iv] []) := by intro _; rfl)
    (hs : swapsWithSole [.Subscript (.Name x p1) b p2] e pos.line X.env = pure false := by rfl) (hw : swappedStores [.Subscript (.Name x p1) b p2] e X.env = pure none := by rfl) (h1 : (assignEach [.Subscript (.Name x p1) b p2] X.env).map (·.2) = [assign (.Subscript (.Name x p1) b p2) X.env] := by rfl) :
    DS X H0 S0 (.Assign [.Subscript (.Name x p1) b p2] e pos :: rest) G P' :=
  ds_setix i hX hN hv hi he hb (ixN_last (by rw [List.length_map]; exact List.length_pos_iff.mpr hl)) (by rw [List.length_map]; rw [List.map_set] at h; exact h) hd hcd ha hs hw h1
end
end DL

/-! Mdr: draws. -/
namespace Mp
open PySem L2 DL
def divs : Nat → Int → Int
  | 0, x => x
  | n + 1, x => divs n (x / 10 ^ 12)
def mixed (c k : Int) : Int := if c % 2 = 0 then divs k.toNat ((c.natAbs : Int) / 2) else
  let n := (c + 7919 * k) % 2147483629
  let m := (n * n + 16807 * n + k) % 2147483629
  m * m % 2147483587
def cellAt (ns : List Int) (k : Int) : Int := ns.getD k.toNat 0
def great (c k : Int) : Int := if mixed c k % 3 = 0 then 1 + c % (10 ^ 60 - 1) else if mixed c k % 3 = 1 then 1 + mixed c k / 3 % 1000 else 1 + mixed c k / 3 % 4
theorem great_ok (c k : Int) : 1 ≤ great c k ∧ great c k ≤ 10 ^ 60 := by
  unfold great
  split
  · omega
  · split <;> omega
structure Psg where
  a : Int
  b : Int
  w : Int
  l : Int
def encP (p : Psg) : D := .tuple [.int p.a, .int p.b, .int p.w, .int p.l]
def P0 : Psg := ⟨0, 0, 0, 0⟩
theorem shp_P (p : Psg) : shp 1 (encP p) := shp_tup fun x hx => by
  simp only [List.mem_cons, List.not_mem_nil, or_false] at hx
  rcases hx with rfl | rfl | rfl | rfl <;> exact shp_int _ _
/-- two unlike rooms of m -/
theorem ab_ne {a r m : Int} (h : 2 ≤ m) (a0 : 0 ≤ a) (a1 : a < m) (r0 : 0 ≤ r) (r1 : r < m - 1) : a ≠ (a + 1 + r) % m := by
  by_cases c : a + 1 + r < m
  · rw [Int.emod_eq_of_lt (by omega) c]
    omega
  · have e : a + 1 + r = (a + 1 + r - m) + m := by omega
    rw [e, Int.add_emod_right, Int.emod_eq_of_lt (by omega) (by omega)]
    omega
theorem ab_dr {one u m : Int} (h : 2 ≤ m) : one % m ≠ (one % m + 1 + u % (m - 1)) % m :=
  ab_ne h (Int.emod_nonneg _ (by omega)) (Int.emod_lt_of_pos _ (by omega)) (Int.emod_nonneg _ (by omega)) (Int.emod_lt_of_pos _ (by omega))
theorem in_m {x m : Int} (h : 2 ≤ m) : 0 ≤ x % m ∧ x % m < m := ⟨Int.emod_nonneg _ (by omega), Int.emod_lt_of_pos _ (by omega)⟩
end Mp

namespace Mp
open PySem L2 DL
def psgOf (m c : Int) : Psg := ⟨mixed c 0 % m, (mixed c 0 % m + 1 + mixed c 0 / m % (m - 1)) % m, great c 1, great c 2⟩
def manies : List Int := [2, 3, 4, 5, 6, 7, 8, 40]
def manyOf (ns : List Int) : Int := manies.getD (mixed (cellAt ns 0) 0 % 8).toNat 0
def startOf (ns : List Int) : Int := mixed (cellAt ns 0) 0 / 8 % manyOf ns
def goalOf (ns : List Int) : Int := (startOf ns + 1 + mixed (cellAt ns 0) 0 / 8 / manyOf ns % (manyOf ns - 1)) % manyOf ns
def psgs0 (ns : List Int) : List Psg := (cutL ns (some 3) (some 63)).map (psgOf (manyOf ns))
def psgsOf (ns : List Int) : List Psg := if 1 < (psgs0 ns).length ∧ mixed (cellAt ns 0) 0 / 40000 % 3 = 0 then (psgs0 ns).set ((psgs0 ns).length - 1) ((psgs0 ns).getD 0 P0) else psgs0 ns
structure PsgOk (m : Int) (p : Psg) : Prop where
  a0 : 0 ≤ p.a
  a1 : p.a < m
  b0 : 0 ≤ p.b
  b1 : p.b < m
  ab : p.a ≠ p.b
  w1 : 1 ≤ p.w
  l1 : 1 ≤ p.l
theorem many_ok (ns : List Int) : 2 ≤ manyOf ns ∧ manyOf ns ≤ 40 := by
  unfold manyOf
  have h0 := Int.emod_nonneg (mixed (cellAt ns 0) 0) (show (8 : Int) ≠ 0 by decide)
  have h1 := Int.emod_lt_of_pos (mixed (cellAt ns 0) 0) (show (0 : Int) < 8 by decide)
  generalize mixed (cellAt ns 0) 0 % 8 = r at *
  have : r = 0 ∨ r = 1 ∨ r = 2 ∨ r = 3 ∨ r = 4 ∨ r = 5 ∨ r = 6 ∨ r = 7 := by omega
  rcases this with rfl | rfl | rfl | rfl | rfl | rfl | rfl | rfl <;> decide
theorem psgOf_ok {m : Int} (h : 2 ≤ m) (c : Int) : PsgOk m (psgOf m c) where
  a0 := (in_m h).1
  a1 := (in_m h).2
  b0 := (in_m h).1
  b1 := (in_m h).2
  ab := ab_dr h
  w1 := (great_ok c 1).1
  l1 := (great_ok c 2).1
theorem psgs0_ok (ns : List Int) : ∀ p ∈ psgs0 ns, PsgOk (manyOf ns) p := fun p hp => by
  obtain ⟨c, _, rfl⟩ := List.mem_map.mp hp
  exact psgOf_ok (many_ok ns).1 c
theorem psgs_ok (ns : List Int) : ∀ p ∈ psgsOf ns, PsgOk (manyOf ns) p := fun p hp => by
  unfold psgsOf at hp
  split at hp
  · rename_i c
    rcases List.mem_or_eq_of_mem_set hp with h | h
    · exact psgs0_ok ns p h
    · subst h
      refine psgs0_ok ns _ ?_
      rw [List.getD_eq_getElem?_getD, List.getElem?_eq_getElem (by omega)]
      exact List.getElem_mem _
  · exact psgs0_ok ns p hp
theorem psgs_len (ns : List Int) (h : ns.length ≤ 63) : (psgsOf ns).length ≤ 63 := by
  have h0 : (psgs0 ns).length ≤ ns.length := by
    unfold psgs0 cutL
    rw [List.length_map, List.length_take, List.length_drop]
    omega
  unfold psgsOf
  split
  · rw [List.length_set]; omega
  · omega
end Mp

namespace K
open PySem L2 DL
def topS (i : Nat) : Stmt := PySem.Challenge.pw_leavehall_k01_halls_that_are_halls.main.body.getD i (.Pass ⟨0, 0, 0, 0⟩)
abbrev s_NoHall_init : Stmt := inClass (topS 2) 0
abbrev n_NoHall_init : List Str := ["self", "place"]
theorem sc_NoHall_init : FnScope n_NoHall_init ["self", "place"] (defScope s_NoHall_init) := ⟨rfl, rfl, rfl, by decide +kernel, rfl, by decide +kernel, by decide +kernel⟩
abbrev s_is_room : Stmt := topS 4
abbrev n_is_room : List Str := ["many", "room"]
theorem sc_is_room : FnScope n_is_room ["many", "room"] (defScope s_is_room) := ⟨rfl, rfl, rfl, by decide +kernel, rfl, by decide +kernel, by decide +kernel⟩
abbrev s_is_passage : Stmt := topS 5
abbrev n_is_passage : List Str := ["many", "passage", "a", "b", "width", "length"]
theorem sc_is_passage : FnScope n_is_passage ["many", "passage"] (defScope s_is_passage) := ⟨rfl, rfl, rfl, by decide +kernel, rfl, by decide +kernel, by decide +kernel⟩
abbrev s_look_at_hall : Stmt := topS 6
abbrev n_look_at_hall : List Str := ["many", "passages", "start", "goal", "place", "passage"]
theorem sc_look_at_hall : FnScope n_look_at_hall ["many", "passages", "start", "goal"] (defScope s_look_at_hall) := ⟨rfl, rfl, rfl, by decide +kernel, rfl, by decide +kernel, by decide +kernel⟩
abbrev s_cell_at : Stmt := topS 8
abbrev n_cell_at : List Str := ["_law_script", "_law_k"]
theorem sc_cell_at : FnScope n_cell_at ["_law_script", "_law_k"] (defScope s_cell_at) := ⟨rfl, rfl, rfl, by decide +kernel, rfl, by decide +kernel, by decide +kernel⟩
abbrev s_mixed : Stmt := topS 9
abbrev n_mixed : List Str := ["_law_cell", "_law_k", "_law_number", "_law_time"]
theorem sc_mixed : FnScope n_mixed ["_law_cell", "_law_k"] (defScope s_mixed) := ⟨rfl, rfl, rfl, by decide +kernel, rfl, by decide +kernel, by decide +kernel⟩
abbrev s_great : Stmt := topS 10
abbrev n_great : List Str := ["_law_cell", "_law_k", "_law_number"]
theorem sc_great : FnScope n_great ["_law_cell", "_law_k"] (defScope s_great) := ⟨rfl, rfl, rfl, by decide +kernel, rfl, by decide +kernel, by decide +kernel⟩
abbrev s_passage : Stmt := topS 11
abbrev n_passage : List Str := ["_law_cell", "_law_many", "_law_number", "_law_a", "_law_b"]
theorem sc_passage : FnScope n_passage ["_law_cell", "_law_many"] (defScope s_passage) := ⟨rfl, rfl, rfl, by decide +kernel, rfl, by decide +kernel, by decide +kernel⟩
abbrev s_hall : Stmt := topS 12
abbrev n_hall : List Str := ["_law_script", "_law_number", "_law_many", "_law_start", "_law_goal", "_law_passages", "_law_cell"]
theorem sc_hall : FnScope n_hall ["_law_script"] (defScope s_hall) := ⟨rfl, rfl, rfl, by decide +kernel, rfl, by decide +kernel, by decide +kernel⟩
abbrev s_law : Stmt := topS 13
abbrev n_law : List Str := ["_law_script", "_law_many", "_law_passages", "_law_start", "_law_goal", "_law_handed"]
theorem sc_law : FnScope n_law ["_law_script"] (defScope s_law) := ⟨rfl, rfl, rfl, by decide +kernel, rfl, by decide +kernel, by decide +kernel⟩
end K

namespace K
open PySem L2 DL Mp
structure Blt (mg : Str → Option Value) : Prop where
  len : mg "len" = none
  range : mg "range" = none
  abs : mg "abs" = none
  sum : mg "sum" = none
  min : mg "min" = none
  max : mg "max" = none
  list : mg "list" = none
  enum : mg "enumerate" = none
  zip : mg "zip" = none
  isi : mg "isinstance" = none
  int : mg "int" = none
  bool : mg "bool" = none
abbrev lI (xs : List Int) : D := .list (xs.map PyData.int)
section
variable {P : Program} {w : World} {K : PySem.W.Frag} {mg : Str → Option Value} {base : Heap}
def tCellAt : Tr := fun ds P' => ∃ (ns : List Int) (k : Int), ds = [lI ns, .int k] ∧ 0 ≤ k ∧ P' (.val (.int (cellAt ns k)))
theorem c_cell_at {f : Addr} {fd : FuncData} (F : Fun K "_law_cell_at" "_law_cell_at" s_cell_at f fd) (hm : mg "_law_cell_at" = some (.ref f)) (hb : Binds K fd ["_law_script", "_law_k"] []) (B : Blt mg) : Callee P w K mg base 1 "_law_cell_at" [true, false] tCellAt := by
  refine callee_of F sc_cell_at hm hb (fun ds P' h => by obtain ⟨ns, k, rfl, _⟩ := h; rfl) fun X H0 S0 ds P' hX h => ?_
  obtain ⟨ns, k, rfl, h0, h⟩ := h
  refine ds_if2 (dt_c (de_v 1 hX) (de_len hX B.len (ha := dls_b 0 hX)) .lt) (fun c => ?_) (fun c => ds_nil ?_)
  · exact ds_ret (de_ix (dls_b 0 hX) (de_v 1 hX) (at_E PyData.int h0 (by simpa using c) 0)) h
  · refine ds_ret de_int ?_
    have e : cellAt ns k = 0 := by
      unfold cellAt
      rw [List.getD_eq_getElem?_getD, List.getElem?_eq_none (by simp at c; omega)]
      rfl
    rw [e] at h
    exact h
def tMixed : Tr := fun ds P' => ∃ (c k : Int), ds = [.int c, .int k] ∧ 0 ≤ k ∧ k < 1000000 ∧ P' (.val (.int (mixed c k)))
theorem c_mixed {f : Addr} {fd : FuncData} (F : Fun K "_law_mixed" "_law_mixed" s_mixed f fd) (hm : mg "_law_mixed" = some (.ref f)) (hb : Binds K fd ["_law_cell", "_law_k"] []) (B : Blt mg) : Callee P w K mg base 1 "_law_mixed" [false, false] tMixed := by
  refine callee_of F sc_mixed hm hb (fun ds P' h => by obtain ⟨ns, k, rfl, _⟩ := h; rfl) fun X H0 S0 ds P' hX h => ?_
  obtain ⟨c, k, rfl, h0, h1, h⟩ := h
  refine ds_if2 (dt_c (de_mod (de_v 0 hX) de_int) de_int .eq) (fun hc => ?_) (fun hc => ds_nil ?_)
  · refine ds_set 2 hX (he := de_div (de_abs hX B.abs (ha := de_v 0 hX)) de_int) (h := ?_)
    refine ds_for hX (fun i Gi => ∃ x s, Gi = [.val (.int c), .val (.int k), .val (.int x), s] ∧ divs (k.toNat - i) x = divs k.toNat ((c.natAbs : Int) / 2)) (di_range1 hX B.range (he := de_v 1 hX) (h1 := by omega) (h2 := by omega)) ⟨_, _, rfl, rfl⟩ ?_ ?_
    · rintro i d Gi hd ⟨x, s, rfl, hx⟩
      obtain ⟨hi, rfl⟩ := rngD_get hd
      refine ⟨_, _, dg_name 3 hX, ds_set 2 hX (he := de_div (de_v 2 hX) (de_pow de_int de_int)) (h := ds_nil ⟨_, _, rfl, ?_⟩)⟩
      rw [← hx, show k.toNat - i = (k.toNat - (i + 1)) + 1 by omega]
      rfl
    · rintro Gn ⟨x, s, rfl, hx⟩
      refine ds_ret (de_v 2 hX) ?_
      rw [rngD_len, Nat.sub_self] at hx
      have e : mixed c k = x := by
        unfold mixed
        rw [if_pos (of_decide_eq_true hc), ← hx]
        rfl
      rw [← e]
      exact h
  · refine ds_set 2 hX (he := de_mod (de_add (de_v 0 hX) (de_mulL de_int (de_v 1 hX))) de_int) (h := ?_)
    refine ds_set 2 hX (he := de_mod (de_add (de_add (de_mul (de_v 2 hX) (de_v 2 hX) (.inl (by omega))) (de_mulL de_int (de_v 2 hX))) (de_v 1 hX)) de_int) (h := ?_)
    refine ds_ret (de_mod (de_mul (de_v 2 hX) (de_v 2 hX) (.inl (by omega))) de_int) ?_
    have e : mixed c k = _ := if_neg (of_decide_eq_false hc)
    rw [e] at h
    exact h
def tGreat : Tr := fun ds P' => ∃ (c k : Int), ds = [.int c, .int k] ∧ 0 ≤ k ∧ k < 1000000 ∧ P' (.val (.int (great c k)))
theorem c_great {f : Addr} {fd : FuncData} (F : Fun K "_law_great" "_law_great" s_great f fd) (hm : mg "_law_great" = some (.ref f)) (hb : Binds K fd ["_law_cell", "_law_k"] []) (B : Blt mg) (C1 : Callee P w K mg base 1 "_law_mixed" [false, false] tMixed) : Callee P w K mg base 2 "_law_great" [false, false] tGreat := by
  refine callee_of F sc_great hm hb (fun ds P' h => by obtain ⟨ns, k, rfl, _⟩ := h; rfl) fun X H0 S0 ds P' hX h => ?_
  obtain ⟨c, k, rfl, h0, h1, h⟩ := h
  refine ds_set 2 hX (he := de_call hX C1 (ha := db_v (de_v 0 hX) (db_v (de_v 1 hX) db_nil)) (ht := ⟨c, k, rfl, h0, h1, rfl⟩)) (h := ?_)
  refine ds_if2 (dt_c (de_mod (de_v 2 hX) de_int) de_int .eq) (fun hc => ?_) (fun hc => ds_nil ?_)
  · refine ds_ret (de_add de_int (de_mod (de_v 0 hX) (de_sub (de_pow de_int de_int) de_int))) ?_
    have e : great c k = _ := if_pos (of_decide_eq_true hc)
    rw [e] at h
    exact h
  · refine ds_if2 (dt_c (de_mod (de_v 2 hX) de_int) de_int .eq) (fun hc2 => ?_) (fun hc2 => ds_nil ?_)
    · refine ds_ret (de_add de_int (de_mod (de_div (de_v 2 hX) de_int) de_int)) ?_
      have e : great c k = _ := (if_neg (of_decide_eq_false hc)).trans (if_pos (of_decide_eq_true hc2))
      rw [e] at h
      exact h
    · refine ds_ret (de_add de_int (de_mod (de_div (de_v 2 hX) de_int) de_int)) ?_
      have e : great c k = _ := (if_neg (of_decide_eq_false hc)).trans (if_neg (of_decide_eq_false hc2))
      rw [e] at h
      exact h
abbrev lP (ps : List Psg) : D := .list (ps.map encP)
def tRoom : Tr := fun ds P' => ∃ (m r : Int), ds = [.int m, .int r] ∧ P' (.val (.bool (decide (0 ≤ r) && decide (r < m))))
theorem c_is_room {f : Addr} {fd : FuncData} (F : Fun K "is_room" "is_room" s_is_room f fd) (hm : mg "is_room" = some (.ref f)) (hb : Binds K fd ["many", "room"] []) : Callee P w K mg base 1 "is_room" [false, false] tRoom := by
  refine callee_of F sc_is_room hm hb (fun ds P' h => by obtain ⟨m, r, rfl, _⟩ := h; rfl) fun X H0 S0 ds P' hX h => ?_
  obtain ⟨m, r, rfl, h⟩ := h
  exact ds_ret (de_chain de_int (de_v 1 hX) (de_v 0 hX) .le .lt) h
def okB (m : Int) (p : Psg) : Bool := decide (0 ≤ p.a ∧ p.a < m ∧ 0 ≤ p.b ∧ p.b < m ∧ p.a ≠ p.b ∧ 0 < p.w ∧ 0 < p.l)
def tPass : Tr := fun ds P' => ∃ (m : Int) (p : Psg), ds = [.int m, encP p] ∧ P' (.val (.bool (okB m p)))
theorem c_is_passage {f : Addr} {fd : FuncData} (F : Fun K "is_passage" "is_passage" s_is_passage f fd) (hm : mg "is_passage" = some (.ref f)) (hb : Binds K fd ["many", "passage"] []) (C1 : Callee P w K mg base 1 "is_room" [false, false] tRoom) : Callee P w K mg base 2 "is_passage" [false, false] tPass := by
  refine callee_of F sc_is_passage hm hb (fun ds P' h => by obtain ⟨m, r, rfl, _⟩ := h; rfl) fun X H0 S0 ds P' hX h => ?_
  obtain ⟨m, p, rfl, h⟩ := h
  refine ds_unpack hX (he := de_v 1 hX (d := encP p)) (hg := dg_tup hX (dgs_cons (dg_name 2 hX) (dgs_cons (dg_name 3 hX) (dgs_cons (dg_name 4 hX) (dgs_cons (dg_name 5 hX) dgs_nil))))) (h := ?_)
  refine ds_if2 (dt_w (dw_or (dt_not (dt_e (de_call hX C1 (ha := db_v (de_v 0 hX) (db_v (de_v 2 hX) db_nil)) (ht := ⟨m, p.a, rfl, rfl⟩)))) fun _ => dw_or (dt_not (dt_e (de_call hX C1 (ha := db_v (de_v 0 hX) (db_v (de_v 3 hX) db_nil)) (ht := ⟨m, p.b, rfl, rfl⟩)))) fun _ => dw_t (dt_c (de_v 2 hX) (de_v 3 hX) .eq))) (fun c1 => ?_) (fun c1 => ds_nil ?_)
  · refine ds_ret de_bl ?_
    have e : okB m p = false := by
      unfold okB
      simp only [Bool.or_eq_true, Bool.not_eq_true', Bool.and_eq_false_iff, decide_eq_false_iff_not, decide_eq_true_eq] at c1
      rw [decide_eq_false_iff_not]
      omega
    rw [e] at h
    exact h
  · refine ds_ret (de_and (de_c (de_v 4 hX) de_int .gt) fun _ => de_one (de_c (de_v 5 hX) de_int .gt)) ?_
    have e : okB m p = (decide (0 < p.w) && decide (0 < p.l)) := by
      unfold okB
      simp only [Bool.or_eq_false_iff, Bool.not_eq_false', Bool.and_eq_true, decide_eq_false_iff_not, decide_eq_true_eq] at c1
      rw [Bool.eq_iff_iff]
      simp only [Bool.and_eq_true, decide_eq_true_eq]
      omega
    rw [e] at h
    exact h
def tLook : Tr := fun ds P' => ∃ (m s g : Int) (ps : List Psg), ds = [.int m, lP ps, .int s, .int g] ∧ 2 ≤ m ∧ 0 ≤ s ∧ s < m ∧ 0 ≤ g ∧ g < m ∧ s ≠ g ∧ (∀ p ∈ ps, okB m p = true) ∧ P' (.val .none)
theorem c_look_at_hall {f : Addr} {fd : FuncData} (F : Fun K "look_at_hall" "look_at_hall" s_look_at_hall f fd) (hm : mg "look_at_hall" = some (.ref f)) (hb : Binds K fd ["many", "passages", "start", "goal"] []) (B : Blt mg) (C1 : Callee P w K mg base 1 "is_room" [false, false] tRoom) (C2 : Callee P w K mg base 2 "is_passage" [false, false] tPass) : Callee P w K mg base 3 "look_at_hall" [false, false, false, false] tLook := by
  refine callee_of F sc_look_at_hall hm hb (fun ds P' h => by obtain ⟨m, s, g, ps, rfl, _⟩ := h; rfl) fun X H0 S0 ds P' hX h => ?_
  obtain ⟨m, s, g, ps, rfl, h1, h2, h3, h4, h5, h6, hp, h⟩ := h
  refine ds_if2 (dt_w (dw_or (dt_c (de_v 0 hX) de_int .lt) fun _ => dw_or (dt_not (dt_e (de_call hX C1 (ha := db_v (de_v 0 hX) (db_v (de_v 2 hX) db_nil)) (ht := ⟨m, s, rfl, rfl⟩)))) fun _ => dw_or (dt_not (dt_e (de_call hX C1 (ha := db_v (de_v 0 hX) (db_v (de_v 3 hX) db_nil)) (ht := ⟨m, g, rfl, rfl⟩)))) fun _ => dw_t (dt_c (de_v 2 hX) (de_v 3 hX) .eq))) (fun c1 => ?_) (fun _ => ds_nil ?_)
  · simp only [Bool.or_eq_true, Bool.not_eq_true', Bool.and_eq_false_iff, decide_eq_false_iff_not, decide_eq_true_eq] at c1
    omega
  refine ds_fold hX (E := fun (_ : Unit) => [.val (.int m), .val (lP ps), .val (.int s), .val (.int g), .junk, .junk]) (step := fun _ _ => ()) (J := fun _ _ => True) (s0 := ())
    (hit := (di_enum hX B.enum (he := df_e (de_v 1 hX))).cast (enum_map _ _)) (h0 := rfl) (j0 := trivial) (hs := ?_) (hj := fun _ _ _ _ _ => trivial) (he := fun _ => ds_nil h)
  rintro _ ⟨p, i⟩ _ hpm _
  have hpm' : p ∈ ps := by
    have := List.mem_zipIdx' hpm
    rw [this.2]
    exact List.getElem_mem _
  refine ⟨_, _, dg_tup hX (dgs_cons (dg_name 4 hX) (dgs_cons (dg_name 5 hX) dgs_nil)), ?_⟩
  refine ds_if2 (dt_not (dt_e (de_call hX C2 (ha := db_v (de_v 0 hX) (db_v (de_v 5 hX) db_nil)) (ht := ⟨m, p, rfl, rfl⟩)))) (fun c1 => ?_) (fun _ => ds_nil (ds_end [4, 5] rfl))
  rw [hp p hpm'] at c1
  cases c1
def tPsg : Tr := fun ds P' => ∃ (c m : Int), ds = [.int c, .int m] ∧ 2 ≤ m ∧ m ≤ 40 ∧ P' (.val (encP (psgOf m c)))
theorem c_passage {f : Addr} {fd : FuncData} (F : Fun K "_law_passage" "_law_passage" s_passage f fd) (hm : mg "_law_passage" = some (.ref f)) (hb : Binds K fd ["_law_cell", "_law_many"] []) (C1 : Callee P w K mg base 1 "_law_mixed" [false, false] tMixed) (C2 : Callee P w K mg base 2 "_law_great" [false, false] tGreat) : Callee P w K mg base 3 "_law_passage" [false, false] tPsg := by
  refine callee_of F sc_passage hm hb (fun ds P' h => by obtain ⟨c, m, rfl, _⟩ := h; rfl) fun X H0 S0 ds P' hX h => ?_
  obtain ⟨c, m, rfl, h1, h2, h⟩ := h
  refine ds_set 2 hX (he := de_call hX C1 (ha := db_v (de_v 0 hX) (db_v de_int db_nil)) (ht := ⟨c, 0, rfl, by decide, by decide, rfl⟩)) (h := ?_)
  refine ds_set 3 hX (he := de_mod (de_v 2 hX) (de_v 1 hX) (by omega)) (h := ?_)
  refine ds_set 4 hX (he := de_mod (de_add (de_add (de_v 3 hX) de_int) (de_mod (de_div (de_v 2 hX) (de_v 1 hX) (wide_div (b := 10) (by omega) (by omega) (by decide) (by decide))) (de_sub (de_v 1 hX) de_int) (by omega))) (de_v 1 hX) (by omega)) (h := ?_)
  exact ds_ret (de_tup (da_cons (de_v 3 hX) (da_cons (de_v 4 hX) (da_cons (de_call hX C2 (ha := db_v (de_v 0 hX) (db_v de_int db_nil)) (ht := ⟨c, 1, rfl, by decide, by decide, rfl⟩)) (da_cons (de_call hX C2 (ha := db_v (de_v 0 hX) (db_v de_int db_nil)) (ht := ⟨c, 2, rfl, by decide, by decide, rfl⟩)) da_nil))))) h
def tHall : Tr := fun ds P' => ∃ (ns : List Int), ds = [lI ns] ∧ ns.length ≤ 63 ∧ P' (.val (.tuple [.int (manyOf ns), lP (psgsOf ns), .int (startOf ns), .int (goalOf ns)]))
theorem c_hall {f : Addr} {fd : FuncData} (F : Fun K "_law_hall" "_law_hall" s_hall f fd) (hm : mg "_law_hall" = some (.ref f)) (hb : Binds K fd ["_law_script"] []) (B : Blt mg) (C0 : Callee P w K mg base 1 "_law_cell_at" [true, false] tCellAt) (C1 : Callee P w K mg base 1 "_law_mixed" [false, false] tMixed) (C2 : Callee P w K mg base 3 "_law_passage" [false, false] tPsg) : Callee P w K mg base 4 "_law_hall" [true] tHall := by
  refine callee_of F sc_hall hm hb (fun ds P' h => by obtain ⟨ns, rfl, _⟩ := h; rfl) fun X H0 S0 ds P' hX h => ?_
  obtain ⟨ns, rfl, hl, h⟩ := h
  have hmo := many_ok ns
  refine ds_set 1 hX (he := de_call hX C1 (ha := db_v (de_call hX C0 (ha := db_b (dls_b 0 hX) (db_v de_int db_nil)) (ht := ⟨ns, 0, rfl, by decide, rfl⟩)) (db_v de_int db_nil)) (ht := ⟨_, 0, rfl, by decide, by decide, rfl⟩)) (h := ?_)
  refine ds_set 2 hX (he := de_ix (dls_own ((do_lst (da_cons de_int (da_cons de_int (da_cons de_int (da_cons de_int (da_cons de_int (da_cons de_int (da_cons de_int (da_cons de_int da_nil))))))))).cast (ys := manies.map PyData.int) rfl)) (de_mod (de_v 1 hX) de_int) (at_E PyData.int (Int.emod_nonneg _ (by decide)) (Int.emod_lt_of_pos _ (by decide)) 0)) (h := ?_)
  refine ds_set 3 hX (d := .int (startOf ns)) (he := de_mod (de_div (de_v 1 hX) de_int) (de_v 2 hX (d := .int (manyOf ns))) (by omega)) (h := ?_)
  refine ds_set 4 hX (d := .int (goalOf ns)) (he := de_mod (de_add (de_add (de_v 3 hX) de_int) (de_mod (de_div (de_div (de_v 1 hX) de_int) (de_v 2 hX (d := .int (manyOf ns))) (wide_div (b := 10) (by omega) (by omega) (by decide) (by decide))) (de_sub (de_v 2 hX (d := .int (manyOf ns))) de_int) (by omega))) (de_v 2 hX (d := .int (manyOf ns))) (by omega)) (h := ?_)
  refine ds_setM 5 hX [("_law_cell", 6)] encP (psgOf (manyOf ns)) (hit := di_list (de_own (do_sliceE (dls_b 0 hX) (dpo_some de_int) (dpo_some de_int)))) (hsz := by unfold cutL; rw [List.length_take, List.length_drop]; omega) (turn := fun c hc => ?_) (h := ?_)
  · exact ⟨_, _, fun X' hX' => dg_loc 6 hX', by simp, fun X' hX' => de_call hX' C2 (ha := db_v (de_v 6 hX') (db_v (de_v 2 hX' (d := .int (manyOf ns))) db_nil)) (ht := ⟨c, manyOf ns, rfl, hmo.1, hmo.2, rfl⟩)⟩
  show DS X H0 S0 _ (List.set _ 5 (.own ((psgs0 ns).map encP))) _
  refine ds_if (fun G' => G' = [.bor K (ns.map PyData.int), .val (.int (mixed (cellAt ns 0) 0)), .val (.int (manyOf ns)), .val (.int (startOf ns)), .val (.int (goalOf ns)), .own ((psgsOf ns).map encP), .junk]) (dt_w (dw_and (dt_c ((de_len hX B.len (ha := dls_o 5 hX)).cast (y := .int ((psgs0 ns).length : Int)) (by rw [List.length_map])) de_int .gt) fun _ => dw_t (dt_c (de_mod (de_div (de_v 1 hX) de_int) de_int) de_int .eq))) (fun c1 => ?_) (fun c1 => ds_nil ?_) ?_
  · simp only [Bool.and_eq_true, decide_eq_true_eq] at c1
    have hn : psgs0 ns ≠ [] := fun z => by rw [z] at c1; simp at c1
    have e : psgsOf ns = _ := if_pos ⟨by omega, c1.2⟩
    refine ds_setlast 5 hX encP ((psgs0 ns).getD 0 P0) (he := de_ix (dls_o 5 hX) de_int (at_E encP (i := 0) (by decide) (by omega) P0)) (hb := de_neg de_int) (hl := hn) (h := ds_nil ?_)
    show _ = _
    rw [e]
    rfl
  · have e : psgsOf ns = _ := if_neg (by simp only [Bool.and_eq_false_iff, decide_eq_false_iff_not] at c1; omega)
    show _ = _
    rw [e]
    rfl
  rintro G' rfl
  refine ds_freeze 5 (h := ?_)
  exact ds_ret (de_tup (da_cons (de_v 2 hX) (da_cons (de_v 5 hX) (da_cons (de_v 3 hX) (da_cons (de_v 4 hX) da_nil))))) h
theorem c_law {f : Addr} {fd : FuncData} (F : Fun K "law" "law" s_law f fd) (B : Blt mg) (Ch : Callee P w K mg base 4 "_law_hall" [true] tHall) (Cl : Callee P w K mg base 3 "look_at_hall" [false, false, false, false] tLook) : FnOk P w K mg base CX0 5 f fd ["_law_script"] (spD K [true] tLaw) := by
  refine fnok_of F sc_law (fun ds P' h => by obtain ⟨ns, rfl, _⟩ := h; rfl) fun X H0 S0 ds P' hX h => ?_
  obtain ⟨ns, rfl, hlen, h⟩ := h
  have hmo := many_ok ns
  have s1 : 0 ≤ startOf ns ∧ startOf ns < manyOf ns := in_m hmo.1
  have g1 : 0 ≤ goalOf ns ∧ goalOf ns < manyOf ns := in_m hmo.1
  have sg : startOf ns ≠ goalOf ns := ab_dr hmo.1
  have hp : ∀ p ∈ psgsOf ns, okB (manyOf ns) p = true := fun p hp => by
    have := psgs_ok ns p hp
    exact decide_eq_true ⟨this.a0, this.a1, this.b0, this.b1, this.ab, this.w1, this.l1⟩
  refine ds_unpack hX (he := de_call hX Ch (ha := db_b (dls_b 0 hX) db_nil) (ht := ⟨ns, rfl, hlen, rfl⟩)) (hg := dg_tup hX (dgs_cons (dg_name 1 hX) (dgs_cons (dg_name 2 hX) (dgs_cons (dg_name 3 hX) (dgs_cons (dg_name 4 hX) dgs_nil))))) (h := ?_)
  refine ds_set 5 hX (he := de_own (do_list hX B.list (ha := dls_val (de_v 2 hX)))) (h := ?_)
  refine ds_if2 (dt_w (dw_or (dt_notN (de_call hX Cl (ha := db_v (de_v 1 hX) (db_v (de_v 5 hX) (db_v (de_v 3 hX) (db_v (de_v 4 hX) db_nil)))) (ht := ⟨_, _, _, psgsOf ns, rfl, hmo.1, s1.1, s1.2, g1.1, g1.2, sg, hp, rfl⟩))) fun _ => dw_t (dt_neD hX (dp_e (de_v 5 hX)) (dp_e (de_v 2 hX)) (shp_of (shp_map shp_P _) (by decide)) (shp_of (shp_map shp_P _) (by decide))))) (fun c1 => ?_) (fun _ => ds_nil ?_)
  · rw [eqv_self (shp_map shp_P _)] at c1
    cases c1
  refine ds_if2 (dt_notN (de_call hX Cl (ha := db_v (de_v 1 hX) (db_v (de_own (do_lst da_nil)) (db_v (de_v 4 hX) (db_v (de_v 3 hX) db_nil)))) (ht := ⟨_, _, _, [], rfl, hmo.1, g1.1, g1.2, s1.1, s1.2, sg.symm, (fun p hp => by cases hp), rfl⟩))) (fun c1 => by cases c1) (fun _ => ds_nil ?_)
  exact ds_ret (d := .bool true) (de_and (x := true) (y := true) (de_isN (x := .none) (de_call hX Cl (ha := db_v (de_v 1 hX) (db_v (de_own (do_revE (dls_val (de_v 5 hX)))) (db_v (de_v 4 hX) (db_v (de_v 3 hX) db_nil)))) (ht := ⟨_, _, _, (psgsOf ns).reverse, rfl, hmo.1, g1.1, g1.2, s1.1, s1.2, sg.symm, (fun p hp' => hp p (List.mem_reverse.mp hp')), rfl⟩))) fun _ => de_one (de_isN (x := .none) (de_call hX Cl (ha := db_v de_int (db_v (de_own ((do_lst (da_cons (de_tup (da_cons de_int (da_cons de_int (da_cons de_int (da_cons de_int da_nil))))) da_nil)).cast (ys := [(⟨1, 0, 1, 1⟩ : Psg)].map encP) rfl)) (db_v de_int (db_v de_int db_nil)))) (ht := ⟨2, 0, 1, [⟨1, 0, 1, 1⟩], rfl, by decide, by decide, by decide, by decide, by decide, by decide, (fun p hp => by rw [List.mem_singleton] at hp; rw [hp]; decide), rfl⟩)))) h
end
end K

namespace K
open PySem L2 DL
theorem all_mk {l : PySem.W.OpenLaw} {w : World} {K : PySem.W.Frag} {h : Heap} {mg : Str → Option Value} {fa : Addr} (X : K.In h) (G : h.Ns mainGlobals mg) (hfa : mg "law" = some (.ref fa))
    {f1 : Addr} {od1 an1 : Option Addr} {sl1 : Array (Option Value)} {oc1 kV1 dc1 pm1 cd1 ct1 : Value}
    (a1 : PySem.W.nsIn K mainGlobals "_law_cell_at" = some (some (.ref f1))) (l1 : K.lookup f1 = some ⟨oc1, od1, .func (PySem.W.fnOf "_law_cell_at" "_law_cell_at" (defArgs s_cell_at) (defBody s_cell_at) (defScope s_cell_at) .none kV1 dc1 pm1 an1 cd1 ct1), sl1⟩) (c1 : PySem.W.codeIn K cd1 "_law_cell_at" = true) (k1 : PySem.W.keepIn K (.ref f1) = true)
    {f2 : Addr} {od2 an2 : Option Addr} {sl2 : Array (Option Value)} {oc2 kV2 dc2 pm2 cd2 ct2 : Value}
    (a2 : PySem.W.nsIn K mainGlobals "_law_mixed" = some (some (.ref f2))) (l2 : K.lookup f2 = some ⟨oc2, od2, .func (PySem.W.fnOf "_law_mixed" "_law_mixed" (defArgs s_mixed) (defBody s_mixed) (defScope s_mixed) .none kV2 dc2 pm2 an2 cd2 ct2), sl2⟩) (c2 : PySem.W.codeIn K cd2 "_law_mixed" = true) (k2 : PySem.W.keepIn K (.ref f2) = true)
    {f3 : Addr} {od3 an3 : Option Addr} {sl3 : Array (Option Value)} {oc3 kV3 dc3 pm3 cd3 ct3 : Value}
    (a3 : PySem.W.nsIn K mainGlobals "_law_great" = some (some (.ref f3))) (l3 : K.lookup f3 = some ⟨oc3, od3, .func (PySem.W.fnOf "_law_great" "_law_great" (defArgs s_great) (defBody s_great) (defScope s_great) .none kV3 dc3 pm3 an3 cd3 ct3), sl3⟩) (c3 : PySem.W.codeIn K cd3 "_law_great" = true) (k3 : PySem.W.keepIn K (.ref f3) = true)
    {f4 : Addr} {od4 an4 : Option Addr} {sl4 : Array (Option Value)} {oc4 kV4 dc4 pm4 cd4 ct4 : Value}
    (a4 : PySem.W.nsIn K mainGlobals "_law_passage" = some (some (.ref f4))) (l4 : K.lookup f4 = some ⟨oc4, od4, .func (PySem.W.fnOf "_law_passage" "_law_passage" (defArgs s_passage) (defBody s_passage) (defScope s_passage) .none kV4 dc4 pm4 an4 cd4 ct4), sl4⟩) (c4 : PySem.W.codeIn K cd4 "_law_passage" = true) (k4 : PySem.W.keepIn K (.ref f4) = true)
    {f5 : Addr} {od5 an5 : Option Addr} {sl5 : Array (Option Value)} {oc5 kV5 dc5 pm5 cd5 ct5 : Value}
    (a5 : PySem.W.nsIn K mainGlobals "_law_hall" = some (some (.ref f5))) (l5 : K.lookup f5 = some ⟨oc5, od5, .func (PySem.W.fnOf "_law_hall" "_law_hall" (defArgs s_hall) (defBody s_hall) (defScope s_hall) .none kV5 dc5 pm5 an5 cd5 ct5), sl5⟩) (c5 : PySem.W.codeIn K cd5 "_law_hall" = true) (k5 : PySem.W.keepIn K (.ref f5) = true)
    {f6 : Addr} {od6 an6 : Option Addr} {sl6 : Array (Option Value)} {oc6 kV6 dc6 pm6 cd6 ct6 : Value}
    (a6 : PySem.W.nsIn K mainGlobals "is_room" = some (some (.ref f6))) (l6 : K.lookup f6 = some ⟨oc6, od6, .func (PySem.W.fnOf "is_room" "is_room" (defArgs s_is_room) (defBody s_is_room) (defScope s_is_room) .none kV6 dc6 pm6 an6 cd6 ct6), sl6⟩) (c6 : PySem.W.codeIn K cd6 "is_room" = true) (k6 : PySem.W.keepIn K (.ref f6) = true)
    {f7 : Addr} {od7 an7 : Option Addr} {sl7 : Array (Option Value)} {oc7 kV7 dc7 pm7 cd7 ct7 : Value}
    (a7 : PySem.W.nsIn K mainGlobals "is_passage" = some (some (.ref f7))) (l7 : K.lookup f7 = some ⟨oc7, od7, .func (PySem.W.fnOf "is_passage" "is_passage" (defArgs s_is_passage) (defBody s_is_passage) (defScope s_is_passage) .none kV7 dc7 pm7 an7 cd7 ct7), sl7⟩) (c7 : PySem.W.codeIn K cd7 "is_passage" = true) (k7 : PySem.W.keepIn K (.ref f7) = true)
    {f8 : Addr} {od8 an8 : Option Addr} {sl8 : Array (Option Value)} {oc8 kV8 dc8 pm8 cd8 ct8 : Value}
    (a8 : PySem.W.nsIn K mainGlobals "look_at_hall" = some (some (.ref f8))) (l8 : K.lookup f8 = some ⟨oc8, od8, .func (PySem.W.fnOf "look_at_hall" "look_at_hall" (defArgs s_look_at_hall) (defBody s_look_at_hall) (defScope s_look_at_hall) .none kV8 dc8 pm8 an8 cd8 ct8), sl8⟩) (c8 : PySem.W.codeIn K cd8 "look_at_hall" = true) (k8 : PySem.W.keepIn K (.ref f8) = true)
    {f9 : Addr} {od9 an9 : Option Addr} {sl9 : Array (Option Value)} {oc9 kV9 dc9 pm9 cd9 ct9 : Value}
    (a9 : PySem.W.nsIn K mainGlobals "law" = some (some (.ref f9))) (l9 : K.lookup f9 = some ⟨oc9, od9, .func (PySem.W.fnOf "law" "law" (defArgs s_law) (defBody s_law) (defScope s_law) .none kV9 dc9 pm9 an9 cd9 ct9), sl9⟩) (c9 : PySem.W.codeIn K cd9 "law" = true) (k9 : PySem.W.keepIn K (.ref f9) = true)
    (z_len : PySem.W.nsIn K mainGlobals "len" = some none)
    (z_range : PySem.W.nsIn K mainGlobals "range" = some none)
    (z_abs : PySem.W.nsIn K mainGlobals "abs" = some none)
    (z_sum : PySem.W.nsIn K mainGlobals "sum" = some none)
    (z_min : PySem.W.nsIn K mainGlobals "min" = some none)
    (z_max : PySem.W.nsIn K mainGlobals "max" = some none)
    (z_list : PySem.W.nsIn K mainGlobals "list" = some none)
    (z_enum : PySem.W.nsIn K mainGlobals "enumerate" = some none)
    (z_zip : PySem.W.nsIn K mainGlobals "zip" = some none)
    (z_isi : PySem.W.nsIn K mainGlobals "isinstance" = some none)
    (z_int : PySem.W.nsIn K mainGlobals "int" = some none)
    (z_bool : PySem.W.nsIn K mainGlobals "bool" = some none)
    : ∃ fd : FuncData, (∀ (s : Shared) (v : Value), BindsTo s fd ⟨[v], []⟩ [("_law_script", v)]) ∧ ∀ base : Heap, K.In base → base.Ns mainGlobals mg → FnOk l.prog w K mg base CX0 5 fa fd ["_law_script"] (spD K [true] tLaw) := by
  have e := hfa.symm.trans (PySem.W.mg_of X G a9)
  cases e
  have B : Blt mg := ⟨PySem.W.mg_none_of X G z_len, PySem.W.mg_none_of X G z_range, PySem.W.mg_none_of X G z_abs, PySem.W.mg_none_of X G z_sum, PySem.W.mg_none_of X G z_min, PySem.W.mg_none_of X G z_max, PySem.W.mg_none_of X G z_list, PySem.W.mg_none_of X G z_enum, PySem.W.mg_none_of X G z_zip, PySem.W.mg_none_of X G z_isi, PySem.W.mg_none_of X G z_int, PySem.W.mg_none_of X G z_bool⟩
  have F1 := fun_mk (st := s_cell_at) l1 c1 k1
  have F2 := fun_mk (st := s_mixed) l2 c2 k2
  have F3 := fun_mk (st := s_great) l3 c3 k3
  have F4 := fun_mk (st := s_passage) l4 c4 k4
  have F5 := fun_mk (st := s_hall) l5 c5 k5
  have F6 := fun_mk (st := s_is_room) l6 c6 k6
  have F7 := fun_mk (st := s_is_passage) l7 c7 k7
  have F8 := fun_mk (st := s_look_at_hall) l8 c8 k8
  have F9 := fun_mk (st := s_law) l9 c9 k9
  refine ⟨PySem.W.fnOf "law" "law" (defArgs s_law) (defBody s_law) (defScope s_law) .none kV9 dc9 pm9 an9 cd9 ct9, fun s v => .of_eq rfl, fun base _ _ => ?_⟩
  have b1 := F1.binds (ps := ["_law_script", "_law_k"]) fun _ _ _ _ _ _ us hl => match us, hl with | [_, _], _ => rfl
  have C1 := c_cell_at (P := l.prog) (w := w) (base := base) F1 (PySem.W.mg_of X G a1) b1 B 
  have b2 := F2.binds (ps := ["_law_cell", "_law_k"]) fun _ _ _ _ _ _ us hl => match us, hl with | [_, _], _ => rfl
  have C2 := c_mixed (P := l.prog) (w := w) (base := base) F2 (PySem.W.mg_of X G a2) b2 B 
  have b3 := F3.binds (ps := ["_law_cell", "_law_k"]) fun _ _ _ _ _ _ us hl => match us, hl with | [_, _], _ => rfl
  have C3 := c_great (P := l.prog) (w := w) (base := base) F3 (PySem.W.mg_of X G a3) b3 B C2
  have b4 := F4.binds (ps := ["_law_cell", "_law_many"]) fun _ _ _ _ _ _ us hl => match us, hl with | [_, _], _ => rfl
  have C4 := c_passage (P := l.prog) (w := w) (base := base) F4 (PySem.W.mg_of X G a4) b4 C2 C3
  have b5 := F5.binds (ps := ["_law_script"]) fun _ _ _ _ _ _ us hl => match us, hl with | [_], _ => rfl
  have C5 := c_hall (P := l.prog) (w := w) (base := base) F5 (PySem.W.mg_of X G a5) b5 B C1 C2 C4
  have b6 := F6.binds (ps := ["many", "room"]) fun _ _ _ _ _ _ us hl => match us, hl with | [_, _], _ => rfl
  have C6 := c_is_room (P := l.prog) (w := w) (base := base) F6 (PySem.W.mg_of X G a6) b6 
  have b7 := F7.binds (ps := ["many", "passage"]) fun _ _ _ _ _ _ us hl => match us, hl with | [_, _], _ => rfl
  have C7 := c_is_passage (P := l.prog) (w := w) (base := base) F7 (PySem.W.mg_of X G a7) b7 C6
  have b8 := F8.binds (ps := ["many", "passages", "start", "goal"]) fun _ _ _ _ _ _ us hl => match us, hl with | [_, _, _, _], _ => rfl
  have C8 := c_look_at_hall (P := l.prog) (w := w) (base := base) F8 (PySem.W.mg_of X G a8) b8 B C6 C7
  exact c_law F9 B C5 C8
end K
open PySem PySem.W PyProof.Rows
set_option maxRecDepth 100000 in
set_option maxHeartbeats 0 in
theorem PySem.Challenge.cw_leavehall_k01_halls_that_are_halls_holds : PySem.Challenge.rw_leavehall_k01_halls_that_are_halls.Holds := by
  w_on; o_law; k_head; (case hw => w_witness2)
  k_fill
  refine L2.walk_of (l := PySem.Challenge.rw_leavehall_k01_halls_that_are_halls) (n := 63) (k := 5) (x := "_law_script") (CX := fun _ => L2.CX0) (sp := fun w => DL.spD _ [true] DL.tLaw) rfl (by decide) rfl ⟨rfl, by decide, by decide⟩ (fun w h Y => PySem.W.kIn_of Y) ?F (fun _ _ a ns hl _ hS => DL.sp_law hl hS) (fun _ _ _ _ _ h => h)
  case F =>
    intro w mg fa h KX G hmg
    refine' K.all_mk KX G hmg ?a1 ?l1 ?c1 ?k1 ?a2 ?l2 ?c2 ?k2 ?a3 ?l3 ?c3 ?k3 ?a4 ?l4 ?c4 ?k4 ?a5 ?l5 ?c5 ?k5 ?a6 ?l6 ?c6 ?k6 ?a7 ?l7 ?c7 ?k7 ?a8 ?l8 ?c8 ?k8 ?a9 ?l9 ?c9 ?k9 ?z_len ?z_range ?z_abs ?z_sum ?z_min ?z_max ?z_list ?z_enum ?z_zip ?z_isi ?z_int ?z_bool
    (case a1 => k_is); (case l1 => k_is); (case c1 => k_is); (case k1 => k_is); (case a2 => k_is); (case l2 => k_is)
    (case c2 => k_is); (case k2 => k_is); (case a3 => k_is); (case l3 => k_is); (case c3 => k_is); (case k3 => k_is)
    (case a4 => k_is); (case l4 => k_is); (case c4 => k_is); (case k4 => k_is); (case a5 => k_is); (case l5 => k_is)
    (case c5 => k_is); (case k5 => k_is); (case a6 => k_is); (case l6 => k_is); (case c6 => k_is); (case k6 => k_is)
    (case a7 => k_is); (case l7 => k_is); (case c7 => k_is); (case k7 => k_is); (case a8 => k_is); (case l8 => k_is)
    (case c8 => k_is); (case k8 => k_is); (case a9 => k_is); (case l9 => k_is); (case c9 => k_is); (case k9 => k_is)
    (case z_len => k_is); (case z_range => k_is); (case z_abs => k_is); (case z_sum => k_is); (case z_min => k_is); (case z_max => k_is)
    (case z_list => k_is); (case z_enum => k_is); (case z_zip => k_is); (case z_isi => k_is); (case z_int => k_is); (case z_bool => k_is)
