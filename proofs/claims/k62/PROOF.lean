import PyProof.Rows.All
import Wide.All
import OpenK.AllK
import Wide.FinOn
import HandS.ForMost
import HandS.Wide
import HandS.IsInst
import HandS.Style
import HandS.More
import HandS.Zip
import HandS.Iter
import HandS.Dict
import KE.DataFind
import HandS.Deep
import HandS.ExcInit
import HandS.ExcOwn
import HandS.ExcField
import HandS.ExcIs
import HandS.WordsExc
import HandS.ClsMeth
import KE.KExcIs
import HandS.TupAny
import PySem.Challenge.RW_leavehall_k62_deeds_refused
set_option Elab.async false
set_option linter.all false
set_option maxRecDepth 100000
set_option maxHeartbeats 4000000
/-! DL: plain data over the hand layer: names hold data, the heap is out of sight. -/
namespace DL
open PySem PySem.Spec PyProof.Rows L2

abbrev D := PyData
abbrev AS := Addr → Prop

mutual
inductive Rep (S : AS) (H : Hp) : V → D → Prop
  | non : Rep S H .non .none
  | bl (b : Bool) : Rep S H (.bl b) (.bool b)
  | int (i : Int) : Rep S H (.int i) (.int i)
  | str (x : Str) : Rep S H (.str x) (.str x)
  | lst {a : Addr} {xs : List V} {ds : List D} : S a → H a = some (.lst xs) → Reps S H xs ds → Rep S H (.ref a) (.list ds)
  | tup {a : Addr} {xs : List V} {ds : List D} : Rd H a (.tup xs) → Reps S H xs ds → Rep S H (.ref a) (.tuple ds)
inductive Reps (S : AS) (H : Hp) : List V → List D → Prop
  | nil : Reps S H [] []
  | cons {v : V} {vs : List V} {d : D} {ds : List D} : Rep S H v d → Reps S H vs ds → Reps S H (v :: vs) (d :: ds)
end

theorem rd_keep {H H' : Hp} {a : Addr} {u : HO} (k : ∀ o, H a = some o → H' a = some o) (h : Rd H a u) : Rd H' a u := by
  rcases h with h | ⟨o, h⟩
  · exact .inl (k _ h)
  · exact .inr ⟨o, k _ h⟩
theorem rd_inj {H : Hp} {a : Addr} {xs ys : List V} (h : Rd H a (.lst xs)) (h2 : Rd H a (.lst ys)) : xs = ys := by
  rcases h with h | ⟨o, h⟩ <;> rcases h2 with h2 | ⟨o2, h2⟩ <;> (rw [h] at h2; cases h2) <;> rfl
theorem rd_ex {H : Hp} {a : Addr} {u : HO} (h : Rd H a u) : H a ≠ none := by
  rcases h with h | ⟨o, h⟩ <;> (rw [h]; exact Option.some_ne_none _)

/-- what stays: what is frozen, and tuples -/
def Fx (S : AS) (H : Hp) (a : Addr) : Prop := S a ∨ ∃ xs, Rd H a (.tup xs)
def NT (H : Hp) (p : Addr) : Prop := ∀ xs, ¬ Rd H p (.tup xs)
theorem nt_lst {H : Hp} {p : Addr} {vs : List V} (h : H p = some (.lst vs)) : NT H p := fun xs r => by
  rcases r with r | ⟨o, r⟩ <;> (rw [h] at r; cases r)
theorem nt_none {H : Hp} {p : Addr} (h : H p = none) : NT H p := fun xs r => by
  rcases r with r | ⟨o, r⟩ <;> (rw [h] at r; cases r)
mutual
theorem Rep.mono {S S' : AS} {H H' : Hp} (hs : ∀ a, S a → S' a) (k : ∀ a o, Fx S H a → H a = some o → H' a = some o) : ∀ {v : V} {d : D}, Rep S H v d → Rep S' H' v d
  | _, _, .non => .non
  | _, _, .bl b => .bl b
  | _, _, .int i => .int i
  | _, _, .str x => .str x
  | _, _, .lst h1 h2 h3 => .lst (hs _ h1) (k _ _ (.inl h1) h2) (Reps.mono hs k h3)
  | _, _, .tup h2 h3 => .tup (rd_keep (fun o e => k _ o (.inr ⟨_, h2⟩) e) h2) (Reps.mono hs k h3)
theorem Reps.mono {S S' : AS} {H H' : Hp} (hs : ∀ a, S a → S' a) (k : ∀ a o, Fx S H a → H a = some o → H' a = some o) : ∀ {v : List V} {d : List D}, Reps S H v d → Reps S' H' v d
  | _, _, .nil => .nil
  | _, _, .cons h t => .cons (Rep.mono hs k h) (Reps.mono hs k t)
end

section
variable {S : AS} {H : Hp}
theorem Reps.len : ∀ {vs : List V} {ds : List D}, Reps S H vs ds → vs.length = ds.length
  | _, _, .nil => rfl
  | _, _, .cons _ t => congrArg (· + 1) t.len
theorem Reps.get : ∀ {vs : List V} {ds : List D} {i : Nat} {v : V}, Reps S H vs ds → vs[i]? = some v → ∃ d, ds[i]? = some d ∧ Rep S H v d
  | _, _, i, v, .nil, e => by simp at e
  | _, _, 0, v, .cons h _, e => by simp at e; subst e; exact ⟨_, rfl, h⟩
  | _, _, i + 1, v, .cons _ t, e => by
    obtain ⟨d, h1, h2⟩ := Reps.get (i := i) (v := v) t (by simpa using e)
    exact ⟨d, by simpa using h1, h2⟩
theorem Reps.getD : ∀ {vs : List V} {ds : List D} {i : Nat} {d : D}, Reps S H vs ds → ds[i]? = some d → ∃ v, vs[i]? = some v ∧ Rep S H v d
  | _, _, i, v, .nil, e => by simp at e
  | _, _, 0, v, .cons h _, e => by simp at e; subst e; exact ⟨_, rfl, h⟩
  | _, _, i + 1, v, .cons _ t, e => by
    obtain ⟨d, h1, h2⟩ := Reps.getD (i := i) (d := v) t (by simpa using e)
    exact ⟨d, by simpa using h1, h2⟩
theorem Reps.append : ∀ {vs ws : List V} {ds es : List D}, Reps S H vs ds → Reps S H ws es → Reps S H (vs ++ ws) (ds ++ es)
  | _, _, _, _, .nil, s => s
  | _, _, _, _, .cons h t, s => .cons h (Reps.append t s)
theorem Reps.set {v : V} {d : D} (r : Rep S H v d) : ∀ {vs : List V} {ds : List D} (i : Nat), Reps S H vs ds → Reps S H (vs.set i v) (ds.set i d)
  | _, _, _, .nil => .nil
  | _, _, 0, .cons _ t => .cons r t
  | _, _, i + 1, .cons q t => .cons q (Reps.set r i t)
theorem Reps.take : ∀ {vs : List V} {ds : List D} (n : Nat), Reps S H vs ds → Reps S H (vs.take n) (ds.take n)
  | _, _, 0, _ => .nil
  | _, _, _ + 1, .nil => .nil
  | _, _, n + 1, .cons r t => .cons r (Reps.take n t)
theorem Reps.drop : ∀ {vs : List V} {ds : List D} (n : Nat), Reps S H vs ds → Reps S H (vs.drop n) (ds.drop n)
  | _, _, 0, r => r
  | _, _, _ + 1, .nil => .nil
  | _, _, n + 1, .cons _ t => Reps.drop n t
theorem Reps.reverse : ∀ {vs : List V} {ds : List D}, Reps S H vs ds → Reps S H vs.reverse ds.reverse
  | _, _, .nil => .nil
  | _, _, .cons h t => by
    rw [List.reverse_cons, List.reverse_cons]
    exact (Reps.reverse t).append (.cons h .nil)
theorem Reps.dropLast {vs : List V} {ds : List D} (h : Reps S H vs ds) : Reps S H vs.dropLast ds.dropLast := by
  rw [List.dropLast_eq_take, List.dropLast_eq_take, h.len]
  exact h.take _
theorem Reps.rep {vs : List V} {ds : List D} (h : Reps S H vs ds) : ∀ k : Nat, Reps S H (List.replicate k vs).flatten (List.replicate k ds).flatten
  | 0 => .nil
  | k + 1 => by
    rw [List.replicate_succ, List.replicate_succ, List.flatten_cons, List.flatten_cons]
    exact h.append (Reps.rep h k)
theorem Reps.erase : ∀ {vs : List V} {ds : List D} (i : Nat), Reps S H vs ds → Reps S H (vs.eraseIdx i) (ds.eraseIdx i)
  | _, _, _, .nil => .nil
  | _, _, 0, .cons _ t => t
  | _, _, i + 1, .cons q t => .cons q (Reps.erase i t)
theorem Reps.ints : ∀ {vs : List V} {ns : List Int}, Reps S H vs (ns.map PyData.int) → vs = ns.map V.int
  | [], [], .nil => rfl
  | _ :: _, n :: r, .cons h t => by
    cases h
    rw [List.map_cons, Reps.ints t]
theorem Reps.bools : ∀ {vs : List V} {ns : List Bool}, Reps S H vs (ns.map PyData.bool) → vs = ns.map V.bl
  | [], [], .nil => rfl
  | _ :: _, n :: r, .cons h t => by
    cases h
    rw [List.map_cons, Reps.bools t]
theorem Reps.strs : ∀ {vs : List V} {ns : List Str}, Reps S H vs (ns.map PyData.str) → vs = ns.map V.str
  | [], [], .nil => rfl
  | _ :: _, n :: r, .cons h t => by
    cases h
    rw [List.map_cons, Reps.strs t]
theorem Reps.ofInts : ∀ (ns : List Int), Reps S H (ns.map V.int) (ns.map PyData.int)
  | [] => .nil
  | n :: r => .cons (.int n) (Reps.ofInts r)
end

/-! ### data in the hand layer's sense -/
mutual
theorem Rep.dp {K : PySem.W.Frag} {S : AS} {H : Hp} : ∀ {v : V} {d : D}, Rep S H v d → Dp K H v d
  | _, _, .non => .non
  | _, _, .bl b => .bl b
  | _, _, .int i => .int i
  | _, _, .str x => .str x
  | _, _, .lst h1 h2 h3 => .lst (.inl (.inl h2)) (Reps.dp h3)
  | _, _, .tup h2 h3 => .tup (.inl h2) (Reps.dp h3)
theorem Reps.dp {K : PySem.W.Frag} {S : AS} {H : Hp} : ∀ {v : List V} {d : List D}, Reps S H v d → DpAll K H v d
  | _, _, .nil => .nil
  | _, _, .cons h t => .cons (Rep.dp h) (Reps.dp t)
end

/-! ### data with addresses in it; the cells of a workspace -/
inductive E where
  | d (d : D)
  | ref (a : Addr)
  | tup (es : List E)
mutual
inductive RepI (H : Hp) : V → E → Prop
  | d {v : V} {d : D} : Rep (fun _ => False) H v d → RepI H v (.d d)
  | ref (a : Addr) : RepI H (.ref a) (.ref a)
  | tup {a : Addr} {xs : List V} {es : List E} : Rd H a (.tup xs) → RepIs H xs es → RepI H (.ref a) (.tup es)
inductive RepIs (H : Hp) : List V → List E → Prop
  | nil : RepIs H [] []
  | cons {v : V} {vs : List V} {e : E} {es : List E} : RepI H v e → RepIs H vs es → RepIs H (v :: vs) (e :: es)
end
mutual
theorem RepI.mono {H H' : Hp} (k : ∀ a o, (∃ xs, Rd H a (.tup xs)) → H a = some o → H' a = some o) : ∀ {v : V} {e : E}, RepI H v e → RepI H' v e
  | _, _, .d h => .d (h.mono (fun _ z => z) fun a o z => k a o (z.elim False.elim id))
  | _, _, .ref a => .ref a
  | _, _, .tup h t => .tup (rd_keep (fun o z => k _ o ⟨_, h⟩ z) h) (RepIs.mono k t)
theorem RepIs.mono {H H' : Hp} (k : ∀ a o, (∃ xs, Rd H a (.tup xs)) → H a = some o → H' a = some o) : ∀ {v : List V} {e : List E}, RepIs H v e → RepIs H' v e
  | _, _, .nil => .nil
  | _, _, .cons h t => .cons (RepI.mono k h) (RepIs.mono k t)
end
inductive Cell where
  | lst (es : List E)
  | raw (o : HO)
abbrev Wk := Addr → Option Cell
/-- no tuple -/
def NTo (o : HO) : Prop := (∀ xs, o ≠ .tup xs) ∧ ∀ u xs, o ≠ .frz u (.tup xs)
def CellOk (H : Hp) (a : Addr) : Cell → Prop
  | .lst es => ∃ vs, H a = some (.lst vs) ∧ RepIs H vs es
  | .raw o => H a = some o ∧ NTo o
theorem CellOk.nt {H : Hp} {a : Addr} {c : Cell} (h : CellOk H a c) : NT H a := by
  cases c with
  | lst es =>
    obtain ⟨vs, h1, h2⟩ := h
    exact nt_lst h1
  | raw o =>
    obtain ⟨h1, h2⟩ := h
    intro xs r
    rcases r with r | ⟨u, r⟩
    · rw [h1] at r; exact h2.1 xs (Option.some.inj r)
    · rw [h1] at r; exact h2.2 u xs (Option.some.inj r)
theorem CellOk.lv {H : Hp} {a : Addr} {c : Cell} (h : CellOk H a c) : H a ≠ none := by
  cases c with
  | lst es =>
    obtain ⟨vs, h1, h2⟩ := h
    rw [h1]; exact Option.some_ne_none _
  | raw o =>
    rw [h.1]; exact Option.some_ne_none _
theorem CellOk.keep {H H' : Hp} {a : Addr} {c : Cell} (h : CellOk H a c) (k : ∀ b o, (∃ xs, Rd H b (.tup xs)) ∨ b = a → H b = some o → H' b = some o) : CellOk H' a c := by
  cases c with
  | lst es =>
    obtain ⟨vs, h1, h2⟩ := h
    exact ⟨vs, k a _ (.inr rfl) h1, h2.mono fun b o z => k b o (.inl z)⟩
  | raw o => exact ⟨k a _ (.inr rfl) h.1, h.2⟩
def WkOk (W : Wk) (H : Hp) (F : AS) : Prop := (∀ a, F a ↔ W a ≠ none) ∧ ∀ a c, W a = some c → CellOk H a c
theorem WkOk.keep {W : Wk} {H H' : Hp} {F : AS} (h : WkOk W H F) (k : ∀ b o, (∃ xs, Rd H b (.tup xs)) ∨ F b → H b = some o → H' b = some o) : WkOk W H' F :=
  ⟨h.1, fun a c e => (h.2 a c e).keep fun b o z => k b o (z.imp id fun z => by rw [z]; exact (h.1 a).mpr (by rw [e]; exact Option.some_ne_none _))⟩

/-! ### what names hold -/
/-- a thing of one's own kind: what stands at v, its addresses F -/
structure Res where
  R : AS → Hp → V → AS → Prop
  st : ∀ {S S' : AS} {H H' : Hp} {v : V} {F : AS}, R S H v F → (∀ a, S a → S' a) → (∀ a o, Fx S H a ∨ F a → H a = some o → H' a = some o) → R S' H' v F
  lv : ∀ {S : AS} {H : Hp} {v : V} {F : AS}, R S H v F → ∀ a, F a → H a ≠ none

/-- a list of the written part -/
def KL (K : PySem.W.Frag) (a : Addr) (xs : List V) : Prop := ∃ (o : Obj) (its : Array Value) (n : Nat), K.lookup a = some o ∧ o.cls = .type "list" ∧ o.dict = none ∧ o.data = .seq its n ∧ its.size ≤ sizeLine ∧ Vals xs its.toList
inductive Slot where
  | junk
  | val (d : D)
  | own (ds : List D)
  | bor (K : PySem.W.Frag) (ds : List D)
  | res (r : Res)
  | itm (e : E)
  | wrk (m : Bool) (W : Wk)

def Slot.mutb : Slot → Bool
  | .own _ => true
  | .res _ => true
  | .wrk m _ => m
  | _ => false

def slotB (K : PySem.W.Frag) : Bool → D → Slot
  | false, d => .val d
  | true, .list ds => .bor K ds
  | true, _ => .junk
def slots (K : PySem.W.Frag) : List Bool → List D → List Slot
  | b :: bs, d :: ds => slotB K b d :: slots K bs ds
  | _, _ => []
def atS : List Str → List Slot → List Slot
  | [], _ => []
  | _ :: N, [] => .junk :: atS N []
  | _ :: N, s :: ss => s :: atS N ss
def SlotOk (S : AS) (H : Hp) (o : Option V) (s : Slot) (F : AS) : Prop :=
  match s with
  | .junk => ∀ a, ¬ F a
  | .val d => (∀ a, ¬ F a) ∧ ∃ v, o = some v ∧ Rep S H v d
  | .own ds => ∃ p vs, o = some (.ref p) ∧ (∀ a, F a ↔ a = p) ∧ H p = some (.lst vs) ∧ Reps S H vs ds
  | .bor K ds => ∃ p vs, o = some (.ref p) ∧ (∀ a, F a → a = p) ∧ ((F p ∧ Rd H p (.lst vs)) ∨ KL K p vs) ∧ Reps S H vs ds
  | .res r => ∃ v, o = some v ∧ r.R S H v F
  | .itm e => (∀ a, ¬ F a) ∧ ∃ v, o = some v ∧ RepI H v e
  | .wrk _ W => WkOk W H F

theorem SlotOk.keep {S S' : AS} {H H' : Hp} {o : Option V} {s : Slot} {F : AS} (h : SlotOk S H o s F) (hs : ∀ a, S a → S' a) (k : ∀ a u, Fx S H a ∨ F a → H a = some u → H' a = some u) : SlotOk S' H' o s F := by
  cases s with
  | junk => exact h
  | val d =>
    obtain ⟨h0, v, e, r⟩ := h
    exact ⟨h0, v, e, r.mono hs fun a u q => k a u (.inl q)⟩
  | own ds =>
    obtain ⟨p, vs, e, hF, hp, r⟩ := h
    exact ⟨p, vs, e, hF, k p _ (.inr ((hF p).mpr rfl)) hp, r.mono hs fun a u q => k a u (.inl q)⟩
  | bor K ds =>
    obtain ⟨p, vs, e, hF, hp, r⟩ := h
    exact ⟨p, vs, e, hF, hp.imp (fun z => ⟨z.1, rd_keep (fun o y => k p o (.inr z.1) y) z.2⟩) id, r.mono hs fun a u q => k a u (.inl q)⟩
  | res r =>
    obtain ⟨v, e, q⟩ := h
    exact ⟨v, e, r.st q hs k⟩
  | itm e =>
    obtain ⟨h0, v, e, r⟩ := h
    exact ⟨h0, v, e, r.mono fun a u z q => k a u (.inl (.inr z)) q⟩
  | wrk m W => exact WkOk.keep h fun b o z q => k b o (z.imp (fun z => .inr z) id) q

structure EnvOk (H0 : Hp) (S0 : AS) (G : List Slot) (S : AS) (F : Nat → AS) (q : L2.St) (H : Hp) : Prop where
  len : q.length = G.length
  ext : ∀ a o, H0 a = some o → H a = some o
  sfr : ∀ a, S a → S0 a ∨ H0 a = none
  slv : ∀ a, S a → H a ≠ none
  flv : ∀ i a, F i a → H a ≠ none
  sl : ∀ i s, G[i]? = some s → ∃ o, q[i]? = some o ∧ SlotOk S H o s (F i)
  mu : ∀ i s, G[i]? = some s → s.mutb = true → ∀ a, F i a → H0 a = none ∧ ¬ S a ∧ ∀ j, j ≠ i → ¬ F j a
  out : ∀ i, G.length ≤ i → ∀ a, ¬ F i a
  bo : ∀ i K ds, G[i]? = some (.bor K ds) → ∀ a, F i a → H0 a ≠ none

structure Grow (S : AS) (H : Hp) (S' : AS) (H' : Hp) : Prop where
  ext : ∀ a o, H a = some o → H' a = some o
  sub : ∀ a, S a → S' a
  new : ∀ a, S' a → S a ∨ H a = none
  lv : ∀ a, S' a → S a ∨ H' a ≠ none

theorem Grow.refl (S : AS) (H : Hp) : Grow S H S H := ⟨fun _ _ h => h, fun _ h => h, fun _ h => .inl h, fun _ h => .inl h⟩
theorem ne_none_ext {H H' : Hp} (e : ∀ a o, H a = some o → H' a = some o) {a : Addr} (h : H a ≠ none) : H' a ≠ none := by
  cases q : H a with
  | none => exact absurd q h
  | some o =>
    rw [e a o q]
    exact Option.some_ne_none _
theorem none_ext {H H' : Hp} (e : ∀ a o, H a = some o → H' a = some o) {a : Addr} (h : H' a = none) : H a = none := by
  cases q : H a with
  | none => rfl
  | some o =>
    rw [e a o q] at h
    cases h
theorem Grow.trans {S S1 S2 : AS} {H H1 H2 : Hp} (g : Grow S H S1 H1) (k : Grow S1 H1 S2 H2) : Grow S H S2 H2 :=
  ⟨fun a o h => k.ext a o (g.ext a o h), fun a h => k.sub a (g.sub a h), fun a h => (k.new a h).elim (g.new a) fun q => .inr (none_ext g.ext q),
    fun a h => (k.lv a h).elim (fun q => (g.lv a q).imp id (ne_none_ext k.ext)) .inr⟩
/-- a new object, frozen at once -/
theorem Grow.alloc {S : AS} {H : Hp} {p : Addr} {o : HO} (h : H p = none) : Grow S H (fun a => S a ∨ a = p) (upd H p o) :=
  ⟨fun a u e => by rw [upd_ne (ne_of_none e h)]; exact e, fun a q => .inl q, fun a q => q.imp id fun e => by rw [e]; exact h, fun a q => q.imp id fun e => by rw [e, upd_same]; exact Option.some_ne_none _⟩
/-- a new object, not frozen -/
theorem Grow.alloc0 {S : AS} {H : Hp} {p : Addr} {o : HO} (h : H p = none) : Grow S H S (upd H p o) :=
  ⟨fun a u e => by rw [upd_ne (ne_of_none e h)]; exact e, fun a q => q, fun a q => .inl q, fun a q => .inl q⟩

section
variable {H0 : Hp} {S0 : AS} {G : List Slot} {S S' : AS} {F : Nat → AS} {q : L2.St} {H H' : Hp}
theorem EnvOk.grow (e : EnvOk H0 S0 G S F q H) (g : Grow S H S' H') : EnvOk H0 S0 G S' F q H' where
  len := e.len
  ext := fun a o h => g.ext a o (e.ext a o h)
  sfr := fun a h => (g.new a h).elim (e.sfr a) fun z => .inr (none_ext e.ext z)
  slv := fun a h => (g.lv a h).elim (fun z => ne_none_ext g.ext (e.slv a z)) id
  flv := fun i a h => ne_none_ext g.ext (e.flv i a h)
  sl := fun i s h => by
    obtain ⟨o, h1, h2⟩ := e.sl i s h
    exact ⟨o, h1, h2.keep g.sub fun a u _ z => g.ext a u z⟩
  mu := fun i s h hm a ha => by
    obtain ⟨h1, h2, h3⟩ := e.mu i s h hm a ha
    exact ⟨h1, fun z => (g.new a z).elim h2 fun z => e.flv i a ha z, h3⟩
  out := e.out
  bo := e.bo

/-- a slot gets new contents; what stood there is let go -/
theorem EnvOk.put (e : EnvOk H0 S0 G S F q H) {i : Nat} (hi : i < G.length) {t : Slot} {o : Option V} {Fi : AS} (h : SlotOk S H o t Fi) (hl : ∀ a, Fi a → H a ≠ none)
    (hm : t.mutb = true → ∀ a, Fi a → H0 a = none ∧ ¬ S a ∧ ∀ j, j ≠ i → ¬ F j a)
    (hd : ∀ j s, j ≠ i → G[j]? = some s → s.mutb = true → ∀ a, F j a → ¬ Fi a) (hb : ∀ K ds, t ≠ .bor K ds) :
    EnvOk H0 S0 (G.set i t) S (fun j => if j = i then Fi else F j) (q.set i o) H where
  len := by rw [List.length_set, List.length_set, e.len]
  ext := e.ext
  sfr := e.sfr
  slv := e.slv
  flv := fun j a ha => by
    by_cases z : j = i
    · rw [if_pos z] at ha; exact hl a ha
    · rw [if_neg z] at ha; exact e.flv j a ha
  sl := fun j s hs => by
    by_cases z : j = i
    · subst z
      rw [List.getElem?_set_self hi] at hs
      cases hs
      refine ⟨o, List.getElem?_set_self (by rw [e.len]; exact hi), ?_⟩
      rw [if_pos rfl]; exact h
    · rw [List.getElem?_set_ne (Ne.symm z)] at hs
      obtain ⟨u, h1, h2⟩ := e.sl j s hs
      refine ⟨u, by rw [List.getElem?_set_ne (Ne.symm z)]; exact h1, ?_⟩
      rw [if_neg z]; exact h2
  mu := fun j s hs ms a ha => by
    by_cases z : j = i
    · subst z
      rw [List.getElem?_set_self hi] at hs
      cases hs
      rw [if_pos rfl] at ha
      obtain ⟨h1, h2, h3⟩ := hm ms a ha
      exact ⟨h1, h2, fun k hk => by rw [if_neg hk]; exact h3 k hk⟩
    · rw [List.getElem?_set_ne (Ne.symm z)] at hs
      rw [if_neg z] at ha
      obtain ⟨h1, h2, h3⟩ := e.mu j s hs ms a ha
      refine ⟨h1, h2, fun k hk => ?_⟩
      by_cases zk : k = i
      · rw [if_pos zk]; exact hd j s z hs ms a ha
      · rw [if_neg zk]; exact h3 k hk
  out := fun j hj a ha => by
    rw [List.length_set] at hj
    rw [if_neg (by omega)] at ha
    exact e.out j hj a ha
  bo := fun j K ds hs a ha => by
    by_cases z : j = i
    · subst z
      rw [List.getElem?_set_self hi] at hs
      cases hs
      exact absurd rfl (hb K ds)
    · rw [List.getElem?_set_ne (Ne.symm z)] at hs
      rw [if_neg z] at ha
      exact e.bo j K ds hs a ha
theorem EnvOk.putv (e : EnvOk H0 S0 G S F q H) {i : Nat} (hi : i < G.length) {d : D} {v : V} (r : Rep S H v d) : EnvOk H0 S0 (G.set i (.val d)) S (fun j => if j = i then (fun _ => False) else F j) (q.set i (some v)) H :=
  e.put hi ⟨fun _ z => z, v, rfl, r⟩ (fun _ z => z.elim) (fun z => by cases z) (fun _ _ _ _ _ _ _ z => z) fun K ds z => by cases z
theorem EnvOk.putj (e : EnvOk H0 S0 G S F q H) {i : Nat} (hi : i < G.length) (o : Option V) : EnvOk H0 S0 (G.set i .junk) S (fun j => if j = i then (fun _ => False) else F j) (q.set i o) H :=
  e.put hi (fun _ z => z) (fun _ z => z.elim) (fun z => by cases z) (fun _ _ _ _ _ _ _ z => z) fun K ds z => by cases z
/-- a new list, one's own -/
theorem EnvOk.puto (e : EnvOk H0 S0 G S F q H) {i : Nat} (hi : i < G.length) {ds : List D} {p : Addr} {vs : List V} (hp : H p = some (.lst vs)) (r : Reps S H vs ds) (h0 : H0 p = none) (hS : ¬ S p) (hF : ∀ j, ¬ F j p) :
    EnvOk H0 S0 (G.set i (.own ds)) S (fun j => if j = i then (fun a => a = p) else F j) (q.set i (some (.ref p))) H :=
  e.put hi ⟨p, vs, rfl, fun _ => Iff.rfl, hp, r⟩ (fun a z => by rw [z, hp]; exact Option.some_ne_none _) (fun _ a z => by rw [z]; exact ⟨h0, hS, fun j _ => hF j⟩) (fun j _ _ _ _ a ha z => hF j (z ▸ ha)) fun K ds z => by cases z
/-- a list of one's own changes -/
theorem EnvOk.store (e : EnvOk H0 S0 G S F q H) {i : Nat} {ds : List D} (hi : G[i]? = some (.own ds)) {ds' : List D} {p : Addr} {vs' : List V} (hp : q[i]? = some (some (.ref p))) (r : Reps S H vs' ds') :
    EnvOk H0 S0 (G.set i (.own ds')) S F q (upd H p (.lst vs')) := by
  obtain ⟨o, h1, p', vs, rfl, hF, hp', r'⟩ := e.sl i _ hi
  rw [hp] at h1
  cases h1
  have pF : F i p := (hF p).mpr rfl
  obtain ⟨m1, m2, m3⟩ := e.mu i _ hi rfl p pF
  have il : i < G.length := (List.getElem?_eq_some_iff.mp hi).1
  refine ⟨by rw [List.length_set, e.len], fun a o h => ?_, e.sfr, fun a h => ?_, fun j a h => ?_, fun j s hs => ?_, fun j s hs ms => ?_, fun j hj => e.out j (by rw [List.length_set] at hj; exact hj), fun j K es hs => ?_⟩
  · rw [upd_ne (ne_of_none h m1)]; exact e.ext a o h
  · by_cases z : a = p
    · rw [z, upd_same]; exact Option.some_ne_none _
    · rw [upd_ne z]; exact e.slv a h
  · by_cases z : a = p
    · rw [z, upd_same]; exact Option.some_ne_none _
    · rw [upd_ne z]; exact e.flv j a h
  · by_cases z : j = i
    · subst z
      rw [List.getElem?_set_self il] at hs
      cases hs
      refine ⟨_, hp, p, vs', rfl, hF, upd_same, r.mono (fun _ z => z) fun a o ha h => ?_⟩
      have zz : a ≠ p := fun z => by subst z; exact ha.elim m2 fun ⟨xs, w⟩ => nt_lst hp' xs w
      rw [upd_ne zz]; exact h
    · rw [List.getElem?_set_ne (Ne.symm z)] at hs
      obtain ⟨o, h1, h2⟩ := e.sl j s hs
      refine ⟨o, h1, h2.keep (fun _ z => z) fun a u ha h => ?_⟩
      have zz : a ≠ p := fun w => by subst w; exact ha.elim (fun ha => ha.elim m2 fun ⟨xs, w⟩ => nt_lst hp' xs w) (m3 j z)
      rw [upd_ne zz]; exact h
  · by_cases z : j = i
    · subst z
      rw [List.getElem?_set_self il] at hs
      cases hs
      exact e.mu j _ hi rfl
    · rw [List.getElem?_set_ne (Ne.symm z)] at hs
      exact e.mu j s hs ms
  · by_cases z : j = i
    · subst z
      rw [List.getElem?_set_self il] at hs
      cases hs
    · rw [List.getElem?_set_ne (Ne.symm z)] at hs
      exact e.bo j K es hs
/-- a list of one's own is frozen -/
theorem EnvOk.freeze (e : EnvOk H0 S0 G S F q H) {i : Nat} {ds : List D} (hi : G[i]? = some (.own ds)) : ∃ S' F', (∀ a, S a → S' a) ∧ EnvOk H0 S0 (G.set i (.val (.list ds))) S' F' q H := by
  obtain ⟨o, h1, p, vs, rfl, hF, hp, r⟩ := e.sl i _ hi
  have pF : F i p := (hF p).mpr rfl
  obtain ⟨m1, m2, m3⟩ := e.mu i _ hi rfl p pF
  have il : i < G.length := (List.getElem?_eq_some_iff.mp hi).1
  have hs0 : ∀ a, S a → (fun a => S a ∨ a = p) a := fun a z => .inl z
  refine ⟨fun a => S a ∨ a = p, fun j => if j = i then (fun _ => False) else F j, hs0, ⟨by rw [List.length_set, e.len], e.ext, fun a h => h.elim (e.sfr a) fun z => .inr (by rw [z]; exact m1), fun a h => h.elim (e.slv a) fun z => ?_, fun j a h => ?_, fun j s hs => ?_, fun j s hs ms a ha => ?_, fun j hj a ha => ?_, fun j K es hs a ha => ?_⟩⟩
  · rw [z, hp]; exact Option.some_ne_none _
  · by_cases z : j = i
    · rw [if_pos z] at h; exact h.elim
    · rw [if_neg z] at h; exact e.flv j a h
  · by_cases z : j = i
    · subst z
      rw [List.getElem?_set_self il] at hs
      cases hs
      refine ⟨_, h1, ?_⟩
      rw [if_pos rfl]
      exact ⟨fun _ z => z, _, rfl, .lst (.inr rfl) hp (r.mono hs0 fun _ _ _ z => z)⟩
    · rw [List.getElem?_set_ne (Ne.symm z)] at hs
      obtain ⟨o, h1, h2⟩ := e.sl j s hs
      refine ⟨o, h1, ?_⟩
      rw [if_neg z]
      exact h2.keep hs0 fun _ _ _ z => z
  · by_cases z : j = i
    · subst z
      rw [List.getElem?_set_self il] at hs
      cases hs
      cases ms
    · rw [List.getElem?_set_ne (Ne.symm z)] at hs
      rw [if_neg z] at ha
      obtain ⟨h1, h2, h3⟩ := e.mu j s hs ms a ha
      refine ⟨h1, fun w => w.elim h2 fun w => m3 j z (w ▸ ha), fun k hk => ?_⟩
      by_cases zk : k = i
      · rw [if_pos zk]; exact fun w => w
      · rw [if_neg zk]; exact h3 k hk
  · rw [List.length_set] at hj
    rw [if_neg (by omega)] at ha
    exact e.out j hj a ha
  · by_cases z : j = i
    · rw [if_pos z] at ha
      exact ha.elim
    · rw [List.getElem?_set_ne (Ne.symm z)] at hs
      rw [if_neg z] at ha
      exact e.bo j K es hs a ha
/-- an object that no name and nothing frozen knows changes -/
theorem EnvOk.other (e : EnvOk H0 S0 G S F q H) {p : Addr} {u : HO} (h0 : H0 p = none) (hS : ¬ S p) (hF : ∀ j, ¬ F j p) (hT : NT H p) : EnvOk H0 S0 G S F q (upd H p u) where
  len := e.len
  ext := fun a o h => by rw [upd_ne (ne_of_none h h0)]; exact e.ext a o h
  sfr := e.sfr
  slv := fun a h => by
    by_cases z : a = p
    · rw [z, upd_same]; exact Option.some_ne_none _
    · rw [upd_ne z]; exact e.slv a h
  flv := fun j a h => by
    by_cases z : a = p
    · rw [z, upd_same]; exact Option.some_ne_none _
    · rw [upd_ne z]; exact e.flv j a h
  sl := fun j s hs => by
    obtain ⟨o, h1, h2⟩ := e.sl j s hs
    refine ⟨o, h1, h2.keep (fun _ z => z) fun a u ha h => ?_⟩
    have zz : a ≠ p := fun w => by subst w; exact ha.elim (fun ha => ha.elim hS fun ⟨xs, w⟩ => hT xs w) (hF j)
    rw [upd_ne zz]; exact h
  mu := e.mu
  out := e.out
  bo := e.bo
end
/-- what is frozen stays as it is -/
structure Keep (S : AS) (H : Hp) (S' : AS) (H' : Hp) : Prop where
  sub : ∀ a, S a → S' a
  obj : ∀ a o, Fx S H a → H a = some o → H' a = some o
theorem Keep.o {S S' : AS} {H H' : Hp} (k : Keep S H S' H') {a : Addr} {o : HO} (h : S a) (e : H a = some o) : H' a = some o := k.obj a o (.inl h) e
theorem Keep.refl (S : AS) (H : Hp) : Keep S H S H := ⟨fun _ h => h, fun _ _ _ h => h⟩
theorem Keep.fx {S S1 : AS} {H H1 : Hp} (g : Keep S H S1 H1) {a : Addr} (h : Fx S H a) : Fx S1 H1 a := h.imp (g.sub a) fun ⟨xs, r⟩ => ⟨xs, rd_keep (fun o e => g.obj a o (.inr ⟨xs, r⟩) e) r⟩
theorem Keep.trans {S S1 S2 : AS} {H H1 H2 : Hp} (g : Keep S H S1 H1) (k : Keep S1 H1 S2 H2) : Keep S H S2 H2 := ⟨fun a h => k.sub a (g.sub a h), fun a o z h => k.obj a o (g.fx z) (g.obj a o z h)⟩
theorem Grow.keep {S S1 : AS} {H H1 : Hp} (g : Grow S H S1 H1) : Keep S H S1 H1 := ⟨g.sub, fun a o _ h => g.ext a o h⟩
theorem Keep.upd {S : AS} {H : Hp} {p : Addr} {o : HO} (h : ¬ S p) (hT : NT H p) : Keep S H S (upd H p o) := ⟨fun _ z => z, fun a u z e => by
  have zz : a ≠ p := fun w => by subst w; exact z.elim h fun ⟨xs, w⟩ => hT xs w
  rw [upd_ne zz]; exact e⟩
theorem Rep.keep {S S' : AS} {H H' : Hp} (k : Keep S H S' H') {v : V} {d : D} (r : Rep S H v d) : Rep S' H' v d := r.mono k.sub k.obj
theorem Reps.keep {S S' : AS} {H H' : Hp} (k : Keep S H S' H') {v : List V} {d : List D} (r : Reps S H v d) : Reps S' H' v d := r.mono k.sub k.obj
end DL

namespace DL
open PySem PySem.Spec PyProof.Rows L2

/-! ### the machine's own readings -/
def wE (X : Cx) (e : Expr) : TE := fun q H Q => ∀ pins s, Inv X pins q H s → wpAny (model X.prog X.w) X.A (eval e X.env) (EP X pins q Q) X.xe s
def wT (X : Cx) (e : Expr) : TT := fun q H Q => ∀ pins s, Inv X pins q H s → wpAny (model X.prog X.w) X.A (isTrue e X.env (eval e X.env)) (TP X pins q Q) X.xe s
def wW (X : Cx) (e : Expr) : TT := fun q H Q => ∀ whole pins s, Inv X pins q H s → wpAny (model X.prog X.w) X.A (isTrue e X.env whole) (TP X pins q Q) X.xe s
def wA (X : Cx) (es : List Expr) : TA := fun q H Q => ∀ pos pins s, Inv X pins q H s → wpAny (model X.prog X.w) X.A (spliced (backTo pos (starEach es X.env))) (AP X pins q Q) X.xe s
def wSs (X : Cx) (ss : List Stmt) : TS := fun Dd q H => ∀ pins s, Inv X pins q H s → wpAny (model X.prog X.w) X.A (execs ss X.env) (SP X pins Dd) X.xe s
def wG (X : Cx) (tg : Expr) : TG := fun v q H Q => ∀ pins s u, Inv X pins q H s → RelV v u → wpAny (model X.prog X.w) X.A (assign tg X.env u) (fun _ s' => ∃ q' H', Inv X pins q' H' s' ∧ Q q' H') X.xe s
def wGs (X : Cx) (ts : List Expr) : TGs := fun vs q H Q => ∀ pins s us, Inv X pins q H s → Vals vs us → wpAny (model X.prog X.w) X.A (assignInOrder ((assignEach ts X.env).map (·.2)) us) (fun _ s' => ∃ q' H', Inv X pins q' H' s' ∧ Q q' H') X.xe s
section
variable {X : Cx} {e : Expr} {es : List Expr} {ss : List Stmt} {q : L2.St} {H : Hp}
theorem pwE : PE X e (wE X e) := ⟨fun pins s _ _ _ I h => h pins s I⟩
theorem pwT : PT X e (wT X e) := ⟨fun pins s _ _ _ I h => h pins s I⟩
theorem pwW : PW X e (wW X e) := ⟨fun wh pins s _ _ _ I h => h wh pins s I⟩
theorem pwA : PA X es (wA X es) := ⟨fun pos pins s _ _ _ I h => h pos pins s I⟩
theorem pwSs : PSs X ss (wSs X ss) := ⟨fun pins s _ _ _ I h => h pins s I⟩
theorem pwG : PG X e (wG X e) := ⟨fun pins s _ _ _ u _ I r h => h pins s u I r⟩
theorem pwGs : PGs X es (wGs X es) := ⟨fun pins s _ _ _ us _ I r h => h pins s us I r⟩
theorem wE_of {t : TE} {Q : VK} (h : PE X e t) (k : t q H Q) : wE X e q H Q := fun pins s I => h.run pins s q H Q I k
theorem wT_of {t : TT} {Q : Bool → Hp → Prop} (h : PT X e t) (k : t q H Q) : wT X e q H Q := fun pins s I => h.run pins s q H Q I k
theorem wW_of {t : TT} {Q : Bool → Hp → Prop} (h : PW X e t) (k : t q H Q) : wW X e q H Q := fun wh pins s I => h.run wh pins s q H Q I k
theorem wA_of {t : TA} {Q : List V → Hp → Prop} (h : PA X es t) (k : t q H Q) : wA X es q H Q := fun pos pins s I => h.run pos pins s q H Q I k
theorem wSs_of {t : TS} {Dd : Ends} (h : PSs X ss t) (k : t Dd q H) : wSs X ss Dd q H := fun pins s I => h.run pins s q H Dd I k
theorem wG_of {t : TG} {v : V} {Q : L2.St → Hp → Prop} (h : PG X e t) (k : t v q H Q) : wG X e v q H Q := fun pins s u I r => h.run pins s q H v u Q I r k
theorem wGs_of {t : TGs} {vs : List V} {Q : L2.St → Hp → Prop} (h : PGs X es t) (k : t vs q H Q) : wGs X es vs q H Q := fun pins s us I r => h.run pins s q H vs us Q I r k
end

/-! ### data judgements -/
inductive RV where
  | val (d : D)
  | own (ds : List D)
def RV.dat : RV → D
  | .val d => d
  | .own ds => .list ds
inductive Out where
  | nxt (G : List Slot)
  | ret (r : RV)
  | eff (G : List Slot) (e : E)
  | brk (G : List Slot)
  | cnt (G : List Slot)

def DE (X : Cx) (H0 : Hp) (S0 : AS) (e : Expr) (G : List Slot) (d : D) : Prop := ∀ S F q H, EnvOk H0 S0 G S F q H → ∀ Q : VK, (∀ v H' S', Grow S H S' H' → Rep S' H' v d → Q v H') → wE X e q H Q
def DO (X : Cx) (H0 : Hp) (S0 : AS) (e : Expr) (G : List Slot) (ds : List D) : Prop := ∀ S F q H, EnvOk H0 S0 G S F q H → ∀ Q : VK, (∀ p vs H' S', Grow S H S' H' → H p = none → ¬ S' p → H' p = some (.lst vs) → Reps S' H' vs ds → Q (.ref p) H') → wE X e q H Q
def DLs (X : Cx) (H0 : Hp) (S0 : AS) (e : Expr) (G : List Slot) (ds : List D) : Prop := ∀ S F q H, EnvOk H0 S0 G S F q H → ∀ Q : VK, (∀ p vs H' S', Grow S H S' H' → SqL X.K H' p vs → Reps S' H' vs ds → Q (.ref p) H') → wE X e q H Q
/-- a list that no written part holds -/
def DLr (X : Cx) (H0 : Hp) (S0 : AS) (e : Expr) (G : List Slot) (ds : List D) : Prop := ∀ S F q H, EnvOk H0 S0 G S F q H → ∀ Q : VK, (∀ p vs H' S', Grow S H S' H' → Rd H' p (.lst vs) → Reps S' H' vs ds → Q (.ref p) H') → wE X e q H Q
def DT (X : Cx) (H0 : Hp) (S0 : AS) (e : Expr) (G : List Slot) (b : Bool) : Prop := ∀ S F q H, EnvOk H0 S0 G S F q H → ∀ Q : Bool → Hp → Prop, (∀ H' S', Grow S H S' H' → Q b H') → wT X e q H Q
def DW (X : Cx) (H0 : Hp) (S0 : AS) (e : Expr) (G : List Slot) (b : Bool) : Prop := ∀ S F q H, EnvOk H0 S0 G S F q H → ∀ Q : Bool → Hp → Prop, (∀ H' S', Grow S H S' H' → Q b H') → wW X e q H Q
def DA (X : Cx) (H0 : Hp) (S0 : AS) (es : List Expr) (G : List Slot) (ds : List D) : Prop := ∀ S F q H, EnvOk H0 S0 G S F q H → ∀ Q : List V → Hp → Prop, (∀ vs H' S', Grow S H S' H' → Reps S' H' vs ds → Q vs H') → wA X es q H Q

/-- arguments: a value, or (true) a list that is lent -/
inductive RepB (K : PySem.W.Frag) (S : AS) (H : Hp) : Bool → V → D → Prop
  | v {x : V} {d : D} : Rep S H x d → RepB K S H false x d
  | b {p : Addr} {vs : List V} {ds : List D} : SqL K H p vs → Reps S H vs ds → RepB K S H true (.ref p) (.list ds)
inductive RepsB (K : PySem.W.Frag) (S : AS) (H : Hp) : List Bool → List V → List D → Prop
  | nil : RepsB K S H [] [] []
  | cons {b : Bool} {v : V} {d : D} {bs : List Bool} {vs : List V} {ds : List D} : RepB K S H b v d → RepsB K S H bs vs ds → RepsB K S H (b :: bs) (v :: vs) (d :: ds)
theorem sql_ext {K : PySem.W.Frag} {H H' : Hp} {a : Addr} {xs : List V} (e : ∀ a o, H a = some o → H' a = some o) (h : SqL K H a xs) : SqL K H' a xs := h.imp (rd_keep fun o z => e _ o z) id
def DB (X : Cx) (H0 : Hp) (S0 : AS) (bs : List Bool) (es : List Expr) (G : List Slot) (ds : List D) : Prop := ∀ S F q H, EnvOk H0 S0 G S F q H → ∀ Q : List V → Hp → Prop, (∀ vs H' S', Grow S H S' H' → RepsB X.K S' H' bs vs ds → Q vs H') → wA X es q H Q

structure EndOk (H0 : Hp) (S0 S1 : AS) (H1 : Hp) (P : Out → Prop) (Dd : Ends) : Prop where
  nx : ∀ G S F q H, P (.nxt G) → Keep S1 H1 S H → EnvOk H0 S0 G S F q H → Dd.nx q H
  bk : ∀ G S F q H, P (.brk G) → Keep S1 H1 S H → EnvOk H0 S0 G S F q H → Dd.bk q H
  ct : ∀ G S F q H, P (.cnt G) → Keep S1 H1 S H → EnvOk H0 S0 G S F q H → Dd.ct q H
  rv : ∀ d v S H, P (.ret (.val d)) → (∀ a o, H0 a = some o → H a = some o) → (∀ a, S a → S0 a ∨ H0 a = none) → (∀ a, S a → H a ≠ none) → Rep S H v d → Dd.rt v H
  ro : ∀ ds p vs S H, P (.ret (.own ds)) → (∀ a o, H0 a = some o → H a = some o) → (∀ a, S a → S0 a ∨ H0 a = none) → (∀ a, S a → H a ≠ none) → H0 p = none → ¬ S p → H p = some (.lst vs) → Reps S H vs ds → Dd.rt (.ref p) H
  re : ∀ G F q e v S H, P (.eff G e) → EnvOk H0 S0 G S F q H → RepI H v e → Dd.rt v H
def DS (X : Cx) (H0 : Hp) (S0 : AS) (ss : List Stmt) (G : List Slot) (P : Out → Prop) : Prop := ∀ S F q H Dd, EnvOk H0 S0 G S F q H → EndOk H0 S0 S H P Dd → wSs X ss Dd q H

/-- where one stands -/
structure XOk (P : Program) (w : World) (K : PySem.W.Frag) (mg : Str → Option Value) (base : Heap) (k : Nat) (N : List Str) (sc : Scope) (fa : Bool) (X : Cx) : Prop where
  eP : X.prog = P
  ew : X.w = w
  eK : X.K = K
  emg : X.mg = mg
  eb : X.base = base
  eN : X.N = N
  es : X.env.scope = sc
  nd : N.Nodup
  calm : X.calm = true
  room : Room k X.A
  fn : fa = true → ∀ x, X.fn x = true
  po : PassesOwn (model X.prog X.w) X.A X.env X.xe

def visB (sc : Scope) (x : Str) : Bool := match sc.names.lookup x with
  | some .local => true
  | some .cell => true
  | some .free => true
  | _ => false
def locB (sc : Scope) (x : Str) : Bool := match sc.names.lookup x with
  | some .local => true
  | some .cell => true
  | _ => false
def globB (sc : Scope) (x : Str) : Bool := match sc.names.lookup x with
  | some .globalImplicit => true
  | _ => false
theorem vis_of {sc : Scope} {x : Str} (h : visB sc x = true) : Vis sc x := by
  unfold visB at h
  unfold Vis
  split at h <;> first | (rename_i e; rw [e]; simp) | cases h
theorem loc_of {sc : Scope} {x : Str} (h : locB sc x = true) : L2.Loc sc x := by
  unfold locB at h
  unfold L2.Loc
  split at h <;> first | (rename_i e; rw [e]; simp) | cases h

section
variable {P : Program} {w : World} {K : PySem.W.Frag} {mg : Str → Option Value} {base : Heap} {k : Nat} {N : List Str} {sc : Scope} {fa : Bool} {X : Cx} {H0 : Hp} {S0 : AS} {G : List Slot} {pos p1 p2 p3 : Pos}
theorem XOk.gl (hX : XOk P w K mg base k N sc fa X) {x : Str} (h : globB sc x = true) : Gl X x := by
  unfold globB at h
  show X.env.scope.names.lookup x = some .globalImplicit
  rw [hX.es]
  split at h <;> first | assumption | cases h

/-! #### from one to another -/
theorem dls_val {e : Expr} {ds : List D} (h : DE X H0 S0 e G (.list ds)) : DLs X H0 S0 e G ds := fun S F q H E Q k => h S F q H E Q fun v H' S' g r => by
  cases r with
  | lst h1 h2 h3 => exact k _ _ H' S' g (.inl (.inl h2)) h3
theorem dlr_val {e : Expr} {ds : List D} (h : DE X H0 S0 e G (.list ds)) : DLr X H0 S0 e G ds := fun S F q H E Q k => h S F q H E Q fun v H' S' g r => by
  cases r with
  | lst h1 h2 h3 => exact k _ _ H' S' g (.inl h2) h3
theorem dlr_own {e : Expr} {ds : List D} (h : DO X H0 S0 e G ds) : DLr X H0 S0 e G ds := fun S F q H E Q k => h S F q H E Q fun p vs H' S' g _ _ hp r => k p vs H' S' g (.inl hp) r
theorem dls_own {e : Expr} {ds : List D} (h : DO X H0 S0 e G ds) : DLs X H0 S0 e G ds := fun S F q H E Q k => h S F q H E Q fun p vs H' S' g _ _ hp r => k p vs H' S' g (.inl (.inl hp)) r
theorem de_own {e : Expr} {ds : List D} (h : DO X H0 S0 e G ds) : DE X H0 S0 e G (.list ds) := fun S F q H E Q k => h S F q H E Q fun p vs H' S' g hn hs hp r =>
  k (.ref p) H' (fun a => S' a ∨ a = p) ⟨g.ext, fun a z => .inl (g.sub a z), fun a z => z.elim (g.new a) fun z => .inr (by rw [z]; exact hn), fun a z => z.elim (g.lv a) fun z => .inr (by rw [z, hp]; exact Option.some_ne_none _)⟩
    (.lst (.inr rfl) hp (r.mono (fun _ z => .inl z) fun _ _ _ z => z))
/-! #### names, constants -/
theorem de_v (i : Nat) (hX : XOk P w K mg base k N sc fa X) {x : Str} {d : D} (hN : N[i]? = some x := by rfl) (hv : visB sc x = true := by decide +kernel) (h : G[i]? = some (.val d) := by rfl) (hd : (x == ("__debug__" : Str)) = false := by decide) (hcd : (x == ("__classdict__" : Str)) = false := by decide) :
    DE X H0 S0 (.Name x pos) G d := fun S F q H E Q kk => by
  obtain ⟨o, h1, _, v, rfl, r⟩ := E.sl i _ h
  exact wE_of (pe_var (X := X) (i := i) (by rw [hX.eN]; exact hN) (by rw [hX.es]; exact vis_of hv) hd hcd) ⟨v, h1, kk v H S (Grow.refl S H) r⟩
theorem dlr_o (i : Nat) (hX : XOk P w K mg base k N sc fa X) {x : Str} {ds : List D} (hN : N[i]? = some x := by rfl) (hv : visB sc x = true := by decide +kernel) (h : G[i]? = some (.own ds) := by rfl) (hd : (x == ("__debug__" : Str)) = false := by decide) (hcd : (x == ("__classdict__" : Str)) = false := by decide) :
    DLr X H0 S0 (.Name x pos) G ds := fun S F q H E Q kk => by
  obtain ⟨o, h1, p, vs, rfl, _, hp, r⟩ := E.sl i _ h
  exact wE_of (pe_var (X := X) (i := i) (by rw [hX.eN]; exact hN) (by rw [hX.es]; exact vis_of hv) hd hcd) ⟨_, h1, kk p vs H S (Grow.refl S H) (.inl hp) r⟩
theorem dls_r {e : Expr} {ds : List D} (h : DLr X H0 S0 e G ds) : DLs X H0 S0 e G ds := fun S F q H E Q kk => h S F q H E Q fun p vs H' S' g hp r => kk p vs H' S' g (.inl hp) r
theorem dls_o (i : Nat) (hX : XOk P w K mg base k N sc fa X) {x : Str} {ds : List D} (hN : N[i]? = some x := by rfl) (hv : visB sc x = true := by decide +kernel) (h : G[i]? = some (.own ds) := by rfl) (hd : (x == ("__debug__" : Str)) = false := by decide) (hcd : (x == ("__classdict__" : Str)) = false := by decide) :
    DLs X H0 S0 (.Name x pos) G ds := dls_r (dlr_o i hX hN hv h hd hcd)
theorem dls_b (i : Nat) (hX : XOk P w K mg base k N sc fa X) {x : Str} {ds : List D} (hN : N[i]? = some x := by rfl) (hv : visB sc x = true := by decide +kernel) (h : G[i]? = some (.bor K ds) := by rfl) (hd : (x == ("__debug__" : Str)) = false := by decide) (hcd : (x == ("__classdict__" : Str)) = false := by decide) :
    DLs X H0 S0 (.Name x pos) G ds := fun S F q H E Q kk => by
  obtain ⟨o, h1, p, vs, rfl, _, hp, r⟩ := E.sl i _ h
  refine wE_of (pe_var (X := X) (i := i) (by rw [hX.eN]; exact hN) (by rw [hX.es]; exact vis_of hv) hd hcd) ⟨_, h1, kk p vs H S (Grow.refl S H) ?_ r⟩
  rw [hX.eK]
  exact hp.imp (fun z => z.2) id
theorem de_int {i : Int} {j : Nat} : DE X H0 S0 (.Constant (.int i) j pos) G (.int i) := fun S F q H E Q kk => wE_of pe_int (kk _ H S (Grow.refl S H) (.int i))
theorem de_bl {b : Bool} {j : Nat} : DE X H0 S0 (.Constant (.bool b) j pos) G (.bool b) := fun S F q H E Q kk => wE_of pe_bl (kk _ H S (Grow.refl S H) (.bl b))
theorem de_non {j : Nat} : DE X H0 S0 (.Constant .none j pos) G .none := fun S F q H E Q kk => wE_of pe_non (kk _ H S (Grow.refl S H) .non)
theorem de_str {x : Str} {j : Nat} : DE X H0 S0 (.Constant (.str x) j pos) G (.str x) := fun S F q H E Q kk => wE_of pe_str (kk _ H S (Grow.refl S H) (.str x))

/-! #### operators -/
theorem de_op2 {op : Operator} {r : R2} {a b : Expr} {x y z : D} (ho : OpR X (binaryOp op) r) (ha : DE X H0 S0 a G x) (hb : DE X H0 S0 b G y)
    (hr : ∀ S H v u (Q : VK), Rep S H v x → Rep S H u y → (∀ v' H' S', Grow S H S' H' → Rep S' H' v' z → Q v' H') → r v u H Q) : DE X H0 S0 (.BinOp a op b pos) G z := fun S F q H E Q kk =>
  wE_of (pe_op ho pwE pwE) (ha S F q H E _ fun v H1 S1 g1 r1 => hb S1 F q H1 (E.grow g1) _ fun u H2 S2 g2 r2 =>
    hr S2 H2 v u Q (r1.mono g2.sub fun a o _ e => g2.ext a o e) r2 fun v' H3 S3 g3 r3 => kk v' H3 S3 ((g1.trans g2).trans g3) r3)
theorem de_opI {op : Operator} {C : Int → Int → Prop} {g : Int → Int → Int} {a b : Expr} {i j : Int} (ho : OpR X (binaryOp op) (rI C fun i j => .int (g i j))) (ha : DE X H0 S0 a G (.int i)) (hb : DE X H0 S0 b G (.int j)) (hc : C i j) : DE X H0 S0 (.BinOp a op b pos) G (.int (g i j)) :=
  de_op2 ho ha hb fun S H v u Q rv ru kk => by
    cases rv; cases ru
    exact ⟨_, _, rfl, rfl, hc, kk _ H S (Grow.refl S H) (.int _)⟩
theorem de_opI0 {op : Operator} {g : Int → Int → Int} {a b : Expr} {i j : Int} (ho : OpR X (binaryOp op) (rI0 fun i j => .int (g i j))) (ha : DE X H0 S0 a G (.int i)) (hb : DE X H0 S0 b G (.int j)) : DE X H0 S0 (.BinOp a op b pos) G (.int (g i j)) :=
  de_op2 ho ha hb fun S H v u Q rv ru kk => by
    cases rv; cases ru
    exact ⟨_, _, rfl, rfl, kk _ H S (Grow.refl S H) (.int _)⟩
theorem de_add {a b : Expr} {i j : Int} (ha : DE X H0 S0 a G (.int i)) (hb : DE X H0 S0 b G (.int j)) : DE X H0 S0 (.BinOp a .Add b pos) G (.int (i + j)) := de_opI0 op_add ha hb
theorem de_sub {a b : Expr} {i j : Int} (ha : DE X H0 S0 a G (.int i)) (hb : DE X H0 S0 b G (.int j)) : DE X H0 S0 (.BinOp a .Sub b pos) G (.int (i - j)) := de_opI0 op_sub ha hb
/-- one factor is below 2 ^ 64 -/
theorem de_mul {a b : Expr} {i j : Int} (ha : DE X H0 S0 a G (.int i)) (hb : DE X H0 S0 b G (.int j)) (hc : CMul i j) : DE X H0 S0 (.BinOp a .Mult b pos) G (.int (i * j)) := de_opI op_mul ha hb hc
/-- a written factor -/
theorem de_mulL {a b : Expr} {i j : Int} (ha : DE X H0 S0 a G (.int i)) (hb : DE X H0 S0 b G (.int j)) (hc : -(2 ^ 64) < i ∧ i < 2 ^ 64 := by decide +kernel) : DE X H0 S0 (.BinOp a .Mult b pos) G (.int (i * j)) := de_opI op_mul ha hb (.inl hc)
theorem de_mulR {a b : Expr} {i j : Int} (ha : DE X H0 S0 a G (.int i)) (hb : DE X H0 S0 b G (.int j)) (hc : -(2 ^ 64) < j ∧ j < 2 ^ 64 := by decide +kernel) : DE X H0 S0 (.BinOp a .Mult b pos) G (.int (i * j)) := de_opI op_mul ha hb (.inr hc)
theorem de_mulW {a b : Expr} {i j : Int} (ha : DE X H0 S0 a G (.int i)) (hb : DE X H0 S0 b G (.int j)) (hc : CMulW i j) : DE X H0 S0 (.BinOp a .Mult b pos) G (.int (i * j)) := de_opI op_mulW ha hb hc
theorem de_div {a b : Expr} {i j : Int} (ha : DE X H0 S0 a G (.int i)) (hb : DE X H0 S0 b G (.int j)) (hc : CDivW i j := by exact ⟨by decide +kernel, by decide +kernel⟩) : DE X H0 S0 (.BinOp a .FloorDiv b pos) G (.int (i / j)) := de_opI op_fdivW ha hb hc
theorem de_mod {a b : Expr} {i j : Int} (ha : DE X H0 S0 a G (.int i)) (hb : DE X H0 S0 b G (.int j)) (hc : 0 < j := by decide +kernel) : DE X H0 S0 (.BinOp a .Mod b pos) G (.int (i % j)) := de_opI op_mod ha hb hc
theorem de_pow {a b : Expr} {i j : Int} (ha : DE X H0 S0 a G (.int i)) (hb : DE X H0 S0 b G (.int j)) (hc : CPow i j := by exact ⟨by decide +kernel, by decide +kernel, by decide +kernel⟩) : DE X H0 S0 (.BinOp a .Pow b pos) G (.int (i ^ j.toNat)) := de_opI op_pow ha hb hc
theorem de_neg {a : Expr} {i : Int} (ha : DE X H0 S0 a G (.int i)) : DE X H0 S0 (.UnaryOp .USub a pos) G (.int (-i)) := fun S F q H E Q kk =>
  wE_of (pe_un un_neg pwE) (ha S F q H E _ fun v H1 S1 g1 r1 => by
    cases r1
    exact ⟨_, rfl, kk _ H1 S1 g1 (.int _)⟩)
theorem de_adds {a b : Expr} {x y : Str} (ha : DE X H0 S0 a G (.str x)) (hb : DE X H0 S0 b G (.str y)) (hz : x.length + y.length ≤ sizeLine) : DE X H0 S0 (.BinOp a .Add b pos) G (.str (x ++ y)) :=
  de_op2 op_add_str ha hb fun S H v u Q rv ru kk => by
    cases rv; cases ru
    exact ⟨_, _, rfl, rfl, hz, kk _ H S (Grow.refl S H) (.str _)⟩

/-! #### comparisons -/
theorem de_cmp {op : CmpOp} {r : R2} {a b : Expr} {x y : D} {z : Bool} (ho : OpR X (compareOp op) r) (ha : DE X H0 S0 a G x) (hb : DE X H0 S0 b G y) (hm : behindInMarks op b = false)
    (hr : ∀ S H v u (Q : VK), Rep S H v x → Rep S H u y → Q (.bl z) H → r v u H Q) : DE X H0 S0 (.Compare a [op] [b] pos) G (.bool z) := fun S F q H E Q kk =>
  wE_of (pe_cmpR ho pwE pwE hm) (ha S F q H E _ fun v H1 S1 g1 r1 => hb S1 F q H1 (E.grow g1) _ fun u H2 S2 g2 r2 =>
    hr S2 H2 v u Q (r1.mono g2.sub fun a o _ e => g2.ext a o e) r2 (kk _ H2 S2 (g1.trans g2) (.bl z)))
theorem dt_cmp {op : CmpOp} {r : R2} {a b : Expr} {x y : D} {z : Bool} (ho : OpR X (compareOp op) r) (ha : DE X H0 S0 a G x) (hb : DE X H0 S0 b G y) (hm : behindInMarks op b = false)
    (hr : ∀ S H v u (Q : VK), Rep S H v x → Rep S H u y → Q (.bl z) H → r v u H Q) : DT X H0 S0 (.Compare a [op] [b] pos) G z := fun S F q H E Q kk =>
  wT_of (pt_cmpR ho pwE pwE hm) (ha S F q H E _ fun v H1 S1 g1 r1 => hb S1 F q H1 (E.grow g1) _ fun u H2 S2 g2 r2 =>
    hr S2 H2 v u _ (r1.mono g2.sub fun a o _ e => g2.ext a o e) r2 ⟨z, rfl, kk H2 S2 (g1.trans g2)⟩)
/-- what a comparison of two things is -/
inductive CmpD : CmpOp → D → D → Bool → Prop
  | lt {i j : Int} : CmpD .Lt (.int i) (.int j) (decide (i < j))
  | le {i j : Int} : CmpD .LtE (.int i) (.int j) (decide (i ≤ j))
  | gt {i j : Int} : CmpD .Gt (.int i) (.int j) (decide (j < i))
  | ge {i j : Int} : CmpD .GtE (.int i) (.int j) (decide (j ≤ i))
  | eq {i j : Int} : CmpD .Eq (.int i) (.int j) (decide (i = j))
  | ne {i j : Int} : CmpD .NotEq (.int i) (.int j) (!decide (i = j))
  | eqs {i j : Str} : CmpD .Eq (.str i) (.str j) (decide (i = j))
  | nes {i j : Str} : CmpD .NotEq (.str i) (.str j) (!decide (i = j))
  | eqb {i j : Bool} : CmpD .Eq (.bool i) (.bool j) (decide (i = j))
  | neb {i j : Bool} : CmpD .NotEq (.bool i) (.bool j) (!decide (i = j))
def cmpR (X : Cx) (op : CmpOp) : R2 := fun x y H Q => ∃ z, (∃ d e S, Rep S H x d ∧ Rep S H y e ∧ CmpD op d e z) ∧ Q (.bl z) H
theorem op_cmp (op : CmpOp) : OpR X (compareOp op) (cmpR X op) := by
  intro pins s q H x y v u Q I rx ry h
  obtain ⟨z, ⟨d, e, S, r1, r2, c⟩, hq⟩ := h
  have i1 : ∀ {i j : Int}, decide (V.int i = V.int j) = decide (i = j) := fun {i j} => by simp
  have i2 : ∀ {i j : Str}, decide (V.str i = V.str j) = decide (i = j) := fun {i j} => by simp
  have i3 : ∀ {i j : Bool}, decide (V.bl i = V.bl j) = decide (i = j) := fun {i j} => by simp
  cases c with
  | lt => cases r1; cases r2; exact op_lt pins s q H _ _ v u Q I rx ry ⟨_, _, rfl, rfl, hq⟩
  | le => cases r1; cases r2; exact op_le pins s q H _ _ v u Q I rx ry ⟨_, _, rfl, rfl, hq⟩
  | gt => cases r1; cases r2; exact op_gt pins s q H _ _ v u Q I rx ry ⟨_, _, rfl, rfl, hq⟩
  | ge => cases r1; cases r2; exact op_ge pins s q H _ _ v u Q I rx ry ⟨_, _, rfl, rfl, hq⟩
  | eq => cases r1; cases r2; exact op_eq pins s q H _ _ v u Q I rx ry ⟨rfl, by rw [i1]; exact hq⟩
  | ne => cases r1; cases r2; exact op_ne pins s q H _ _ v u Q I rx ry ⟨rfl, by rw [i1]; exact hq⟩
  | eqs => cases r1; cases r2; exact op_eq pins s q H _ _ v u Q I rx ry ⟨rfl, by rw [i2]; exact hq⟩
  | nes => cases r1; cases r2; exact op_ne pins s q H _ _ v u Q I rx ry ⟨rfl, by rw [i2]; exact hq⟩
  | eqb => cases r1; cases r2; exact op_eq pins s q H _ _ v u Q I rx ry ⟨rfl, by rw [i3]; exact hq⟩
  | neb => cases r1; cases r2; exact op_ne pins s q H _ _ v u Q I rx ry ⟨rfl, by rw [i3]; exact hq⟩
theorem CmpD.mark {op : CmpOp} {x y : D} {z : Bool} (c : CmpD op x y z) (b : Expr) : behindInMarks op b = false := by
  cases c <;> exact nomark b
theorem de_c {op : CmpOp} {a b : Expr} {x y : D} {z : Bool} (ha : DE X H0 S0 a G x) (hb : DE X H0 S0 b G y) (c : CmpD op x y z) : DE X H0 S0 (.Compare a [op] [b] pos) G (.bool z) :=
  de_cmp (op_cmp op) ha hb (c.mark b) fun S H v u Q r1 r2 h => ⟨z, ⟨x, y, S, r1, r2, c⟩, h⟩
theorem dt_c {op : CmpOp} {a b : Expr} {x y : D} {z : Bool} (ha : DE X H0 S0 a G x) (hb : DE X H0 S0 b G y) (c : CmpD op x y z) : DT X H0 S0 (.Compare a [op] [b] pos) G z :=
  dt_cmp (op_cmp op) ha hb (c.mark b) fun S H v u Q r1 r2 h => ⟨z, ⟨x, y, S, r1, r2, c⟩, h⟩
/-- x is None -/
def isNone : D → Bool
  | .none => true
  | _ => false
theorem rep_none {S : AS} {H : Hp} {v : V} {d : D} (r : Rep S H v d) : decide (v = .non) = isNone d := by
  cases r <;> simp [isNone]
theorem de_isN {a : Expr} {x : D} {j : Nat} (ha : DE X H0 S0 a G x) : DE X H0 S0 (.Compare a [.Is] [.Constant .none j p2] pos) G (.bool (isNone x)) :=
  de_cmp op_isN ha de_non (nomark _) fun S H v u Q r1 r2 h => by cases r2; exact ⟨rfl, by rw [rep_none r1]; exact h⟩
theorem dt_isN {a : Expr} {x : D} {j : Nat} (ha : DE X H0 S0 a G x) : DT X H0 S0 (.Compare a [.Is] [.Constant .none j p2] pos) G (isNone x) :=
  dt_cmp op_isN ha de_non (nomark _) fun S H v u Q r1 r2 h => by cases r2; exact ⟨rfl, by rw [rep_none r1]; exact h⟩
theorem de_notN {a : Expr} {x : D} {j : Nat} (ha : DE X H0 S0 a G x) : DE X H0 S0 (.Compare a [.IsNot] [.Constant .none j p2] pos) G (.bool (!isNone x)) :=
  de_cmp op_notN ha de_non (nomark _) fun S H v u Q r1 r2 h => by cases r2; exact ⟨rfl, by rw [rep_none r1]; exact h⟩
theorem dt_notN {a : Expr} {x : D} {j : Nat} (ha : DE X H0 S0 a G x) : DT X H0 S0 (.Compare a [.IsNot] [.Constant .none j p2] pos) G (!isNone x) :=
  dt_cmp op_notN ha de_non (nomark _) fun S H v u Q r1 r2 h => by cases r2; exact ⟨rfl, by rw [rep_none r1]; exact h⟩
/-- == of data -/
def DP (X : Cx) (H0 : Hp) (S0 : AS) (e : Expr) (G : List Slot) (d : D) : Prop := ∀ S F q H, EnvOk H0 S0 G S F q H → ∀ Q : VK, (∀ v H' S', Grow S H S' H' → (∀ H'', (∀ a o, H' a = some o → H'' a = some o) → Dp X.K H'' v d) → Q v H') → wE X e q H Q
theorem dp_e {e : Expr} {d : D} (h : DE X H0 S0 e G d) : DP X H0 S0 e G d := fun S F q H E Q kk => h S F q H E Q fun v H' S' g r => kk v H' S' g fun H'' e => (r.mono (S' := S') (fun _ z => z) fun a o _ z => e a o z).dp
theorem dp_l {e : Expr} {ds : List D} (h : DLs X H0 S0 e G ds) : DP X H0 S0 e G (.list ds) := fun S F q H E Q kk => h S F q H E Q fun p vs H' S' g hp r =>
  kk _ H' S' g fun H'' e => .lst (sql_ext e hp) (r.mono (S' := S') (fun _ z => z) fun a o _ z => e a o z).dp
theorem de_eqD (hX : XOk P w K mg base k N sc fa X) {a b : Expr} {x y : D} (ha : DP X H0 S0 a G x) (hb : DP X H0 S0 b G y) (h1 : SeqAt.shaped x = true) (h2 : SeqAt.shaped y = true) : DE X H0 S0 (.Compare a [.Eq] [b] pos) G (.bool (PyData.eqv x y)) := fun S F q H E Q kk =>
  wE_of (pe_cmpR (op_eqD hX.room.units) pwE pwE (nomark _)) (ha S F q H E _ fun v H1 S1 g1 r1 => hb S1 F q H1 (E.grow g1) _ fun u H2 S2 g2 r2 => ⟨x, y, r1 H2 g2.ext, r2 H2 fun _ _ z => z, h1, h2, kk _ H2 S2 (g1.trans g2) (.bl _)⟩)
theorem dt_eqD (hX : XOk P w K mg base k N sc fa X) {a b : Expr} {x y : D} (ha : DP X H0 S0 a G x) (hb : DP X H0 S0 b G y) (h1 : SeqAt.shaped x = true) (h2 : SeqAt.shaped y = true) : DT X H0 S0 (.Compare a [.Eq] [b] pos) G (PyData.eqv x y) := fun S F q H E Q kk =>
  wT_of (pt_cmpR (op_eqD hX.room.units) pwE pwE (nomark _)) (ha S F q H E _ fun v H1 S1 g1 r1 => hb S1 F q H1 (E.grow g1) _ fun u H2 S2 g2 r2 => ⟨x, y, r1 H2 g2.ext, r2 H2 fun _ _ z => z, h1, h2, _, rfl, kk H2 S2 (g1.trans g2)⟩)
theorem de_neD (hX : XOk P w K mg base k N sc fa X) {a b : Expr} {x y : D} (ha : DP X H0 S0 a G x) (hb : DP X H0 S0 b G y) (h1 : SeqAt.shaped x = true) (h2 : SeqAt.shaped y = true) : DE X H0 S0 (.Compare a [.NotEq] [b] pos) G (.bool (!PyData.eqv x y)) := fun S F q H E Q kk =>
  wE_of (pe_cmpR (op_neD hX.room.units) pwE pwE (nomark _)) (ha S F q H E _ fun v H1 S1 g1 r1 => hb S1 F q H1 (E.grow g1) _ fun u H2 S2 g2 r2 => ⟨x, y, r1 H2 g2.ext, r2 H2 fun _ _ z => z, h1, h2, kk _ H2 S2 (g1.trans g2) (.bl _)⟩)
theorem dt_neD (hX : XOk P w K mg base k N sc fa X) {a b : Expr} {x y : D} (ha : DP X H0 S0 a G x) (hb : DP X H0 S0 b G y) (h1 : SeqAt.shaped x = true) (h2 : SeqAt.shaped y = true) : DT X H0 S0 (.Compare a [.NotEq] [b] pos) G (!PyData.eqv x y) := fun S F q H E Q kk =>
  wT_of (pt_cmpR (op_neD hX.room.units) pwE pwE (nomark _)) (ha S F q H E _ fun v H1 S1 g1 r1 => hb S1 F q H1 (E.grow g1) _ fun u H2 S2 g2 r2 => ⟨x, y, r1 H2 g2.ext, r2 H2 fun _ _ z => z, h1, h2, _, rfl, kk H2 S2 (g1.trans g2)⟩)
/-- a < b < c of whole numbers -/
theorem chainR {op op' : CmpOp} {S : AS} {H : Hp} {Q : VK} {x y z : D} {b1 b2 : Bool} {v u t : V} (rv : Rep S H v x) (ru : Rep S H u y) (c1 : CmpD op x y b1) (c2 : CmpD op' y z b2) : True := trivial
theorem de_chain {op op' : CmpOp} {a b c : Expr} {x y z : D} {b1 b2 : Bool} (ha : DE X H0 S0 a G x) (hb : DE X H0 S0 b G y) (hc : DE X H0 S0 c G z) (c1 : CmpD op x y b1) (c2 : CmpD op' y z b2)
    (hm : lastMarks [op, op'] [b, c] = false := by with_unfolding_all rfl) : DE X H0 S0 (.Compare a [op, op'] [b, c] pos) G (.bool (b1 && b2)) := fun S F q H E Q kk =>
  wE_of (pe_chain (op_cmp op) (op_cmp op') pwE pwE pwE hm) (ha S F q H E _ fun v H1 S1 g1 r1 => hb S1 F q H1 (E.grow g1) _ fun u H2 S2 g2 r2 =>
    ⟨b1, ⟨x, y, S2, r1.mono g2.sub fun a o _ e => g2.ext a o e, r2, c1⟩, b1, rfl, by
      cases b1 with
      | false => exact iteF (kk _ H2 S2 (g1.trans g2) (.bl _))
      | true =>
        refine iteT (hc S2 F q H2 ((E.grow g1).grow g2) _ fun t H3 S3 g3 r3 => ⟨b2, ⟨y, z, S3, r2.mono g3.sub fun a o _ e => g3.ext a o e, r3, c2⟩, ?_⟩)
        exact kk _ H3 S3 ((g1.trans g2).trans g3) (.bl _)⟩)
theorem dt_chain {op op' : CmpOp} {a b c : Expr} {x y z : D} {b1 b2 : Bool} (ha : DE X H0 S0 a G x) (hb : DE X H0 S0 b G y) (hc : DE X H0 S0 c G z) (c1 : CmpD op x y b1) (c2 : CmpD op' y z b2)
    (hm : lastMarks [op, op'] [b, c] = false := by with_unfolding_all rfl) : DT X H0 S0 (.Compare a [op, op'] [b, c] pos) G (b1 && b2) := fun S F q H E Q kk =>
  wT_of (pt_chain (op_cmp op) (op_cmp op') pwE pwE pwE hm) (ha S F q H E _ fun v H1 S1 g1 r1 => hb S1 F q H1 (E.grow g1) _ fun u H2 S2 g2 r2 =>
    ⟨b1, ⟨x, y, S2, r1.mono g2.sub fun a o _ e => g2.ext a o e, r2, c1⟩, b1, rfl, by
      cases b1 with
      | false => exact iteF ⟨_, rfl, kk H2 S2 (g1.trans g2)⟩
      | true =>
        refine iteT (hc S2 F q H2 ((E.grow g1).grow g2) _ fun t H3 S3 g3 r3 => ⟨b2, ⟨y, z, S3, r2.mono g3.sub fun a o _ e => g3.ext a o e, r3, c2⟩, ?_⟩)
        exact ⟨_, rfl, kk H3 S3 ((g1.trans g2).trans g3)⟩⟩)

/-! #### tests -/
theorem dt_e {e : Expr} {b : Bool} (h : DE X H0 S0 e G (.bool b)) (he : ∀ whole, isTrue e X.env whole = (do let v ← whole; standAt e.pos; holding [v] (truthy v)) := by intro _; rfl) : DT X H0 S0 e G b := fun S F q H E Q kk =>
  wT_of (pt_val pwE he) (h S F q H E _ fun v H1 S1 g1 r1 => by cases r1; exact ⟨_, rfl, kk H1 S1 g1⟩)
theorem dt_not {a : Expr} {b : Bool} (h : DT X H0 S0 a G b) : DT X H0 S0 (.UnaryOp .Not a pos) G (!b) := fun S F q H E Q kk =>
  wT_of (pt_not pwT) (h S F q H E _ fun H1 S1 g1 => kk H1 S1 g1)
theorem dw_t {a : Expr} {op : BoolOp} {b : Bool} (h : DT X H0 S0 a G b) : DW X H0 S0 (.BoolOp op [a] pos) G b := fun S F q H E Q kk => by
  cases op with
  | And => exact wW_of (pw_and1 pwT) (h S F q H E Q kk)
  | Or => exact wW_of (pw_or1 pwT) (h S F q H E Q kk)
theorem dw_and {a b : Expr} {rest : List Expr} {x y : Bool} (h1 : DT X H0 S0 a G x) (h2 : x = true → DW X H0 S0 (.BoolOp .And (b :: rest) pos) G y) : DW X H0 S0 (.BoolOp .And (a :: b :: rest) pos) G (x && y) := fun S F q H E Q kk =>
  wW_of (pw_and pwT pwW) (h1 S F q H E _ fun H1 S1 g1 => by
    cases x with
    | false => exact iteF (kk H1 S1 g1)
    | true => exact iteT (h2 rfl S1 F q H1 (E.grow g1) _ fun H2 S2 g2 => kk H2 S2 (g1.trans g2)))
theorem dw_or {a b : Expr} {rest : List Expr} {x y : Bool} (h1 : DT X H0 S0 a G x) (h2 : x = false → DW X H0 S0 (.BoolOp .Or (b :: rest) pos) G y) : DW X H0 S0 (.BoolOp .Or (a :: b :: rest) pos) G (x || y) := fun S F q H E Q kk =>
  wW_of (pw_or pwT pwW) (h1 S F q H E _ fun H1 S1 g1 => by
    cases x with
    | true => exact iteT (kk H1 S1 g1)
    | false => exact iteF (h2 rfl S1 F q H1 (E.grow g1) _ fun H2 S2 g2 => kk H2 S2 (g1.trans g2)))
theorem dt_w {e : Expr} {b : Bool} (h : DW X H0 S0 e G b) : DT X H0 S0 e G b := fun S F q H E Q kk => wT_of (PW.pt pwW) (h S F q H E Q kk)
/-- and, or, not as values -/
theorem de_one {op : BoolOp} {a : Expr} {d : D} (h : DE X H0 S0 a G d) : DE X H0 S0 (.BoolOp op [a] pos) G d := fun S F q H E Q kk => wE_of (pe_one pwE) (h S F q H E Q kk)
theorem de_and {a b : Expr} {rest : List Expr} {x y : Bool} (h1 : DE X H0 S0 a G (.bool x)) (h2 : x = true → DE X H0 S0 (.BoolOp .And (b :: rest) pos) G (.bool y)) : DE X H0 S0 (.BoolOp .And (a :: b :: rest) pos) G (.bool (x && y)) := fun S F q H E Q kk =>
  wE_of (pe_and pwE pwE) (h1 S F q H E _ fun v H1 S1 g1 r1 => by
    cases r1
    refine ⟨_, rfl, ?_⟩
    cases x with
    | false => exact iteF (kk _ H1 S1 g1 (.bl _))
    | true => exact iteT (h2 rfl S1 F q H1 (E.grow g1) _ fun v H2 S2 g2 r2 => kk _ H2 S2 (g1.trans g2) r2))
theorem de_or {a b : Expr} {rest : List Expr} {x y : Bool} (h1 : DE X H0 S0 a G (.bool x)) (h2 : x = false → DE X H0 S0 (.BoolOp .Or (b :: rest) pos) G (.bool y)) : DE X H0 S0 (.BoolOp .Or (a :: b :: rest) pos) G (.bool (x || y)) := fun S F q H E Q kk =>
  wE_of (pe_or pwE pwE) (h1 S F q H E _ fun v H1 S1 g1 r1 => by
    cases r1
    refine ⟨_, rfl, ?_⟩
    cases x with
    | true => exact iteT (kk _ H1 S1 g1 (.bl _))
    | false => exact iteF (h2 rfl S1 F q H1 (E.grow g1) _ fun v H2 S2 g2 r2 => kk _ H2 S2 (g1.trans g2) r2))
theorem de_not {a : Expr} {x : Bool} (h1 : DE X H0 S0 a G (.bool x)) : DE X H0 S0 (.UnaryOp .Not a pos) G (.bool (!x)) := fun S F q H E Q kk =>
  wE_of (pe_not pwE) (h1 S F q H E _ fun v H1 S1 g1 r1 => by
    cases r1
    exact ⟨_, rfl, kk _ H1 S1 g1 (.bl _)⟩)
theorem de_if {c a b : Expr} {t : Bool} {x y : D} (hc : DT X H0 S0 c G t) (h1 : t = true → DE X H0 S0 a G x) (h2 : t = false → DE X H0 S0 b G y) : DE X H0 S0 (.IfExp c a b pos) G (if t = true then x else y) := fun S F q H E Q kk =>
  wE_of (pe_ifExp pwT pwE pwE) (hc S F q H E _ fun H1 S1 g1 => by
    cases t with
    | true => exact iteT (h1 rfl S1 F q H1 (E.grow g1) _ fun v H2 S2 g2 r2 => kk _ H2 S2 (g1.trans g2) r2)
    | false => exact iteF (h2 rfl S1 F q H1 (E.grow g1) _ fun v H2 S2 g2 r2 => kk _ H2 S2 (g1.trans g2) r2))

/-! #### tuples, lists -/
theorem da_nil : DA X H0 S0 [] G [] := fun S F q H E Q kk => wA_of pa_nil (kk [] H S (Grow.refl S H) .nil)
theorem da_cons {e : Expr} {es : List Expr} {d : D} {ds : List D} (h1 : DE X H0 S0 e G d) (h2 : DA X H0 S0 es G ds) (hs : starEach (e :: es) X.env = (false, eval e X.env) :: starEach es X.env := by rfl) : DA X H0 S0 (e :: es) G (d :: ds) := fun S F q H E Q kk =>
  wA_of (pa_cons pwE pwA hs) (h1 S F q H E _ fun v H1 S1 g1 r1 => h2 S1 F q H1 (E.grow g1) _ fun vs H2 S2 g2 r2 => kk _ H2 S2 (g1.trans g2) (.cons (r1.mono g2.sub fun a o _ e => g2.ext a o e) r2))
theorem de_tup {es : List Expr} {ds : List D} {x1} (h : DA X H0 S0 es G ds) (hz : ds.length ≤ 1000 := by exact Nat.le_of_ble_eq_true rfl) : DE X H0 S0 (.Tuple es x1 pos) G (.tuple ds) := fun S F q H E Q kk =>
  wE_of (pe_tup pwA) (h S F q H E _ fun vs H1 S1 g1 r1 => ⟨by rw [r1.len]; exact Nat.le_of_lt (small1000 hz), fun p hp => kk _ _ _ (g1.trans (Grow.alloc hp))
    (.tup (.inl upd_same) (r1.mono (fun _ z => .inl z) fun a o _ e => by rw [upd_ne (ne_of_none e hp)]; exact e))⟩)
theorem do_lst {es : List Expr} {ds : List D} (h : DA X H0 S0 es G ds) (hz : ds.length ≤ 1000 := by exact Nat.le_of_ble_eq_true rfl) : DO X H0 S0 (.List es pos) G ds := fun S F q H E Q kk =>
  wE_of (pe_lst pwA) (h S F q H E _ fun vs H1 S1 g1 r1 => ⟨by rw [r1.len]; exact Nat.le_of_lt (small1000 hz), fun p hp => kk p vs _ _ (g1.trans (Grow.alloc0 hp)) (none_ext g1.ext hp)
    (fun z => (E.grow g1).slv p z hp) upd_same (r1.mono (fun _ z => z) fun a o _ e => by rw [upd_ne (ne_of_none e hp)]; exact e)⟩)

/-! #### statements -/
theorem EndOk.imp {S1 : AS} {H1 : Hp} {P P' : Out → Prop} {Dd : Ends} (h : EndOk H0 S0 S1 H1 P' Dd) (i : ∀ o, P o → P' o) : EndOk H0 S0 S1 H1 P Dd :=
  ⟨fun G S F q H p => h.nx G S F q H (i _ p), fun G S F q H p => h.bk G S F q H (i _ p), fun G S F q H p => h.ct G S F q H (i _ p), fun d v S H p => h.rv d v S H (i _ p), fun ds p vs S H z => h.ro ds p vs S H (i _ z), fun G F q e v S H z => h.re G F q e v S H (i _ z)⟩
theorem DS.imp {ss : List Stmt} {P P' : Out → Prop} (h : DS X H0 S0 ss G P) (i : ∀ o, P o → P' o) : DS X H0 S0 ss G P' := fun S F q H Dd E k => h S F q H Dd E (k.imp i)
theorem EndOk.at_ {S1 S2 : AS} {H1 H2 : Hp} {P : Out → Prop} {Dd : Ends} (h : EndOk H0 S0 S1 H1 P Dd) (k : Keep S1 H1 S2 H2) : EndOk H0 S0 S2 H2 P Dd :=
  ⟨fun G S F q H p c => h.nx G S F q H p (k.trans c), fun G S F q H p c => h.bk G S F q H p (k.trans c), fun G S F q H p c => h.ct G S F q H p (k.trans c), h.rv, h.ro, h.re⟩
theorem ds_nil {P : Out → Prop} (h : P (.nxt G)) : DS X H0 S0 [] G P := fun S F q H Dd E k => wSs_of pss_nil (k.nx G S F q H h (Keep.refl S H) E)
/-- what a block wants behind it -/
def seqP (M : List Slot → Prop) (P : Out → Prop) : Out → Prop
  | .nxt G => M G
  | o => P o
theorem EndOk.seq {S1 : AS} {H1 : Hp} {P : Out → Prop} {M : List Slot → Prop} {Dd : Ends} {nx : L2.St → Hp → Prop} (k : EndOk H0 S0 S1 H1 P Dd) (h : ∀ G S F q H, M G → Keep S1 H1 S H → EnvOk H0 S0 G S F q H → nx q H) : EndOk H0 S0 S1 H1 (seqP M P) { Dd with nx := nx } :=
  ⟨h, k.bk, k.ct, k.rv, k.ro, k.re⟩
theorem ds_set (i : Nat) {x : Str} {e : Expr} {rest : List Stmt} {d : D} {P' : Out → Prop} (hX : XOk P w K mg base k N sc true X) (hN : N[i]? = some x := by rfl) (hv : locB sc x = true := by decide +kernel) (hi : i < G.length := by exact Nat.le_of_ble_eq_true rfl) (he : DE X H0 S0 e G d) (h : DS X H0 S0 rest (G.set i (.val d)) P')
    (hs : swapsWith e (some (.Name x p1)) pos.line X.env = pure false := by rfl) : DS X H0 S0 (.Assign [.Name x p1] e pos :: rest) G P' := fun S F q H Dd E kk =>
  wSs_of (pss_cons (ps_set (i := i) (by rw [hX.eN]; exact hX.nd) (by rw [hX.eN]; exact hN) (by rw [hX.es]; exact loc_of hv) pwE hs (by
    rcases loc_of hv with z | z
    · exact .inr (by rw [hX.es]; exact z)
    · exact .inl (hX.fn rfl x))) pwSs) (he S F q H E _ fun v H1 S1 g1 r1 => h S1 _ _ H1 Dd ((E.grow g1).putv hi r1) (kk.at_ g1.keep))
theorem ds_setN {G' : List Slot} (i : Nat) {x : Str} {e : Expr} {rest : List Stmt} {d : D} {P' : Out → Prop} (hX : XOk P w K mg base k N sc true X) (hN : N[i]? = some x := by rfl) (hv : locB sc x = true := by decide +kernel) (hi : i < G.length := by exact Nat.le_of_ble_eq_true rfl) (he : DE X H0 S0 e G d) (h : DS X H0 S0 rest G' P') (hs : swapsWith e (some (.Name x p1)) pos.line X.env = pure false := by rfl) (hG : G.set i (.val d) = G' := by first | (dsimp only [List.set, atS, slots, slotB] <;> rfl) | rfl) : DS X H0 S0 (.Assign [.Name x p1] e pos :: rest) G P' := by
  subst hG
  exact ds_set (i := i) (hX := hX) (hN := hN) (hv := hv) (hi := hi) (he := he) (h := h) (hs := hs)
theorem ds_seto (i : Nat) {x : Str} {e : Expr} {rest : List Stmt} {ds : List D} {P' : Out → Prop} (hX : XOk P w K mg base k N sc true X) (hN : N[i]? = some x := by rfl) (hv : locB sc x = true := by decide +kernel) (hi : i < G.length := by exact Nat.le_of_ble_eq_true rfl) (he : DO X H0 S0 e G ds) (h : DS X H0 S0 rest (G.set i (.own ds)) P')
    (hs : swapsWith e (some (.Name x p1)) pos.line X.env = pure false := by rfl) : DS X H0 S0 (.Assign [.Name x p1] e pos :: rest) G P' := fun S F q H Dd E kk =>
  wSs_of (pss_cons (ps_set (i := i) (by rw [hX.eN]; exact hX.nd) (by rw [hX.eN]; exact hN) (by rw [hX.es]; exact loc_of hv) pwE hs (by
    rcases loc_of hv with z | z
    · exact .inr (by rw [hX.es]; exact z)
    · exact .inl (hX.fn rfl x))) pwSs) (he S F q H E _ fun p vs H1 S1 g1 hn hS hp r1 => h S1 _ _ H1 Dd ((E.grow g1).puto hi hp r1 (none_ext E.ext hn) hS fun j z => E.flv j p z hn) (kk.at_ g1.keep))
theorem ds_setoN {G' : List Slot} (i : Nat) {x : Str} {e : Expr} {rest : List Stmt} {ds : List D} {P' : Out → Prop} (hX : XOk P w K mg base k N sc true X) (hN : N[i]? = some x := by rfl) (hv : locB sc x = true := by decide +kernel) (hi : i < G.length := by exact Nat.le_of_ble_eq_true rfl) (he : DO X H0 S0 e G ds) (h : DS X H0 S0 rest G' P') (hs : swapsWith e (some (.Name x p1)) pos.line X.env = pure false := by rfl) (hG : G.set i (.own ds) = G' := by first | (dsimp only [List.set, atS, slots, slotB] <;> rfl) | rfl) : DS X H0 S0 (.Assign [.Name x p1] e pos :: rest) G P' := by
  subst hG
  exact ds_seto (i := i) (hX := hX) (hN := hN) (hv := hv) (hi := hi) (he := he) (h := h) (hs := hs)
theorem ds_ret {e : Expr} {rest : List Stmt} {d : D} {P' : Out → Prop} (he : DE X H0 S0 e G d) (h : P' (.ret (.val d))) : DS X H0 S0 (.Return (some e) pos :: rest) G P' := fun S F q H Dd E kk =>
  wSs_of (pss_cons (ps_ret pwE) pwSs) (he S F q H E _ fun v H1 S1 g1 r1 => kk.rv d v S1 H1 h (E.grow g1).ext (E.grow g1).sfr (E.grow g1).slv r1)
theorem ds_reto {e : Expr} {rest : List Stmt} {ds : List D} {P' : Out → Prop} (he : DO X H0 S0 e G ds) (h : P' (.ret (.own ds))) : DS X H0 S0 (.Return (some e) pos :: rest) G P' := fun S F q H Dd E kk =>
  wSs_of (pss_cons (ps_ret pwE) pwSs) (he S F q H E _ fun p vs H1 S1 g1 hn hS hp r1 => kk.ro ds p vs S1 H1 h (E.grow g1).ext (E.grow g1).sfr (E.grow g1).slv (none_ext E.ext hn) hS hp r1)
/-- return x, x a list of one's own -/
theorem ds_retv (i : Nat) {x : Str} {rest : List Stmt} {ds : List D} {P' : Out → Prop} (hX : XOk P w K mg base k N sc fa X) (hN : N[i]? = some x := by rfl) (hv : visB sc x = true := by decide +kernel) (hi : G[i]? = some (.own ds) := by rfl) (h : P' (.ret (.own ds)))
    (hd : (x == ("__debug__" : Str)) = false := by decide) (hcd : (x == ("__classdict__" : Str)) = false := by decide) : DS X H0 S0 (.Return (some (.Name x p1)) pos :: rest) G P' := fun S F q H Dd E kk => by
  obtain ⟨o, h1, p, vs, rfl, hF, hp, r⟩ := E.sl i _ hi
  obtain ⟨m1, m2, m3⟩ := E.mu i _ hi rfl p ((hF p).mpr rfl)
  exact wSs_of (pss_cons (ps_ret (pe_var (X := X) (i := i) (by rw [hX.eN]; exact hN) (by rw [hX.es]; exact vis_of hv) hd hcd)) pwSs) ⟨_, h1, kk.ro ds p vs S H h E.ext E.sfr E.slv m1 m2 hp r⟩
theorem ds_retN {rest : List Stmt} {P' : Out → Prop} (h : P' (.ret (.val .none))) : DS X H0 S0 (.Return none pos :: rest) G P' := fun S F q H Dd E kk =>
  wSs_of (pss_cons ps_retN pwSs) (kk.rv .none .non S H h E.ext E.sfr E.slv .non)
/-- if: M holds of the names where a branch comes to its end -/
theorem ds_if {c : Expr} {a b rest : List Stmt} {t : Bool} {P' : Out → Prop} (M : List Slot → Prop) (hc : DT X H0 S0 c G t) (h1 : t = true → DS X H0 S0 a G (seqP M P')) (h2 : t = false → DS X H0 S0 b G (seqP M P')) (h : ∀ G', M G' → DS X H0 S0 rest G' P') :
    DS X H0 S0 (.If c a b pos :: rest) G P' := fun S F q H Dd E kk =>
  wSs_of (pss_cons (ps_if pwT pwSs pwSs) pwSs) (hc S F q H E _ fun H1 S1 g1 => by
    have K2 : EndOk H0 S0 S1 H1 (seqP M P') { Dd with nx := wSs X rest Dd } := (kk.at_ g1.keep).seq fun G' S' F' q' H' m c E' => h G' m S' F' q' H' Dd E' (kk.at_ (g1.keep.trans c))
    cases t with
    | true => exact iteT (h1 rfl S1 F q H1 _ (E.grow g1) K2)
    | false => exact iteF (h2 rfl S1 F q H1 _ (E.grow g1) K2))
/-- each branch goes on with what follows -/
theorem ds_if2 {c : Expr} {a b rest : List Stmt} {t : Bool} {P' : Out → Prop} (hc : DT X H0 S0 c G t) (h1 : t = true → DS X H0 S0 a G (seqP (fun G' => DS X H0 S0 rest G' P') P')) (h2 : t = false → DS X H0 S0 b G (seqP (fun G' => DS X H0 S0 rest G' P') P')) :
    DS X H0 S0 (.If c a b pos :: rest) G P' := ds_if _ hc h1 h2 fun _ h => h
theorem ds_pass {rest : List Stmt} {P' : Out → Prop} (h : DS X H0 S0 rest G P') : DS X H0 S0 (.Pass pos :: rest) G P' := fun S F q H Dd E kk =>
  wSs_of (pss_cons ps_pass pwSs) (h S F q H Dd E kk)
theorem ds_freeze (i : Nat) {ss : List Stmt} {ds : List D} {P' : Out → Prop} (hi : G[i]? = some (.own ds) := by rfl) (h : DS X H0 S0 ss (G.set i (.val (.list ds))) P') : DS X H0 S0 ss G P' := fun S F q H Dd E kk => by
  obtain ⟨S', F', hs, E'⟩ := E.freeze hi
  exact h S' F' q H Dd E' (kk.at_ ⟨hs, fun _ _ _ z => z⟩)
theorem ds_freezeN {G' : List Slot} (i : Nat) {ss : List Stmt} {ds : List D} {P' : Out → Prop} (hi : G[i]? = some (.own ds) := by rfl) (h : DS X H0 S0 ss G' P') (hG : G.set i (.val (.list ds)) = G' := by first | (dsimp only [List.set, atS, slots, slotB] <;> rfl) | rfl) : DS X H0 S0 ss G P' := by
  subst hG
  exact ds_freeze (i := i) (hi := hi) (h := h)
/-- a name is let go -/
theorem EnvOk.drop {S : AS} {F : Nat → AS} {q : L2.St} {H : Hp} (E : EnvOk H0 S0 G S F q H) {i : Nat} (hi : i < G.length := by exact Nat.le_of_ble_eq_true rfl) : ∃ F', EnvOk H0 S0 (G.set i .junk) S F' q H := by
  obtain ⟨o, h1, _⟩ := E.sl i _ (List.getElem?_eq_getElem hi)
  have e : q.set i o = q := by
    obtain ⟨h3, h4⟩ := List.getElem?_eq_some_iff.mp h1
    rw [← h4]
    exact List.set_getElem_self h3
  have := E.putj hi o
  rw [e] at this
  exact ⟨_, this⟩
theorem ds_drop (i : Nat) {ss : List Stmt} {P' : Out → Prop} (hi : i < G.length := by exact Nat.le_of_ble_eq_true rfl) (h : DS X H0 S0 ss (G.set i .junk) P') : DS X H0 S0 ss G P' := fun S F q H Dd E kk => by
  obtain ⟨F', E'⟩ := E.drop hi
  exact h S F' q H Dd E' kk
theorem ds_dropN {G' : List Slot} (i : Nat) {ss : List Stmt} {P' : Out → Prop} (hi : i < G.length := by exact Nat.le_of_ble_eq_true rfl) (h : DS X H0 S0 ss G' P') (hG : G.set i .junk = G' := by first | (dsimp only [List.set, atS, slots, slotB] <;> rfl) | rfl) : DS X H0 S0 ss G P' := by
  subst hG
  exact ds_drop (i := i) (hi := hi) (h := h)
end
end DL

namespace DL
open PySem PySem.Spec PyProof.Rows L2

/-! ### targets -/
def DG (X : Cx) (H0 : Hp) (S0 : AS) (tg : Expr) (d : D) (G G' : List Slot) (tv : List Nat) : Prop := ∀ S F q H, EnvOk H0 S0 G S F q H → ∀ v, Rep S H v d → ∀ Q : L2.St → Hp → Prop,
  (∀ F' q', EnvOk H0 S0 G' S F' q' H → (q'.length = q.length ∧ ∀ j, j ∉ tv → q'[j]? = q[j]?) → Q q' H) → wG X tg v q H Q
def DGs (X : Cx) (H0 : Hp) (S0 : AS) (ts : List Expr) (ds : List D) (G G' : List Slot) (tv : List Nat) : Prop := ∀ S F q H, EnvOk H0 S0 G S F q H → ∀ vs, Reps S H vs ds → ∀ Q : L2.St → Hp → Prop,
  (∀ F' q', EnvOk H0 S0 G' S F' q' H → (q'.length = q.length ∧ ∀ j, j ∉ tv → q'[j]? = q[j]?) → Q q' H) → wGs X ts vs q H Q
section
variable {P : Program} {w : World} {K : PySem.W.Frag} {mg : Str → Option Value} {base : Heap} {k : Nat} {N : List Str} {sc : Scope} {fa : Bool} {X : Cx} {H0 : Hp} {S0 : AS} {G G1 G2 : List Slot} {pos p1 p2 p3 : Pos}
theorem dg_name (i : Nat) (hX : XOk P w K mg base k N sc true X) {x : Str} {d : D} (hN : N[i]? = some x := by rfl) (hv : locB sc x = true := by decide +kernel) (hi : i < G.length := by exact Nat.le_of_ble_eq_true rfl) : DG X H0 S0 (.Name x pos) d G (G.set i (.val d)) [i] := fun S F q H E v r Q kk =>
  wG_of (pg_name (i := i) (by rw [hX.eN]; exact hX.nd) (by rw [hX.eN]; exact hN) (by rw [hX.es]; exact loc_of hv) (.inl (hX.fn rfl x))) (kk _ _ (E.putv hi r) ⟨List.length_set, fun j hj => List.getElem?_set_ne (fun z => hj (by rw [z]; exact List.mem_singleton.mpr rfl))⟩)
theorem dg_nameN (i : Nat) (hX : XOk P w K mg base k N sc true X) {G' : List Slot} {x : Str} {d : D} (hN : N[i]? = some x := by rfl) (hv : locB sc x = true := by decide +kernel) (hi : i < G.length := by exact Nat.le_of_ble_eq_true rfl) (hG : G.set i (.val d) = G' := by first | (dsimp only [List.set, atS, slots, slotB] <;> rfl) | rfl) : DG X H0 S0 (.Name x pos) d G G' [i] := by
  subst hG
  exact dg_name i hX hN hv hi
/-- a comprehension's own name -/
def ownB (sc : Scope) (x : Str) : Bool := match sc.names.lookup x with
  | some .local => true
  | _ => false
theorem own_of {sc : Scope} {x : Str} (h : ownB sc x = true) : sc.names.lookup x = some .local := by
  unfold ownB at h
  split at h <;> first | assumption | cases h
theorem dg_loc (i : Nat) (hX : XOk P w K mg base k N sc fa X) {x : Str} {d : D} (hN : N[i]? = some x := by rfl) (hv : ownB sc x = true := by decide +kernel) (hi : i < G.length := by exact Nat.le_of_ble_eq_true rfl) : DG X H0 S0 (.Name x pos) d G (G.set i (.val d)) [i] := fun S F q H E v r Q kk =>
  wG_of (pg_name (i := i) (by rw [hX.eN]; exact hX.nd) (by rw [hX.eN]; exact hN) (by rw [hX.es]; exact .inl (own_of hv)) (.inr (by rw [hX.es]; exact own_of hv))) (kk _ _ (E.putv hi r) ⟨List.length_set, fun j hj => List.getElem?_set_ne (fun z => hj (by rw [z]; exact List.mem_singleton.mpr rfl))⟩)
theorem dg_locN (i : Nat) (hX : XOk P w K mg base k N sc fa X) {G' : List Slot} {x : Str} {d : D} (hN : N[i]? = some x := by rfl) (hv : ownB sc x = true := by decide +kernel) (hi : i < G.length := by exact Nat.le_of_ble_eq_true rfl) (hG : G.set i (.val d) = G' := by first | (dsimp only [List.set, atS, slots, slotB] <;> rfl) | rfl) : DG X H0 S0 (.Name x pos) d G G' [i] := by
  subst hG
  exact dg_loc i hX hN hv hi
theorem dgs_nil : DGs X H0 S0 [] [] G G [] := fun S F q H E vs r Q kk => by
  cases r
  exact wGs_of pgs_nil ⟨rfl, kk F q E ⟨rfl, fun _ _ => rfl⟩⟩
theorem dgs_cons {e : Expr} {es : List Expr} {d : D} {ds : List D} {t u : List Nat} (h1 : DG X H0 S0 e d G G1 t) (h2 : DGs X H0 S0 es ds G1 G2 u) (hs : (assignEach (e :: es) X.env).map (·.2) = assign e X.env :: (assignEach es X.env).map (·.2) := by rfl) :
    DGs X H0 S0 (e :: es) (d :: ds) G G2 (t ++ u) := fun S F q H E vs r Q kk => by
  cases r with
  | cons r rr =>
    exact wGs_of (pgs_cons pwG pwGs hs) ⟨_, _, rfl, h1 S F q H E _ r _ fun F1 q1 E1 a1 => h2 S F1 q1 H E1 _ rr _ fun F2 q2 E2 a2 => kk F2 q2 E2 ⟨a2.1.trans a1.1, fun j hj => by
      rw [List.mem_append, not_or] at hj
      rw [a2.2 j hj.2, a1.2 j hj.1]⟩⟩
theorem dg_tup (hX : XOk P w K mg base k N sc fa X) {es : List Expr} {c : Nat} {ds : List D} {t : List Nat} (h : DGs X H0 S0 es ds G G1 t) (hn : (assignEach es X.env).length = ds.length := by rfl) (hst : (assignEach es X.env).findIdx? (·.1) = none := by rfl) :
    DG X H0 S0 (.Tuple es c pos) (.tuple ds) G G1 t := fun S F q H E v r Q kk => by
  cases r with
  | tup h2 h3 => exact wG_of (pg_tup hX.calm pwGs hn hst) ⟨_, _, rfl, .inl h2, h3.len, h S F q H E _ h3 Q kk⟩
/-- a, b, .. = e -/
theorem ds_unpack (hX : XOk P w K mg base k N sc fa X) {tg e : Expr} {rest : List Stmt} {d : D} {P' : Out → Prop} {t : List Nat} (he : DE X H0 S0 e G d) (hg : DG X H0 S0 tg d G G1 t) (h : DS X H0 S0 rest G1 P')
    (hs : swapsWithSole [tg] e pos.line X.env = pure false := by rfl) (hw : swappedStores [tg] e X.env = pure none := by rfl) (h1 : (assignEach [tg] X.env).map (·.2) = [assign tg X.env] := by rfl) : DS X H0 S0 (.Assign [tg] e pos :: rest) G P' := fun S F q H Dd E kk =>
  wSs_of (pss_cons (ps_asg pwE pwG hs hw h1) pwSs) (he S F q H E _ fun v H1 S1 g1 r1 => hg S1 F q H1 (E.grow g1) v r1 _ fun F2 q2 E2 _ => h S1 F2 q2 H1 Dd E2 (kk.at_ g1.keep))

/-! ### what is walked -/
structure JOk (J : It) (B : AS) (Hb : Hp) (ds : List D) : Prop where
  go : ∀ (i : Nat) (S : AS) (H : Hp) (d : D), (∀ a, B a → S a ∨ H a ≠ none) → (∀ a o, B a → Hb a = some o → H a = some o) → (∀ v d, Rep (fun a => B a) Hb v d → Rep S H v d) → ds[i]? = some d → J.go i H ∧ ∀ x H', J.yld i H x H' → ∃ S', Grow S H S' H' ∧ Rep S' H' x d
  stop : ∀ (i : Nat) (H : Hp), (∀ a o, B a → Hb a = some o → H a = some o) → ds.length ≤ i → J.stop i H
/-- the things that a loop walks; B: what must stay as it is -/
def DI (X : Cx) (H0 : Hp) (S0 : AS) (tg it : Expr) (G : List Slot) (ds : List D) : Prop := ∃ wi, PI X tg it wi ∧ ∀ S F q H, EnvOk H0 S0 G S F q H → ∀ R : It → Hp → Prop,
  (∀ (J : It) H' S', Grow S H S' H' → (∀ (i : Nat) (S2 : AS) (H2 : Hp) (d : D), Keep S' H' S2 H2 → (∀ a o, H0 a = some o → H2 a = some o) → ds[i]? = some d → J.go i H2 ∧ ∀ x H3, J.yld i H2 x H3 → ∃ S3, Grow S2 H2 S3 H3 ∧ Rep S3 H3 x d) →
    (∀ (i : Nat) (S2 : AS) (H2 : Hp), Keep S' H' S2 H2 → (∀ a o, H0 a = some o → H2 a = some o) → ds.length ≤ i → J.stop i H2) → R J H') → wi q H R
theorem rd_l {K : PySem.W.Frag} {H : Hp} {a : Addr} {xs : List V} (h : Rd H a (.lst xs)) : SqL K H a xs := .inl h
theorem rd_of {H : Hp} {a : Addr} {u : HO} (h : H a = some u) : Rd H a u := .inl h
theorem di_list {tg e : Expr} {ds : List D} (he : DE X H0 S0 e G (.list ds)) : DI X H0 S0 tg e G ds := by
  refine ⟨_, pi_list pwE, fun S F q H E R kk => he S F q H E _ fun v H1 S1 g1 r1 => ?_⟩
  cases r1 with
  | lst h1 h2 h3 =>
    have h2 := rd_of h2
    refine ⟨_, rfl, ⟨_, .inl h2⟩, kk _ H1 S1 g1 (fun i S2 H2 d c _ hd => ?_) fun i S2 H2 c _ hl => ?_⟩
    · have h2' := rd_keep (fun o z => c.o h1 z) h2
      obtain ⟨v, hv, rv⟩ := (h3.keep c).getD hd
      exact ⟨⟨_, v, .inl h2', hv⟩, fun x H3 y => ⟨S2, by rw [y.1]; exact Grow.refl S2 H2, by
        have := y.2 _ (.inl h2')
        rw [hv] at this
        cases this
        rw [y.1]; exact rv⟩⟩
    · exact ⟨_, .inl (rd_keep (fun o z => c.o h1 z) h2), by rw [h3.len]; exact hl⟩
def rngD (lo : Int) (n : Nat) : List D := (List.range n).map fun (i : Nat) => PyData.int (lo + (i : Int))
theorem rngD_len (lo : Int) (n : Nat) : (rngD lo n).length = n := by unfold rngD; rw [List.length_map, List.length_range]
theorem rngD_get {lo : Int} {n i : Nat} {d : D} (h : (rngD lo n)[i]? = some d) : i < n ∧ d = .int (lo + (i : Int)) := by
  have hi : i < n := by
    have := (List.getElem?_eq_some_iff.mp h).1
    rwa [rngD_len] at this
  refine ⟨hi, ?_⟩
  unfold rngD at h
  rw [List.getElem?_map, List.getElem?_range hi] at h
  exact (Option.some.inj h).symm
theorem di_range1 (hX : XOk P w K mg base k N sc fa X) (hr : mg "range" = none) (hg : globB sc "range" = true := by decide +kernel) {tg a : Expr} {n : Int} (he : DE X H0 S0 a G (.int n)) (h1 : -(2 ^ 62) ≤ n) (h2 : n < 2 ^ 62)
    (hs : starEach [a] X.env = [(false, eval a X.env)] := by rfl) : DI X H0 S0 tg (.Call (.Name "range" p1) [a] [] pos) G (rngD 0 n.toNat) := by
  refine ⟨_, pi_range1 (hX.gl hg) (by rw [hX.emg]; exact hr) (pa_cons pwE pa_nil hs) hs, fun S F q H E R kk => he S F q H E _ fun v H1 S1 g1 r1 => ?_⟩
  cases r1
  refine ⟨n, rfl, h1, h2, kk _ H1 S1 g1 (fun i S2 H2 d c z hd => ?_) fun i S2 H2 c z hl => ?_⟩
  · obtain ⟨hi, rfl⟩ := rngD_get hd
    exact ⟨hi, fun x H3 y => ⟨S2, by rw [y.1]; exact Grow.refl S2 H2, by rw [y.2]; exact .int _⟩⟩
  · rw [rngD_len] at hl
    exact hl
theorem di_range2 (hX : XOk P w K mg base k N sc fa X) (hr : mg "range" = none) (hg : globB sc "range" = true := by decide +kernel) {tg a b : Expr} {lo n : Int} (ha : DE X H0 S0 a G (.int lo)) (he : DE X H0 S0 b G (.int n)) (h0 : -(2 ^ 62) ≤ lo ∧ lo < 2 ^ 62 ∧ -(2 ^ 62) ≤ n ∧ n < 2 ^ 62)
    (hs : starEach [a, b] X.env = [(false, eval a X.env), (false, eval b X.env)] := by rfl) (hs2 : starEach [b] X.env = [(false, eval b X.env)] := by rfl) : DI X H0 S0 tg (.Call (.Name "range" p1) [a, b] [] pos) G (rngD lo (n - lo).toNat) := by
  refine ⟨_, pi_range2 (hX.gl hg) (by rw [hX.emg]; exact hr) (pa_cons pwE (pa_cons pwE pa_nil hs2) (hs.trans (by rw [hs2]))) hs hs2, fun S F q H E R kk => ha S F q H E _ fun v H1 S1 g1 r1 => he S1 F q H1 (E.grow g1) _ fun u H2 S2 g2 r2 => ?_⟩
  cases r1
  cases r2
  refine ⟨lo, n, rfl, h0, kk _ H2 S2 (g1.trans g2) (fun i S3 H3 d c z hd => ?_) fun i S3 H3 c z hl => ?_⟩
  · obtain ⟨hi, rfl⟩ := rngD_get hd
    exact ⟨hi, fun x H4 y => ⟨S3, by rw [y.1]; exact Grow.refl S3 H3, by rw [y.2]; exact .int _⟩⟩
  · rw [rngD_len] at hl
    exact hl
/-- a list that stays where it is: frozen, or lent -/
def DF (X : Cx) (H0 : Hp) (S0 : AS) (e : Expr) (G : List Slot) (ds : List D) : Prop := ∀ S F q H, EnvOk H0 S0 G S F q H → ∀ Q : VK,
  (∀ p vs H' S', Grow S H S' H' → SqL X.K H' p vs → Reps S' H' vs ds → (∀ (S2 : AS) (H2 : Hp), Keep S' H' S2 H2 → (∀ a o, H0 a = some o → H2 a = some o) → SqL X.K H2 p vs) → Q (.ref p) H') → wE X e q H Q
theorem df_e {e : Expr} {ds : List D} (h : DE X H0 S0 e G (.list ds)) : DF X H0 S0 e G ds := fun S F q H E Q kk => h S F q H E Q fun v H1 S1 g1 r1 => by
  cases r1 with
  | lst h1 h2 h3 => exact kk _ _ H1 S1 g1 (.inl (.inl h2)) h3 fun S2 H2 c _ => .inl (.inl (c.o h1 h2))
theorem df_bor (i : Nat) (hX : XOk P w K mg base k N sc fa X) {x : Str} {ds : List D} (hN : N[i]? = some x := by rfl) (hv : visB sc x = true := by decide +kernel) (h : G[i]? = some (.bor K ds) := by rfl) (hd : (x == ("__debug__" : Str)) = false := by decide) (hcd : (x == ("__classdict__" : Str)) = false := by decide) :
    DF X H0 S0 (.Name x pos) G ds := fun S F q H E Q kk => by
  obtain ⟨o, e1, p, vs, rfl, hF, hp, r⟩ := E.sl i _ h
  refine wE_of (pe_var (X := X) (i := i) (by rw [hX.eN]; exact hN) (by rw [hX.es]; exact vis_of hv) hd hcd) ⟨_, e1, ?_⟩
  have go : ∀ (H2 : Hp), (∀ a o, H0 a = some o → H2 a = some o) → SqL X.K H2 p vs := fun H2 z => by
    rw [hX.eK]
    rcases hp with ⟨hF, hp⟩ | hp
    · have hb := E.bo i K ds h p hF
      cases e0 : H0 p with
      | none => exact absurd e0 hb
      | some o =>
        refine .inl (rd_keep (fun u hu => ?_) hp)
        rw [E.ext p o e0] at hu
        cases hu
        exact z p o e0
    · exact .inr hp
  exact kk p vs H S (Grow.refl S H) (go H E.ext) r fun S2 H2 c z => go H2 z
/-- a list that stays, walked -/
theorem di_f {tg e : Expr} {ds : List D} (he : DF X H0 S0 e G ds) : DI X H0 S0 tg e G ds := by
  refine ⟨_, pi_list pwE, fun S F q H E R kk => he S F q H E _ fun p vs H1 S1 g1 h2 h3 h4 => ?_⟩
  refine ⟨p, rfl, ⟨_, h2⟩, kk _ H1 S1 g1 (fun i S2 H2 d c z hd => ?_) fun i S2 H2 c z hl => ?_⟩
  · obtain ⟨v, hv, rv⟩ := (h3.keep c).getD hd
    exact ⟨⟨_, v, h4 S2 H2 c z, hv⟩, fun x H3 y => ⟨S2, by rw [y.1]; exact Grow.refl S2 H2, by
      have := y.2 _ (h4 S2 H2 c z)
      rw [hv] at this
      cases this
      rw [y.1]; exact rv⟩⟩
  · exact ⟨_, h4 S2 H2 c z, by rw [h3.len]; exact hl⟩
theorem grow_tup {S : AS} {H : Hp} {T : Addr} {vs : List V} {ds : List D} (hT : H T = none) (r : Reps S H vs ds) : Grow S H (fun a => S a ∨ a = T) (upd H T (.tup vs)) ∧ Rep (fun a => S a ∨ a = T) (upd H T (.tup vs)) (.ref T) (.tuple ds) :=
  ⟨Grow.alloc hT, .tup (.inl upd_same) (r.mono (fun _ z => .inl z) fun a o _ e => by rw [upd_ne (ne_of_none e hT)]; exact e)⟩
def enumD (ds : List D) : List D := (List.range ds.length).map fun (i : Nat) => PyData.tuple [.int (i : Int), ds.getD i .none]
theorem enumD_len (ds : List D) : (enumD ds).length = ds.length := by unfold enumD; rw [List.length_map, List.length_range]
theorem di_enum (hX : XOk P w K mg base k N sc fa X) (hr : mg "enumerate" = none) (hg : globB sc "enumerate" = true := by decide +kernel) {ts : List Expr} {c : Nat} {e : Expr} {ds : List D} (he : DF X H0 S0 e G ds) (hs : starEach [e] X.env = [(false, eval e X.env)] := by rfl) :
    DI X H0 S0 (.Tuple ts c p2) (.Call (.Name "enumerate" p1) [e] [] pos) G (enumD ds) := by
  refine ⟨_, pi_enum (hX.gl hg) (by rw [hX.emg]; exact hr) (pa_cons pwE pa_nil hs) hs, fun S F q H E R kk => he S F q H E _ fun p vs H1 S1 g1 h2 h3 h4 => ?_⟩
  refine ⟨p, vs, rfl, h2, kk _ H1 S1 g1 (fun i S2 H2 d c z hd => ?_) fun i S2 H2 c z hl => ?_⟩
  · have hi : i < ds.length := by
      have := (List.getElem?_eq_some_iff.mp hd).1
      rwa [enumD_len] at this
    unfold enumD at hd
    rw [List.getElem?_map, List.getElem?_range hi] at hd
    have hd' := (Option.some.inj hd).symm
    subst hd'
    have e1 : ds[i]? = some (ds.getD i .none) := by rw [List.getD_eq_getElem?_getD, List.getElem?_eq_getElem hi]; rfl
    obtain ⟨v, hv, rv⟩ := (h3.keep c).getD e1
    refine ⟨⟨vs, v, h4 S2 H2 c z, hv⟩, fun x H3 y => ?_⟩
    obtain ⟨T, x1, rfl, nT, rfl, fx⟩ := y
    have := fx _ (h4 S2 H2 c z)
    rw [hv] at this
    cases this
    have gt := grow_tup (ds := [.int (i : Int), ds.getD i .none]) nT (.cons (.int _) (.cons rv .nil))
    exact ⟨_, gt.1, gt.2⟩
  · rw [enumD_len] at hl
    exact ⟨vs, h4 S2 H2 c z, by rw [h3.len]; exact hl⟩
def zipD (xs ys : List D) : List D := (xs.zip ys).map fun p => PyData.tuple [p.1, p.2]
theorem di_zip (hX : XOk P w K mg base k N sc fa X) (hr : mg "zip" = none) (hg : globB sc "zip" = true := by decide +kernel) {ts : List Expr} {c : Nat} {e e2 : Expr} {xs ys : List D} (he : DF X H0 S0 e G xs) (he2 : DF X H0 S0 e2 G ys)
    (hs : starEach [e, e2] X.env = (false, eval e X.env) :: starEach [e2] X.env := by rfl) (hpl : (backTo pos (starEach [e2] X.env)).any (·.1) = false := by rfl) (hs2 : starEach [e2] X.env = (false, eval e2 X.env) :: starEach [] X.env := by rfl) :
    DI X H0 S0 (.Tuple ts c p2) (.Call (.Name "zip" p1) [e, e2] [] pos) G (zipD xs ys) := by
  refine ⟨_, pi_zip (hX.gl hg) (by rw [hX.emg]; exact hr) (pa_cons pwE (pa_cons pwE pa_nil hs2) hs) hs hpl, fun S F q H E R kk => he S F q H E _ fun p vs H1 S1 g1 h2 h3 h4 => he2 S1 F q H1 (E.grow g1) _ fun p' vs' H2 S2 g2 k2 k3 k4 => ?_⟩
  refine ⟨p, p', vs, vs', rfl, h4 S2 H2 g2.keep ((E.grow g1).grow g2).ext, k2, kk _ H2 S2 (g1.trans g2) (fun i S3 H3 d c z hd => ?_) fun i S3 H3 c z hl => ?_⟩
  · have c1 := g2.keep.trans c
    unfold zipD at hd
    rw [List.getElem?_map] at hd
    cases ez : (xs.zip ys)[i]? with
    | none => rw [ez] at hd; cases hd
    | some pr =>
      rw [ez] at hd
      obtain ⟨x0, y0⟩ := pr
      have hd' := (Option.some.inj hd).symm
      subst hd'
      obtain ⟨ex, ey⟩ : xs[i]? = some x0 ∧ ys[i]? = some y0 := by
        have := List.getElem?_zip_eq_some.mp ez
        exact this
      obtain ⟨v, hv, rv⟩ := (h3.keep c1).getD ex
      obtain ⟨v', hv', rv'⟩ := (k3.keep c).getD ey
      have q1 := h4 S3 H3 c1 z
      have q2 := k4 S3 H3 c z
      refine ⟨⟨vs, vs', v, v', q1, q2, hv, hv'⟩, fun x H4 y => ?_⟩
      obtain ⟨T, x1, y1, rfl, nT, rfl, fx, fy⟩ := y
      have a1 := fx _ q1
      rw [hv] at a1
      cases a1
      have a2 := fy _ q2
      rw [hv'] at a2
      cases a2
      have gt := grow_tup (ds := [x0, y0]) nT (.cons rv (.cons rv' .nil))
      exact ⟨_, gt.1, gt.2⟩
  · have c1 := g2.keep.trans c
    unfold zipD at hl
    rw [List.length_map, List.length_zip] at hl
    refine ⟨vs, vs', h4 S3 H3 c1 z, k4 S3 H3 c z, ?_⟩
    rw [h3.len, k3.len]
    omega

/-! ### loops -/
def loopP (M B : List Slot → Prop) (P : Out → Prop) : Out → Prop
  | .nxt G => M G
  | .cnt G => M G
  | .brk G => B G
  | .ret r => P (.ret r)
  | .eff G e => P (.eff G e)
theorem EndOk.loop {S1 : AS} {H1 : Hp} {P : Out → Prop} {M B : List Slot → Prop} {Dd : Ends} {nx bk : L2.St → Hp → Prop} (kk : EndOk H0 S0 S1 H1 P Dd) (h : ∀ G S F q H, M G → Keep S1 H1 S H → EnvOk H0 S0 G S F q H → nx q H)
    (hb : ∀ G S F q H, B G → Keep S1 H1 S H → EnvOk H0 S0 G S F q H → bk q H) : EndOk H0 S0 S1 H1 (loopP M B P) { Dd with nx := nx, ct := nx, bk := bk } := ⟨h, hb, h, kk.rv, kk.ro, kk.re⟩
/-- for: I by the turn -/
theorem ds_for (hX : XOk P w K mg base k N sc fa X) {tg it : Expr} {body rest : List Stmt} {ds : List D} {P' : Out → Prop} (I : Nat → List Slot → Prop) (hit : DI X H0 S0 tg it G ds) (h0 : I 0 G)
    (hs : ∀ i d Gi, ds[i]? = some d → I i Gi → ∃ G2 t, DG X H0 S0 tg d Gi G2 t ∧ DS X H0 S0 body G2 (loopP (I (i + 1)) (fun G' => DS X H0 S0 rest G' P') P')) (he : ∀ Gn, I ds.length Gn → DS X H0 S0 rest Gn P')
    (hf : ∀ x, foldedSetIterable it X.env x = pure x := by intro _; rfl) : DS X H0 S0 (.For tg it body [] pos :: rest) G P' := fun S F q H Dd E kk => by
  obtain ⟨wi, hpi, hwi⟩ := hit
  refine wSs_of (pss_cons (ps_for hX.po hX.calm hpi pwG pwSs hf) pwSs) (hwi S F q H E _ fun J H1 S1 g1 hgo hstop => ?_)
  refine ⟨fun i m q2 H2 => m = ds.length - i ∧ i ≤ ds.length ∧ ∃ G2 S2 F2, EnvOk H0 S0 G2 S2 F2 q2 H2 ∧ I i G2 ∧ Keep S1 H1 S2 H2, ⟨ds.length, by simp, Nat.zero_le _, G, S1, F, E.grow g1, h0, Keep.refl S1 H1⟩, ?_⟩
  rintro i m q2 H2 ⟨rfl, hi, G2, S2, F2, E2, I2, c2⟩
  by_cases hlt : i < ds.length
  · have hd : ds[i]? = some ds[i] := List.getElem?_eq_getElem hlt
    obtain ⟨hg1, hg2⟩ := hgo i S2 H2 _ c2 E2.ext hd
    refine .inr ⟨hg1, fun q3 H3 => ∃ G3 S3 F3, EnvOk H0 S0 G3 S3 F3 q3 H3 ∧ I (i + 1) G3 ∧ Keep S1 H1 S3 H3, fun q3 H3 hN => ?_, fun x H3 hy => ?_⟩
    · obtain ⟨G3, S3, F3, E3, I3, c3⟩ := hN
      exact ⟨ds.length - (i + 1), by omega, rfl, hlt, G3, S3, F3, E3, I3, c3⟩
    · obtain ⟨S3, g3, r3⟩ := hg2 x H3 hy
      obtain ⟨G4, t, hG, hB⟩ := hs i _ G2 hd I2
      refine hG S3 F2 q2 H3 (E2.grow g3) x r3 _ fun F4 q4 E4 _ => hB S3 F4 q4 H3 _ E4 ?_
      have c3 := c2.trans g3.keep
      exact (kk.at_ (g1.keep.trans c3)).loop (fun G5 S5 F5 q5 H5 m5 c5 E5 => ⟨G5, S5, F5, E5, m5, c3.trans c5⟩) fun G5 S5 F5 q5 H5 m5 c5 E5 => m5 S5 F5 q5 H5 Dd E5 (kk.at_ ((g1.keep.trans c3).trans c5))
  · have e : i = ds.length := by omega
    subst e
    exact .inl ⟨hstop _ S2 H2 c2 E2.ext (Nat.le_refl _), he G2 I2 S2 F2 q2 H2 Dd E2 (kk.at_ (g1.keep.trans c2))⟩
/-- for over things of one kind: I by what is left -/
theorem ds_forT (hX : XOk P w K mg base k N sc fa X) {T : Type} {enc : T → D} {xs : List T} {tg it : Expr} {body rest : List Stmt} {P' : Out → Prop} (I : List T → List Slot → Prop) (hit : DI X H0 S0 tg it G (xs.map enc)) (h0 : I xs G)
    (hs : ∀ x r Gi, I (x :: r) Gi → x ∈ xs → ∃ G2 t, DG X H0 S0 tg (enc x) Gi G2 t ∧ DS X H0 S0 body G2 (loopP (I r) (fun G' => DS X H0 S0 rest G' P') P')) (he : ∀ Gn, I [] Gn → DS X H0 S0 rest Gn P')
    (hf : ∀ x, foldedSetIterable it X.env x = pure x := by intro _; rfl) : DS X H0 S0 (.For tg it body [] pos :: rest) G P' :=
  ds_for hX (fun i Gi => I (xs.drop i) Gi) hit h0 (fun i d Gi hd hI => by
    rw [List.getElem?_map] at hd
    cases e : xs[i]? with
    | none => rw [e] at hd; cases hd
    | some x =>
      rw [e] at hd
      have hd' := (Option.some.inj hd).symm
      subst hd'
      obtain ⟨hl, hx⟩ := List.getElem?_eq_some_iff.mp e
      have ed : xs.drop i = x :: xs.drop (i + 1) := by rw [List.drop_eq_getElem_cons hl, hx]
      rw [ed] at hI
      exact hs x _ Gi hI (by rw [← hx]; exact List.getElem_mem hl)) (fun Gn hI => by
    rw [List.length_map, List.drop_length] at hI
    exact he Gn hI) hf
theorem ds_while (hX : XOk P w K mg base k N sc fa X) {c : Expr} {body rest : List Stmt} {P' : Out → Prop} (I : Nat → List Slot → Prop) (m0 : Nat) (h0 : I m0 G)
    (hs : ∀ m Gi, I m Gi → ∃ t, DT X H0 S0 c Gi t ∧ (t = true → DS X H0 S0 body Gi (loopP (fun G' => ∃ m', m' < m ∧ I m' G') (fun G' => DS X H0 S0 rest G' P') P')) ∧ (t = false → DS X H0 S0 rest Gi P')) :
    DS X H0 S0 (.While c body [] pos :: rest) G P' := fun S F q H Dd E kk => by
  refine wSs_of (pss_cons (ps_while hX.po pwT pwSs) pwSs) ⟨fun m q2 H2 => ∃ G2 S2 F2, EnvOk H0 S0 G2 S2 F2 q2 H2 ∧ I m G2 ∧ Keep S H S2 H2, ⟨m0, G, S, F, E, h0, Keep.refl S H⟩, ?_⟩
  rintro m q2 H2 ⟨G2, S2, F2, E2, I2, c2⟩
  obtain ⟨t, hT, hB, hE⟩ := hs m G2 I2
  refine hT S2 F2 q2 H2 E2 _ fun H3 S3 g3 => ?_
  have c3 := c2.trans g3.keep
  cases t with
  | false => exact iteF (hE rfl S3 F2 q2 H3 Dd (E2.grow g3) (kk.at_ c3))
  | true =>
    refine iteT ⟨fun q4 H4 => ∃ m', m' < m ∧ ∃ G4 S4 F4, EnvOk H0 S0 G4 S4 F4 q4 H4 ∧ I m' G4 ∧ Keep S H S4 H4, fun q4 H4 h => h, ?_⟩
    exact hB rfl S3 F2 q2 H3 _ (E2.grow g3) ((kk.at_ c3).loop (fun G5 S5 F5 q5 H5 ⟨m', hm, m5⟩ c5 E5 => ⟨m', hm, G5, S5, F5, E5, m5, c3.trans c5⟩) fun G5 S5 F5 q5 H5 m5 c5 E5 => m5 S5 F5 q5 H5 Dd E5 (kk.at_ (c3.trans c5)))
theorem ds_brk {rest : List Stmt} {P' : Out → Prop} (h : P' (.brk G)) : DS X H0 S0 (.Break pos :: rest) G P' := fun S F q H Dd E kk =>
  wSs_of (pss_cons ps_break pwSs) (kk.bk G S F q H h (Keep.refl S H) E)
theorem ds_cnt {rest : List Stmt} {P' : Out → Prop} (h : P' (.cnt G)) : DS X H0 S0 (.Continue pos :: rest) G P' := fun S F q H Dd E kk =>
  wSs_of (pss_cons ps_continue pwSs) (kk.ct G S F q H h (Keep.refl S H) E)
end
end DL

namespace DL
open PySem PySem.Spec PyProof.Rows L2

/-! ### what a def promises -/
abbrev Tr := List D → (RV → Prop) → Prop
def spD (K : PySem.W.Frag) (bs : List Bool) (T : Tr) : Sp := fun vs H Q _ => ∃ (S : AS) (ds : List D) (P' : RV → Prop), (∀ a, S a → H a ≠ none) ∧ RepsB K S H bs vs ds ∧ T ds P' ∧
  (∀ d v S' H', P' (.val d) → (∀ a o, H a = some o → H' a = some o) → (∀ a, S' a → S a ∨ H a = none) → (∀ a, S' a → H' a ≠ none) → Rep S' H' v d → Q v H') ∧
  (∀ ds p vs S' H', P' (.own ds) → (∀ a o, H a = some o → H' a = some o) → (∀ a, S' a → S a ∨ H a = none) → (∀ a, S' a → H' a ≠ none) → H p = none → ¬ S' p → H' p = some (.lst vs) → Reps S' H' vs ds → Q (.ref p) H')
structure Callee (P : Program) (w : World) (K : PySem.W.Frag) (mg : Str → Option Value) (base : Heap) (k : Nat) (x : Str) (bs : List Bool) (T : Tr) : Prop where
  ex : ∃ f fd ps, FnOk P w K mg base CX0 k f fd ps (spD K bs T) ∧ mg x = some (.ref f) ∧ PySem.W.keepIn K (.ref f) = true ∧ Binds K fd ps []
theorem RepsB.len {K : PySem.W.Frag} {S : AS} {H : Hp} : ∀ {bs : List Bool} {vs : List V} {ds : List D}, RepsB K S H bs vs ds → vs.length = ds.length
  | _, _, _, .nil => rfl
  | _, _, _, .cons _ t => congrArg (· + 1) t.len
theorem RepsB.lenb {K : PySem.W.Frag} {S : AS} {H : Hp} : ∀ {bs : List Bool} {vs : List V} {ds : List D}, RepsB K S H bs vs ds → bs.length = ds.length
  | _, _, _, .nil => rfl
  | _, _, _, .cons _ t => congrArg (· + 1) t.lenb
section
variable {P : Program} {w : World} {K : PySem.W.Frag} {mg : Str → Option Value} {base : Heap} {k : Nat} {N : List Str} {sc : Scope} {fa : Bool} {X : Cx} {H0 : Hp} {S0 : AS} {G G1 G2 : List Slot} {pos p1 p2 p3 : Pos}
theorem db_nil : DB X H0 S0 [] [] G [] := fun S F q H E Q kk => wA_of pa_nil (kk [] H S (Grow.refl S H) .nil)
theorem db_v {e : Expr} {es : List Expr} {d : D} {ds : List D} {bs : List Bool} (h1 : DE X H0 S0 e G d) (h2 : DB X H0 S0 bs es G ds) (hs : starEach (e :: es) X.env = (false, eval e X.env) :: starEach es X.env := by rfl) : DB X H0 S0 (false :: bs) (e :: es) G (d :: ds) := fun S F q H E Q kk =>
  wA_of (pa_cons pwE pwA hs) (h1 S F q H E _ fun v H1 S1 g1 r1 => h2 S1 F q H1 (E.grow g1) _ fun vs H2 S2 g2 r2 => kk _ H2 S2 (g1.trans g2) (.cons (.v (r1.keep g2.keep)) r2))
theorem db_b {e : Expr} {es : List Expr} {l ds : List D} {bs : List Bool} (h1 : DLs X H0 S0 e G l) (h2 : DB X H0 S0 bs es G ds) (hs : starEach (e :: es) X.env = (false, eval e X.env) :: starEach es X.env := by rfl) : DB X H0 S0 (true :: bs) (e :: es) G (.list l :: ds) := fun S F q H E Q kk =>
  wA_of (pa_cons pwE pwA hs) (h1 S F q H E _ fun p vs H1 S1 g1 hp r1 => h2 S1 F q H1 (E.grow g1) _ fun vs' H2 S2 g2 r2 => kk _ H2 S2 (g1.trans g2) (.cons (.b (sql_ext g2.ext hp) (r1.keep g2.keep)) r2))
theorem call_core {j : Nat} {bs : List Bool} {T : Tr} {x : Str} {e : Expr} {es : List Expr} {ds : List D} {P' : RV → Prop} (hX : XOk P w K mg base k N sc fa X) (c : Callee P w K mg base j x bs T) (hj : j ≤ k := by decide) (hg : globB sc x = true := by decide +kernel) (ha : DB X H0 S0 bs (e :: es) G ds) (ht : T ds P')
    (hdb : (x == ("__debug__" : Str)) = false) (he : starEach (e :: es) X.env = (false, eval e X.env) :: starEach es X.env) (hpl : (backTo pos (starEach es X.env)).any (·.1) = false) :
    ∀ S F q H, EnvOk H0 S0 G S F q H → ∀ Q : VK, (∀ d v S' H', P' (.val d) → Grow S H S' H' → Rep S' H' v d → Q v H') →
      (∀ ds p vs S' H', P' (.own ds) → Grow S H S' H' → H p = none → ¬ S' p → H' p = some (.lst vs) → Reps S' H' vs ds → Q (.ref p) H') → wE X (.Call (.Name x p1) (e :: es) [] pos) q H Q := by
  obtain ⟨f, fd, ps, FO, hm, hk, hb⟩ := c.ex
  cases hX.eP
  cases hX.ew
  cases hX.eK
  cases hX.emg
  cases hX.eb
  intro S F q H E Q k1 k2
  refine wE_of (pe_call FO (hX.room.mono hj) (hX.gl hg) hm hk hb .nil pass0 pwA hdb he hpl) (ha S F q H E _ fun vs H1 S1 g1 r1 => ?_)
  rw [List.append_nil]
  have E1 := E.grow g1
  refine ⟨S1, ds, P', E1.slv, r1, ht, fun d v S' H' hp ex nw lv r => ?_, fun d p vs S' H' hp ex nw lv hn hs hq r => ?_⟩
  · exact k1 d v (fun a => S1 a ∨ S' a) H' hp (g1.trans ⟨ex, fun a z => .inl z, fun a z => z.elim .inl (nw a), fun a z => z.imp id (lv a)⟩) (r.mono (fun a z => .inr z) fun _ _ _ z => z)
  · exact k2 d p vs (fun a => S1 a ∨ S' a) H' hp (g1.trans ⟨ex, fun a z => .inl z, fun a z => z.elim .inl (nw a), fun a z => z.imp id (lv a)⟩) (none_ext g1.ext hn) (fun z => z.elim (fun z => E1.slv p z hn) hs) hq (r.mono (fun a z => .inr z) fun _ _ _ z => z)
theorem de_call {j : Nat} {bs : List Bool} {T : Tr} {x : Str} {e : Expr} {es : List Expr} {ds : List D} {d : D} (hX : XOk P w K mg base k N sc fa X) (c : Callee P w K mg base j x bs T) (hj : j ≤ k := by decide) (hg : globB sc x = true := by decide +kernel) (ha : DB X H0 S0 bs (e :: es) G ds) (ht : T ds (fun r => r.dat = d))
    (hdb : (x == ("__debug__" : Str)) = false := by decide) (he : starEach (e :: es) X.env = (false, eval e X.env) :: starEach es X.env := by rfl) (hpl : (backTo pos (starEach es X.env)).any (·.1) = false := by rfl) :
    DE X H0 S0 (.Call (.Name x p1) (e :: es) [] pos) G d := fun S F q H E Q kk =>
  call_core hX c hj hg ha ht hdb he hpl S F q H E Q (fun d' v S' H' hp g r => by
    have hp' : d' = d := hp
    subst hp'
    exact kk v H' S' g r) fun l p vs S' H' hp g hn hs hq r => by
    have hp' : PyData.list l = d := hp
    subst hp'
    exact kk _ H' (fun a => S' a ∨ a = p) ⟨g.ext, fun a z => .inl (g.sub a z), fun a z => z.elim (g.new a) fun z => .inr (by rw [z]; exact hn), fun a z => z.elim (g.lv a) fun z => .inr (by rw [z, hq]; exact Option.some_ne_none _)⟩
      (.lst (.inr rfl) hq (r.mono (fun _ z => .inl z) fun _ _ _ z => z))
theorem do_call {j : Nat} {bs : List Bool} {T : Tr} {x : Str} {e : Expr} {es : List Expr} {ds l : List D} (hX : XOk P w K mg base k N sc fa X) (c : Callee P w K mg base j x bs T) (hj : j ≤ k := by decide) (hg : globB sc x = true := by decide +kernel) (ha : DB X H0 S0 bs (e :: es) G ds) (ht : T ds (fun r => r = .own l))
    (hdb : (x == ("__debug__" : Str)) = false := by decide) (he : starEach (e :: es) X.env = (false, eval e X.env) :: starEach es X.env := by rfl) (hpl : (backTo pos (starEach es X.env)).any (·.1) = false := by rfl) :
    DO X H0 S0 (.Call (.Name x p1) (e :: es) [] pos) G l := fun S F q H E Q kk =>
  call_core hX c hj hg ha ht hdb he hpl S F q H E Q (fun d' v S' H' hp g r => by cases hp) fun l' p vs S' H' hp g hn hs hq r => by
    cases hp
    exact kk p vs H' S' g hn hs hq r

/-! ### a def by its body -/
def atStart (K : PySem.W.Frag) (N : List Str) (bs : List Bool) (ds : List D) : List Slot := slots K bs ds ++ List.replicate (N.length - ds.length) .junk
theorem slots_len {K : PySem.W.Frag} {S : AS} {H : Hp} : ∀ {bs : List Bool} {vs : List V} {ds : List D}, RepsB K S H bs vs ds → (slots K bs ds).length = ds.length
  | _, _, _, .nil => rfl
  | _, _, _, .cons _ t => congrArg (· + 1) (slots_len t)
theorem slots_at {K : PySem.W.Frag} {S : AS} {H : Hp} : ∀ {bs : List Bool} {vs : List V} {ds : List D}, RepsB K S H bs vs ds → ∀ (i : Nat) (s : Slot), (slots K bs ds)[i]? = some s → ∃ b v d, vs[i]? = some v ∧ RepB K S H b v d ∧ s = slotB K b d
  | _, _, _, .nil, i, s, h => by simp [slots] at h
  | _, _, _, .cons r t, 0, s, h => by
    simp [slots] at h
    exact ⟨_, _, _, rfl, r, h.symm⟩
  | _, _, _, .cons r t, i + 1, s, h => by
    simp [slots] at h
    obtain ⟨b, v, d, h1, h2, h3⟩ := slots_at t i s h
    exact ⟨b, v, d, by simpa using h1, h2, h3⟩
theorem atS_eq : ∀ (N : List Str) (ss : List Slot), ss.length ≤ N.length → atS N ss = ss ++ List.replicate (N.length - ss.length) .junk
  | [], [], _ => rfl
  | [], _ :: _, h => by simp at h
  | _ :: N, [], h => by
    show Slot.junk :: atS N [] = List.replicate (N.length + 1) .junk
    rw [atS_eq N [] (Nat.zero_le _), List.replicate_succ]
    rfl
  | _ :: N, s :: ss, h => by
    show s :: atS N ss = s :: (ss ++ List.replicate (N.length + 1 - (ss.length + 1)) .junk)
    rw [atS_eq N ss (by simpa using h), Nat.add_sub_add_right]
theorem atS_at {K : PySem.W.Frag} {N : List Str} {S : AS} {H : Hp} {bs : List Bool} {vs : List V} {ds : List D} (r : RepsB K S H bs vs ds) (h : ds.length ≤ N.length) : atS N (slots K bs ds) = atStart K N bs ds := by
  unfold atStart
  rw [atS_eq N _ (by rw [slots_len r]; exact h), slots_len r]
def bodyP (P' : RV → Prop) : Out → Prop
  | .ret r => P' r
  | .nxt _ => P' (.val .none)
  | _ => False
theorem start_ok {K : PySem.W.Frag} {N ps : List Str} {S : AS} {H : Hp} {bs : List Bool} {vs : List V} {ds : List D} (r : RepsB K S H bs vs ds) (hl : ds.length ≤ N.length) (lv : ∀ a, S a → H a ≠ none) : ∃ F, EnvOk H S (atStart K N bs ds) S F (L2.start N vs) H := by
  have hlen := r.len
  have hsl := slots_len r
  have glen : (atStart K N bs ds).length = N.length := by
    unfold atStart
    rw [List.length_append, List.length_replicate, hsl]
    omega
  have gat : ∀ i s, (atStart K N bs ds)[i]? = some s → (∃ b v d, vs[i]? = some v ∧ RepB K S H b v d ∧ s = slotB K b d) ∨ (s = .junk ∧ ds.length ≤ i) := fun i s h => by
    unfold atStart at h
    by_cases hi : i < ds.length
    · rw [List.getElem?_append_left (by omega)] at h
      exact .inl (slots_at r i s h)
    · rw [List.getElem?_append_right (by omega), List.getElem?_replicate] at h
      split at h
      · cases h; exact .inr ⟨rfl, by omega⟩
      · cases h
  have qat : ∀ i, i < N.length → ∃ o, (L2.start N vs)[i]? = some o := fun i hi => by
    have : i < (L2.start N vs).length := by
      unfold L2.start
      rw [List.length_append, List.length_map, List.length_replicate]
      omega
    exact ⟨_, List.getElem?_eq_getElem this⟩
  have qv : ∀ i v, vs[i]? = some v → (L2.start N vs)[i]? = some (some v) := fun i v h => by
    have hi : i < vs.length := (List.getElem?_eq_some_iff.mp h).1
    unfold L2.start
    rw [List.getElem?_append_left (by rw [List.length_map]; exact hi), List.getElem?_map, h]
    rfl
  refine ⟨fun i a => ∃ K' l, (atStart K N bs ds)[i]? = some (.bor K' l) ∧ vs[i]? = some (.ref a) ∧ H a ≠ none, ⟨?_, fun _ _ h => h, fun a h => .inl h, lv, ?_, ?_, ?_, ?_, ?_⟩⟩
  · rw [glen]
    unfold L2.start
    rw [List.length_append, List.length_map, List.length_replicate]
    omega
  · rintro i a ⟨K', l, h1, h2, h3⟩
    exact h3
  · intro i s h
    have hi : i < N.length := by rw [← glen]; exact (List.getElem?_eq_some_iff.mp h).1
    rcases gat i s h with ⟨b, v, d, h3, h4, h5⟩ | ⟨h3, _⟩
    · refine ⟨some v, qv i v h3, ?_⟩
      subst h5
      cases h4 with
      | v r =>
        refine ⟨?_, v, rfl, r⟩
        rintro a ⟨K', l, q1, _⟩
        rw [h] at q1
        cases q1
      | @b p ws l' hp r =>
        refine ⟨p, _, rfl, ?_, ?_, r⟩
        · rintro a ⟨K', l, q1, q2, _⟩
          rw [h3] at q2
          cases q2
          rfl
        · exact hp.imp (fun z => ⟨⟨_, _, h, h3, rd_ex z⟩, z⟩) id
    · obtain ⟨o, ho⟩ := qat i hi
      subst h3
      refine ⟨o, ho, ?_⟩
      rintro a ⟨K', l, q1, _⟩
      rw [h] at q1
      cases q1
  · intro i s h hm
    rcases gat i s h with ⟨b, v, d, h3, h4, h5⟩ | ⟨h3, _⟩
    · subst h5
      cases h4 <;> cases hm
    · subst h3
      cases hm
  · rintro i hi a ⟨K', l, h1, _⟩
    rw [List.getElem?_eq_none hi] at h1
    cases h1
  · rintro i K' l h a ⟨_, l', h1, h2, h3⟩
    exact h3
/-- a def of the text keeps its promise -/
theorem fnok_of {x qual : Str} {st : Stmt} {f : Addr} {fd : FuncData} {N ps : List Str} {bs : List Bool} {T : Tr} (F : Fun K x qual st f fd) (Sc : FnScope N ps (defScope st))
    (hT : ∀ ds P', T ds P' → ds.length = ps.length)
    (body : ∀ (X : Cx) (H0 : Hp) (S0 : AS) (ds : List D) (P' : RV → Prop), XOk P w K mg base k N (defScope st) true X → T ds P' → DS X H0 S0 (defBody st) (atS N (slots K bs ds)) (bodyP P')) : FnOk P w K mg base CX0 (k + 1) f fd ps (spD K bs T) := by
  refine F.ok Sc (fun vs H Q E h => ?_) (fun cdv A outer s H vs Q E hr h => ?_)
  · obtain ⟨S, ds, P', _, r, ht, _⟩ := h
    rw [r.len]
    exact hT ds P' ht
  · obtain ⟨S, ds, P', lv, r, ht, k1, k2⟩ := h
    have hpl : ps.length ≤ N.length := by have := congrArg List.length Sc.pre; rw [List.length_take] at this; omega
    have hX : XOk P w K mg base k N (defScope st) true ((cxOf CX0 P w K mg base N qual (defScope st) f cdv A outer s H E).nox) := ⟨rfl, rfl, rfl, rfl, rfl, rfl, rfl, Sc.nd, rfl, hr, fun _ _ => rfl, PassesOwn.never⟩
    obtain ⟨F0, E0⟩ := start_ok (N := N) (ps := ps) r (by rw [hT ds P' ht]; exact hpl) lv
    refine ⟨_, pwSs, (atS_at r (by rw [hT ds P' ht]; exact hpl) ▸ body _ H S ds P' hX ht) S F0 _ H _ E0 ⟨fun G S' F q H' h c E' => ?_, fun G S' F q H' h c E' => h.elim, fun G S' F q H' h c E' => h.elim, fun d v S' H' h ex sf sl r => k1 d v S' H' h ex sf sl r, fun ds p vs S' H' h ex sf sl hn hs hq r => k2 ds p vs S' H' h ex sf sl hn hs hq r, fun G F q e v S' H' h => h.elim⟩⟩
    exact k1 .none .non S' H' h E'.ext E'.sfr E'.slv .non
theorem callee_of {x qual : Str} {st : Stmt} {f : Addr} {fd : FuncData} {N ps : List Str} {bs : List Bool} {T : Tr} (F : Fun K x qual st f fd) (Sc : FnScope N ps (defScope st)) (hm : mg x = some (.ref f)) (hb : Binds K fd ps [])
    (hT : ∀ ds P', T ds P' → ds.length = ps.length)
    (body : ∀ (X : Cx) (H0 : Hp) (S0 : AS) (ds : List D) (P' : RV → Prop), XOk P w K mg base k N (defScope st) true X → T ds P' → DS X H0 S0 (defBody st) (atS N (slots K bs ds)) (bodyP P')) : Callee P w K mg base (k + 1) x bs T :=
  ⟨f, fd, ps, fnok_of F Sc hT body, hm, F.kp, hb⟩

/-! ### subscripts -/
theorem at_enc {T : Type} (enc : T → D) {xs : List T} {i : Int} {x : T} (h0 : 0 ≤ i) (h : xs[i.toNat]? = some x) : atI (xs.map enc) i = some (enc x) := by
  have := atI_nat (xs := xs.map enc) (j := i.toNat) (v := enc x) (by rw [List.getElem?_map, h]; rfl)
  rwa [Int.toNat_of_nonneg h0] at this
theorem atI_len {α : Type} {xs : List α} {i : Int} {v : α} (h : atI xs i = some v) : ∃ j, ixN xs.length i = some j ∧ xs[j]? = some v := by
  unfold atI at h
  cases e : ixN xs.length i with
  | none => rw [e] at h; cases h
  | some j => rw [e] at h; exact ⟨j, rfl, h⟩
theorem atI_of {α : Type} {xs : List α} {i : Int} {j : Nat} {v : α} (h1 : ixN xs.length i = some j) (h2 : xs[j]? = some v) : atI xs i = some v := by
  unfold atI
  rw [h1]
  exact h2
theorem de_ix {a b : Expr} {ds : List D} {i : Int} {d : D} (ha : DLs X H0 S0 a G ds) (hb : DE X H0 S0 b G (.int i)) (h : atI ds i = some d) (hp : PlainIx b := by exact fun _ _ => rfl) : DE X H0 S0 (.Subscript a b pos) G d := fun S F q H E Q kk =>
  wE_of (pe_ix ix_list pwE pwE hp) (ha S F q H E _ fun p vs H1 S1 g1 h1 r1 => hb S1 F q H1 (E.grow g1) _ fun u H2 S2 g2 r2 => by
    cases r2
    obtain ⟨j, e1, e2⟩ := atI_len h
    obtain ⟨v, hv, rv⟩ := r1.getD e2
    exact ⟨p, vs, i, v, rfl, rfl, sql_ext g2.ext h1, atI_of (by rw [r1.len]; exact e1) hv, kk v H2 S2 (g1.trans g2) (rv.keep g2.keep)⟩)
theorem de_ixt {a b : Expr} {ds : List D} {i : Int} {d : D} (ha : DE X H0 S0 a G (.tuple ds)) (hb : DE X H0 S0 b G (.int i)) (h : atI ds i = some d) (hp : PlainIx b := by exact fun _ _ => rfl) : DE X H0 S0 (.Subscript a b pos) G d := fun S F q H E Q kk =>
  wE_of (pe_ix ix_tup pwE pwE hp) (ha S F q H E _ fun v H1 S1 g1 r1 => hb S1 F q H1 (E.grow g1) _ fun u H2 S2 g2 r2 => by
    cases r2
    cases r1 with
    | tup h2 h3 =>
      obtain ⟨j, e1, e2⟩ := atI_len h
      obtain ⟨v, hv, rv⟩ := h3.getD e2
      exact ⟨_, _, i, v, rfl, rfl, .inl (rd_keep (fun o z => g2.ext _ o z) h2), atI_of (by rw [h3.len]; exact e1) hv, kk v H2 S2 (g1.trans g2) (rv.keep g2.keep)⟩)
def cutD (xs : List D) (lo hi : Option Int) : List D := (xs.drop (HT.sIx xs.length 0 lo)).take (HT.sIx xs.length xs.length hi - HT.sIx xs.length 0 lo)
theorem cut_rep {S : AS} {H : Hp} {vs : List V} {ds : List D} (r : Reps S H vs ds) (lo hi : Option Int) : Reps S H (cutV vs lo hi) (cutD ds lo hi) := by
  unfold cutV cutD
  rw [r.len]
  exact (r.drop _).take _
/-- a bound of a slice -/
def DPo (X : Cx) (H0 : Hp) (S0 : AS) (e : Option Expr) (G : List Slot) (o : Option Int) : Prop := ∃ t, PO X e t ∧ ∀ S F q H, EnvOk H0 S0 G S F q H → ∀ Q : Option Int → Hp → Prop, (∀ H' S', Grow S H S' H' → Q o H') → t q H Q
theorem dpo_none : DPo X H0 S0 none G none := ⟨_, po_none, fun S F q H E Q kk => kk H S (Grow.refl S H)⟩
theorem dpo_some {e : Expr} {i : Int} (he : DE X H0 S0 e G (.int i)) : DPo X H0 S0 (some e) G (some i) := ⟨_, po_some pwE, fun S F q H E Q kk => he S F q H E _ fun v H1 S1 g1 r1 => by
  cases r1
  exact ⟨i, rfl, kk H1 S1 g1⟩⟩
theorem do_slice {a : Expr} {lo hi : Option Expr} {l u : Option Int} {ds : List D} (ha : DLs X H0 S0 a G ds) (hl : DPo X H0 S0 lo G l) (hu : DPo X H0 S0 hi G u) : DO X H0 S0 (.Subscript a (.Slice lo hi none p2) pos) G (cutD ds l u) := fun S F q H E Q kk => by
  obtain ⟨tl, pl, hl⟩ := hl
  obtain ⟨tu, pu, hu⟩ := hu
  refine wE_of (pe_slice sl_list pwE pl pu) (ha S F q H E _ fun p vs H1 S1 g1 h1 r1 => hl S1 F q H1 (E.grow g1) _ fun H2 S2 g2 => hu S2 F q H2 ((E.grow g1).grow g2) _ fun H3 S3 g3 => ?_)
  have g23 := g2.trans g3
  refine ⟨p, vs, rfl, sql_ext g23.ext h1, fun p' hp => kk p' _ _ _ ((g1.trans g23).trans (Grow.alloc0 hp)) (none_ext (g1.trans g23).ext hp) (fun z => ((E.grow g1).grow g23).slv p' z hp) upd_same
    ((cut_rep (r1.keep g23.keep) l u).mono (fun _ z => z) fun a o _ e => by rw [upd_ne (ne_of_none e hp)]; exact e)⟩

/-! ### a list of one's own changes -/
theorem own_at {S : AS} {F : Nat → AS} {q : L2.St} {H : Hp} (E : EnvOk H0 S0 G S F q H) {i : Nat} {ds : List D} (hi : G[i]? = some (.own ds) := by rfl) : ∃ p vs, q[i]? = some (some (.ref p)) ∧ F i p ∧ H p = some (.lst vs) ∧ Reps S H vs ds ∧ ¬ S p := by
  obtain ⟨o, h1, p, vs, rfl, hF, hp, r⟩ := E.sl i _ hi
  exact ⟨p, vs, h1, (hF p).mpr rfl, hp, r, (E.mu i _ hi rfl p ((hF p).mpr rfl)).2.1⟩
theorem ds_append (i : Nat) (hX : XOk P w K mg base k N sc fa X) {x : Str} {e : Expr} {rest : List Stmt} {ds : List D} {d : D} {P' : Out → Prop} {apos : Pos} (hN : N[i]? = some x := by rfl) (hv : visB sc x = true := by decide +kernel) (hi : G[i]? = some (.own ds) := by rfl) (he : DE X H0 S0 e G d) (hz : ds.length < 16777216)
    (h : DS X H0 S0 rest (G.set i (.own (ds ++ [d]))) P') (hd : (x == ("__debug__" : Str)) = false := by decide) (hcd : (x == ("__classdict__" : Str)) = false := by decide)
    (hbase : attributeBase (.Name x p1) "append" X.env (eval (.Name x p1) X.env) = eval (.Name x p1) X.env := by rfl)
    (hfew : ((backTo p2 (starEach [e] X.env)).all (fun x => !x.1) && (backToKw p2 (keywordEach [] X.env)).all (fun x => x.1.isSome)
      && decide ([e].length + ([] : List Keyword).length + (if ([] : List Keyword).isEmpty then 0 else 1) < 30)) = true := by rfl)
    (hline : (apos.endLine == p2.line) = true := by rfl) (hs : starEach [e] X.env = (false, eval e X.env) :: starEach [] X.env := by rfl) (hplain : (backTo p2 (starEach [] X.env)).any (·.1) = false := by rfl)
    (hsw : swapsWith (.Call (.Attribute (.Name x p1) "append" apos) [e] [] p2) none pos.line X.env = pure false := by rfl) :
    DS X H0 S0 (.Expr (.Call (.Attribute (.Name x p1) "append" apos) [e] [] p2) pos :: rest) G P' := fun S F q H Dd E kk => by
  obtain ⟨p, vs, e1, hF, hp, r, hS⟩ := own_at E hi
  refine wSs_of (pss_cons (ps_expr (pe_bm PySem.F.plainAttrs_list PySem.F.slot_list_append PySem.F.type_list_append mt_append (pe_var (X := X) (i := i) (by rw [hX.eN]; exact hN) (by rw [hX.es]; exact vis_of hv) hd hcd) (pa_cons pwE pa_nil hs) hbase hfew hline hs hplain) hsw) pwSs) ?_
  refine ⟨_, e1, .inl ⟨rfl, _, .inl (.inl hp)⟩, he S F q H E _ fun v H1 S1 g1 r1 => ?_⟩
  have E1 := E.grow g1
  have hp1 := g1.ext _ _ hp
  have m1 := (E1.mu i _ hi rfl p hF).2.1
  refine ⟨p, vs, v, rfl, rfl, hp1, by rw [r.len, sizeLine_eq]; exact hz, ?_⟩
  exact h S1 F q _ Dd (E1.store hi e1 ((r.keep g1.keep).append (.cons r1 .nil))) (kk.at_ (g1.keep.trans (Keep.upd m1 (nt_lst hp1))))
theorem ds_appendN {G' : List Slot} (i : Nat) (hX : XOk P w K mg base k N sc fa X) {x : Str} {e : Expr} {rest : List Stmt} {ds : List D} {d : D} {P' : Out → Prop} {apos : Pos} (hN : N[i]? = some x := by rfl) (hv : visB sc x = true := by decide +kernel) (hi : G[i]? = some (.own ds) := by rfl) (he : DE X H0 S0 e G d) (hz : ds.length < 16777216) (h : DS X H0 S0 rest G' P') (hd : (x == ("__debug__" : Str)) = false := by decide) (hcd : (x == ("__classdict__" : Str)) = false := by decide) (hbase : attributeBase (.Name x p1) "append" X.env (eval (.Name x p1) X.env) = eval (.Name x p1) X.env := by rfl) (hfew : ((backTo p2 (starEach [e] X.env)).all (fun x => !x.1) && (backToKw p2 (keywordEach [] X.env)).all (fun x => x.1.isSome)
      && decide ([e].length + ([] : List Keyword).length + (if ([] : List Keyword).isEmpty then 0 else 1) < 30)) = true := by rfl) (hline : (apos.endLine == p2.line) = true := by rfl) (hs : starEach [e] X.env = (false, eval e X.env) :: starEach [] X.env := by rfl) (hplain : (backTo p2 (starEach [] X.env)).any (·.1) = false := by rfl) (hsw : swapsWith (.Call (.Attribute (.Name x p1) "append" apos) [e] [] p2) none pos.line X.env = pure false := by rfl) (hG : G.set i (.own (ds ++ [d])) = G' := by first | (dsimp only [List.set, atS, slots, slotB] <;> rfl) | rfl) :
    DS X H0 S0 (.Expr (.Call (.Attribute (.Name x p1) "append" apos) [e] [] p2) pos :: rest) G P' := by
  subst hG
  exact ds_append (i := i) (hX := hX) (hN := hN) (hv := hv) (hi := hi) (he := he) (hz := hz) (h := h) (hd := hd) (hcd := hcd) (hbase := hbase) (hfew := hfew) (hline := hline) (hs := hs) (hplain := hplain) (hsw := hsw)
/-- x[j] = e -/
theorem ds_setix (i : Nat) (hX : XOk P w K mg base k N sc fa X) {x : Str} {e b : Expr} {rest : List Stmt} {ds : List D} {d : D} {n : Int} {j : Nat} {P' : Out → Prop} (hN : N[i]? = some x := by rfl) (hv : visB sc x = true := by decide +kernel) (hi : G[i]? = some (.own ds) := by rfl) (he : DE X H0 S0 e G d) (hb : DE X H0 S0 b G (.int n)) (hj : ixN ds.length n = some j)
    (h : DS X H0 S0 rest (G.set i (.own (ds.set j d))) P') (hd : (x == ("__debug__" : Str)) = false := by decide) (hcd : (x == ("__classdict__" : Str)) = false := by decide)
    (ha : ∀ v, assign (.Subscript (.Name x p1) b p2) X.env v = (do
      let ov ← holding [v] (eval (.Name x p1) X.env)
      let iv ← holding [v, ov] (eval b X.env)
      standAt p2
      holding [v, ov, iv] (setItem ov iv v)
      release [v, ov, iv] []) := by intro _; rfl)
    (hs : swapsWithSole [.Subscript (.Name x p1) b p2] e pos.line X.env = pure false := by rfl) (hw : swappedStores [.Subscript (.Name x p1) b p2] e X.env = pure none := by rfl) (h1 : (assignEach [.Subscript (.Name x p1) b p2] X.env).map (·.2) = [assign (.Subscript (.Name x p1) b p2) X.env] := by rfl) :
    DS X H0 S0 (.Assign [.Subscript (.Name x p1) b p2] e pos :: rest) G P' := fun S F q H Dd E kk => by
  refine wSs_of (pss_cons (ps_asg pwE (pg_sub (pe_var (X := X) (i := i) (by rw [hX.eN]; exact hN) (by rw [hX.es]; exact vis_of hv) hd hcd) pwE set_list ha) hs hw h1) pwSs) (he S F q H E _ fun v H1 S1 g1 r1 => ?_)
  have E1 := E.grow g1
  obtain ⟨p, vs, e1, hF, hp, r, hS⟩ := own_at E1 hi
  refine ⟨_, e1, hb S1 F q H1 E1 _ fun u H2 S2 g2 r2 => ?_⟩
  cases r2
  have E2 := E1.grow g2
  have m1 := (E2.mu i _ hi rfl p hF).2.1
  refine ⟨p, vs, n, j, rfl, rfl, g2.ext _ _ hp, by rw [r.len]; exact hj, ?_⟩
  exact h S2 F q _ Dd (E2.store hi e1 (Reps.set (r1.keep g2.keep) j (r.keep g2.keep))) (kk.at_ ((g1.keep.trans g2.keep).trans (Keep.upd m1 (nt_lst (g2.ext _ _ hp)))))
theorem ds_setixN {G' : List Slot} (i : Nat) (hX : XOk P w K mg base k N sc fa X) {x : Str} {e b : Expr} {rest : List Stmt} {ds : List D} {d : D} {n : Int} {j : Nat} {P' : Out → Prop} (hN : N[i]? = some x := by rfl) (hv : visB sc x = true := by decide +kernel) (hi : G[i]? = some (.own ds) := by rfl) (he : DE X H0 S0 e G d) (hb : DE X H0 S0 b G (.int n)) (hj : ixN ds.length n = some j) (h : DS X H0 S0 rest G' P') (hd : (x == ("__debug__" : Str)) = false := by decide) (hcd : (x == ("__classdict__" : Str)) = false := by decide) (ha : ∀ v, assign (.Subscript (.Name x p1) b p2) X.env v = (do
      let ov ← holding [v] (eval (.Name x p1) X.env)
      let iv ← holding [v, ov] (eval b X.env)
      standAt p2
      holding [v, ov, iv] (setItem ov iv v)
      release [v, ov, iv] []) := by intro _; rfl) (hs : swapsWithSole [.Subscript (.Name x p1) b p2] e pos.line X.env = pure false := by rfl) (hw : swappedStores [.Subscript (.Name x p1) b p2] e X.env = pure none := by rfl) (h1 : (assignEach [.Subscript (.Name x p1) b p2] X.env).map (·.2) = [assign (.Subscript (.Name x p1) b p2) X.env] := by rfl) (hG : G.set i (.own (ds.set j d)) = G' := by first | (dsimp only [List.set, atS, slots, slotB] <;> rfl) | rfl) :
    DS X H0 S0 (.Assign [.Subscript (.Name x p1) b p2] e pos :: rest) G P' := by
  subst hG
  exact ds_setix (i := i) (hX := hX) (hN := hN) (hv := hv) (hi := hi) (he := he) (hb := hb) (hj := hj) (h := h) (hd := hd) (hcd := hcd) (ha := ha) (hs := hs) (hw := hw) (h1 := h1)
theorem get_list {X : Cx} : PGet X (fun o i H Q => ∃ p xs k v, o = .ref p ∧ i = .int k ∧ SqL X.K H p xs ∧ atI xs k = some v ∧ Q v H) := by
  intro pins s q H o i ov iv Q I ro ri h
  obtain ⟨p, xs, n, v, rfl, rfl, hq, hat, hQ⟩ := h
  cases ro
  obtain ⟨t, rfl⟩ := ri
  obtain ⟨its, r, pl, hz⟩ := I.list hq
  obtain ⟨j, h1, h2, h3, h4, h5⟩ := atI_get hat
  obtain ⟨u, ew, rw'⟩ := r.get h2
  have hl := r.length
  have hn := line63
  have fin : EP X pins q Q u s := ⟨v, H, I, rw', hQ⟩
  by_cases h0 : 0 ≤ n
  · have hj : n.toNat = j := by
      rw [seqIndex_of h0 h5] at h1
      exact Option.some.inj h1
    exact wpAny_getItem_list pl.isList h0 (by omega) (by rw [hj]; simpa using ew) fin
  · have hj : (n + (its.toArray.size : Int)).toNat = j := by
      rw [seqIndex_neg (by omega) h4] at h1
      rw [List.size_toArray, ← hl]
      exact Option.some.inj h1
    exact wpAny_getItem_list_neg pl.isList (by omega) (by rw [List.size_toArray] <;> omega) (by omega) (by rw [hj]; simpa using ew) fin
end
end DL

namespace DL
open PySem PySem.Spec PyProof.Rows L2

/-! ### lists glued, said again; over any list that is read -/
theorem lstR {X : Cx} {pins : List (Addr × Obj)} {q : L2.St} {H : Hp} {s : Shared} {l : Addr} {xs : List V} (I : Inv X pins q H s) (h : Rd H l (.lst xs)) :
    xs.length ≤ sizeLine ∧ ∃ (its : List Value) (n : Nat), Vals xs its ∧ xs.length = its.length ∧ s.heap.get? l = some { cls := .type "list", data := .seq its.toArray n } := by
  obtain ⟨z, its, n, r, e⟩ := h.ok I.hok
  exact ⟨z, its, n, r, r.length, e⟩
def rCatR : R2 := fun x y H Q => ∃ l b xs zs, x = .ref l ∧ y = .ref b ∧ Rd H l (.lst xs) ∧ Rd H b (.lst zs) ∧ xs.length + zs.length ≤ sizeLine ∧ ∀ p, H p = none → Q (.ref p) (upd H p (.lst (xs ++ zs)))
theorem op_catR {X : Cx} : OpR X (binaryOp .Add) rCatR := by
  intro pins s q H x y v u Q I rx ry h
  obtain ⟨l, b, xs, zs, rfl, rfl, hH, hB, hz, hq⟩ := h
  cases rx
  cases ry
  obtain ⟨z, its, n, r, hl, e⟩ := lstR I hH
  obtain ⟨z2, its2, n2, r2, hl2, e2⟩ := lstR I hB
  refine PySem.P.add_list e e2 ?_ (by rw [List.size_toArray, List.size_toArray]; omega)
  have ea : its.toArray ++ its2.toArray = (its ++ its2).toArray := by simp
  rw [ea]
  exact ⟨.ref _, _, I.lnew (t' := s.toks) (r.append r2) (by rw [List.length_append]; omega), rfl, hq _ I.fresh⟩
section
variable {P : Program} {w : World} {K : PySem.W.Frag} {mg : Str → Option Value} {base : Heap} {k : Nat} {N : List Str} {sc : Scope} {fa : Bool} {X : Cx} {H0 : Hp} {S0 : AS} {G G1 G2 : List Slot} {pos p1 p2 p3 : Pos}
theorem do_cat {a b : Expr} {xs ys : List D} (ha : DLr X H0 S0 a G xs) (hb : DLr X H0 S0 b G ys) (hz : xs.length + ys.length ≤ 16777216) : DO X H0 S0 (.BinOp a .Add b pos) G (xs ++ ys) := fun S F q H E Q kk =>
  wE_of (pe_op op_catR pwE pwE) (ha S F q H E _ fun p vs H1 S1 g1 h1 r1 => hb S1 F q H1 (E.grow g1) _ fun p' vs' H2 S2 g2 h2 r2 =>
    ⟨p, p', vs, vs', rfl, rfl, rd_keep (fun o z => g2.ext _ o z) h1, h2, by rw [r1.len, r2.len, sizeLine_eq]; exact hz, fun c hc => kk c _ _ _ ((g1.trans g2).trans (Grow.alloc0 hc)) (none_ext (g1.trans g2).ext hc) (fun z => ((E.grow g1).grow g2).slv c z hc) upd_same
      (((r1.keep g2.keep).append r2).mono (fun _ z => z) fun a o _ e => by rw [upd_ne (ne_of_none e hc)]; exact e)⟩)
/-- [x] * n -/
theorem do_rep {b x : Expr} {d : D} {n : Int} (hx : DE X H0 S0 x G d) (hb : DE X H0 S0 b G (.int n)) (h1 : -(2 ^ 63) ≤ n) (h2 : n ≤ 16777216) (hs : starEach [x] X.env = (false, eval x X.env) :: starEach [] X.env := by rfl) :
    DO X H0 S0 (.BinOp (.List [x] p1) .Mult b pos) G (List.replicate n.toNat d) := fun S F q H E Q kk =>
  wE_of (pe_op op_rep (pe_lst (pa_cons pwE pa_nil hs)) pwE) (hx S F q H E _ fun v H1 S1 g1 r1 => ⟨by show 1 ≤ sizeLine; decide, fun l hl => by
    have gl : Grow S1 H1 S1 (upd H1 l (.lst [v])) := Grow.alloc0 hl
    refine hb S1 F q _ ((E.grow g1).grow gl) _ fun u H2 S2 g2 r2 => ?_
    cases r2
    have e1 : (List.replicate n.toNat [v]).flatten = List.replicate n.toNat v := by
      generalize n.toNat = m
      induction m with
      | zero => rfl
      | succ m ih => rw [List.replicate_succ, List.flatten_cons, ih, List.replicate_succ]; rfl
    have g3 := (g1.trans gl).trans g2
    refine ⟨l, n, [v], rfl, rfl, g2.ext _ _ upd_same, h1, by omega, by rw [sizeLine_eq]; show 1 * n.toNat ≤ 16777216; omega, fun c hc => ?_⟩
    rw [e1]
    have rr : ∀ m : Nat, Reps S2 (upd H2 c (.lst (List.replicate n.toNat v))) (List.replicate m v) (List.replicate m d) := fun m => by
      induction m with
      | zero => exact .nil
      | succ m ih =>
        rw [List.replicate_succ, List.replicate_succ]
        exact .cons ((r1.keep ((gl.trans g2).keep)).mono (fun _ z => z) fun a o _ e => by rw [upd_ne (ne_of_none e hc)]; exact e) ih
    exact kk c _ _ S2 (g3.trans (Grow.alloc0 hc)) (none_ext g3.ext hc) (fun z => (E.grow g3).slv c z hc) upd_same (rr _)⟩)

/-! ### built-ins -/
theorem de_cb {id : String} {x : Str} {r : List V → Hp → VK → Prop} {e : Expr} {es : List Expr} {ds : List D} {z : D} (hX : XOk P w K mg base k N sc fa X) (hc : CallR X (.builtin id) r) (hm : mg x = none) (hg : globB sc x = true := by decide +kernel) (hv : bootBuiltins x = some (.builtin id)) (ha : DA X H0 S0 (e :: es) G ds)
    (hr : ∀ S H vs (Q : VK), Reps S H vs ds → (∀ v, Rep S H v z → Q v H) → r vs H Q)
    (hn : x ≠ "__name__" := by decide) (hdb : (x == ("__debug__" : Str)) = false := by decide) (he : starEach (e :: es) X.env = (false, eval e X.env) :: starEach es X.env := by rfl) (hpl : (backTo pos (starEach es X.env)).any (·.1) = false := by rfl) :
    DE X H0 S0 (.Call (.Name x p1) (e :: es) [] pos) G z := fun S F q H E Q kk =>
  wE_of (pe_callB hc (hX.gl hg) (by rw [hX.emg]; exact hm) hv pwA hn hdb he hpl) (ha S F q H E _ fun vs H1 S1 g1 r1 => hr S1 H1 vs Q r1 fun v rv => kk v H1 S1 g1 rv)
theorem de_ct {id : String} {x : Str} {r : List V → Hp → VK → Prop} {e : Expr} {es : List Expr} {ds : List D} {z : D} (hX : XOk P w K mg base k N sc fa X) (hc : CallR X (.type id) r) (hm : mg x = none) (hg : globB sc x = true := by decide +kernel) (hv : bootBuiltins x = some (.type id)) (ha : DA X H0 S0 (e :: es) G ds)
    (hr : ∀ S H vs (Q : VK), Reps S H vs ds → (∀ v, Rep S H v z → Q v H) → r vs H Q)
    (hn : x ≠ "__name__" := by decide) (hdb : (x == ("__debug__" : Str)) = false := by decide) (he : starEach (e :: es) X.env = (false, eval e X.env) :: starEach es X.env := by rfl) (hpl : (backTo pos (starEach es X.env)).any (·.1) = false := by rfl) :
    DE X H0 S0 (.Call (.Name x p1) (e :: es) [] pos) G z := fun S F q H E Q kk =>
  wE_of (pe_callTy hc (hX.gl hg) (by rw [hX.emg]; exact hm) hv pwA hn hdb he hpl) (ha S F q H E _ fun vs H1 S1 g1 r1 => hr S1 H1 vs Q r1 fun v rv => kk v H1 S1 g1 rv)
theorem de_abs {a : Expr} {i : Int} (hX : XOk P w K mg base k N sc fa X) (hm : mg "abs" = none) (hg : globB sc "abs" = true := by decide +kernel) (ha : DE X H0 S0 a G (.int i)) (hs : starEach [a] X.env = (false, eval a X.env) :: starEach [] X.env := by rfl) (hpl : (backTo pos (starEach [] X.env)).any (·.1) = false := by rfl) :
    DE X H0 S0 (.Call (.Name "abs" p1) [a] [] pos) G (.int (i.natAbs : Int)) :=
  de_cb hX call_abs hm hg PyProof.Rows.boot_abs (da_cons ha da_nil hs) (fun S H vs Q r kk => by
    cases r with
    | cons r t =>
      cases t; cases r
      refine ⟨i, rfl, kk _ ?_⟩
      have e : (if i < 0 then -i else i) = (i.natAbs : Int) := by split <;> omega
      rw [e]
      exact .int _) (by decide) (by decide) hs hpl
theorem de_max2 {a b : Expr} {i j : Int} (hX : XOk P w K mg base k N sc fa X) (hm : mg "max" = none) (hg : globB sc "max" = true := by decide +kernel) (ha : DE X H0 S0 a G (.int i)) (hb : DE X H0 S0 b G (.int j)) (hs : starEach [a, b] X.env = (false, eval a X.env) :: starEach [b] X.env := by rfl) (hs2 : starEach [b] X.env = (false, eval b X.env) :: starEach [] X.env := by rfl) (hpl : (backTo pos (starEach [b] X.env)).any (·.1) = false := by rfl) :
    DE X H0 S0 (.Call (.Name "max" p1) [a, b] [] pos) G (.int (max i j)) :=
  de_cb hX (call_max2 hX.calm) hm hg PyProof.Rows.boot_max (da_cons ha (da_cons hb da_nil hs2) hs) (fun S H vs Q r kk => by
    cases r with
    | cons r t =>
      cases t with
      | cons r2 t =>
        cases t; cases r; cases r2
        refine ⟨i, j, rfl, kk _ ?_⟩
        have e : (if j > i then j else i) = max i j := by split <;> omega
        rw [e]
        exact .int _) (by decide) (by decide) hs hpl
theorem de_min2 {a b : Expr} {i j : Int} (hX : XOk P w K mg base k N sc fa X) (hm : mg "min" = none) (hg : globB sc "min" = true := by decide +kernel) (ha : DE X H0 S0 a G (.int i)) (hb : DE X H0 S0 b G (.int j)) (hs : starEach [a, b] X.env = (false, eval a X.env) :: starEach [b] X.env := by rfl) (hs2 : starEach [b] X.env = (false, eval b X.env) :: starEach [] X.env := by rfl) (hpl : (backTo pos (starEach [b] X.env)).any (·.1) = false := by rfl) :
    DE X H0 S0 (.Call (.Name "min" p1) [a, b] [] pos) G (.int (min i j)) :=
  de_cb hX (call_min2 hX.calm) hm hg PyProof.Rows.boot_min (da_cons ha (da_cons hb da_nil hs2) hs) (fun S H vs Q r kk => by
    cases r with
    | cons r t =>
      cases t with
      | cons r2 t =>
        cases t; cases r; cases r2
        refine ⟨i, j, rfl, kk _ ?_⟩
        have e : (if j < i then j else i) = min i j := by split <;> omega
        rw [e]
        exact .int _) (by decide) (by decide) hs hpl
def b2i (b : Bool) : Int := if b then 1 else 0
theorem de_intb {a : Expr} {b : Bool} (hX : XOk P w K mg base k N sc fa X) (hm : mg "int" = none) (hg : globB sc "int" = true := by decide +kernel) (ha : DE X H0 S0 a G (.bool b)) (hs : starEach [a] X.env = (false, eval a X.env) :: starEach [] X.env := by rfl) (hpl : (backTo pos (starEach [] X.env)).any (·.1) = false := by rfl) :
    DE X H0 S0 (.Call (.Name "int" p1) [a] [] pos) G (.int (b2i b)) :=
  de_ct hX call_int1 hm hg PyProof.Rows.boot_int (da_cons ha da_nil hs) (fun S H vs Q r kk => by
    cases r with
    | cons r t =>
      cases t; cases r
      exact .inr ⟨b, rfl, kk _ (.int _)⟩) (by decide) (by decide) hs hpl
/-- a call of a built-in upon one list -/
theorem de_cl {id : String} {x : Str} {r : List V → Hp → VK → Prop} {e : Expr} {ds : List D} {z : D} (hX : XOk P w K mg base k N sc fa X) (hc : CallR X (.builtin id) r) (hm : mg x = none) (hg : globB sc x = true := by decide +kernel) (hv : bootBuiltins x = some (.builtin id)) (ha : DLs X H0 S0 e G ds)
    (hr : ∀ S H p vs (Q : VK), SqL X.K H p vs → Reps S H vs ds → (∀ v, Rep S H v z → Q v H) → r [.ref p] H Q)
    (hn : x ≠ "__name__" := by decide) (hdb : (x == ("__debug__" : Str)) = false := by decide) (he : starEach [e] X.env = (false, eval e X.env) :: starEach [] X.env := by rfl) (hpl : (backTo pos (starEach [] X.env)).any (·.1) = false := by rfl) :
    DE X H0 S0 (.Call (.Name x p1) [e] [] pos) G z := fun S F q H E Q kk =>
  wE_of (pe_callB hc (hX.gl hg) (by rw [hX.emg]; exact hm) hv (pa_cons pwE pa_nil he) hn hdb he hpl) (ha S F q H E _ fun p vs H1 S1 g1 h1 r1 => hr S1 H1 p vs Q h1 r1 fun v rv => kk v H1 S1 g1 rv)
theorem de_len {a : Expr} {ds : List D} (hX : XOk P w K mg base k N sc fa X) (hm : mg "len" = none) (hg : globB sc "len" = true := by decide +kernel) (ha : DLs X H0 S0 a G ds) (he : starEach [a] X.env = (false, eval a X.env) :: starEach [] X.env := by rfl) (hpl : (backTo pos (starEach [] X.env)).any (·.1) = false := by rfl) :
    DE X H0 S0 (.Call (.Name "len" p1) [a] [] pos) G (.int (ds.length : Int)) :=
  de_cl hX call_len_seq hm hg PySem.boot_len ha (fun S H p vs Q h r kk => ⟨p, vs, rfl, .inl h, kk _ (by rw [r.len]; exact .int _)⟩) (by decide) (by decide) he hpl
theorem de_lent {a : Expr} {ds : List D} (hX : XOk P w K mg base k N sc fa X) (hm : mg "len" = none) (hg : globB sc "len" = true := by decide +kernel) (ha : DE X H0 S0 a G (.tuple ds)) (he : starEach [a] X.env = (false, eval a X.env) :: starEach [] X.env := by rfl) (hpl : (backTo pos (starEach [] X.env)).any (·.1) = false := by rfl) :
    DE X H0 S0 (.Call (.Name "len" p1) [a] [] pos) G (.int (ds.length : Int)) :=
  de_cb hX call_len_seq hm hg PySem.boot_len (da_cons ha da_nil he) (fun S H vs Q r kk => by
    cases r with
    | cons r t =>
      cases t
      cases r with
      | tup h2 h3 => exact ⟨_, _, rfl, .inr (.inl h2), kk _ (by rw [h3.len]; exact .int _)⟩) (by decide) (by decide) he hpl
theorem de_sum {a : Expr} {ns : List Int} (hX : XOk P w K mg base k N sc fa X) (hm : mg "sum" = none) (hg : globB sc "sum" = true := by decide +kernel) (ha : DLs X H0 S0 a G (ns.map PyData.int)) (he : starEach [a] X.env = (false, eval a X.env) :: starEach [] X.env := by rfl) (hpl : (backTo pos (starEach [] X.env)).any (·.1) = false := by rfl) :
    DE X H0 S0 (.Call (.Name "sum" p1) [a] [] pos) G (.int ns.sum) :=
  de_cl hX (cr_sum hX.calm) hm hg PyProof.Rows.boot_sum ha (fun S H p vs Q h r kk => ⟨p, ns, rfl, by rw [← r.ints]; exact h, kk _ (.int _)⟩) (by decide) (by decide) he hpl
theorem de_min {a : Expr} {ns : List Int} {m : Int} (hX : XOk P w K mg base k N sc fa X) (hm : mg "min" = none) (hg : globB sc "min" = true := by decide +kernel) (ha : DLs X H0 S0 a G (ns.map PyData.int)) (hi : m ∈ ns) (hl : ∀ y, y ∈ ns → m ≤ y) (he : starEach [a] X.env = (false, eval a X.env) :: starEach [] X.env := by rfl) (hpl : (backTo pos (starEach [] X.env)).any (·.1) = false := by rfl) :
    DE X H0 S0 (.Call (.Name "min" p1) [a] [] pos) G (.int m) :=
  de_cl hX (cr_min hX.calm) hm hg PyProof.Rows.boot_min ha (fun S H p vs Q h r kk => ⟨p, ns, rfl, by rw [← r.ints]; exact h, List.length_pos_of_mem hi, fun m' h1 h2 => by
    have e : m' = m := Int.le_antisymm (h2 m hi) (hl m' h1)
    rw [e]
    exact kk _ (.int _)⟩) (by decide) (by decide) he hpl
theorem do_list {a : Expr} {ds : List D} (hX : XOk P w K mg base k N sc fa X) (hm : mg "list" = none) (hg : globB sc "list" = true := by decide +kernel) (ha : DLs X H0 S0 a G ds) (he : starEach [a] X.env = (false, eval a X.env) :: starEach [] X.env := by rfl) (hpl : (backTo pos (starEach [] X.env)).any (·.1) = false := by rfl) :
    DO X H0 S0 (.Call (.Name "list" p1) [a] [] pos) G ds := fun S F q H E Q kk =>
  wE_of (pe_callTy call_list_of (hX.gl hg) (by rw [hX.emg]; exact hm) PyProof.Rows.boot_list (pa_cons pwE pa_nil he) (by decide) (by decide) he hpl) (ha S F q H E _ fun p vs H1 S1 g1 h1 r1 => ⟨p, vs, rfl, .inl h1, fun l hl =>
    kk l vs _ S1 (g1.trans (Grow.alloc0 hl)) (none_ext g1.ext hl) (fun z => (E.grow g1).slv l z hl) upd_same (r1.mono (fun _ z => z) fun a o _ e => by rw [upd_ne (ne_of_none e hl)]; exact e)⟩)
/-- isinstance of data -/
def tyD : D → String
  | .none => "NoneType"
  | .bool _ => "bool"
  | .int _ => "int"
  | .str _ => "str"
  | .list _ => "list"
  | .tuple _ => "tuple"
  | .dict _ => "dict"
def isiS (T t : String) : Bool := T == t || (T == "int" && t == "bool")
def isiB (T : String) (d : D) : Bool := isiS T (tyD d)
theorem kitS {T : String} (hT : T = "int" ∨ T = "bool" ∨ T = "list" ∨ T = "tuple" ∨ T = "str") : kitB "NoneType" T = some (isiS T "NoneType") ∧ kitB "bool" T = some (isiS T "bool") ∧ kitB "int" T = some (isiS T "int") ∧ kitB "str" T = some (isiS T "str") ∧
    kitB "list" T = some (isiS T "list") ∧ kitB "tuple" T = some (isiS T "tuple") := by
  rcases hT with rfl | rfl | rfl | rfl | rfl <;> exact ⟨by decide +kernel, by decide +kernel, by decide +kernel, by decide +kernel, by decide +kernel, by decide +kernel⟩
theorem rep_ty {K : PySem.W.Frag} {S : AS} {H : Hp} {v : V} {d : D} {T : String} (hT : T = "int" ∨ T = "bool" ∨ T = "list" ∨ T = "tuple" ∨ T = "str") (r : Rep S H v d) : ∃ t, TyX K H v t ∧ PySem.W.kitOne K t (.type T) = some (isiB T d) := by
  obtain ⟨h1, h2, h3, h4, h5, h6⟩ := kitS hT
  cases r with
  | non => exact ⟨_, .base .non, kit_ty h1⟩
  | bl b => exact ⟨_, .base (.bl b), kit_ty h2⟩
  | int i => exact ⟨_, .base (.int i), kit_ty h3⟩
  | str x => exact ⟨_, .base (.str x), kit_ty h4⟩
  | lst q1 q2 q3 => exact ⟨_, .base (.lst q2), kit_ty h5⟩
  | tup q2 q3 =>
    rcases q2 with q2 | ⟨o, q2⟩
    · exact ⟨_, .base (.tup q2), kit_ty h6⟩
    · exact ⟨_, .fTuple q2, kit_ty h6⟩
theorem de_isi {a : Expr} {T : String} {x : Str} {d : D} (hX : XOk P w K mg base k N sc fa X) (hm : mg "isinstance" = none) (hg : globB sc "isinstance" = true := by decide +kernel) (hmT : mg x = none) (hgT : globB sc x = true := by decide +kernel) (hvT : bootBuiltins x = some (.type T)) (hT : T = "int" ∨ T = "bool" ∨ T = "list" ∨ T = "tuple" ∨ T = "str")
    (ha : DE X H0 S0 a G d) (hn : x ≠ "__name__" := by decide) (hdb : (x == ("__debug__" : Str)) = false := by decide)
    (hs : starEach [a, .Name x p2] X.env = (false, eval a X.env) :: starEach [.Name x p2] X.env := by rfl) (hs2 : starEach [.Name x p2] X.env = (false, eval (.Name x p2) X.env) :: starEach [] X.env := by rfl) (hpl : (backTo pos (starEach [.Name x p2] X.env)).any (·.1) = false := by rfl) :
    DE X H0 S0 (.Call (.Name "isinstance" p1) [a, .Name x p2] [] pos) G (.bool (isiB T d)) := fun S F q H E Q kk =>
  wE_of (pe_callB call_isi (hX.gl hg) (by rw [hX.emg]; exact hm) PyProof.Rows.boot_isinstance (pa_cons pwE (pa_cons (pe_bltn (v := .ty T) (hX.gl hgT) (by rw [hX.emg]; exact hmT) hvT rfl hn hdb) pa_nil hs2) hs) (by decide) (by decide) hs hpl)
    (ha S F q H E _ fun v H1 S1 g1 r1 => by
      obtain ⟨t, ht, hk⟩ := rep_ty (K := X.K) hT r1
      exact ⟨v, .ty T, t, .type T, _, rfl, .ty T, ht, hk, kk _ H1 S1 g1 (.bl _)⟩)
/-- isinstance(xs, list) of a list of one's own -/
theorem de_isil {a : Expr} {ds : List D} (hX : XOk P w K mg base k N sc fa X) (hm : mg "isinstance" = none) (hg : globB sc "isinstance" = true := by decide +kernel) (hmT : mg "list" = none) (hgT : globB sc "list" = true := by decide +kernel)
    (ha : DLs X H0 S0 a G ds)
    (hs : starEach [a, .Name "list" p2] X.env = (false, eval a X.env) :: starEach [.Name "list" p2] X.env := by rfl) (hs2 : starEach [.Name "list" p2] X.env = (false, eval (.Name "list" p2) X.env) :: starEach [] X.env := by rfl) (hpl : (backTo pos (starEach [.Name "list" p2] X.env)).any (·.1) = false := by rfl) :
    DE X H0 S0 (.Call (.Name "isinstance" p1) [a, .Name "list" p2] [] pos) G (.bool true) := fun S F q H E Q kk =>
  wE_of (pe_callB call_isi (hX.gl hg) (by rw [hX.emg]; exact hm) PyProof.Rows.boot_isinstance (pa_cons pwE (pa_cons (pe_bltn (v := .ty "list") (hX.gl hgT) (by rw [hX.emg]; exact hmT) PyProof.Rows.boot_list rfl (by decide) (by decide)) pa_nil hs2) hs) (by decide) (by decide) hs hpl)
    (ha S F q H E _ fun p vs H1 S1 g1 h1 r1 => by
      refine ⟨.ref p, .ty "list", .type "list", .type "list", true, rfl, .ty "list", ?_, kit_ty (by decide +kernel), kk _ H1 S1 g1 (.bl _)⟩
      rcases h1 with (h1 | ⟨o, h1⟩) | ⟨o, its, n, e1, e2, _⟩
      · exact .base (.lst h1)
      · exact .base (.frz h1)
      · exact .kList e1 e2)
/-- x in xs, x not in xs: flat things -/
def flatD : D → Bool
  | .none => true
  | .bool _ => true
  | .int _ => true
  | .str _ => true
  | _ => false
end

/-! ### stores with an operator -/
section
variable {P : Program} {w : World} {K : PySem.W.Frag} {mg : Str → Option Value} {base : Heap} {k : Nat} {N : List Str} {sc : Scope} {fa : Bool} {X : Cx} {H0 : Hp} {S0 : AS} {G G1 G2 : List Slot} {pos p1 p2 p3 : Pos}
inductive AugD : Operator → Int → Int → Int → Prop
  | add {i j : Int} : AugD .Add i j (i + j)
  | sub {i j : Int} : AugD .Sub i j (i - j)
def ipA (op : Operator) : TIp := fun x y H Q => ∃ i j z, x = .int i ∧ y = .int j ∧ AugD op i j z ∧ Q (.int z) H
theorem ip_aug (op : Operator) : PIp X op (ipA op) := by
  intro pins s q H x y v u Q I r1 r2 h
  obtain ⟨i, j, z, e1, e2, c, hq⟩ := h
  cases c with
  | add => exact ip_add pins s q H x y v u Q I r1 r2 ⟨i, j, e1, e2, hq⟩
  | sub => exact ip_sub pins s q H x y v u Q I r1 r2 ⟨i, j, e1, e2, hq⟩
theorem ds_aug (i : Nat) {op : Operator} {x : Str} {e : Expr} {rest : List Stmt} {a b z : Int} {P' : Out → Prop} (hX : XOk P w K mg base k N sc true X) (hN : N[i]? = some x := by rfl) (hv : locB sc x = true := by decide +kernel) (hi : G[i]? = some (.val (.int a)) := by rfl) (he : DE X H0 S0 e G (.int b)) (c : AugD op a b z) (h : DS X H0 S0 rest (G.set i (.val (.int z))) P') :
    DS X H0 S0 (.AugAssign (.Name x p1) op e pos :: rest) G P' := fun S F q H Dd E kk => by
  obtain ⟨o, h1, _, v, rfl, r⟩ := E.sl i _ hi
  cases r
  refine wSs_of (pss_cons (ps_aug (i := i) (by rw [hX.eN]; exact hX.nd) (by rw [hX.eN]; exact hN) (by rw [hX.es]; exact loc_of hv) pwE (ip_aug op) (.inl (hX.fn rfl x))) pwSs) ⟨_, h1, he S F q H E _ fun u H1 S1 g1 r1 => ?_⟩
  cases r1
  exact ⟨a, b, z, rfl, rfl, c, h S1 _ _ H1 Dd ((E.grow g1).putv (List.getElem?_eq_some_iff.mp hi).1 (.int z)) (kk.at_ g1.keep)⟩
theorem ds_augN {G' : List Slot} (i : Nat) {op : Operator} {x : Str} {e : Expr} {rest : List Stmt} {a b z : Int} {P' : Out → Prop} (hX : XOk P w K mg base k N sc true X) (hN : N[i]? = some x := by rfl) (hv : locB sc x = true := by decide +kernel) (hi : G[i]? = some (.val (.int a)) := by rfl) (he : DE X H0 S0 e G (.int b)) (c : AugD op a b z) (h : DS X H0 S0 rest G' P') (hG : G.set i (.val (.int z)) = G' := by first | (dsimp only [List.set, atS, slots, slotB] <;> rfl) | rfl) :
    DS X H0 S0 (.AugAssign (.Name x p1) op e pos :: rest) G P' := by
  subst hG
  exact ds_aug (i := i) (hX := hX) (hN := hN) (hv := hv) (hi := hi) (he := he) (c := c) (h := h)
/-- x[j] op= e -/
theorem ds_augix (i : Nat) {op : Operator} {x : Str} {e b : Expr} {rest : List Stmt} {ds : List D} {n u c z : Int} {j : Nat} {P' : Out → Prop} (hX : XOk P w K mg base k N sc fa X) (hN : N[i]? = some x := by rfl) (hv : visB sc x = true := by decide +kernel) (hi : G[i]? = some (.own ds) := by rfl) (hb : DE X H0 S0 b G (.int n)) (hj : ixN ds.length n = some j) (hu : ds[j]? = some (.int u))
    (he : DE X H0 S0 e G (.int c)) (hc : AugD op u c z) (h : DS X H0 S0 rest (G.set i (.own (ds.set j (.int z)))) P') (hd : (x == ("__debug__" : Str)) = false := by decide) (hcd : (x == ("__classdict__" : Str)) = false := by decide)
    (ha : ∀ ov iv new, augStore b ov iv new = (do holding [new, ov, iv] (setItem ov iv new); release [new, ov, iv] []; pure .next) := by intros; rfl) :
    DS X H0 S0 (.AugAssign (.Subscript (.Name x p1) b p2) op e pos :: rest) G P' := fun S F q H Dd E kk => by
  obtain ⟨p, vs, e1, hF, hp, r, hS⟩ := own_at E hi
  refine wSs_of (pss_cons (ps_augS (pe_var (X := X) (i := i) (by rw [hX.eN]; exact hN) (by rw [hX.es]; exact vis_of hv) hd hcd) pwE get_list pwE (ip_aug op) set_list ha) pwSs) ⟨_, e1, hb S F q H E _ fun w1 H1 S1 g1 r1 => ?_⟩
  cases r1
  obtain ⟨v, hv', rv⟩ := r.getD hu
  cases rv
  have E1 := E.grow g1
  refine ⟨p, vs, n, .int u, rfl, rfl, .inl (.inl (g1.ext _ _ hp)), atI_of (by rw [r.len]; exact hj) hv', he S1 F q H1 E1 _ fun w2 H2 S2 g2 r2 => ?_⟩
  cases r2
  have E2 := E1.grow g2
  have m1 := (E2.mu i _ hi rfl p hF).2.1
  refine ⟨u, c, z, rfl, rfl, hc, p, vs, n, j, rfl, rfl, g2.ext _ _ (g1.ext _ _ hp), by rw [r.len]; exact hj, ?_⟩
  exact h S2 F q _ Dd (E2.store hi e1 (Reps.set (.int z) j (r.keep (g1.trans g2).keep))) (kk.at_ ((g1.keep.trans g2.keep).trans (Keep.upd m1 (nt_lst (g2.ext _ _ (g1.ext _ _ hp))))))
theorem ds_augixN {G' : List Slot} (i : Nat) {op : Operator} {x : Str} {e b : Expr} {rest : List Stmt} {ds : List D} {n u c z : Int} {j : Nat} {P' : Out → Prop} (hX : XOk P w K mg base k N sc fa X) (hN : N[i]? = some x := by rfl) (hv : visB sc x = true := by decide +kernel) (hi : G[i]? = some (.own ds) := by rfl) (hb : DE X H0 S0 b G (.int n)) (hj : ixN ds.length n = some j) (hu : ds[j]? = some (.int u)) (he : DE X H0 S0 e G (.int c)) (hc : AugD op u c z) (h : DS X H0 S0 rest G' P') (hd : (x == ("__debug__" : Str)) = false := by decide) (hcd : (x == ("__classdict__" : Str)) = false := by decide) (ha : ∀ ov iv new, augStore b ov iv new = (do holding [new, ov, iv] (setItem ov iv new); release [new, ov, iv] []; pure .next) := by intros; rfl) (hG : G.set i (.own (ds.set j (.int z))) = G' := by first | (dsimp only [List.set, atS, slots, slotB] <;> rfl) | rfl) :
    DS X H0 S0 (.AugAssign (.Subscript (.Name x p1) b p2) op e pos :: rest) G P' := by
  subst hG
  exact ds_augix (i := i) (hX := hX) (hN := hN) (hv := hv) (hi := hi) (hb := hb) (hj := hj) (hu := hu) (he := he) (hc := hc) (h := h) (hd := hd) (hcd := hcd) (ha := ha)
end
end DL

namespace DL
open PySem PySem.Spec PyProof.Rows L2

/-! ### comprehensions -/
def wipeG (G : List Slot) : List Nat → List Slot
  | [] => G
  | v :: vs => (wipeG G vs).set v .junk
theorem wipeG_len (G : List Slot) : ∀ vs : List Nat, (wipeG G vs).length = G.length
  | [] => rfl
  | v :: vs => by unfold wipeG; rw [List.length_set, wipeG_len G vs]
theorem wipe_at (q : L2.St) (j : Nat) : ∀ vs : List Nat, (wipe q vs)[j]? = if j ∈ vs then (if j < q.length then some none else none) else q[j]?
  | [] => by simp [wipe]
  | v :: vs => by
    unfold wipe
    by_cases hj : v = j
    · subst hj
      rw [if_pos List.mem_cons_self]
      by_cases hl : v < q.length
      · rw [if_pos hl, List.getElem?_set_self (by rw [wipe_length]; exact hl)]
      · rw [if_neg hl]
        exact List.getElem?_eq_none (by rw [List.length_set, wipe_length]; omega)
    · rw [List.getElem?_set_ne hj, wipe_at q j vs]
      have e : (j ∈ v :: vs) = (j ∈ vs) := by
        rw [List.mem_cons]
        exact propext ⟨fun z => z.elim (fun z => absurd z.symm hj) id, .inr⟩
      simp only [e]
theorem wipe_eq {q q' : L2.St} {vs : List Nat} (hl : q'.length = q.length) (h : ∀ j, j ∉ vs → q'[j]? = q[j]?) : wipe q' vs = wipe q vs := by
  apply List.ext_getElem?
  intro j
  rw [wipe_at, wipe_at, hl]
  by_cases hj : j ∈ vs
  · rw [if_pos hj, if_pos hj]
  · rw [if_neg hj, if_neg hj, h j hj]
theorem wipe_wipe {q : L2.St} {vs : List Nat} : wipe (wipe q vs) vs = wipe q vs := wipe_eq (wipe_length q vs) fun j hj => by rw [wipe_at, if_neg hj]
section
variable {P : Program} {w : World} {K : PySem.W.Frag} {mg : Str → Option Value} {base : Heap} {k : Nat} {N : List Str} {sc : Scope} {fa : Bool} {X : Cx} {H0 : Hp} {S0 : AS} {G G1 G2 : List Slot} {pos p1 p2 p3 : Pos}
theorem EnvOk.wiped {S : AS} {F : Nat → AS} {q : L2.St} {H : Hp} (E : EnvOk H0 S0 G S F q H) : ∀ vs : List Nat, (∀ v ∈ vs, v < G.length) → ∃ F', EnvOk H0 S0 (wipeG G vs) S F' (wipe q vs) H ∧ ∀ j a, F' j a → F j a
  | [], _ => ⟨F, E, fun _ _ h => h⟩
  | v :: vs, h => by
    obtain ⟨F1, E1, s1⟩ := EnvOk.wiped E vs fun u hu => h u (List.mem_cons_of_mem _ hu)
    refine ⟨_, E1.putj (by rw [wipeG_len]; exact h v List.mem_cons_self) none, fun j a ha => ?_⟩
    by_cases z : j = v
    · rw [if_pos z] at ha; exact ha.elim
    · rw [if_neg z] at ha; exact s1 j a ha
/-- the tests of a clause -/
def wTs (X : Cx) (ifs : List Expr) : TT := fun q H Q => ∀ pins s, Inv X pins q H s → wpAny (model X.prog X.w) X.A (forIn ifs true fun c r => if r = true then do let ok ← isTrue c X.env (eval c X.env); pure (ForInStep.yield ok) else pure (ForInStep.yield r)) (TP X pins q Q) X.xe s
def DTs (X : Cx) (H0 : Hp) (S0 : AS) (ifs : List Expr) (G : List Slot) (b : Bool) : Prop := ∀ S F q H, EnvOk H0 S0 G S F q H → ∀ Q : Bool → Hp → Prop, (∀ H' S', Grow S H S' H' → Q b H') → wTs X ifs q H Q
theorem pwTs {ifs : List Expr} : PTs X ifs (wTs X ifs) := ⟨fun pins s _ _ _ I h => h pins s I⟩
theorem wTs_of {ifs : List Expr} {t : TT} {q : L2.St} {H : Hp} {Q : Bool → Hp → Prop} (h : PTs X ifs t) (kk : t q H Q) : wTs X ifs q H Q := fun pins s I => h.run pins s q H Q I kk
theorem dts_nil : DTs X H0 S0 [] G true := fun S F q H E Q kk => wTs_of pts_nil (kk H S (Grow.refl S H))
theorem dts_one {c : Expr} {b : Bool} (h : DT X H0 S0 c G b) : DTs X H0 S0 [c] G b := fun S F q H E Q kk => wTs_of (pts_one pwT) (h S F q H E Q kk)

abbrev blkX (X : Cx) (s : Shared) (Hh : Hp) (scope : Scope) (cl : List (Str × Addr)) (C : Addr) (fp : List Addr) : Cx := X.blk s Hh scope (compEnvC scope cl C X.env) fp
theorem XOk.blk (hX : XOk P w K mg base k N sc fa X) (s : Shared) (Hh : Hp) (scope : Scope) (cl : List (Str × Addr)) (C : Addr) (fp : List Addr) : XOk P w K mg base k N (relS scope sc) false (blkX X s Hh scope cl C fp) :=
  ⟨hX.eP, hX.ew, hX.eK, hX.emg, hX.eb, hX.eN, by
    have e : (blkX X s Hh scope cl C fp).env.scope = relS scope X.env.scope := rfl
    rw [e, hX.es], hX.nd, hX.calm, hX.room, (fun z => by cases z), PassesOwn.never⟩
def gB (X : Cx) (scope : Scope) (tg : Expr) : TG := fun v q H Q => ∀ s Hh cl C fp, wG (blkX X s Hh scope cl C fp) tg v q H Q
def tB' (X : Cx) (scope : Scope) (ifs : List Expr) : TT := fun q H Q => ∀ s Hh cl C fp, wTs (blkX X s Hh scope cl C fp) ifs q H Q
def eB (X : Cx) (scope : Scope) (e : Expr) : TE := fun q H Q => ∀ s Hh cl C fp, wE (blkX X s Hh scope cl C fp) e q H Q

theorem blt_all {G : List Slot} {js : List Nat} (hj : (js.all fun v => Nat.blt v G.length) = true) : ∀ v ∈ js, v < G.length := fun v hv => by
  have := List.all_eq_true.mp hj v hv
  exact Nat.lt_of_lt_of_le (Nat.lt_succ_self v) (Nat.le_of_ble_eq_true this)
/-- [elt for tg in it if ..]: xs the things walked, p which of them are taken, g what they give -/
structure Comp (P : Program) (w : World) (K : PySem.W.Frag) (mg : Str → Option Value) (base : Heap) (k : Nat) (N : List Str) (sc : Scope) (H0 : Hp) (S0 : AS) (G : List Slot) (elt tg : Expr) (ifs : List Expr) (scope : Scope) (vs : List Nat) {T : Type} (enc : T → D) (xs : List T) (p : T → Bool) (g : T → D) : Prop where
  turn : ∀ x ∈ xs, ∃ G2 t, (∀ X', XOk P w K mg base k N (relS scope sc) false X' → DG X' H0 S0 tg (enc x) (wipeG G vs) G2 t) ∧ (∀ j ∈ t, j ∈ vs) ∧ (∀ X', XOk P w K mg base k N (relS scope sc) false X' → DTs X' H0 S0 ifs G2 (p x)) ∧
    (p x = true → ∀ X', XOk P w K mg base k N (relS scope sc) false X' → DE X' H0 S0 elt G2 (g x))
theorem comp_core (hX : XOk P w K mg base k N sc fa X) {elt tg : Expr} {ifs : List Expr} {scope : Scope} {vs : List Nat} {T : Type} {enc : T → D} {xs : List T} {p : T → Bool} {g : T → D} {wi : TI} (hsz : xs.length ≤ 16777216) (hvs : ∀ v ∈ vs, v < G.length)
    (hwi : ∀ S F q H, EnvOk H0 S0 G S F q H → ∀ R : It → Hp → Prop,
      (∀ (J : It) H' S', Grow S H S' H' → (∀ (i : Nat) (S2 : AS) (H2 : Hp) (d : D), Keep S' H' S2 H2 → (∀ a o, H0 a = some o → H2 a = some o) → (xs.map enc)[i]? = some d → J.go i H2 ∧ ∀ x H3, J.yld i H2 x H3 → ∃ S3, Grow S2 H2 S3 H3 ∧ Rep S3 H3 x d) →
        (∀ (i : Nat) (S2 : AS) (H2 : Hp), Keep S' H' S2 H2 → (∀ a o, H0 a = some o → H2 a = some o) → (xs.map enc).length ≤ i → J.stop i H2) → R J H') → wi q H R)
    (hC : Comp P w K mg base k N sc H0 S0 G elt tg ifs scope vs enc xs p g) : ∀ S F q H, EnvOk H0 S0 G S F q H → ∀ Q : VK, (∀ p' ws H' S', Grow S H S' H' → H p' = none → ¬ S' p' → H' p' = some (.lst ws) → Reps S' H' ws ((xs.filter p).map g) → Q (.ref p') H') →
      tLc wi (gB X scope tg) (tB' X scope ifs) (eB X scope elt) vs q H Q := by
  intro S F q H E Q kk
  refine hwi S F q H E _ fun J H1 S1 g1 hgo hstop Dn hD => ?_
  have E1 := E.grow g1
  obtain ⟨Fw, Ew, sw⟩ := E1.wiped vs hvs
  have n0 : H0 Dn = none := none_ext E1.ext hD
  have nF : ∀ j, ¬ Fw j Dn := fun j z => E1.flv j Dn (sw j Dn z) hD
  have nS : ¬ S1 Dn := fun z => E1.slv Dn z hD
  let St : Nat → Hp → Prop := fun i H' => ∃ S' acc, EnvOk H0 S0 (wipeG G vs) S' Fw (wipe q vs) H' ∧ Grow S1 H1 S' H' ∧ ¬ S' Dn ∧ H' Dn = some (.lst acc) ∧ Reps S' H' acc (((xs.take i).filter p).map g)
  refine ⟨fun i m H' => m = xs.length - i ∧ i ≤ xs.length ∧ St i H', ⟨xs.length, by simp, Nat.zero_le _, S1, [], Ew.other n0 nS nF (nt_none hD), Grow.alloc0 hD, nS, upd_same, .nil⟩, ?_⟩
  rintro i m Hi ⟨rfl, hi, Si, acc, Ei, gi, nSi, hDi, ri⟩
  have sz : acc.length ≤ i := by
    rw [ri.len, List.length_map]
    exact Nat.le_trans (List.length_filter_le _ _) (by rw [List.length_take]; exact Nat.min_le_left _ _)
  by_cases hlt : i < xs.length
  · have hx : xs[i]? = some xs[i] := List.getElem?_eq_getElem hlt
    have hd : (xs.map enc)[i]? = some (enc xs[i]) := by rw [List.getElem?_map, hx]; rfl
    obtain ⟨go1, go2⟩ := hgo i Si Hi _ gi.keep Ei.ext hd
    refine .inr ⟨go1, St (i + 1), fun H' h => ⟨xs.length - (i + 1), by omega, rfl, hlt, h⟩, fun x' H3 hy => ?_⟩
    obtain ⟨S3, g3, r3⟩ := go2 x' H3 hy
    obtain ⟨G2, t, hG, ht, hT, hE⟩ := hC.turn xs[i] (List.getElem_mem hlt)
    have etk : xs.take (i + 1) = xs.take i ++ [xs[i]] := by rw [List.take_succ, hx]; rfl
    intro s Hh cl C fp
    refine hG _ (hX.blk s Hh scope cl C fp) S3 Fw _ H3 (Ei.grow g3) x' r3 _ fun F' q' E' a' => ⟨?_, ?_⟩
    · rw [wipe_eq (q := wipe q vs) a'.1 fun j hj => a'.2 j fun z => hj (ht j z), wipe_wipe]
    · intro s Hh cl C fp
      refine hT _ (hX.blk s Hh scope cl C fp) S3 F' q' H3 E' _ fun H4 S4 g4 => ?_
      have last : ∀ {S5 : AS} {H5 : Hp} {v : V}, Grow S4 H4 S5 H5 → p xs[i] = true → Rep S5 H5 v (g xs[i]) → St (i + 1) (upd H5 Dn (.lst (acc ++ [v]))) := fun {S5 H5 v} g5 hp rv => by
        have gg := (g3.trans g4).trans g5
        have n5 : ¬ S5 Dn := fun z => (gg.new Dn z).elim nSi fun z => by rw [hDi] at z; cases z
        have g6 := gi.trans gg
        refine ⟨S5, _, (Ei.grow gg).other n0 n5 nF (nt_lst (gg.ext _ _ hDi)), ⟨fun a o h => ?_, g6.sub, g6.new, fun a z => ?_⟩, n5, upd_same, ?_⟩
        · rw [upd_ne (ne_of_none h hD)]; exact g6.ext a o h
        · refine (g6.lv a z).imp id fun y => ?_
          by_cases za : a = Dn
          · rw [za, upd_same]; exact Option.some_ne_none _
          · rw [upd_ne za]; exact y
        · rw [etk, List.filter_append, List.map_append, List.filter_cons, if_pos hp]
          exact ((ri.keep gg.keep).append (.cons rv .nil)).keep (Keep.upd n5 (nt_lst (gg.ext _ _ hDi)))
      cases hp : p xs[i] with
      | true =>
        refine iteT fun s Hh cl C fp => hE hp _ (hX.blk s Hh scope cl C fp) S4 F' q' H4 (E'.grow g4) _ fun y H5 S5 g5 r5 => ⟨acc, ?_, ?_, last g5 hp r5⟩
        · exact g5.ext _ _ (g4.ext _ _ (g3.ext _ _ hDi))
        · rw [sizeLine_eq]; omega
      | false =>
        refine iteF ?_
        have gg := g3.trans g4
        have n5 : ¬ S4 Dn := fun z => (gg.new Dn z).elim nSi fun z => by rw [hDi] at z; cases z
        refine ⟨S4, acc, Ei.grow gg, gi.trans gg, n5, gg.ext _ _ hDi, ?_⟩
        rw [etk, List.filter_append, List.map_append, List.filter_cons, if_neg (by rw [hp]; decide)]
        show Reps S4 H4 acc (_ ++ [])
        rw [List.append_nil]
        exact ri.keep gg.keep
  · have e : i = xs.length := by omega
    subst e
    rw [List.take_length] at ri
    exact .inl ⟨hstop _ Si Hi gi.keep Ei.ext (by rw [List.length_map]; exact Nat.le_refl _), kk Dn acc Hi Si (g1.trans gi) (none_ext g1.ext hD) nSi hDi ri⟩
theorem do_comp (hX : XOk P w K mg base k N sc fa X) {elt tg it : Expr} {ifs : List Expr} {scope : Scope} (own : List (Str × Nat)) {T : Type} {enc : T → D} {xs : List T} {p : T → Bool} {g : T → D} (hit : DI X H0 S0 tg it G (xs.map enc)) (hsz : xs.length ≤ 16777216) (hvs : ((own.map (·.2)).all fun v => Nat.blt v G.length) = true := by rfl)
    (hb : blkC N sc scope own = true := by decide +kernel) (hC : Comp P w K mg base k N sc H0 S0 G elt tg ifs scope (own.map (·.2)) enc xs p g) (hs : ∀ x, foldedSetIterable it X.env x = pure x := by intro _; rfl) :
    DO X H0 S0 (.ListComp elt [⟨tg, it, ifs, 0⟩] scope pos) G ((xs.filter p).map g) := fun S F q H E Q kk => by
  obtain ⟨wi, hpi, hwi⟩ := hit
  refine wE_of (pe_lc (own := own) hX.calm (by rw [hX.eN]; exact hX.nd) hpi (by rw [hX.eN, hX.es]; exact blkOk_by hb) (g := gB X scope tg) (tt := tB' X scope ifs) (te := eB X scope elt) ?_ ?_ ?_ hs) (comp_core hX hsz (blt_all hvs) hwi hC S F q H E Q kk)
  · exact fun s Hh C cl fp => ⟨fun pins s2 q2 H2 v u Q2 I r h => h s Hh cl C fp pins s2 u I r⟩
  · exact fun s Hh C cl fp => ⟨fun pins s2 q2 H2 Q2 I h => h s Hh cl C fp pins s2 I⟩
  · exact fun s Hh C cl fp => ⟨fun pins s2 q2 H2 Q2 I h => h s Hh cl C fp pins s2 I⟩
/-- y = [..], y a plain name -/
theorem ds_setC (i : Nat) {y : Str} {rest : List Stmt} {P' : Out → Prop} (hX : XOk P w K mg base k N sc true X) {elt tg it : Expr} {ifs : List Expr} {scope : Scope} (own : List (Str × Nat)) {T : Type} {enc : T → D} {xs : List T} {p : T → Bool} {g : T → D} (hN : N[i]? = some y := by rfl) (hv : ownB sc y = true := by decide +kernel) (hi : i < G.length := by exact Nat.le_of_ble_eq_true rfl)
    (hit : DI X H0 S0 tg it G (xs.map enc)) (hsz : xs.length ≤ 16777216) (hvs : ((own.map (·.2)).all fun v => Nat.blt v G.length) = true := by rfl)
    (hb : blkC N sc scope own = true := by decide +kernel) (hsk : sc.kind = .function := by rfl) (hl : (p1.line == p2.line) = true := by rfl) (ha : (scope.names.any fun (n, k) => n == y && (k == .local || k == .cell)) = false := by decide +kernel) (hC : Comp P w K mg base k N sc H0 S0 G elt tg ifs scope (own.map (·.2)) enc xs p g)
    (h : DS X H0 S0 rest (G.set i (.own ((xs.filter p).map g))) P') (hs : ∀ x, foldedSetIterable it X.env x = pure x := by intro _; rfl) :
    DS X H0 S0 (.Assign [.Name y p1] (.ListComp elt [⟨tg, it, ifs, 0⟩] scope p2) pos :: rest) G P' := fun S F q H Dd E kk => by
  obtain ⟨wi, hpi, hwi⟩ := hit
  refine wSs_of (pss_cons (ps_setLc (i := i) (own := own) hX.calm (by rw [hX.eN]; exact hX.nd) (by rw [hX.eN]; exact hN) (by rw [hX.es]; exact own_of hv) (sw_true (by rw [hX.es]; exact hsk) (by rw [hX.es]; exact own_of hv) hl ha) hpi (by rw [hX.eN, hX.es]; exact blkOk_by hb) (g := gB X scope tg) (tt := tB' X scope ifs) (te := eB X scope elt) ?_ ?_ ?_ hs) pwSs)
    (comp_core hX hsz (blt_all hvs) hwi hC S F q H E (fun v H2 => wSs X rest Dd (q.set i (some v)) H2) fun p' ws H1 S1 g1 hn hS hp r1 => h S1 _ _ H1 Dd ((E.grow g1).puto hi hp r1 (none_ext E.ext hn) hS fun j z => E.flv j p' z hn) (kk.at_ g1.keep))
  · exact fun s Hh C cl fp => ⟨fun pins s2 q2 H2 v u Q2 I r h => h s Hh cl C fp pins s2 u I r⟩
  · exact fun s Hh C cl fp => ⟨fun pins s2 q2 H2 Q2 I h => h s Hh cl C fp pins s2 I⟩
  · exact fun s Hh C cl fp => ⟨fun pins s2 q2 H2 Q2 I h => h s Hh cl C fp pins s2 I⟩
theorem ds_setCN {G' : List Slot} (i : Nat) {y : Str} {rest : List Stmt} {P' : Out → Prop} (hX : XOk P w K mg base k N sc true X) {elt tg it : Expr} {ifs : List Expr} {scope : Scope} (own : List (Str × Nat)) {T : Type} {enc : T → D} {xs : List T} {p : T → Bool} {g : T → D} (hN : N[i]? = some y := by rfl) (hv : ownB sc y = true := by decide +kernel) (hi : i < G.length := by exact Nat.le_of_ble_eq_true rfl) (hit : DI X H0 S0 tg it G (xs.map enc)) (hsz : xs.length ≤ 16777216) (hvs : ((own.map (·.2)).all fun v => Nat.blt v G.length) = true := by rfl) (hb : blkC N sc scope own = true := by decide +kernel) (hsk : sc.kind = .function := by rfl) (hl : (p1.line == p2.line) = true := by rfl) (ha : (scope.names.any fun (n, k) => n == y && (k == .local || k == .cell)) = false := by decide +kernel) (hC : Comp P w K mg base k N sc H0 S0 G elt tg ifs scope (own.map (·.2)) enc xs p g) (h : DS X H0 S0 rest G' P') (hs : ∀ x, foldedSetIterable it X.env x = pure x := by intro _; rfl) (hG : G.set i (.own ((xs.filter p).map g)) = G' := by first | (dsimp only [List.set, atS, slots, slotB] <;> rfl) | rfl) :
    DS X H0 S0 (.Assign [.Name y p1] (.ListComp elt [⟨tg, it, ifs, 0⟩] scope p2) pos :: rest) G P' := by
  subst hG
  exact ds_setC (i := i) (hX := hX) (own := own) (hN := hN) (hv := hv) (hi := hi) (hit := hit) (hsz := hsz) (hvs := hvs) (hb := hb) (hsk := hsk) (hl := hl) (ha := ha) (hC := hC) (h := h) (hs := hs)
end
end DL

namespace DL
open PySem PySem.Spec PyProof.Rows L2

/-! ### the same of things of one kind -/
section
variable {P : Program} {w : World} {K : PySem.W.Frag} {mg : Str → Option Value} {base : Heap} {k : Nat} {N : List Str} {sc : Scope} {fa : Bool} {X : Cx} {H0 : Hp} {S0 : AS} {G G1 G2 : List Slot} {pos p1 p2 p3 : Pos}
theorem DO.cast {e : Expr} {xs ys : List D} (h : DO X H0 S0 e G xs) (q : xs = ys) : DO X H0 S0 e G ys := q ▸ h
theorem DE.cast {e : Expr} {x y : D} (h : DE X H0 S0 e G x) (q : x = y) : DE X H0 S0 e G y := q ▸ h
theorem DI.cast {tg e : Expr} {x y : List D} (h : DI X H0 S0 tg e G x) (q : x = y) : DI X H0 S0 tg e G y := q ▸ h
theorem DS.env {ss : List Stmt} {G' : List Slot} {P' : Out → Prop} (h : DS X H0 S0 ss G' P') (q : G = G') : DS X H0 S0 ss G P' := q ▸ h
/-- [g for x in xs] -/
theorem do_map (hX : XOk P w K mg base k N sc fa X) {elt tg it : Expr} {scope : Scope} (own : List (Str × Nat)) {T T2 : Type} {enc : T → D} {xs : List T} (enc2 : T2 → D) (g : T → T2) (hit : DI X H0 S0 tg it G (xs.map enc)) (hsz : xs.length ≤ 16777216)
    (turn : ∀ x ∈ xs, ∃ G2 t, (∀ X', XOk P w K mg base k N (relS scope sc) false X' → DG X' H0 S0 tg (enc x) (wipeG G (own.map (·.2))) G2 t) ∧ (∀ j ∈ t, j ∈ own.map (·.2)) ∧ (∀ X', XOk P w K mg base k N (relS scope sc) false X' → DE X' H0 S0 elt G2 (enc2 (g x))))
    (hvs : ((own.map (·.2)).all fun v => Nat.blt v G.length) = true := by rfl) (hb : blkC N sc scope own = true := by decide +kernel) (hs : ∀ x, foldedSetIterable it X.env x = pure x := by intro _; rfl) :
    DO X H0 S0 (.ListComp elt [⟨tg, it, [], 0⟩] scope pos) G ((xs.map g).map enc2) :=
  (do_comp hX own (p := fun _ => true) (g := fun x => enc2 (g x)) hit hsz hvs hb ⟨fun x hx => by
    obtain ⟨G2, t, h1, h2, h3⟩ := turn x hx
    exact ⟨G2, t, h1, h2, fun X' hX' => dts_nil, fun _ X' hX' => h3 X' hX'⟩⟩ hs).cast (by rw [List.filter_eq_self.mpr (fun _ _ => rfl), List.map_map]; rfl)
/-- [g for x in xs if p] -/
theorem do_filt (hX : XOk P w K mg base k N sc fa X) {elt tg it c : Expr} {scope : Scope} (own : List (Str × Nat)) {T T2 : Type} {enc : T → D} {xs : List T} (enc2 : T2 → D) (p : T → Bool) (g : T → T2) (hit : DI X H0 S0 tg it G (xs.map enc)) (hsz : xs.length ≤ 16777216)
    (turn : ∀ x ∈ xs, ∃ G2 t, (∀ X', XOk P w K mg base k N (relS scope sc) false X' → DG X' H0 S0 tg (enc x) (wipeG G (own.map (·.2))) G2 t) ∧ (∀ j ∈ t, j ∈ own.map (·.2)) ∧ (∀ X', XOk P w K mg base k N (relS scope sc) false X' → DT X' H0 S0 c G2 (p x)) ∧
      (p x = true → ∀ X', XOk P w K mg base k N (relS scope sc) false X' → DE X' H0 S0 elt G2 (enc2 (g x))))
    (hvs : ((own.map (·.2)).all fun v => Nat.blt v G.length) = true := by rfl) (hb : blkC N sc scope own = true := by decide +kernel) (hs : ∀ x, foldedSetIterable it X.env x = pure x := by intro _; rfl) :
    DO X H0 S0 (.ListComp elt [⟨tg, it, [c], 0⟩] scope pos) G (((xs.filter p).map g).map enc2) :=
  (do_comp hX own (p := p) (g := fun x => enc2 (g x)) hit hsz hvs hb ⟨fun x hx => by
    obtain ⟨G2, t, h1, h2, h3, h4⟩ := turn x hx
    exact ⟨G2, t, h1, h2, fun X' hX' => dts_one (h3 X' hX'), h4⟩⟩ hs).cast (by rw [List.map_map]; rfl)
theorem ds_setM (i : Nat) {y : Str} {rest : List Stmt} {P' : Out → Prop} (hX : XOk P w K mg base k N sc true X) {elt tg it : Expr} {scope : Scope} (own : List (Str × Nat)) {T T2 : Type} {enc : T → D} {xs : List T} (enc2 : T2 → D) (g : T → T2)
    (hit : DI X H0 S0 tg it G (xs.map enc)) (hsz : xs.length ≤ 16777216)
    (turn : ∀ x ∈ xs, ∃ G2 t, (∀ X', XOk P w K mg base k N (relS scope sc) false X' → DG X' H0 S0 tg (enc x) (wipeG G (own.map (·.2))) G2 t) ∧ (∀ j ∈ t, j ∈ own.map (·.2)) ∧ (∀ X', XOk P w K mg base k N (relS scope sc) false X' → DE X' H0 S0 elt G2 (enc2 (g x))))
    (h : DS X H0 S0 rest (G.set i (.own ((xs.map g).map enc2))) P') (hN : N[i]? = some y := by rfl) (hv : ownB sc y = true := by decide +kernel) (hi : i < G.length := by exact Nat.le_of_ble_eq_true rfl)
    (hvs : ((own.map (·.2)).all fun v => Nat.blt v G.length) = true := by rfl) (hb : blkC N sc scope own = true := by decide +kernel) (hsk : sc.kind = .function := by rfl) (hl : (p1.line == p2.line) = true := by rfl) (ha : (scope.names.any fun (n, k) => n == y && (k == .local || k == .cell)) = false := by decide +kernel) (hs : ∀ x, foldedSetIterable it X.env x = pure x := by intro _; rfl) :
    DS X H0 S0 (.Assign [.Name y p1] (.ListComp elt [⟨tg, it, [], 0⟩] scope p2) pos :: rest) G P' := by
  have e : (xs.map g).map enc2 = (xs.filter fun _ => true).map fun x => enc2 (g x) := by rw [List.filter_eq_self.mpr (fun _ _ => rfl), List.map_map]; rfl
  rw [e] at h
  exact ds_setC i hX own (p := fun _ => true) (g := fun x => enc2 (g x)) hN hv hi hit hsz hvs hb hsk hl ha ⟨fun x hx => by
    obtain ⟨G2, t, h1, h2, h3⟩ := turn x hx
    exact ⟨G2, t, h1, h2, fun X' hX' => dts_nil, fun _ X' hX' => h3 X' hX'⟩⟩ h hs
theorem ds_setMN {G' : List Slot} (i : Nat) {y : Str} {rest : List Stmt} {P' : Out → Prop} (hX : XOk P w K mg base k N sc true X) {elt tg it : Expr} {scope : Scope} (own : List (Str × Nat)) {T T2 : Type} {enc : T → D} {xs : List T} (enc2 : T2 → D) (g : T → T2) (hit : DI X H0 S0 tg it G (xs.map enc)) (hsz : xs.length ≤ 16777216) (turn : ∀ x ∈ xs, ∃ G2 t, (∀ X', XOk P w K mg base k N (relS scope sc) false X' → DG X' H0 S0 tg (enc x) (wipeG G (own.map (·.2))) G2 t) ∧ (∀ j ∈ t, j ∈ own.map (·.2)) ∧ (∀ X', XOk P w K mg base k N (relS scope sc) false X' → DE X' H0 S0 elt G2 (enc2 (g x)))) (h : DS X H0 S0 rest G' P') (hN : N[i]? = some y := by rfl) (hv : ownB sc y = true := by decide +kernel) (hi : i < G.length := by exact Nat.le_of_ble_eq_true rfl) (hvs : ((own.map (·.2)).all fun v => Nat.blt v G.length) = true := by rfl) (hb : blkC N sc scope own = true := by decide +kernel) (hsk : sc.kind = .function := by rfl) (hl : (p1.line == p2.line) = true := by rfl) (ha : (scope.names.any fun (n, k) => n == y && (k == .local || k == .cell)) = false := by decide +kernel) (hs : ∀ x, foldedSetIterable it X.env x = pure x := by intro _; rfl) (hG : G.set i (.own ((xs.map g).map enc2)) = G' := by first | (dsimp only [List.set, atS, slots, slotB] <;> rfl) | rfl) :
    DS X H0 S0 (.Assign [.Name y p1] (.ListComp elt [⟨tg, it, [], 0⟩] scope p2) pos :: rest) G P' := by
  subst hG
  exact ds_setM (i := i) (hX := hX) (own := own) (enc2 := enc2) (g := g) (hit := hit) (hsz := hsz) (turn := turn) (h := h) (hN := hN) (hv := hv) (hi := hi) (hvs := hvs) (hb := hb) (hsk := hsk) (hl := hl) (ha := ha) (hs := hs)
theorem ds_setF (i : Nat) {y : Str} {rest : List Stmt} {P' : Out → Prop} (hX : XOk P w K mg base k N sc true X) {elt tg it c : Expr} {scope : Scope} (own : List (Str × Nat)) {T T2 : Type} {enc : T → D} {xs : List T} (enc2 : T2 → D) (p : T → Bool) (g : T → T2)
    (hit : DI X H0 S0 tg it G (xs.map enc)) (hsz : xs.length ≤ 16777216)
    (turn : ∀ x ∈ xs, ∃ G2 t, (∀ X', XOk P w K mg base k N (relS scope sc) false X' → DG X' H0 S0 tg (enc x) (wipeG G (own.map (·.2))) G2 t) ∧ (∀ j ∈ t, j ∈ own.map (·.2)) ∧ (∀ X', XOk P w K mg base k N (relS scope sc) false X' → DT X' H0 S0 c G2 (p x)) ∧
      (p x = true → ∀ X', XOk P w K mg base k N (relS scope sc) false X' → DE X' H0 S0 elt G2 (enc2 (g x))))
    (h : DS X H0 S0 rest (G.set i (.own (((xs.filter p).map g).map enc2))) P') (hN : N[i]? = some y := by rfl) (hv : ownB sc y = true := by decide +kernel) (hi : i < G.length := by exact Nat.le_of_ble_eq_true rfl)
    (hvs : ((own.map (·.2)).all fun v => Nat.blt v G.length) = true := by rfl) (hb : blkC N sc scope own = true := by decide +kernel) (hsk : sc.kind = .function := by rfl) (hl : (p1.line == p2.line) = true := by rfl) (ha : (scope.names.any fun (n, k) => n == y && (k == .local || k == .cell)) = false := by decide +kernel) (hs : ∀ x, foldedSetIterable it X.env x = pure x := by intro _; rfl) :
    DS X H0 S0 (.Assign [.Name y p1] (.ListComp elt [⟨tg, it, [c], 0⟩] scope p2) pos :: rest) G P' := by
  have e : ((xs.filter p).map g).map enc2 = (xs.filter p).map fun x => enc2 (g x) := by rw [List.map_map]; rfl
  rw [e] at h
  exact ds_setC i hX own (p := p) (g := fun x => enc2 (g x)) hN hv hi hit hsz hvs hb hsk hl ha ⟨fun x hx => by
    obtain ⟨G2, t, h1, h2, h3, h4⟩ := turn x hx
    exact ⟨G2, t, h1, h2, fun X' hX' => dts_one (h3 X' hX'), h4⟩⟩ h hs
theorem ds_setFN {G' : List Slot} (i : Nat) {y : Str} {rest : List Stmt} {P' : Out → Prop} (hX : XOk P w K mg base k N sc true X) {elt tg it c : Expr} {scope : Scope} (own : List (Str × Nat)) {T T2 : Type} {enc : T → D} {xs : List T} (enc2 : T2 → D) (p : T → Bool) (g : T → T2) (hit : DI X H0 S0 tg it G (xs.map enc)) (hsz : xs.length ≤ 16777216) (turn : ∀ x ∈ xs, ∃ G2 t, (∀ X', XOk P w K mg base k N (relS scope sc) false X' → DG X' H0 S0 tg (enc x) (wipeG G (own.map (·.2))) G2 t) ∧ (∀ j ∈ t, j ∈ own.map (·.2)) ∧ (∀ X', XOk P w K mg base k N (relS scope sc) false X' → DT X' H0 S0 c G2 (p x)) ∧
      (p x = true → ∀ X', XOk P w K mg base k N (relS scope sc) false X' → DE X' H0 S0 elt G2 (enc2 (g x)))) (h : DS X H0 S0 rest G' P') (hN : N[i]? = some y := by rfl) (hv : ownB sc y = true := by decide +kernel) (hi : i < G.length := by exact Nat.le_of_ble_eq_true rfl) (hvs : ((own.map (·.2)).all fun v => Nat.blt v G.length) = true := by rfl) (hb : blkC N sc scope own = true := by decide +kernel) (hsk : sc.kind = .function := by rfl) (hl : (p1.line == p2.line) = true := by rfl) (ha : (scope.names.any fun (n, k) => n == y && (k == .local || k == .cell)) = false := by decide +kernel) (hs : ∀ x, foldedSetIterable it X.env x = pure x := by intro _; rfl) (hG : G.set i (.own (((xs.filter p).map g).map enc2)) = G' := by first | (dsimp only [List.set, atS, slots, slotB] <;> rfl) | rfl) :
    DS X H0 S0 (.Assign [.Name y p1] (.ListComp elt [⟨tg, it, [c], 0⟩] scope p2) pos :: rest) G P' := by
  subst hG
  exact ds_setF (i := i) (hX := hX) (own := own) (enc2 := enc2) (p := p) (g := g) (hit := hit) (hsz := hsz) (turn := turn) (h := h) (hN := hN) (hv := hv) (hi := hi) (hvs := hvs) (hb := hb) (hsk := hsk) (hl := hl) (ha := ha) (hs := hs)
def cutL {T : Type} (xs : List T) (lo hi : Option Int) : List T := (xs.drop (HT.sIx xs.length 0 lo)).take (HT.sIx xs.length xs.length hi - HT.sIx xs.length 0 lo)
theorem cut_map {T : Type} (enc : T → D) (xs : List T) (lo hi : Option Int) : cutD (xs.map enc) lo hi = (cutL xs lo hi).map enc := by
  unfold cutD cutL
  rw [List.length_map, List.map_take, List.map_drop]
theorem do_sliceE {a : Expr} {lo hi : Option Expr} {l u : Option Int} {T : Type} {enc : T → D} {xs : List T} (ha : DLs X H0 S0 a G (xs.map enc)) (hl : DPo X H0 S0 lo G l) (hu : DPo X H0 S0 hi G u) : DO X H0 S0 (.Subscript a (.Slice lo hi none p2) pos) G ((cutL xs l u).map enc) :=
  (do_slice ha hl hu).cast (cut_map enc xs l u)
theorem do_catE {a b : Expr} {T : Type} {enc : T → D} {xs ys : List T} (ha : DLr X H0 S0 a G (xs.map enc)) (hb : DLr X H0 S0 b G (ys.map enc)) (hz : xs.length + ys.length ≤ 16777216) : DO X H0 S0 (.BinOp a .Add b pos) G ((xs ++ ys).map enc) :=
  (do_cat ha hb (by rw [List.length_map, List.length_map]; exact hz)).cast List.map_append.symm
theorem ds_appendE (i : Nat) (hX : XOk P w K mg base k N sc fa X) {x : Str} {e : Expr} {rest : List Stmt} {T : Type} (enc : T → D) {xs : List T} (y : T) {P' : Out → Prop} {apos : Pos} (hi : G[i]? = some (.own (xs.map enc)) := by rfl) (he : DE X H0 S0 e G (enc y)) (hz : xs.length < 16777216)
    (h : DS X H0 S0 rest (G.set i (.own ((xs ++ [y]).map enc))) P') (hN : N[i]? = some x := by rfl) (hv : visB sc x = true := by decide +kernel) (hd : (x == ("__debug__" : Str)) = false := by decide) (hcd : (x == ("__classdict__" : Str)) = false := by decide)
    (hbase : attributeBase (.Name x p1) "append" X.env (eval (.Name x p1) X.env) = eval (.Name x p1) X.env := by rfl)
    (hfew : ((backTo p2 (starEach [e] X.env)).all (fun x => !x.1) && (backToKw p2 (keywordEach [] X.env)).all (fun x => x.1.isSome)
      && decide ([e].length + ([] : List Keyword).length + (if ([] : List Keyword).isEmpty then 0 else 1) < 30)) = true := by rfl)
    (hline : (apos.endLine == p2.line) = true := by rfl) (hs : starEach [e] X.env = (false, eval e X.env) :: starEach [] X.env := by rfl) (hplain : (backTo p2 (starEach [] X.env)).any (·.1) = false := by rfl)
    (hsw : swapsWith (.Call (.Attribute (.Name x p1) "append" apos) [e] [] p2) none pos.line X.env = pure false := by rfl) :
    DS X H0 S0 (.Expr (.Call (.Attribute (.Name x p1) "append" apos) [e] [] p2) pos :: rest) G P' :=
  ds_append i hX hN hv hi he (by rw [List.length_map]; exact hz) (by rw [List.map_append] at h; exact h) hd hcd hbase hfew hline hs hplain hsw
theorem ds_appendEN {G' : List Slot} (i : Nat) (hX : XOk P w K mg base k N sc fa X) {x : Str} {e : Expr} {rest : List Stmt} {T : Type} (enc : T → D) {xs : List T} (y : T) {P' : Out → Prop} {apos : Pos} (hi : G[i]? = some (.own (xs.map enc)) := by rfl) (he : DE X H0 S0 e G (enc y)) (hz : xs.length < 16777216) (h : DS X H0 S0 rest G' P') (hN : N[i]? = some x := by rfl) (hv : visB sc x = true := by decide +kernel) (hd : (x == ("__debug__" : Str)) = false := by decide) (hcd : (x == ("__classdict__" : Str)) = false := by decide) (hbase : attributeBase (.Name x p1) "append" X.env (eval (.Name x p1) X.env) = eval (.Name x p1) X.env := by rfl) (hfew : ((backTo p2 (starEach [e] X.env)).all (fun x => !x.1) && (backToKw p2 (keywordEach [] X.env)).all (fun x => x.1.isSome)
      && decide ([e].length + ([] : List Keyword).length + (if ([] : List Keyword).isEmpty then 0 else 1) < 30)) = true := by rfl) (hline : (apos.endLine == p2.line) = true := by rfl) (hs : starEach [e] X.env = (false, eval e X.env) :: starEach [] X.env := by rfl) (hplain : (backTo p2 (starEach [] X.env)).any (·.1) = false := by rfl) (hsw : swapsWith (.Call (.Attribute (.Name x p1) "append" apos) [e] [] p2) none pos.line X.env = pure false := by rfl) (hG : G.set i (.own ((xs ++ [y]).map enc)) = G' := by first | (dsimp only [List.set, atS, slots, slotB] <;> rfl) | rfl) :
    DS X H0 S0 (.Expr (.Call (.Attribute (.Name x p1) "append" apos) [e] [] p2) pos :: rest) G P' := by
  subst hG
  exact ds_appendE (i := i) (hX := hX) (enc := enc) (y := y) (hi := hi) (he := he) (hz := hz) (h := h) (hN := hN) (hv := hv) (hd := hd) (hcd := hcd) (hbase := hbase) (hfew := hfew) (hline := hline) (hs := hs) (hplain := hplain) (hsw := hsw)
theorem ixN_nat {n : Nat} {i : Int} (h0 : 0 ≤ i) (h : i < n) : ixN n i = some i.toNat := by
  unfold ixN
  rw [if_pos h0, if_pos h]
theorem ixN_last {n : Nat} (h : 0 < n) : ixN n (-1) = some (n - 1) := by
  unfold ixN
  rw [if_neg (by decide), if_pos (by omega)]
  congr 1
  omega
/-- an item at a known place -/
theorem at_E {T : Type} (enc : T → D) {xs : List T} {i : Int} (h0 : 0 ≤ i) (h : i < xs.length) (d : T) : atI (xs.map enc) i = some (enc (xs.getD i.toNat d)) := by
  refine at_enc enc h0 ?_
  have hl : i.toNat < xs.length := by omega
  rw [List.getElem?_eq_getElem hl, List.getD_eq_getElem?_getD, List.getElem?_eq_getElem hl]
  rfl
theorem at_L {T : Type} (enc : T → D) {xs : List T} (h : xs ≠ []) (d : T) : atI (xs.map enc) (-1) = some (enc (xs.getLastD d)) := by
  have hl : 0 < xs.length := List.length_pos_iff.mpr h
  refine atI_of (ixN_last (by rw [List.length_map]; exact hl)) ?_
  rw [List.length_map, List.getElem?_map]
  cases xs with
  | nil => exact absurd rfl h
  | cons a r =>
    rw [List.getElem?_eq_getElem (by simp), List.getLastD_cons, ← List.getLast_eq_getLastD (by simp), List.getLast_eq_getElem]
    rfl
theorem ds_setixE (i : Nat) (hX : XOk P w K mg base k N sc fa X) {x : Str} {e b : Expr} {rest : List Stmt} {T : Type} (enc : T → D) {xs : List T} (y : T) {n : Int} {P' : Out → Prop} (hi : G[i]? = some (.own (xs.map enc)) := by rfl) (he : DE X H0 S0 e G (enc y)) (hb : DE X H0 S0 b G (.int n)) (h0 : 0 ≤ n) (hl : n < xs.length)
    (h : DS X H0 S0 rest (G.set i (.own ((xs.set n.toNat y).map enc))) P') (hN : N[i]? = some x := by rfl) (hv : visB sc x = true := by decide +kernel) (hd : (x == ("__debug__" : Str)) = false := by decide) (hcd : (x == ("__classdict__" : Str)) = false := by decide)
    (ha : ∀ v, assign (.Subscript (.Name x p1) b p2) X.env v = (do
      let ov ← holding [v] (eval (.Name x p1) X.env)
      let iv ← holding [v, ov] (eval b X.env)
      standAt p2
      holding [v, ov, iv] (setItem ov iv v)
      release [v, ov, iv] []) := by intro _; rfl)
    (hs : swapsWithSole [.Subscript (.Name x p1) b p2] e pos.line X.env = pure false := by rfl) (hw : swappedStores [.Subscript (.Name x p1) b p2] e X.env = pure none := by rfl) (h1 : (assignEach [.Subscript (.Name x p1) b p2] X.env).map (·.2) = [assign (.Subscript (.Name x p1) b p2) X.env] := by rfl) :
    DS X H0 S0 (.Assign [.Subscript (.Name x p1) b p2] e pos :: rest) G P' :=
  ds_setix i hX hN hv hi he hb (ixN_nat h0 (by rw [List.length_map]; exact hl)) (by rw [List.map_set] at h; exact h) hd hcd ha hs hw h1
theorem ds_setixEN {G' : List Slot} (i : Nat) (hX : XOk P w K mg base k N sc fa X) {x : Str} {e b : Expr} {rest : List Stmt} {T : Type} (enc : T → D) {xs : List T} (y : T) {n : Int} {P' : Out → Prop} (hi : G[i]? = some (.own (xs.map enc)) := by rfl) (he : DE X H0 S0 e G (enc y)) (hb : DE X H0 S0 b G (.int n)) (h0 : 0 ≤ n) (hl : n < xs.length) (h : DS X H0 S0 rest G' P') (hN : N[i]? = some x := by rfl) (hv : visB sc x = true := by decide +kernel) (hd : (x == ("__debug__" : Str)) = false := by decide) (hcd : (x == ("__classdict__" : Str)) = false := by decide) (ha : ∀ v, assign (.Subscript (.Name x p1) b p2) X.env v = (do
      let ov ← holding [v] (eval (.Name x p1) X.env)
      let iv ← holding [v, ov] (eval b X.env)
      standAt p2
      holding [v, ov, iv] (setItem ov iv v)
      release [v, ov, iv] []) := by intro _; rfl) (hs : swapsWithSole [.Subscript (.Name x p1) b p2] e pos.line X.env = pure false := by rfl) (hw : swappedStores [.Subscript (.Name x p1) b p2] e X.env = pure none := by rfl) (h1 : (assignEach [.Subscript (.Name x p1) b p2] X.env).map (·.2) = [assign (.Subscript (.Name x p1) b p2) X.env] := by rfl) (hG : G.set i (.own ((xs.set n.toNat y).map enc)) = G' := by first | (dsimp only [List.set, atS, slots, slotB] <;> rfl) | rfl) :
    DS X H0 S0 (.Assign [.Subscript (.Name x p1) b p2] e pos :: rest) G P' := by
  subst hG
  exact ds_setixE (i := i) (hX := hX) (enc := enc) (y := y) (hi := hi) (he := he) (hb := hb) (h0 := h0) (hl := hl) (h := h) (hN := hN) (hv := hv) (hd := hd) (hcd := hcd) (ha := ha) (hs := hs) (hw := hw) (h1 := h1)
/-- xs[n] op= e of a list of whole numbers -/
theorem ds_augixI (i : Nat) (hX : XOk P w K mg base k N sc fa X) {op : Operator} {x : Str} {e b : Expr} {rest : List Stmt} {xs : List Int} {n c z : Int} {P' : Out → Prop} (hi : G[i]? = some (.own (xs.map PyData.int)) := by rfl) (hb : DE X H0 S0 b G (.int n)) (h0 : 0 ≤ n) (hl : n < xs.length) (he : DE X H0 S0 e G (.int c)) (hc : AugD op (xs.getD n.toNat 0) c z)
    (h : DS X H0 S0 rest (G.set i (.own ((xs.set n.toNat z).map PyData.int))) P') (hN : N[i]? = some x := by rfl) (hv : visB sc x = true := by decide +kernel) (hd : (x == ("__debug__" : Str)) = false := by decide) (hcd : (x == ("__classdict__" : Str)) = false := by decide)
    (ha : ∀ ov iv new, augStore b ov iv new = (do holding [new, ov, iv] (setItem ov iv new); release [new, ov, iv] []; pure .next) := by intros; rfl) :
    DS X H0 S0 (.AugAssign (.Subscript (.Name x p1) b p2) op e pos :: rest) G P' :=
  ds_augix i hX hN hv hi hb (ixN_nat h0 (by rw [List.length_map]; exact hl)) (by
    have hl' : n.toNat < xs.length := by omega
    rw [List.getElem?_map, List.getElem?_eq_getElem hl', List.getD_eq_getElem?_getD, List.getElem?_eq_getElem hl']
    rfl) he hc (by rw [List.map_set] at h; exact h) hd hcd ha
theorem ds_augixIN {G' : List Slot} (i : Nat) (hX : XOk P w K mg base k N sc fa X) {op : Operator} {x : Str} {e b : Expr} {rest : List Stmt} {xs : List Int} {n c z : Int} {P' : Out → Prop} (hi : G[i]? = some (.own (xs.map PyData.int)) := by rfl) (hb : DE X H0 S0 b G (.int n)) (h0 : 0 ≤ n) (hl : n < xs.length) (he : DE X H0 S0 e G (.int c)) (hc : AugD op (xs.getD n.toNat 0) c z) (h : DS X H0 S0 rest G' P') (hN : N[i]? = some x := by rfl) (hv : visB sc x = true := by decide +kernel) (hd : (x == ("__debug__" : Str)) = false := by decide) (hcd : (x == ("__classdict__" : Str)) = false := by decide) (ha : ∀ ov iv new, augStore b ov iv new = (do holding [new, ov, iv] (setItem ov iv new); release [new, ov, iv] []; pure .next) := by intros; rfl) (hG : G.set i (.own ((xs.set n.toNat z).map PyData.int)) = G' := by first | (dsimp only [List.set, atS, slots, slotB] <;> rfl) | rfl) :
    DS X H0 S0 (.AugAssign (.Subscript (.Name x p1) b p2) op e pos :: rest) G P' := by
  subst hG
  exact ds_augixI (i := i) (hX := hX) (hi := hi) (hb := hb) (h0 := h0) (hl := hl) (he := he) (hc := hc) (h := h) (hN := hN) (hv := hv) (hd := hd) (hcd := hcd) (ha := ha)
theorem rng_map (lo : Int) (n : Nat) : rngD lo n = ((List.range n).map fun (i : Nat) => lo + (i : Int)).map PyData.int := by
  unfold rngD
  rw [List.map_map]
  rfl
theorem enum_map {T : Type} (enc : T → D) (xs : List T) : enumD (xs.map enc) = xs.zipIdx.map fun p => PyData.tuple [.int (p.2 : Int), enc p.1] := by
  apply List.ext_getElem?
  intro i
  unfold enumD
  rw [List.getElem?_map, List.getElem?_map, List.length_map, List.getElem?_zipIdx]
  by_cases hi : i < xs.length
  · rw [List.getElem?_range hi, List.getElem?_eq_getElem hi]
    simp [hi]
  · rw [List.getElem?_eq_none (by rw [List.length_range]; omega), List.getElem?_eq_none (by omega)]
    rfl
theorem zip_map {T U : Type} (e1 : T → D) (e2 : U → D) (xs : List T) (ys : List U) : zipD (xs.map e1) (ys.map e2) = (xs.zip ys).map fun p => PyData.tuple [e1 p.1, e2 p.2] := by
  unfold zipD
  rw [List.zip_map, List.map_map]
  rfl
end

section
variable {P : Program} {w : World} {K : PySem.W.Frag} {mg : Str → Option Value} {base : Heap} {k : Nat} {N : List Str} {sc : Scope} {fa : Bool} {X : Cx} {H0 : Hp} {S0 : AS} {G G1 G2 : List Slot} {pos p1 p2 p3 : Pos}
/-- whole numbers 0, 1 .. -/
def rng (n : Int) : List Int := (List.range n.toNat).map fun (i : Nat) => (i : Int)
def rng2 (lo n : Int) : List Int := (List.range (n - lo).toNat).map fun (i : Nat) => lo + (i : Int)
theorem rng_len (n : Int) : (rng n).length = n.toNat := by unfold rng; rw [List.length_map, List.length_range]
theorem mem_rng {n x : Int} (h : x ∈ rng n) : 0 ≤ x ∧ x < n := by
  unfold rng at h
  obtain ⟨j, h2, rfl⟩ := List.mem_map.mp h
  have := List.mem_range.mp h2
  omega
theorem mem_rng2 {lo n x : Int} (h : x ∈ rng2 lo n) : lo ≤ x ∧ x < n := by
  unfold rng2 at h
  obtain ⟨j, h2, rfl⟩ := List.mem_map.mp h
  have := List.mem_range.mp h2
  omega
theorem rng_of {n x : Int} (h0 : 0 ≤ x) (h : x < n) : x ∈ rng n := by
  unfold rng
  exact List.mem_map.mpr ⟨x.toNat, List.mem_range.mpr (by omega), by omega⟩
theorem rngD_rng (n : Int) : rngD 0 n.toNat = (rng n).map PyData.int := by
  unfold rngD rng
  rw [List.map_map]
  refine List.map_congr_left fun i _ => ?_
  show PyData.int (0 + (i : Int)) = PyData.int (i : Int)
  rw [Int.zero_add]
theorem di_rng (hX : XOk P w K mg base k N sc fa X) (hr : mg "range" = none) {tg a : Expr} {n : Int} (he : DE X H0 S0 a G (.int n)) (h : -1000000 ≤ n ∧ n ≤ 1000000) (hg : globB sc "range" = true := by decide +kernel)
    (hs : starEach [a] X.env = [(false, eval a X.env)] := by rfl) : DI X H0 S0 tg (.Call (.Name "range" p1) [a] [] pos) G ((rng n).map PyData.int) :=
  (di_range1 hX hr hg he (by omega) (by omega) hs).cast (rngD_rng n)
theorem di_rng2 (hX : XOk P w K mg base k N sc fa X) (hr : mg "range" = none) {tg a b : Expr} {lo n : Int} (ha : DE X H0 S0 a G (.int lo)) (he : DE X H0 S0 b G (.int n)) (h : -1000000 ≤ lo ∧ lo ≤ 1000000 ∧ -1000000 ≤ n ∧ n ≤ 1000000) (hg : globB sc "range" = true := by decide +kernel)
    (hs : starEach [a, b] X.env = [(false, eval a X.env), (false, eval b X.env)] := by rfl) (hs2 : starEach [b] X.env = [(false, eval b X.env)] := by rfl) : DI X H0 S0 tg (.Call (.Name "range" p1) [a, b] [] pos) G ((rng2 lo n).map PyData.int) :=
  (di_range2 hX hr hg ha he (by omega) hs hs2).cast (rng_map lo _)
theorem EnvOk.drops {S : AS} {F : Nat → AS} {q : L2.St} {H : Hp} (E : EnvOk H0 S0 G S F q H) : ∀ vs : List Nat, (∀ v ∈ vs, v < G.length) → ∃ F', EnvOk H0 S0 (wipeG G vs) S F' q H
  | [], _ => ⟨F, E⟩
  | v :: vs, h => by
    obtain ⟨F1, E1⟩ := EnvOk.drops E vs fun u hu => h u (List.mem_cons_of_mem _ hu)
    exact E1.drop (by rw [wipeG_len]; exact h v List.mem_cons_self)
/-- some names are let go -/
theorem ds_wipe (js : List Nat) {ss : List Stmt} {P' : Out → Prop} (h : DS X H0 S0 ss (wipeG G js) P') (hj : (js.all fun v => Nat.blt v G.length) = true := by rfl) : DS X H0 S0 ss G P' := fun S F q H Dd E kk => by
  obtain ⟨F', E'⟩ := E.drops js fun v hv => by
    have := List.all_eq_true.mp hj v hv
    exact Nat.lt_of_lt_of_le (Nat.lt_succ_self v) (Nat.le_of_ble_eq_true this)
  exact h S F' q H Dd E' kk
theorem ds_wipeN {G' : List Slot} (js : List Nat) {ss : List Stmt} {P' : Out → Prop} (h : DS X H0 S0 ss G' P') (hj : (js.all fun v => Nat.blt v G.length) = true := by rfl) (hG : wipeG G js = G' := by first | (dsimp only [wipeG, List.set, atS, slots, slotB] <;> rfl) | rfl) : DS X H0 S0 ss G P' := by
  subst hG
  exact ds_wipe (js := js) (h := h) (hj := hj)
/-- a block's end: the names at js are let go -/
theorem ds_end (js : List Nat) {P' : Out → Prop} (h : P' (.nxt (wipeG G js))) (hj : (js.all fun v => Nat.blt v G.length) = true := by rfl) : DS X H0 S0 [] G P' := ds_wipe js (ds_nil h) hj
/-- for: what the names hold is E of a state, which each turn steps; J by what is left -/
theorem ds_fold (hX : XOk P w K mg base k N sc fa X) {Sg T : Type} {enc : T → D} {xs : List T} {tg it : Expr} {body rest : List Stmt} {P' : Out → Prop} (E : Sg → List Slot) (step : Sg → T → Sg) (J : List T → Sg → Prop) (s0 : Sg) (hit : DI X H0 S0 tg it G (xs.map enc)) (h0 : G = E s0) (j0 : J xs s0)
    (hs : ∀ s x r, x ∈ xs → J (x :: r) s → ∃ G2 t, DG X H0 S0 tg (enc x) (E s) G2 t ∧ DS X H0 S0 body G2 (loopP (fun G' => G' = E (step s x)) (fun G' => DS X H0 S0 rest G' P') P')) (hj : ∀ s x r, x ∈ xs → J (x :: r) s → J r (step s x))
    (he : J [] (xs.foldl step s0) → DS X H0 S0 rest (E (xs.foldl step s0)) P') (hf : ∀ x, foldedSetIterable it X.env x = pure x := by intro _; rfl) : DS X H0 S0 (.For tg it body [] pos :: rest) G P' :=
  ds_forT hX (fun r Gi => ∃ s, Gi = E s ∧ J r s ∧ r.foldl step s = xs.foldl step s0) hit ⟨s0, h0, j0, rfl⟩ (fun x r Gi hI hx => by
    obtain ⟨s, rfl, js, hr⟩ := hI
    obtain ⟨G2, t, hG, hB⟩ := hs s x r hx js
    refine ⟨G2, t, hG, hB.imp fun o ho => ?_⟩
    cases o with
    | nxt G' => exact ⟨_, ho, hj s x r hx js, hr⟩
    | cnt G' => exact ⟨_, ho, hj s x r hx js, hr⟩
    | brk G' => exact ho
    | ret r => exact ho
    | eff G e => exact ho) (fun Gn hI => by
    obtain ⟨s, rfl, js, hr⟩ := hI
    have hr' : s = xs.foldl step s0 := hr
    subst hr'
    exact he js) hf
theorem foldl_app {T U : Type} (f : T → U) : ∀ (xs : List T) (acc : List U), xs.foldl (fun a x => a ++ [f x]) acc = acc ++ xs.map f
  | [], acc => by simp
  | x :: r, acc => by rw [List.foldl_cons, foldl_app f r]; simp
end

section
variable {P : Program} {w : World} {K : PySem.W.Frag} {mg : Str → Option Value} {base : Heap} {k : Nat} {N : List Str} {sc : Scope} {fa : Bool} {X : Cx} {H0 : Hp} {S0 : AS} {G G1 G2 : List Slot} {pos p1 p2 p3 : Pos}
/-! in, not in -/
theorem inV_int (i : Int) : ∀ ns : List Int, inV (.int i) (ns.map V.int) = ns.contains i
  | [] => rfl
  | n :: r => by
    have ih := inV_int i r
    unfold inV at ih ⊢
    rw [List.map_cons, List.any_cons, ih, List.contains_cons]
    have e : eqV (V.int n) (V.int i) = (i == n) := by
      show (n == i) = (i == n)
      rw [Bool.eq_iff_iff, beq_iff_eq, beq_iff_eq]
      exact ⟨fun z => z.symm, fun z => z.symm⟩
    rw [e]
theorem flat_ints (ns : List Int) : (ns.map V.int).all flatV = true := by
  rw [List.all_map]
  exact List.all_eq_true.mpr fun _ _ => rfl
theorem dt_ninI {a b : Expr} {i : Int} {ns : List Int} (ha : DE X H0 S0 a G (.int i)) (hb : DLs X H0 S0 b G (ns.map PyData.int)) (hm : behindInMarks .NotIn b = false := by rfl) : DT X H0 S0 (.Compare a [.NotIn] [b] pos) G (!ns.contains i) := fun S F q H E Q kk =>
  wT_of (pt_cmpR op_notIn_seq pwE pwE hm) (ha S F q H E _ fun v H1 S1 g1 r1 => hb S1 F q H1 (E.grow g1) _ fun p vs H2 S2 g2 h2 r2 => by
    cases r1
    have e := r2.ints
    subst e
    exact ⟨p, _, rfl, .inl h2, rfl, flat_ints ns, _, rfl, by rw [inV_int]; exact kk H2 S2 (g1.trans g2)⟩)
theorem dt_inI {a b : Expr} {i : Int} {ns : List Int} (ha : DE X H0 S0 a G (.int i)) (hb : DLs X H0 S0 b G (ns.map PyData.int)) (hm : behindInMarks .In b = false := by rfl) : DT X H0 S0 (.Compare a [.In] [b] pos) G (ns.contains i) := fun S F q H E Q kk =>
  wT_of (pt_cmpR op_in_seq pwE pwE hm) (ha S F q H E _ fun v H1 S1 g1 r1 => hb S1 F q H1 (E.grow g1) _ fun p vs H2 S2 g2 h2 r2 => by
    cases r1
    have e := r2.ints
    subst e
    exact ⟨p, _, rfl, .inl h2, rfl, flat_ints ns, _, rfl, by rw [inV_int]; exact kk H2 S2 (g1.trans g2)⟩)
/-! methods of lists of one's own, without arguments -/
theorem ds_pop (i : Nat) (hX : XOk P w K mg base k N sc fa X) {x : Str} {rest : List Stmt} {ds : List D} {P' : Out → Prop} {apos : Pos} (hi : G[i]? = some (.own ds) := by rfl) (hz : ds ≠ []) (h : DS X H0 S0 rest (G.set i (.own ds.dropLast)) P') (hN : N[i]? = some x := by rfl) (hv : visB sc x = true := by decide +kernel)
    (hd : (x == ("__debug__" : Str)) = false := by decide) (hcd : (x == ("__classdict__" : Str)) = false := by decide)
    (hbase : attributeBase (.Name x p1) "pop" X.env (eval (.Name x p1) X.env) = eval (.Name x p1) X.env := by rfl) (hline : (apos.endLine == p2.line) = true := by rfl) (hsw : swapsWith (.Call (.Attribute (.Name x p1) "pop" apos) [] [] p2) none pos.line X.env = pure false := by rfl) :
    DS X H0 S0 (.Expr (.Call (.Attribute (.Name x p1) "pop" apos) [] [] p2) pos :: rest) G P' := fun S F q H Dd E kk => by
  obtain ⟨p, vs, e1, hF, hp, r, hS⟩ := own_at E hi
  refine wSs_of (pss_cons (ps_expr (pe_bm0 PySem.F.plainAttrs_list PySem.F.slot_list_pop PySem.F.type_list_pop mt_pop (pe_var (X := X) (i := i) (by rw [hX.eN]; exact hN) (by rw [hX.es]; exact vis_of hv) hd hcd) hbase hline) hsw) pwSs) ?_
  have hl : vs.length - 1 < vs.length := by
    have := List.length_pos_iff.mpr hz
    rw [r.len]
    omega
  refine ⟨_, e1, .inl ⟨rfl, _, .inl (.inl hp)⟩, p, vs, _, rfl, rfl, hp, List.getElem?_eq_getElem hl, ?_⟩
  exact h S F q _ Dd (E.store hi e1 r.dropLast) (kk.at_ (Keep.upd hS (nt_lst hp)))
theorem ds_popN {G' : List Slot} (i : Nat) (hX : XOk P w K mg base k N sc fa X) {x : Str} {rest : List Stmt} {ds : List D} {P' : Out → Prop} {apos : Pos} (hi : G[i]? = some (.own ds) := by rfl) (hz : ds ≠ []) (h : DS X H0 S0 rest G' P') (hN : N[i]? = some x := by rfl) (hv : visB sc x = true := by decide +kernel) (hd : (x == ("__debug__" : Str)) = false := by decide) (hcd : (x == ("__classdict__" : Str)) = false := by decide) (hbase : attributeBase (.Name x p1) "pop" X.env (eval (.Name x p1) X.env) = eval (.Name x p1) X.env := by rfl) (hline : (apos.endLine == p2.line) = true := by rfl) (hsw : swapsWith (.Call (.Attribute (.Name x p1) "pop" apos) [] [] p2) none pos.line X.env = pure false := by rfl) (hG : G.set i (.own ds.dropLast) = G' := by first | (dsimp only [List.set, atS, slots, slotB] <;> rfl) | rfl) :
    DS X H0 S0 (.Expr (.Call (.Attribute (.Name x p1) "pop" apos) [] [] p2) pos :: rest) G P' := by
  subst hG
  exact ds_pop (i := i) (hX := hX) (hi := hi) (hz := hz) (h := h) (hN := hN) (hv := hv) (hd := hd) (hcd := hcd) (hbase := hbase) (hline := hline) (hsw := hsw)
theorem ds_clear (i : Nat) (hX : XOk P w K mg base k N sc fa X) {x : Str} {rest : List Stmt} {ds : List D} {P' : Out → Prop} {apos : Pos} (hi : G[i]? = some (.own ds) := by rfl) (h : DS X H0 S0 rest (G.set i (.own [])) P') (hN : N[i]? = some x := by rfl) (hv : visB sc x = true := by decide +kernel)
    (hd : (x == ("__debug__" : Str)) = false := by decide) (hcd : (x == ("__classdict__" : Str)) = false := by decide)
    (hbase : attributeBase (.Name x p1) "clear" X.env (eval (.Name x p1) X.env) = eval (.Name x p1) X.env := by rfl) (hline : (apos.endLine == p2.line) = true := by rfl) (hsw : swapsWith (.Call (.Attribute (.Name x p1) "clear" apos) [] [] p2) none pos.line X.env = pure false := by rfl) :
    DS X H0 S0 (.Expr (.Call (.Attribute (.Name x p1) "clear" apos) [] [] p2) pos :: rest) G P' := fun S F q H Dd E kk => by
  obtain ⟨p, vs, e1, hF, hp, r, hS⟩ := own_at E hi
  refine wSs_of (pss_cons (ps_expr (pe_bm0 PySem.F.plainAttrs_list PySem.F.slot_list_clear PySem.F.type_list_clear mt_clear (pe_var (X := X) (i := i) (by rw [hX.eN]; exact hN) (by rw [hX.es]; exact vis_of hv) hd hcd) hbase hline) hsw) pwSs) ?_
  exact ⟨_, e1, .inl ⟨rfl, _, .inl (.inl hp)⟩, p, vs, rfl, rfl, hp, h S F q _ Dd (E.store hi e1 .nil) (kk.at_ (Keep.upd hS (nt_lst hp)))⟩
theorem ds_clearN {G' : List Slot} (i : Nat) (hX : XOk P w K mg base k N sc fa X) {x : Str} {rest : List Stmt} {ds : List D} {P' : Out → Prop} {apos : Pos} (hi : G[i]? = some (.own ds) := by rfl) (h : DS X H0 S0 rest G' P') (hN : N[i]? = some x := by rfl) (hv : visB sc x = true := by decide +kernel) (hd : (x == ("__debug__" : Str)) = false := by decide) (hcd : (x == ("__classdict__" : Str)) = false := by decide) (hbase : attributeBase (.Name x p1) "clear" X.env (eval (.Name x p1) X.env) = eval (.Name x p1) X.env := by rfl) (hline : (apos.endLine == p2.line) = true := by rfl) (hsw : swapsWith (.Call (.Attribute (.Name x p1) "clear" apos) [] [] p2) none pos.line X.env = pure false := by rfl) (hG : G.set i (.own []) = G' := by first | (dsimp only [List.set, atS, slots, slotB] <;> rfl) | rfl) :
    DS X H0 S0 (.Expr (.Call (.Attribute (.Name x p1) "clear" apos) [] [] p2) pos :: rest) G P' := by
  subst hG
  exact ds_clear (i := i) (hX := hX) (hi := hi) (h := h) (hN := hN) (hv := hv) (hd := hd) (hcd := hcd) (hbase := hbase) (hline := hline) (hsw := hsw)
end

/-- the law's own promise, and the call that the statement makes -/
def tLaw : Tr := fun ds P' => ∃ (ns : List Int), ds = [.list (ns.map PyData.int)] ∧ ns.length ≤ 63 ∧ P' (.val (.bool true))
theorem sp_law {K : PySem.W.Frag} {H : Hp} {a : Addr} {ns : List Int} (hl : ns.length ≤ 63) (hS : SqL K H a (ns.map V.int)) : spD K [true] tLaw [.ref a] H (fun v _ => v = .bl true) fun _ _ _ => False :=
  ⟨fun _ => False, [.list (ns.map PyData.int)], fun r => r = .val (.bool true), fun _ z => z.elim, .cons (.b hS (Reps.ofInts ns)) .nil, ⟨ns, rfl, hl, rfl⟩, fun d v S' H' hp _ _ _ r => by
    cases hp
    cases r
    rfl, fun ds p vs S' H' hp _ _ _ _ _ _ _ => by cases hp⟩

/-! ### shapes of data (==) -/
def shp (n : Nat) (d : D) : Prop := d.canLay0 = true ∧ d.depth ≤ n
theorem shp_of {n : Nat} {d : D} (h : shp n d) (hn : n ≤ 64) : SeqAt.shaped d = true := by
  unfold SeqAt.shaped
  rw [h.1, Bool.true_and]
  exact decide_eq_true (Nat.le_trans h.2 hn)
theorem shp_int (i : Int) (n : Nat) : shp n (.int i) := ⟨by simp [PyData.canLay0], by simp [PyData.depth]⟩
theorem shp_none (n : Nat) : shp n .none := ⟨by simp [PyData.canLay0], by simp [PyData.depth]⟩
theorem shp_bool (b : Bool) (n : Nat) : shp n (.bool b) := ⟨by simp [PyData.canLay0], by simp [PyData.depth]⟩
theorem shp_all {n : Nat} : ∀ {xs : List D}, (∀ x ∈ xs, shp n x) → PyData.canLayAll0 xs = true ∧ PyData.depthAll xs ≤ n
  | [], _ => ⟨by simp [PyData.canLayAll0], by simp [PyData.depthAll]⟩
  | x :: r, h => by
    obtain ⟨h1, h2⟩ := h x List.mem_cons_self
    obtain ⟨h3, h4⟩ := shp_all (xs := r) fun y hy => h y (List.mem_cons_of_mem _ hy)
    refine ⟨by simp [PyData.canLayAll0, h1, h3], ?_⟩
    simp only [PyData.depthAll]
    omega
theorem shp_list {n : Nat} {xs : List D} (h : ∀ x ∈ xs, shp n x) : shp (n + 1) (.list xs) := by
  obtain ⟨h1, h2⟩ := shp_all h
  refine ⟨by simp only [PyData.canLay0]; exact h1, ?_⟩
  simp only [PyData.depth]
  omega
theorem shp_tup {n : Nat} {xs : List D} (h : ∀ x ∈ xs, shp n x) : shp (n + 1) (.tuple xs) := by
  obtain ⟨h1, h2⟩ := shp_all h
  refine ⟨by simp only [PyData.canLay0]; exact h1, ?_⟩
  simp only [PyData.depth]
  omega
theorem shp_map {T : Type} {n : Nat} {enc : T → D} (h : ∀ x, shp n (enc x)) (xs : List T) : shp (n + 1) (.list (xs.map enc)) := shp_list fun x hx => by
  obtain ⟨y, _, rfl⟩ := List.mem_map.mp hx
  exact h y
theorem shp_mono {n m : Nat} {d : D} (h : shp n d) (l : n ≤ m) : shp m d := ⟨h.1, Nat.le_trans h.2 l⟩
theorem eqv_self {n : Nat} {d : D} (h : shp n d) : PyData.eqv d d = true := SeqAt.eqv_refl d h.1
theorem eqv_nil {xs : List D} : PyData.eqv (.list xs) (.list []) = xs.isEmpty := by
  cases xs <;> simp [PyData.eqv, PyData.eqvAll]
end DL

namespace DL
open PySem PySem.Spec PyProof.Rows L2
section
variable {P : Program} {w : World} {K : PySem.W.Frag} {mg : Str → Option Value} {base : Heap} {k : Nat} {N : List Str} {sc : Scope} {fa : Bool} {X : Cx} {H0 : Hp} {S0 : AS} {G G1 G2 : List Slot} {pos p1 p2 p3 p4 : Pos}
/-- xs[::-1] -/
theorem do_rev {a : Expr} {ds : List D} {j : Nat} (ha : DLs X H0 S0 a G ds) : DO X H0 S0 (.Subscript a (.Slice none none (some (.UnaryOp .USub (.Constant (.int 1) j p1) p2)) p3) pos) G ds.reverse := fun S F q H E Q kk =>
  wE_of (pe_revL pwE) (ha S F q H E _ fun p vs H1 S1 g1 h1 r1 => ⟨p, vs, rfl, h1, fun c hc => kk c _ _ S1 (g1.trans (Grow.alloc0 hc)) (none_ext g1.ext hc) (fun z => (E.grow g1).slv c z hc) upd_same
    (r1.reverse.mono (fun _ z => z) fun a o _ e => by rw [upd_ne (ne_of_none e hc)]; exact e)⟩)
theorem do_revE {a : Expr} {T : Type} {enc : T → D} {xs : List T} {j : Nat} (ha : DLs X H0 S0 a G (xs.map enc)) : DO X H0 S0 (.Subscript a (.Slice none none (some (.UnaryOp .USub (.Constant (.int 1) j p1) p2)) p3) pos) G (xs.reverse.map enc) :=
  (do_rev ha).cast (by rw [List.map_reverse])
/-- xs[-1] = e -/
theorem ds_setlast (i : Nat) (hX : XOk P w K mg base k N sc fa X) {x : Str} {e b : Expr} {rest : List Stmt} {T : Type} (enc : T → D) {xs : List T} (y : T) {P' : Out → Prop} (hi : G[i]? = some (.own (xs.map enc)) := by rfl) (he : DE X H0 S0 e G (enc y)) (hb : DE X H0 S0 b G (.int (-1))) (hl : xs ≠ [])
    (h : DS X H0 S0 rest (G.set i (.own ((xs.set (xs.length - 1) y).map enc))) P') (hN : N[i]? = some x := by rfl) (hv : visB sc x = true := by decide +kernel) (hd : (x == ("__debug__" : Str)) = false := by decide) (hcd : (x == ("__classdict__" : Str)) = false := by decide)
    (ha : ∀ v, assign (.Subscript (.Name x p1) b p2) X.env v = (do
      let ov ← holding [v] (eval (.Name x p1) X.env)
      let iv ← holding [v, ov] (eval b X.env)
      standAt p2
      holding [v, ov, iv] (setItem ov iv v)
      release [v, ov, iv] []) := by intro _; rfl)
    (hs : swapsWithSole [.Subscript (.Name x p1) b p2] e pos.line X.env = pure false := by rfl) (hw : swappedStores [.Subscript (.Name x p1) b p2] e X.env = pure none := by rfl) (h1 : (assignEach [.Subscript (.Name x p1) b p2] X.env).map (·.2) = [assign (.Subscript (.Name x p1) b p2) X.env] := by rfl) :
    DS X H0 S0 (.Assign [.Subscript (.Name x p1) b p2] e pos :: rest) G P' :=
  ds_setix i hX hN hv hi he hb (ixN_last (by rw [List.length_map]; exact List.length_pos_iff.mpr hl)) (by rw [List.length_map]; rw [List.map_set] at h; exact h) hd hcd ha hs hw h1
theorem ds_setlastN {G' : List Slot} (i : Nat) (hX : XOk P w K mg base k N sc fa X) {x : Str} {e b : Expr} {rest : List Stmt} {T : Type} (enc : T → D) {xs : List T} (y : T) {P' : Out → Prop} (hi : G[i]? = some (.own (xs.map enc)) := by rfl) (he : DE X H0 S0 e G (enc y)) (hb : DE X H0 S0 b G (.int (-1))) (hl : xs ≠ []) (h : DS X H0 S0 rest G' P') (hN : N[i]? = some x := by rfl) (hv : visB sc x = true := by decide +kernel) (hd : (x == ("__debug__" : Str)) = false := by decide) (hcd : (x == ("__classdict__" : Str)) = false := by decide) (ha : ∀ v, assign (.Subscript (.Name x p1) b p2) X.env v = (do
      let ov ← holding [v] (eval (.Name x p1) X.env)
      let iv ← holding [v, ov] (eval b X.env)
      standAt p2
      holding [v, ov, iv] (setItem ov iv v)
      release [v, ov, iv] []) := by intro _; rfl) (hs : swapsWithSole [.Subscript (.Name x p1) b p2] e pos.line X.env = pure false := by rfl) (hw : swappedStores [.Subscript (.Name x p1) b p2] e X.env = pure none := by rfl) (h1 : (assignEach [.Subscript (.Name x p1) b p2] X.env).map (·.2) = [assign (.Subscript (.Name x p1) b p2) X.env] := by rfl) (hG : G.set i (.own ((xs.set (xs.length - 1) y).map enc)) = G' := by first | (dsimp only [List.set, atS, slots, slotB] <;> rfl) | rfl) :
    DS X H0 S0 (.Assign [.Subscript (.Name x p1) b p2] e pos :: rest) G P' := by
  subst hG
  exact ds_setlast (i := i) (hX := hX) (enc := enc) (y := y) (hi := hi) (he := he) (hb := hb) (hl := hl) (h := h) (hN := hN) (hv := hv) (hd := hd) (hcd := hcd) (ha := ha) (hs := hs) (hw := hw) (h1 := h1)
end
end DL

/-! DLi: what a def tells is new when nothing but flat things went in. -/
namespace DL
open PySem PySem.Spec PyProof.Rows L2
mutual
inductive Flat : D → Prop
  | non : Flat .none
  | bl (b : Bool) : Flat (.bool b)
  | int (i : Int) : Flat (.int i)
  | str (x : Str) : Flat (.str x)
  | tup {ds : List D} : Flats ds → Flat (.tuple ds)
inductive Flats : List D → Prop
  | nil : Flats []
  | cons {d : D} {ds : List D} : Flat d → Flats ds → Flats (d :: ds)
end
mutual
theorem Rep.flat {S S' : AS} {H : Hp} : ∀ {v : V} {d : D}, Rep S H v d → Flat d → Rep S' H v d
  | _, _, .non, _ => .non
  | _, _, .bl b, _ => .bl b
  | _, _, .int i, _ => .int i
  | _, _, .str x, _ => .str x
  | _, _, .lst _ _ _, h => nomatch h
  | _, _, .tup h2 h3, .tup h => .tup h2 (Reps.flat h3 h)
theorem Reps.flat {S S' : AS} {H : Hp} : ∀ {v : List V} {d : List D}, Reps S H v d → Flats d → Reps S' H v d
  | _, _, .nil, _ => .nil
  | _, _, .cons h t, .cons a b => .cons (Rep.flat h a) (Reps.flat t b)
end
theorem Flats.ints : ∀ (ns : List Int), Flats (ns.map PyData.int)
  | [] => .nil
  | n :: ns => .cons (.int n) (Flats.ints ns)
theorem Flats.map {T : Type} {enc : T → D} (h : ∀ x, Flat (enc x)) : ∀ (xs : List T), Flats (xs.map enc)
  | [] => .nil
  | x :: xs => .cons (h x) (Flats.map h xs)
inductive FlatB : List Bool → List D → Prop
  | nil : FlatB [] []
  | v {d : D} {bs : List Bool} {ds : List D} : Flat d → FlatB bs ds → FlatB (false :: bs) (d :: ds)
  | b {l : List D} {bs : List Bool} {ds : List D} : Flats l → FlatB bs ds → FlatB (true :: bs) (.list l :: ds)
theorem RepsB.flat {K : PySem.W.Frag} {S S' : AS} {H : Hp} : ∀ {bs : List Bool} {vs : List V} {ds : List D}, RepsB K S H bs vs ds → FlatB bs ds → RepsB K S' H bs vs ds
  | _, _, _, .nil, _ => .nil
  | _, _, _, .cons (.v r) t, .v f g => .cons (.v (r.flat f)) (t.flat g)
  | _, _, _, .cons (.b s r) t, .b f g => .cons (.b s (r.flat f)) (t.flat g)
section
variable {P : Program} {w : World} {K : PySem.W.Frag} {mg : Str → Option Value} {base : Heap} {k : Nat} {N : List Str} {sc : Scope} {fa : Bool} {X : Cx} {H0 : Hp} {S0 : AS} {G G1 G2 : List Slot} {pos p1 p2 p3 p4 : Pos}
/-- a call to which nothing but flat things go: what comes back is new -/
theorem call_new {j : Nat} {bs : List Bool} {T : Tr} {x : Str} {e : Expr} {es : List Expr} {ds : List D} {P' : RV → Prop} (hX : XOk P w K mg base k N sc fa X) (c : Callee P w K mg base j x bs T) (hj : j ≤ k := by decide) (hg : globB sc x = true := by decide +kernel) (ha : DB X H0 S0 bs (e :: es) G ds) (hf : FlatB bs ds) (ht : T ds P')
    (hdb : (x == ("__debug__" : Str)) = false) (he : starEach (e :: es) X.env = (false, eval e X.env) :: starEach es X.env) (hpl : (backTo pos (starEach es X.env)).any (·.1) = false) :
    ∀ S F q H, EnvOk H0 S0 G S F q H → ∀ Q : VK, (∀ H1 S1, Grow S H S1 H1 → ∀ v S' H', (∀ a o, H1 a = some o → H' a = some o) → (∀ a, S' a → H1 a = none ∧ H' a ≠ none) →
      ((∃ d, P' (.val d) ∧ Rep S' H' v d) ∨ (∃ ds p vs, P' (.own ds) ∧ v = .ref p ∧ H1 p = none ∧ ¬ S' p ∧ H' p = some (.lst vs) ∧ Reps S' H' vs ds)) → Q v H') → wE X (.Call (.Name x p1) (e :: es) [] pos) q H Q := by
  obtain ⟨f, fd, ps, FO, hm, hk, hb⟩ := c.ex
  cases hX.eP
  cases hX.ew
  cases hX.eK
  cases hX.emg
  cases hX.eb
  intro S F q H E Q kk
  refine wE_of (pe_call FO (hX.room.mono hj) (hX.gl hg) hm hk hb .nil pass0 pwA hdb he hpl) (ha S F q H E _ fun vs H1 S1 g1 r1 => ?_)
  rw [List.append_nil]
  have E1 := E.grow g1
  refine ⟨fun _ => False, ds, P', fun _ h => h.elim, r1.flat hf, ht, fun d v S' H' hp ex nw lv r => ?_, fun d p vs S' H' hp ex nw lv hn hs hq r => ?_⟩
  · exact kk H1 S1 g1 v S' H' ex (fun a z => ⟨(nw a z).elim False.elim id, lv a z⟩) (.inl ⟨d, hp, r⟩)
  · exact kk H1 S1 g1 _ S' H' ex (fun a z => ⟨(nw a z).elim False.elim id, lv a z⟩) (.inr ⟨d, p, vs, hp, rfl, hn, hs, hq, r⟩)
/-- a list of flat things told by such a call is one's own -/
theorem do_callN {j : Nat} {bs : List Bool} {T : Tr} {x : Str} {e : Expr} {es : List Expr} {ds l : List D} (hX : XOk P w K mg base k N sc fa X) (c : Callee P w K mg base j x bs T) (hj : j ≤ k := by decide) (hg : globB sc x = true := by decide +kernel) (ha : DB X H0 S0 bs (e :: es) G ds) (hf : FlatB bs ds) (hl : Flats l) (ht : T ds (fun r => r.dat = .list l))
    (hdb : (x == ("__debug__" : Str)) = false := by decide) (he : starEach (e :: es) X.env = (false, eval e X.env) :: starEach es X.env := by rfl) (hpl : (backTo pos (starEach es X.env)).any (·.1) = false := by rfl) :
    DO X H0 S0 (.Call (.Name x p1) (e :: es) [] pos) G l := fun S F q H E Q kk =>
  call_new hX c hj hg ha hf ht hdb he hpl S F q H E Q (fun H1 S1 g1 v S' H' ex nw h => by
    have gr : Grow S H S1 H' := ⟨fun a o z => ex a o (g1.ext a o z), g1.sub, g1.new, fun a z => (g1.lv a z).imp id fun z => ne_none_ext ex z⟩
    have E1 := E.grow g1
    rcases h with ⟨d, h1, h2⟩ | ⟨ds', p, vs, h1, rfl, h2, h3, h4, h5⟩
    · have h1' : d = .list l := h1
      subst h1'
      cases h2 with
      | lst a1 a2 a3 =>
        have n1 := (nw _ a1).1
        exact kk _ _ H' S1 gr (none_ext g1.ext n1) (fun z => E1.slv _ z n1) a2 (a3.flat hl)
    · have h1' : PyData.list ds' = .list l := h1
      cases h1'
      exact kk p vs H' S1 gr (none_ext g1.ext h2) (fun z => E1.slv p z h2) h4 (h5.flat hl))
/-- a if c else b, the same either way -/
theorem de_ifE {c a b : Expr} {t : Bool} {d : D} (hc : DT X H0 S0 c G t) (h1 : t = true → DE X H0 S0 a G d) (h2 : t = false → DE X H0 S0 b G d) : DE X H0 S0 (.IfExp c a b pos) G d :=
  (de_if hc h1 h2).cast (by split <;> rfl)
/-- tuples of numbers, the one ahead of the other -/
theorem ints_of {S : AS} {H : Hp} {vs : List V} {ns : List Int} (r : Reps S H vs (ns.map PyData.int)) : vs = ns.map V.int := r.ints
theorem dt_ltT (hX : XOk P w K mg base k N sc fa X) {a b : Expr} {ns ms : List Int} (ha : DE X H0 S0 a G (.tuple (ns.map PyData.int))) (hb : DE X H0 S0 b G (.tuple (ms.map PyData.int))) : DT X H0 S0 (.Compare a [.Lt] [b] pos) G (HT.lexLt ns ms) :=
  dt_cmp (op_ltT hX.room.units0) ha hb (nomark _) fun S H v u Q r1 r2 h => by
    cases r1 with
    | tup a1 a2 =>
      cases r2 with
      | tup b1 b2 =>
        rw [a2.ints] at a1
        rw [b2.ints] at b1
        exact ⟨_, _, ns, ms, rfl, rfl, .inl a1, .inl b1, h⟩
end
end DL

/-! DLj: more methods of lists of one's own. -/
namespace DL
open PySem PySem.Spec PyProof.Rows L2
def insL {α : Type} (xs : List α) (i : Int) (y : α) : List α := xs.take i.toNat ++ [y] ++ xs.drop i.toNat
theorem insL_map {α β : Type} (f : α → β) (xs : List α) (i : Int) (y : α) : insL (xs.map f) i (f y) = (insL xs i y).map f := by
  unfold insL
  rw [List.map_append, List.map_append, List.map_take, List.map_drop]
  rfl
section
variable {P : Program} {w : World} {K : PySem.W.Frag} {mg : Str → Option Value} {base : Heap} {k : Nat} {N : List Str} {sc : Scope} {fa : Bool} {X : Cx} {H0 : Hp} {S0 : AS} {G G1 G2 : List Slot} {pos p1 p2 p3 p4 : Pos}
theorem ds_insert (i : Nat) (hX : XOk P w K mg base k N sc fa X) {x : Str} {e0 e : Expr} {rest : List Stmt} {ds : List D} {d : D} {n : Int} {P' : Out → Prop} {apos : Pos} (hi : G[i]? = some (.own ds) := by rfl) (hn : DE X H0 S0 e0 G (.int n)) (he : DE X H0 S0 e G d) (h0 : 0 ≤ n) (h1 : n < 2 ^ 63) (hz : ds.length < 16777216)
    (h : DS X H0 S0 rest (G.set i (.own (insL ds n d))) P') (hN : N[i]? = some x := by rfl) (hv : visB sc x = true := by decide +kernel) (hd : (x == ("__debug__" : Str)) = false := by decide) (hcd : (x == ("__classdict__" : Str)) = false := by decide)
    (hbase : attributeBase (.Name x p1) "insert" X.env (eval (.Name x p1) X.env) = eval (.Name x p1) X.env := by rfl)
    (hfew : ((backTo p2 (starEach [e0, e] X.env)).all (fun x => !x.1) && (backToKw p2 (keywordEach [] X.env)).all (fun x => x.1.isSome)
      && decide ([e0, e].length + ([] : List Keyword).length + (if ([] : List Keyword).isEmpty then 0 else 1) < 30)) = true := by rfl)
    (hline : (apos.endLine == p2.line) = true := by rfl) (hs : starEach [e0, e] X.env = (false, eval e0 X.env) :: starEach [e] X.env := by rfl) (hs2 : starEach [e] X.env = (false, eval e X.env) :: starEach [] X.env := by rfl) (hplain : (backTo p2 (starEach [e] X.env)).any (·.1) = false := by rfl)
    (hsw : swapsWith (.Call (.Attribute (.Name x p1) "insert" apos) [e0, e] [] p2) none pos.line X.env = pure false := by rfl) :
    DS X H0 S0 (.Expr (.Call (.Attribute (.Name x p1) "insert" apos) [e0, e] [] p2) pos :: rest) G P' := fun S F q H Dd E kk => by
  obtain ⟨p, vs, e1, hF, hp, r, hS⟩ := own_at E hi
  refine wSs_of (pss_cons (ps_expr (pe_bm PySem.F.plainAttrs_list PySem.F.slot_list_insert PySem.F.type_list_insert mt_insert (pe_var (X := X) (i := i) (by rw [hX.eN]; exact hN) (by rw [hX.es]; exact vis_of hv) hd hcd) (pa_cons pwE (pa_cons pwE pa_nil hs2) hs) hbase hfew hline hs hplain) hsw) pwSs) ?_
  refine ⟨_, e1, .inl ⟨rfl, _, .inl (.inl hp)⟩, hn S F q H E _ fun v0 H1 S1 g1 r1 => ?_⟩
  cases r1
  have E1 := E.grow g1
  refine he S1 F q H1 E1 _ fun v H2 S2 g2 r2 => ?_
  have g := g1.trans g2
  have E2 := E1.grow g2
  have hp2 := g.ext _ _ hp
  have m1 := (E2.mu i _ hi rfl p hF).2.1
  refine ⟨p, vs, n, v, rfl, rfl, hp2, by rw [r.len, sizeLine_eq]; exact hz, h0, h1, ?_⟩
  have rr := r.keep g.keep
  exact h S2 F q _ Dd (E2.store hi e1 (((rr.take n.toNat).append (.cons r2 .nil)).append (rr.drop n.toNat))) (kk.at_ (g.keep.trans (Keep.upd m1 (nt_lst hp2))))
theorem ds_insertN {G' : List Slot} (i : Nat) (hX : XOk P w K mg base k N sc fa X) {x : Str} {e0 e : Expr} {rest : List Stmt} {ds : List D} {d : D} {n : Int} {P' : Out → Prop} {apos : Pos} (hi : G[i]? = some (.own ds) := by rfl) (hn : DE X H0 S0 e0 G (.int n)) (he : DE X H0 S0 e G d) (h0 : 0 ≤ n) (h1 : n < 2 ^ 63) (hz : ds.length < 16777216) (h : DS X H0 S0 rest G' P') (hN : N[i]? = some x := by rfl) (hv : visB sc x = true := by decide +kernel) (hd : (x == ("__debug__" : Str)) = false := by decide) (hcd : (x == ("__classdict__" : Str)) = false := by decide) (hbase : attributeBase (.Name x p1) "insert" X.env (eval (.Name x p1) X.env) = eval (.Name x p1) X.env := by rfl) (hfew : ((backTo p2 (starEach [e0, e] X.env)).all (fun x => !x.1) && (backToKw p2 (keywordEach [] X.env)).all (fun x => x.1.isSome)
      && decide ([e0, e].length + ([] : List Keyword).length + (if ([] : List Keyword).isEmpty then 0 else 1) < 30)) = true := by rfl) (hline : (apos.endLine == p2.line) = true := by rfl) (hs : starEach [e0, e] X.env = (false, eval e0 X.env) :: starEach [e] X.env := by rfl) (hs2 : starEach [e] X.env = (false, eval e X.env) :: starEach [] X.env := by rfl) (hplain : (backTo p2 (starEach [e] X.env)).any (·.1) = false := by rfl) (hsw : swapsWith (.Call (.Attribute (.Name x p1) "insert" apos) [e0, e] [] p2) none pos.line X.env = pure false := by rfl) (hG : G.set i (.own (insL ds n d)) = G' := by first | (dsimp only [List.set, atS, slots, slotB] <;> rfl) | rfl) :
    DS X H0 S0 (.Expr (.Call (.Attribute (.Name x p1) "insert" apos) [e0, e] [] p2) pos :: rest) G P' := by
  subst hG
  exact ds_insert (i := i) (hX := hX) (hi := hi) (hn := hn) (he := he) (h0 := h0) (h1 := h1) (hz := hz) (h := h) (hN := hN) (hv := hv) (hd := hd) (hcd := hcd) (hbase := hbase) (hfew := hfew) (hline := hline) (hs := hs) (hs2 := hs2) (hplain := hplain) (hsw := hsw)
theorem ds_insertE (i : Nat) (hX : XOk P w K mg base k N sc fa X) {x : Str} {e0 e : Expr} {rest : List Stmt} {T : Type} (enc : T → D) {xs : List T} (y : T) {n : Int} {P' : Out → Prop} {apos : Pos} (hi : G[i]? = some (.own (xs.map enc)) := by rfl) (hn : DE X H0 S0 e0 G (.int n)) (he : DE X H0 S0 e G (enc y)) (h0 : 0 ≤ n) (h1 : n < 2 ^ 63) (hz : xs.length < 16777216)
    (h : DS X H0 S0 rest (G.set i (.own ((insL xs n y).map enc))) P') (hN : N[i]? = some x := by rfl) (hv : visB sc x = true := by decide +kernel) (hd : (x == ("__debug__" : Str)) = false := by decide) (hcd : (x == ("__classdict__" : Str)) = false := by decide)
    (hbase : attributeBase (.Name x p1) "insert" X.env (eval (.Name x p1) X.env) = eval (.Name x p1) X.env := by rfl)
    (hfew : ((backTo p2 (starEach [e0, e] X.env)).all (fun x => !x.1) && (backToKw p2 (keywordEach [] X.env)).all (fun x => x.1.isSome)
      && decide ([e0, e].length + ([] : List Keyword).length + (if ([] : List Keyword).isEmpty then 0 else 1) < 30)) = true := by rfl)
    (hline : (apos.endLine == p2.line) = true := by rfl) (hs : starEach [e0, e] X.env = (false, eval e0 X.env) :: starEach [e] X.env := by rfl) (hs2 : starEach [e] X.env = (false, eval e X.env) :: starEach [] X.env := by rfl) (hplain : (backTo p2 (starEach [e] X.env)).any (·.1) = false := by rfl)
    (hsw : swapsWith (.Call (.Attribute (.Name x p1) "insert" apos) [e0, e] [] p2) none pos.line X.env = pure false := by rfl) :
    DS X H0 S0 (.Expr (.Call (.Attribute (.Name x p1) "insert" apos) [e0, e] [] p2) pos :: rest) G P' :=
  ds_insert i hX hi hn he h0 h1 (by rw [List.length_map]; exact hz) (by rw [insL_map]; exact h) hN hv hd hcd hbase hfew hline hs hs2 hplain hsw
theorem ds_insertEN {G' : List Slot} (i : Nat) (hX : XOk P w K mg base k N sc fa X) {x : Str} {e0 e : Expr} {rest : List Stmt} {T : Type} (enc : T → D) {xs : List T} (y : T) {n : Int} {P' : Out → Prop} {apos : Pos} (hi : G[i]? = some (.own (xs.map enc)) := by rfl) (hn : DE X H0 S0 e0 G (.int n)) (he : DE X H0 S0 e G (enc y)) (h0 : 0 ≤ n) (h1 : n < 2 ^ 63) (hz : xs.length < 16777216) (h : DS X H0 S0 rest G' P') (hN : N[i]? = some x := by rfl) (hv : visB sc x = true := by decide +kernel) (hd : (x == ("__debug__" : Str)) = false := by decide) (hcd : (x == ("__classdict__" : Str)) = false := by decide) (hbase : attributeBase (.Name x p1) "insert" X.env (eval (.Name x p1) X.env) = eval (.Name x p1) X.env := by rfl) (hfew : ((backTo p2 (starEach [e0, e] X.env)).all (fun x => !x.1) && (backToKw p2 (keywordEach [] X.env)).all (fun x => x.1.isSome)
      && decide ([e0, e].length + ([] : List Keyword).length + (if ([] : List Keyword).isEmpty then 0 else 1) < 30)) = true := by rfl) (hline : (apos.endLine == p2.line) = true := by rfl) (hs : starEach [e0, e] X.env = (false, eval e0 X.env) :: starEach [e] X.env := by rfl) (hs2 : starEach [e] X.env = (false, eval e X.env) :: starEach [] X.env := by rfl) (hplain : (backTo p2 (starEach [e] X.env)).any (·.1) = false := by rfl) (hsw : swapsWith (.Call (.Attribute (.Name x p1) "insert" apos) [e0, e] [] p2) none pos.line X.env = pure false := by rfl) (hG : G.set i (.own ((insL xs n y).map enc)) = G' := by first | (dsimp only [List.set, atS, slots, slotB] <;> rfl) | rfl) :
    DS X H0 S0 (.Expr (.Call (.Attribute (.Name x p1) "insert" apos) [e0, e] [] p2) pos :: rest) G P' := by
  subst hG
  exact ds_insertE (i := i) (hX := hX) (enc := enc) (y := y) (hi := hi) (hn := hn) (he := he) (h0 := h0) (h1 := h1) (hz := hz) (h := h) (hN := hN) (hv := hv) (hd := hd) (hcd := hcd) (hbase := hbase) (hfew := hfew) (hline := hline) (hs := hs) (hs2 := hs2) (hplain := hplain) (hsw := hsw)
theorem ixN_seq {n : Nat} {i : Int} {j : Nat} (h : ixN n i = some j) (hn : n ≤ 16777216) : seqIndex? i n = some j ∧ -(2 ^ 63) ≤ i ∧ i < 2 ^ 63 := by
  unfold ixN at h
  have e63 : (2 : Int) ^ 63 = 9223372036854775808 := by decide
  by_cases h0 : 0 ≤ i
  · rw [if_pos h0] at h
    split at h
    · next hl =>
      cases h
      exact ⟨seqIndex_of h0 hl, by omega, by omega⟩
    · cases h
  · rw [if_neg h0] at h
    split at h
    · next hl =>
      cases h
      refine ⟨?_, by omega, by omega⟩
      have := seqIndex_neg (n := n) (k := i) (by omega) (by omega)
      rw [this]
    · cases h
theorem DT.cast {e : Expr} {x y : Bool} (h : DT X H0 S0 e G x) (q : x = y) : DT X H0 S0 e G y := q ▸ h
/-- xs.pop(i) as a statement -/
theorem ds_popAt (i : Nat) (hX : XOk P w K mg base k N sc fa X) {x : Str} {e : Expr} {rest : List Stmt} {ds : List D} {n : Int} {j : Nat} {P' : Out → Prop} {apos : Pos} (hi : G[i]? = some (.own ds) := by rfl) (hn : DE X H0 S0 e G (.int n)) (hj : ixN ds.length n = some j) (hz : ds.length ≤ 16777216)
    (h : DS X H0 S0 rest (G.set i (.own (ds.eraseIdx j))) P') (hN : N[i]? = some x := by rfl) (hv : visB sc x = true := by decide +kernel) (hd : (x == ("__debug__" : Str)) = false := by decide) (hcd : (x == ("__classdict__" : Str)) = false := by decide)
    (hbase : attributeBase (.Name x p1) "pop" X.env (eval (.Name x p1) X.env) = eval (.Name x p1) X.env := by rfl)
    (hfew : ((backTo p2 (starEach [e] X.env)).all (fun x => !x.1) && (backToKw p2 (keywordEach [] X.env)).all (fun x => x.1.isSome)
      && decide ([e].length + ([] : List Keyword).length + (if ([] : List Keyword).isEmpty then 0 else 1) < 30)) = true := by rfl)
    (hline : (apos.endLine == p2.line) = true := by rfl) (hs : starEach [e] X.env = (false, eval e X.env) :: starEach [] X.env := by rfl) (hplain : (backTo p2 (starEach [] X.env)).any (·.1) = false := by rfl)
    (hsw : swapsWith (.Call (.Attribute (.Name x p1) "pop" apos) [e] [] p2) none pos.line X.env = pure false := by rfl) :
    DS X H0 S0 (.Expr (.Call (.Attribute (.Name x p1) "pop" apos) [e] [] p2) pos :: rest) G P' := fun S F q H Dd E kk => by
  obtain ⟨p, vs, e1, hF, hp, r, hS⟩ := own_at E hi
  refine wSs_of (pss_cons (ps_expr (pe_bm PySem.F.plainAttrs_list PySem.F.slot_list_pop PySem.F.type_list_pop mt_popAt (pe_var (X := X) (i := i) (by rw [hX.eN]; exact hN) (by rw [hX.es]; exact vis_of hv) hd hcd) (pa_cons pwE pa_nil hs) hbase hfew hline hs hplain) hsw) pwSs) ?_
  refine ⟨_, e1, .inl ⟨rfl, _, .inl (.inl hp)⟩, hn S F q H E _ fun v0 H1 S1 g1 r1 => ?_⟩
  cases r1
  have E1 := E.grow g1
  have hp1 := g1.ext _ _ hp
  have m1 := (E1.mu i _ hi rfl p hF).2.1
  obtain ⟨s1, s2, s3⟩ := ixN_seq hj hz
  have hjl : j < vs.length := by
    rw [r.len]
    unfold ixN at hj
    split at hj <;> split at hj <;> first | (cases hj; omega) | cases hj
  refine ⟨p, vs, n, j, vs[j], rfl, rfl, hp1, s2, s3, by rw [r.len]; exact s1, List.getElem?_eq_getElem hjl, ?_⟩
  exact h S1 F q _ Dd (E1.store hi e1 ((r.keep g1.keep).erase j)) (kk.at_ (g1.keep.trans (Keep.upd m1 (nt_lst hp1))))
theorem ds_popAtN {G' : List Slot} (i : Nat) (hX : XOk P w K mg base k N sc fa X) {x : Str} {e : Expr} {rest : List Stmt} {ds : List D} {n : Int} {j : Nat} {P' : Out → Prop} {apos : Pos} (hi : G[i]? = some (.own ds) := by rfl) (hn : DE X H0 S0 e G (.int n)) (hj : ixN ds.length n = some j) (hz : ds.length ≤ 16777216) (h : DS X H0 S0 rest G' P') (hN : N[i]? = some x := by rfl) (hv : visB sc x = true := by decide +kernel) (hd : (x == ("__debug__" : Str)) = false := by decide) (hcd : (x == ("__classdict__" : Str)) = false := by decide) (hbase : attributeBase (.Name x p1) "pop" X.env (eval (.Name x p1) X.env) = eval (.Name x p1) X.env := by rfl) (hfew : ((backTo p2 (starEach [e] X.env)).all (fun x => !x.1) && (backToKw p2 (keywordEach [] X.env)).all (fun x => x.1.isSome)
      && decide ([e].length + ([] : List Keyword).length + (if ([] : List Keyword).isEmpty then 0 else 1) < 30)) = true := by rfl) (hline : (apos.endLine == p2.line) = true := by rfl) (hs : starEach [e] X.env = (false, eval e X.env) :: starEach [] X.env := by rfl) (hplain : (backTo p2 (starEach [] X.env)).any (·.1) = false := by rfl) (hsw : swapsWith (.Call (.Attribute (.Name x p1) "pop" apos) [e] [] p2) none pos.line X.env = pure false := by rfl) (hG : G.set i (.own (ds.eraseIdx j)) = G' := by first | (dsimp only [List.set, atS, slots, slotB] <;> rfl) | rfl) :
    DS X H0 S0 (.Expr (.Call (.Attribute (.Name x p1) "pop" apos) [e] [] p2) pos :: rest) G P' := by
  subst hG
  exact ds_popAt (i := i) (hX := hX) (hi := hi) (hn := hn) (hj := hj) (hz := hz) (h := h) (hN := hN) (hv := hv) (hd := hd) (hcd := hcd) (hbase := hbase) (hfew := hfew) (hline := hline) (hs := hs) (hplain := hplain) (hsw := hsw)
theorem ds_popAtE (i : Nat) (hX : XOk P w K mg base k N sc fa X) {x : Str} {e : Expr} {rest : List Stmt} {T : Type} (enc : T → D) {xs : List T} {n : Int} {P' : Out → Prop} {apos : Pos} (hi : G[i]? = some (.own (xs.map enc)) := by rfl) (hn : DE X H0 S0 e G (.int n)) (h0 : 0 ≤ n) (hl : n < xs.length) (hz : xs.length ≤ 16777216)
    (h : DS X H0 S0 rest (G.set i (.own ((xs.eraseIdx n.toNat).map enc))) P') (hN : N[i]? = some x := by rfl) (hv : visB sc x = true := by decide +kernel) (hd : (x == ("__debug__" : Str)) = false := by decide) (hcd : (x == ("__classdict__" : Str)) = false := by decide)
    (hbase : attributeBase (.Name x p1) "pop" X.env (eval (.Name x p1) X.env) = eval (.Name x p1) X.env := by rfl)
    (hfew : ((backTo p2 (starEach [e] X.env)).all (fun x => !x.1) && (backToKw p2 (keywordEach [] X.env)).all (fun x => x.1.isSome)
      && decide ([e].length + ([] : List Keyword).length + (if ([] : List Keyword).isEmpty then 0 else 1) < 30)) = true := by rfl)
    (hline : (apos.endLine == p2.line) = true := by rfl) (hs : starEach [e] X.env = (false, eval e X.env) :: starEach [] X.env := by rfl) (hplain : (backTo p2 (starEach [] X.env)).any (·.1) = false := by rfl)
    (hsw : swapsWith (.Call (.Attribute (.Name x p1) "pop" apos) [e] [] p2) none pos.line X.env = pure false := by rfl) :
    DS X H0 S0 (.Expr (.Call (.Attribute (.Name x p1) "pop" apos) [e] [] p2) pos :: rest) G P' :=
  ds_popAt i hX hi hn (ixN_nat h0 (by rw [List.length_map]; exact hl)) (by rw [List.length_map]; exact hz) (by
    have q : (xs.map enc).eraseIdx n.toNat = (xs.eraseIdx n.toNat).map enc := by rw [List.eraseIdx_eq_take_drop_succ, List.eraseIdx_eq_take_drop_succ, List.map_append, List.map_take, List.map_drop]
    rw [q]; exact h) hN hv hd hcd hbase hfew hline hs hplain hsw
theorem ds_popAtEN {G' : List Slot} (i : Nat) (hX : XOk P w K mg base k N sc fa X) {x : Str} {e : Expr} {rest : List Stmt} {T : Type} (enc : T → D) {xs : List T} {n : Int} {P' : Out → Prop} {apos : Pos} (hi : G[i]? = some (.own (xs.map enc)) := by rfl) (hn : DE X H0 S0 e G (.int n)) (h0 : 0 ≤ n) (hl : n < xs.length) (hz : xs.length ≤ 16777216) (h : DS X H0 S0 rest G' P') (hN : N[i]? = some x := by rfl) (hv : visB sc x = true := by decide +kernel) (hd : (x == ("__debug__" : Str)) = false := by decide) (hcd : (x == ("__classdict__" : Str)) = false := by decide) (hbase : attributeBase (.Name x p1) "pop" X.env (eval (.Name x p1) X.env) = eval (.Name x p1) X.env := by rfl) (hfew : ((backTo p2 (starEach [e] X.env)).all (fun x => !x.1) && (backToKw p2 (keywordEach [] X.env)).all (fun x => x.1.isSome)
      && decide ([e].length + ([] : List Keyword).length + (if ([] : List Keyword).isEmpty then 0 else 1) < 30)) = true := by rfl) (hline : (apos.endLine == p2.line) = true := by rfl) (hs : starEach [e] X.env = (false, eval e X.env) :: starEach [] X.env := by rfl) (hplain : (backTo p2 (starEach [] X.env)).any (·.1) = false := by rfl) (hsw : swapsWith (.Call (.Attribute (.Name x p1) "pop" apos) [e] [] p2) none pos.line X.env = pure false := by rfl) (hG : G.set i (.own ((xs.eraseIdx n.toNat).map enc)) = G' := by first | (dsimp only [List.set, atS, slots, slotB] <;> rfl) | rfl) :
    DS X H0 S0 (.Expr (.Call (.Attribute (.Name x p1) "pop" apos) [e] [] p2) pos :: rest) G P' := by
  subst hG
  exact ds_popAtE (i := i) (hX := hX) (enc := enc) (hi := hi) (hn := hn) (h0 := h0) (hl := hl) (hz := hz) (h := h) (hN := hN) (hv := hv) (hd := hd) (hcd := hcd) (hbase := hbase) (hfew := hfew) (hline := hline) (hs := hs) (hplain := hplain) (hsw := hsw)
theorem ds_reverse (i : Nat) (hX : XOk P w K mg base k N sc fa X) {x : Str} {rest : List Stmt} {ds : List D} {P' : Out → Prop} {apos : Pos} (hi : G[i]? = some (.own ds) := by rfl) (h : DS X H0 S0 rest (G.set i (.own ds.reverse)) P') (hN : N[i]? = some x := by rfl) (hv : visB sc x = true := by decide +kernel)
    (hd : (x == ("__debug__" : Str)) = false := by decide) (hcd : (x == ("__classdict__" : Str)) = false := by decide)
    (hbase : attributeBase (.Name x p1) "reverse" X.env (eval (.Name x p1) X.env) = eval (.Name x p1) X.env := by rfl) (hline : (apos.endLine == p2.line) = true := by rfl) (hsw : swapsWith (.Call (.Attribute (.Name x p1) "reverse" apos) [] [] p2) none pos.line X.env = pure false := by rfl) :
    DS X H0 S0 (.Expr (.Call (.Attribute (.Name x p1) "reverse" apos) [] [] p2) pos :: rest) G P' := fun S F q H Dd E kk => by
  obtain ⟨p, vs, e1, hF, hp, r, hS⟩ := own_at E hi
  refine wSs_of (pss_cons (ps_expr (pe_bm0 PySem.F.plainAttrs_list PySem.F.slot_list_reverse PySem.F.type_list_reverse mt_reverse (pe_var (X := X) (i := i) (by rw [hX.eN]; exact hN) (by rw [hX.es]; exact vis_of hv) hd hcd) hbase hline) hsw) pwSs) ?_
  exact ⟨_, e1, .inl ⟨rfl, _, .inl (.inl hp)⟩, p, vs, rfl, rfl, hp, h S F q _ Dd (E.store hi e1 r.reverse) (kk.at_ (Keep.upd hS (nt_lst hp)))⟩
theorem ds_reverseN {G' : List Slot} (i : Nat) (hX : XOk P w K mg base k N sc fa X) {x : Str} {rest : List Stmt} {ds : List D} {P' : Out → Prop} {apos : Pos} (hi : G[i]? = some (.own ds) := by rfl) (h : DS X H0 S0 rest G' P') (hN : N[i]? = some x := by rfl) (hv : visB sc x = true := by decide +kernel) (hd : (x == ("__debug__" : Str)) = false := by decide) (hcd : (x == ("__classdict__" : Str)) = false := by decide) (hbase : attributeBase (.Name x p1) "reverse" X.env (eval (.Name x p1) X.env) = eval (.Name x p1) X.env := by rfl) (hline : (apos.endLine == p2.line) = true := by rfl) (hsw : swapsWith (.Call (.Attribute (.Name x p1) "reverse" apos) [] [] p2) none pos.line X.env = pure false := by rfl) (hG : G.set i (.own ds.reverse) = G' := by first | (dsimp only [List.set, atS, slots, slotB] <;> rfl) | rfl) :
    DS X H0 S0 (.Expr (.Call (.Attribute (.Name x p1) "reverse" apos) [] [] p2) pos :: rest) G P' := by
  subst hG
  exact ds_reverse (i := i) (hX := hX) (hi := hi) (h := h) (hN := hN) (hv := hv) (hd := hd) (hcd := hcd) (hbase := hbase) (hline := hline) (hsw := hsw)
end
end DL

/-! DLk: a workspace: cells at known addresses, in a ghost slot. -/
namespace DL
open PySem PySem.Spec PyProof.Rows L2
def updW (W : Wk) (p : Addr) (c : Cell) : Wk := fun a => if a = p then some c else W a
def delW (W : Wk) (p : Addr) : Wk := fun a => if a = p then none else W a
theorem updW_same {W : Wk} {p : Addr} {c : Cell} : updW W p c p = some c := if_pos rfl
theorem updW_ne {W : Wk} {p a : Addr} {c : Cell} (h : a ≠ p) : updW W p c a = W a := if_neg h
theorem delW_same {W : Wk} {p : Addr} : delW W p p = none := if_pos rfl
theorem delW_ne {W : Wk} {p a : Addr} (h : a ≠ p) : delW W p a = W a := if_neg h
section
variable {S S' : AS} {H H' : Hp}
theorem RepI.keep (k : Keep S H S' H') {v : V} {e : E} (r : RepI H v e) : RepI H' v e := r.mono fun a o z => k.obj a o (.inr z)
theorem RepIs.keep (k : Keep S H S' H') {v : List V} {e : List E} (r : RepIs H v e) : RepIs H' v e := r.mono fun a o z => k.obj a o (.inr z)
theorem RepI.ext (k : ∀ a o, H a = some o → H' a = some o) {v : V} {e : E} (r : RepI H v e) : RepI H' v e := r.mono fun a o _ => k a o
theorem RepIs.ext (k : ∀ a o, H a = some o → H' a = some o) {v : List V} {e : List E} (r : RepIs H v e) : RepIs H' v e := r.mono fun a o _ => k a o
theorem RepI.upd {p : Addr} {u : HO} (nt : NT H p) {v : V} {e : E} (r : RepI H v e) : RepI (upd H p u) v e := r.mono fun a o z h => by
  obtain ⟨xs, z⟩ := z
  have zz : a ≠ p := fun w => by subst w; exact nt xs z
  rw [upd_ne zz]; exact h
theorem RepIs.upd {p : Addr} {u : HO} (nt : NT H p) {v : List V} {e : List E} (r : RepIs H v e) : RepIs (upd H p u) v e := r.mono fun a o z h => by
  obtain ⟨xs, z⟩ := z
  have zz : a ≠ p := fun w => by subst w; exact nt xs z
  rw [upd_ne zz]; exact h
theorem RepIs.len : ∀ {vs : List V} {ds : List E}, RepIs H vs ds → vs.length = ds.length
  | _, _, .nil => rfl
  | _, _, .cons _ t => congrArg (· + 1) t.len
theorem RepIs.getD : ∀ {vs : List V} {ds : List E} {i : Nat} {d : E}, RepIs H vs ds → ds[i]? = some d → ∃ v, vs[i]? = some v ∧ RepI H v d
  | _, _, i, v, .nil, e => by simp at e
  | _, _, 0, v, .cons h _, e => by simp at e; subst e; exact ⟨_, rfl, h⟩
  | _, _, i + 1, v, .cons _ t, e => by
    obtain ⟨d, h1, h2⟩ := RepIs.getD (i := i) (d := v) t (by simpa using e)
    exact ⟨d, by simpa using h1, h2⟩
theorem RepIs.append : ∀ {vs ws : List V} {ds es : List E}, RepIs H vs ds → RepIs H ws es → RepIs H (vs ++ ws) (ds ++ es)
  | _, _, _, _, .nil, s => s
  | _, _, _, _, .cons h t, s => .cons h (RepIs.append t s)
theorem RepIs.set {v : V} {d : E} (r : RepI H v d) : ∀ {vs : List V} {ds : List E} (i : Nat), RepIs H vs ds → RepIs H (vs.set i v) (ds.set i d)
  | _, _, _, .nil => .nil
  | _, _, 0, .cons _ t => .cons r t
  | _, _, i + 1, .cons q t => .cons q (RepIs.set r i t)
theorem RepIs.take : ∀ {vs : List V} {ds : List E} (n : Nat), RepIs H vs ds → RepIs H (vs.take n) (ds.take n)
  | _, _, 0, _ => .nil
  | _, _, _ + 1, .nil => .nil
  | _, _, n + 1, .cons r t => .cons r (RepIs.take n t)
theorem RepIs.drop : ∀ {vs : List V} {ds : List E} (n : Nat), RepIs H vs ds → RepIs H (vs.drop n) (ds.drop n)
  | _, _, 0, r => r
  | _, _, _ + 1, .nil => .nil
  | _, _, n + 1, .cons _ t => RepIs.drop n t
theorem RepIs.erase : ∀ {vs : List V} {ds : List E} (i : Nat), RepIs H vs ds → RepIs H (vs.eraseIdx i) (ds.eraseIdx i)
  | _, _, _, .nil => .nil
  | _, _, 0, .cons _ t => t
  | _, _, i + 1, .cons q t => .cons q (RepIs.erase i t)
theorem RepIs.ofReps : ∀ {vs : List V} {ds : List D}, Reps (fun _ => False) H vs ds → RepIs H vs (ds.map E.d)
  | _, _, .nil => .nil
  | _, _, .cons h t => .cons (.d h) (RepIs.ofReps t)
theorem RepIs.toReps : ∀ {vs : List V} {ds : List D}, RepIs H vs (ds.map E.d) → Reps S H vs ds
  | [], [], .nil => .nil
  | _ :: _, _ :: _, .cons (.d h) t => .cons (h.mono (fun _ z => z.elim) fun _ _ _ z => z) (RepIs.toReps t)
theorem RepI.isRef {v : V} {a : Addr} (r : RepI H v (.ref a)) : v = .ref a := by cases r; rfl
end
section
variable {H0 : Hp} {S0 : AS} {G : List Slot} {S S' : AS} {F : Nat → AS} {q : L2.St} {H H' : Hp}
theorem set_self_q {q : L2.St} {i : Nat} {o : Option V} (h : q[i]? = some o) : q.set i o = q := by
  obtain ⟨h3, h4⟩ := List.getElem?_eq_some_iff.mp h
  rw [← h4]
  exact List.set_getElem_self h3
/-- what stands at a workspace's places -/
theorem EnvOk.wat (e : EnvOk H0 S0 G S F q H) {gi : Nat} {m : Bool} {W : Wk} (hi : G[gi]? = some (.wrk m W)) : (∀ a, F gi a ↔ W a ≠ none) ∧ ∀ a c, W a = some c → CellOk H a c := by
  obtain ⟨o, h1, h2⟩ := e.sl gi _ hi
  exact h2
theorem EnvOk.wlst (e : EnvOk H0 S0 G S F q H) {gi : Nat} {m : Bool} {W : Wk} (hi : G[gi]? = some (.wrk m W)) {p : Addr} {es : List E} (hp : W p = some (.lst es)) : ∃ vs, H p = some (.lst vs) ∧ RepIs H vs es := (e.wat hi).2 p _ hp
/-- the workspace gives up cells, or takes such as nothing else knows -/
theorem EnvOk.wput (e : EnvOk H0 S0 G S F q H) {gi : Nat} {W W' : Wk} (hi : gi < G.length) (hW : ∀ a, W a ≠ none → H a ≠ none ∧ H0 a = none ∧ ¬ S a ∧ ∀ j, j ≠ gi → ¬ F j a) (ok : ∀ a c, W' a = some c → CellOk H a c)
    (nw : ∀ a, W' a ≠ none → W a ≠ none ∨ (H a ≠ none ∧ H0 a = none ∧ ¬ S a ∧ ∀ j, j ≠ gi → ¬ F j a)) : EnvOk H0 S0 (G.set gi (.wrk true W')) S (fun j => if j = gi then (fun a => W' a ≠ none) else F j) q H := by
  obtain ⟨o, h1, _⟩ := e.sl gi _ (List.getElem?_eq_getElem hi)
  have all : ∀ a, W' a ≠ none → H a ≠ none ∧ H0 a = none ∧ ¬ S a ∧ ∀ j, j ≠ gi → ¬ F j a := fun a h => (nw a h).elim (hW a) id
  have := e.put hi (t := .wrk true W') (o := o) (Fi := fun a => W' a ≠ none) ⟨fun _ => Iff.rfl, ok⟩ (fun a h => (all a h).1) (fun _ a h => (all a h).2) (fun j s hj _ _ a ha z => (all a z).2.2.2 j hj ha) (fun K ds z => by cases z)
  rw [set_self_q h1] at this
  exact this
theorem EnvOk.wdom (e : EnvOk H0 S0 G S F q H) {gi : Nat} {W : Wk} (hi : G[gi]? = some (.wrk true W)) : ∀ a, W a ≠ none → H a ≠ none ∧ H0 a = none ∧ ¬ S a ∧ ∀ j, j ≠ gi → ¬ F j a := fun a h => by
  have hF := ((e.wat hi).1 a).mpr h
  exact ⟨e.flv gi a hF, e.mu gi _ hi rfl a hF⟩
theorem EnvOk.wnew (e : EnvOk H0 S0 G S F q H) {gi : Nat} (hi : gi < G.length) : EnvOk H0 S0 (G.set gi (.wrk true fun _ => none)) S (fun j => if j = gi then (fun a => False) else F j) q H := by
  have := e.wput (W := fun _ => none) (W' := fun _ => none) hi (fun a h => absurd rfl h) (fun a c h => by cases h) (fun a h => absurd rfl h)
  have e2 : (fun a : Addr => (none : Option Cell) ≠ none) = fun _ => False := funext fun a => by simp
  simp only [e2] at this
  exact this
/-- a cell changes -/
theorem EnvOk.wset (e : EnvOk H0 S0 G S F q H) {gi : Nat} {W : Wk} (hi : G[gi]? = some (.wrk true W)) {p : Addr} (hp : W p ≠ none) (hT : NT H p) {u : HO} {c : Cell} (hc : CellOk (upd H p u) p c) : ∃ F', EnvOk H0 S0 (G.set gi (.wrk true (updW W p c))) S F' q (upd H p u) := by
  have il : gi < G.length := (List.getElem?_eq_some_iff.mp hi).1
  have dom := e.wdom hi
  obtain ⟨_, h0, hS, hF⟩ := dom p hp
  have E1 := e.wput (W := W) (W' := delW W p) il dom (fun a c h => by
    by_cases z : a = p
    · subst z; rw [delW_same] at h; cases h
    · rw [delW_ne z] at h; exact (e.wat hi).2 a c h) (fun a h => by
    by_cases z : a = p
    · subst z; exact absurd delW_same h
    · rw [delW_ne z] at h; exact .inl h)
  have nF : ∀ j, ¬ (fun j => if j = gi then (fun a => delW W p a ≠ none) else F j) j p := fun j => by
    by_cases z : j = gi
    · simp only [if_pos z]; exact fun y => y delW_same
    · simp only [if_neg z]; exact hF j z
  have E2 := E1.other (u := u) h0 hS nF hT
  have i2 : (G.set gi (.wrk true (delW W p)))[gi]? = some (.wrk true (delW W p)) := List.getElem?_set_self il
  have E3 := E2.wput (W := delW W p) (W' := updW W p c) (by rw [List.length_set]; exact il) (E2.wdom i2) (fun a c' h => by
    by_cases z : a = p
    · subst z; rw [updW_same] at h; cases h; exact hc
    · rw [updW_ne z] at h
      exact (E2.wat i2).2 a c' (by rw [delW_ne z]; exact h)) (fun a h => by
    by_cases z : a = p
    · subst z
      exact .inr ⟨by rw [upd_same]; exact Option.some_ne_none _, h0, hS, fun j hj => nF j⟩
    · rw [updW_ne z] at h
      exact .inl (by rw [delW_ne z]; exact h))
  rw [List.set_set] at E3
  exact ⟨_, E3⟩
/-- a new object comes in -/
theorem EnvOk.wadd (e : EnvOk H0 S0 G S F q H) {gi : Nat} {W : Wk} (hi : G[gi]? = some (.wrk true W)) {p : Addr} {c : Cell} (hp : CellOk H p c) (hl : H p ≠ none) (h0 : H0 p = none) (hS : ¬ S p) (hF : ∀ j, ¬ F j p) : ∃ F', EnvOk H0 S0 (G.set gi (.wrk true (updW W p c))) S F' q H := by
  have il : gi < G.length := (List.getElem?_eq_some_iff.mp hi).1
  exact ⟨_, e.wput (W := W) (W' := updW W p c) il (e.wdom hi) (fun a c' h => by
    by_cases z : a = p
    · subst z; rw [updW_same] at h; cases h; exact hp
    · rw [updW_ne z] at h; exact (e.wat hi).2 a c' h) (fun a h => by
    by_cases z : a = p
    · subst z; exact .inr ⟨hl, h0, hS, fun j _ => hF j⟩
    · rw [updW_ne z] at h; exact .inl h)⟩
end

/-! ### expressions -/
def DX (X : Cx) (H0 : Hp) (S0 : AS) (e : Expr) (G : List Slot) (it : E) : Prop := ∀ S F q H, EnvOk H0 S0 G S F q H → ∀ Q : VK, (∀ v H' S', Grow S H S' H' → RepI H' v it → Q v H') → wE X e q H Q
def DXs (X : Cx) (H0 : Hp) (S0 : AS) (es : List Expr) (G : List Slot) (its : List E) : Prop := ∀ S F q H, EnvOk H0 S0 G S F q H → ∀ Q : List V → Hp → Prop, (∀ vs H' S', Grow S H S' H' → RepIs H' vs its → Q vs H') → wA X es q H Q
/-- a new list of such things -/
def DOX (X : Cx) (H0 : Hp) (S0 : AS) (e : Expr) (G : List Slot) (es : List E) : Prop := ∀ S F q H, EnvOk H0 S0 G S F q H → ∀ Q : VK, (∀ p vs H' S', Grow S H S' H' → H p = none → ¬ S' p → H' p = some (.lst vs) → RepIs H' vs es → Q (.ref p) H') → wE X e q H Q
section
variable {P : Program} {w : World} {K : PySem.W.Frag} {mg : Str → Option Value} {base : Heap} {k : Nat} {N : List Str} {sc : Scope} {fa : Bool} {X : Cx} {H0 : Hp} {S0 : AS} {G G1 G2 : List Slot} {pos p1 p2 p3 p4 : Pos}
theorem dx_v (i : Nat) (hX : XOk P w K mg base k N sc fa X) {x : Str} {it : E} (hN : N[i]? = some x := by rfl) (hv : visB sc x = true := by decide +kernel) (h : G[i]? = some (.itm it) := by rfl) (hd : (x == ("__debug__" : Str)) = false := by decide) (hcd : (x == ("__classdict__" : Str)) = false := by decide) :
    DX X H0 S0 (.Name x pos) G it := fun S F q H E Q kk => by
  obtain ⟨o, h1, _, v, rfl, r⟩ := E.sl i _ h
  exact wE_of (pe_var (X := X) (i := i) (by rw [hX.eN]; exact hN) (by rw [hX.es]; exact vis_of hv) hd hcd) ⟨v, h1, kk v H S (Grow.refl S H) r⟩
theorem dx_d {e : Expr} {d : D} (h : DE X H0 S0 e G d) (f : Flat d) : DX X H0 S0 e G (.d d) := fun S F q H E Q kk => h S F q H E Q fun v H' S' g r => kk v H' S' g (.d (r.flat f))
theorem de_x {e : Expr} {d : D} (h : DX X H0 S0 e G (.d d)) : DE X H0 S0 e G d := fun S F q H E Q kk => h S F q H E Q fun v H' S' g r => by
  cases r with
  | d r => exact kk v H' S' g (r.mono (fun _ z => z.elim) fun _ _ _ z => z)
theorem dxs_nil : DXs X H0 S0 [] G [] := fun S F q H E Q kk => wA_of pa_nil (kk [] H S (Grow.refl S H) .nil)
theorem dxs_cons {e : Expr} {es : List Expr} {d : E} {ds : List E} (h1 : DX X H0 S0 e G d) (h2 : DXs X H0 S0 es G ds) (hs : starEach (e :: es) X.env = (false, eval e X.env) :: starEach es X.env := by rfl) : DXs X H0 S0 (e :: es) G (d :: ds) := fun S F q H E Q kk =>
  wA_of (pa_cons pwE pwA hs) (h1 S F q H E _ fun v H1 S1 g1 r1 => h2 S1 F q H1 (E.grow g1) _ fun vs H2 S2 g2 r2 => kk _ H2 S2 (g1.trans g2) (.cons (r1.ext g2.ext) r2))
theorem dx_tup {es : List Expr} {ds : List E} {x1} (h : DXs X H0 S0 es G ds) (hz : ds.length ≤ 1000 := by exact Nat.le_of_ble_eq_true rfl) : DX X H0 S0 (.Tuple es x1 pos) G (.tup ds) := fun S F q H E Q kk =>
  wE_of (pe_tup pwA) (h S F q H E _ fun vs H1 S1 g1 r1 => ⟨by rw [r1.len]; exact Nat.le_of_lt (small1000 hz), fun p hp => kk _ _ _ (g1.trans (Grow.alloc hp))
    (.tup (.inl upd_same) (r1.ext fun a o e => by rw [upd_ne (ne_of_none e hp)]; exact e))⟩)
theorem dox_lst {es : List Expr} {ds : List E} (h : DXs X H0 S0 es G ds) (hz : ds.length ≤ 1000 := by exact Nat.le_of_ble_eq_true rfl) : DOX X H0 S0 (.List es pos) G ds := fun S F q H E Q kk =>
  wE_of (pe_lst pwA) (h S F q H E _ fun vs H1 S1 g1 r1 => ⟨by rw [r1.len]; exact Nat.le_of_lt (small1000 hz), fun p hp => kk p vs _ _ (g1.trans (Grow.alloc0 hp)) (none_ext g1.ext hp)
    (fun z => (E.grow g1).slv p z hp) upd_same (r1.ext fun a o e => by rw [upd_ne (ne_of_none e hp)]; exact e)⟩)
theorem dox_o {e : Expr} {ds : List D} (h : DO X H0 S0 e G ds) (f : Flats ds) : DOX X H0 S0 e G (ds.map E.d) := fun S F q H E Q kk => h S F q H E Q fun p vs H' S' g hn hS hp r => kk p vs H' S' g hn hS hp (RepIs.ofReps (r.flat f))
/-- a list of the workspace, read -/
theorem dlr_x (gi : Nat) {e : Expr} {m : Bool} {W : Wk} {p : Addr} {ds : List D} (h : DX X H0 S0 e G (.ref p)) (hp : W p = some (.lst (ds.map E.d))) (hW : G[gi]? = some (.wrk m W) := by rfl) : DLr X H0 S0 e G ds := fun S F q H E Q kk => h S F q H E Q fun v H' S' g r => by
  cases r
  obtain ⟨vs, h1, h2⟩ := (E.grow g).wlst hW hp
  exact kk p vs H' S' g (.inl h1) h2.toReps
theorem dls_x (gi : Nat) {e : Expr} {m : Bool} {W : Wk} {p : Addr} {ds : List D} (h : DX X H0 S0 e G (.ref p)) (hp : W p = some (.lst (ds.map E.d))) (hW : G[gi]? = some (.wrk m W) := by rfl) : DLs X H0 S0 e G ds := dls_r (dlr_x gi h hp hW)
theorem dx_ix (gi : Nat) {a b : Expr} {m : Bool} {W : Wk} {p : Addr} {es : List E} {i : Int} {it : E} (ha : DX X H0 S0 a G (.ref p)) (hp : W p = some (.lst es)) (hb : DE X H0 S0 b G (.int i)) (h : atI es i = some it) (hW : G[gi]? = some (.wrk m W) := by rfl) (hi : PlainIx b := by exact fun _ _ => rfl) : DX X H0 S0 (.Subscript a b pos) G it := fun S F q H E Q kk =>
  wE_of (pe_ix ix_list pwE pwE hi) (ha S F q H E _ fun v H1 S1 g1 r1 => hb S1 F q H1 (E.grow g1) _ fun u H2 S2 g2 r2 => by
    cases r1; cases r2
    obtain ⟨vs, h1, h2⟩ := ((E.grow g1).grow g2).wlst hW hp
    obtain ⟨j, e1, e2⟩ := atI_len h
    obtain ⟨v, hv, rv⟩ := h2.getD e2
    exact ⟨p, vs, i, v, rfl, rfl, .inl (.inl h1), atI_of (by rw [h2.len]; exact e1) hv, kk v H2 S2 (g1.trans g2) rv⟩)
theorem dx_ixt {a b : Expr} {es : List E} {i : Int} {it : E} (ha : DX X H0 S0 a G (.tup es)) (hb : DE X H0 S0 b G (.int i)) (h : atI es i = some it) (hi : PlainIx b := by exact fun _ _ => rfl) : DX X H0 S0 (.Subscript a b pos) G it := fun S F q H E Q kk =>
  wE_of (pe_ix ix_tup pwE pwE hi) (ha S F q H E _ fun v H1 S1 g1 r1 => hb S1 F q H1 (E.grow g1) _ fun u H2 S2 g2 r2 => by
    cases r2
    cases r1 with
    | tup a1 a2 =>
      obtain ⟨j, e1, e2⟩ := atI_len h
      obtain ⟨v, hv, rv⟩ := a2.getD e2
      exact ⟨_, _, i, v, rfl, rfl, .inl (rd_keep (fun o z => g2.ext _ o z) a1), atI_of (by rw [a2.len]; exact e1) hv, kk v H2 S2 (g1.trans g2) (rv.ext g2.ext)⟩)
theorem de_lenx (gi : Nat) {a : Expr} {m : Bool} {W : Wk} {p : Addr} {es : List E} (hX : XOk P w K mg base k N sc fa X) (hm : mg "len" = none) (ha : DX X H0 S0 a G (.ref p)) (hp : W p = some (.lst es)) (hW : G[gi]? = some (.wrk m W) := by rfl) (hg : globB sc "len" = true := by decide +kernel) (he : starEach [a] X.env = (false, eval a X.env) :: starEach [] X.env := by rfl) (hpl : (backTo pos (starEach [] X.env)).any (·.1) = false := by rfl) :
    DE X H0 S0 (.Call (.Name "len" p1) [a] [] pos) G (.int (es.length : Int)) := fun S F q H E Q kk =>
  wE_of (pe_callB call_len_seq (hX.gl hg) (by rw [hX.emg]; exact hm) PySem.boot_len (pa_cons pwE pa_nil he) (by decide) (by decide) he hpl) (ha S F q H E _ fun v H1 S1 g1 r1 => by
    cases r1
    obtain ⟨vs, h1, h2⟩ := (E.grow g1).wlst hW hp
    exact ⟨p, vs, rfl, .inl (.inl (.inl h1)), kk _ H1 S1 g1 (by rw [h2.len]; exact .int _)⟩)
theorem de_lentx {a : Expr} {es : List E} (hX : XOk P w K mg base k N sc fa X) (hm : mg "len" = none) (ha : DX X H0 S0 a G (.tup es)) (hg : globB sc "len" = true := by decide +kernel) (he : starEach [a] X.env = (false, eval a X.env) :: starEach [] X.env := by rfl) (hpl : (backTo pos (starEach [] X.env)).any (·.1) = false := by rfl) :
    DE X H0 S0 (.Call (.Name "len" p1) [a] [] pos) G (.int (es.length : Int)) := fun S F q H E Q kk =>
  wE_of (pe_callB call_len_seq (hX.gl hg) (by rw [hX.emg]; exact hm) PySem.boot_len (pa_cons pwE pa_nil he) (by decide) (by decide) he hpl) (ha S F q H E _ fun v H1 S1 g1 r1 => by
    cases r1 with
    | tup a1 a2 => exact ⟨_, _, rfl, .inr (.inl a1), kk _ H1 S1 g1 (by rw [a2.len]; exact .int _)⟩)
/-- list(xs) of such things: a new list -/
theorem dox_list (gi : Nat) {a : Expr} {m : Bool} {W : Wk} {p : Addr} {es : List E} (hX : XOk P w K mg base k N sc fa X) (hm : mg "list" = none) (ha : DX X H0 S0 a G (.ref p)) (hp : W p = some (.lst es)) (hW : G[gi]? = some (.wrk m W) := by rfl) (hg : globB sc "list" = true := by decide +kernel) (he : starEach [a] X.env = (false, eval a X.env) :: starEach [] X.env := by rfl) (hpl : (backTo pos (starEach [] X.env)).any (·.1) = false := by rfl) :
    DOX X H0 S0 (.Call (.Name "list" p1) [a] [] pos) G es := fun S F q H E Q kk =>
  wE_of (pe_callTy call_list_of (hX.gl hg) (by rw [hX.emg]; exact hm) PyProof.Rows.boot_list (pa_cons pwE pa_nil he) (by decide) (by decide) he hpl) (ha S F q H E _ fun v H1 S1 g1 r1 => by
    cases r1
    obtain ⟨vs, h1, h2⟩ := (E.grow g1).wlst hW hp
    exact ⟨p, vs, rfl, .inl (.inl (.inl h1)), fun l hl => kk l vs _ S1 (g1.trans (Grow.alloc0 hl)) (none_ext g1.ext hl) (fun z => (E.grow g1).slv l z hl) upd_same (h2.ext fun a o e => by rw [upd_ne (ne_of_none e hl)]; exact e)⟩)

/-! ### isinstance of such things -/
def tyE : E → String
  | .d d => tyD d
  | .ref _ => "list"
  | .tup _ => "tuple"
/-- isinstance(xs, list) of a list of the workspace -/
theorem de_isilx (gi : Nat) {a : Expr} {m : Bool} {W : Wk} {p : Addr} {es : List E} (hX : XOk P w K mg base k N sc fa X) (hm : mg "isinstance" = none) (hmT : mg "list" = none) (ha : DX X H0 S0 a G (.ref p)) (hp : W p = some (.lst es)) (hW : G[gi]? = some (.wrk m W) := by rfl) (hg : globB sc "isinstance" = true := by decide +kernel) (hgT : globB sc "list" = true := by decide +kernel)
    (hs : starEach [a, .Name "list" p2] X.env = (false, eval a X.env) :: starEach [.Name "list" p2] X.env := by rfl) (hs2 : starEach [.Name "list" p2] X.env = (false, eval (.Name "list" p2) X.env) :: starEach [] X.env := by rfl) (hpl : (backTo pos (starEach [.Name "list" p2] X.env)).any (·.1) = false := by rfl) :
    DE X H0 S0 (.Call (.Name "isinstance" p1) [a, .Name "list" p2] [] pos) G (.bool true) := fun S F q H E Q kk =>
  wE_of (pe_callB call_isi (hX.gl hg) (by rw [hX.emg]; exact hm) PyProof.Rows.boot_isinstance (pa_cons pwE (pa_cons (pe_bltn (v := .ty "list") (hX.gl hgT) (by rw [hX.emg]; exact hmT) PyProof.Rows.boot_list rfl (by decide) (by decide)) pa_nil hs2) hs) (by decide) (by decide) hs hpl)
    (ha S F q H E _ fun v H1 S1 g1 r1 => by
      cases r1
      obtain ⟨vs, h1, h2⟩ := (E.grow g1).wlst hW hp
      exact ⟨.ref p, .ty "list", .type "list", .type "list", true, rfl, .ty "list", .base (.lst h1), kit_ty (by decide +kernel), kk _ H1 S1 g1 (.bl _)⟩)
theorem de_isitx {a : Expr} {es : List E} (hX : XOk P w K mg base k N sc fa X) (hm : mg "isinstance" = none) (hmT : mg "tuple" = none) (ha : DX X H0 S0 a G (.tup es)) (hg : globB sc "isinstance" = true := by decide +kernel) (hgT : globB sc "tuple" = true := by decide +kernel)
    (hs : starEach [a, .Name "tuple" p2] X.env = (false, eval a X.env) :: starEach [.Name "tuple" p2] X.env := by rfl) (hs2 : starEach [.Name "tuple" p2] X.env = (false, eval (.Name "tuple" p2) X.env) :: starEach [] X.env := by rfl) (hpl : (backTo pos (starEach [.Name "tuple" p2] X.env)).any (·.1) = false := by rfl) :
    DE X H0 S0 (.Call (.Name "isinstance" p1) [a, .Name "tuple" p2] [] pos) G (.bool true) := fun S F q H E Q kk =>
  wE_of (pe_callB call_isi (hX.gl hg) (by rw [hX.emg]; exact hm) PyProof.Rows.boot_isinstance (pa_cons pwE (pa_cons (pe_bltn (v := .ty "tuple") (hX.gl hgT) (by rw [hX.emg]; exact hmT) PyProof.Rows.boot_tuple rfl (by decide) (by decide)) pa_nil hs2) hs) (by decide) (by decide) hs hpl)
    (ha S F q H E _ fun v H1 S1 g1 r1 => by
      cases r1 with
      | tup a1 a2 =>
        rcases a1 with a1 | ⟨o, a1⟩
        · exact ⟨_, .ty "tuple", .type "tuple", .type "tuple", true, rfl, .ty "tuple", .base (.tup a1), kit_ty (by decide +kernel), kk _ H1 S1 g1 (.bl _)⟩
        · exact ⟨_, .ty "tuple", .type "tuple", .type "tuple", true, rfl, .ty "tuple", .fTuple a1, kit_ty (by decide +kernel), kk _ H1 S1 g1 (.bl _)⟩)
end
end DL

/-! DLl: statements over a workspace. -/
namespace DL
open PySem PySem.Spec PyProof.Rows L2
/-! ### targets -/
def DGX (X : Cx) (H0 : Hp) (S0 : AS) (tg : Expr) (it : E) (G G' : List Slot) (tv : List Nat) : Prop := ∀ S F q H, EnvOk H0 S0 G S F q H → ∀ v, RepI H v it → ∀ Q : L2.St → Hp → Prop,
  (∀ F' q', EnvOk H0 S0 G' S F' q' H → (q'.length = q.length ∧ ∀ j, j ∉ tv → q'[j]? = q[j]?) → Q q' H) → wG X tg v q H Q
def DGXs (X : Cx) (H0 : Hp) (S0 : AS) (ts : List Expr) (its : List E) (G G' : List Slot) (tv : List Nat) : Prop := ∀ S F q H, EnvOk H0 S0 G S F q H → ∀ vs, RepIs H vs its → ∀ Q : L2.St → Hp → Prop,
  (∀ F' q', EnvOk H0 S0 G' S F' q' H → (q'.length = q.length ∧ ∀ j, j ∉ tv → q'[j]? = q[j]?) → Q q' H) → wGs X ts vs q H Q
section
variable {P : Program} {w : World} {K : PySem.W.Frag} {mg : Str → Option Value} {base : Heap} {k : Nat} {N : List Str} {sc : Scope} {fa : Bool} {X : Cx} {H0 : Hp} {S0 : AS} {G G1 G2 : List Slot} {pos p1 p2 p3 p4 : Pos}
theorem EnvOk.puti {S : AS} {F : Nat → AS} {q : L2.St} {H : Hp} (e : EnvOk H0 S0 G S F q H) {i : Nat} (hi : i < G.length) {it : E} {v : V} (r : RepI H v it) : EnvOk H0 S0 (G.set i (.itm it)) S (fun j => if j = i then (fun _ => False) else F j) (q.set i (some v)) H :=
  e.put hi ⟨fun _ z => z, v, rfl, r⟩ (fun _ z => z.elim) (fun z => by cases z) (fun _ _ _ _ _ _ _ z => z) fun K ds z => by cases z
theorem dgx_name (i : Nat) (hX : XOk P w K mg base k N sc true X) {G' : List Slot} {x : Str} {it : E} (hN : N[i]? = some x := by rfl) (hv : locB sc x = true := by decide +kernel) (hi : i < G.length := by exact Nat.le_of_ble_eq_true rfl) (hG : G.set i (.itm it) = G' := by first | (dsimp only [List.set, atS, slots, slotB] <;> rfl) | rfl) : DGX X H0 S0 (.Name x pos) it G G' [i] := by
  subst hG
  exact fun S F q H E v r Q kk => wG_of (pg_name (i := i) (by rw [hX.eN]; exact hX.nd) (by rw [hX.eN]; exact hN) (by rw [hX.es]; exact loc_of hv) (.inl (hX.fn rfl x))) (kk _ _ (E.puti hi r) ⟨List.length_set, fun j hj => List.getElem?_set_ne (fun z => hj (by rw [z]; exact List.mem_singleton.mpr rfl))⟩)
theorem dgx_d {tg : Expr} {d : D} {t : List Nat} (h : DG X H0 S0 tg d G G1 t) : DGX X H0 S0 tg (.d d) G G1 t := fun S F q H E v r Q kk => by
  cases r with
  | d r => exact h S F q H E v (r.mono (fun _ z => z.elim) fun _ _ _ z => z) Q kk
theorem dgxs_nil : DGXs X H0 S0 [] [] G G [] := fun S F q H E vs r Q kk => by
  cases r
  exact wGs_of pgs_nil ⟨rfl, kk F q E ⟨rfl, fun _ _ => rfl⟩⟩
theorem dgxs_cons {e : Expr} {es : List Expr} {d : E} {ds : List E} {t u : List Nat} (h1 : DGX X H0 S0 e d G G1 t) (h2 : DGXs X H0 S0 es ds G1 G2 u) (hs : (assignEach (e :: es) X.env).map (·.2) = assign e X.env :: (assignEach es X.env).map (·.2) := by rfl) :
    DGXs X H0 S0 (e :: es) (d :: ds) G G2 (t ++ u) := fun S F q H E vs r Q kk => by
  cases r with
  | cons r rr =>
    exact wGs_of (pgs_cons pwG pwGs hs) ⟨_, _, rfl, h1 S F q H E _ r _ fun F1 q1 E1 a1 => h2 S F1 q1 H E1 _ rr _ fun F2 q2 E2 a2 => kk F2 q2 E2 ⟨a2.1.trans a1.1, fun j hj => by
      rw [List.mem_append, not_or] at hj
      rw [a2.2 j hj.2, a1.2 j hj.1]⟩⟩
theorem dgx_tup (hX : XOk P w K mg base k N sc fa X) {es : List Expr} {c : Nat} {ds : List E} {t : List Nat} (h : DGXs X H0 S0 es ds G G1 t) (hn : (assignEach es X.env).length = ds.length := by rfl) (hst : (assignEach es X.env).findIdx? (·.1) = none := by rfl) :
    DGX X H0 S0 (.Tuple es c pos) (.tup ds) G G1 t := fun S F q H E v r Q kk => by
  cases r with
  | tup h2 h3 => exact wG_of (pg_tup hX.calm pwGs hn hst) ⟨_, _, rfl, .inl h2, h3.len, h S F q H E _ h3 Q kk⟩

/-! ### statements -/
theorem ds_setX (i : Nat) {x : Str} {e : Expr} {rest : List Stmt} {it : E} {P' : Out → Prop} {G' : List Slot} (hX : XOk P w K mg base k N sc true X) (he : DX X H0 S0 e G it) (h : DS X H0 S0 rest G' P') (hN : N[i]? = some x := by rfl) (hv : locB sc x = true := by decide +kernel) (hi : i < G.length := by exact Nat.le_of_ble_eq_true rfl)
    (hs : swapsWith e (some (.Name x p1)) pos.line X.env = pure false := by rfl) (hG : G.set i (.itm it) = G' := by first | (dsimp only [List.set, atS, slots, slotB] <;> rfl) | rfl) : DS X H0 S0 (.Assign [.Name x p1] e pos :: rest) G P' := fun S F q H Dd E kk => by
  subst hG
  exact wSs_of (pss_cons (ps_set (i := i) (by rw [hX.eN]; exact hX.nd) (by rw [hX.eN]; exact hN) (by rw [hX.es]; exact loc_of hv) pwE hs (by
    rcases loc_of hv with z | z
    · exact .inr (by rw [hX.es]; exact z)
    · exact .inl (hX.fn rfl x))) pwSs) (he S F q H E _ fun v H1 S1 g1 r1 => h S1 _ _ H1 Dd ((E.grow g1).puti hi r1) (kk.at_ g1.keep))
theorem ds_unpackX (hX : XOk P w K mg base k N sc fa X) {tg e : Expr} {rest : List Stmt} {it : E} {P' : Out → Prop} {t : List Nat} (he : DX X H0 S0 e G it) (hg : DGX X H0 S0 tg it G G1 t) (h : DS X H0 S0 rest G1 P')
    (hs : swapsWithSole [tg] e pos.line X.env = pure false := by rfl) (hw : swappedStores [tg] e X.env = pure none := by rfl) (h1 : (assignEach [tg] X.env).map (·.2) = [assign tg X.env] := by rfl) : DS X H0 S0 (.Assign [tg] e pos :: rest) G P' := fun S F q H Dd E kk =>
  wSs_of (pss_cons (ps_asg pwE pwG hs hw h1) pwSs) (he S F q H E _ fun v H1 S1 g1 r1 => hg S1 F q H1 (E.grow g1) v r1 _ fun F2 q2 E2 _ => h S1 F2 q2 H1 Dd E2 (kk.at_ g1.keep))
/-- a workspace begins -/
theorem ds_begW (gi : Nat) {ss : List Stmt} {P' : Out → Prop} {G' : List Slot} (h : DS X H0 S0 ss G' P') (hi : gi < G.length := by exact Nat.le_of_ble_eq_true rfl) (hG : G.set gi (.wrk true fun _ => none) = G' := by first | (dsimp only [List.set, atS, slots, slotB] <;> rfl) | rfl) : DS X H0 S0 ss G P' := fun S F q H Dd E kk => by
  subst hG
  exact h S _ q H Dd (E.wnew hi) kk
/-- a list of one's own goes to the workspace -/
theorem ds_toW (i gi : Nat) {ss : List Stmt} {ds : List D} {W : Wk} {P' : Out → Prop} (hi : G[i]? = some (.own ds) := by rfl) (hW : G[gi]? = some (.wrk true W) := by rfl) (hf : Flats ds) (h : ∀ p, W p = none → DS X H0 S0 ss ((G.set i (.itm (.ref p))).set gi (.wrk true (updW W p (.lst (ds.map E.d))))) P') (hne : i ≠ gi := by decide) : DS X H0 S0 ss G P' := fun S F q H Dd E kk => by
  obtain ⟨p, vs, e1, hF, hp, r, hS⟩ := own_at E hi
  have il : i < G.length := (List.getElem?_eq_some_iff.mp hi).1
  obtain ⟨m1, m2, m3⟩ := E.mu i _ hi rfl p hF
  have hWp : W p = none := by
    cases e : W p with
    | none => rfl
    | some c => exact absurd (((E.wat hW).1 p).mpr (by rw [e]; exact Option.some_ne_none _)) (m3 gi (Ne.symm hne))
  have E1 := E.puti il (RepI.ref (H := H) p)
  rw [set_self_q e1] at E1
  obtain ⟨F2, E2⟩ := E1.wadd (gi := gi) (W := W) (p := p) (c := .lst (ds.map DL.E.d)) (by rw [List.getElem?_set_ne hne]; exact hW) ⟨vs, hp, RepIs.ofReps (r.flat hf)⟩ (by rw [hp]; exact Option.some_ne_none _) m1 m2 (fun j z => by
    by_cases y : j = i
    · simp only [if_pos y] at z
    · simp only [if_neg y] at z; exact m3 j y z)
  exact h p hWp S F2 q H Dd E2 kk
/-- a flat list of the workspace becomes a list of one's own again -/
theorem ds_ofW (i gi : Nat) {ss : List Stmt} {ds : List D} {W : Wk} {p : Addr} {P' : Out → Prop} {G' : List Slot} (hi : G[i]? = some (.itm (.ref p)) := by rfl) (hW : G[gi]? = some (.wrk true W) := by rfl) (hp : W p = some (.lst (ds.map E.d))) (h : DS X H0 S0 ss G' P') (hne : i ≠ gi := by decide) (hG : (G.set gi (.wrk true (delW W p))).set i (.own ds) = G' := by first | (dsimp only [List.set, atS, slots, slotB] <;> rfl) | rfl) : DS X H0 S0 ss G P' := fun S F q H Dd E kk => by
  subst hG
  have il : i < G.length := (List.getElem?_eq_some_iff.mp hi).1
  have gl : gi < G.length := (List.getElem?_eq_some_iff.mp hW).1
  obtain ⟨vs, h1, h2⟩ := E.wlst hW hp
  have dom := E.wdom hW
  obtain ⟨lv, h0, hS, hF⟩ := dom p (by rw [hp]; exact Option.some_ne_none _)
  have E1 := E.wput (W := W) (W' := delW W p) gl dom (fun a c y => by
    by_cases z : a = p
    · subst z; rw [delW_same] at y; cases y
    · rw [delW_ne z] at y; exact (E.wat hW).2 a c y) (fun a y => by
    by_cases z : a = p
    · subst z; exact absurd delW_same y
    · rw [delW_ne z] at y; exact .inl y)
  obtain ⟨o, e1, _, v, rfl, r⟩ := E.sl i _ hi
  cases r
  have E2 := E1.puto (i := i) (p := p) (by rw [List.length_set]; exact il) h1 (h2.toReps (S := S)) h0 hS (fun j z => by
    by_cases y : j = gi
    · simp only [if_pos y] at z; exact z delW_same
    · simp only [if_neg y] at z; exact hF j y z)
  rw [set_self_q e1] at E2
  exact h S _ q H Dd E2 kk
/-- o.append(e), o a list of the workspace -/
theorem ds_appendW (gi : Nat) (hX : XOk P w K mg base k N sc fa X) {o e : Expr} {rest : List Stmt} {W : Wk} {p : Addr} {es : List E} {it : E} {P' : Out → Prop} {G' : List Slot} {apos : Pos} (ho : DX X H0 S0 o G (.ref p)) (hp : W p = some (.lst es)) (he : DX X H0 S0 e G it) (hz : es.length < 16777216) (h : DS X H0 S0 rest G' P') (hW : G[gi]? = some (.wrk true W) := by rfl)
    (hbase : attributeBase o "append" X.env (eval o X.env) = eval o X.env := by rfl)
    (hfew : ((backTo p2 (starEach [e] X.env)).all (fun x => !x.1) && (backToKw p2 (keywordEach [] X.env)).all (fun x => x.1.isSome)
      && decide ([e].length + ([] : List Keyword).length + (if ([] : List Keyword).isEmpty then 0 else 1) < 30)) = true := by rfl)
    (hline : (apos.endLine == p2.line) = true := by rfl) (hs : starEach [e] X.env = (false, eval e X.env) :: starEach [] X.env := by rfl) (hplain : (backTo p2 (starEach [] X.env)).any (·.1) = false := by rfl)
    (hsw : swapsWith (.Call (.Attribute o "append" apos) [e] [] p2) none pos.line X.env = pure false := by rfl) (hG : G.set gi (.wrk true (updW W p (.lst (es ++ [it])))) = G' := by first | (dsimp only [List.set, atS, slots, slotB] <;> rfl) | rfl) :
    DS X H0 S0 (.Expr (.Call (.Attribute o "append" apos) [e] [] p2) pos :: rest) G P' := fun S F q H Dd E kk => by
  subst hG
  refine wSs_of (pss_cons (ps_expr (pe_bm PySem.F.plainAttrs_list PySem.F.slot_list_append PySem.F.type_list_append mt_append pwE (pa_cons pwE pa_nil hs) hbase hfew hline hs hplain) hsw) pwSs) ?_
  refine ho S F q H E _ fun v0 H1 S1 g1 r0 => ?_
  cases r0
  have E1 := E.grow g1
  obtain ⟨vs1, hp1, _⟩ := E1.wlst hW hp
  refine ⟨.inl ⟨rfl, _, .inl (.inl hp1)⟩, he S1 F q H1 E1 _ fun v H2 S2 g2 r2 => ?_⟩
  have E2 := E1.grow g2
  obtain ⟨vs, hp2, rr⟩ := E2.wlst hW hp
  have nt := nt_lst hp2
  refine ⟨p, vs, v, rfl, rfl, hp2, by rw [rr.len, sizeLine_eq]; exact hz, ?_⟩
  obtain ⟨F', E3⟩ := E2.wset hW (p := p) (u := .lst (vs ++ [v])) (c := .lst (es ++ [it])) (by rw [hp]; exact Option.some_ne_none _) nt ⟨_, upd_same, (rr.upd nt).append (.cons (r2.upd nt) .nil)⟩
  exact h S2 F' q _ Dd E3 (kk.at_ ((g1.trans g2).keep.trans (Keep.upd ((E2.wdom hW) p (by rw [hp]; exact Option.some_ne_none _)).2.2.1 nt)))
/-- .. of a new list -/
theorem ds_appendWo (gi : Nat) (hX : XOk P w K mg base k N sc fa X) {o e : Expr} {rest : List Stmt} {W : Wk} {p : Addr} {es ns : List E} {P' : Out → Prop} {apos : Pos} (ho : DX X H0 S0 o G (.ref p)) (hp : W p = some (.lst es)) (he : DOX X H0 S0 e G ns) (hz : es.length < 16777216) (h : ∀ r, W r = none → DS X H0 S0 rest (G.set gi (.wrk true (updW (updW W r (.lst ns)) p (.lst (es ++ [.ref r]))))) P') (hW : G[gi]? = some (.wrk true W) := by rfl)
    (hbase : attributeBase o "append" X.env (eval o X.env) = eval o X.env := by rfl)
    (hfew : ((backTo p2 (starEach [e] X.env)).all (fun x => !x.1) && (backToKw p2 (keywordEach [] X.env)).all (fun x => x.1.isSome)
      && decide ([e].length + ([] : List Keyword).length + (if ([] : List Keyword).isEmpty then 0 else 1) < 30)) = true := by rfl)
    (hline : (apos.endLine == p2.line) = true := by rfl) (hs : starEach [e] X.env = (false, eval e X.env) :: starEach [] X.env := by rfl) (hplain : (backTo p2 (starEach [] X.env)).any (·.1) = false := by rfl)
    (hsw : swapsWith (.Call (.Attribute o "append" apos) [e] [] p2) none pos.line X.env = pure false := by rfl) :
    DS X H0 S0 (.Expr (.Call (.Attribute o "append" apos) [e] [] p2) pos :: rest) G P' := fun S F q H Dd E kk => by
  refine wSs_of (pss_cons (ps_expr (pe_bm PySem.F.plainAttrs_list PySem.F.slot_list_append PySem.F.type_list_append mt_append pwE (pa_cons pwE pa_nil hs) hbase hfew hline hs hplain) hsw) pwSs) ?_
  refine ho S F q H E _ fun v0 H1 S1 g1 r0 => ?_
  cases r0
  have E1 := E.grow g1
  obtain ⟨vs1, hp1, _⟩ := E1.wlst hW hp
  have gl : gi < G.length := (List.getElem?_eq_some_iff.mp hW).1
  refine ⟨.inl ⟨rfl, _, .inl (.inl hp1)⟩, he S1 F q H1 E1 _ fun r ws H2 S2 g2 hn hS hr rr => ?_⟩
  have E2 := E1.grow g2
  have nF : ∀ j, ¬ F j r := fun j z => E1.flv j r z hn
  have Wr : W r = none := by
    cases e : W r with
    | none => rfl
    | some c => exact absurd (((E1.wat hW).1 r).mpr (by rw [e]; exact Option.some_ne_none _)) (nF gi)
  obtain ⟨F3, E3⟩ := E2.wadd hW (p := r) (c := .lst ns) ⟨ws, hr, rr⟩ (by rw [hr]; exact Option.some_ne_none _) (none_ext E1.ext hn) hS nF
  have hW3 : (G.set gi (.wrk true (updW W r (.lst ns))))[gi]? = some (.wrk true (updW W r (.lst ns))) := List.getElem?_set_self gl
  have pr : p ≠ r := fun z => by rw [z, Wr] at hp; cases hp
  have hp3 : updW W r (.lst ns) p = some (.lst es) := by rw [updW_ne pr]; exact hp
  obtain ⟨vs, hp2, rr2⟩ := E3.wlst hW3 hp3
  have nt := nt_lst hp2
  refine ⟨p, vs, .ref r, rfl, rfl, hp2, by rw [rr2.len, sizeLine_eq]; exact hz, ?_⟩
  obtain ⟨F', E4⟩ := E3.wset hW3 (p := p) (u := .lst (vs ++ [.ref r])) (c := .lst (es ++ [.ref r])) (by rw [hp3]; exact Option.some_ne_none _) nt ⟨_, upd_same, (rr2.upd nt).append (.cons (.ref r) .nil)⟩
  rw [List.set_set] at E4
  exact h r Wr S2 F' q _ Dd E4 (kk.at_ ((g1.trans g2).keep.trans (Keep.upd ((E3.wdom hW3) p (by rw [hp3]; exact Option.some_ne_none _)).2.2.1 nt)))
/-- o.clear() -/
theorem ds_clearW (gi : Nat) (hX : XOk P w K mg base k N sc fa X) {o : Expr} {rest : List Stmt} {W : Wk} {p : Addr} {es : List E} {P' : Out → Prop} {G' : List Slot} {apos : Pos} (ho : DX X H0 S0 o G (.ref p)) (hp : W p = some (.lst es)) (h : DS X H0 S0 rest G' P') (hW : G[gi]? = some (.wrk true W) := by rfl)
    (hbase : attributeBase o "clear" X.env (eval o X.env) = eval o X.env := by rfl) (hline : (apos.endLine == p2.line) = true := by rfl) (hsw : swapsWith (.Call (.Attribute o "clear" apos) [] [] p2) none pos.line X.env = pure false := by rfl) (hG : G.set gi (.wrk true (updW W p (.lst []))) = G' := by first | (dsimp only [List.set, atS, slots, slotB] <;> rfl) | rfl) :
    DS X H0 S0 (.Expr (.Call (.Attribute o "clear" apos) [] [] p2) pos :: rest) G P' := fun S F q H Dd E kk => by
  subst hG
  refine wSs_of (pss_cons (ps_expr (pe_bm0 PySem.F.plainAttrs_list PySem.F.slot_list_clear PySem.F.type_list_clear mt_clear pwE hbase hline) hsw) pwSs) ?_
  refine ho S F q H E _ fun v0 H1 S1 g1 r0 => ?_
  cases r0
  have E1 := E.grow g1
  obtain ⟨vs, hp1, rr⟩ := E1.wlst hW hp
  have nt := nt_lst hp1
  obtain ⟨F', E3⟩ := E1.wset hW (p := p) (u := .lst []) (c := .lst []) (by rw [hp]; exact Option.some_ne_none _) nt ⟨_, upd_same, .nil⟩
  exact ⟨.inl ⟨rfl, _, .inl (.inl hp1)⟩, p, vs, rfl, rfl, hp1, h S1 F' q _ Dd E3 (kk.at_ (g1.keep.trans (Keep.upd ((E1.wdom hW) p (by rw [hp]; exact Option.some_ne_none _)).2.2.1 nt)))⟩
/-- o[b] = e -/
theorem ds_setixW (gi : Nat) (hX : XOk P w K mg base k N sc fa X) {o e b : Expr} {rest : List Stmt} {W : Wk} {p : Addr} {es : List E} {it : E} {n : Int} {j : Nat} {P' : Out → Prop} {G' : List Slot} (he : DX X H0 S0 e G it) (ho : DX X H0 S0 o G (.ref p)) (hp : W p = some (.lst es)) (hb : DE X H0 S0 b G (.int n)) (hj : ixN es.length n = some j)
    (h : DS X H0 S0 rest G' P') (hW : G[gi]? = some (.wrk true W) := by rfl)
    (ha : ∀ v, assign (.Subscript o b p2) X.env v = (do
      let ov ← holding [v] (eval o X.env)
      let iv ← holding [v, ov] (eval b X.env)
      standAt p2
      holding [v, ov, iv] (setItem ov iv v)
      release [v, ov, iv] []) := by intro _; rfl)
    (hs : swapsWithSole [.Subscript o b p2] e pos.line X.env = pure false := by rfl) (hw : swappedStores [.Subscript o b p2] e X.env = pure none := by rfl) (h1 : (assignEach [.Subscript o b p2] X.env).map (·.2) = [assign (.Subscript o b p2) X.env] := by rfl) (hG : G.set gi (.wrk true (updW W p (.lst (es.set j it)))) = G' := by first | (dsimp only [List.set, atS, slots, slotB] <;> rfl) | rfl) :
    DS X H0 S0 (.Assign [.Subscript o b p2] e pos :: rest) G P' := fun S F q H Dd E kk => by
  subst hG
  refine wSs_of (pss_cons (ps_asg pwE (pg_sub pwE pwE set_list ha) hs hw h1) pwSs) (he S F q H E _ fun v H1 S1 g1 r1 => ?_)
  have E1 := E.grow g1
  refine ho S1 F q H1 E1 _ fun v0 H2 S2 g2 r0 => ?_
  cases r0
  have E2 := E1.grow g2
  refine hb S2 F q H2 E2 _ fun u H3 S3 g3 r3 => ?_
  cases r3
  have E3 := E2.grow g3
  have g := (g1.trans g2).trans g3
  obtain ⟨vs, hp1, rr⟩ := E3.wlst hW hp
  have nt := nt_lst hp1
  obtain ⟨F', E4⟩ := E3.wset hW (p := p) (u := .lst (vs.set j v)) (c := .lst (es.set j it)) (by rw [hp]; exact Option.some_ne_none _) nt ⟨_, upd_same, RepIs.set (((r1.ext g2.ext).ext g3.ext).upd nt) j (rr.upd nt)⟩
  exact ⟨p, vs, n, j, rfl, rfl, hp1, by rw [rr.len]; exact hj, h S3 F' q _ Dd E4 (kk.at_ (g.keep.trans (Keep.upd ((E3.wdom hW) p (by rw [hp]; exact Option.some_ne_none _)).2.2.1 nt)))⟩
/-- a loop over a list of the workspace, which itself stays -/
theorem ds_forW (gi : Nat) (hX : XOk P w K mg base k N sc fa X) {tg it : Expr} {body rest : List Stmt} {p : Addr} {es : List E} {P' : Out → Prop} (I : Nat → List Slot → Prop) (hit : DX X H0 S0 it G (.ref p)) (hW : ∀ i Gi, I i Gi → ∃ m W, Gi[gi]? = some (.wrk m W) ∧ W p = some (.lst es)) (h0 : I 0 G)
    (hs : ∀ i e Gi, es[i]? = some e → I i Gi → ∃ G2 t, DGX X H0 S0 tg e Gi G2 t ∧ DS X H0 S0 body G2 (loopP (I (i + 1)) (fun G' => DS X H0 S0 rest G' P') P')) (he : ∀ Gn, I es.length Gn → DS X H0 S0 rest Gn P')
    (hf : ∀ x, foldedSetIterable it X.env x = pure x := by intro _; rfl) : DS X H0 S0 (.For tg it body [] pos :: rest) G P' := fun S F q H Dd E kk => by
  refine wSs_of (pss_cons (ps_for hX.po hX.calm (pi_list pwE) pwG pwSs hf) pwSs) (hit S F q H E _ fun v H1 S1 g1 r1 => ?_)
  cases r1
  have E1 := E.grow g1
  obtain ⟨m, W, hw, hp⟩ := hW 0 G h0
  obtain ⟨vs0, hp0, _⟩ := E1.wlst hw hp
  refine ⟨p, rfl, ⟨_, .inl (.inl hp0)⟩, ?_⟩
  refine ⟨fun i m q2 H2 => m = es.length - i ∧ i ≤ es.length ∧ ∃ G2 S2 F2, EnvOk H0 S0 G2 S2 F2 q2 H2 ∧ I i G2 ∧ Keep S1 H1 S2 H2, ⟨es.length, by simp, Nat.zero_le _, G, S1, F, E1, h0, Keep.refl S1 H1⟩, ?_⟩
  rintro i m q2 H2 ⟨rfl, hi, G2, S2, F2, E2, I2, c2⟩
  obtain ⟨m2, W2, hw2, hp2⟩ := hW i G2 I2
  obtain ⟨vs, hv, rr⟩ := E2.wlst hw2 hp2
  by_cases hlt : i < es.length
  · have hd : es[i]? = some es[i] := List.getElem?_eq_getElem hlt
    obtain ⟨v, hvi, rv⟩ := rr.getD hd
    refine .inr ⟨⟨vs, v, .inl (.inl hv), hvi⟩, fun q3 H3 => ∃ G3 S3 F3, EnvOk H0 S0 G3 S3 F3 q3 H3 ∧ I (i + 1) G3 ∧ Keep S1 H1 S3 H3, fun q3 H3 hN => ?_, fun x H3 hy => ?_⟩
    · obtain ⟨G3, S3, F3, E3, I3, c3⟩ := hN
      exact ⟨es.length - (i + 1), by omega, rfl, hlt, G3, S3, F3, E3, I3, c3⟩
    · obtain ⟨rfl, y2⟩ := hy
      have := y2 _ (.inl (.inl hv))
      rw [hvi] at this
      cases this
      obtain ⟨G4, t, hG, hB⟩ := hs i _ G2 hd I2
      refine hG S2 F2 q2 H3 E2 _ rv _ fun F4 q4 E4 _ => hB S2 F4 q4 H3 _ E4 ?_
      exact (kk.at_ (g1.keep.trans c2)).loop (fun G5 S5 F5 q5 H5 m5 c5 E5 => ⟨G5, S5, F5, E5, m5, c2.trans c5⟩) fun G5 S5 F5 q5 H5 m5 c5 E5 => m5 S5 F5 q5 H5 Dd E5 (kk.at_ ((g1.keep.trans c2).trans c5))
  · have e : i = es.length := by omega
    subst e
    exact .inl ⟨⟨vs, .inl (.inl hv), by rw [rr.len]; exact Nat.le_refl _⟩, he G2 I2 S2 F2 q2 H2 Dd E2 (kk.at_ (g1.keep.trans c2))⟩
end
end DL

/-! DLm: data of a workspace handed to defs; what a def tells taken into it. -/
namespace DL
open PySem PySem.Spec PyProof.Rows L2
mutual
inductive Thaw (W : Wk) : E → D → Prop
  | d {d : D} : Flat d → Thaw W (.d d) d
  | lst {a : Addr} {es : List E} {ds : List D} : W a = some (.lst es) → Thaws W es ds → Thaw W (.ref a) (.list ds)
  | tup {es : List E} {ds : List D} : Thaws W es ds → Thaw W (.tup es) (.tuple ds)
inductive Thaws (W : Wk) : List E → List D → Prop
  | nil : Thaws W [] []
  | cons {e : E} {es : List E} {d : D} {ds : List D} : Thaw W e d → Thaws W es ds → Thaws W (e :: es) (d :: ds)
end
theorem Thaws.flats {W : Wk} : ∀ {ds : List D}, Flats ds → Thaws W (ds.map E.d) ds
  | _, .nil => .nil
  | _, .cons h t => .cons (.d h) (Thaws.flats t)
theorem Thaws.len {W : Wk} : ∀ {es : List E} {ds : List D}, Thaws W es ds → es.length = ds.length
  | _, _, .nil => rfl
  | _, _, .cons _ t => congrArg (· + 1) t.len
theorem Thaws.get {W : Wk} : ∀ {es : List E} {ds : List D} {i : Nat} {e : E}, Thaws W es ds → es[i]? = some e → ∃ d, ds[i]? = some d ∧ Thaw W e d
  | _, _, i, v, .nil, e => by simp at e
  | _, _, 0, v, .cons h _, e => by simp at e; subst e; exact ⟨_, rfl, h⟩
  | _, _, i + 1, v, .cons _ t, e => by
    obtain ⟨d, h1, h2⟩ := Thaws.get (i := i) (e := v) t (by simpa using e)
    exact ⟨d, by simpa using h1, h2⟩
theorem Thaw.list {W : Wk} {it : E} {ds : List D} (h : Thaw W it (.list ds)) : ∃ a es, it = .ref a ∧ W a = some (.lst es) ∧ Thaws W es ds := by
  cases h with
  | d f => cases f
  | lst h1 h2 => exact ⟨_, _, rfl, h1, h2⟩
theorem Thaw.int {W : Wk} {it : E} {i : Int} (h : Thaw W it (.int i)) : it = .d (.int i) := by
  cases h with
  | d f => rfl
theorem Thaw.none {W : Wk} {it : E} (h : Thaw W it .none) : it = .d .none := by
  cases h with
  | d f => rfl
theorem Thaw.str {W : Wk} {it : E} {i : Str} (h : Thaw W it (.str i)) : it = .d (.str i) := by
  cases h with
  | d f => rfl
/-- the things of a thawed flat list -/
theorem Thaws.ints {W : Wk} : ∀ {es : List E} {ns : List Int}, Thaws W es (ns.map PyData.int) → es = (ns.map PyData.int).map E.d
  | [], [], .nil => rfl
  | _ :: _, n :: r, .cons h t => by
    rw [h.int, Thaws.ints t]
    rfl
mutual
theorem Thaw.rep {W : Wk} {S : AS} {H : Hp} (ok : ∀ a c, W a = some c → CellOk H a c) : ∀ {it : E} {d : D} {v : V}, Thaw W it d → RepI H v it → Rep (fun a => S a ∨ W a ≠ Option.none) H v d
  | _, _, _, .d f, .d r => r.mono (fun _ z => z.elim) fun _ _ _ z => z
  | _, _, _, .lst h1 h2, r => by
    obtain ⟨vs, e1, e2⟩ := ok _ _ h1
    cases r
    exact .lst (.inr (by rw [h1]; exact Option.some_ne_none _)) e1 (Thaws.reps ok h2 e2)
  | _, _, _, .tup h, .tup r rs => .tup r (Thaws.reps ok h rs)
theorem Thaws.reps {W : Wk} {S : AS} {H : Hp} (ok : ∀ a c, W a = some c → CellOk H a c) : ∀ {its : List E} {ds : List D} {vs : List V}, Thaws W its ds → RepIs H vs its → Reps (fun a => S a ∨ W a ≠ Option.none) H vs ds
  | _, _, _, .nil, .nil => .nil
  | _, _, _, .cons h t, .cons r rs => .cons (Thaw.rep ok h r) (Thaws.reps ok t rs)
end
mutual
theorem Thaw.mono {W W' : Wk} (k : ∀ a c, W a = some c → W' a = some c) : ∀ {e : E} {d : D}, Thaw W e d → Thaw W' e d
  | _, _, .d f => .d f
  | _, _, .lst h1 h2 => .lst (k _ _ h1) (Thaws.mono k h2)
  | _, _, .tup h => .tup (Thaws.mono k h)
theorem Thaws.mono {W W' : Wk} (k : ∀ a c, W a = some c → W' a = some c) : ∀ {e : List E} {d : List D}, Thaws W e d → Thaws W' e d
  | _, _, .nil => .nil
  | _, _, .cons h t => .cons (Thaw.mono k h) (Thaws.mono k t)
end
/-! ### what was frozen, by cells -/
def scal : D → Bool
  | .none => true
  | .bool _ => true
  | .int _ => true
  | .str _ => true
  | _ => false
mutual
inductive Can (S : AS) : E → Prop
  | d {d : D} : scal d = true → Can S (.d d)
  | ref {a : Addr} : S a → Can S (.ref a)
  | tup {es : List E} : Cans S es → Can S (.tup es)
inductive Cans (S : AS) : List E → Prop
  | nil : Cans S []
  | cons {e : E} {es : List E} : Can S e → Cans S es → Cans S (e :: es)
end
mutual
theorem Rep.can {S : AS} {H : Hp} : ∀ {v : V} {d : D}, Rep S H v d → ∃ it, RepI H v it ∧ Can S it
  | _, _, .non => ⟨.d .none, .d .non, .d rfl⟩
  | _, _, .bl b => ⟨.d (.bool b), .d (.bl b), .d rfl⟩
  | _, _, .int i => ⟨.d (.int i), .d (.int i), .d rfl⟩
  | _, _, .str x => ⟨.d (.str x), .d (.str x), .d rfl⟩
  | _, _, .lst h1 h2 h3 => ⟨.ref _, .ref _, .ref h1⟩
  | _, _, .tup h2 h3 => by
    obtain ⟨its, r, c⟩ := Reps.can h3
    exact ⟨.tup its, .tup h2 r, .tup c⟩
theorem Reps.can {S : AS} {H : Hp} : ∀ {vs : List V} {ds : List D}, Reps S H vs ds → ∃ its, RepIs H vs its ∧ Cans S its
  | _, _, .nil => ⟨[], .nil, .nil⟩
  | _, _, .cons h t => by
    obtain ⟨it, r, c⟩ := Rep.can h
    obtain ⟨its, rs, cs⟩ := Reps.can t
    exact ⟨it :: its, .cons r rs, .cons c cs⟩
end
theorem rd_tl {H : Hp} {a : Addr} {xs ys : List V} (h : Rd H a (.tup xs)) (h2 : H a = some (.lst ys)) : False := nt_lst h2 xs h
theorem rd_tup {H : Hp} {a : Addr} {xs ys : List V} (h : Rd H a (.tup xs)) (h2 : Rd H a (.tup ys)) : xs = ys := by
  rcases h with h | ⟨o, h⟩ <;> rcases h2 with h2 | ⟨o2, h2⟩ <;> (rw [h] at h2; cases h2) <;> rfl
/-- cells for what S has -/
def Cells (S : AS) (H : Hp) (W : Wk) : Prop := ∀ a vs, S a → H a = some (.lst vs) → ∃ es, W a = some (.lst es) ∧ RepIs H vs es ∧ Cans S es
mutual
theorem Rep.thaw {S : AS} {H : Hp} {W : Wk} (hW : Cells S H W) : ∀ {v : V} {d : D} {it : E}, Rep S H v d → RepI H v it → Can S it → (∀ a, S a → ∃ vs, H a = some (.lst vs)) → Thaw W it d
  | _, _, _, .non, .d r, _, _ => by cases r; exact .d .non
  | _, _, _, .bl b, .d r, _, _ => by cases r; exact .d (.bl b)
  | _, _, _, .int i, .d r, _, _ => by cases r; exact .d (.int i)
  | _, _, _, .str x, .d r, _, _ => by cases r; exact .d (.str x)
  | _, _, _, .lst h1 h2 h3, r, c, hl => by
    cases r with
    | d r =>
      cases r with
      | lst a => exact a.elim
      | tup a => exact (rd_tl a h2).elim
    | ref =>
      obtain ⟨es, e1, e2, e3⟩ := hW _ _ h1 h2
      exact .lst e1 (Reps.thaw hW h3 e2 e3 hl)
    | tup a b => exact (rd_tl a h2).elim
  | _, _, _, .tup h2 h3, r, c, hl => by
    cases r with
    | d r =>
      cases r with
      | lst a => exact a.elim
      | tup a =>
        cases c with
        | d c => cases c
    | ref =>
      cases c with
      | ref c =>
        obtain ⟨vs, e⟩ := hl _ c
        exact (rd_tl h2 e).elim
    | tup a b =>
      have e := rd_tup h2 a
      subst e
      cases c with
      | tup c => exact .tup (Reps.thaw hW h3 b c hl)
theorem Reps.thaw {S : AS} {H : Hp} {W : Wk} (hW : Cells S H W) : ∀ {vs : List V} {ds : List D} {its : List E}, Reps S H vs ds → RepIs H vs its → Cans S its → (∀ a, S a → ∃ vs, H a = some (.lst vs)) → Thaws W its ds
  | _, _, _, .nil, .nil, _, _ => .nil
  | _, _, _, .cons h t, .cons r rs, .cons c cs, hl => .cons (Rep.thaw hW h r c hl) (Reps.thaw hW t rs cs hl)
end
mutual
theorem Rep.only {S : AS} {H : Hp} : ∀ {v : V} {d : D}, Rep S H v d → Rep (fun a => S a ∧ ∃ vs ds, H a = some (.lst vs) ∧ Reps S H vs ds) H v d
  | _, _, .non => .non
  | _, _, .bl b => .bl b
  | _, _, .int i => .int i
  | _, _, .str x => .str x
  | _, _, .lst h1 h2 h3 => .lst ⟨h1, _, _, h2, h3⟩ h2 (Reps.only h3)
  | _, _, .tup h2 h3 => .tup h2 (Reps.only h3)
theorem Reps.only {S : AS} {H : Hp} : ∀ {v : List V} {d : List D}, Reps S H v d → Reps (fun a => S a ∧ ∃ vs ds, H a = some (.lst vs) ∧ Reps S H vs ds) H v d
  | _, _, .nil => .nil
  | _, _, .cons h t => .cons (Rep.only h) (Reps.only t)
end
open Classical in
/-- from a frozen thing: cells and the thing by addresses -/
theorem thaw_ex {S : AS} {H : Hp} {W : Wk} {v : V} {d : D} (h : Rep S H v d) (hn : ∀ a, S a → W a = none) : ∃ W' it, (∀ a c, W a = some c → W' a = some c) ∧ (∀ a c, W' a = some c → W a = some c ∨ (S a ∧ CellOk H a c)) ∧ RepI H v it ∧ Thaw W' it d := by
  let S' : AS := fun a => S a ∧ ∃ vs ds, H a = some (.lst vs) ∧ Reps S H vs ds
  have h' : Rep S' H v d := h.only
  have ex : ∀ a, S' a → ∃ es vs, H a = some (.lst vs) ∧ RepIs H vs es ∧ Cans S' es := fun a z => by
    obtain ⟨_, vs, ds, e1, e2⟩ := z
    obtain ⟨its, r, c⟩ := Reps.can (Reps.only e2)
    exact ⟨its, vs, e1, r, c⟩
  let W' : Wk := fun a => if z : S' a then some (.lst (choose (ex a z))) else W a
  have at_ : ∀ a (z : S' a), W' a = some (.lst (choose (ex a z))) := fun a z => dif_pos z
  have ne_ : ∀ a, ¬ S' a → W' a = W a := fun a z => dif_neg z
  obtain ⟨it, r, c⟩ := h'.can
  refine ⟨W', it, fun a c e => ?_, fun a c e => ?_, r, h'.thaw (fun a vs z e => ?_) r c fun a z => ?_⟩
  · by_cases z : S' a
    · rw [hn a z.1] at e; cases e
    · rw [ne_ a z]; exact e
  · by_cases z : S' a
    · rw [at_ a z] at e
      cases e
      obtain ⟨vs, e1, e2, e3⟩ := choose_spec (ex a z)
      exact .inr ⟨z.1, vs, e1, e2⟩
    · rw [ne_ a z] at e; exact .inl e
  · obtain ⟨vs', e1, e2, e3⟩ := choose_spec (ex a z)
    rw [e] at e1
    cases e1
    exact ⟨_, at_ a z, e2, e3⟩
  · obtain ⟨_, vs, ds, e1, _⟩ := z
    exact ⟨vs, e1⟩
section
variable {P : Program} {w : World} {K : PySem.W.Frag} {mg : Str → Option Value} {base : Heap} {k : Nat} {N : List Str} {sc : Scope} {fa : Bool} {X : Cx} {H0 : Hp} {S0 : AS} {G G1 G2 : List Slot} {pos p1 p2 p3 p4 : Pos}
/-! ### calls: things of the workspace handed in -/
def DBX (X : Cx) (H0 : Hp) (S0 : AS) (W : Wk) (bs : List Bool) (es : List Expr) (G : List Slot) (ds : List D) : Prop := ∀ S F q H, EnvOk H0 S0 G S F q H → ∀ Q : List V → Hp → Prop, (∀ vs H' S', Grow S H S' H' → RepsB X.K (fun a => S' a ∨ W a ≠ none) H' bs vs ds → Q vs H') → wA X es q H Q
theorem RepB.mono {S S' : AS} {H H' : Hp} (hs : ∀ a, S a → S' a) (k : ∀ a o, H a = some o → H' a = some o) {b : Bool} {v : V} {d : D} (r : RepB K S H b v d) : RepB K S' H' b v d := by
  cases r with
  | v r => exact .v (r.mono hs fun a o _ => k a o)
  | b s r => exact .b (sql_ext k s) (r.mono hs fun a o _ => k a o)
theorem dbx_nil {W : Wk} : DBX X H0 S0 W [] [] G [] := fun S F q H E Q kk => wA_of pa_nil (kk [] H S (Grow.refl S H) .nil)
theorem dbx_cons {W : Wk} {e : Expr} {es : List Expr} {d : D} {ds : List D} {b : Bool} {bs : List Bool} (h1 : ∀ S F q H, EnvOk H0 S0 G S F q H → ∀ Q : VK, (∀ v H' S', Grow S H S' H' → RepB X.K (fun a => S' a ∨ W a ≠ none) H' b v d → Q v H') → wE X e q H Q) (h2 : DBX X H0 S0 W bs es G ds) (hs : starEach (e :: es) X.env = (false, eval e X.env) :: starEach es X.env := by rfl) : DBX X H0 S0 W (b :: bs) (e :: es) G (d :: ds) := fun S F q H E Q kk =>
  wA_of (pa_cons pwE pwA hs) (h1 S F q H E _ fun v H1 S1 g1 r1 => h2 S1 F q H1 (E.grow g1) _ fun vs H2 S2 g2 r2 => kk _ H2 S2 (g1.trans g2) (.cons (r1.mono (fun a z => z.imp (g2.sub a) id) g2.ext) r2))
theorem dbx_v {W : Wk} {e : Expr} {es : List Expr} {d : D} {ds : List D} {bs : List Bool} (h1 : DE X H0 S0 e G d) (h2 : DBX X H0 S0 W bs es G ds) (hs : starEach (e :: es) X.env = (false, eval e X.env) :: starEach es X.env := by rfl) : DBX X H0 S0 W (false :: bs) (e :: es) G (d :: ds) :=
  dbx_cons (fun S F q H E Q kk => h1 S F q H E Q fun v H' S' g r => kk v H' S' g (.v (r.mono (fun _ z => .inl z) fun _ _ _ z => z))) h2 hs
theorem dbx_b {W : Wk} {e : Expr} {es : List Expr} {l ds : List D} {bs : List Bool} (h1 : DLs X H0 S0 e G l) (h2 : DBX X H0 S0 W bs es G ds) (hs : starEach (e :: es) X.env = (false, eval e X.env) :: starEach es X.env := by rfl) : DBX X H0 S0 W (true :: bs) (e :: es) G (.list l :: ds) :=
  dbx_cons (fun S F q H E Q kk => h1 S F q H E Q fun p vs H' S' g hp r => kk _ H' S' g (.b hp (r.mono (fun _ z => .inl z) fun _ _ _ z => z))) h2 hs
/-- a thing by addresses, handed in as data -/
theorem dbx_x (gi : Nat) {W : Wk} {m : Bool} {e : Expr} {es : List Expr} {it : E} {d : D} {ds : List D} {bs : List Bool} (h1 : DX X H0 S0 e G it) (ht : Thaw W it d) (h2 : DBX X H0 S0 W bs es G ds) (hW : G[gi]? = some (.wrk m W) := by rfl) (hs : starEach (e :: es) X.env = (false, eval e X.env) :: starEach es X.env := by rfl) : DBX X H0 S0 W (false :: bs) (e :: es) G (d :: ds) :=
  dbx_cons (fun S F q H E Q kk => h1 S F q H E Q fun v H' S' g r => kk v H' S' g (.v (ht.rep ((E.grow g).wat hW).2 r))) h2 hs
/-- a list by its address, lent -/
theorem dbx_xl (gi : Nat) {W : Wk} {m : Bool} {e : Expr} {es : List Expr} {p : Addr} {l ds : List D} {bs : List Bool} (h1 : DX X H0 S0 e G (.ref p)) (ht : Thaw W (.ref p) (.list l)) (h2 : DBX X H0 S0 W bs es G ds) (hW : G[gi]? = some (.wrk m W) := by rfl) (hs : starEach (e :: es) X.env = (false, eval e X.env) :: starEach es X.env := by rfl) : DBX X H0 S0 W (true :: bs) (e :: es) G (.list l :: ds) :=
  dbx_cons (fun S F q H E Q kk => h1 S F q H E Q fun v H' S' g r => by
    have rr := ht.rep (S := S') ((E.grow g).wat hW).2 r
    cases r
    cases rr with
    | lst a b c => exact kk _ H' S' g (.b (.inl (.inl b)) c)) h2 hs
theorem call_coreX (gi : Nat) {W : Wk} {m : Bool} {j : Nat} {bs : List Bool} {T : Tr} {x : Str} {e : Expr} {es : List Expr} {ds : List D} {P' : RV → Prop} (hX : XOk P w K mg base k N sc fa X) (c : Callee P w K mg base j x bs T) (hj : j ≤ k) (hg : globB sc x = true) (ha : DBX X H0 S0 W bs (e :: es) G ds) (ht : T ds P') (hW : G[gi]? = some (.wrk m W))
    (hdb : (x == ("__debug__" : Str)) = false) (he : starEach (e :: es) X.env = (false, eval e X.env) :: starEach es X.env) (hpl : (backTo pos (starEach es X.env)).any (·.1) = false) :
    ∀ S F q H, EnvOk H0 S0 G S F q H → ∀ Q : VK, (∀ H1 S1, Grow S H S1 H1 → ∀ v S' H', (∀ a o, H1 a = some o → H' a = some o) → (∀ a, S' a → (S1 a ∨ W a ≠ none) ∨ H1 a = none) → (∀ a, S' a → H' a ≠ none) →
      ((∃ d, P' (.val d) ∧ Rep S' H' v d) ∨ (∃ ds p vs, P' (.own ds) ∧ v = .ref p ∧ H1 p = none ∧ ¬ S' p ∧ H' p = some (.lst vs) ∧ Reps S' H' vs ds)) → Q v H') → wE X (.Call (.Name x p1) (e :: es) [] pos) q H Q := by
  obtain ⟨f, fd, ps, FO, hm, hk, hb⟩ := c.ex
  cases hX.eP
  cases hX.ew
  cases hX.eK
  cases hX.emg
  cases hX.eb
  intro S F q H E Q kk
  refine wE_of (pe_call FO (hX.room.mono hj) (hX.gl hg) hm hk hb .nil pass0 pwA hdb he hpl) (ha S F q H E _ fun vs H1 S1 g1 r1 => ?_)
  rw [List.append_nil]
  have E1 := E.grow g1
  refine ⟨fun a => S1 a ∨ W a ≠ none, ds, P', fun a z => z.elim (E1.slv a) fun z => E1.flv gi a (((E1.wat hW).1 a).mpr z), r1, ht, fun d v S' H' hp ex nw lv r => ?_, fun d p vs S' H' hp ex nw lv hn hs hq r => ?_⟩
  · exact kk H1 S1 g1 v S' H' ex nw lv (.inl ⟨d, hp, r⟩)
  · exact kk H1 S1 g1 _ S' H' ex nw lv (.inr ⟨d, p, vs, hp, rfl, hn, hs, hq, r⟩)
/-- .. which tells something flat -/
theorem de_callX (gi : Nat) {W : Wk} {m : Bool} {j : Nat} {bs : List Bool} {T : Tr} {x : Str} {e : Expr} {es : List Expr} {ds : List D} {d : D} (hX : XOk P w K mg base k N sc fa X) (c : Callee P w K mg base j x bs T) (ha : DBX X H0 S0 W bs (e :: es) G ds) (ht : T ds (fun r => r = .val d)) (hf : Flat d) (hj : j ≤ k := by decide) (hg : globB sc x = true := by decide +kernel) (hW : G[gi]? = some (.wrk m W) := by rfl)
    (hdb : (x == ("__debug__" : Str)) = false := by decide) (he : starEach (e :: es) X.env = (false, eval e X.env) :: starEach es X.env := by rfl) (hpl : (backTo pos (starEach es X.env)).any (·.1) = false := by rfl) :
    DE X H0 S0 (.Call (.Name x p1) (e :: es) [] pos) G d := fun S F q H E Q kk =>
  call_coreX gi hX c hj hg ha ht hW hdb he hpl S F q H E Q fun H1 S1 g1 v S' H' ex nw lv h => by
    rcases h with ⟨d', h1, h2⟩ | ⟨ds', p, vs, h1, _⟩
    · cases h1
      exact kk v H' S1 ⟨fun a o z => ex a o (g1.ext a o z), g1.sub, g1.new, fun a z => (g1.lv a z).imp id fun z => ne_none_ext ex z⟩ (h2.flat hf)
    · cases h1
/-! ### what a call tells, taken into the workspace -/
theorem rv_thaw {S' : AS} {H H' : Hp} {W : Wk} {v : V} {P' : RV → Prop} (hW : ∀ a, W a ≠ none → H a ≠ none) (hS : ∀ a, S' a → H a = none)
    (h : (∃ d, P' (.val d) ∧ Rep S' H' v d) ∨ (∃ ds p vs, P' (.own ds) ∧ v = .ref p ∧ H p = none ∧ ¬ S' p ∧ H' p = some (.lst vs) ∧ Reps S' H' vs ds)) :
    ∃ r W' it, P' r ∧ (∀ a c, W a = some c → W' a = some c) ∧ (∀ a c, W' a = some c → W a = some c ∨ (H a = none ∧ CellOk H' a c)) ∧ RepI H' v it ∧ Thaw W' it r.dat := by
  rcases h with ⟨d, h1, h2⟩ | ⟨ds, p, vs, h1, rfl, h2, h3, h4, h5⟩
  · obtain ⟨W', it, a1, a2, a3, a4⟩ := thaw_ex (W := W) h2 fun a z => by
      cases e : W a with
      | none => rfl
      | some c => exact absurd (hS a z) (hW a (by rw [e]; exact Option.some_ne_none _))
    exact ⟨.val d, W', it, h1, a1, fun a c e => (a2 a c e).imp id fun z => ⟨hS a z.1, z.2⟩, a3, a4⟩
  · have r : Rep (fun a => S' a ∨ a = p) H' (.ref p) (.list ds) := .lst (.inr rfl) h4 (h5.mono (fun _ z => .inl z) fun _ _ _ z => z)
    have hS' : ∀ a, (S' a ∨ a = p) → H a = none := fun a z => z.elim (hS a) fun z => by rw [z]; exact h2
    obtain ⟨W', it, a1, a2, a3, a4⟩ := thaw_ex (W := W) r fun a z => by
      cases e : W a with
      | none => rfl
      | some c => exact absurd (hS' a z) (hW a (by rw [e]; exact Option.some_ne_none _))
    exact ⟨.own ds, W', it, h1, a1, fun a c e => (a2 a c e).imp id fun z => ⟨hS' a z.1, z.2⟩, a3, a4⟩
/-- x = f(..), nothing but flat things handed in: what is told is new, and by cells -/
theorem ds_setCallN (i gi : Nat) {W : Wk} {j : Nat} {bs : List Bool} {T : Tr} {x f : Str} {e : Expr} {es : List Expr} {ds : List D} {P'' : RV → Prop} {rest : List Stmt} {P' : Out → Prop} (hX : XOk P w K mg base k N sc true X) (c : Callee P w K mg base j f bs T) (ha : DB X H0 S0 bs (e :: es) G ds) (hf : FlatB bs ds) (ht : T ds P'')
    (h : ∀ r W' it, P'' r → (∀ a c, W a = some c → W' a = some c) → Thaw W' it r.dat → DS X H0 S0 rest ((G.set i (.itm it)).set gi (.wrk true W')) P') (hW : G[gi]? = some (.wrk true W) := by rfl) (hN : N[i]? = some x := by rfl) (hv : locB sc x = true := by decide +kernel) (hi : i < G.length := by exact Nat.le_of_ble_eq_true rfl) (hne : i ≠ gi := by decide) (hj : j ≤ k := by decide) (hg : globB sc f = true := by decide +kernel)
    (hdb : (f == ("__debug__" : Str)) = false := by decide) (he : starEach (e :: es) X.env = (false, eval e X.env) :: starEach es X.env := by rfl) (hpl : (backTo p2 (starEach es X.env)).any (·.1) = false := by rfl)
    (hs : swapsWith (.Call (.Name f p1) (e :: es) [] p2) (some (.Name x p3)) pos.line X.env = pure false := by rfl) : DS X H0 S0 (.Assign [.Name x p3] (.Call (.Name f p1) (e :: es) [] p2) pos :: rest) G P' := fun S F q H Dd E kk => by
  refine wSs_of (pss_cons (ps_set (i := i) (by rw [hX.eN]; exact hX.nd) (by rw [hX.eN]; exact hN) (by rw [hX.es]; exact loc_of hv) pwE hs (by
    rcases loc_of hv with z | z
    · exact .inr (by rw [hX.es]; exact z)
    · exact .inl (hX.fn rfl x))) pwSs) (call_new hX c hj hg ha hf ht hdb he hpl S F q H E _ fun H1 S1 g1 v S' H' ex nw hr => ?_)
  have gr : Grow S H S1 H' := ⟨fun a o z => ex a o (g1.ext a o z), g1.sub, g1.new, fun a z => (g1.lv a z).imp id fun z => ne_none_ext ex z⟩
  have E1 := E.grow g1
  have E2 := E.grow gr
  have dom1 := E1.wdom hW
  obtain ⟨r, W', it, a1, a2, a3, a4, a5⟩ := rv_thaw (W := W) (fun a z => (dom1 a z).1) (fun a z => (nw a z).1) hr
  have E3 := E2.puti (i := i) hi a4
  have hW3 : (G.set i (.itm it))[gi]? = some (.wrk true W) := by rw [List.getElem?_set_ne hne]; exact hW
  have E4 := E3.wput (gi := gi) (W := W) (W' := W') (by rw [List.length_set]; exact (List.getElem?_eq_some_iff.mp hW).1) (E3.wdom hW3) (fun a c z => (a3 a c z).elim (fun z => (E3.wat hW3).2 a c z) fun z => z.2) (fun a z => by
    cases e : W' a with
    | none => exact absurd e z
    | some c =>
      rcases a3 a c e with y | ⟨y1, y2⟩
      · exact .inl (by rw [y]; exact Option.some_ne_none _)
      · refine .inr ⟨?_, none_ext E1.ext y1, fun u => E1.slv a u y1, fun j _ u => ?_⟩
        · exact y2.lv
        · by_cases w0 : j = i
          · simp only [if_pos w0] at u
          · simp only [if_neg w0] at u; exact E1.flv j a u y1)
  exact h r W' it a1 a2 a5 S1 _ _ H' Dd E4 (kk.at_ gr.keep)
end
end DL

/-! DLn: len(set(xs)); comprehensions over lists that may change later. -/
namespace DL
open PySem PySem.Spec PyProof.Rows L2
section
variable {P : Program} {w : World} {K : PySem.W.Frag} {mg : Str → Option Value} {base : Heap} {k : Nat} {N : List Str} {sc : Scope} {fa : Bool} {X : Cx} {H0 : Hp} {S0 : AS} {G G1 G2 : List Slot} {pos p1 p2 p3 p4 : Pos}
theorem de_lenSet {a : Expr} {ns : List Int} (hX : XOk P w K mg base k N sc fa X) (hm : mg "len" = none) (hm2 : mg "set" = none) (ha : DLs X H0 S0 a G (ns.map PyData.int)) (hd : ns.Nodup) (hl : ns.length ≤ 4000) (hg : globB sc "len" = true := by decide +kernel) (hg2 : globB sc "set" = true := by decide +kernel) (na : starEach [a] X.env = (false, eval a X.env) :: starEach [] X.env := by rfl) :
    DE X H0 S0 (.Call (.Name "len" p1) [.Call (.Name "set" p2) [a] [] p3] [] pos) G (.int (ns.length : Int)) := fun S F q H E Q kk =>
  wE_of (RZ.pe_lenSetI (hX.gl hg) (by rw [hX.emg]; exact hm) (hX.gl hg2) (by rw [hX.emg]; exact hm2) pwE hX.calm na) (ha S F q H E _ fun p vs H1 S1 g1 h1 r1 => ⟨p, ns, rfl, by rw [← r1.ints]; exact h1, hd, hl, kk _ H1 S1 g1 (.int _)⟩)
/-- the things that a comprehension walks -/
def DIg (X : Cx) (H0 : Hp) (S0 : AS) (tg it : Expr) (G : List Slot) (ds : List D) : Prop := ∃ wi, PI X tg it wi ∧ ∀ S F q H, EnvOk H0 S0 G S F q H → ∀ R : It → Hp → Prop,
  (∀ (J : It) H' S', Grow S H S' H' → (∀ (i : Nat) (S2 : AS) (H2 : Hp) (d : D), Grow S' H' S2 H2 → ds[i]? = some d → J.go i H2 ∧ ∀ x H3, J.yld i H2 x H3 → ∃ S3, Grow S2 H2 S3 H3 ∧ Rep S3 H3 x d) →
    (∀ (i : Nat) (S2 : AS) (H2 : Hp), Grow S' H' S2 H2 → ds.length ≤ i → J.stop i H2) → R J H') → wi q H R
theorem DIg.cast {tg e : Expr} {x y : List D} (h : DIg X H0 S0 tg e G x) (q : x = y) : DIg X H0 S0 tg e G y := q ▸ h
theorem dig_i {tg it : Expr} {ds : List D} (h : DI X H0 S0 tg it G ds) : DIg X H0 S0 tg it G ds := by
  obtain ⟨wi, hp, hw⟩ := h
  refine ⟨wi, hp, fun S F q H E R kk => hw S F q H E R fun J H' S' g h1 h2 => kk J H' S' g (fun i S2 H2 d g2 e => h1 i S2 H2 d g2.keep ?_ e) fun i S2 H2 g2 e => h2 i S2 H2 g2.keep ?_ e⟩
  · exact ((E.grow g).grow g2).ext
  · exact ((E.grow g).grow g2).ext
theorem dig_list {tg e : Expr} {ds : List D} (he : DLs X H0 S0 e G ds) : DIg X H0 S0 tg e G ds := by
  refine ⟨_, pi_list pwE, fun S F q H E R kk => he S F q H E _ fun p vs H1 S1 g1 h2 h3 => ?_⟩
  refine ⟨p, rfl, ⟨_, h2⟩, kk _ H1 S1 g1 (fun i S2 H2 d g2 hd => ?_) fun i S2 H2 g2 hl => ?_⟩
  · obtain ⟨v, hv, rv⟩ := (h3.keep g2.keep).getD hd
    have h2' := sql_ext g2.ext h2
    exact ⟨⟨_, v, h2', hv⟩, fun x H3 y => ⟨S2, by rw [y.1]; exact Grow.refl S2 H2, by
      have := y.2 _ h2'
      rw [hv] at this
      cases this
      rw [y.1]; exact rv⟩⟩
  · exact ⟨_, sql_ext g2.ext h2, by rw [h3.len]; exact hl⟩
theorem dig_zip (hX : XOk P w K mg base k N sc fa X) (hr : mg "zip" = none) {ts : List Expr} {c : Nat} {e e2 : Expr} {xs ys : List D} (he : DLs X H0 S0 e G xs) (he2 : DLs X H0 S0 e2 G ys) (hg : globB sc "zip" = true := by decide +kernel)
    (hs : starEach [e, e2] X.env = (false, eval e X.env) :: starEach [e2] X.env := by rfl) (hpl : (backTo pos (starEach [e2] X.env)).any (·.1) = false := by rfl) (hs2 : starEach [e2] X.env = (false, eval e2 X.env) :: starEach [] X.env := by rfl) :
    DIg X H0 S0 (.Tuple ts c p2) (.Call (.Name "zip" p1) [e, e2] [] pos) G (zipD xs ys) := by
  refine ⟨_, pi_zip (hX.gl hg) (by rw [hX.emg]; exact hr) (pa_cons pwE (pa_cons pwE pa_nil hs2) hs) hs hpl, fun S F q H E R kk => he S F q H E _ fun p vs H1 S1 g1 h2 h3 => he2 S1 F q H1 (E.grow g1) _ fun p' vs' H2 S2 g2 k2 k3 => ?_⟩
  refine ⟨p, p', vs, vs', rfl, sql_ext g2.ext h2, k2, kk _ H2 S2 (g1.trans g2) (fun i S3 H3 d g3 hd => ?_) fun i S3 H3 g3 hl => ?_⟩
  · unfold zipD at hd
    rw [List.getElem?_map] at hd
    cases ez : (xs.zip ys)[i]? with
    | none => rw [ez] at hd; cases hd
    | some pr =>
      rw [ez] at hd
      obtain ⟨x0, y0⟩ := pr
      have hd' := (Option.some.inj hd).symm
      subst hd'
      obtain ⟨ex, ey⟩ : xs[i]? = some x0 ∧ ys[i]? = some y0 := List.getElem?_zip_eq_some.mp ez
      obtain ⟨v, hv, rv⟩ := (h3.keep (g2.trans g3).keep).getD ex
      obtain ⟨v', hv', rv'⟩ := (k3.keep g3.keep).getD ey
      have q1 := sql_ext (g2.trans g3).ext h2
      have q2 := sql_ext g3.ext k2
      refine ⟨⟨vs, vs', v, v', q1, q2, hv, hv'⟩, fun x H4 y => ?_⟩
      obtain ⟨T, x1, y1, rfl, nT, rfl, fx, fy⟩ := y
      have a1 := fx _ q1
      rw [hv] at a1
      cases a1
      have a2 := fy _ q2
      rw [hv'] at a2
      cases a2
      have gt := grow_tup (ds := [x0, y0]) nT (.cons rv (.cons rv' .nil))
      exact ⟨_, gt.1, gt.2⟩
  · unfold zipD at hl
    rw [List.length_map, List.length_zip] at hl
    refine ⟨vs, vs', sql_ext (g2.trans g3).ext h2, sql_ext g3.ext k2, ?_⟩
    rw [h3.len, k3.len]
    omega
theorem comp_coreG (hX : XOk P w K mg base k N sc fa X) {elt tg : Expr} {ifs : List Expr} {scope : Scope} {vs : List Nat} {T : Type} {enc : T → D} {xs : List T} {p : T → Bool} {g : T → D} {wi : TI} (hsz : xs.length ≤ 16777216) (hvs : ∀ v ∈ vs, v < G.length)
    (hwi : ∀ S F q H, EnvOk H0 S0 G S F q H → ∀ R : It → Hp → Prop,
      (∀ (J : It) H' S', Grow S H S' H' → (∀ (i : Nat) (S2 : AS) (H2 : Hp) (d : D), Grow S' H' S2 H2 → (xs.map enc)[i]? = some d → J.go i H2 ∧ ∀ x H3, J.yld i H2 x H3 → ∃ S3, Grow S2 H2 S3 H3 ∧ Rep S3 H3 x d) →
        (∀ (i : Nat) (S2 : AS) (H2 : Hp), Grow S' H' S2 H2 → (xs.map enc).length ≤ i → J.stop i H2) → R J H') → wi q H R)
    (hC : Comp P w K mg base k N sc H0 S0 G elt tg ifs scope vs enc xs p g) : ∀ S F q H, EnvOk H0 S0 G S F q H → ∀ Q : VK, (∀ p' ws H' S', Grow S H S' H' → H p' = none → ¬ S' p' → H' p' = some (.lst ws) → Reps S' H' ws ((xs.filter p).map g) → Q (.ref p') H') →
      tLc wi (gB X scope tg) (tB' X scope ifs) (eB X scope elt) vs q H Q := by
  intro S F q H E Q kk
  refine hwi S F q H E _ fun J H1 S1 g1 hgo hstop Dn hD => ?_
  have E1 := E.grow g1
  obtain ⟨Fw, Ew, sw⟩ := E1.wiped vs hvs
  have n0 : H0 Dn = none := none_ext E1.ext hD
  have nF : ∀ j, ¬ Fw j Dn := fun j z => E1.flv j Dn (sw j Dn z) hD
  have nS : ¬ S1 Dn := fun z => E1.slv Dn z hD
  let St : Nat → Hp → Prop := fun i H' => ∃ S' acc, EnvOk H0 S0 (wipeG G vs) S' Fw (wipe q vs) H' ∧ Grow S1 H1 S' H' ∧ ¬ S' Dn ∧ H' Dn = some (.lst acc) ∧ Reps S' H' acc (((xs.take i).filter p).map g)
  refine ⟨fun i m H' => m = xs.length - i ∧ i ≤ xs.length ∧ St i H', ⟨xs.length, by simp, Nat.zero_le _, S1, [], Ew.other n0 nS nF (nt_none hD), Grow.alloc0 hD, nS, upd_same, .nil⟩, ?_⟩
  rintro i m Hi ⟨rfl, hi, Si, acc, Ei, gi, nSi, hDi, ri⟩
  have sz : acc.length ≤ i := by
    rw [ri.len, List.length_map]
    exact Nat.le_trans (List.length_filter_le _ _) (by rw [List.length_take]; exact Nat.min_le_left _ _)
  by_cases hlt : i < xs.length
  · have hx : xs[i]? = some xs[i] := List.getElem?_eq_getElem hlt
    have hd : (xs.map enc)[i]? = some (enc xs[i]) := by rw [List.getElem?_map, hx]; rfl
    obtain ⟨go1, go2⟩ := hgo i Si Hi _ gi hd
    refine .inr ⟨go1, St (i + 1), fun H' h => ⟨xs.length - (i + 1), by omega, rfl, hlt, h⟩, fun x' H3 hy => ?_⟩
    obtain ⟨S3, g3, r3⟩ := go2 x' H3 hy
    obtain ⟨G2, t, hG, ht, hT, hE⟩ := hC.turn xs[i] (List.getElem_mem hlt)
    have etk : xs.take (i + 1) = xs.take i ++ [xs[i]] := by rw [List.take_succ, hx]; rfl
    intro s Hh cl C fp
    refine hG _ (hX.blk s Hh scope cl C fp) S3 Fw _ H3 (Ei.grow g3) x' r3 _ fun F' q' E' a' => ⟨?_, ?_⟩
    · rw [wipe_eq (q := wipe q vs) a'.1 fun j hj => a'.2 j fun z => hj (ht j z), wipe_wipe]
    · intro s Hh cl C fp
      refine hT _ (hX.blk s Hh scope cl C fp) S3 F' q' H3 E' _ fun H4 S4 g4 => ?_
      have last : ∀ {S5 : AS} {H5 : Hp} {v : V}, Grow S4 H4 S5 H5 → p xs[i] = true → Rep S5 H5 v (g xs[i]) → St (i + 1) (upd H5 Dn (.lst (acc ++ [v]))) := fun {S5 H5 v} g5 hp rv => by
        have gg := (g3.trans g4).trans g5
        have n5 : ¬ S5 Dn := fun z => (gg.new Dn z).elim nSi fun z => by rw [hDi] at z; cases z
        have g6 := gi.trans gg
        refine ⟨S5, _, (Ei.grow gg).other n0 n5 nF (nt_lst (gg.ext _ _ hDi)), ⟨fun a o h => ?_, g6.sub, g6.new, fun a z => ?_⟩, n5, upd_same, ?_⟩
        · rw [upd_ne (ne_of_none h hD)]; exact g6.ext a o h
        · refine (g6.lv a z).imp id fun y => ?_
          by_cases za : a = Dn
          · rw [za, upd_same]; exact Option.some_ne_none _
          · rw [upd_ne za]; exact y
        · rw [etk, List.filter_append, List.map_append, List.filter_cons, if_pos hp]
          exact ((ri.keep gg.keep).append (.cons rv .nil)).keep (Keep.upd n5 (nt_lst (gg.ext _ _ hDi)))
      cases hp : p xs[i] with
      | true =>
        refine iteT fun s Hh cl C fp => hE hp _ (hX.blk s Hh scope cl C fp) S4 F' q' H4 (E'.grow g4) _ fun y H5 S5 g5 r5 => ⟨acc, ?_, ?_, last g5 hp r5⟩
        · exact g5.ext _ _ (g4.ext _ _ (g3.ext _ _ hDi))
        · rw [sizeLine_eq]; omega
      | false =>
        refine iteF ?_
        have gg := g3.trans g4
        have n5 : ¬ S4 Dn := fun z => (gg.new Dn z).elim nSi fun z => by rw [hDi] at z; cases z
        refine ⟨S4, acc, Ei.grow gg, gi.trans gg, n5, gg.ext _ _ hDi, ?_⟩
        rw [etk, List.filter_append, List.map_append, List.filter_cons, if_neg (by rw [hp]; decide)]
        show Reps S4 H4 acc (_ ++ [])
        rw [List.append_nil]
        exact ri.keep gg.keep
  · have e : i = xs.length := by omega
    subst e
    rw [List.take_length] at ri
    exact .inl ⟨hstop _ Si Hi gi (by rw [List.length_map]; exact Nat.le_refl _), kk Dn acc Hi Si (g1.trans gi) (none_ext g1.ext hD) nSi hDi ri⟩
theorem do_compG (hX : XOk P w K mg base k N sc fa X) {elt tg it : Expr} {ifs : List Expr} {scope : Scope} (own : List (Str × Nat)) {T : Type} {enc : T → D} {xs : List T} {p : T → Bool} {g : T → D} (hit : DIg X H0 S0 tg it G (xs.map enc)) (hsz : xs.length ≤ 16777216) (hvs : ((own.map (·.2)).all fun v => Nat.blt v G.length) = true := by rfl)
    (hb : blkC N sc scope own = true := by decide +kernel) (hC : Comp P w K mg base k N sc H0 S0 G elt tg ifs scope (own.map (·.2)) enc xs p g) (hs : ∀ x, foldedSetIterable it X.env x = pure x := by intro _; rfl) :
    DO X H0 S0 (.ListComp elt [⟨tg, it, ifs, 0⟩] scope pos) G ((xs.filter p).map g) := fun S F q H E Q kk => by
  obtain ⟨wi, hpi, hwi⟩ := hit
  refine wE_of (pe_lc (own := own) hX.calm (by rw [hX.eN]; exact hX.nd) hpi (by rw [hX.eN, hX.es]; exact blkOk_by hb) (g := gB X scope tg) (tt := tB' X scope ifs) (te := eB X scope elt) ?_ ?_ ?_ hs) (comp_coreG hX hsz (blt_all hvs) hwi hC S F q H E Q kk)
  · exact fun s Hh C cl fp => ⟨fun pins s2 q2 H2 v u Q2 I r h => h s Hh cl C fp pins s2 u I r⟩
  · exact fun s Hh C cl fp => ⟨fun pins s2 q2 H2 Q2 I h => h s Hh cl C fp pins s2 I⟩
  · exact fun s Hh C cl fp => ⟨fun pins s2 q2 H2 Q2 I h => h s Hh cl C fp pins s2 I⟩
theorem ds_setCG (i : Nat) {y : Str} {rest : List Stmt} {P' : Out → Prop} {G' : List Slot} (hX : XOk P w K mg base k N sc true X) {elt tg it : Expr} {ifs : List Expr} {scope : Scope} (own : List (Str × Nat)) {T : Type} {enc : T → D} {xs : List T} {p : T → Bool} {g : T → D}
    (hit : DIg X H0 S0 tg it G (xs.map enc)) (hsz : xs.length ≤ 16777216) (hC : Comp P w K mg base k N sc H0 S0 G elt tg ifs scope (own.map (·.2)) enc xs p g) (h : DS X H0 S0 rest G' P')
    (hN : N[i]? = some y := by rfl) (hv : ownB sc y = true := by decide +kernel) (hi : i < G.length := by exact Nat.le_of_ble_eq_true rfl) (hvs : ((own.map (·.2)).all fun v => Nat.blt v G.length) = true := by rfl)
    (hb : blkC N sc scope own = true := by decide +kernel) (hsk : sc.kind = .function := by rfl) (hl : (p1.line == p2.line) = true := by rfl) (ha : (scope.names.any fun (n, k) => n == y && (k == .local || k == .cell)) = false := by decide +kernel)
    (hs : ∀ x, foldedSetIterable it X.env x = pure x := by intro _; rfl) (hG : G.set i (.own ((xs.filter p).map g)) = G' := by first | (dsimp only [List.set, atS, slots, slotB] <;> rfl) | rfl) :
    DS X H0 S0 (.Assign [.Name y p1] (.ListComp elt [⟨tg, it, ifs, 0⟩] scope p2) pos :: rest) G P' := fun S F q H Dd E kk => by
  subst hG
  obtain ⟨wi, hpi, hwi⟩ := hit
  refine wSs_of (pss_cons (ps_setLc (i := i) (own := own) hX.calm (by rw [hX.eN]; exact hX.nd) (by rw [hX.eN]; exact hN) (by rw [hX.es]; exact own_of hv) (sw_true (by rw [hX.es]; exact hsk) (by rw [hX.es]; exact own_of hv) hl ha) hpi (by rw [hX.eN, hX.es]; exact blkOk_by hb) (g := gB X scope tg) (tt := tB' X scope ifs) (te := eB X scope elt) ?_ ?_ ?_ hs) pwSs)
    (comp_coreG hX hsz (blt_all hvs) hwi hC S F q H E (fun v H2 => wSs X rest Dd (q.set i (some v)) H2) fun p' ws H1 S1 g1 hn hS hp r1 => h S1 _ _ H1 Dd ((E.grow g1).puto hi hp r1 (none_ext E.ext hn) hS fun j z => E.flv j p' z hn) (kk.at_ g1.keep))
  · exact fun s Hh C cl fp => ⟨fun pins s2 q2 H2 v u Q2 I r h => h s Hh cl C fp pins s2 u I r⟩
  · exact fun s Hh C cl fp => ⟨fun pins s2 q2 H2 Q2 I h => h s Hh cl C fp pins s2 I⟩
  · exact fun s Hh C cl fp => ⟨fun pins s2 q2 H2 Q2 I h => h s Hh cl C fp pins s2 I⟩
theorem do_mapG (hX : XOk P w K mg base k N sc fa X) {elt tg it : Expr} {scope : Scope} (own : List (Str × Nat)) {T T2 : Type} {enc : T → D} {xs : List T} (enc2 : T2 → D) (g : T → T2) (hit : DIg X H0 S0 tg it G (xs.map enc)) (hsz : xs.length ≤ 16777216)
    (turn : ∀ x ∈ xs, ∃ G2 t, (∀ X', XOk P w K mg base k N (relS scope sc) false X' → DG X' H0 S0 tg (enc x) (wipeG G (own.map (·.2))) G2 t) ∧ (∀ j ∈ t, j ∈ own.map (·.2)) ∧ (∀ X', XOk P w K mg base k N (relS scope sc) false X' → DE X' H0 S0 elt G2 (enc2 (g x))))
    (hvs : ((own.map (·.2)).all fun v => Nat.blt v G.length) = true := by rfl) (hb : blkC N sc scope own = true := by decide +kernel) (hs : ∀ x, foldedSetIterable it X.env x = pure x := by intro _; rfl) :
    DO X H0 S0 (.ListComp elt [⟨tg, it, [], 0⟩] scope pos) G ((xs.map g).map enc2) :=
  (do_compG hX own (p := fun _ => true) (g := fun x => enc2 (g x)) hit hsz hvs hb ⟨fun x hx => by
    obtain ⟨G2, t, h1, h2, h3⟩ := turn x hx
    exact ⟨G2, t, h1, h2, fun X' hX' => dts_nil, fun _ X' hX' => h3 X' hX'⟩⟩ hs).cast (by rw [List.filter_eq_self.mpr (fun _ _ => rfl), List.map_map]; rfl)
theorem do_filtG (hX : XOk P w K mg base k N sc fa X) {elt tg it c : Expr} {scope : Scope} (own : List (Str × Nat)) {T T2 : Type} {enc : T → D} {xs : List T} (enc2 : T2 → D) (p : T → Bool) (g : T → T2) (hit : DIg X H0 S0 tg it G (xs.map enc)) (hsz : xs.length ≤ 16777216)
    (turn : ∀ x ∈ xs, ∃ G2 t, (∀ X', XOk P w K mg base k N (relS scope sc) false X' → DG X' H0 S0 tg (enc x) (wipeG G (own.map (·.2))) G2 t) ∧ (∀ j ∈ t, j ∈ own.map (·.2)) ∧ (∀ X', XOk P w K mg base k N (relS scope sc) false X' → DT X' H0 S0 c G2 (p x)) ∧
      (p x = true → ∀ X', XOk P w K mg base k N (relS scope sc) false X' → DE X' H0 S0 elt G2 (enc2 (g x))))
    (hvs : ((own.map (·.2)).all fun v => Nat.blt v G.length) = true := by rfl) (hb : blkC N sc scope own = true := by decide +kernel) (hs : ∀ x, foldedSetIterable it X.env x = pure x := by intro _; rfl) :
    DO X H0 S0 (.ListComp elt [⟨tg, it, [c], 0⟩] scope pos) G (((xs.filter p).map g).map enc2) :=
  (do_compG hX own (p := p) (g := fun x => enc2 (g x)) hit hsz hvs hb ⟨fun x hx => by
    obtain ⟨G2, t, h1, h2, h3, h4⟩ := turn x hx
    exact ⟨G2, t, h1, h2, fun X' hX' => dts_one (h3 X' hX'), h4⟩⟩ hs).cast (by rw [List.map_map]; rfl)
theorem ds_setMG (i : Nat) {y : Str} {rest : List Stmt} {P' : Out → Prop} {G' : List Slot} (hX : XOk P w K mg base k N sc true X) {elt tg it : Expr} {scope : Scope} (own : List (Str × Nat)) {T T2 : Type} {enc : T → D} {xs : List T} (enc2 : T2 → D) (g : T → T2)
    (hit : DIg X H0 S0 tg it G (xs.map enc)) (hsz : xs.length ≤ 16777216)
    (turn : ∀ x ∈ xs, ∃ G2 t, (∀ X', XOk P w K mg base k N (relS scope sc) false X' → DG X' H0 S0 tg (enc x) (wipeG G (own.map (·.2))) G2 t) ∧ (∀ j ∈ t, j ∈ own.map (·.2)) ∧ (∀ X', XOk P w K mg base k N (relS scope sc) false X' → DE X' H0 S0 elt G2 (enc2 (g x))))
    (h : DS X H0 S0 rest G' P') (hN : N[i]? = some y := by rfl) (hv : ownB sc y = true := by decide +kernel) (hi : i < G.length := by exact Nat.le_of_ble_eq_true rfl)
    (hvs : ((own.map (·.2)).all fun v => Nat.blt v G.length) = true := by rfl) (hb : blkC N sc scope own = true := by decide +kernel) (hsk : sc.kind = .function := by rfl) (hl : (p1.line == p2.line) = true := by rfl) (ha : (scope.names.any fun (n, k) => n == y && (k == .local || k == .cell)) = false := by decide +kernel) (hs : ∀ x, foldedSetIterable it X.env x = pure x := by intro _; rfl)
    (hG : G.set i (.own ((xs.map g).map enc2)) = G' := by first | (dsimp only [List.set, atS, slots, slotB] <;> rfl) | rfl) :
    DS X H0 S0 (.Assign [.Name y p1] (.ListComp elt [⟨tg, it, [], 0⟩] scope p2) pos :: rest) G P' := by
  subst hG
  have e : (xs.map g).map enc2 = (xs.filter fun _ => true).map fun x => enc2 (g x) := by rw [List.filter_eq_self.mpr (fun _ _ => rfl), List.map_map]; rfl
  rw [e] at h
  exact ds_setCG i hX own (p := fun _ => true) (g := fun x => enc2 (g x)) hit hsz ⟨fun x hx => by
    obtain ⟨G2, t, h1, h2, h3⟩ := turn x hx
    exact ⟨G2, t, h1, h2, fun X' hX' => dts_nil, fun _ X' hX' => h3 X' hX'⟩⟩ h hN hv hi hvs hb hsk hl ha hs rfl
end
end DL

/-! DLo: cells let go. -/
namespace DL
open PySem PySem.Spec PyProof.Rows L2
section
variable {P : Program} {w : World} {K : PySem.W.Frag} {mg : Str → Option Value} {base : Heap} {k : Nat} {N : List Str} {sc : Scope} {fa : Bool} {X : Cx} {H0 : Hp} {S0 : AS} {G G1 G2 : List Slot} {pos p1 p2 p3 p4 : Pos}
/-- a cell is let go -/
theorem EnvOk.wdel {S : AS} {F : Nat → AS} {q : L2.St} {H : Hp} (e : EnvOk H0 S0 G S F q H) {gi : Nat} {W : Wk} (hi : G[gi]? = some (.wrk true W)) (p : Addr) : ∃ F', EnvOk H0 S0 (G.set gi (.wrk true (delW W p))) S F' q H ∧ (∀ j a, F' j a → F j a) ∧ ∀ j, ¬ F' j p ∨ W p = none := by
  have il : gi < G.length := (List.getElem?_eq_some_iff.mp hi).1
  have dom := e.wdom hi
  refine ⟨_, e.wput (W := W) (W' := delW W p) il dom (fun a c h => by
    by_cases z : a = p
    · subst z; rw [delW_same] at h; cases h
    · rw [delW_ne z] at h; exact (e.wat hi).2 a c h) (fun a h => by
    by_cases z : a = p
    · subst z; exact absurd delW_same h
    · rw [delW_ne z] at h; exact .inl h), fun j a h => ?_, fun j => ?_⟩
  · by_cases z : j = gi
    · simp only [if_pos z] at h
      subst z
      by_cases y : a = p
      · subst y; exact absurd delW_same h
      · rw [delW_ne y] at h; exact ((e.wat hi).1 a).mpr h
    · simp only [if_neg z] at h; exact h
  · by_cases z : j = gi
    · left
      simp only [if_pos z]
      exact fun h => h delW_same
    · by_cases y : W p = none
      · exact .inr y
      · left
        simp only [if_neg z]
        exact (dom p y).2.2.2 j z
/-- o.append(e), behind which the list is let go -/
theorem ds_appendDrop (gi : Nat) (hX : XOk P w K mg base k N sc fa X) {o e : Expr} {rest : List Stmt} {W : Wk} {p : Addr} {es : List E} {d : D} {P' : Out → Prop} {G' : List Slot} {apos : Pos} (ho : DX X H0 S0 o G (.ref p)) (hp : W p = some (.lst es)) (he : DE X H0 S0 e G d) (hz : es.length < 16777216) (h : DS X H0 S0 rest G' P') (hW : G[gi]? = some (.wrk true W) := by rfl)
    (hbase : attributeBase o "append" X.env (eval o X.env) = eval o X.env := by rfl)
    (hfew : ((backTo p2 (starEach [e] X.env)).all (fun x => !x.1) && (backToKw p2 (keywordEach [] X.env)).all (fun x => x.1.isSome)
      && decide ([e].length + ([] : List Keyword).length + (if ([] : List Keyword).isEmpty then 0 else 1) < 30)) = true := by rfl)
    (hline : (apos.endLine == p2.line) = true := by rfl) (hs : starEach [e] X.env = (false, eval e X.env) :: starEach [] X.env := by rfl) (hplain : (backTo p2 (starEach [] X.env)).any (·.1) = false := by rfl)
    (hsw : swapsWith (.Call (.Attribute o "append" apos) [e] [] p2) none pos.line X.env = pure false := by rfl) (hG : G.set gi (.wrk true (delW W p)) = G' := by first | (dsimp only [List.set, atS, slots, slotB] <;> rfl) | rfl) :
    DS X H0 S0 (.Expr (.Call (.Attribute o "append" apos) [e] [] p2) pos :: rest) G P' := fun S F q H Dd Ev kk => by
  subst hG
  refine wSs_of (pss_cons (ps_expr (pe_bm PySem.F.plainAttrs_list PySem.F.slot_list_append PySem.F.type_list_append mt_append pwE (pa_cons pwE pa_nil hs) hbase hfew hline hs hplain) hsw) pwSs) ?_
  refine ho S F q H Ev _ fun v0 H1 S1 g1 r0 => ?_
  cases r0
  have E1 := Ev.grow g1
  obtain ⟨vs1, hp1, _⟩ := E1.wlst hW hp
  refine ⟨.inl ⟨rfl, _, .inl (.inl hp1)⟩, he S1 F q H1 E1 _ fun v H2 S2 g2 r2 => ?_⟩
  have E2 := E1.grow g2
  obtain ⟨vs, hp2, rr⟩ := E2.wlst hW hp
  have nt := nt_lst hp2
  have Wp : W p ≠ none := by rw [hp]; exact Option.some_ne_none _
  obtain ⟨_, h0, hS, hF⟩ := E2.wdom hW p Wp
  refine ⟨p, vs, v, rfl, rfl, hp2, by rw [rr.len, sizeLine_eq]; exact hz, ?_⟩
  obtain ⟨F', E3, _, nF⟩ := E2.wdel hW p
  have E4 := E3.other (p := p) (u := .lst (vs ++ [v])) h0 hS (fun j => (nF j).elim id fun z => absurd z Wp) nt
  exact h S2 F' q _ Dd E4 (kk.at_ ((g1.trans g2).keep.trans (Keep.upd hS nt)))
theorem Reps.last {S : AS} {H : Hp} : ∀ {vs : List V} {ds : List D} {d : D}, Reps S H vs (ds ++ [d]) → ∃ us u, vs = us ++ [u] ∧ Reps S H us ds ∧ Rep S H u d
  | _, [], _, .cons h .nil => ⟨[], _, rfl, .nil, h⟩
  | _, _ :: _, _, .cons h t => by
    obtain ⟨us, u, e, a, b⟩ := Reps.last t
    exact ⟨_ :: us, u, by rw [e]; rfl, .cons h a, b⟩
/-- x += xs.pop()[1] -/
theorem ds_augPop (i k2 : Nat) {x y : Str} {rest : List Stmt} {a D1 m1 : Int} {ds : List D} {j : Nat} {P' : Out → Prop} {G' : List Slot} {apos cpos : Pos} (hX : XOk P w K mg base k N sc true X) (hi : G[i]? = some (.val (.int a)) := by rfl) (hj : G[k2]? = some (.own (ds ++ [.tuple [.int D1, .int m1]]))) (h : DS X H0 S0 rest G' P') (hN : N[i]? = some x := by rfl) (hv : locB sc x = true := by decide +kernel) (hN2 : N[k2]? = some y := by rfl) (hv2 : visB sc y = true := by decide +kernel)
    (hd : (y == ("__debug__" : Str)) = false := by decide) (hcd : (y == ("__classdict__" : Str)) = false := by decide) (hne : k2 ≠ i := by decide)
    (hbase : attributeBase (.Name y p2) "pop" X.env (eval (.Name y p2) X.env) = eval (.Name y p2) X.env := by rfl) (hline : (apos.endLine == cpos.line) = true := by rfl)
    (hG : (G.set k2 (.own ds)).set i (.val (.int (a + m1))) = G' := by first | (dsimp only [List.set, atS, slots, slotB] <;> rfl) | rfl) :
    DS X H0 S0 (.AugAssign (.Name x p1) .Add (.Subscript (.Call (.Attribute (.Name y p2) "pop" apos) [] [] cpos) (.Constant (.int 1) j p3) p4) pos :: rest) G P' := fun S F q H Dd E kk => by
  subst hG
  obtain ⟨o, h1, _, v, rfl, r⟩ := E.sl i _ hi
  cases r
  obtain ⟨p, vs, e1, hF, hp, r, hS⟩ := own_at E hj
  obtain ⟨us, u, rfl, ru, rt⟩ := Reps.last r
  refine wSs_of (pss_cons (ps_aug (i := i) (by rw [hX.eN]; exact hX.nd) (by rw [hX.eN]; exact hN) (by rw [hX.es]; exact loc_of hv) (pe_ix ix_tup (pe_bm0 PySem.F.plainAttrs_list PySem.F.slot_list_pop PySem.F.type_list_pop mt_pop (pe_var (X := X) (i := k2) (by rw [hX.eN]; exact hN2) (by rw [hX.es]; exact vis_of hv2) hd hcd) hbase hline) pe_int (fun _ _ => rfl)) (ip_aug .Add) (.inl (hX.fn rfl x))) pwSs) ⟨_, h1, ?_⟩
  have hl : (us ++ [u])[(us ++ [u]).length - 1]? = some u := by
    rw [List.length_append]
    show (us ++ [u])[us.length + 1 - 1]? = some u
    rw [Nat.add_sub_cancel, List.getElem?_append_right (Nat.le_refl _), Nat.sub_self]
    rfl
  refine ⟨_, e1, .inl ⟨rfl, _, .inl (.inl hp)⟩, p, us ++ [u], u, rfl, rfl, hp, hl, ?_⟩
  have nt := nt_lst hp
  rw [List.dropLast_concat]
  obtain ⟨t, rfl, t1⟩ : ∃ t, u = .ref t ∧ Rd H t (.tup [.int D1, .int m1]) := by
    cases rt with
    | tup t1 t2 =>
      have ev := t2.ints (ns := [D1, m1])
      subst ev
      exact ⟨_, rfl, t1⟩
  · have t1' : Rd (upd H p (.lst us)) t (.tup [.int D1, .int m1]) := rd_keep (fun o z => by
      rw [upd_ne (fun w => by subst w; exact nt _ t1)]; exact z) t1
    refine ⟨t, [.int D1, .int m1], 1, .int m1, rfl, rfl, .inl t1', rfl, a, m1, a + m1, rfl, rfl, .add, ?_⟩
    have E1 := E.store hj e1 (vs' := us) (ds' := ds) ru
    have E2 := E1.putv (i := i) (d := .int (a + m1)) (v := .int (a + m1)) (by rw [List.length_set]; exact (List.getElem?_eq_some_iff.mp hi).1) (.int _)
    exact h S _ _ _ Dd E2 (kk.at_ (Keep.upd hS nt))
/-- a tuple, walked -/
theorem di_tup {tg e : Expr} {ds : List D} (he : DE X H0 S0 e G (.tuple ds)) : DI X H0 S0 tg e G ds := by
  refine ⟨_, pi_tup pwE, fun S F q H E R kk => he S F q H E _ fun v H1 S1 g1 r1 => ?_⟩
  cases r1 with
  | tup h2 h3 =>
    have st : ∀ (S2 : AS) (H2 : Hp), Keep S1 H1 S2 H2 → Rd H2 _ (.tup _) := fun S2 H2 c => rd_keep (fun o z => c.obj _ o (.inr ⟨_, h2⟩) z) h2
    refine ⟨_, rfl, ⟨_, .inl h2⟩, kk _ H1 S1 g1 (fun i S2 H2 d c _ hd => ?_) fun i S2 H2 c _ hl => ?_⟩
    · obtain ⟨v, hv, rv⟩ := (h3.keep c).getD hd
      exact ⟨⟨_, v, .inl (st S2 H2 c), hv⟩, fun x H3 y => ⟨S2, by rw [y.1]; exact Grow.refl S2 H2, by
        have := y.2 _ (.inl (st S2 H2 c))
        rw [hv] at this
        cases this
        rw [y.1]; exact rv⟩⟩
    · exact ⟨_, .inl (st S2 H2 c), by rw [h3.len]; exact hl⟩
/-- a comprehension stored in a name that blocks within share -/
def celB (sc : Scope) (x : Str) : Bool := match sc.names.lookup x with
  | some .cell => true
  | _ => false
theorem sw_cell (hX : XOk P w K mg base k N sc fa X) {elt : Expr} {gs : List Comprehension} {scope : Scope} {py : Pos} {y : Str} {l : Nat} (hc : celB sc y = true := by decide +kernel) : swapsWith (.ListComp elt gs scope pos) (some (.Name y py)) l X.env = pure false := by
  have hy : X.env.kindOf y = some .cell := by
    show X.env.scope.names.lookup y = some .cell
    rw [hX.es]
    unfold celB at hc
    split at hc <;> first | assumption | cases hc
  unfold swapsWith
  simp only [hy]
  have e : ((some NameKind.cell == some NameKind.local) : Bool) = false := rfl
  rw [e, Bool.and_false, Bool.false_and, Bool.false_and]
/-- an expression of which something is known -/
def DEp (X : Cx) (H0 : Hp) (S0 : AS) (e : Expr) (G : List Slot) (Pd : D → Prop) : Prop := ∀ S F q H, EnvOk H0 S0 G S F q H → ∀ Q : VK, (∀ d v H' S', Pd d → Grow S H S' H' → Rep S' H' v d → Q v H') → wE X e q H Q
theorem dep_e {e : Expr} {d : D} {Pd : D → Prop} (h : DE X H0 S0 e G d) (hd : Pd d) : DEp X H0 S0 e G Pd := fun S F q H E Q kk => h S F q H E Q fun v H' S' g r => kk d v H' S' hd g r
theorem dep_call {j : Nat} {bs : List Bool} {T : Tr} {x : Str} {e : Expr} {es : List Expr} {ds : List D} {Pd : D → Prop} (hX : XOk P w K mg base k N sc fa X) (c : Callee P w K mg base j x bs T) (ha : DB X H0 S0 bs (e :: es) G ds) (ht : T ds (fun r => Pd r.dat)) (hj : j ≤ k := by decide) (hg : globB sc x = true := by decide +kernel)
    (hdb : (x == ("__debug__" : Str)) = false := by decide) (he : starEach (e :: es) X.env = (false, eval e X.env) :: starEach es X.env := by rfl) (hpl : (backTo pos (starEach es X.env)).any (·.1) = false := by rfl) :
    DEp X H0 S0 (.Call (.Name x p1) (e :: es) [] pos) G Pd := fun S F q H E Q kk =>
  call_core hX c hj hg ha ht hdb he hpl S F q H E Q (fun d' v S' H' hp g r => kk d' v H' S' hp g r) fun l p vs S' H' hp g hn hs hq r =>
    kk (.list l) _ H' (fun a => S' a ∨ a = p) hp ⟨g.ext, fun a z => .inl (g.sub a z), fun a z => z.elim (g.new a) fun z => .inr (by rw [z]; exact hn), fun a z => z.elim (g.lv a) fun z => .inr (by rw [z, hq]; exact Option.some_ne_none _)⟩
      (.lst (.inr rfl) hq (r.mono (fun _ z => .inl z) fun _ _ _ z => z))
theorem dt_cmpP {op : CmpOp} {a b : Expr} {y : D} {z : Bool} {Pd : D → Prop} (ha : DEp X H0 S0 a G Pd) (hb : DE X H0 S0 b G y) (c : ∀ x, Pd x → CmpD op x y z) (hm : behindInMarks op b = false := by exact nomark _) : DT X H0 S0 (.Compare a [op] [b] pos) G z := fun S F q H E Q kk =>
  wT_of (pt_cmpR (op_cmp op) pwE pwE hm) (ha S F q H E _ fun d v H1 S1 hd g1 r1 => hb S1 F q H1 (E.grow g1) _ fun u H2 S2 g2 r2 =>
    ⟨z, ⟨d, y, S2, r1.mono g2.sub fun a o _ e => g2.ext a o e, r2, c d hd⟩, z, rfl, kk H2 S2 (g1.trans g2)⟩)
end
end DL

/-! DLp: defs that read and change a workspace handed in. -/
namespace DL
open PySem PySem.Spec PyProof.Rows L2
/-- what is handed in: a value, a list that is lent (none of the workspace's), a thing -/
inductive Arg where
  | d (d : D)
  | l (ds : List D)
  | x (e : E)
def Arg.slot (K : PySem.W.Frag) : Arg → Slot
  | .d u => .val u
  | .l us => .bor K us
  | .x u => .itm u
abbrev TrM := List Arg → Wk → (E → Wk → Prop) → Prop
inductive RepM (K : PySem.W.Frag) (S : AS) (H : Hp) (W : Wk) : V → Arg → Prop
  | d {v : V} {d : D} : Rep S H v d → RepM K S H W v (.d d)
  | l {p : Addr} {vs : List V} {ds : List D} : (Rd H p (.lst vs) ∧ W p = none) ∨ KL K p vs → Reps S H vs ds → RepM K S H W (.ref p) (.l ds)
  | x {v : V} {e : E} : RepI H v e → RepM K S H W v (.x e)
inductive RepsM (K : PySem.W.Frag) (S : AS) (H : Hp) (W : Wk) : List V → List Arg → Prop
  | nil : RepsM K S H W [] []
  | cons {v : V} {vs : List V} {a : Arg} {as : List Arg} : RepM K S H W v a → RepsM K S H W vs as → RepsM K S H W (v :: vs) (a :: as)
theorem RepM.grow {K : PySem.W.Frag} {S S' : AS} {H H' : Hp} {W : Wk} (g : Grow S H S' H') {v : V} {a : Arg} (r : RepM K S H W v a) : RepM K S' H' W v a := by
  cases r with
  | d r => exact .d (r.keep g.keep)
  | l h r => exact .l (h.imp (fun z => ⟨rd_keep (fun o y => g.ext _ o y) z.1, z.2⟩) id) (r.keep g.keep)
  | x r => exact .x (r.ext g.ext)
theorem RepsM.grow {K : PySem.W.Frag} {S S' : AS} {H H' : Hp} {W : Wk} (g : Grow S H S' H') : ∀ {vs : List V} {as : List Arg}, RepsM K S H W vs as → RepsM K S' H' W vs as
  | _, _, .nil => .nil
  | _, _, .cons r t => .cons (r.grow g) (t.grow g)
theorem RepsM.len {K : PySem.W.Frag} {S : AS} {H : Hp} {W : Wk} : ∀ {vs : List V} {as : List Arg}, RepsM K S H W vs as → vs.length = as.length
  | _, _, .nil => rfl
  | _, _, .cons _ t => congrArg (· + 1) t.len
theorem RepsM.at {K : PySem.W.Frag} {S : AS} {H : Hp} {W : Wk} : ∀ {vs : List V} {as : List Arg}, RepsM K S H W vs as → ∀ (i : Nat) (a : Arg), as[i]? = some a → ∃ v, vs[i]? = some v ∧ RepM K S H W v a
  | _, _, .nil, i, s, h => by simp at h
  | _, _, .cons r t, 0, s, h => by
    simp at h
    exact ⟨_, rfl, h ▸ r⟩
  | _, _, .cons r t, i + 1, s, h => by
    obtain ⟨v, h1, h2⟩ := t.at i s (by simpa using h)
    exact ⟨v, by simpa using h1, h2⟩
/-- the heap without the workspace -/
def offW (W : Wk) (H : Hp) : Hp := fun a => match W a with
  | none => H a
  | some _ => none
theorem offW_some {W : Wk} {H : Hp} {a : Addr} {o : HO} (h : offW W H a = some o) : W a = none ∧ H a = some o := by
  unfold offW at h
  split at h
  · rename_i e; exact ⟨e, h⟩
  · cases h
theorem offW_none {W : Wk} {H : Hp} {a : Addr} (h : offW W H a = none) : W a ≠ none ∨ H a = none := by
  unfold offW at h
  split at h
  · exact .inr h
  · rename_i c e; exact .inl (by rw [e]; exact Option.some_ne_none _)
theorem offW_eq {W : Wk} {H : Hp} {a : Addr} (h : W a = none) : offW W H a = H a := by
  unfold offW; rw [h]
theorem offW_in {W : Wk} {H : Hp} {a : Addr} (h : W a ≠ none) : offW W H a = none := by
  unfold offW
  cases e : W a with
  | none => exact absurd e h
  | some c => rfl
def startM (K : PySem.W.Frag) (N : List Str) (gi : Nat) (W : Wk) (as : List Arg) : List Slot := (atS N (as.map (Arg.slot K))).set gi (.wrk true W)
theorem start_okM {K : PySem.W.Frag} {N : List Str} {S : AS} {H : Hp} {W : Wk} {vs : List V} {as : List Arg} {gi : Nat} (r : RepsM K S H W vs as) (hg : as.length ≤ gi) (hN : gi < N.length) (lv : ∀ a, S a → H a ≠ none ∧ W a = none) (ok : ∀ a c, W a = some c → CellOk H a c) :
    ∃ F, EnvOk (offW W H) S (startM K N gi W as) S F (L2.start N vs) H := by
  have hlen := r.len
  have hat : atS N (as.map (Arg.slot K)) = as.map (Arg.slot K) ++ List.replicate (N.length - as.length) .junk := by
    rw [atS_eq N _ (by rw [List.length_map]; omega), List.length_map]
  have glen : (startM K N gi W as).length = N.length := by
    unfold startM
    rw [List.length_set, hat, List.length_append, List.length_map, List.length_replicate]
    omega
  have gself : (startM K N gi W as)[gi]? = some (.wrk true W) := List.getElem?_set_self (by rw [hat, List.length_append, List.length_map, List.length_replicate]; omega)
  have gat : ∀ i s, i ≠ gi → (startM K N gi W as)[i]? = some s → (∃ a v, vs[i]? = some v ∧ RepM K S H W v a ∧ s = a.slot K) ∨ s = .junk := fun i s hne h => by
    unfold startM at h
    rw [List.getElem?_set_ne (Ne.symm hne), hat] at h
    by_cases hi : i < as.length
    · rw [List.getElem?_append_left (by rw [List.length_map]; exact hi), List.getElem?_map] at h
      rw [List.getElem?_eq_getElem hi] at h
      obtain ⟨v, h1, h2⟩ := r.at i as[i] (List.getElem?_eq_getElem hi)
      exact .inl ⟨_, v, h1, h2, (Option.some.inj h).symm⟩
    · rw [List.getElem?_append_right (by rw [List.length_map]; omega), List.getElem?_replicate] at h
      split at h
      · cases h; exact .inr rfl
      · cases h
  have qlen : (L2.start N vs).length = N.length := by
    unfold L2.start
    rw [List.length_append, List.length_map, List.length_replicate]
    omega
  have qat : ∀ i, i < N.length → ∃ o, (L2.start N vs)[i]? = some o := fun i hi => ⟨_, List.getElem?_eq_getElem (by omega)⟩
  have qv : ∀ i v, vs[i]? = some v → (L2.start N vs)[i]? = some (some v) := fun i v h => by
    have hi : i < vs.length := (List.getElem?_eq_some_iff.mp h).1
    unfold L2.start
    rw [List.getElem?_append_left (by rw [List.length_map]; exact hi), List.getElem?_map, h]
    rfl
  let F : Nat → AS := fun i a => (i = gi ∧ W a ≠ none) ∨ (i ≠ gi ∧ W a = none ∧ H a ≠ none ∧ ∃ K' l, (startM K N gi W as)[i]? = some (.bor K' l) ∧ vs[i]? = some (.ref a))
  have nof : ∀ i s, i ≠ gi → (startM K N gi W as)[i]? = some s → (∀ K' l, s ≠ .bor K' l) → ∀ a, ¬ F i a := by
    rintro i s hne h hs a (⟨z, _⟩ | ⟨_, _, _, K', l, q1, _⟩)
    · exact hne z
    · rw [h] at q1; exact hs K' l (Option.some.inj q1)
  refine ⟨F, ⟨by rw [glen, qlen], fun a o h => (offW_some h).2, fun a h => .inl h, fun a h => (lv a h).1, ?_, ?_, ?_, ?_, ?_⟩⟩
  · rintro i a (⟨_, h⟩ | ⟨_, _, h, _⟩)
    · cases e : W a with
      | none => exact absurd e h
      | some c => exact (ok a c e).lv
    · exact h
  · intro i s h
    have hi : i < N.length := by rw [← glen]; exact (List.getElem?_eq_some_iff.mp h).1
    by_cases hne : i = gi
    · subst hne
      rw [gself] at h
      cases h
      obtain ⟨o, ho⟩ := qat i hi
      exact ⟨o, ho, fun a => ⟨fun z => z.elim (fun z => z.2) fun z => absurd rfl z.1, fun z => .inl ⟨rfl, z⟩⟩, ok⟩
    · rcases gat i s hne h with ⟨ar, v, h3, h4, h5⟩ | h3
      · refine ⟨some v, qv i v h3, ?_⟩
        subst h5
        cases h4 with
        | d r => exact ⟨nof i _ hne h (fun _ _ z => by cases z), v, rfl, r⟩
        | x r => exact ⟨nof i _ hne h (fun _ _ z => by cases z), v, rfl, r⟩
        | @l p ws l' hp r =>
          refine ⟨p, ws, rfl, ?_, hp.imp (fun z => ⟨.inr ⟨hne, z.2, rd_ex z.1, _, _, h, h3⟩, z.1⟩) id, r⟩
          rintro a (⟨z, _⟩ | ⟨_, _, _, K', l, q1, q2⟩)
          · exact absurd z hne
          · rw [h3] at q2; cases q2; rfl
      · obtain ⟨o, ho⟩ := qat i hi
        subst h3
        exact ⟨o, ho, nof i _ hne h (fun _ _ z => by cases z)⟩
  · intro i s h hm a ha
    by_cases hne : i = gi
    · subst hne
      have hw : W a ≠ none := ha.elim (fun z => z.2) fun z => absurd rfl z.1
      refine ⟨offW_in hw, fun z => hw (lv a z).2, fun j hj z => z.elim (fun z => hj z.1) fun z => hw z.2.1⟩
    · rcases gat i s hne h with ⟨ar, v, h3, h4, h5⟩ | h3
      · subst h5
        cases ar <;> cases hm
      · subst h3; cases hm
  · rintro i hi a (⟨z, _⟩ | ⟨_, _, _, K', l, q1, _⟩)
    · rw [z, glen] at hi; omega
    · rw [List.getElem?_eq_none hi] at q1; cases q1
  · rintro i K' l h a (⟨z, _⟩ | ⟨_, hw, hl, _⟩)
    · rw [z, gself] at h; cases h
    · rw [offW_eq hw]; exact hl
/-! ### the promise -/
def spM (K : PySem.W.Frag) (T : TrM) : Sp := fun vs H Q _ => ∃ (S : AS) (W : Wk) (as : List Arg) (P' : E → Wk → Prop), (∀ a, S a → H a ≠ none ∧ W a = none) ∧ (∀ a c, W a = some c → CellOk H a c) ∧ RepsM K S H W vs as ∧ T as W P' ∧
  (∀ it W' v H', P' it W' → (∀ a o, W a = none → H a = some o → H' a = some o) → (∀ a c, W' a = some c → CellOk H' a c) → (∀ a, W' a ≠ none → W a ≠ none ∨ H a = none) → RepI H' v it → Q v H')
def bodyM (gi : Nat) (P' : E → Wk → Prop) : Out → Prop
  | .eff G it => ∃ W', G[gi]? = some (.wrk true W') ∧ P' it W'
  | .nxt G => ∃ W', G[gi]? = some (.wrk true W') ∧ P' (.d .none) W'
  | _ => False
structure CalleeM (P : Program) (w : World) (K : PySem.W.Frag) (mg : Str → Option Value) (base : Heap) (k : Nat) (x : Str) (T : TrM) : Prop where
  ex : ∃ f fd ps, FnOk P w K mg base CX0 k f fd ps (spM K T) ∧ mg x = some (.ref f) ∧ PySem.W.keepIn K (.ref f) = true ∧ Binds K fd ps []
section
variable {P : Program} {w : World} {K : PySem.W.Frag} {mg : Str → Option Value} {base : Heap} {k : Nat} {N : List Str} {sc : Scope} {fa : Bool} {X : Cx} {H0 : Hp} {S0 : AS} {G G1 G2 : List Slot} {pos p1 p2 p3 p4 : Pos}
theorem fnok_ofM (gi : Nat) {x qual : Str} {st : Stmt} {f : Addr} {fd : FuncData} {N ps : List Str} {T : TrM} (F : Fun K x qual st f fd) (Sc : FnScope N ps (defScope st)) (hg : ps.length ≤ gi) (hN : gi < N.length)
    (hT : ∀ as W P', T as W P' → as.length = ps.length)
    (body : ∀ (X : Cx) (H0 : Hp) (S0 : AS) (as : List Arg) (W : Wk) (P' : E → Wk → Prop), XOk P w K mg base k N (defScope st) true X → T as W P' → DS X H0 S0 (defBody st) (startM K N gi W as) (bodyM gi P')) : FnOk P w K mg base CX0 (k + 1) f fd ps (spM K T) := by
  refine F.ok Sc (fun vs H Q E h => ?_) (fun cdv A outer s H vs Q E hr h => ?_)
  · obtain ⟨S, W, as, P', _, _, r, ht, _⟩ := h
    rw [r.len]
    exact hT as W P' ht
  · obtain ⟨S, W, as, P', lv, ok, r, ht, k1⟩ := h
    have hX : XOk P w K mg base k N (defScope st) true ((cxOf CX0 P w K mg base N qual (defScope st) f cdv A outer s H E).nox) := ⟨rfl, rfl, rfl, rfl, rfl, rfl, rfl, Sc.nd, rfl, hr, fun _ _ => rfl, PassesOwn.never⟩
    obtain ⟨F0, E0⟩ := start_okM (N := N) (gi := gi) r (by rw [hT as W P' ht]; exact hg) hN lv ok
    have fin : ∀ it W' v G S' F q H', P' it W' → G[gi]? = some (.wrk true W') → EnvOk (offW W H) S G S' F q H' → RepI H' v it → Q v H' := fun it W' v G S' F q H' hp hW E' r =>
      k1 it W' v H' hp (fun a o z e => E'.ext a o (by rw [offW_eq z]; exact e)) (E'.wat hW).2 (fun a z => offW_none (E'.wdom hW a z).2.1) r
    refine ⟨_, pwSs, body _ (offW W H) S as W P' hX ht S F0 _ H _ E0 ⟨fun G S' F q H' h c E' => ?_, fun G S' F q H' h c E' => h.elim, fun G S' F q H' h c E' => h.elim, fun d v S' H' h => h.elim, fun ds p vs S' H' h => h.elim, fun G F q e v S' H' h E' r => ?_⟩⟩
    · obtain ⟨W', hW, hp⟩ := h
      exact fin _ W' _ G S' F q H' hp hW E' (.d .non)
    · obtain ⟨W', hW, hp⟩ := h
      exact fin _ W' _ G S' F q H' hp hW E' r
theorem calleeM_of (gi : Nat) {x qual : Str} {st : Stmt} {f : Addr} {fd : FuncData} {N ps : List Str} {T : TrM} (F : Fun K x qual st f fd) (Sc : FnScope N ps (defScope st)) (hm : mg x = some (.ref f)) (hb : Binds K fd ps []) (hT : ∀ as W P', T as W P' → as.length = ps.length)
    (body : ∀ (X : Cx) (H0 : Hp) (S0 : AS) (as : List Arg) (W : Wk) (P' : E → Wk → Prop), XOk P w K mg base k N (defScope st) true X → T as W P' → DS X H0 S0 (defBody st) (startM K N gi W as) (bodyM gi P')) (hg : ps.length ≤ gi := by decide) (hN : gi < N.length := by decide) : CalleeM P w K mg base (k + 1) x T :=
  ⟨f, fd, ps, fnok_ofM gi F Sc hg hN hT body, hm, F.kp, hb⟩
/-! ### handing in -/
def DAM (X : Cx) (H0 : Hp) (S0 : AS) (W : Wk) (es : List Expr) (G : List Slot) (as : List Arg) : Prop := ∀ S F q H, EnvOk H0 S0 G S F q H → ∀ Q : List V → Hp → Prop, (∀ vs H' S', Grow S H S' H' → RepsM X.K S' H' W vs as → Q vs H') → wA X es q H Q
theorem dam_nil {W : Wk} : DAM X H0 S0 W [] G [] := fun S F q H E Q kk => wA_of pa_nil (kk [] H S (Grow.refl S H) .nil)
theorem dam_cons {W : Wk} {e : Expr} {es : List Expr} {a : Arg} {as : List Arg} (h1 : ∀ S F q H, EnvOk H0 S0 G S F q H → ∀ Q : VK, (∀ v H' S', Grow S H S' H' → RepM X.K S' H' W v a → Q v H') → wE X e q H Q) (h2 : DAM X H0 S0 W es G as) (hs : starEach (e :: es) X.env = (false, eval e X.env) :: starEach es X.env := by rfl) : DAM X H0 S0 W (e :: es) G (a :: as) := fun S F q H E Q kk =>
  wA_of (pa_cons pwE pwA hs) (h1 S F q H E _ fun v H1 S1 g1 r1 => h2 S1 F q H1 (E.grow g1) _ fun vs H2 S2 g2 r2 => kk _ H2 S2 (g1.trans g2) (.cons (r1.grow g2) r2))
theorem dam_d {W : Wk} {e : Expr} {es : List Expr} {d : D} {as : List Arg} (h1 : DE X H0 S0 e G d) (h2 : DAM X H0 S0 W es G as) (hs : starEach (e :: es) X.env = (false, eval e X.env) :: starEach es X.env := by rfl) : DAM X H0 S0 W (e :: es) G (.d d :: as) :=
  dam_cons (fun S F q H E Q kk => h1 S F q H E Q fun v H' S' g r => kk v H' S' g (.d r)) h2 hs
theorem dam_x {W : Wk} {e : Expr} {es : List Expr} {it : E} {as : List Arg} (h1 : DX X H0 S0 e G it) (h2 : DAM X H0 S0 W es G as) (hs : starEach (e :: es) X.env = (false, eval e X.env) :: starEach es X.env := by rfl) : DAM X H0 S0 W (e :: es) G (.x it :: as) :=
  dam_cons (fun S F q H E Q kk => h1 S F q H E Q fun v H' S' g r => kk v H' S' g (.x r)) h2 hs
theorem dam_o (i gi : Nat) (hX : XOk P w K mg base k N sc fa X) {W : Wk} {x : Str} {es : List Expr} {ds : List D} {as : List Arg} (h2 : DAM X H0 S0 W es G as) (h : G[i]? = some (.own ds) := by rfl) (hW : G[gi]? = some (.wrk true W) := by rfl) (hN : N[i]? = some x := by rfl) (hv : visB sc x = true := by decide +kernel) (hne : gi ≠ i := by decide) (hd : (x == ("__debug__" : Str)) = false := by decide) (hcd : (x == ("__classdict__" : Str)) = false := by decide)
    (hs : starEach (.Name x pos :: es) X.env = (false, eval (.Name x pos) X.env) :: starEach es X.env := by rfl) : DAM X H0 S0 W (.Name x pos :: es) G (.l ds :: as) :=
  dam_cons (fun S F q H E Q kk => by
    obtain ⟨o, h1, p, vs, rfl, hF, hp, r⟩ := E.sl i _ h
    have Wp : W p = none := by
      cases e : W p with
      | none => rfl
      | some c => exact absurd (((E.wat hW).1 p).mpr (by rw [e]; exact Option.some_ne_none _)) ((E.mu i _ h rfl p ((hF p).mpr rfl)).2.2 gi hne)
    exact wE_of (pe_var (X := X) (i := i) (by rw [hX.eN]; exact hN) (by rw [hX.es]; exact vis_of hv) hd hcd) ⟨_, h1, kk _ H S (Grow.refl S H) (.l (.inl ⟨.inl hp, Wp⟩) r)⟩) h2 hs
theorem dam_b (i gi : Nat) (hX : XOk P w K mg base k N sc fa X) {W : Wk} {x : Str} {es : List Expr} {ds : List D} {as : List Arg} (h2 : DAM X H0 S0 W es G as) (h : G[i]? = some (.bor K ds) := by rfl) (hW : G[gi]? = some (.wrk true W) := by rfl) (hN : N[i]? = some x := by rfl) (hv : visB sc x = true := by decide +kernel) (hne : i ≠ gi := by decide) (hd : (x == ("__debug__" : Str)) = false := by decide) (hcd : (x == ("__classdict__" : Str)) = false := by decide)
    (hs : starEach (.Name x pos :: es) X.env = (false, eval (.Name x pos) X.env) :: starEach es X.env := by rfl) : DAM X H0 S0 W (.Name x pos :: es) G (.l ds :: as) :=
  dam_cons (fun S F q H E Q kk => by
    obtain ⟨o, h1, p, vs, rfl, hF, hp, r⟩ := E.sl i _ h
    refine wE_of (pe_var (X := X) (i := i) (by rw [hX.eN]; exact hN) (by rw [hX.es]; exact vis_of hv) hd hcd) ⟨_, h1, kk _ H S (Grow.refl S H) (.l (hp.imp (fun z => ⟨z.2, ?_⟩) fun z => by rw [hX.eK]; exact z) r)⟩
    cases e : W p with
    | none => rfl
    | some c => exact absurd z.1 ((E.wdom hW p (by rw [e]; exact Option.some_ne_none _)).2.2.2 i hne)) h2 hs
/-! ### what has changed the workspace -/
def DM (X : Cx) (H0 : Hp) (S0 : AS) (e : Expr) (G : List Slot) (gi : Nat) (M : E → Wk → Prop) : Prop := ∀ S F q H, EnvOk H0 S0 G S F q H → ∀ Q : VK, (∀ it W' v S' F' H', M it W' → Keep S H S' H' → EnvOk H0 S0 (G.set gi (.wrk true W')) S' F' q H' → RepI H' v it → Q v H') → wE X e q H Q
theorem EnvOk.eff {S : AS} {F : Nat → AS} {q : L2.St} {H H' : Hp} {gi : Nat} {W W' : Wk} (e : EnvOk H0 S0 G S F q H) (hW : G[gi]? = some (.wrk true W)) (kp : ∀ a o, W a = none → H a = some o → H' a = some o) (ok : ∀ a c, W' a = some c → CellOk H' a c) (nw : ∀ a, W' a ≠ none → W a ≠ none ∨ H a = none) :
    ∃ F', Keep S H S H' ∧ EnvOk H0 S0 (G.set gi (.wrk true W')) S F' q H' := by
  have dom := e.wdom hW
  have il : gi < G.length := (List.getElem?_eq_some_iff.mp hW).1
  have wn : ∀ a, ¬ (W a ≠ none) → W a = none := fun a h => by
    cases z : W a with
    | none => rfl
    | some c => exact absurd (by rw [z]; exact Option.some_ne_none _) h
  have fx : ∀ a o, Fx S H a → H a = some o → H' a = some o := fun a o z h => kp a o (wn a fun y => by
    rcases z with z | ⟨xs, z⟩
    · exact (dom a y).2.2.1 z
    · cases c : W a with
      | none => exact y c
      | some c' => exact ((e.wat hW).2 a c' c).nt xs z) h
  have fo : ∀ j, j ≠ gi → ∀ a, F j a → W a = none := fun j hj a z => wn a fun y => (dom a y).2.2.2 j hj z
  have lv' : ∀ a, H a ≠ none → W a = none → H' a ≠ none := fun a h z => by
    cases y : H a with
    | none => exact absurd y h
    | some o => rw [kp a o z y]; exact Option.some_ne_none _
  refine ⟨fun j => if j = gi then (fun a => W' a ≠ none) else F j, ⟨fun _ z => z, fx⟩, ⟨by rw [List.length_set, e.len], fun a o h => kp a o (wn a fun y => by rw [(dom a y).2.1] at h; cases h) (e.ext a o h), e.sfr, fun a h => lv' a (e.slv a h) (wn a fun y => (dom a y).2.2.1 h), fun j a h => ?_, fun j s hs => ?_, fun j s hs ms a ha => ?_, fun j hj a ha => ?_, fun j K' l hs a ha => ?_⟩⟩
  · by_cases z : j = gi
    · rw [if_pos z] at h
      cases y : W' a with
      | none => exact absurd y h
      | some c => exact (ok a c y).lv
    · rw [if_neg z] at h
      exact lv' a (e.flv j a h) (fo j z a h)
  · by_cases z : j = gi
    · subst z
      rw [List.getElem?_set_self il] at hs
      cases hs
      obtain ⟨o, h1, _⟩ := e.sl j _ hW
      refine ⟨o, h1, ?_⟩
      rw [if_pos rfl]
      exact ⟨fun _ => Iff.rfl, ok⟩
    · rw [List.getElem?_set_ne (Ne.symm z)] at hs
      obtain ⟨o, h1, h2⟩ := e.sl j s hs
      refine ⟨o, h1, ?_⟩
      rw [if_neg z]
      exact h2.keep (fun _ y => y) fun a u y h => y.elim (fun y => fx a u y h) fun y => kp a u (fo j z a y) h
  · by_cases z : j = gi
    · subst z
      rw [if_pos rfl] at ha
      rcases nw a ha with y | y
      · obtain ⟨_, h1, h2, h3⟩ := dom a y
        exact ⟨h1, h2, fun i hi => by rw [if_neg hi]; exact h3 i hi⟩
      · exact ⟨none_ext e.ext y, fun u => e.slv a u y, fun i hi => by rw [if_neg hi]; exact fun u => e.flv i a u y⟩
    · rw [List.getElem?_set_ne (Ne.symm z)] at hs
      rw [if_neg z] at ha
      obtain ⟨h1, h2, h3⟩ := e.mu j s hs ms a ha
      refine ⟨h1, h2, fun i hi => ?_⟩
      by_cases zi : i = gi
      · rw [if_pos zi]
        exact fun y => (nw a y).elim (fun y => y (fo j z a ha)) fun y => e.flv j a ha y
      · rw [if_neg zi]; exact h3 i hi
  · rw [List.length_set] at hj
    rw [if_neg (by omega)] at ha
    exact e.out j hj a ha
  · by_cases z : j = gi
    · subst z
      rw [List.getElem?_set_self il] at hs
      cases hs
    · rw [List.getElem?_set_ne (Ne.symm z)] at hs
      rw [if_neg z] at ha
      exact e.bo j K' l hs a ha
theorem set_wrk {gi : Nat} {W : Wk} (hW : G[gi]? = some (.wrk true W)) : G.set gi (.wrk true W) = G := by
  obtain ⟨h3, h4⟩ := List.getElem?_eq_some_iff.mp hW
  rw [← h4]
  exact List.set_getElem_self h3
/-- a def called that changes the workspace -/
theorem dm_call (gi : Nat) {j : Nat} {W : Wk} {T : TrM} {x : Str} {e : Expr} {es : List Expr} {as : List Arg} {M : E → Wk → Prop} (hX : XOk P w K mg base k N sc fa X) (c : CalleeM P w K mg base j x T) (ha : DAM X H0 S0 W (e :: es) G as) (ht : T as W M) (hW : G[gi]? = some (.wrk true W) := by rfl) (hj : j ≤ k := by decide) (hg : globB sc x = true := by decide +kernel)
    (hdb : (x == ("__debug__" : Str)) = false := by decide) (he : starEach (e :: es) X.env = (false, eval e X.env) :: starEach es X.env := by rfl) (hpl : (backTo pos (starEach es X.env)).any (·.1) = false := by rfl) : DM X H0 S0 (.Call (.Name x p1) (e :: es) [] pos) G gi M := by
  obtain ⟨f, fd, ps, FO, hm, hk, hb⟩ := c.ex
  cases hX.eP
  cases hX.ew
  cases hX.eK
  cases hX.emg
  cases hX.eb
  intro S F q H E Q kk
  refine wE_of (pe_call FO (hX.room.mono hj) (hX.gl hg) hm hk hb .nil pass0 pwA hdb he hpl) (ha S F q H E _ fun vs H1 S1 g1 r1 => ?_)
  rw [List.append_nil]
  have E1 := E.grow g1
  have dom := E1.wdom hW
  refine ⟨S1, W, as, M, fun a z => ⟨E1.slv a z, ?_⟩, (E1.wat hW).2, r1, ht, fun it W' v H' hp kp ok nw r => ?_⟩
  · cases y : W a with
    | none => rfl
    | some c => exact absurd z (dom a (by rw [y]; exact Option.some_ne_none _)).2.2.1
  · obtain ⟨F', k2, E2⟩ := E1.eff hW kp ok nw
    exact kk it W' v S1 F' H' hp (g1.keep.trans k2) E2 r
/-! ### statements -/
theorem ds_exprM (gi : Nat) {e : Expr} {rest : List Stmt} {M : E → Wk → Prop} {P' : Out → Prop} (he : DM X H0 S0 e G gi M) (h : ∀ it W', M it W' → DS X H0 S0 rest (G.set gi (.wrk true W')) P') (hs : swapsWith e none pos.line X.env = pure false := by rfl) : DS X H0 S0 (.Expr e pos :: rest) G P' := fun S F q H Dd E kk =>
  wSs_of (pss_cons (ps_expr pwE hs) pwSs) (he S F q H E _ fun it W' v S' F' H' m c E' r => h it W' m S' F' q H' Dd E' (kk.at_ c))
theorem ds_setMx (i gi : Nat) {x : Str} {e : Expr} {rest : List Stmt} {M : E → Wk → Prop} {P' : Out → Prop} (hX : XOk P w K mg base k N sc true X) (he : DM X H0 S0 e G gi M) (h : ∀ it W', M it W' → DS X H0 S0 rest ((G.set gi (.wrk true W')).set i (.itm it)) P') (hN : N[i]? = some x := by rfl) (hv : locB sc x = true := by decide +kernel) (hi : i < G.length := by exact Nat.le_of_ble_eq_true rfl)
    (hs : swapsWith e (some (.Name x p1)) pos.line X.env = pure false := by rfl) : DS X H0 S0 (.Assign [.Name x p1] e pos :: rest) G P' := fun S F q H Dd E kk =>
  wSs_of (pss_cons (ps_set (i := i) (by rw [hX.eN]; exact hX.nd) (by rw [hX.eN]; exact hN) (by rw [hX.es]; exact loc_of hv) pwE hs (by
    rcases loc_of hv with z | z
    · exact .inr (by rw [hX.es]; exact z)
    · exact .inl (hX.fn rfl x))) pwSs) (he S F q H E _ fun it W' v S' F' H' m c E' r => h it W' m S' _ _ H' Dd (E'.puti (i := i) (by rw [List.length_set]; exact hi) r) (kk.at_ c))
theorem ds_retM {gi : Nat} {e : Expr} {rest : List Stmt} {M : E → Wk → Prop} {P' : Out → Prop} (he : DM X H0 S0 e G gi M) (h : ∀ it W', M it W' → P' (.eff (G.set gi (.wrk true W')) it)) : DS X H0 S0 (.Return (some e) pos :: rest) G P' := fun S F q H Dd E kk =>
  wSs_of (pss_cons (ps_ret pwE) pwSs) (he S F q H E _ fun it W' v S' F' H' m c E' r => kk.re _ _ _ it v _ _ (h it W' m) E' r)
theorem ds_retx {e : Expr} {rest : List Stmt} {it : DL.E} {P' : Out → Prop} (he : DX X H0 S0 e G it) (h : P' (.eff G it)) : DS X H0 S0 (.Return (some e) pos :: rest) G P' := fun S F q H Dd E kk =>
  wSs_of (pss_cons (ps_ret pwE) pwSs) (he S F q H E _ fun v H' S' g r => kk.re _ _ _ it v _ _ h (E.grow g) r)
theorem ds_retxN {rest : List Stmt} {P' : Out → Prop} (h : P' (.eff G (.d .none))) : DS X H0 S0 (.Return none pos :: rest) G P' := fun S F q H Dd E kk =>
  wSs_of (pss_cons ps_retN pwSs) (kk.re _ _ _ _ _ _ _ h E (.d .non))
/-- a test that changes the workspace -/
def DTM (X : Cx) (H0 : Hp) (S0 : AS) (e : Expr) (G : List Slot) (gi : Nat) (M : Bool → Wk → Prop) : Prop := ∀ S F q H, EnvOk H0 S0 G S F q H → ∀ Q : Bool → Hp → Prop, (∀ b W' S' F' H', M b W' → Keep S H S' H' → EnvOk H0 S0 (G.set gi (.wrk true W')) S' F' q H' → Q b H') → wT X e q H Q
theorem dtm_e {gi : Nat} {e : Expr} {M : Bool → Wk → Prop} (h : DM X H0 S0 e G gi (fun it W => ∃ b, it = .d (.bool b) ∧ M b W)) (he : ∀ whole, isTrue e X.env whole = (do let v ← whole; standAt e.pos; holding [v] (truthy v)) := by intro _; rfl) : DTM X H0 S0 e G gi M := fun S F q H E Q kk =>
  wT_of (pt_val pwE he) (h S F q H E _ fun it W' v S' F' H' m c E' r => by
    obtain ⟨b, rfl, m⟩ := m
    cases r with
    | d r =>
      cases r
      exact ⟨b, rfl, kk b W' S' F' H' m c E'⟩)
theorem dtm_not {gi : Nat} {a : Expr} {M : Bool → Wk → Prop} (h : DTM X H0 S0 a G gi (fun b W => M (!b) W)) : DTM X H0 S0 (.UnaryOp .Not a pos) G gi M := fun S F q H E Q kk =>
  wT_of (pt_not pwT) (h S F q H E _ fun b W' S' F' H' m c E' => kk (!b) W' S' F' H' m c E')
theorem ds_ifM {gi : Nat} {c : Expr} {a b rest : List Stmt} {M : Bool → Wk → Prop} {P' : Out → Prop} (hc : DTM X H0 S0 c G gi M) (h : ∀ t W', M t W' → (t = true → DS X H0 S0 a (G.set gi (.wrk true W')) (seqP (fun G' => DS X H0 S0 rest G' P') P')) ∧ (t = false → DS X H0 S0 b (G.set gi (.wrk true W')) (seqP (fun G' => DS X H0 S0 rest G' P') P'))) :
    DS X H0 S0 (.If c a b pos :: rest) G P' := fun S F q H Dd E kk =>
  wSs_of (pss_cons (ps_if pwT pwSs pwSs) pwSs) (hc S F q H E _ fun t W' S1 F1 H1 m c1 E1 => by
    have K2 : EndOk H0 S0 S1 H1 (seqP (fun G' => DS X H0 S0 rest G' P') P') { Dd with nx := wSs X rest Dd } := (kk.at_ c1).seq fun G' S' F' q' H' m c E' => m S' F' q' H' Dd E' (kk.at_ (c1.trans c))
    obtain ⟨h1, h2⟩ := h t W' m
    cases t with
    | true => exact iteT (h1 rfl S1 F1 q H1 _ E1 K2)
    | false => exact iteF (h2 rfl S1 F1 q H1 _ E1 K2))
/-- a thing that is no None -/
theorem dt_isNx {a : Expr} {es : List DL.E} {j : Nat} (ha : DX X H0 S0 a G (.tup es)) : DT X H0 S0 (.Compare a [.Is] [.Constant .none j p2] pos) G false := fun S F q H E Q kk =>
  wT_of (pt_cmpR op_isN pwE pwE (nomark _)) (ha S F q H E _ fun v H1 S1 g1 r1 => de_non S1 F q H1 (E.grow g1) _ fun u H2 S2 g2 r2 => by
    cases r2
    cases r1 with
    | tup r t => exact ⟨rfl, by exact ⟨false, rfl, kk H2 S2 (g1.trans g2)⟩⟩)
/-- == of a thing -/
theorem dp_x (gi : Nat) {e : Expr} {it : DL.E} {d : D} {m : Bool} {W : Wk} (h : DX X H0 S0 e G it) (ht : Thaw W it d) (hW : G[gi]? = some (.wrk m W) := by rfl) : DP X H0 S0 e G d := fun S F q H E Q kk => h S F q H E Q fun v H' S' g r =>
  kk v H' S' g fun H'' e => ((ht.rep (S := S') ((E.grow g).wat hW).2 r).mono (S' := fun a => S' a ∨ W a ≠ none) (fun _ z => z) fun a o _ z => e a o z).dp
end
end DL

/-! DLq: objects as cells of a workspace. -/
namespace DL
open PySem PySem.Spec PyProof.Rows L2
theorem nto_ins (C dx : Addr) (fs : List (Str × V)) : NTo (.ins C dx fs) := ⟨fun xs h => (by cases h), fun u xs h => (by cases h)⟩
theorem nto_own (x : Addr) : NTo (.own x) := ⟨fun xs h => (by cases h), fun u xs h => (by cases h)⟩
def icell (C dx : Addr) (fs : List (Str × V)) : Cell := .raw (.ins C dx fs)
/-- a method of the text: what its def promises -/
structure MethM (P : Program) (w : World) (K : PySem.W.Frag) (mg : Str → Option Value) (base : Heap) (k : Nat) (C : Addr) (m : Str) (T : TrM) : Prop where
  ex : ∃ f fd ps, FnOk P w K mg base CX0 k f fd ps (spM K T) ∧ Meth K C m f ∧ Binds K fd ps []
/-- a class of the text: how its objects are made -/
structure MakeM (P : Program) (w : World) (K : PySem.W.Frag) (mg : Str → Option Value) (base : Heap) (k : Nat) (x : Str) (C : Addr) (T : TrM) : Prop where
  ex : ∃ f fd ps, FnOk P w K mg base CX0 k f fd ps (spM K T) ∧ Mk K C f ∧ mg x = some (.ref C) ∧ Binds K fd ps []
section
variable {P : Program} {w : World} {K : PySem.W.Frag} {mg : Str → Option Value} {base : Heap} {k : Nat} {N : List Str} {sc : Scope} {fa : Bool} {X : Cx} {H0 : Hp} {S0 : AS} {G G1 G2 : List Slot} {pos p1 p2 p3 p4 apos : Pos}
theorem icell_at {S : AS} {F : Nat → AS} {q : L2.St} {H : Hp} {gi : Nat} {m : Bool} {W : Wk} {x C dx : Addr} {fs : List (Str × V)} (E : EnvOk H0 S0 G S F q H) (hW : G[gi]? = some (.wrk m W)) (hp : W x = some (icell C dx fs)) : H x = some (.ins C dx fs) := ((E.wat hW).2 x _ hp).1
/-- e.f, a list or another object -/
theorem dx_fld (gi : Nat) {e : Expr} {f : Str} {m : Bool} {W : Wk} {x C dx r : Addr} {fs : List (Str × V)} (hX : XOk P w K mg base k N sc fa X) (he : DX X H0 S0 e G (.ref x)) (hp : W x = some (icell C dx fs)) (c : Cls K C) (n : NoAttr K C f) (l : fs.lookup f = some (.ref r)) (hW : G[gi]? = some (.wrk m W) := by rfl)
    (hb : attributeBase e f X.env (eval e X.env) = eval e X.env := by rfl) : DX X H0 S0 (.Attribute e f pos) G (.ref r) := fun S F q H E Q kk =>
  wE_of (pe_fld pwE hb) (he S F q H E _ fun v H1 S1 g1 r1 => by
    cases r1
    exact ⟨x, C, dx, fs, _, rfl, icell_at (E.grow g1) hW hp, by rw [hX.eK]; exact c, by rw [hX.eK]; exact n, l, kk _ H1 S1 g1 (.ref r)⟩)
/-- o.f = e, e a new list -/
theorem ds_setfld (gi : Nat) {o e : Expr} {f : Str} {rest : List Stmt} {W : Wk} {x C dx : Addr} {fs : List (Str × V)} {es : List DL.E} {P' : Out → Prop} (hX : XOk P w K mg base k N sc fa X) (he : DOX X H0 S0 e G es) (ho : DX X H0 S0 o G (.ref x)) (hp : W x = some (icell C dx fs)) (c : Cls K C) (n : NoAttr K C f) (hl : fs.length < 1000)
    (h : ∀ r, W r = none → r ≠ x → DS X H0 S0 rest (G.set gi (.wrk true (updW (updW W r (.lst es)) x (icell C dx (putF f (.ref r) fs))))) P') (hW : G[gi]? = some (.wrk true W) := by rfl)
    (hs : swapsWith e (some (.Attribute o f p2)) pos.line X.env = pure false := by rfl) : DS X H0 S0 (.Assign [.Attribute o f p2] e pos :: rest) G P' := fun S F q H Dd E kk => by
  refine wSs_of (pss_cons (ps_fld pwE pwE hs) pwSs) (he S F q H E _ fun r ws H1 S1 g1 hn hS hr rr => ho S1 F q H1 (E.grow g1) _ fun v H2 S2 g2 r2 => ?_)
  cases r2
  have g := g1.trans g2
  have E2 := (E.grow g1).grow g2
  have gl : gi < G.length := (List.getElem?_eq_some_iff.mp hW).1
  have nF : ∀ j, ¬ F j r := fun j z => E.flv j r z hn
  have Wr : W r = none := by
    cases y : W r with
    | none => rfl
    | some c => exact absurd (((E.wat hW).1 r).mpr (by rw [y]; exact Option.some_ne_none _)) (nF gi)
  have hr2 : H2 r = some (.lst ws) := g2.ext _ _ hr
  have hS2 : ¬ S2 r := fun z => (g2.new r z).elim hS fun z => by rw [hr] at z; cases z
  obtain ⟨F3, E3⟩ := E2.wadd hW (p := r) (c := .lst es) ⟨ws, hr2, rr.ext g2.ext⟩ (by rw [hr2]; exact Option.some_ne_none _) (none_ext E.ext hn) hS2 nF
  have hW3 : (G.set gi (.wrk true (updW W r (.lst es))))[gi]? = some (.wrk true (updW W r (.lst es))) := List.getElem?_set_self gl
  have xr : x ≠ r := fun z => by rw [z, Wr] at hp; cases hp
  have hx3 : updW W r (.lst es) x = some (icell C dx fs) := by rw [updW_ne xr]; exact hp
  have nt : NT H2 x := ((E3.wat hW3).2 x _ hx3).nt
  obtain ⟨F', E4⟩ := E3.wset hW3 (p := x) (u := .ins C dx (putF f (.ref r) fs)) (c := icell C dx (putF f (.ref r) fs)) (by rw [hx3]; exact Option.some_ne_none _) nt ⟨upd_same, nto_ins _ _ _⟩
  rw [List.set_set] at E4
  exact ⟨x, C, dx, fs, rfl, icell_at E2 hW hp, by rw [hX.eK]; exact c, by rw [hX.eK]; exact n, hl, h r Wr (Ne.symm xr) S2 F' q _ Dd E4 (kk.at_ (g.keep.trans (Keep.upd ((E3.wdom hW3) x (by rw [hx3]; exact Option.some_ne_none _)).2.2.1 nt)))⟩
/-- the end of a call: what the workspace is then -/
theorem dm_end {gi : Nat} {W : Wk} {T : TrM} {as : List Arg} {M : DL.E → Wk → Prop} {S S1 : AS} {F : Nat → AS} {q : L2.St} {H H1 : Hp} {vs : List V} {Q : VK} (E1 : EnvOk H0 S0 G S1 F q H1) (hW : G[gi]? = some (.wrk true W)) (k1 : Keep S H S1 H1) (r1 : RepsM K S1 H1 W vs as) (ht : T as W M)
    (kk : ∀ it W' v S' F' H', M it W' → Keep S H S' H' → EnvOk H0 S0 (G.set gi (.wrk true W')) S' F' q H' → RepI H' v it → Q v H') : spM K T vs H1 Q (fun _ _ _ => True) := by
  have dom := E1.wdom hW
  refine ⟨S1, W, as, M, fun a z => ⟨E1.slv a z, ?_⟩, (E1.wat hW).2, r1, ht, fun it W' v H' hp kp ok nw r => ?_⟩
  · cases y : W a with
    | none => rfl
    | some c => exact absurd z (dom a (by rw [y]; exact Option.some_ne_none _)).2.2.1
  · obtain ⟨F', k2, E2⟩ := E1.eff hW kp ok nw
    exact kk it W' v S1 F' H' hp (k1.trans k2) E2 r
/-- o.m(e, ..) -/
theorem dm_meth (gi : Nat) {j : Nat} {W : Wk} {T : TrM} {m : Str} {o e : Expr} {es : List Expr} {x C dx : Addr} {fs : List (Str × V)} {as : List Arg} {M : DL.E → Wk → Prop} {pl : Sem Bool} (hX : XOk P w K mg base k N sc fa X) (c : MethM P w K mg base j C m T) (cl : Cls K C) (ho : DX X H0 S0 o G (.ref x)) (hp : W x = some (icell C dx fs)) (hl : fs.lookup m = none) (ha : DAM X H0 S0 W (e :: es) G as) (ht : T (.x (.ref x) :: as) W M) (hW : G[gi]? = some (.wrk true W) := by rfl) (hj : j ≤ k := by decide)
    (hst : starEach (e :: es) X.env = (false, eval e X.env) :: starEach es X.env := by rfl) (hpl : (backTo pos (starEach es X.env)).any (·.1) = false := by rfl)
    (het : eval (.Call (.Attribute o m apos) (e :: es) [] pos) X.env = (do
      let ov ← eval o X.env
      standAt apos.atName
      let (f, first) ← holding [ov] (getMethod ov m pl)
      callWith pos f first (backTo pos (starEach (e :: es) X.env)) (backToKw pos (keywordEach [] X.env))) := by rfl) : DM X H0 S0 (.Call (.Attribute o m apos) (e :: es) [] pos) G gi M := by
  obtain ⟨f, fd, ps, FO, hm, hb⟩ := c.ex
  cases hX.eP
  cases hX.ew
  cases hX.eK
  cases hX.emg
  cases hX.eb
  intro S F q H E Q kk
  refine wE_of (pe_meth pwE cl hm FO (hX.room.mono hj) hb .nil pass0 pwA hst hpl het) (ho S F q H E _ fun v H1 S1 g1 r1 => ?_)
  cases r1
  have E1 := E.grow g1
  refine ⟨x, dx, fs, rfl, icell_at E1 hW hp, hl, ha S1 F q H1 E1 _ fun vs H2 S2 g2 r2 => ?_⟩
  rw [List.append_nil]
  exact dm_end (S := S) (H := H) (E1.grow g2) hW ((g1.trans g2).keep) (.cons (.x (.ref x)) r2) ht kk
/-- o.m() -/
theorem dm_meth0 (gi : Nat) {j : Nat} {W : Wk} {T : TrM} {m : Str} {o : Expr} {x C dx : Addr} {fs : List (Str × V)} {M : DL.E → Wk → Prop} {pl : Sem Bool} (hX : XOk P w K mg base k N sc fa X) (c : MethM P w K mg base j C m T) (cl : Cls K C) (ho : DX X H0 S0 o G (.ref x)) (hp : W x = some (icell C dx fs)) (hl : fs.lookup m = none) (ht : T [.x (.ref x)] W M) (hW : G[gi]? = some (.wrk true W) := by rfl) (hj : j ≤ k := by decide)
    (het : eval (.Call (.Attribute o m apos) [] [] pos) X.env = (do
      let ov ← eval o X.env
      standAt apos.atName
      let (f, first) ← holding [ov] (getMethod ov m pl)
      callWith pos f first (backTo pos (starEach [] X.env)) (backToKw pos (keywordEach [] X.env))) := by rfl) : DM X H0 S0 (.Call (.Attribute o m apos) [] [] pos) G gi M := by
  obtain ⟨f, fd, ps, FO, hm, hb⟩ := c.ex
  cases hX.eP
  cases hX.ew
  cases hX.eK
  cases hX.emg
  cases hX.eb
  intro S F q H E Q kk
  refine wE_of (pe_meth0 pwE cl hm FO (hX.room.mono hj) hb .nil pass0 het) (ho S F q H E _ fun v H1 S1 g1 r1 => ?_)
  cases r1
  have E1 := E.grow g1
  exact ⟨x, dx, fs, rfl, icell_at E1 hW hp, hl, dm_end (S := S) (H := H) E1 hW g1.keep (.cons (.x (.ref x)) .nil) ht kk⟩
theorem RepsM.addW {S : AS} {H : Hp} {W W1 : Wk} (h : ∀ a, W1 a ≠ none → W a ≠ none ∨ H a = none) : ∀ {vs : List V} {as : List Arg}, RepsM K S H W vs as → RepsM K S H W1 vs as
  | _, _, .nil => .nil
  | _, _, .cons r t => .cons (by
      cases r with
      | d r => exact .d r
      | x r => exact .x r
      | l hp r =>
        refine .l (hp.imp (fun z => ⟨z.1, ?_⟩) id) r
        cases e : W1 _ with
        | none => rfl
        | some c => exact ((h _ (by rw [e]; exact Option.some_ne_none _)).elim (fun y => y z.2) fun y => rd_ex z.1 y).elim) (RepsM.addW h t)
/-- C(e, ..) -/
theorem dm_make (gi : Nat) {j : Nat} {W : Wk} {T : TrM} {x : Str} {C : Addr} {e : Expr} {es : List Expr} {as : List Arg} {M : DL.E → Wk → Prop} (hX : XOk P w K mg base k N sc fa X) (c : MakeM P w K mg base j x C T) (ha : DAM X H0 S0 W (e :: es) G as)
    (ht : ∀ a dx, W a = none → W dx = none → dx ≠ a → T (.x (.ref a) :: as) (updW (updW W dx (.raw (.own a))) a (icell C dx [])) (fun it W' => it = .d .none ∧ M (.ref a) W')) (hW : G[gi]? = some (.wrk true W) := by rfl) (hj : j + 1 ≤ k := by decide) (hg : globB sc x = true := by decide +kernel)
    (hdb : (x == ("__debug__" : Str)) = false := by decide) (he : starEach (e :: es) X.env = (false, eval e X.env) :: starEach es X.env := by rfl) (hpl : (backTo pos (starEach es X.env)).any (·.1) = false := by rfl) : DM X H0 S0 (.Call (.Name x p1) (e :: es) [] pos) G gi M := by
  obtain ⟨f, fd, ps, FO, hm, hmg, hb⟩ := c.ex
  cases hX.eP
  cases hX.ew
  cases hX.eK
  cases hX.emg
  cases hX.eb
  intro S F q H E Q kk
  refine wE_of (pe_make hm FO (hX.room.mono hj) (hX.gl hg) hmg hb .nil pass0 pwA hdb he hpl) (ha S F q H E _ fun vs H1 S1 g1 r1 a dx ha0 hdx hne => ?_)
  rw [List.append_nil]
  have gl : gi < G.length := (List.getElem?_eq_some_iff.mp hW).1
  have E1 := E.grow g1
  have hax : (upd H1 dx (.own a)) a = none := by rw [upd_ne (Ne.symm hne)]; exact ha0
  have g2 : Grow S1 H1 S1 (upd H1 dx (.own a)) := Grow.alloc0 hdx
  have g3 : Grow S1 (upd H1 dx (.own a)) S1 (upd (upd H1 dx (.own a)) a (.ins C dx [])) := Grow.alloc0 hax
  have E3 := (E1.grow g2).grow g3
  have Wn : ∀ b, H1 b = none → W b = none := fun b hb => by
    cases y : W b with
    | none => rfl
    | some c => exact absurd hb (E1.flv gi b (((E1.wat hW).1 b).mpr (by rw [y]; exact Option.some_ne_none _)))
  have hdx3 : (upd (upd H1 dx (.own a)) a (.ins C dx [])) dx = some (.own a) := by rw [upd_ne hne, upd_same]
  have hlx : ∀ b, (b = a ∨ b = dx) → H1 b = none := fun b hb => hb.elim (fun z => by rw [z]; exact ha0) fun z => by rw [z]; exact hdx
  have ok5 : ∀ b c, (updW (updW W dx (.raw (.own a))) a (icell C dx [])) b = some c → CellOk (upd (upd H1 dx (.own a)) a (.ins C dx [])) b c := fun b c hb => by
    by_cases y : b = a
    · subst y
      rw [updW_same] at hb
      cases hb
      exact ⟨upd_same, nto_ins _ _ _⟩
    · rw [updW_ne y] at hb
      by_cases y2 : b = dx
      · subst y2
        rw [updW_same] at hb
        cases hb
        exact ⟨hdx3, nto_own a⟩
      · rw [updW_ne y2] at hb
        exact (E3.wat hW).2 b c hb
  have E5 := E3.wput (W := W) (W' := updW (updW W dx (.raw (.own a))) a (icell C dx [])) gl (E3.wdom hW) ok5 fun b hb => by
    by_cases y : b = a ∨ b = dx
    · have hb0 := hlx b y
      refine .inr ⟨?_, none_ext E1.ext hb0, fun z => E1.slv b z hb0, fun i _ z => E1.flv i b z hb0⟩
      cases e : (updW (updW W dx (.raw (.own a))) a (icell C dx [])) b with
      | none => exact absurd e hb
      | some c => exact (ok5 b c e).lv
    · refine .inl ?_
      rw [updW_ne (fun z => y (.inl z)), updW_ne (fun z => y (.inr z))] at hb
      exact hb
  have hW5 : (G.set gi (.wrk true (updW (updW W dx (.raw (.own a))) a (icell C dx []))))[gi]? = some (.wrk true (updW (updW W dx (.raw (.own a))) a (icell C dx []))) := List.getElem?_set_self gl
  have nw : ∀ b, (updW (updW W dx (.raw (.own a))) a (icell C dx [])) b ≠ none → W b ≠ none ∨ H1 b = none := fun b hb => by
    by_cases y : b = a
    · exact .inr (by rw [y]; exact ha0)
    · rw [updW_ne y] at hb
      by_cases y2 : b = dx
      · exact .inr (by rw [y2]; exact hdx)
      · rw [updW_ne y2] at hb; exact .inl hb
  have r5 : RepsM X.K S1 (upd (upd H1 dx (.own a)) a (.ins C dx [])) (updW (updW W dx (.raw (.own a))) a (icell C dx [])) vs as := ((r1.addW nw).grow g2).grow g3
  refine dm_end (S := S) (H := H) E5 hW5 (((g1.trans g2).trans g3).keep) (.cons (.x (.ref a)) r5) (ht a dx (Wn a ha0) (Wn dx hdx) hne) fun it W' v S' F' H' m c' E' r' => ?_
  obtain ⟨rfl, m⟩ := m
  rw [List.set_set] at E'
  cases r' with
  | d r' =>
    cases r'
    exact ⟨rfl, kk _ W' _ S' F' H' m c' E' (.ref a)⟩
end
end DL

/-! DLr: dicts. -/
namespace L2
open PySem PySem.Spec PyProof.Rows
section
variable {X : Cx} {ta : TE} {o : Expr} {pos p apos cpos : Pos}
/-- sorted(o.keys()) of a dict with fewer than 64 keys, all ints -/
def tSK (ta : TE) : TE := fun σ H Q => ta σ H fun x H1 => ∃ (a : Addr) (kvs : List (Key × V)) (ks : List Int), x = .ref a ∧ Rd H1 a (.dK kvs) ∧ kvs.map (·.1) = ks.map Sum.inl ∧ ks.length < 64 ∧
    ∀ (ys : List Int) (p : Addr), ys.Perm ks → ys.Pairwise (· ≤ ·) → H1 p = none → Q (.ref p) (upd H1 p (.lst (ys.map V.int)))
theorem pe_sortedKeys (hcalm : X.calm = true) (hg : Gl X "sorted") (hm : X.mg "sorted" = none) (ho : PE X o ta) (hbase : attributeBase o "keys" X.env (eval o X.env) = eval o X.env := by rfl) (hline : (apos.endLine == cpos.line) = true := by rfl)
    (he : starEach [.Call (.Attribute o "keys" apos) [] [] cpos] X.env = (false, eval (.Call (.Attribute o "keys" apos) [] [] cpos) X.env) :: starEach [] X.env := by rfl) (hpl : (backTo pos (starEach [] X.env)).any (·.1) = false := by rfl) :
    PE X (.Call (.Name "sorted" p) [.Call (.Attribute o "keys" apos) [] [] cpos] [] pos) (tSK ta) := by
  refine ⟨fun pins s σ H Q I h => ?_⟩
  refine wpAny_Call_Name_kw (ld_blt I hg hm PyProof.Rows.boot_sorted ?_ (by decide) (by decide))
  refine PyProof.Rows.callWith_builtin1 ?_ he hpl
  rw [he]
  show wpAny _ _ (spliced ((false, eval (.Call (.Attribute o "keys" apos) [] [] cpos) X.env) :: backTo pos (starEach [] X.env))) _ _ s
  refine Calls.spliced_cons ?_
  refine wpAny_Call_method (T := "dict") (id := "dict.keys") hbase rfl hline F.plainAttrs_dict F.slot_dict_keys F.type_dict_keys (thn (ho.run pins s σ H _ I h) fun u s1 ⟨x, H1, I1, rx, a, kvs, ks, ex, hd, hks, h64, q⟩ => ?_)
  subst ex
  obtain rfl : u = Value.ref a := rx
  obtain ⟨z, lo, vs, rel, dd⟩ := dk_rd I1.hok hd
  refine ⟨dd.typeIs, dd.mapOf.noDict, ?_⟩
  have I2 : Inv X pins σ H1 { s1 with heap := s1.heap.push { cls := .type "dict_keys", data := .fields #[.ref a] } } := I1.kept (t' := s1.toks) fun b ob q => Heap.get?_push_of_some _ q
  show wpAny _ _ (callWith cpos (.builtin "dict.keys") [.ref a] [] []) _ X.xe s1
  refine method_meetsIn F.slot_dict_keys F.entry_dict_keys rfl (PySem.evalArgs_none ⟨rfl, dd.typeIs, F.args_dict_keys_1 _, _, PySem.W.kdl_meets_keys (mixKind X.prog X.w) a lo, ⟨vs, dd⟩, ?_⟩)
  refine PySem.wpAny_evalAll_nil ?_
  have dd2 := dd.push { cls := .type "dict_keys", data := .fields #[.ref a] }
  have hk0 : ∀ b u, s1.heap.get? b = some u → (s1.heap.push { cls := .type "dict_keys", data := .fields #[.ref a] }).get? b = some u := fun b u e => Heap.get?_push_of_some _ e
  obtain ⟨ep, hat⟩ := dd2.dictAt
  have hview : PySem.W.KdlKeysView (s1.heap.push { cls := .type "dict_keys", data := .fields #[.ref a] }) s1.heap.objs.size a := ⟨_, Heap.get?_push_size _ rfl, rfl, rfl⟩
  have hkeys : vs.map (·.1) = ks.map Sum.inl := rel.keys.symm.trans hks
  have hl : vs.length = ks.length := by
    have e := congrArg List.length hkeys
    rw [List.length_map, List.length_map] at e
    exact e
  have h16 : vs.length ≤ sizeLine := by rw [hl, sizeLine_eq]; omega
  refine Calls.call_function_entry PyProof.Rows.kind_sorted PyProof.Rows.plain_sorted PyProof.Rows.entry_sorted (PyProof.Rows.args_sorted1 _) ?_
  unfold Builtin.«sorted»
  refine wpAny_bind (m := checkCount "sorted" 1 1 _) (wpAny_pure ?_)
  refine wpAny_bind (PySem.W.kdu_collect (A := X.A.in1) (PySem.W.kdl_keys (knd := mixKind X.prog X.w) (kvs := vs) (ep := ep)) (I2.ok.hd hcalm) ⟨hview, hat⟩ h16 fun h' tk acc hk hacc => ?_)
  have hal : acc.toList.length = ks.length := by rw [Array.length_toList, hacc.1, hl]
  have hS : IntsAre acc.toList ks := ints_each hal fun j v e => by
    obtain ⟨k, x, e1, e2⟩ := hacc.2 j v (by rw [← Array.getElem?_toList]; exact e)
    have e3 : (vs.map (·.1))[j]? = some k := by rw [List.getElem?_map, e1]; rfl
    rw [hkeys, List.getElem?_map] at e3
    cases e4 : ks[j]? with
    | none => rw [e4] at e3; cases e3
    | some y =>
      rw [e4] at e3
      have e5 : Sum.inl y = k := Option.some.inj e3
      subst e5
      rcases keyIs_shape (show keyIs (Sum.inl y) v = true from e2) with ⟨i, t, ek, ev⟩ | ⟨z, t, ek, ev⟩
      · cases ek
        exact ⟨y, t, rfl, ev⟩
      · cases ek
  have I3 : Inv X pins σ H1 { s1 with heap := h', toks := tk } := I2.kept hk
  refine wpAny_bind (wpAny_newList ?_ (by rw [hal, sizeLine_eq]; omega))
  have hoL : (h'.push (seqObj "list" acc.toList.toArray 0)).get? h'.objs.size = some (seqObj "list" acc.toList.toArray 0) := Heap.get?_push_size _ rfl
  show wpAny _ _ _ _ _ { s1 with heap := h'.push (seqObj "list" acc.toList.toArray 0), toks := tk }
  refine wpAny_bind (wpAny_holding (wpAny_call_entry PyProof.Rows.slot_list_sort ⟨_, hoL, rfl⟩ PyProof.Rows.entry_list_sort
    (PyProof.Rows.list_sort_tree (s := { s1 with heap := h'.push (seqObj "list" acc.toList.toArray 0), toks := tk }) hoL hS (by rw [hal]; exact h64) fun out ys g1 g2 g3 => ⟨_, rfl, ?_⟩) (PyProof.Rows.args_list_sort _)))
  obtain ⟨e', he'⟩ := PyProof.Rows.sortedHeap_at (vs := acc.toList) (out := out) hoL
  have hlen : (ys.map V.int).length ≤ sizeLine := by
    rw [List.length_map, g2.length_eq]
    exact Nat.le_trans (Nat.le_of_lt h64) (by decide)
  refine wpAny_pure ⟨_, rfl, .ref h'.objs.size, upd H1 h'.objs.size (.lst (ys.map V.int)), I3.laid (t' := tk) (fun b u e => ?_) (Nat.le_refl _)
    (show ObjOk X.prog X.w _ _ _ (.lst (ys.map V.int)) from ⟨hlen, out.toList, e', vals_of_ints g1, by rw [Array.toArray_toList]; exact he'⟩), rfl, q ys _ g2 g3 (I3.hok.fresh (Nat.le_refl _))⟩
  have hb : b < h'.objs.size := Heap.lt_size e
  rw [PyProof.Rows.sortedHeap_old (Nat.ne_of_lt hb) (by rw [size_push']; exact Nat.lt_succ_of_lt hb)]
  exact Heap.get?_push_of_some _ e
end
end L2
namespace DL
open PySem PySem.Spec PyProof.Rows L2
/-! ### dicts of numbers by numbers, in a cell of the workspace -/
abbrev Dic := List (Int × Int)
def dkv (d : Dic) : List (Key × V) := d.map fun x => (Sum.inl x.1, V.int x.2)
def getD_ (d : Dic) (k : Int) : Option Int := (d.find? fun x => decide (x.1 = k)).map (·.2)
def putD (d : Dic) (k v : Int) : Dic := if (d.any fun x => decide (x.1 = k)) = true then d.map (fun x => if x.1 = k then (x.1, v) else x) else d ++ [(k, v)]
def dcell (d : Dic) : Cell := .raw (.dK (dkv d))
theorem nto_dK (kvs : List (Key × V)) : NTo (.dK kvs) := ⟨fun xs h => (by cases h), fun u xs h => (by cases h)⟩
theorem inl_iff {a b : Int} : ((Sum.inl a : Key) = Sum.inl b) ↔ a = b := ⟨fun h => by cases h; rfl, fun h => by rw [h]⟩
theorem valV_dkv (k : Int) : ∀ d : Dic, valV (dkv d) (Sum.inl k) = (getD_ d k).map V.int
  | [] => rfl
  | x :: d => by
    have ih := valV_dkv k d
    unfold getD_ at ih ⊢
    by_cases e : x.1 = k
    · rw [show dkv (x :: d) = (Sum.inl x.1, V.int x.2) :: dkv d from rfl, valV_pos (by rw [e]), List.find?_cons_of_pos (by simpa using e)]
      rfl
    · rw [show dkv (x :: d) = (Sum.inl x.1, V.int x.2) :: dkv d from rfl, valV_neg (fun z => e (inl_iff.mp z)), List.find?_cons_of_neg (by simpa using e)]
      exact ih
theorem putK_dkv (k v : Int) (d : Dic) : putK (dkv d) (Sum.inl k) (V.int v) = dkv (putD d k v) := by
  have e : ((dkv d).any fun kv => decide (kv.1 = Sum.inl k)) = d.any fun x => decide (x.1 = k) := by
    unfold dkv
    rw [List.any_map]
    congr 1
    funext x
    show decide ((Sum.inl x.1 : Key) = Sum.inl k) = _
    rw [decide_eq_decide.mpr inl_iff]
  unfold putK putD
  rw [e]
  split
  · unfold dkv
    rw [List.map_map, List.map_map]
    refine List.map_congr_left fun x _ => ?_
    show (if (Sum.inl x.1 : Key) = Sum.inl k then (Sum.inl x.1, V.int v) else (Sum.inl x.1, V.int x.2)) = _
    by_cases z : x.1 = k
    · rw [if_pos (inl_iff.mpr z)]
      show _ = ((Sum.inl (if x.1 = k then (x.1, v) else x).1 : Key), V.int (if x.1 = k then (x.1, v) else x).2)
      rw [if_pos z]
    · rw [if_neg (fun y => z (inl_iff.mp y))]
      show _ = ((Sum.inl (if x.1 = k then (x.1, v) else x).1 : Key), V.int (if x.1 = k then (x.1, v) else x).2)
      rw [if_neg z]
  · unfold dkv
    rw [List.map_append]
    rfl
section
variable {P : Program} {w : World} {K : PySem.W.Frag} {mg : Str → Option Value} {base : Heap} {k : Nat} {N : List Str} {sc : Scope} {fa : Bool} {X : Cx} {H0 : Hp} {S0 : AS} {G G1 G2 : List Slot} {pos p1 p2 p3 p4 apos cpos : Pos}
theorem XOk.hu (hX : XOk P w K mg base k N sc fa X) : X.A.units + 1 < cLine := by have := hX.room.units; omega
theorem dcell_at {S : AS} {F : Nat → AS} {q : L2.St} {H : Hp} {gi : Nat} {m : Bool} {W : Wk} {p : Addr} {d : Dic} (E : EnvOk H0 S0 G S F q H) (hW : G[gi]? = some (.wrk m W)) (hp : W p = some (dcell d)) : H p = some (.dK (dkv d)) := ((E.wat hW).2 p _ hp).1
/-- x = {} -/
theorem ds_setD (i gi : Nat) {x : Str} {rest : List Stmt} {W : Wk} {P' : Out → Prop} (hX : XOk P w K mg base k N sc true X) (h : ∀ p, W p = none → DS X H0 S0 rest ((G.set i (.itm (.ref p))).set gi (.wrk true (updW W p (dcell [])))) P') (hW : G[gi]? = some (.wrk true W) := by rfl) (hN : N[i]? = some x := by rfl) (hv : locB sc x = true := by decide +kernel) (hi : i < G.length := by exact Nat.le_of_ble_eq_true rfl) (hne : i ≠ gi := by decide)
    (hs : swapsWith (.Dict [] [] p2) (some (.Name x p1)) pos.line X.env = pure false := by rfl) : DS X H0 S0 (.Assign [.Name x p1] (.Dict [] [] p2) pos :: rest) G P' := fun S F q H Dd E kk =>
  wSs_of (pss_cons (ps_set (i := i) (by rw [hX.eN]; exact hX.nd) (by rw [hX.eN]; exact hN) (by rw [hX.es]; exact loc_of hv) pe_dnewK hs (by
    rcases loc_of hv with z | z
    · exact .inr (by rw [hX.es]; exact z)
    · exact .inl (hX.fn rfl x))) pwSs) (fun p hp => by
      have Wp : W p = none := by
        cases e : W p with
        | none => rfl
        | some c => exact absurd hp (E.flv gi p (((E.wat hW).1 p).mpr (by rw [e]; exact Option.some_ne_none _)))
      have g : Grow S H S (upd H p (.dK [])) := Grow.alloc0 hp
      have E1 := E.grow g
      have E2 := E1.puti (i := i) hi (RepI.ref (H := upd H p (.dK [])) p)
      obtain ⟨F', E3⟩ := E2.wadd (gi := gi) (W := W) (p := p) (c := dcell []) (by rw [List.getElem?_set_ne hne]; exact hW) ⟨upd_same, nto_dK _⟩ (by rw [upd_same]; exact Option.some_ne_none _) (none_ext E.ext hp) (fun z => E.slv p z hp) (fun j z => by
        by_cases y : j = i
        · simp only [if_pos y] at z
        · simp only [if_neg y] at z; exact E.flv j p z hp)
      exact h p Wp S F' _ _ Dd E3 (kk.at_ g.keep))
/-- d.get(e, f) -/
theorem de_dget2 (gi : Nat) {o e f : Expr} {m : Bool} {W : Wk} {p : Addr} {d : Dic} {a z : Int} (hX : XOk P w K mg base k N sc fa X) (ho : DX X H0 S0 o G (.ref p)) (hp : W p = some (dcell d)) (he : DE X H0 S0 e G (.int a)) (hf : DE X H0 S0 f G (.int z)) (hW : G[gi]? = some (.wrk m W) := by rfl)
    (hm : M2 X o "get" apos e f cpos := by exact ⟨rfl, rfl, rfl, rfl⟩) : DE X H0 S0 (.Call (.Attribute o "get" apos) [e, f] [] cpos) G (.int ((getD_ d a).getD z)) := fun S F q H E Q kk =>
  wE_of (pe_dget2 hX.hu pwE pwE pwE hm) (ho S F q H E _ fun v H1 S1 g1 r1 => by
    cases r1
    have E1 := E.grow g1
    refine ⟨p, rfl, .inl ⟨_, .inl (dcell_at E1 hW hp)⟩, he S1 F q H1 E1 _ fun u H2 S2 g2 r2 => hf S2 F q H2 (E1.grow g2) _ fun t H3 S3 g3 r3 => ?_⟩
    cases r2; cases r3
    have E3 := (E1.grow g2).grow g3
    refine ⟨_, DGet.k (k := Sum.inl a) (dcell_at E3 hW hp), ?_⟩
    rw [valV_dkv]
    have e : ((getD_ d a).map V.int).getD (V.int z) = V.int ((getD_ d a).getD z) := by cases getD_ d a <;> rfl
    rw [e]
    exact kk _ H3 S3 ((g1.trans g2).trans g3) (.int _))
/-- d[e], there -/
theorem de_dgetI (gi : Nat) {o e : Expr} {m : Bool} {W : Wk} {p : Addr} {d : Dic} {a z : Int} (hX : XOk P w K mg base k N sc fa X) (ho : DX X H0 S0 o G (.ref p)) (hp : W p = some (dcell d)) (he : DE X H0 S0 e G (.int a)) (hz : getD_ d a = some z) (hW : G[gi]? = some (.wrk m W) := by rfl) (hi : NoSl e := by exact fun _ _ => rfl) : DE X H0 S0 (.Subscript o e pos) G (.int z) := fun S F q H E Q kk =>
  wE_of (pe_dget hX.hu pwE pwE hi) (ho S F q H E _ fun v H1 S1 g1 r1 => by
    cases r1
    have E1 := E.grow g1
    refine he S1 F q H1 E1 _ fun u H2 S2 g2 r2 => ?_
    cases r2
    have E2 := E1.grow g2
    have g := DGet.k (k := Sum.inl a) (dcell_at E2 hW hp)
    rw [valV_dkv, hz] at g
    exact ⟨p, V.int z, rfl, g, kk _ H2 S2 (g1.trans g2) (.int z)⟩)
/-- d[b] = e -/
theorem ds_dput (gi : Nat) {o b e : Expr} {rest : List Stmt} {W : Wk} {p : Addr} {d : Dic} {a z : Int} {P' : Out → Prop} {G' : List Slot} (hX : XOk P w K mg base k N sc fa X) (he : DE X H0 S0 e G (.int z)) (ho : DX X H0 S0 o G (.ref p)) (hp : W p = some (dcell d)) (hb : DE X H0 S0 b G (.int a)) (hl : d.length < 16777216) (h : DS X H0 S0 rest G' P') (hW : G[gi]? = some (.wrk true W) := by rfl)
    (hs : swapsWith e (some (.Subscript o b p2)) pos.line X.env = pure false := by rfl) (hG : G.set gi (.wrk true (updW W p (dcell (putD d a z)))) = G' := by first | (dsimp only [List.set, atS, slots, slotB] <;> rfl) | rfl) : DS X H0 S0 (.Assign [.Subscript o b p2] e pos :: rest) G P' := fun S F q H Dd E kk => by
  subst hG
  refine wSs_of (pss_cons (ps_dput hX.hu pwE pwE pwE hs) pwSs) (he S F q H E _ fun v H1 S1 g1 r1 => ho S1 F q H1 (E.grow g1) _ fun v2 H2 S2 g2 r2 => hb S2 F q H2 ((E.grow g1).grow g2) _ fun v3 H3 S3 g3 r3 => ?_)
  cases r1; cases r2; cases r3
  have E3 := ((E.grow g1).grow g2).grow g3
  have hH := dcell_at E3 hW hp
  have nt : NT H3 p := ((E3.wat hW).2 p _ hp).nt
  obtain ⟨F', E4⟩ := E3.wset hW (p := p) (u := .dK (dkv (putD d a z))) (c := dcell (putD d a z)) (by rw [hp]; exact Option.some_ne_none _) nt ⟨upd_same, nto_dK _⟩
  refine ⟨p, _, rfl, DPut.k (k := Sum.inl a) hH (by unfold dkv; rw [List.length_map, sizeLine_eq]; exact hl), ?_⟩
  rw [putK_dkv]
  exact h S3 F' q _ Dd E4 (kk.at_ (((g1.trans g2).trans g3).keep.trans (Keep.upd ((E3.wdom hW) p (by rw [hp]; exact Option.some_ne_none _)).2.2.1 nt)))
/-- sorted(d.keys()) -/
theorem do_sortedKeys (gi : Nat) {o : Expr} {m : Bool} {W : Wk} {p : Addr} {d : Dic} {ys : List Int} (hX : XOk P w K mg base k N sc fa X) (hm : mg "sorted" = none) (ho : DX X H0 S0 o G (.ref p)) (hp : W p = some (dcell d)) (h64 : d.length < 64) (hy : ys.Perm (d.map (·.1))) (hs : ys.Pairwise (· ≤ ·)) (hW : G[gi]? = some (.wrk m W) := by rfl) (hg : globB sc "sorted" = true := by decide +kernel)
    (hbase : attributeBase o "keys" X.env (eval o X.env) = eval o X.env := by rfl) (hline : (apos.endLine == cpos.line) = true := by rfl)
    (he : starEach [.Call (.Attribute o "keys" apos) [] [] cpos] X.env = (false, eval (.Call (.Attribute o "keys" apos) [] [] cpos) X.env) :: starEach [] X.env := by rfl) (hpl : (backTo pos (starEach [] X.env)).any (·.1) = false := by rfl) :
    DO X H0 S0 (.Call (.Name "sorted" p1) [.Call (.Attribute o "keys" apos) [] [] cpos] [] pos) G (ys.map PyData.int) := fun S F q H E Q kk =>
  wE_of (pe_sortedKeys hX.calm (hX.gl hg) (by rw [hX.emg]; exact hm) pwE hbase hline he hpl) (ho S F q H E _ fun v H1 S1 g1 r1 => by
    cases r1
    have E1 := E.grow g1
    refine ⟨p, _, d.map (·.1), rfl, .inl (dcell_at E1 hW hp), by unfold dkv; rw [List.map_map, List.map_map]; rfl, by rw [List.length_map]; exact h64, fun zs b h1 h2 hn => ?_⟩
    have e : zs = ys := (h1.trans hy.symm).eq_of_pairwise (fun x y _ _ a b => Int.le_antisymm a b) h2 hs
    subst e
    exact kk b _ _ S1 (g1.trans (Grow.alloc0 hn)) (none_ext g1.ext hn) (fun z => E1.slv b z hn) upd_same (Reps.ofInts _))
/-- range(i, j, c) -/
def rngC (lo c : Int) (n : Nat) : List Int := (List.range n).map fun (i : Nat) => lo + (i : Int) * c
theorem rngC_len (lo c : Int) (n : Nat) : (rngC lo c n).length = n := by unfold rngC; rw [List.length_map, List.length_range]
theorem rngC_get {lo c : Int} {n i : Nat} {d : D} (h : ((rngC lo c n).map PyData.int)[i]? = some d) : i < n ∧ d = .int (lo + (i : Int) * c) := by
  have hi : i < n := by
    have := (List.getElem?_eq_some_iff.mp h).1
    rw [List.length_map, rngC_len] at this
    exact this
  refine ⟨hi, ?_⟩
  unfold rngC at h
  rw [List.getElem?_map, List.getElem?_map, List.getElem?_range hi] at h
  exact (Option.some.inj h).symm
theorem di_range3 (hX : XOk P w K mg base k N sc fa X) (hr : mg "range" = none) {tg a b c : Expr} {lo hi st : Int} {n : Nat} (ha : DE X H0 S0 a G (.int lo)) (hb : DE X H0 S0 b G (.int hi)) (hc : DE X H0 S0 c G (.int st)) (h : RgC lo hi st n) (hg : globB sc "range" = true := by decide +kernel)
    (hs : starEach [a, b, c] X.env = (false, eval a X.env) :: starEach [b, c] X.env := by rfl) (hs2 : starEach [b, c] X.env = (false, eval b X.env) :: starEach [c] X.env := by rfl) (hs3 : starEach [c] X.env = (false, eval c X.env) :: starEach [] X.env := by rfl) (hpl : (backTo pos (starEach [b, c] X.env)).any (·.1) = false := by rfl) :
    DI X H0 S0 tg (.Call (.Name "range" p1) [a, b, c] [] pos) G ((rngC lo st n).map PyData.int) := by
  refine ⟨_, pi_range3 (hX.gl hg) (by rw [hX.emg]; exact hr) (pa_cons pwE (pa_cons pwE (pa_cons pwE pa_nil hs3) hs2) hs) hs hpl, fun S F q H E R kk => ha S F q H E _ fun v H1 S1 g1 r1 => hb S1 F q H1 (E.grow g1) _ fun u H2 S2 g2 r2 => hc S2 F q H2 ((E.grow g1).grow g2) _ fun t H3 S3 g3 r3 => ?_⟩
  cases r1
  cases r2
  cases r3
  refine ⟨lo, hi, st, n, rfl, h, kk _ H3 S3 ((g1.trans g2).trans g3) (fun i S4 H4 d c z hd => ?_) fun i S4 H4 c z hl => ?_⟩
  · obtain ⟨hi', rfl⟩ := rngC_get hd
    exact ⟨hi', fun x H5 y => ⟨S4, by rw [y.1]; exact Grow.refl S4 H4, by rw [y.2]; exact .int _⟩⟩
  · rw [List.length_map, rngC_len] at hl
    exact hl
/-- t + u of tuples, none empty -/
theorem de_catT {a b : Expr} {xs ys : List D} (ha : DE X H0 S0 a G (.tuple xs)) (hb : DE X H0 S0 b G (.tuple ys)) (hx : xs ≠ []) (hy : ys ≠ []) (hz : xs.length + ys.length ≤ 16777216) : DE X H0 S0 (.BinOp a .Add b pos) G (.tuple (xs ++ ys)) := fun S F q H E Q kk =>
  wE_of (pe_op op_catT pwE pwE) (ha S F q H E _ fun v H1 S1 g1 r1 => hb S1 F q H1 (E.grow g1) _ fun u H2 S2 g2 r2 => by
    cases r1 with
    | tup a1 a2 =>
      cases r2 with
      | tup b1 b2 =>
        have ne : ∀ {zs : List D} {vs : List V} {S : AS} {H : Hp}, Reps S H vs zs → zs ≠ [] → vs ≠ [] := fun r h e => by
          subst e
          cases r
          exact h rfl
        refine ⟨_, _, _, _, rfl, rfl, .inl (rd_keep (fun o z => g2.ext _ o z) a1), .inl b1, ne a2 hx, by rw [a2.len, b2.len, sizeLine_eq]; exact hz, fun e => absurd e (ne b2 hy), fun _ p hp => kk _ _ _ ((g1.trans g2).trans (Grow.alloc hp)) (.tup (.inl upd_same) (((a2.keep g2.keep).append b2).mono (fun _ z => .inl z) fun a o _ e => by rw [upd_ne (ne_of_none e hp)]; exact e))⟩)
end
end DL

/-! DLt: defs and methods that read a workspace handed in. -/
namespace DL
open PySem PySem.Spec PyProof.Rows L2
abbrev TrR := List Arg → Wk → (RV → Prop) → Prop
def startR (K : PySem.W.Frag) (N : List Str) (gi : Nat) (W : Wk) (as : List Arg) : List Slot := (atS N (as.map (Arg.slot K))).set gi (.wrk false W)
theorem start_okR {K : PySem.W.Frag} {N : List Str} {S : AS} {H : Hp} {W : Wk} {vs : List V} {as : List Arg} {gi : Nat} (r : RepsM K S H W vs as) (hg : as.length ≤ gi) (hN : gi < N.length) (lv : ∀ a, S a → H a ≠ none) (ok : ∀ a c, W a = some c → CellOk H a c) :
    ∃ F, EnvOk H S (startR K N gi W as) S F (L2.start N vs) H := by
  have hlen := r.len
  have hat : atS N (as.map (Arg.slot K)) = as.map (Arg.slot K) ++ List.replicate (N.length - as.length) .junk := by
    rw [atS_eq N _ (by rw [List.length_map]; omega), List.length_map]
  have glen : (startR K N gi W as).length = N.length := by
    unfold startR
    rw [List.length_set, hat, List.length_append, List.length_map, List.length_replicate]
    omega
  have gself : (startR K N gi W as)[gi]? = some (.wrk false W) := List.getElem?_set_self (by rw [hat, List.length_append, List.length_map, List.length_replicate]; omega)
  have gat : ∀ i s, i ≠ gi → (startR K N gi W as)[i]? = some s → (∃ a v, vs[i]? = some v ∧ RepM K S H W v a ∧ s = a.slot K) ∨ s = .junk := fun i s hne h => by
    unfold startR at h
    rw [List.getElem?_set_ne (Ne.symm hne), hat] at h
    by_cases hi : i < as.length
    · rw [List.getElem?_append_left (by rw [List.length_map]; exact hi), List.getElem?_map] at h
      rw [List.getElem?_eq_getElem hi] at h
      obtain ⟨v, h1, h2⟩ := r.at i as[i] (List.getElem?_eq_getElem hi)
      exact .inl ⟨_, v, h1, h2, (Option.some.inj h).symm⟩
    · rw [List.getElem?_append_right (by rw [List.length_map]; omega), List.getElem?_replicate] at h
      split at h
      · cases h; exact .inr rfl
      · cases h
  have qlen : (L2.start N vs).length = N.length := by
    unfold L2.start
    rw [List.length_append, List.length_map, List.length_replicate]
    omega
  have qat : ∀ i, i < N.length → ∃ o, (L2.start N vs)[i]? = some o := fun i hi => ⟨_, List.getElem?_eq_getElem (by omega)⟩
  have qv : ∀ i v, vs[i]? = some v → (L2.start N vs)[i]? = some (some v) := fun i v h => by
    have hi : i < vs.length := (List.getElem?_eq_some_iff.mp h).1
    unfold L2.start
    rw [List.getElem?_append_left (by rw [List.length_map]; exact hi), List.getElem?_map, h]
    rfl
  let F : Nat → AS := fun i a => (i = gi ∧ W a ≠ none) ∨ (i ≠ gi ∧ H a ≠ none ∧ ∃ K' l, (startR K N gi W as)[i]? = some (.bor K' l) ∧ vs[i]? = some (.ref a))
  have nof : ∀ i s, i ≠ gi → (startR K N gi W as)[i]? = some s → (∀ K' l, s ≠ .bor K' l) → ∀ a, ¬ F i a := by
    rintro i s hne h hs a (⟨z, _⟩ | ⟨_, _, K', l, q1, _⟩)
    · exact hne z
    · rw [h] at q1; exact hs K' l (Option.some.inj q1)
  refine ⟨F, ⟨by rw [glen, qlen], fun a o h => h, fun a h => .inl h, lv, ?_, ?_, ?_, ?_, ?_⟩⟩
  · rintro i a (⟨_, h⟩ | ⟨_, h, _⟩)
    · cases e : W a with
      | none => exact absurd e h
      | some c => exact (ok a c e).lv
    · exact h
  · intro i s h
    have hi : i < N.length := by rw [← glen]; exact (List.getElem?_eq_some_iff.mp h).1
    by_cases hne : i = gi
    · subst hne
      rw [gself] at h
      cases h
      obtain ⟨o, ho⟩ := qat i hi
      exact ⟨o, ho, fun a => ⟨fun z => z.elim (fun z => z.2) fun z => absurd rfl z.1, fun z => .inl ⟨rfl, z⟩⟩, ok⟩
    · rcases gat i s hne h with ⟨ar, v, h3, h4, h5⟩ | h3
      · refine ⟨some v, qv i v h3, ?_⟩
        subst h5
        cases h4 with
        | d r => exact ⟨nof i _ hne h (fun _ _ z => by cases z), v, rfl, r⟩
        | x r => exact ⟨nof i _ hne h (fun _ _ z => by cases z), v, rfl, r⟩
        | @l p ws l' hp r =>
          refine ⟨p, ws, rfl, ?_, hp.imp (fun z => ⟨.inr ⟨hne, rd_ex z.1, _, _, h, h3⟩, z.1⟩) id, r⟩
          rintro a (⟨z, _⟩ | ⟨_, _, K', l, q1, q2⟩)
          · exact absurd z hne
          · rw [h3] at q2; cases q2; rfl
      · obtain ⟨o, ho⟩ := qat i hi
        subst h3
        exact ⟨o, ho, nof i _ hne h (fun _ _ z => by cases z)⟩
  · intro i s h hm a ha
    by_cases hne : i = gi
    · subst hne
      rw [gself] at h
      cases h
      cases hm
    · rcases gat i s hne h with ⟨ar, v, h3, h4, h5⟩ | h3
      · subst h5
        cases ar <;> cases hm
      · subst h3; cases hm
  · rintro i hi a (⟨z, _⟩ | ⟨_, _, K', l, q1, _⟩)
    · rw [z, glen] at hi; omega
    · rw [List.getElem?_eq_none hi] at q1; cases q1
  · rintro i K' l h a (⟨z, _⟩ | ⟨_, hl, _⟩)
    · rw [z, gself] at h; cases h
    · exact hl
def spR (K : PySem.W.Frag) (T : TrR) : Sp := fun vs H Q _ => ∃ (S : AS) (W : Wk) (as : List Arg) (P' : RV → Prop), (∀ a, S a → H a ≠ none) ∧ (∀ a c, W a = some c → CellOk H a c) ∧ RepsM K S H W vs as ∧ T as W P' ∧
  (∀ d v S' H', P' (.val d) → (∀ a o, H a = some o → H' a = some o) → (∀ a, S' a → S a ∨ H a = none) → (∀ a, S' a → H' a ≠ none) → Rep S' H' v d → Q v H') ∧
  (∀ ds p vs S' H', P' (.own ds) → (∀ a o, H a = some o → H' a = some o) → (∀ a, S' a → S a ∨ H a = none) → (∀ a, S' a → H' a ≠ none) → H p = none → ¬ S' p → H' p = some (.lst vs) → Reps S' H' vs ds → Q (.ref p) H')
structure CalleeR (P : Program) (w : World) (K : PySem.W.Frag) (mg : Str → Option Value) (base : Heap) (k : Nat) (x : Str) (T : TrR) : Prop where
  ex : ∃ f fd ps, FnOk P w K mg base CX0 k f fd ps (spR K T) ∧ mg x = some (.ref f) ∧ PySem.W.keepIn K (.ref f) = true ∧ Binds K fd ps []
structure MethR (P : Program) (w : World) (K : PySem.W.Frag) (mg : Str → Option Value) (base : Heap) (k : Nat) (C : Addr) (m : Str) (T : TrR) : Prop where
  ex : ∃ f fd ps, FnOk P w K mg base CX0 k f fd ps (spR K T) ∧ Meth K C m f ∧ Binds K fd ps []
/-- what is told: r, with P' r -/
def DR (X : Cx) (H0 : Hp) (S0 : AS) (e : Expr) (G : List Slot) (P' : RV → Prop) : Prop := ∀ S F q H, EnvOk H0 S0 G S F q H → ∀ Q : VK, (∀ d v S' H', P' (.val d) → Grow S H S' H' → Rep S' H' v d → Q v H') →
  (∀ ds p vs S' H', P' (.own ds) → Grow S H S' H' → H p = none → ¬ S' p → H' p = some (.lst vs) → Reps S' H' vs ds → Q (.ref p) H') → wE X e q H Q
/-- .. and it is new -/
def DRn (X : Cx) (H0 : Hp) (S0 : AS) (e : Expr) (G : List Slot) (P' : RV → Prop) : Prop := ∀ S F q H, EnvOk H0 S0 G S F q H → ∀ Q : VK, (∀ H1 S1, Grow S H S1 H1 → ∀ v S' H', (∀ a o, H1 a = some o → H' a = some o) → (∀ a, S' a → H1 a = none ∧ H' a ≠ none) →
      ((∃ d, P' (.val d) ∧ Rep S' H' v d) ∨ (∃ ds p vs, P' (.own ds) ∧ v = .ref p ∧ H1 p = none ∧ ¬ S' p ∧ H' p = some (.lst vs) ∧ Reps S' H' vs ds)) → Q v H') → wE X e q H Q
inductive FlatA : List Arg → Prop
  | nil : FlatA []
  | d {u : D} {as : List Arg} : Flat u → FlatA as → FlatA (.d u :: as)
  | l {us : List D} {as : List Arg} : Flats us → FlatA as → FlatA (.l us :: as)
  | x {u : E} {as : List Arg} : FlatA as → FlatA (.x u :: as)
theorem RepsM.flat {K : PySem.W.Frag} {S S' : AS} {H : Hp} {W : Wk} : ∀ {vs : List V} {as : List Arg}, RepsM K S H W vs as → FlatA as → RepsM K S' H W vs as
  | _, _, .nil, _ => .nil
  | _, _, .cons (.d r) t, .d f g => .cons (.d (r.flat f)) (t.flat g)
  | _, _, .cons (.l h r) t, .l f g => .cons (.l h (r.flat f)) (t.flat g)
  | _, _, .cons (.x r) t, .x g => .cons (.x r) (t.flat g)
section
variable {P : Program} {w : World} {K : PySem.W.Frag} {mg : Str → Option Value} {base : Heap} {k : Nat} {N : List Str} {sc : Scope} {fa : Bool} {X : Cx} {H0 : Hp} {S0 : AS} {G G1 G2 : List Slot} {pos p1 p2 p3 p4 apos : Pos}
theorem fnok_ofR (gi : Nat) {x qual : Str} {st : Stmt} {f : Addr} {fd : FuncData} {N ps : List Str} {T : TrR} (F : Fun K x qual st f fd) (Sc : FnScope N ps (defScope st)) (hg : ps.length ≤ gi) (hN : gi < N.length)
    (hT : ∀ as W P', T as W P' → as.length = ps.length)
    (body : ∀ (X : Cx) (H0 : Hp) (S0 : AS) (as : List Arg) (W : Wk) (P' : RV → Prop), XOk P w K mg base k N (defScope st) true X → T as W P' → DS X H0 S0 (defBody st) (startR K N gi W as) (bodyP P')) : FnOk P w K mg base CX0 (k + 1) f fd ps (spR K T) := by
  refine F.ok Sc (fun vs H Q E h => ?_) (fun cdv A outer s H vs Q E hr h => ?_)
  · obtain ⟨S, W, as, P', _, _, r, ht, _⟩ := h
    rw [r.len]
    exact hT as W P' ht
  · obtain ⟨S, W, as, P', lv, ok, r, ht, k1, k2⟩ := h
    have hX : XOk P w K mg base k N (defScope st) true ((cxOf CX0 P w K mg base N qual (defScope st) f cdv A outer s H E).nox) := ⟨rfl, rfl, rfl, rfl, rfl, rfl, rfl, Sc.nd, rfl, hr, fun _ _ => rfl, PassesOwn.never⟩
    obtain ⟨F0, E0⟩ := start_okR (N := N) (gi := gi) r (by rw [hT as W P' ht]; exact hg) hN lv ok
    refine ⟨_, pwSs, body _ H S as W P' hX ht S F0 _ H _ E0 ⟨fun G S' F q H' h c E' => ?_, fun G S' F q H' h c E' => h.elim, fun G S' F q H' h c E' => h.elim, fun d v S' H' h ex sf sl r => k1 d v S' H' h ex sf sl r, fun ds p vs S' H' h ex sf sl hn hs hq r => k2 ds p vs S' H' h ex sf sl hn hs hq r, fun G F q e v S' H' h => h.elim⟩⟩
    exact k1 .none .non S' H' h E'.ext E'.sfr E'.slv .non
theorem calleeR_of (gi : Nat) {x qual : Str} {st : Stmt} {f : Addr} {fd : FuncData} {N ps : List Str} {T : TrR} (F : Fun K x qual st f fd) (Sc : FnScope N ps (defScope st)) (hm : mg x = some (.ref f)) (hb : Binds K fd ps []) (hT : ∀ as W P', T as W P' → as.length = ps.length)
    (body : ∀ (X : Cx) (H0 : Hp) (S0 : AS) (as : List Arg) (W : Wk) (P' : RV → Prop), XOk P w K mg base k N (defScope st) true X → T as W P' → DS X H0 S0 (defBody st) (startR K N gi W as) (bodyP P')) (hg : ps.length ≤ gi := by decide) (hN : gi < N.length := by decide) : CalleeR P w K mg base (k + 1) x T :=
  ⟨f, fd, ps, fnok_ofR gi F Sc hg hN hT body, hm, F.kp, hb⟩
theorem methR_of (gi : Nat) {C : Addr} {m x qual : Str} {st : Stmt} {f : Addr} {fd : FuncData} {N ps : List Str} {T : TrR} (F : Fun K x qual st f fd) (Sc : FnScope N ps (defScope st)) (hm : Meth K C m f) (hb : Binds K fd ps []) (hT : ∀ as W P', T as W P' → as.length = ps.length)
    (body : ∀ (X : Cx) (H0 : Hp) (S0 : AS) (as : List Arg) (W : Wk) (P' : RV → Prop), XOk P w K mg base k N (defScope st) true X → T as W P' → DS X H0 S0 (defBody st) (startR K N gi W as) (bodyP P')) (hg : ps.length ≤ gi := by decide) (hN : gi < N.length := by decide) : MethR P w K mg base (k + 1) C m T :=
  ⟨f, fd, ps, fnok_ofR gi F Sc hg hN hT body, hm, hb⟩
theorem methM_of (gi : Nat) {C : Addr} {m x qual : Str} {st : Stmt} {f : Addr} {fd : FuncData} {N ps : List Str} {T : TrM} (F : Fun K x qual st f fd) (Sc : FnScope N ps (defScope st)) (hm : Meth K C m f) (hb : Binds K fd ps []) (hT : ∀ as W P', T as W P' → as.length = ps.length)
    (body : ∀ (X : Cx) (H0 : Hp) (S0 : AS) (as : List Arg) (W : Wk) (P' : E → Wk → Prop), XOk P w K mg base k N (defScope st) true X → T as W P' → DS X H0 S0 (defBody st) (startM K N gi W as) (bodyM gi P')) (hg : ps.length ≤ gi := by decide) (hN : gi < N.length := by decide) : MethM P w K mg base (k + 1) C m T :=
  ⟨f, fd, ps, fnok_ofM gi F Sc hg hN hT body, hm, hb⟩
theorem makeM_of (gi : Nat) {C : Addr} {y x qual : Str} {st : Stmt} {f : Addr} {fd : FuncData} {N ps : List Str} {T : TrM} (F : Fun K x qual st f fd) (Sc : FnScope N ps (defScope st)) (hm : Mk K C f) (hy : mg y = some (.ref C)) (hb : Binds K fd ps []) (hT : ∀ as W P', T as W P' → as.length = ps.length)
    (body : ∀ (X : Cx) (H0 : Hp) (S0 : AS) (as : List Arg) (W : Wk) (P' : E → Wk → Prop), XOk P w K mg base k N (defScope st) true X → T as W P' → DS X H0 S0 (defBody st) (startM K N gi W as) (bodyM gi P')) (hg : ps.length ≤ gi := by decide) (hN : gi < N.length := by decide) : MakeM P w K mg base (k + 1) y C T :=
  ⟨f, fd, ps, fnok_ofM gi F Sc hg hN hT body, hm, hy, hb⟩
/-! ### calls -/
theorem dr_end {gi : Nat} {W : Wk} {m : Bool} {T : TrR} {as : List Arg} {P' : RV → Prop} {S S1 : AS} {F : Nat → AS} {q : L2.St} {H H1 : Hp} {vs : List V} {Q : VK} (E1 : EnvOk H0 S0 G S1 F q H1) (hW : G[gi]? = some (.wrk m W)) (g1 : Grow S H S1 H1) (r1 : RepsM K S1 H1 W vs as) (ht : T as W P')
    (k1 : ∀ d v S' H', P' (.val d) → Grow S H S' H' → Rep S' H' v d → Q v H')
    (k2 : ∀ ds p vs S' H', P' (.own ds) → Grow S H S' H' → H p = none → ¬ S' p → H' p = some (.lst vs) → Reps S' H' vs ds → Q (.ref p) H') : spR K T vs H1 Q (fun _ _ _ => True) := by
  refine ⟨S1, W, as, P', E1.slv, (E1.wat hW).2, r1, ht, fun d v S' H' hp ex nw lv r => ?_, fun d p vs S' H' hp ex nw lv hn hs hq r => ?_⟩
  · exact k1 d v (fun a => S1 a ∨ S' a) H' hp (g1.trans ⟨ex, fun a z => .inl z, fun a z => z.elim .inl (nw a), fun a z => z.imp id (lv a)⟩) (r.mono (fun a z => .inr z) fun _ _ _ z => z)
  · exact k2 d p vs (fun a => S1 a ∨ S' a) H' hp (g1.trans ⟨ex, fun a z => .inl z, fun a z => z.elim .inl (nw a), fun a z => z.imp id (lv a)⟩) (none_ext g1.ext hn) (fun z => z.elim (fun z => E1.slv p z hn) hs) hq (r.mono (fun a z => .inr z) fun _ _ _ z => z)
theorem drn_end {gi : Nat} {W : Wk} {m : Bool} {T : TrR} {as : List Arg} {P' : RV → Prop} {S S1 : AS} {F : Nat → AS} {q : L2.St} {H H1 : Hp} {vs : List V} {Q : VK} (E1 : EnvOk H0 S0 G S1 F q H1) (hW : G[gi]? = some (.wrk m W)) (g1 : Grow S H S1 H1) (r1 : RepsM K S1 H1 W vs as) (hf : FlatA as) (ht : T as W P')
    (kk : ∀ H1 S1, Grow S H S1 H1 → ∀ v S' H', (∀ a o, H1 a = some o → H' a = some o) → (∀ a, S' a → H1 a = none ∧ H' a ≠ none) →
      ((∃ d, P' (.val d) ∧ Rep S' H' v d) ∨ (∃ ds p vs, P' (.own ds) ∧ v = .ref p ∧ H1 p = none ∧ ¬ S' p ∧ H' p = some (.lst vs) ∧ Reps S' H' vs ds)) → Q v H') : spR K T vs H1 Q (fun _ _ _ => True) := by
  refine ⟨fun _ => False, W, as, P', fun _ h => h.elim, (E1.wat hW).2, r1.flat hf, ht, fun d v S' H' hp ex nw lv r => ?_, fun d p vs S' H' hp ex nw lv hn hs hq r => ?_⟩
  · exact kk H1 S1 g1 v S' H' ex (fun a z => ⟨(nw a z).elim False.elim id, lv a z⟩) (.inl ⟨d, hp, r⟩)
  · exact kk H1 S1 g1 _ S' H' ex (fun a z => ⟨(nw a z).elim False.elim id, lv a z⟩) (.inr ⟨d, p, vs, hp, rfl, hn, hs, hq, r⟩)
theorem dr_call (gi : Nat) {j : Nat} {W : Wk} {m : Bool} {T : TrR} {x : Str} {e : Expr} {es : List Expr} {as : List Arg} {P' : RV → Prop} (hX : XOk P w K mg base k N sc fa X) (c : CalleeR P w K mg base j x T) (ha : DAM X H0 S0 W (e :: es) G as) (ht : T as W P') (hW : G[gi]? = some (.wrk m W) := by rfl) (hj : j ≤ k := by decide) (hg : globB sc x = true := by decide +kernel)
    (hdb : (x == ("__debug__" : Str)) = false := by decide) (he : starEach (e :: es) X.env = (false, eval e X.env) :: starEach es X.env := by rfl) (hpl : (backTo pos (starEach es X.env)).any (·.1) = false := by rfl) : DR X H0 S0 (.Call (.Name x p1) (e :: es) [] pos) G P' := by
  obtain ⟨f, fd, ps, FO, hm, hk, hb⟩ := c.ex
  cases hX.eP
  cases hX.ew
  cases hX.eK
  cases hX.emg
  cases hX.eb
  intro S F q H E Q k1 k2
  refine wE_of (pe_call FO (hX.room.mono hj) (hX.gl hg) hm hk hb .nil pass0 pwA hdb he hpl) (ha S F q H E _ fun vs H1 S1 g1 r1 => ?_)
  rw [List.append_nil]
  exact dr_end (E.grow g1) hW g1 r1 ht k1 k2
theorem drn_call (gi : Nat) {j : Nat} {W : Wk} {m : Bool} {T : TrR} {x : Str} {e : Expr} {es : List Expr} {as : List Arg} {P' : RV → Prop} (hX : XOk P w K mg base k N sc fa X) (c : CalleeR P w K mg base j x T) (ha : DAM X H0 S0 W (e :: es) G as) (hf : FlatA as) (ht : T as W P') (hW : G[gi]? = some (.wrk m W) := by rfl) (hj : j ≤ k := by decide) (hg : globB sc x = true := by decide +kernel)
    (hdb : (x == ("__debug__" : Str)) = false := by decide) (he : starEach (e :: es) X.env = (false, eval e X.env) :: starEach es X.env := by rfl) (hpl : (backTo pos (starEach es X.env)).any (·.1) = false := by rfl) : DRn X H0 S0 (.Call (.Name x p1) (e :: es) [] pos) G P' := by
  obtain ⟨f, fd, ps, FO, hm, hk, hb⟩ := c.ex
  cases hX.eP
  cases hX.ew
  cases hX.eK
  cases hX.emg
  cases hX.eb
  intro S F q H E Q kk
  refine wE_of (pe_call FO (hX.room.mono hj) (hX.gl hg) hm hk hb .nil pass0 pwA hdb he hpl) (ha S F q H E _ fun vs H1 S1 g1 r1 => ?_)
  rw [List.append_nil]
  exact drn_end (E.grow g1) hW g1 r1 hf ht kk
theorem dr_meth (gi : Nat) {j : Nat} {W : Wk} {mm : Bool} {T : TrR} {m : Str} {o e : Expr} {es : List Expr} {x C dx : Addr} {fs : List (Str × V)} {as : List Arg} {P' : RV → Prop} {pl : Sem Bool} (hX : XOk P w K mg base k N sc fa X) (c : MethR P w K mg base j C m T) (cl : Cls K C) (ho : DX X H0 S0 o G (.ref x)) (hp : W x = some (icell C dx fs)) (hl : fs.lookup m = none) (ha : DAM X H0 S0 W (e :: es) G as) (ht : T (.x (.ref x) :: as) W P') (hW : G[gi]? = some (.wrk mm W) := by rfl) (hj : j ≤ k := by decide)
    (hst : starEach (e :: es) X.env = (false, eval e X.env) :: starEach es X.env := by rfl) (hpl : (backTo pos (starEach es X.env)).any (·.1) = false := by rfl)
    (het : eval (.Call (.Attribute o m apos) (e :: es) [] pos) X.env = (do
      let ov ← eval o X.env
      standAt apos.atName
      let (f, first) ← holding [ov] (getMethod ov m pl)
      callWith pos f first (backTo pos (starEach (e :: es) X.env)) (backToKw pos (keywordEach [] X.env))) := by rfl) : DR X H0 S0 (.Call (.Attribute o m apos) (e :: es) [] pos) G P' := by
  obtain ⟨f, fd, ps, FO, hm, hb⟩ := c.ex
  cases hX.eP
  cases hX.ew
  cases hX.eK
  cases hX.emg
  cases hX.eb
  intro S F q H E Q k1 k2
  refine wE_of (pe_meth pwE cl hm FO (hX.room.mono hj) hb .nil pass0 pwA hst hpl het) (ho S F q H E _ fun v H1 S1 g1 r1 => ?_)
  cases r1
  have E1 := E.grow g1
  refine ⟨x, dx, fs, rfl, icell_at E1 hW hp, hl, ha S1 F q H1 E1 _ fun vs H2 S2 g2 r2 => ?_⟩
  rw [List.append_nil]
  exact dr_end (E1.grow g2) hW (g1.trans g2) (.cons (.x (.ref x)) r2) ht k1 k2
theorem drn_meth (gi : Nat) {j : Nat} {W : Wk} {mm : Bool} {T : TrR} {m : Str} {o e : Expr} {es : List Expr} {x C dx : Addr} {fs : List (Str × V)} {as : List Arg} {P' : RV → Prop} {pl : Sem Bool} (hX : XOk P w K mg base k N sc fa X) (c : MethR P w K mg base j C m T) (cl : Cls K C) (ho : DX X H0 S0 o G (.ref x)) (hp : W x = some (icell C dx fs)) (hl : fs.lookup m = none) (ha : DAM X H0 S0 W (e :: es) G as) (hf : FlatA as) (ht : T (.x (.ref x) :: as) W P') (hW : G[gi]? = some (.wrk mm W) := by rfl) (hj : j ≤ k := by decide)
    (hst : starEach (e :: es) X.env = (false, eval e X.env) :: starEach es X.env := by rfl) (hpl : (backTo pos (starEach es X.env)).any (·.1) = false := by rfl)
    (het : eval (.Call (.Attribute o m apos) (e :: es) [] pos) X.env = (do
      let ov ← eval o X.env
      standAt apos.atName
      let (f, first) ← holding [ov] (getMethod ov m pl)
      callWith pos f first (backTo pos (starEach (e :: es) X.env)) (backToKw pos (keywordEach [] X.env))) := by rfl) : DRn X H0 S0 (.Call (.Attribute o m apos) (e :: es) [] pos) G P' := by
  obtain ⟨f, fd, ps, FO, hm, hb⟩ := c.ex
  cases hX.eP
  cases hX.ew
  cases hX.eK
  cases hX.emg
  cases hX.eb
  intro S F q H E Q kk
  refine wE_of (pe_meth pwE cl hm FO (hX.room.mono hj) hb .nil pass0 pwA hst hpl het) (ho S F q H E _ fun v H1 S1 g1 r1 => ?_)
  cases r1
  have E1 := E.grow g1
  refine ⟨x, dx, fs, rfl, icell_at E1 hW hp, hl, ha S1 F q H1 E1 _ fun vs H2 S2 g2 r2 => ?_⟩
  rw [List.append_nil]
  exact drn_end (E1.grow g2) hW (g1.trans g2) (.cons (.x (.ref x)) r2) (.x hf) ht kk
theorem dr_meth0 (gi : Nat) {j : Nat} {W : Wk} {mm : Bool} {T : TrR} {m : Str} {o : Expr} {x C dx : Addr} {fs : List (Str × V)} {P' : RV → Prop} {pl : Sem Bool} (hX : XOk P w K mg base k N sc fa X) (c : MethR P w K mg base j C m T) (cl : Cls K C) (ho : DX X H0 S0 o G (.ref x)) (hp : W x = some (icell C dx fs)) (hl : fs.lookup m = none) (ht : T [.x (.ref x)] W P') (hW : G[gi]? = some (.wrk mm W) := by rfl) (hj : j ≤ k := by decide)
    (het : eval (.Call (.Attribute o m apos) [] [] pos) X.env = (do
      let ov ← eval o X.env
      standAt apos.atName
      let (f, first) ← holding [ov] (getMethod ov m pl)
      callWith pos f first (backTo pos (starEach [] X.env)) (backToKw pos (keywordEach [] X.env))) := by rfl) : DR X H0 S0 (.Call (.Attribute o m apos) [] [] pos) G P' := by
  obtain ⟨f, fd, ps, FO, hm, hb⟩ := c.ex
  cases hX.eP
  cases hX.ew
  cases hX.eK
  cases hX.emg
  cases hX.eb
  intro S F q H E Q k1 k2
  refine wE_of (pe_meth0 pwE cl hm FO (hX.room.mono hj) hb .nil pass0 het) (ho S F q H E _ fun v H1 S1 g1 r1 => ?_)
  cases r1
  have E1 := E.grow g1
  exact ⟨x, dx, fs, rfl, icell_at E1 hW hp, hl, dr_end E1 hW g1 (.cons (.x (.ref x)) .nil) ht k1 k2⟩
theorem de_r {e : Expr} {d : D} (h : DR X H0 S0 e G (fun r => r.dat = d)) : DE X H0 S0 e G d := fun S F q H E Q kk => h S F q H E Q (fun d' v S' H' hp g r => by
    have hp' : d' = d := hp
    subst hp'
    exact kk v H' S' g r) fun l p vs S' H' hp g hn hs hq r => by
    have hp' : PyData.list l = d := hp
    subst hp'
    exact kk _ H' (fun a => S' a ∨ a = p) ⟨g.ext, fun a z => .inl (g.sub a z), fun a z => z.elim (g.new a) fun z => .inr (by rw [z]; exact hn), fun a z => z.elim (g.lv a) fun z => .inr (by rw [z, hq]; exact Option.some_ne_none _)⟩
      (.lst (.inr rfl) hq (r.mono (fun _ z => .inl z) fun _ _ _ z => z))
theorem do_r {e : Expr} {l : List D} (h : DR X H0 S0 e G (fun r => r = .own l)) : DO X H0 S0 e G l := fun S F q H E Q kk => h S F q H E Q (fun d' v S' H' hp g r => by cases hp) fun l' p vs S' H' hp g hn hs hq r => by
    cases hp
    exact kk p vs H' S' g hn hs hq r
theorem DR.imp {e : Expr} {P1 P2 : RV → Prop} (h : DR X H0 S0 e G P1) (i : ∀ r, P1 r → P2 r) : DR X H0 S0 e G P2 := fun S F q H E Q k1 k2 => h S F q H E Q (fun d v S' H' hp => k1 d v S' H' (i _ hp)) fun ds p vs S' H' hp => k2 ds p vs S' H' (i _ hp)
/-- x = e, e told new: by cells -/
theorem ds_setRn (i gi : Nat) {W : Wk} {x : Str} {e : Expr} {P'' : RV → Prop} {rest : List Stmt} {P' : Out → Prop} (hX : XOk P w K mg base k N sc true X) (he : DRn X H0 S0 e G P'')
    (h : ∀ r W' it, P'' r → (∀ a c, W a = some c → W' a = some c) → Thaw (fun a => match W a with | some _ => none | none => W' a) it r.dat → DS X H0 S0 rest ((G.set i (.itm it)).set gi (.wrk true W')) P') (hW : G[gi]? = some (.wrk true W) := by rfl) (hN : N[i]? = some x := by rfl) (hv : locB sc x = true := by decide +kernel) (hi : i < G.length := by exact Nat.le_of_ble_eq_true rfl) (hne : i ≠ gi := by decide)
    (hs : swapsWith e (some (.Name x p3)) pos.line X.env = pure false := by rfl) : DS X H0 S0 (.Assign [.Name x p3] e pos :: rest) G P' := fun S F q H Dd E kk => by
  refine wSs_of (pss_cons (ps_set (i := i) (by rw [hX.eN]; exact hX.nd) (by rw [hX.eN]; exact hN) (by rw [hX.es]; exact loc_of hv) pwE hs (by
    rcases loc_of hv with z | z
    · exact .inr (by rw [hX.es]; exact z)
    · exact .inl (hX.fn rfl x))) pwSs) (he S F q H E _ fun H1 S1 g1 v S' H' ex nw hr => ?_)
  have gr : Grow S H S1 H' := ⟨fun a o z => ex a o (g1.ext a o z), g1.sub, g1.new, fun a z => (g1.lv a z).imp id fun z => ne_none_ext ex z⟩
  have E1 := E.grow g1
  have E2 := E.grow gr
  have dom1 := E1.wdom hW
  obtain ⟨r, W1, it, a1, _, a3, a4, a5⟩ := rv_thaw (W := fun _ => none) (fun a z => absurd rfl z) (fun a z => (nw a z).1) hr
  have dj : ∀ a c, W1 a = some c → W a = none := fun a c z => by
    rcases a3 a c z with y | ⟨y, _⟩
    · cases y
    · cases e : W a with
      | none => rfl
      | some c' => exact absurd y (dom1 a (by rw [e]; exact Option.some_ne_none _)).1
  let W' : Wk := fun a => match W a with | some c => some c | none => W1 a
  have w1 : ∀ a c, W a = some c → W' a = some c := fun a c z => by show (match W a with | some c => some c | none => W1 a) = some c; rw [z]
  have w2 : ∀ a, W a = none → W' a = W1 a := fun a z => by show (match W a with | some c => some c | none => W1 a) = W1 a; rw [z]
  have w3 : ∀ a c, W' a = some c → W a = some c ∨ (W a = none ∧ W1 a = some c) := fun a c z => by
    cases y : W a with
    | none => rw [w2 a y] at z; exact .inr ⟨rfl, z⟩
    | some c' => rw [w1 a c' y] at z; exact .inl z
  have E3 := E2.puti (i := i) hi a4
  have hW3 : (G.set i (.itm it))[gi]? = some (.wrk true W) := by rw [List.getElem?_set_ne hne]; exact hW
  have E4 := E3.wput (gi := gi) (W := W) (W' := W') (by rw [List.length_set]; exact (List.getElem?_eq_some_iff.mp hW).1) (E3.wdom hW3) (fun a c z => (w3 a c z).elim (fun z => (E3.wat hW3).2 a c z) fun z => (a3 a c z.2).elim (fun y => by cases y) fun y => y.2) (fun a z => by
    cases e : W' a with
    | none => exact absurd e z
    | some c =>
      rcases w3 a c e with y | ⟨_, y⟩
      · exact .inl (by rw [y]; exact Option.some_ne_none _)
      · rcases a3 a c y with y | ⟨y1, y2⟩
        · cases y
        refine .inr ⟨y2.lv, none_ext E1.ext y1, fun u => E1.slv a u y1, fun j _ u => ?_⟩
        by_cases w0 : j = i
        · simp only [if_pos w0] at u
        · simp only [if_neg w0] at u; exact E1.flv j a u y1)
  refine h r W' it a1 w1 (a5.mono fun a c z => ?_) S1 _ _ H' Dd E4 (kk.at_ gr.keep)
  show (match W a with | some _ => none | none => W' a) = some c
  rw [dj a c z]
  show W' a = some c
  rw [w2 a (dj a c z)]
  exact z
end
end DL

/-! DLu: texts; constants; lists of the workspace that objects hold. -/
namespace DL
open PySem PySem.Spec PyProof.Rows L2
/-! ### list.remove, by data -/
def rRemD (K : PySem.W.Frag) : V → List V → Hp → VK → Prop := fun x xs H Q => ∃ (a : Addr) (y : V) (d : PyData) (vs : List V) (ds : List PyData) (j : Nat), x = V.ref a ∧ xs = [y] ∧ H a = some (.lst vs) ∧ DpAll K H vs ds ∧ Dp K H y d ∧
  PyData.plainAll ds = true ∧ d.plain = true ∧ PyData.depthAll ds ≤ 60 ∧ SeqAt.dataPlace ds d = some j ∧ Q .non (upd H a (.lst (vs.eraseIdx j)))
theorem mt_removeD {X : Cx} (hu : X.A.units + 64 < cLine) : MtM X "list.remove" (rRemD X.K) := by
  intro pins s σ H x xs v us Q I rx rxs h
  obtain ⟨a, y, d, vs, ds, j, rfl, rfl, hH, hl, hy, pl, pd, dp, hj, q⟩ := h
  cases rx
  obtain ⟨u, rfl, ru⟩ := rxs.one
  obtain ⟨z, its, n, r, hlen, e⟩ := I.lstM hH
  obtain ⟨bs, r1⟩ := Dp.reads I d y u hy ru
  obtain ⟨as, h4⟩ := Dp.readsAll I ds _ its hl r
  refine SeqAt.remove_list_data (vs := its.toArray) (xs := ds) (d := d) (as := as) (bs := bs) (j := j) ⟨_, e, rfl, n, rfl⟩ h4 r1 pl pd (by omega) hj (by rw [List.size_toArray]; omega) ?_
  have rr := r.eraseIdx j
  refine ⟨.non, _, I.lset (its' := its.eraseIdx j) (t' := s.toks) hH e ?_ rr ?_, rfl, q⟩
  · show its.toArray.eraseIdxIfInBounds j = (its.eraseIdx j).toArray
    rw [List.eraseIdxIfInBounds_toArray]
  · have z2 := len_erase vs j
    omega
/-! ### texts -/
theorem inV_str (z : Str) : ∀ ns : List Str, inV (.str z) (ns.map V.str) = ns.contains z
  | [] => rfl
  | n :: r => by
    have ih := inV_str z r
    unfold inV at ih ⊢
    rw [List.map_cons, List.any_cons, ih, List.contains_cons]
    have e : eqV (V.str n) (V.str z) = (z == n) := by
      show (n == z) = (z == n)
      rw [Bool.eq_iff_iff, beq_iff_eq, beq_iff_eq]
      exact ⟨fun z => z.symm, fun z => z.symm⟩
    rw [e]
theorem flat_strs (ns : List Str) : (ns.map V.str).all flatV = true := by
  rw [List.all_map]
  exact List.all_eq_true.mpr fun _ _ => rfl
theorem idx_ne : ∀ (zs : List Str) (z : Str) (m : Nat), m < zs.idxOf z → zs[m]? ≠ some z
  | [], z, m, h => by simp at h
  | y :: zs, z, m, h => by
    rw [List.idxOf_cons] at h
    by_cases e : (y == z) = true
    · rw [e] at h
      exact absurd h (Nat.not_lt_zero _)
    · rw [Bool.not_eq_true] at e
      rw [e] at h
      cases m with
      | zero =>
        intro q
        cases q
        rw [beq_self_eq_true] at e
        cases e
      | succ m => exact idx_ne zs z m (by simpa using h)
def chD (c : Nat) : D := .str ⟨#[c]⟩
section
variable {P : Program} {w : World} {K : PySem.W.Frag} {mg : Str → Option Value} {base : Heap} {k : Nat} {N : List Str} {sc : Scope} {fa : Bool} {X : Cx} {H0 : Hp} {S0 : AS} {G G1 G2 : List Slot} {pos p1 p2 p3 p4 apos cpos : Pos}
theorem dt_ninS {a b : Expr} {z : Str} {ns : List Str} (ha : DE X H0 S0 a G (.str z)) (hb : DLs X H0 S0 b G (ns.map PyData.str)) (hm : behindInMarks .NotIn b = false := by rfl) : DT X H0 S0 (.Compare a [.NotIn] [b] pos) G (!ns.contains z) := fun S F q H E Q kk =>
  wT_of (pt_cmpR op_notIn_seq pwE pwE hm) (ha S F q H E _ fun v H1 S1 g1 r1 => hb S1 F q H1 (E.grow g1) _ fun p vs H2 S2 g2 h2 r2 => by
    cases r1
    have e := r2.strs
    subst e
    exact ⟨p, _, rfl, .inl h2, rfl, flat_strs ns, _, rfl, by rw [inV_str]; exact kk H2 S2 (g1.trans g2)⟩)
theorem dt_inS {a b : Expr} {z : Str} {ns : List Str} (ha : DE X H0 S0 a G (.str z)) (hb : DLs X H0 S0 b G (ns.map PyData.str)) (hm : behindInMarks .In b = false := by rfl) : DT X H0 S0 (.Compare a [.In] [b] pos) G (ns.contains z) := fun S F q H E Q kk =>
  wT_of (pt_cmpR op_in_seq pwE pwE hm) (ha S F q H E _ fun v H1 S1 g1 r1 => hb S1 F q H1 (E.grow g1) _ fun p vs H2 S2 g2 h2 r2 => by
    cases r1
    have e := r2.strs
    subst e
    exact ⟨p, _, rfl, .inl h2, rfl, flat_strs ns, _, rfl, by rw [inV_str]; exact kk H2 S2 (g1.trans g2)⟩)
theorem dt_ninC {a b : Expr} {c : Nat} {z : Str} (ha : DE X H0 S0 a G (chD c)) (hb : DE X H0 S0 b G (.str z)) (hm : behindInMarks .NotIn b = false := by rfl) : DT X H0 S0 (.Compare a [.NotIn] [b] pos) G (!decide (c ∈ z.cps.toList)) :=
  dt_cmp op_notIn_sign ha hb hm fun S H v u Q r1 r2 h => by
    cases r1; cases r2
    exact ⟨c, z, rfl, rfl, h⟩
theorem di_str {tg e : Expr} {z : Str} (he : DE X H0 S0 e G (.str z)) : DI X H0 S0 tg e G (z.cps.toList.map chD) := by
  refine ⟨_, pi_str pwE, fun S F q H E R kk => he S F q H E _ fun v H1 S1 g1 r1 => ?_⟩
  cases r1
  refine ⟨z, rfl, kk _ H1 S1 g1 (fun i S2 H2 d c _ hd => ?_) fun i S2 H2 c _ hl => ?_⟩
  · rw [List.getElem?_map] at hd
    cases ez : z.cps.toList[i]? with
    | none => rw [ez] at hd; cases hd
    | some c0 =>
      rw [ez] at hd
      cases hd
      have hc : z.cps[i]? = some c0 := by rw [← Array.getElem?_toList]; exact ez
      have il : i < z.cps.size := (Array.getElem?_eq_some_iff.mp hc).1
      exact ⟨il, fun x H3 y => ⟨S2, by rw [y.1]; exact Grow.refl S2 H2, by
        obtain ⟨_, c1, e1, rfl⟩ := y
        rw [hc] at e1
        cases e1
        exact .str _⟩⟩
  · rw [List.length_map, Array.length_toList] at hl
    exact hl
theorem de_sls {a : Expr} {lo hi : Option Expr} {l u : Option Int} {z : Str} (ha : DE X H0 S0 a G (.str z)) (hz : z.length ≤ sizeLine) (hl : DPo X H0 S0 lo G l) (hu : DPo X H0 S0 hi G u) : DE X H0 S0 (.Subscript a (.Slice lo hi none p2) pos) G (.str (cutS z l u)) := fun S F q H E Q kk => by
  obtain ⟨tl, pl, hl⟩ := hl
  obtain ⟨tu, pu, hu⟩ := hu
  refine wE_of (pe_slice sl_str pwE pl pu) (ha S F q H E _ fun v H1 S1 g1 r1 => hl S1 F q H1 (E.grow g1) _ fun H2 S2 g2 => hu S2 F q H2 ((E.grow g1).grow g2) _ fun H3 S3 g3 => ?_)
  cases r1
  exact ⟨z, rfl, hz, kk _ H3 S3 ((g1.trans g2).trans g3) (.str _)⟩
theorem de_ixs {a b : Expr} {z : Str} {i : Int} {c : Nat} (ha : DE X H0 S0 a G (.str z)) (hz : z.length ≤ sizeLine) (hb : DE X H0 S0 b G (.int i)) (h : atI z.cps.toList i = some c) (hp : PlainIx b := by exact fun _ _ => rfl) : DE X H0 S0 (.Subscript a b pos) G (chD c) := fun S F q H E Q kk =>
  wE_of (pe_ix ix_str pwE pwE hp) (ha S F q H E _ fun v H1 S1 g1 r1 => hb S1 F q H1 (E.grow g1) _ fun u H2 S2 g2 r2 => by
    cases r1; cases r2
    exact ⟨z, i, c, rfl, rfl, hz, h, kk _ H2 S2 (g1.trans g2) (.str _)⟩)
theorem de_lens {a : Expr} {z : Str} (hX : XOk P w K mg base k N sc fa X) (hm : mg "len" = none) (ha : DE X H0 S0 a G (.str z)) (hz : z.length ≤ sizeLine) (hg : globB sc "len" = true := by decide +kernel) (he : starEach [a] X.env = (false, eval a X.env) :: starEach [] X.env := by rfl) (hpl : (backTo pos (starEach [] X.env)).any (·.1) = false := by rfl) :
    DE X H0 S0 (.Call (.Name "len" p1) [a] [] pos) G (.int (z.length : Int)) := fun S F q H E Q kk =>
  wE_of (pe_callB call_len_str (hX.gl hg) (by rw [hX.emg]; exact hm) PySem.boot_len (pa_cons pwE pa_nil he) (by decide) (by decide) he hpl) (ha S F q H E _ fun v H1 S1 g1 r1 => by
    cases r1
    exact ⟨z, rfl, hz, kk _ H1 S1 g1 (.int _)⟩)
/-- a constant of the module -/
def Con (mg : Str → Option Value) (x : Str) (v : V) : Prop := ∃ u, mg x = some u ∧ RelV v u
theorem de_cstr (hX : XOk P w K mg base k N sc fa X) {x z : Str} (hc : Con mg x (.str z)) (hg : globB sc x = true := by decide +kernel) (hd : (x == ("__debug__" : Str)) = false := by decide) : DE X H0 S0 (.Name x pos) G (.str z) := fun S F q H E Q kk => by
  obtain ⟨u, h1, h2⟩ := hc
  exact wE_of (pe_glob (hX.gl hg) (by rw [hX.emg]; exact h1) h2 hd) (kk _ H S (Grow.refl S H) (.str _))
theorem de_cint (hX : XOk P w K mg base k N sc fa X) {x : Str} {z : Int} (hc : Con mg x (.int z)) (hg : globB sc x = true := by decide +kernel) (hd : (x == ("__debug__" : Str)) = false := by decide) : DE X H0 S0 (.Name x pos) G (.int z) := fun S F q H E Q kk => by
  obtain ⟨u, h1, h2⟩ := hc
  exact wE_of (pe_glob (hX.gl hg) (by rw [hX.emg]; exact h1) h2 hd) (kk _ H S (Grow.refl S H) (.int _))
/-- a slice of a tuple, not of all of it -/
theorem de_slT {a : Expr} {lo hi : Option Expr} {l u : Option Int} {ds : List D} (ha : DE X H0 S0 a G (.tuple ds)) (hl : DPo X H0 S0 lo G l) (hu : DPo X H0 S0 hi G u) (hn : ¬ (HT.sIx ds.length 0 l = 0 ∧ HT.sIx ds.length ds.length u = ds.length)) : DE X H0 S0 (.Subscript a (.Slice lo hi none p2) pos) G (.tuple (cutD ds l u)) := fun S F q H E Q kk => by
  obtain ⟨tl, pl, hl⟩ := hl
  obtain ⟨tu, pu, hu⟩ := hu
  refine wE_of (pe_slice sl_tup pwE pl pu) (ha S F q H E _ fun v H1 S1 g1 r1 => hl S1 F q H1 (E.grow g1) _ fun H2 S2 g2 => hu S2 F q H2 ((E.grow g1).grow g2) _ fun H3 S3 g3 => ?_)
  have g23 := g2.trans g3
  cases r1 with
  | tup h2 h3 =>
    refine ⟨_, _, rfl, .inl (rd_keep (fun o z => g23.ext _ o z) h2), by rw [h3.len]; exact hn, fun p' hp => kk _ _ _ ((g1.trans g23).trans (Grow.alloc hp)) (.tup (.inl upd_same) ?_)⟩
    exact (cut_rep (h3.keep g23.keep) l u).mono (fun _ z => .inl z) fun a o _ e => by rw [upd_ne (ne_of_none e hp)]; exact e
/-- xs.index(z) -/
theorem de_indexS {o e : Expr} {zs : List Str} {z : Str} (ho : DLs X H0 S0 o G (zs.map PyData.str)) (he : DE X H0 S0 e G (.str z)) (hm : z ∈ zs)
    (hbase : attributeBase o "index" X.env (eval o X.env) = eval o X.env := by rfl)
    (hfew : ((backTo cpos (starEach [e] X.env)).all (fun x => !x.1) && (backToKw cpos (keywordEach [] X.env)).all (fun x => x.1.isSome)
      && decide ([e].length + ([] : List Keyword).length + (if ([] : List Keyword).isEmpty then 0 else 1) < 30)) = true := by rfl)
    (hline : (apos.endLine == cpos.line) = true := by rfl) (hs : starEach [e] X.env = (false, eval e X.env) :: starEach [] X.env := by rfl) (hplain : (backTo cpos (starEach [] X.env)).any (·.1) = false := by rfl) :
    DE X H0 S0 (.Call (.Attribute o "index" apos) [e] [] cpos) G (.int (zs.idxOf z : Int)) := fun S F q H E Q kk =>
  wE_of (pe_bm PySem.F.plainAttrs_list PySem.F.slot_list_index PySem.F.type_list_index mt_index pwE (pa_cons pwE pa_nil hs) hbase hfew hline hs hplain) (ho S F q H E _ fun p vs H1 S1 g1 h1 r1 => by
    have ev := r1.strs
    subst ev
    refine ⟨.inl ⟨rfl, _, h1⟩, he S1 F q H1 (E.grow g1) _ fun v H2 S2 g2 r2 => ?_⟩
    cases r2
    have il : zs.idxOf z < zs.length := List.idxOf_lt_length_iff.mpr hm
    have at_ : zs[zs.idxOf z]? = some z := by rw [List.getElem?_eq_getElem il, List.getElem_idxOf]
    refine ⟨p, _, .str z, zs.idxOf z, .str z, rfl, rfl, sql_ext g2.ext h1, rfl, flat_strs zs, by rw [List.getElem?_map, at_]; rfl, by show (z == z) = true; exact beq_self_eq_true z, fun m z' hmj hz' => ?_, kk _ H2 S2 (g1.trans g2) (.int _)⟩
    rw [List.getElem?_map] at hz'
    cases em : zs[m]? with
    | none => rw [em] at hz'; cases hz'
    | some y =>
      rw [em] at hz'
      cases hz'
      show (y == z) = false
      rw [beq_eq_false_iff_ne]
      intro ez
      subst ez
      exact idx_ne zs y m hmj em)
/-! ### statements -/
/-- o.pop(e), o a list of the workspace -/
theorem ds_popAtW (gi : Nat) (hX : XOk P w K mg base k N sc fa X) {o e : Expr} {rest : List Stmt} {W : Wk} {p : Addr} {es : List DL.E} {n : Int} {j : Nat} {P' : Out → Prop} {G' : List Slot} (ho : DX X H0 S0 o G (.ref p)) (hp : W p = some (.lst es)) (hn : DE X H0 S0 e G (.int n)) (hj : ixN es.length n = some j) (hz : es.length ≤ 16777216) (h : DS X H0 S0 rest G' P') (hW : G[gi]? = some (.wrk true W) := by rfl)
    (hbase : attributeBase o "pop" X.env (eval o X.env) = eval o X.env := by rfl)
    (hfew : ((backTo p2 (starEach [e] X.env)).all (fun x => !x.1) && (backToKw p2 (keywordEach [] X.env)).all (fun x => x.1.isSome)
      && decide ([e].length + ([] : List Keyword).length + (if ([] : List Keyword).isEmpty then 0 else 1) < 30)) = true := by rfl)
    (hline : (apos.endLine == p2.line) = true := by rfl) (hs : starEach [e] X.env = (false, eval e X.env) :: starEach [] X.env := by rfl) (hplain : (backTo p2 (starEach [] X.env)).any (·.1) = false := by rfl)
    (hsw : swapsWith (.Call (.Attribute o "pop" apos) [e] [] p2) none pos.line X.env = pure false := by rfl) (hG : G.set gi (.wrk true (updW W p (.lst (es.eraseIdx j)))) = G' := by first | (dsimp only [List.set, atS, slots, slotB] <;> rfl) | rfl) :
    DS X H0 S0 (.Expr (.Call (.Attribute o "pop" apos) [e] [] p2) pos :: rest) G P' := fun S F q H Dd E kk => by
  subst hG
  refine wSs_of (pss_cons (ps_expr (pe_bm PySem.F.plainAttrs_list PySem.F.slot_list_pop PySem.F.type_list_pop mt_popAt pwE (pa_cons pwE pa_nil hs) hbase hfew hline hs hplain) hsw) pwSs) ?_
  refine ho S F q H E _ fun v0 H1 S1 g1 r0 => ?_
  cases r0
  have E1 := E.grow g1
  obtain ⟨vs1, hp1, _⟩ := E1.wlst hW hp
  refine ⟨.inl ⟨rfl, _, .inl (.inl hp1)⟩, hn S1 F q H1 E1 _ fun v H2 S2 g2 r2 => ?_⟩
  cases r2
  have E2 := E1.grow g2
  obtain ⟨vs, hp2, rr⟩ := E2.wlst hW hp
  have nt := nt_lst hp2
  obtain ⟨s1, s2, s3⟩ := ixN_seq hj hz
  have hjl : j < vs.length := by
    rw [rr.len]
    unfold ixN at hj
    split at hj <;> split at hj <;> first | (cases hj; omega) | cases hj
  refine ⟨p, vs, n, j, vs[j], rfl, rfl, hp2, s2, s3, by rw [rr.len]; exact s1, List.getElem?_eq_getElem hjl, ?_⟩
  obtain ⟨F', E3⟩ := E2.wset hW (p := p) (u := .lst (vs.eraseIdx j)) (c := .lst (es.eraseIdx j)) (by rw [hp]; exact Option.some_ne_none _) nt ⟨_, upd_same, (rr.upd nt).erase j⟩
  exact h S2 F' q _ Dd E3 (kk.at_ ((g1.trans g2).keep.trans (Keep.upd ((E2.wdom hW) p (by rw [hp]; exact Option.some_ne_none _)).2.2.1 nt)))
/-- o.extend(x), x a list of one's own -/
theorem ds_extendW (i gi : Nat) (hX : XOk P w K mg base k N sc fa X) {o : Expr} {x : Str} {rest : List Stmt} {W : Wk} {p : Addr} {es : List DL.E} {ds : List D} {P' : Out → Prop} {G' : List Slot} (ho : DX X H0 S0 o G (.ref p)) (hp : W p = some (.lst es)) (hf : Flats ds) (hz : es.length + ds.length ≤ 16777216) (h : DS X H0 S0 rest G' P') (hW : G[gi]? = some (.wrk true W) := by rfl) (hi : G[i]? = some (.own ds) := by rfl) (hN : N[i]? = some x := by rfl) (hv : visB sc x = true := by decide +kernel) (hd : (x == ("__debug__" : Str)) = false := by decide) (hcd : (x == ("__classdict__" : Str)) = false := by decide)
    (hbase : attributeBase o "extend" X.env (eval o X.env) = eval o X.env := by rfl)
    (hfew : ((backTo p2 (starEach [.Name x p3] X.env)).all (fun x => !x.1) && (backToKw p2 (keywordEach [] X.env)).all (fun x => x.1.isSome)
      && decide ([Expr.Name x p3].length + ([] : List Keyword).length + (if ([] : List Keyword).isEmpty then 0 else 1) < 30)) = true := by rfl)
    (hline : (apos.endLine == p2.line) = true := by rfl) (hs : starEach [.Name x p3] X.env = (false, eval (.Name x p3) X.env) :: starEach [] X.env := by rfl) (hplain : (backTo p2 (starEach [] X.env)).any (·.1) = false := by rfl)
    (hsw : swapsWith (.Call (.Attribute o "extend" apos) [.Name x p3] [] p2) none pos.line X.env = pure false := by rfl) (hG : G.set gi (.wrk true (updW W p (.lst (es ++ ds.map DL.E.d)))) = G' := by first | (dsimp only [List.set, atS, slots, slotB] <;> rfl) | rfl) :
    DS X H0 S0 (.Expr (.Call (.Attribute o "extend" apos) [.Name x p3] [] p2) pos :: rest) G P' := fun S F q H Dd E kk => by
  subst hG
  refine wSs_of (pss_cons (ps_expr (pe_bm PySem.F.plainAttrs_list PySem.F.slot_list_extend PySem.F.type_list_extend mt_extend pwE (pa_cons (pe_var (X := X) (i := i) (by rw [hX.eN]; exact hN) (by rw [hX.es]; exact vis_of hv) hd hcd) pa_nil hs) hbase hfew hline hs hplain) hsw) pwSs) ?_
  refine ho S F q H E _ fun v0 H1 S1 g1 r0 => ?_
  cases r0
  have E1 := E.grow g1
  obtain ⟨vs, hp1, rr⟩ := E1.wlst hW hp
  obtain ⟨b, us, e1, hF, hb, r, hS⟩ := own_at E1 hi
  have nt := nt_lst hp1
  refine ⟨.inl ⟨rfl, _, .inl (.inl hp1)⟩, _, e1, p, b, vs, us, rfl, rfl, hp1, hb, by rw [rr.len, r.len, sizeLine_eq]; exact hz, ?_⟩
  obtain ⟨F', E3⟩ := E1.wset hW (p := p) (u := .lst (vs ++ us)) (c := .lst (es ++ ds.map DL.E.d)) (by rw [hp]; exact Option.some_ne_none _) nt ⟨_, upd_same, (rr.upd nt).append ((RepIs.ofReps (r.flat hf)).upd nt)⟩
  exact h S1 F' q _ Dd E3 (kk.at_ (g1.keep.trans (Keep.upd ((E1.wdom hW) p (by rw [hp]; exact Option.some_ne_none _)).2.2.1 nt)))
/-- o.remove(e) -/
theorem ds_removeW (gi : Nat) (hX : XOk P w K mg base k N sc fa X) {o e : Expr} {rest : List Stmt} {W : Wk} {p : Addr} {es : List DL.E} {it : DL.E} {ds : List D} {d : D} {j : Nat} {P' : Out → Prop} {G' : List Slot} (ho : DX X H0 S0 o G (.ref p)) (hp : W p = some (.lst es)) (ht : Thaws W es ds) (he : DX X H0 S0 e G it) (hd : Thaw W it d) (pl : PyData.plainAll ds = true) (pd : d.plain = true) (dp : PyData.depthAll ds ≤ 60) (hj : SeqAt.dataPlace ds d = some j) (h : DS X H0 S0 rest G' P') (hW : G[gi]? = some (.wrk true W) := by rfl)
    (hbase : attributeBase o "remove" X.env (eval o X.env) = eval o X.env := by rfl)
    (hfew : ((backTo p2 (starEach [e] X.env)).all (fun x => !x.1) && (backToKw p2 (keywordEach [] X.env)).all (fun x => x.1.isSome)
      && decide ([e].length + ([] : List Keyword).length + (if ([] : List Keyword).isEmpty then 0 else 1) < 30)) = true := by rfl)
    (hline : (apos.endLine == p2.line) = true := by rfl) (hs : starEach [e] X.env = (false, eval e X.env) :: starEach [] X.env := by rfl) (hplain : (backTo p2 (starEach [] X.env)).any (·.1) = false := by rfl)
    (hsw : swapsWith (.Call (.Attribute o "remove" apos) [e] [] p2) none pos.line X.env = pure false := by rfl) (hG : G.set gi (.wrk true (updW W p (.lst (es.eraseIdx j)))) = G' := by first | (dsimp only [List.set, atS, slots, slotB] <;> rfl) | rfl) :
    DS X H0 S0 (.Expr (.Call (.Attribute o "remove" apos) [e] [] p2) pos :: rest) G P' := fun S F q H Dd E kk => by
  subst hG
  refine wSs_of (pss_cons (ps_expr (pe_bm PySem.F.plainAttrs_list PySem.F.slot_list_remove PySem.F.type_list_remove (mt_removeD hX.room.units) pwE (pa_cons pwE pa_nil hs) hbase hfew hline hs hplain) hsw) pwSs) ?_
  refine ho S F q H E _ fun v0 H1 S1 g1 r0 => ?_
  cases r0
  have E1 := E.grow g1
  obtain ⟨vs1, hp1, _⟩ := E1.wlst hW hp
  refine ⟨.inl ⟨rfl, _, .inl (.inl hp1)⟩, he S1 F q H1 E1 _ fun v H2 S2 g2 r2 => ?_⟩
  have E2 := E1.grow g2
  obtain ⟨vs, hp2, rr⟩ := E2.wlst hW hp
  have nt := nt_lst hp2
  refine ⟨p, v, d, vs, ds, j, rfl, rfl, hp2, (ht.reps (S := S2) (E2.wat hW).2 rr).dp, (hd.rep (S := S2) (E2.wat hW).2 r2).dp, pl, pd, dp, hj, ?_⟩
  obtain ⟨F', E3⟩ := E2.wset hW (p := p) (u := .lst (vs.eraseIdx j)) (c := .lst (es.eraseIdx j)) (by rw [hp]; exact Option.some_ne_none _) nt ⟨_, upd_same, (rr.upd nt).erase j⟩
  exact h S2 F' q _ Dd E3 (kk.at_ ((g1.trans g2).keep.trans (Keep.upd ((E2.wdom hW) p (by rw [hp]; exact Option.some_ne_none _)).2.2.1 nt)))
/-- a thing that is a value -/
theorem ds_itv (i : Nat) {ss : List Stmt} {d : D} {P' : Out → Prop} {G' : List Slot} (hi : G[i]? = some (.itm (.d d)) := by rfl) (h : DS X H0 S0 ss G' P') (hG : G.set i (.val d) = G' := by first | (dsimp only [List.set, atS, slots, slotB] <;> rfl) | rfl) : DS X H0 S0 ss G P' := fun S F q H Dd E kk => by
  subst hG
  obtain ⟨o, e1, _, v, rfl, r⟩ := E.sl i _ hi
  cases r with
  | d r =>
    have E1 := E.putv (i := i) (List.getElem?_eq_some_iff.mp hi).1 (r.mono (S' := S) (fun _ z => z.elim) fun _ _ _ z => z)
    rw [set_self_q e1] at E1
    exact h S _ q H Dd E1 kk
/-- e is not None, e a thing told by what changes the workspace -/
theorem dtm_notN {gi : Nat} {e : Expr} {M : Bool → Wk → Prop} {jj : Nat} (h : DM X H0 S0 e G gi (fun it W => ∃ d, it = .d d ∧ M (!isNone d) W)) : DTM X H0 S0 (.Compare e [.IsNot] [.Constant .none jj p2] pos) G gi M := fun S F q H E Q kk =>
  wT_of (pt_cmpR op_notN pwE pwE (nomark _)) (h S F q H E _ fun it W' v S' F' H' m c E' r => by
    obtain ⟨d, rfl, m⟩ := m
    cases r with
    | d r =>
      refine de_non S' F' q H' E' _ fun u H2 S2 g2 r2 => ?_
      cases r2
      exact ⟨rfl, _, by rw [rep_none r], kk _ W' S2 F' H2 m ⟨fun a z => g2.sub a (c.sub a z), fun a o z y => g2.ext a o (c.obj a o z y)⟩ (E'.grow g2)⟩)
/-- a loop over a new list of things -/
theorem ds_forWo (gi : Nat) (hX : XOk P w K mg base k N sc fa X) {tg it : Expr} {body rest : List Stmt} {W0 : Wk} {es : List DL.E} {P' : Out → Prop} (hit : DOX X H0 S0 it G es) (hW0 : G[gi]? = some (.wrk true W0) := by rfl)
    (h : ∀ p, W0 p = none → ∃ I : Nat → List Slot → Prop, (∀ i Gi, I i Gi → ∃ m W, Gi[gi]? = some (.wrk m W) ∧ W p = some (.lst es)) ∧ I 0 (G.set gi (.wrk true (updW W0 p (.lst es)))) ∧
      (∀ i e Gi, es[i]? = some e → I i Gi → ∃ G2 t, DGX X H0 S0 tg e Gi G2 t ∧ DS X H0 S0 body G2 (loopP (I (i + 1)) (fun G' => DS X H0 S0 rest G' P') P')) ∧ (∀ Gn, I es.length Gn → DS X H0 S0 rest Gn P'))
    (hf : ∀ x, foldedSetIterable it X.env x = pure x := by intro _; rfl) : DS X H0 S0 (.For tg it body [] pos :: rest) G P' := fun S F q H Dd E kk => by
  refine wSs_of (pss_cons (ps_for hX.po hX.calm (pi_list pwE) pwG pwSs hf) pwSs) (hit S F q H E _ fun p vs0 H1 S1 g1 hn hS hp0 rr0 => ?_)
  have E1 := E.grow g1
  have nF : ∀ j, ¬ F j p := fun j z => E.flv j p z hn
  have W0p : W0 p = none := by
    cases y : W0 p with
    | none => rfl
    | some c => exact absurd (((E.wat hW0).1 p).mpr (by rw [y]; exact Option.some_ne_none _)) (nF gi)
  obtain ⟨F0, E0⟩ := E1.wadd hW0 (p := p) (c := .lst es) ⟨vs0, hp0, rr0⟩ (by rw [hp0]; exact Option.some_ne_none _) (none_ext E.ext hn) hS nF
  obtain ⟨I, hW, h0, hs, he⟩ := h p W0p
  refine ⟨p, rfl, ⟨_, .inl (.inl hp0)⟩, ?_⟩
  refine ⟨fun i m q2 H2 => m = es.length - i ∧ i ≤ es.length ∧ ∃ G2 S2 F2, EnvOk H0 S0 G2 S2 F2 q2 H2 ∧ I i G2 ∧ Keep S1 H1 S2 H2, ⟨es.length, by simp, Nat.zero_le _, _, S1, F0, E0, h0, Keep.refl S1 H1⟩, ?_⟩
  rintro i m q2 H2 ⟨rfl, hi, G2, S2, F2, E2, I2, c2⟩
  obtain ⟨m2, W2, hw2, hp2⟩ := hW i G2 I2
  obtain ⟨vs, hv, rr⟩ := E2.wlst hw2 hp2
  by_cases hlt : i < es.length
  · have hd : es[i]? = some es[i] := List.getElem?_eq_getElem hlt
    obtain ⟨v, hvi, rv⟩ := rr.getD hd
    refine .inr ⟨⟨vs, v, .inl (.inl hv), hvi⟩, fun q3 H3 => ∃ G3 S3 F3, EnvOk H0 S0 G3 S3 F3 q3 H3 ∧ I (i + 1) G3 ∧ Keep S1 H1 S3 H3, fun q3 H3 hN => ?_, fun x H3 hy => ?_⟩
    · obtain ⟨G3, S3, F3, E3, I3, c3⟩ := hN
      exact ⟨es.length - (i + 1), by omega, rfl, hlt, G3, S3, F3, E3, I3, c3⟩
    · obtain ⟨rfl, y2⟩ := hy
      have := y2 _ (.inl (.inl hv))
      rw [hvi] at this
      cases this
      obtain ⟨G4, t, hG, hB⟩ := hs i _ G2 hd I2
      refine hG S2 F2 q2 H3 E2 _ rv _ fun F4 q4 E4 _ => hB S2 F4 q4 H3 _ E4 ?_
      exact (kk.at_ (g1.keep.trans c2)).loop (fun G5 S5 F5 q5 H5 m5 c5 E5 => ⟨G5, S5, F5, E5, m5, c2.trans c5⟩) fun G5 S5 F5 q5 H5 m5 c5 E5 => m5 S5 F5 q5 H5 Dd E5 (kk.at_ ((g1.keep.trans c2).trans c5))
  · have e : i = es.length := by omega
    subst e
    exact .inl ⟨⟨vs, .inl (.inl hv), by rw [rr.len]; exact Nat.le_refl _⟩, he G2 I2 S2 F2 q2 H2 Dd E2 (kk.at_ (g1.keep.trans c2))⟩
/-- x = e, e a new list of things: to the workspace -/
theorem ds_setOX (i gi : Nat) {x : Str} {e : Expr} {rest : List Stmt} {es : List DL.E} {W : Wk} {P' : Out → Prop} (hX : XOk P w K mg base k N sc true X) (he : DOX X H0 S0 e G es) (h : ∀ p, W p = none → DS X H0 S0 rest ((G.set i (.itm (.ref p))).set gi (.wrk true (updW W p (.lst es)))) P') (hW : G[gi]? = some (.wrk true W) := by rfl) (hN : N[i]? = some x := by rfl) (hv : locB sc x = true := by decide +kernel) (hi : i < G.length := by exact Nat.le_of_ble_eq_true rfl) (hne : i ≠ gi := by decide)
    (hs : swapsWith e (some (.Name x p1)) pos.line X.env = pure false := by rfl) : DS X H0 S0 (.Assign [.Name x p1] e pos :: rest) G P' := fun S F q H Dd E kk => by
  refine wSs_of (pss_cons (ps_set (i := i) (by rw [hX.eN]; exact hX.nd) (by rw [hX.eN]; exact hN) (by rw [hX.es]; exact loc_of hv) pwE hs (by
    rcases loc_of hv with z | z
    · exact .inr (by rw [hX.es]; exact z)
    · exact .inl (hX.fn rfl x))) pwSs) (he S F q H E _ fun p vs H1 S1 g1 hn hS hp rr => ?_)
  have E1 := E.grow g1
  have nF : ∀ j, ¬ F j p := fun j z => E.flv j p z hn
  have Wp : W p = none := by
    cases y : W p with
    | none => rfl
    | some c => exact absurd (((E.wat hW).1 p).mpr (by rw [y]; exact Option.some_ne_none _)) (nF gi)
  have E2 := E1.puti (i := i) hi (RepI.ref (H := H1) p)
  obtain ⟨F3, E3⟩ := E2.wadd (gi := gi) (W := W) (p := p) (c := .lst es) (by rw [List.getElem?_set_ne hne]; exact hW) ⟨vs, hp, rr⟩ (by rw [hp]; exact Option.some_ne_none _) (none_ext E.ext hn) hS (fun j z => by
    by_cases y : j = i
    · simp only [if_pos y] at z
    · simp only [if_neg y] at z; exact nF j z)
  exact h p Wp S1 F3 _ H1 Dd E3 (kk.at_ g1.keep)
/-! ### comprehensions over things -/
inductive All2 {T : Type} (R : V → T → Prop) : List V → List T → Prop
  | nil : All2 R [] []
  | cons {v : V} {x : T} {vs : List V} {xs : List T} : R v x → All2 R vs xs → All2 R (v :: vs) (x :: xs)
theorem All2.len {T : Type} {R : V → T → Prop} : ∀ {vs : List V} {xs : List T}, All2 R vs xs → vs.length = xs.length
  | _, _, .nil => rfl
  | _, _, .cons _ t => congrArg (· + 1) t.len
theorem All2.imp {T : Type} {R R' : V → T → Prop} (h : ∀ v x, R v x → R' v x) : ∀ {vs : List V} {xs : List T}, All2 R vs xs → All2 R' vs xs
  | _, _, .nil => .nil
  | _, _, .cons r t => .cons (h _ _ r) (t.imp h)
theorem All2.snoc {T : Type} {R : V → T → Prop} {v : V} {x : T} (h : R v x) : ∀ {vs : List V} {xs : List T}, All2 R vs xs → All2 R (vs ++ [v]) (xs ++ [x])
  | _, _, .nil => .cons h .nil
  | _, _, .cons r t => .cons r (t.snoc h)
abbrev Rl (T : Type) := AS → Hp → V → T → Prop
def Stab {T : Type} (R : Rl T) : Prop := ∀ S H S' H' v x, Keep S H S' H' → R S H v x → R S' H' v x
/-- what a comprehension walks, by a reading -/
def DIy {T : Type} (R : Rl T) (X : Cx) (H0 : Hp) (S0 : AS) (tg it : Expr) (G : List Slot) (xs : List T) : Prop := ∃ wi, PI X tg it wi ∧ ∀ S F q H, EnvOk H0 S0 G S F q H → ∀ Q : It → Hp → Prop,
  (∀ (J : It) H' S', Grow S H S' H' → (∀ (i : Nat) (S2 : AS) (H2 : Hp) (x : T), Grow S' H' S2 H2 → xs[i]? = some x → J.go i H2 ∧ ∀ v H3, J.yld i H2 v H3 → ∃ S3, Grow S2 H2 S3 H3 ∧ R S3 H3 v x) →
    (∀ (i : Nat) (S2 : AS) (H2 : Hp), Grow S' H' S2 H2 → xs.length ≤ i → J.stop i H2) → Q J H') → wi q H Q
def DGy (X : Cx) (H0 : Hp) (S0 : AS) (R : AS → Hp → V → Prop) (tg : Expr) (G G' : List Slot) (tv : List Nat) : Prop := ∀ S F q H, EnvOk H0 S0 G S F q H → ∀ v, R S H v → ∀ Q : L2.St → Hp → Prop,
  (∀ F' q', EnvOk H0 S0 G' S F' q' H → (q'.length = q.length ∧ ∀ j, j ∉ tv → q'[j]? = q[j]?) → Q q' H) → wG X tg v q H Q
def DEy (X : Cx) (H0 : Hp) (S0 : AS) (R : AS → Hp → V → Prop) (e : Expr) (G : List Slot) : Prop := ∀ S F q H, EnvOk H0 S0 G S F q H → ∀ Q : VK, (∀ v H' S', Grow S H S' H' → R S' H' v → Q v H') → wE X e q H Q
structure CompY {T : Type} (R R2 : Rl T) (P : Program) (w : World) (K : PySem.W.Frag) (mg : Str → Option Value) (base : Heap) (k : Nat) (N : List Str) (sc : Scope) (H0 : Hp) (S0 : AS) (G : List Slot) (elt tg : Expr) (ifs : List Expr) (scope : Scope) (vs : List Nat) (xs : List T) (p : T → Bool) : Prop where
  turn : ∀ x ∈ xs, ∃ G2 t, (∀ X', XOk P w K mg base k N (relS scope sc) false X' → DGy X' H0 S0 (fun S H v => R S H v x) tg (wipeG G vs) G2 t) ∧ (∀ j ∈ t, j ∈ vs) ∧ (∀ X', XOk P w K mg base k N (relS scope sc) false X' → DTs X' H0 S0 ifs G2 (p x)) ∧
    (p x = true → ∀ X', XOk P w K mg base k N (relS scope sc) false X' → DEy X' H0 S0 (fun S H v => R2 S H v x) elt G2)
theorem comp_coreY {T : Type} {R R2 : Rl T} (st : Stab R2) (hX : XOk P w K mg base k N sc fa X) {elt tg : Expr} {ifs : List Expr} {scope : Scope} {vs : List Nat} {xs : List T} {p : T → Bool} {wi : TI} (hsz : xs.length ≤ 16777216) (hvs : ∀ v ∈ vs, v < G.length)
    (hwi : ∀ S F q H, EnvOk H0 S0 G S F q H → ∀ Q : It → Hp → Prop,
      (∀ (J : It) H' S', Grow S H S' H' → (∀ (i : Nat) (S2 : AS) (H2 : Hp) (x : T), Grow S' H' S2 H2 → xs[i]? = some x → J.go i H2 ∧ ∀ v H3, J.yld i H2 v H3 → ∃ S3, Grow S2 H2 S3 H3 ∧ R S3 H3 v x) →
        (∀ (i : Nat) (S2 : AS) (H2 : Hp), Grow S' H' S2 H2 → xs.length ≤ i → J.stop i H2) → Q J H') → wi q H Q)
    (hC : CompY R R2 P w K mg base k N sc H0 S0 G elt tg ifs scope vs xs p) : ∀ S F q H, EnvOk H0 S0 G S F q H → ∀ Q : VK, (∀ p' ws H' S', Grow S H S' H' → H p' = none → ¬ S' p' → H' p' = some (.lst ws) → All2 (R2 S' H') ws (xs.filter p) → Q (.ref p') H') →
      tLc wi (gB X scope tg) (tB' X scope ifs) (eB X scope elt) vs q H Q := by
  intro S F q H E Q kk
  refine hwi S F q H E _ fun J H1 S1 g1 hgo hstop Dn hD => ?_
  have E1 := E.grow g1
  obtain ⟨Fw, Ew, sw⟩ := E1.wiped vs hvs
  have n0 : H0 Dn = none := none_ext E1.ext hD
  have nF : ∀ j, ¬ Fw j Dn := fun j z => E1.flv j Dn (sw j Dn z) hD
  have nS : ¬ S1 Dn := fun z => E1.slv Dn z hD
  let St : Nat → Hp → Prop := fun i H' => ∃ S' acc, EnvOk H0 S0 (wipeG G vs) S' Fw (wipe q vs) H' ∧ Grow S1 H1 S' H' ∧ ¬ S' Dn ∧ H' Dn = some (.lst acc) ∧ All2 (R2 S' H') acc ((xs.take i).filter p)
  refine ⟨fun i m H' => m = xs.length - i ∧ i ≤ xs.length ∧ St i H', ⟨xs.length, by simp, Nat.zero_le _, S1, [], Ew.other n0 nS nF (nt_none hD), Grow.alloc0 hD, nS, upd_same, .nil⟩, ?_⟩
  rintro i m Hi ⟨rfl, hi, Si, acc, Ei, gi, nSi, hDi, ri⟩
  have sz : acc.length ≤ i := by
    rw [ri.len]
    exact Nat.le_trans (List.length_filter_le _ _) (by rw [List.length_take]; exact Nat.min_le_left _ _)
  by_cases hlt : i < xs.length
  · have hx : xs[i]? = some xs[i] := List.getElem?_eq_getElem hlt
    obtain ⟨go1, go2⟩ := hgo i Si Hi _ gi hx
    refine .inr ⟨go1, St (i + 1), fun H' h => ⟨xs.length - (i + 1), by omega, rfl, hlt, h⟩, fun x' H3 hy => ?_⟩
    obtain ⟨S3, g3, r3⟩ := go2 x' H3 hy
    obtain ⟨G2, t, hG, ht, hT, hE⟩ := hC.turn xs[i] (List.getElem_mem hlt)
    have etk : xs.take (i + 1) = xs.take i ++ [xs[i]] := by rw [List.take_succ, hx]; rfl
    intro s Hh cl C fp
    refine hG _ (hX.blk s Hh scope cl C fp) S3 Fw _ H3 (Ei.grow g3) x' r3 _ fun F' q' E' a' => ⟨?_, ?_⟩
    · rw [wipe_eq (q := wipe q vs) a'.1 fun j hj => a'.2 j fun z => hj (ht j z), wipe_wipe]
    · intro s Hh cl C fp
      refine hT _ (hX.blk s Hh scope cl C fp) S3 F' q' H3 E' _ fun H4 S4 g4 => ?_
      have last : ∀ {S5 : AS} {H5 : Hp} {v : V}, Grow S4 H4 S5 H5 → p xs[i] = true → R2 S5 H5 v xs[i] → St (i + 1) (upd H5 Dn (.lst (acc ++ [v]))) := fun {S5 H5 v} g5 hp rv => by
        have gg := (g3.trans g4).trans g5
        have n5 : ¬ S5 Dn := fun z => (gg.new Dn z).elim nSi fun z => by rw [hDi] at z; cases z
        have g6 := gi.trans gg
        refine ⟨S5, _, (Ei.grow gg).other n0 n5 nF (nt_lst (gg.ext _ _ hDi)), ⟨fun a o h => ?_, g6.sub, g6.new, fun a z => ?_⟩, n5, upd_same, ?_⟩
        · rw [upd_ne (ne_of_none h hD)]; exact g6.ext a o h
        · refine (g6.lv a z).imp id fun y => ?_
          by_cases za : a = Dn
          · rw [za, upd_same]; exact Option.some_ne_none _
          · rw [upd_ne za]; exact y
        · rw [etk, List.filter_append, List.filter_cons, if_pos hp]
          have ku := Keep.upd (o := .lst (acc ++ [v])) n5 (nt_lst (gg.ext _ _ hDi))
          exact ((ri.imp fun v x z => st _ _ _ _ v x gg.keep z).snoc rv).imp fun v x z => st _ _ _ _ v x ku z
      cases hp : p xs[i] with
      | true =>
        refine iteT fun s Hh cl C fp => hE hp _ (hX.blk s Hh scope cl C fp) S4 F' q' H4 (E'.grow g4) _ fun y H5 S5 g5 r5 => ⟨acc, ?_, ?_, last g5 hp r5⟩
        · exact g5.ext _ _ (g4.ext _ _ (g3.ext _ _ hDi))
        · rw [sizeLine_eq]; omega
      | false =>
        refine iteF ?_
        have gg := g3.trans g4
        have n5 : ¬ S4 Dn := fun z => (gg.new Dn z).elim nSi fun z => by rw [hDi] at z; cases z
        refine ⟨S4, acc, Ei.grow gg, gi.trans gg, n5, gg.ext _ _ hDi, ?_⟩
        rw [etk, List.filter_append, List.filter_cons, if_neg (by rw [hp]; decide)]
        show All2 (R2 S4 H4) acc (_ ++ [])
        rw [List.append_nil]
        exact ri.imp fun v x z => st _ _ _ _ v x gg.keep z
  · have e : i = xs.length := by omega
    subst e
    rw [List.take_length] at ri
    exact .inl ⟨hstop _ Si Hi gi (Nat.le_refl _), kk Dn acc Hi Si (g1.trans gi) (none_ext g1.ext hD) nSi hDi ri⟩
/-- a comprehension; what is asked of its list is told by R2 -/
def DOy {T : Type} (R2 : Rl T) (X : Cx) (H0 : Hp) (S0 : AS) (e : Expr) (G : List Slot) (xs : List T) : Prop := ∀ S F q H, EnvOk H0 S0 G S F q H → ∀ Q : VK, (∀ p ws H' S', Grow S H S' H' → H p = none → ¬ S' p → H' p = some (.lst ws) → All2 (R2 S' H') ws xs → Q (.ref p) H') → wE X e q H Q
theorem do_compY {T : Type} {R R2 : Rl T} (st : Stab R2) (hX : XOk P w K mg base k N sc fa X) {elt tg it : Expr} {ifs : List Expr} {scope : Scope} (own : List (Str × Nat)) {xs : List T} {p : T → Bool} (hit : DIy R X H0 S0 tg it G xs) (hsz : xs.length ≤ 16777216) (hC : CompY R R2 P w K mg base k N sc H0 S0 G elt tg ifs scope (own.map (·.2)) xs p) (hvs : ((own.map (·.2)).all fun v => Nat.blt v G.length) = true := by rfl)
    (hb : blkC N sc scope own = true := by decide +kernel) (hs : ∀ x, foldedSetIterable it X.env x = pure x := by intro _; rfl) :
    DOy R2 X H0 S0 (.ListComp elt [⟨tg, it, ifs, 0⟩] scope pos) G (xs.filter p) := fun S F q H E Q kk => by
  obtain ⟨wi, hpi, hwi⟩ := hit
  refine wE_of (pe_lc (own := own) hX.calm (by rw [hX.eN]; exact hX.nd) hpi (by rw [hX.eN, hX.es]; exact blkOk_by hb) (g := gB X scope tg) (tt := tB' X scope ifs) (te := eB X scope elt) ?_ ?_ ?_ hs) (comp_coreY st hX hsz (blt_all hvs) hwi hC S F q H E Q kk)
  · exact fun s Hh C cl fp => ⟨fun pins s2 q2 H2 v u Q2 I r h => h s Hh cl C fp pins s2 u I r⟩
  · exact fun s Hh C cl fp => ⟨fun pins s2 q2 H2 Q2 I h => h s Hh cl C fp pins s2 I⟩
  · exact fun s Hh C cl fp => ⟨fun pins s2 q2 H2 Q2 I h => h s Hh cl C fp pins s2 I⟩
def rD {T : Type} (g : T → D) : Rl T := fun S H v x => Rep S H v (g x)
def rX {T : Type} (g : T → DL.E) : Rl T := fun S H v x => RepI H v (g x)
theorem st_rD {T : Type} (g : T → D) : Stab (rD g) := fun S H S' H' v x k r => r.keep k
theorem st_rX {T : Type} (g : T → DL.E) : Stab (rX g) := fun S H S' H' v x k r => r.keep k
theorem All2.reps {T : Type} {g : T → D} {S : AS} {H : Hp} : ∀ {vs : List V} {xs : List T}, All2 (rD g S H) vs xs → Reps S H vs (xs.map g)
  | _, _, .nil => .nil
  | _, _, .cons r t => .cons r t.reps
theorem All2.repis {T : Type} {g : T → DL.E} {S : AS} {H : Hp} : ∀ {vs : List V} {xs : List T}, All2 (rX g S H) vs xs → RepIs H vs (xs.map g)
  | _, _, .nil => .nil
  | _, _, .cons r t => .cons r t.repis
theorem do_y {T : Type} {g : T → D} {e : Expr} {xs : List T} (h : DOy (rD g) X H0 S0 e G xs) : DO X H0 S0 e G (xs.map g) := fun S F q H E Q kk => h S F q H E Q fun p ws H' S' g1 hn hS hp r => kk p ws H' S' g1 hn hS hp r.reps
theorem dox_y {T : Type} {g : T → DL.E} {e : Expr} {xs : List T} (h : DOy (rX g) X H0 S0 e G xs) : DOX X H0 S0 e G (xs.map g) := fun S F q H E Q kk => h S F q H E Q fun p ws H' S' g1 hn hS hp r => kk p ws H' S' g1 hn hS hp r.repis
/-- a list of the workspace, walked -/
theorem diy_x (gi : Nat) {tg e : Expr} {m : Bool} {W : Wk} {p : Addr} {T : Type} {enc : T → DL.E} {xs : List T} (h : DX X H0 S0 e G (.ref p)) (hp : W p = some (.lst (xs.map enc))) (hW : G[gi]? = some (.wrk m W) := by rfl) : DIy (rX enc) X H0 S0 tg e G xs := by
  refine ⟨_, pi_list pwE, fun S F q H E R kk => h S F q H E _ fun v H1 S1 g1 r1 => ?_⟩
  cases r1
  obtain ⟨vs, h1, h2⟩ := (E.grow g1).wlst hW hp
  refine ⟨p, rfl, ⟨_, .inl (.inl h1)⟩, kk _ H1 S1 g1 (fun i S2 H2 x g2 hd => ?_) fun i S2 H2 g2 hl => ?_⟩
  · obtain ⟨v, hv, rv⟩ := (h2.ext g2.ext).getD (show (xs.map enc)[i]? = some (enc x) by rw [List.getElem?_map, hd]; rfl)
    have h1' : SqL X.K H2 p vs := .inl (.inl (g2.ext _ _ h1))
    exact ⟨⟨_, v, h1', hv⟩, fun x H3 y => ⟨S2, by rw [y.1]; exact Grow.refl S2 H2, by
      have := y.2 _ h1'
      rw [hv] at this
      cases this
      rw [y.1]; exact rv⟩⟩
  · exact ⟨_, .inl (.inl (g2.ext _ _ h1)), by rw [h2.len, List.length_map]; exact hl⟩
theorem diy_d {tg e : Expr} {T : Type} {enc : T → D} {xs : List T} (h : DIg X H0 S0 tg e G (xs.map enc)) : DIy (rD enc) X H0 S0 tg e G xs := by
  obtain ⟨wi, hp, hw⟩ := h
  refine ⟨wi, hp, fun S F q H E R kk => hw S F q H E R fun J H' S' g h1 h2 => kk J H' S' g (fun i S2 H2 x g2 e => h1 i S2 H2 (enc x) g2 (by rw [List.getElem?_map, e]; rfl)) fun i S2 H2 g2 e => h2 i S2 H2 g2 (by rw [List.length_map]; exact e)⟩
/-- [elt for tg in xs], xs of the workspace, data told -/
theorem do_mapX (gi : Nat) (hX : XOk P w K mg base k N sc fa X) {elt tg it : Expr} {scope : Scope} (own : List (Str × Nat)) {T : Type} {enc : T → DL.E} {xs : List T} (g : T → D) {m : Bool} {W : Wk} {q : Addr} (hit : DX X H0 S0 it G (.ref q)) (hq : W q = some (.lst (xs.map enc))) (hsz : xs.length ≤ 16777216)
    (turn : ∀ x ∈ xs, ∃ G2 t, (∀ X', XOk P w K mg base k N (relS scope sc) false X' → DGX X' H0 S0 tg (enc x) (wipeG G (own.map (·.2))) G2 t) ∧ (∀ j ∈ t, j ∈ own.map (·.2)) ∧ (∀ X', XOk P w K mg base k N (relS scope sc) false X' → DE X' H0 S0 elt G2 (g x))) (hW : G[gi]? = some (.wrk m W) := by rfl)
    (hvs : ((own.map (·.2)).all fun v => Nat.blt v G.length) = true := by rfl) (hb : blkC N sc scope own = true := by decide +kernel) (hs : ∀ x, foldedSetIterable it X.env x = pure x := by intro _; rfl) :
    DO X H0 S0 (.ListComp elt [⟨tg, it, [], 0⟩] scope pos) G (xs.map g) :=
  (do_y (do_compY (st_rD g) hX own (p := fun _ => true) (diy_x gi hit hq hW) hsz ⟨fun x hx => by
    obtain ⟨G2, t, h1, h2, h3⟩ := turn x hx
    exact ⟨G2, t, h1, h2, fun X' hX' => dts_nil, fun _ X' hX' => h3 X' hX'⟩⟩ hvs hb hs)).cast (by rw [List.filter_eq_self.mpr (fun _ _ => rfl)])
/-- [elt for tg in xs if c], xs of the workspace, things told -/
theorem dox_filtX (gi : Nat) (hX : XOk P w K mg base k N sc fa X) {elt tg it c : Expr} {scope : Scope} (own : List (Str × Nat)) {T : Type} {enc : T → DL.E} {xs : List T} (p : T → Bool) (g : T → DL.E) {m : Bool} {W : Wk} {q : Addr} (hit : DX X H0 S0 it G (.ref q)) (hq : W q = some (.lst (xs.map enc))) (hsz : xs.length ≤ 16777216)
    (turn : ∀ x ∈ xs, ∃ G2 t, (∀ X', XOk P w K mg base k N (relS scope sc) false X' → DGX X' H0 S0 tg (enc x) (wipeG G (own.map (·.2))) G2 t) ∧ (∀ j ∈ t, j ∈ own.map (·.2)) ∧ (∀ X', XOk P w K mg base k N (relS scope sc) false X' → DT X' H0 S0 c G2 (p x)) ∧ (p x = true → ∀ X', XOk P w K mg base k N (relS scope sc) false X' → DX X' H0 S0 elt G2 (g x))) (hW : G[gi]? = some (.wrk m W) := by rfl)
    (hvs : ((own.map (·.2)).all fun v => Nat.blt v G.length) = true := by rfl) (hb : blkC N sc scope own = true := by decide +kernel) (hs : ∀ x, foldedSetIterable it X.env x = pure x := by intro _; rfl) :
    DOX X H0 S0 (.ListComp elt [⟨tg, it, [c], 0⟩] scope pos) G ((xs.filter p).map g) :=
  dox_y (do_compY (st_rX g) hX own (p := p) (diy_x gi hit hq hW) hsz ⟨fun x hx => by
    obtain ⟨G2, t, h1, h2, h3, h4⟩ := turn x hx
    exact ⟨G2, t, h1, h2, fun X' hX' => dts_one (h3 X' hX'), fun hp X' hX' => h4 hp X' hX'⟩⟩ hvs hb hs)
end
end DL

/-! DLv: zip over two lists of the workspace as a loop; tuple(xs), list(xs). -/
namespace DL
open PySem PySem.Spec PyProof.Rows L2
section
variable {P : Program} {w : World} {K : PySem.W.Frag} {mg : Str → Option Value} {base : Heap} {k : Nat} {N : List Str} {sc : Scope} {fa : Bool} {X : Cx} {H0 : Hp} {S0 : AS} {G G1 G2 : List Slot} {pos p1 p2 p3 p4 apos cpos : Pos}
theorem ds_forZW (gi : Nat) (hX : XOk P w K mg base k N sc fa X) (hr : mg "zip" = none) {ts : List Expr} {c : Nat} {e e2 : Expr} {body rest : List Stmt} {p p' : Addr} {xs ys : List D} {P' : Out → Prop} (I : Nat → List Slot → Prop) (he : DX X H0 S0 e G (.ref p)) (he2 : DX X H0 S0 e2 G (.ref p')) (hl : xs.length = ys.length)
    (hW : ∀ i Gi, I i Gi → ∃ m W, Gi[gi]? = some (.wrk m W) ∧ W p = some (.lst (xs.map DL.E.d)) ∧ W p' = some (.lst (ys.map DL.E.d))) (h0 : I 0 G)
    (hs : ∀ i x y Gi, xs[i]? = some x → ys[i]? = some y → I i Gi → ∃ G2 t, DG X H0 S0 (.Tuple ts c p2) (.tuple [x, y]) Gi G2 t ∧ DS X H0 S0 body G2 (loopP (I (i + 1)) (fun G' => DS X H0 S0 rest G' P') P')) (hend : ∀ Gn, I xs.length Gn → DS X H0 S0 rest Gn P') (hg : globB sc "zip" = true := by decide +kernel)
    (hs1 : starEach [e, e2] X.env = (false, eval e X.env) :: starEach [e2] X.env := by rfl) (hpl : (backTo cpos (starEach [e2] X.env)).any (·.1) = false := by rfl) (hs2 : starEach [e2] X.env = (false, eval e2 X.env) :: starEach [] X.env := by rfl)
    (hf : ∀ x, foldedSetIterable (.Call (.Name "zip" p1) [e, e2] [] cpos) X.env x = pure x := by intro _; rfl) : DS X H0 S0 (.For (.Tuple ts c p2) (.Call (.Name "zip" p1) [e, e2] [] cpos) body [] pos :: rest) G P' := fun S F q H Dd E kk => by
  refine wSs_of (pss_cons (ps_for hX.po hX.calm (pi_zip (hX.gl hg) (by rw [hX.emg]; exact hr) (pa_cons pwE (pa_cons pwE pa_nil hs2) hs1) hs1 hpl) pwG pwSs hf) pwSs) (he S F q H E _ fun v H1 S1 g1 r1 => he2 S1 F q H1 (E.grow g1) _ fun v2 H2 S2 g2 r2 => ?_)
  cases r1
  cases r2
  have g := g1.trans g2
  have E1 := E.grow g
  obtain ⟨m, W, hw, hp, hp'⟩ := hW 0 G h0
  obtain ⟨vs0, hv0, _⟩ := E1.wlst hw hp
  obtain ⟨vs0', hv0', _⟩ := E1.wlst hw hp'
  refine ⟨p, p', vs0, vs0', rfl, .inl (.inl hv0), .inl (.inl hv0'), ?_⟩
  refine ⟨fun i m q2 H3 => m = xs.length - i ∧ i ≤ xs.length ∧ ∃ G2 S3 F2, EnvOk H0 S0 G2 S3 F2 q2 H3 ∧ I i G2 ∧ Keep S2 H2 S3 H3, ⟨xs.length, by simp, Nat.zero_le _, G, S2, F, E1, h0, Keep.refl S2 H2⟩, ?_⟩
  rintro i m q2 H3 ⟨rfl, hi, G2, S3, F2, E2, I2, c2⟩
  obtain ⟨m2, W2, hw2, hp2, hp2'⟩ := hW i G2 I2
  obtain ⟨vs, hv, rr⟩ := E2.wlst hw2 hp2
  obtain ⟨vs', hv', rr'⟩ := E2.wlst hw2 hp2'
  by_cases hlt : i < xs.length
  · have hd : xs[i]? = some xs[i] := List.getElem?_eq_getElem hlt
    have hlt' : i < ys.length := by omega
    have hd' : ys[i]? = some ys[i] := List.getElem?_eq_getElem hlt'
    obtain ⟨v, hvi, rv⟩ := (rr.toReps (S := S3)).getD hd
    obtain ⟨v', hvi', rv'⟩ := (rr'.toReps (S := S3)).getD hd'
    have q1 : SqL X.K H3 p vs := .inl (.inl hv)
    have q2' : SqL X.K H3 p' vs' := .inl (.inl hv')
    refine .inr ⟨⟨vs, vs', v, v', q1, q2', hvi, hvi'⟩, fun q3 H4 => ∃ G3 S4 F3, EnvOk H0 S0 G3 S4 F3 q3 H4 ∧ I (i + 1) G3 ∧ Keep S2 H2 S4 H4, fun q3 H4 hN => ?_, fun x H4 hy => ?_⟩
    · obtain ⟨G3, S4, F3, E3, I3, c3⟩ := hN
      exact ⟨xs.length - (i + 1), by omega, rfl, hlt, G3, S4, F3, E3, I3, c3⟩
    · obtain ⟨T, x1, y1, rfl, nT, rfl, fx, fy⟩ := hy
      have a1 := fx _ q1
      rw [hvi] at a1
      cases a1
      have a2 := fy _ q2'
      rw [hvi'] at a2
      cases a2
      have gt := grow_tup (ds := [xs[i], ys[i]]) nT (.cons rv (.cons rv' .nil))
      obtain ⟨G4, t, hG, hB⟩ := hs i _ _ G2 hd hd' I2
      have kt := g.keep.trans (c2.trans gt.1.keep)
      refine hG _ F2 q2 _ (E2.grow gt.1) _ gt.2 _ fun F4 q4 E4 _ => hB _ F4 q4 _ _ E4 ?_
      exact (kk.at_ kt).loop (fun G5 S5 F5 q5 H5 m5 c5 E5 => ⟨G5, S5, F5, E5, m5, (c2.trans gt.1.keep).trans c5⟩) fun G5 S5 F5 q5 H5 m5 c5 E5 => m5 S5 F5 q5 H5 Dd E5 (kk.at_ (kt.trans c5))
  · have e : i = xs.length := by omega
    subst e
    exact .inl ⟨⟨vs, vs', .inl (.inl hv), .inl (.inl hv'), by rw [rr.len, rr'.len, List.length_map, List.length_map]; omega⟩, hend G2 I2 S3 F2 q2 H3 Dd E2 (kk.at_ (g.keep.trans c2))⟩
theorem dgx_loc (i : Nat) (hX : XOk P w K mg base k N sc fa X) {x : Str} {it : DL.E} (hN : N[i]? = some x := by rfl) (hv : ownB sc x = true := by decide +kernel) (hi : i < G.length := by exact Nat.le_of_ble_eq_true rfl) : DGX X H0 S0 (.Name x pos) it G (G.set i (.itm it)) [i] := fun S F q H E v r Q kk =>
  wG_of (pg_name (i := i) (by rw [hX.eN]; exact hX.nd) (by rw [hX.eN]; exact hN) (by rw [hX.es]; exact .inl (own_of hv)) (.inr (by rw [hX.es]; exact own_of hv))) (kk _ _ (E.puti hi r) ⟨List.length_set, fun j hj => List.getElem?_set_ne (fun z => hj (by rw [z]; exact List.mem_singleton.mpr rfl))⟩)
/-- x = e, of which something is known -/
theorem ds_setR (i : Nat) {x : Str} {e : Expr} {rest : List Stmt} {P'' : RV → Prop} {P' : Out → Prop} (hX : XOk P w K mg base k N sc true X) (he : DR X H0 S0 e G P'') (h : ∀ r, P'' r → DS X H0 S0 rest (G.set i (.val r.dat)) P') (hN : N[i]? = some x := by rfl) (hv : locB sc x = true := by decide +kernel) (hi : i < G.length := by exact Nat.le_of_ble_eq_true rfl)
    (hs : swapsWith e (some (.Name x p1)) pos.line X.env = pure false := by rfl) : DS X H0 S0 (.Assign [.Name x p1] e pos :: rest) G P' := fun S F q H Dd E kk =>
  wSs_of (pss_cons (ps_set (i := i) (by rw [hX.eN]; exact hX.nd) (by rw [hX.eN]; exact hN) (by rw [hX.es]; exact loc_of hv) pwE hs (by
    rcases loc_of hv with z | z
    · exact .inr (by rw [hX.es]; exact z)
    · exact .inl (hX.fn rfl x))) pwSs) (he S F q H E _ (fun d v S1 H1 hp g1 r1 => h (.val d) hp S1 _ _ H1 Dd ((E.grow g1).putv hi r1) (kk.at_ g1.keep)) fun l p vs S' H' hp g hn hs hq r => by
      have g' : Grow S H (fun a => S' a ∨ a = p) H' := ⟨g.ext, fun a z => .inl (g.sub a z), fun a z => z.elim (g.new a) fun z => .inr (by rw [z]; exact hn), fun a z => z.elim (g.lv a) fun z => .inr (by rw [z, hq]; exact Option.some_ne_none _)⟩
      exact h (.own l) hp _ _ _ H' Dd ((E.grow g').putv hi (.lst (.inr rfl) hq (r.mono (fun _ z => .inl z) fun _ _ _ z => z))) (kk.at_ g'.keep))
/-- a call whose value is let go -/
theorem ds_expr {e : Expr} {rest : List Stmt} {d : D} {P' : Out → Prop} (he : DE X H0 S0 e G d) (h : DS X H0 S0 rest G P') (hs : swapsWith e none pos.line X.env = pure false := by rfl) : DS X H0 S0 (.Expr e pos :: rest) G P' := fun S F q H Dd E kk =>
  wSs_of (pss_cons (ps_expr pwE hs) pwSs) (he S F q H E _ fun v H1 S1 g1 r1 => h S1 F q H1 Dd (E.grow g1) (kk.at_ g1.keep))
theorem de_tupL {a : Expr} {ds : List D} (hX : XOk P w K mg base k N sc fa X) (hm : mg "tuple" = none) (ha : DLs X H0 S0 a G ds) (hg : globB sc "tuple" = true := by decide +kernel) (he : starEach [a] X.env = (false, eval a X.env) :: starEach [] X.env := by rfl) (hpl : (backTo pos (starEach [] X.env)).any (·.1) = false := by rfl) :
    DE X H0 S0 (.Call (.Name "tuple" p1) [a] [] pos) G (.tuple ds) := fun S F q H E Q kk =>
  wE_of (pe_callTy call_tuple_of (hX.gl hg) (by rw [hX.emg]; exact hm) PyProof.Rows.boot_tuple (pa_cons pwE pa_nil he) (by decide) (by decide) he hpl) (ha S F q H E _ fun p vs H1 S1 g1 h1 r1 =>
    ⟨p, vs, rfl, .inl ⟨h1, fun l hl => kk _ _ _ (g1.trans (Grow.alloc hl)) (.tup (.inl upd_same) (r1.mono (fun _ z => .inl z) fun a o _ e => by rw [upd_ne (ne_of_none e hl)]; exact e))⟩⟩)
theorem do_listL {a : Expr} {ds : List D} (hX : XOk P w K mg base k N sc fa X) (hm : mg "list" = none) (ha : DLs X H0 S0 a G ds) (hg : globB sc "list" = true := by decide +kernel) (he : starEach [a] X.env = (false, eval a X.env) :: starEach [] X.env := by rfl) (hpl : (backTo pos (starEach [] X.env)).any (·.1) = false := by rfl) :
    DO X H0 S0 (.Call (.Name "list" p1) [a] [] pos) G ds := fun S F q H E Q kk =>
  wE_of (pe_callTy call_list_of (hX.gl hg) (by rw [hX.emg]; exact hm) PyProof.Rows.boot_list (pa_cons pwE pa_nil he) (by decide) (by decide) he hpl) (ha S F q H E _ fun p vs H1 S1 g1 h1 r1 =>
    ⟨p, vs, rfl, .inl h1, fun l hl => kk l vs _ S1 (g1.trans (Grow.alloc0 hl)) (none_ext g1.ext hl) (fun z => (E.grow g1).slv l z hl) upd_same (r1.mono (fun _ z => z) fun a o _ e => by rw [upd_ne (ne_of_none e hl)]; exact e)⟩)
/-- y = [elt for tg in it ..]: data told -/
theorem ds_setCY (i : Nat) {y : Str} {rest : List Stmt} {P' : Out → Prop} {G' : List Slot} (hX : XOk P w K mg base k N sc true X) {elt tg it : Expr} {ifs : List Expr} {scope : Scope} (own : List (Str × Nat)) {T : Type} {R : Rl T} {xs : List T} {p : T → Bool} {g : T → D}
    (hit : DIy R X H0 S0 tg it G xs) (hsz : xs.length ≤ 16777216) (hC : CompY R (rD g) P w K mg base k N sc H0 S0 G elt tg ifs scope (own.map (·.2)) xs p) (h : DS X H0 S0 rest G' P')
    (hN : N[i]? = some y := by rfl) (hv : ownB sc y = true := by decide +kernel) (hi : i < G.length := by exact Nat.le_of_ble_eq_true rfl) (hvs : ((own.map (·.2)).all fun v => Nat.blt v G.length) = true := by rfl)
    (hb : blkC N sc scope own = true := by decide +kernel) (hsk : sc.kind = .function := by rfl) (hl : (p1.line == p2.line) = true := by rfl) (ha : (scope.names.any fun (n, k) => n == y && (k == .local || k == .cell)) = false := by decide +kernel)
    (hs : ∀ x, foldedSetIterable it X.env x = pure x := by intro _; rfl) (hG : G.set i (.own ((xs.filter p).map g)) = G' := by first | (dsimp only [List.set, atS, slots, slotB] <;> rfl) | rfl) :
    DS X H0 S0 (.Assign [.Name y p1] (.ListComp elt [⟨tg, it, ifs, 0⟩] scope p2) pos :: rest) G P' := fun S F q H Dd E kk => by
  subst hG
  obtain ⟨wi, hpi, hwi⟩ := hit
  refine wSs_of (pss_cons (ps_setLc (i := i) (own := own) hX.calm (by rw [hX.eN]; exact hX.nd) (by rw [hX.eN]; exact hN) (by rw [hX.es]; exact own_of hv) (sw_true (by rw [hX.es]; exact hsk) (by rw [hX.es]; exact own_of hv) hl ha) hpi (by rw [hX.eN, hX.es]; exact blkOk_by hb) (g := gB X scope tg) (tt := tB' X scope ifs) (te := eB X scope elt) ?_ ?_ ?_ hs) pwSs)
    (comp_coreY (st_rD g) hX hsz (blt_all hvs) hwi hC S F q H E (fun v H2 => wSs X rest Dd (q.set i (some v)) H2) fun p' ws H1 S1 g1 hn hS hp r1 => h S1 _ _ H1 Dd ((E.grow g1).puto hi hp r1.reps (none_ext E.ext hn) hS fun j z => E.flv j p' z hn) (kk.at_ g1.keep))
  · exact fun s Hh C cl fp => ⟨fun pins s2 q2 H2 v u Q2 I r h => h s Hh cl C fp pins s2 u I r⟩
  · exact fun s Hh C cl fp => ⟨fun pins s2 q2 H2 Q2 I h => h s Hh cl C fp pins s2 I⟩
  · exact fun s Hh C cl fp => ⟨fun pins s2 q2 H2 Q2 I h => h s Hh cl C fp pins s2 I⟩
/-- .. things told, to the workspace -/
theorem ds_setCX (i gi : Nat) {y : Str} {rest : List Stmt} {W : Wk} {P' : Out → Prop} (hX : XOk P w K mg base k N sc true X) {elt tg it : Expr} {ifs : List Expr} {scope : Scope} (own : List (Str × Nat)) {T : Type} {R : Rl T} {xs : List T} {p : T → Bool} {g : T → DL.E}
    (hit : DIy R X H0 S0 tg it G xs) (hsz : xs.length ≤ 16777216) (hC : CompY R (rX g) P w K mg base k N sc H0 S0 G elt tg ifs scope (own.map (·.2)) xs p) (h : ∀ p', W p' = none → DS X H0 S0 rest ((G.set i (.itm (.ref p'))).set gi (.wrk true (updW W p' (.lst ((xs.filter p).map g))))) P') (hW : G[gi]? = some (.wrk true W) := by rfl)
    (hN : N[i]? = some y := by rfl) (hv : ownB sc y = true := by decide +kernel) (hi : i < G.length := by exact Nat.le_of_ble_eq_true rfl) (hne : i ≠ gi := by decide) (hvs : ((own.map (·.2)).all fun v => Nat.blt v G.length) = true := by rfl)
    (hb : blkC N sc scope own = true := by decide +kernel) (hsk : sc.kind = .function := by rfl) (hl : (p1.line == p2.line) = true := by rfl) (ha : (scope.names.any fun (n, k) => n == y && (k == .local || k == .cell)) = false := by decide +kernel)
    (hs : ∀ x, foldedSetIterable it X.env x = pure x := by intro _; rfl) :
    DS X H0 S0 (.Assign [.Name y p1] (.ListComp elt [⟨tg, it, ifs, 0⟩] scope p2) pos :: rest) G P' := fun S F q H Dd E kk => by
  obtain ⟨wi, hpi, hwi⟩ := hit
  refine wSs_of (pss_cons (ps_setLc (i := i) (own := own) hX.calm (by rw [hX.eN]; exact hX.nd) (by rw [hX.eN]; exact hN) (by rw [hX.es]; exact own_of hv) (sw_true (by rw [hX.es]; exact hsk) (by rw [hX.es]; exact own_of hv) hl ha) hpi (by rw [hX.eN, hX.es]; exact blkOk_by hb) (g := gB X scope tg) (tt := tB' X scope ifs) (te := eB X scope elt) ?_ ?_ ?_ hs) pwSs)
    (comp_coreY (st_rX g) hX hsz (blt_all hvs) hwi hC S F q H E (fun v H2 => wSs X rest Dd (q.set i (some v)) H2) fun p' ws H1 S1 g1 hn hS hp r1 => ?_)
  · exact fun s Hh C cl fp => ⟨fun pins s2 q2 H2 v u Q2 I r h => h s Hh cl C fp pins s2 u I r⟩
  · exact fun s Hh C cl fp => ⟨fun pins s2 q2 H2 Q2 I h => h s Hh cl C fp pins s2 I⟩
  · exact fun s Hh C cl fp => ⟨fun pins s2 q2 H2 Q2 I h => h s Hh cl C fp pins s2 I⟩
  · have E1 := E.grow g1
    have nF : ∀ j, ¬ F j p' := fun j z => E.flv j p' z hn
    have Wp : W p' = none := by
      cases y : W p' with
      | none => rfl
      | some c => exact absurd (((E.wat hW).1 p').mpr (by rw [y]; exact Option.some_ne_none _)) (nF gi)
    have E2 := E1.puti (i := i) hi (RepI.ref (H := H1) p')
    obtain ⟨F3, E3⟩ := E2.wadd (gi := gi) (W := W) (p := p') (c := .lst ((xs.filter p).map g)) (by rw [List.getElem?_set_ne hne]; exact hW) ⟨ws, hp, r1.repis⟩ (by rw [hp]; exact Option.some_ne_none _) (none_ext E.ext hn) hS (fun j z => by
      by_cases y : j = i
      · simp only [if_pos y] at z
      · simp only [if_neg y] at z; exact nF j z)
    exact h p' Wp S1 F3 _ H1 Dd E3 (kk.at_ g1.keep)
/-- y = [elt for tg in xs], xs of the workspace, data told -/
theorem ds_setMX (i gi : Nat) {y : Str} {rest : List Stmt} {P' : Out → Prop} {G' : List Slot} (hX : XOk P w K mg base k N sc true X) {elt tg it : Expr} {scope : Scope} (own : List (Str × Nat)) {T : Type} {enc : T → DL.E} {xs : List T} (g : T → D) {m : Bool} {W : Wk} {q : Addr} (hit : DX X H0 S0 it G (.ref q)) (hq : W q = some (.lst (xs.map enc))) (hsz : xs.length ≤ 16777216)
    (turn : ∀ x ∈ xs, ∃ G2 t, (∀ X', XOk P w K mg base k N (relS scope sc) false X' → DGX X' H0 S0 tg (enc x) (wipeG G (own.map (·.2))) G2 t) ∧ (∀ j ∈ t, j ∈ own.map (·.2)) ∧ (∀ X', XOk P w K mg base k N (relS scope sc) false X' → DE X' H0 S0 elt G2 (g x))) (h : DS X H0 S0 rest G' P') (hW : G[gi]? = some (.wrk m W) := by rfl)
    (hN : N[i]? = some y := by rfl) (hv : ownB sc y = true := by decide +kernel) (hi : i < G.length := by exact Nat.le_of_ble_eq_true rfl) (hvs : ((own.map (·.2)).all fun v => Nat.blt v G.length) = true := by rfl)
    (hb : blkC N sc scope own = true := by decide +kernel) (hsk : sc.kind = .function := by rfl) (hl : (p1.line == p2.line) = true := by rfl) (ha : (scope.names.any fun (n, k) => n == y && (k == .local || k == .cell)) = false := by decide +kernel)
    (hs : ∀ x, foldedSetIterable it X.env x = pure x := by intro _; rfl) (hG : G.set i (.own (xs.map g)) = G' := by first | (dsimp only [List.set, atS, slots, slotB] <;> rfl) | rfl) :
    DS X H0 S0 (.Assign [.Name y p1] (.ListComp elt [⟨tg, it, [], 0⟩] scope p2) pos :: rest) G P' :=
  ds_setCY i hX own (p := fun _ => true) (g := g) (diy_x gi hit hq hW) hsz ⟨fun x hx => by
    obtain ⟨G2, t, h1, h2, h3⟩ := turn x hx
    exact ⟨G2, t, h1, h2, fun X' hX' => dts_nil, fun _ X' hX' => h3 X' hX'⟩⟩ h hN hv hi hvs hb hsk hl ha hs (by rw [List.filter_eq_self.mpr (fun _ _ => rfl)]; exact hG)
end
end DL

/-! DLw: dicts of numbers by texts. -/
namespace DL
open PySem PySem.Spec PyProof.Rows L2
/-! ### dicts of numbers by texts, in a cell of the workspace -/
abbrev DicS := List (Str × Int)
def dkvS (d : DicS) : List (Key × V) := d.map fun x => (Sum.inr x.1, V.int x.2)
def getD_S (d : DicS) (k : Str) : Option Int := (d.find? fun x => decide (x.1 = k)).map (·.2)
def putDS (d : DicS) (k : Str) (v : Int) : DicS := if (d.any fun x => decide (x.1 = k)) = true then d.map (fun x => if x.1 = k then (x.1, v) else x) else d ++ [(k, v)]
def dcellS (d : DicS) : Cell := .raw (.dK (dkvS d))
theorem inr_iff {a b : Str} : ((Sum.inr a : Key) = Sum.inr b) ↔ a = b := ⟨fun h => by cases h; rfl, fun h => by rw [h]⟩
theorem valV_dkvS (k : Str) : ∀ d : DicS, valV (dkvS d) (Sum.inr k) = (getD_S d k).map V.int
  | [] => rfl
  | x :: d => by
    have ih := valV_dkvS k d
    unfold getD_S at ih ⊢
    by_cases e : x.1 = k
    · rw [show dkvS (x :: d) = (Sum.inr x.1, V.int x.2) :: dkvS d from rfl, valV_pos (by rw [e]), List.find?_cons_of_pos (by simpa using e)]
      rfl
    · rw [show dkvS (x :: d) = (Sum.inr x.1, V.int x.2) :: dkvS d from rfl, valV_neg (fun z => e (inr_iff.mp z)), List.find?_cons_of_neg (by simpa using e)]
      exact ih
theorem putK_dkvS (k : Str) (v : Int) (d : DicS) : putK (dkvS d) (Sum.inr k) (V.int v) = dkvS (putDS d k v) := by
  have e : ((dkvS d).any fun kv => decide (kv.1 = Sum.inr k)) = d.any fun x => decide (x.1 = k) := by
    unfold dkvS
    rw [List.any_map]
    congr 1
    funext x
    show decide ((Sum.inr x.1 : Key) = Sum.inr k) = _
    rw [decide_eq_decide.mpr inr_iff]
  unfold putK putDS
  rw [e]
  split
  · unfold dkvS
    rw [List.map_map, List.map_map]
    refine List.map_congr_left fun x _ => ?_
    show (if (Sum.inr x.1 : Key) = Sum.inr k then (Sum.inr x.1, V.int v) else (Sum.inr x.1, V.int x.2)) = _
    by_cases z : x.1 = k
    · rw [if_pos (inr_iff.mpr z)]
      show _ = ((Sum.inr (if x.1 = k then (x.1, v) else x).1 : Key), V.int (if x.1 = k then (x.1, v) else x).2)
      rw [if_pos z]
    · rw [if_neg (fun y => z (inr_iff.mp y))]
      show _ = ((Sum.inr (if x.1 = k then (x.1, v) else x).1 : Key), V.int (if x.1 = k then (x.1, v) else x).2)
      rw [if_neg z]
  · unfold dkvS
    rw [List.map_append]
    rfl
section
variable {P : Program} {w : World} {K : PySem.W.Frag} {mg : Str → Option Value} {base : Heap} {k : Nat} {N : List Str} {sc : Scope} {fa : Bool} {X : Cx} {H0 : Hp} {S0 : AS} {G G1 G2 : List Slot} {pos p1 p2 p3 p4 apos cpos : Pos}
theorem dcellS_at {S : AS} {F : Nat → AS} {q : L2.St} {H : Hp} {gi : Nat} {m : Bool} {W : Wk} {p : Addr} {d : DicS} (E : EnvOk H0 S0 G S F q H) (hW : G[gi]? = some (.wrk m W)) (hp : W p = some (dcellS d)) : H p = some (.dK (dkvS d)) := ((E.wat hW).2 p _ hp).1
/-- d.get(e, f) -/
theorem de_dget2S (gi : Nat) {o e f : Expr} {m : Bool} {W : Wk} {p : Addr} {d : DicS} {a : Str} {z : Int} (hX : XOk P w K mg base k N sc fa X) (ho : DX X H0 S0 o G (.ref p)) (hp : W p = some (dcellS d)) (he : DE X H0 S0 e G (.str a)) (hf : DE X H0 S0 f G (.int z)) (hW : G[gi]? = some (.wrk m W) := by rfl)
    (hm : M2 X o "get" apos e f cpos := by exact ⟨rfl, rfl, rfl, rfl⟩) : DE X H0 S0 (.Call (.Attribute o "get" apos) [e, f] [] cpos) G (.int ((getD_S d a).getD z)) := fun S F q H E Q kk =>
  wE_of (pe_dget2 hX.hu pwE pwE pwE hm) (ho S F q H E _ fun v H1 S1 g1 r1 => by
    cases r1
    have E1 := E.grow g1
    refine ⟨p, rfl, .inl ⟨_, .inl (dcellS_at E1 hW hp)⟩, he S1 F q H1 E1 _ fun u H2 S2 g2 r2 => hf S2 F q H2 (E1.grow g2) _ fun t H3 S3 g3 r3 => ?_⟩
    cases r2; cases r3
    have E3 := (E1.grow g2).grow g3
    refine ⟨_, DGet.k (k := Sum.inr a) (dcellS_at E3 hW hp), ?_⟩
    rw [valV_dkvS]
    have e : ((getD_S d a).map V.int).getD (V.int z) = V.int ((getD_S d a).getD z) := by cases getD_S d a <;> rfl
    rw [e]
    exact kk _ H3 S3 ((g1.trans g2).trans g3) (.int _))
/-- d[e], there -/
theorem de_dgetIS (gi : Nat) {o e : Expr} {m : Bool} {W : Wk} {p : Addr} {d : DicS} {a : Str} {z : Int} (hX : XOk P w K mg base k N sc fa X) (ho : DX X H0 S0 o G (.ref p)) (hp : W p = some (dcellS d)) (he : DE X H0 S0 e G (.str a)) (hz : getD_S d a = some z) (hW : G[gi]? = some (.wrk m W) := by rfl) (hi : NoSl e := by exact fun _ _ => rfl) : DE X H0 S0 (.Subscript o e pos) G (.int z) := fun S F q H E Q kk =>
  wE_of (pe_dget hX.hu pwE pwE hi) (ho S F q H E _ fun v H1 S1 g1 r1 => by
    cases r1
    have E1 := E.grow g1
    refine he S1 F q H1 E1 _ fun u H2 S2 g2 r2 => ?_
    cases r2
    have E2 := E1.grow g2
    have g := DGet.k (k := Sum.inr a) (dcellS_at E2 hW hp)
    rw [valV_dkvS, hz] at g
    exact ⟨p, V.int z, rfl, g, kk _ H2 S2 (g1.trans g2) (.int z)⟩)
/-- d[b] = e -/
theorem ds_dputS (gi : Nat) {o b e : Expr} {rest : List Stmt} {W : Wk} {p : Addr} {d : DicS} {a : Str} {z : Int} {P' : Out → Prop} {G' : List Slot} (hX : XOk P w K mg base k N sc fa X) (he : DE X H0 S0 e G (.int z)) (ho : DX X H0 S0 o G (.ref p)) (hp : W p = some (dcellS d)) (hb : DE X H0 S0 b G (.str a)) (hl : d.length < 16777216) (h : DS X H0 S0 rest G' P') (hW : G[gi]? = some (.wrk true W) := by rfl)
    (hs : swapsWith e (some (.Subscript o b p2)) pos.line X.env = pure false := by rfl) (hG : G.set gi (.wrk true (updW W p (dcellS (putDS d a z)))) = G' := by first | (dsimp only [List.set, atS, slots, slotB] <;> rfl) | rfl) : DS X H0 S0 (.Assign [.Subscript o b p2] e pos :: rest) G P' := fun S F q H Dd E kk => by
  subst hG
  refine wSs_of (pss_cons (ps_dput hX.hu pwE pwE pwE hs) pwSs) (he S F q H E _ fun v H1 S1 g1 r1 => ho S1 F q H1 (E.grow g1) _ fun v2 H2 S2 g2 r2 => hb S2 F q H2 ((E.grow g1).grow g2) _ fun v3 H3 S3 g3 r3 => ?_)
  cases r1; cases r2; cases r3
  have E3 := ((E.grow g1).grow g2).grow g3
  have hH := dcellS_at E3 hW hp
  have nt : NT H3 p := ((E3.wat hW).2 p _ hp).nt
  obtain ⟨F', E4⟩ := E3.wset hW (p := p) (u := .dK (dkvS (putDS d a z))) (c := dcellS (putDS d a z)) (by rw [hp]; exact Option.some_ne_none _) nt ⟨upd_same, nto_dK _⟩
  refine ⟨p, _, rfl, DPut.k (k := Sum.inr a) hH (by unfold dkvS; rw [List.length_map, sizeLine_eq]; exact hl), ?_⟩
  rw [putK_dkvS]
  exact h S3 F' q _ Dd E4 (kk.at_ (((g1.trans g2).trans g3).keep.trans (Keep.upd ((E3.wdom hW) p (by rw [hp]; exact Option.some_ne_none _)).2.2.1 nt)))
end
end DL

/-! DLx: and, or of tests that change the workspace; in, by data. -/
namespace DL
open PySem PySem.Spec PyProof.Rows L2
/-! ### what was thawed, flat -/
mutual
theorem Thaw.flatRep {W : Wk} {S : AS} {H : Hp} : ∀ {it : E} {d : D} {v : V}, Thaw W it d → Flat d → RepI H v it → Rep S H v d
  | _, _, _, .d _, _, .d r => r.mono (fun _ z => z.elim) fun _ _ _ z => z
  | _, _, _, .lst _ _, f, _ => nomatch f
  | _, _, _, .tup h, .tup f, .tup r rs => .tup r (Thaws.flatReps h f rs)
theorem Thaws.flatReps {W : Wk} {S : AS} {H : Hp} : ∀ {its : List E} {ds : List D} {vs : List V}, Thaws W its ds → Flats ds → RepIs H vs its → Reps S H vs ds
  | _, _, _, .nil, _, .nil => .nil
  | _, _, _, .cons h t, .cons f g, .cons r rs => .cons (Thaw.flatRep h f r) (Thaws.flatReps t g rs)
end
theorem Thaw.tup2 {W : Wk} {it : E} {ds : List D} (h : Thaw W it (.tuple ds)) (n : ¬ Flat (.tuple ds)) : ∃ es, it = .tup es ∧ Thaws W es ds := by
  cases h with
  | d f => exact (n f).elim
  | tup h => exact ⟨_, rfl, h⟩
theorem Thaws.zip {W : Wk} : ∀ {es : List E} {ds : List D}, Thaws W es ds → (es.zip ds).map (·.1) = es ∧ (es.zip ds).map (·.2) = ds ∧ ∀ x ∈ es.zip ds, Thaw W x.1 x.2
  | _, _, .nil => ⟨rfl, rfl, fun _ h => nomatch h⟩
  | _, _, .cons h t => by
    obtain ⟨a, b, c⟩ := Thaws.zip t
    refine ⟨by rw [List.zip_cons_cons, List.map_cons, a], by rw [List.zip_cons_cons, List.map_cons, b], fun x hx => ?_⟩
    rw [List.zip_cons_cons] at hx
    cases hx with
    | head => exact h
    | tail _ hx => exact c x hx
theorem Thaws.get2 {W : Wk} : ∀ {es : List E} {ds : List D} {i : Nat} {d : D}, Thaws W es ds → ds[i]? = some d → ∃ e, es[i]? = some e ∧ Thaw W e d
  | _, _, _, _, .nil, e => by simp at e
  | _, _, 0, _, .cons h _, e => by simp at e; subst e; exact ⟨_, rfl, h⟩
  | _, _, i + 1, v, .cons _ t, e => Thaws.get2 (i := i) t (by simpa using e)
section
variable {P : Program} {w : World} {K : PySem.W.Frag} {mg : Str → Option Value} {base : Heap} {k : Nat} {N : List Str} {sc : Scope} {fa : Bool} {X : Cx} {H0 : Hp} {S0 : AS} {G G1 G2 : List Slot} {pos p1 p2 p3 p4 apos cpos : Pos}
def DWM (X : Cx) (H0 : Hp) (S0 : AS) (e : Expr) (G : List Slot) (gi : Nat) (M : Bool → Wk → Prop) : Prop := ∀ S F q H, EnvOk H0 S0 G S F q H → ∀ Q : Bool → Hp → Prop, (∀ b W' S' F' H', M b W' → Keep S H S' H' → EnvOk H0 S0 (G.set gi (.wrk true W')) S' F' q H' → Q b H') → wW X e q H Q
theorem dwm_t {gi : Nat} {a : Expr} {op : BoolOp} {M : Bool → Wk → Prop} (h : DTM X H0 S0 a G gi M) : DWM X H0 S0 (.BoolOp op [a] pos) G gi M := fun S F q H E Q kk => by
  cases op with
  | And => exact wW_of (pw_and1 pwT) (h S F q H E Q kk)
  | Or => exact wW_of (pw_or1 pwT) (h S F q H E Q kk)
theorem dwm_or {gi : Nat} {a b : Expr} {rest : List Expr} {M1 M : Bool → Wk → Prop} (h1 : DTM X H0 S0 a G gi M1) (h2 : ∀ W', M1 false W' → DWM X H0 S0 (.BoolOp .Or (b :: rest) pos) (G.set gi (.wrk true W')) gi M) (h3 : ∀ W', M1 true W' → M true W') : DWM X H0 S0 (.BoolOp .Or (a :: b :: rest) pos) G gi M := fun S F q H E Q kk =>
  wW_of (pw_or pwT pwW) (h1 S F q H E _ fun x W1 S1 F1 H1 m1 c1 E1 => by
    cases x with
    | true => exact iteT (kk true W1 S1 F1 H1 (h3 W1 m1) c1 E1)
    | false => exact iteF (h2 W1 m1 S1 F1 q H1 E1 _ fun b W2 S2 F2 H2 m2 c2 E2 => kk b W2 S2 F2 H2 m2 (c1.trans c2) (by rw [List.set_set] at E2; exact E2)))
theorem dwm_and {gi : Nat} {a b : Expr} {rest : List Expr} {M1 M : Bool → Wk → Prop} (h1 : DTM X H0 S0 a G gi M1) (h2 : ∀ W', M1 true W' → DWM X H0 S0 (.BoolOp .And (b :: rest) pos) (G.set gi (.wrk true W')) gi M) (h3 : ∀ W', M1 false W' → M false W') : DWM X H0 S0 (.BoolOp .And (a :: b :: rest) pos) G gi M := fun S F q H E Q kk =>
  wW_of (pw_and pwT pwW) (h1 S F q H E _ fun x W1 S1 F1 H1 m1 c1 E1 => by
    cases x with
    | false => exact iteF (kk false W1 S1 F1 H1 (h3 W1 m1) c1 E1)
    | true => exact iteT (h2 W1 m1 S1 F1 q H1 E1 _ fun b W2 S2 F2 H2 m2 c2 E2 => kk b W2 S2 F2 H2 m2 (c1.trans c2) (by rw [List.set_set] at E2; exact E2)))
theorem dtm_w {gi : Nat} {e : Expr} {M : Bool → Wk → Prop} (h : DWM X H0 S0 e G gi M) : DTM X H0 S0 e G gi M := fun S F q H E Q kk => wT_of (PW.pt pwW) (h S F q H E Q kk)
/-- a test that changes nothing -/
theorem dtm_d {gi : Nat} {e : Expr} {b : Bool} {W : Wk} {M : Bool → Wk → Prop} (h : DT X H0 S0 e G b) (m : M b W) (hW : G[gi]? = some (.wrk true W) := by rfl) : DTM X H0 S0 e G gi M := fun S F q H E Q kk => h S F q H E Q fun H1 S1 g1 =>
  kk b W S1 F H1 m g1.keep (by rw [set_wrk hW]; exact E.grow g1)
/-- a op b, a told by what changes the workspace -/
theorem dtm_cmp {gi : Nat} {op : CmpOp} {a b : Expr} {y : D} {z : Bool} {d : D} {M1 : Wk → Prop} {M : Bool → Wk → Prop} (ha : DM X H0 S0 a G gi (fun it W => it = .d d ∧ M1 W)) (hb : ∀ W', M1 W' → DE X H0 S0 b (G.set gi (.wrk true W')) y) (c : CmpD op d y z) (m : ∀ W', M1 W' → M z W') : DTM X H0 S0 (.Compare a [op] [b] pos) G gi M := fun S F q H E Q kk =>
  wT_of (pt_cmpR (op_cmp op) pwE pwE (c.mark b)) (ha S F q H E _ fun it W' v S' F' H' mm k1 E' r => by
    obtain ⟨rfl, mm⟩ := mm
    cases r with
    | d r =>
      refine hb W' mm S' F' q H' E' _ fun u H2 S2 g2 r2 => ?_
      exact ⟨z, ⟨d, y, S2, r.mono (fun _ x => x.elim) fun a o _ e => g2.ext a o e, r2, c⟩, z, rfl, kk z W' S2 F' H2 (m W' mm) (k1.trans g2.keep) (E'.grow g2)⟩)
/-- a list is no None -/
theorem dt_isNr {a : Expr} {p : Addr} {j : Nat} (ha : DX X H0 S0 a G (.ref p)) : DT X H0 S0 (.Compare a [.Is] [.Constant .none j p2] pos) G false := fun S F q H E Q kk =>
  wT_of (pt_cmpR op_isN pwE pwE (nomark _)) (ha S F q H E _ fun v H1 S1 g1 r1 => de_non S1 F q H1 (E.grow g1) _ fun u H2 S2 g2 r2 => by
    cases r2
    cases r1
    exact ⟨rfl, by exact ⟨false, rfl, kk H2 S2 (g1.trans g2)⟩⟩)
/-- a in b, by data -/
theorem dt_inD (hX : XOk P w K mg base k N sc fa X) {a b : Expr} {x : D} {ys : List D} (ha : DP X H0 S0 a G x) (hb : DP X H0 S0 b G (.list ys)) (h1 : SeqAt.shaped x = true) (h2 : SeqAt.shaped (.list ys) = true) (hm : behindInMarks .In b = false := by rfl) : DT X H0 S0 (.Compare a [.In] [b] pos) G (ys.any fun z => PyData.eqv z x) := fun S F q H E Q kk =>
  wT_of (pt_cmpR (op_inD (by have := hX.room.un; omega)) pwE pwE hm) (ha S F q H E _ fun v H1 S1 g1 r1 => hb S1 F q H1 (E.grow g1) _ fun u H2 S2 g2 r2 => ⟨x, ys, r1 H2 g2.ext, r2 H2 fun _ _ z => z, h1, h2, _, rfl, kk H2 S2 (g1.trans g2)⟩)
theorem de_t {e : Expr} {it : DL.E} {d : D} {W : Wk} (h : DX X H0 S0 e G it) (ht : Thaw W it d) (f : Flat d) : DE X H0 S0 e G d := fun S F q H E Q kk => h S F q H E Q fun v H' S' g r => kk v H' S' g (ht.flatRep f r)
theorem dgx_t {tg : Expr} {it : DL.E} {d : D} {W : Wk} {t : List Nat} (ht : Thaw W it d) (f : Flat d) (h : DG X H0 S0 tg d G G1 t) : DGX X H0 S0 tg it G G1 t := fun S F q H E v r Q kk => h S F q H E v (ht.flatRep f r) Q kk
theorem dls_t (gi : Nat) {e : Expr} {m : Bool} {W : Wk} {p : Addr} {es : List DL.E} {ds : List D} (h : DX X H0 S0 e G (.ref p)) (hp : W p = some (.lst es)) (ht : Thaws W es ds) (f : Flats ds) (hW : G[gi]? = some (.wrk m W) := by rfl) : DLs X H0 S0 e G ds := fun S F q H E Q kk => h S F q H E _ fun v H' S' g r => by
  cases r
  obtain ⟨vs, h1, h2⟩ := (E.grow g).wlst hW hp
  exact kk p vs H' S' g (.inl (.inl h1)) (ht.flatReps f h2)
end
end DL

/-! DLy: values told by what changes the workspace. -/
namespace DL
open PySem PySem.Spec PyProof.Rows L2
theorem Thaws.strs {W : Wk} : ∀ {es : List E} {ns : List Str}, Thaws W es (ns.map PyData.str) → es = (ns.map PyData.str).map E.d
  | [], [], .nil => rfl
  | _ :: _, n :: r, .cons h t => by
    rw [h.str, Thaws.strs t]
    rfl
section
variable {P : Program} {w : World} {K : PySem.W.Frag} {mg : Str → Option Value} {base : Heap} {k : Nat} {N : List Str} {sc : Scope} {fa : Bool} {X : Cx} {H0 : Hp} {S0 : AS} {G G1 G2 : List Slot} {pos p1 p2 p3 p4 apos cpos : Pos}
/-- a and .., a true, told by what changes the workspace -/
theorem dm_and {gi : Nat} {a b : Expr} {rest : List Expr} {y : Bool} {M1 : Wk → Prop} (h1 : DM X H0 S0 a G gi (fun it W' => it = .d (.bool true) ∧ M1 W')) (h2 : ∀ W', M1 W' → DE X H0 S0 (.BoolOp .And (b :: rest) pos) (G.set gi (.wrk true W')) (.bool y)) : DM X H0 S0 (.BoolOp .And (a :: b :: rest) pos) G gi (fun it W' => it = .d (.bool y) ∧ M1 W') := fun S F q H E Q kk =>
  wE_of (pe_and pwE pwE) (h1 S F q H E _ fun it W' v S' F' H' mm k1 E' r => by
    obtain ⟨rfl, mm⟩ := mm
    cases r with
    | d r =>
      cases r
      refine ⟨_, rfl, ?_⟩
      exact iteT (h2 W' mm S' F' q H' E' _ fun u H2 S2 g2 r2 => by
        cases r2
        exact kk _ W' _ S2 F' H2 ⟨rfl, mm⟩ (k1.trans g2.keep) (E'.grow g2) (.d (.bl _))))
/-- return e, e a value told so -/
theorem ds_retMd {gi : Nat} {e : Expr} {rest : List Stmt} {M : DL.E → Wk → Prop} {P' : Out → Prop} (he : DM X H0 S0 e G gi M) (h : ∀ it W', M it W' → ∃ d, it = .d d ∧ P' (.ret (.val d))) : DS X H0 S0 (.Return (some e) pos :: rest) G P' := fun S F q H Dd E kk =>
  wSs_of (pss_cons (ps_ret pwE) pwSs) (he S F q H E _ fun it W' v S' F' H' m c E' r => by
    obtain ⟨d, rfl, hp⟩ := h it W' m
    cases r with
    | d r => exact kk.rv d v S' H' hp E'.ext E'.sfr E'.slv (r.mono (fun _ z => z.elim) fun _ _ _ z => z))
end
end DL

/-! DLz: slices, sums and places of lists of things. -/
namespace DL
open PySem PySem.Spec PyProof.Rows L2
def cutE (xs : List E) (lo hi : Option Int) : List E := (xs.drop (HT.sIx xs.length 0 lo)).take (HT.sIx xs.length xs.length hi - HT.sIx xs.length 0 lo)
theorem cut_repI {H : Hp} {vs : List V} {ds : List E} (r : RepIs H vs ds) (lo hi : Option Int) : RepIs H (cutV vs lo hi) (cutE ds lo hi) := by
  unfold cutV cutE
  rw [r.len]
  exact (r.drop _).take _
section
variable {P : Program} {w : World} {K : PySem.W.Frag} {mg : Str → Option Value} {base : Heap} {k : Nat} {N : List Str} {sc : Scope} {fa : Bool} {X : Cx} {H0 : Hp} {S0 : AS} {G G1 G2 : List Slot} {pos p1 p2 p3 p4 apos cpos : Pos}
/-- a slice of a tuple of things, not of all of it; the things of it are values -/
theorem de_slTx {a : Expr} {lo hi : Option Expr} {l u : Option Int} {es : List DL.E} {ds : List D} (ha : DX X H0 S0 a G (.tup es)) (hl : DPo X H0 S0 lo G l) (hu : DPo X H0 S0 hi G u) (hc : cutE es l u = ds.map DL.E.d) (hn : ¬ (HT.sIx es.length 0 l = 0 ∧ HT.sIx es.length es.length u = es.length)) : DE X H0 S0 (.Subscript a (.Slice lo hi none p2) pos) G (.tuple ds) := fun S F q H E Q kk => by
  obtain ⟨tl, pl, hl⟩ := hl
  obtain ⟨tu, pu, hu⟩ := hu
  refine wE_of (pe_slice sl_tup pwE pl pu) (ha S F q H E _ fun v H1 S1 g1 r1 => hl S1 F q H1 (E.grow g1) _ fun H2 S2 g2 => hu S2 F q H2 ((E.grow g1).grow g2) _ fun H3 S3 g3 => ?_)
  have g23 := g2.trans g3
  cases r1 with
  | tup h2 h3 =>
    refine ⟨_, _, rfl, .inl (rd_keep (fun o z => g23.ext _ o z) h2), by rw [h3.len]; exact hn, fun p' hp => kk _ _ _ ((g1.trans g23).trans (Grow.alloc hp)) (.tup (.inl upd_same) ?_)⟩
    have c := cut_repI (h3.ext g23.ext) l u
    rw [hc] at c
    exact (c.toReps (S := S3)).mono (fun _ z => .inl z) fun a o _ e => by rw [upd_ne (ne_of_none e hp)]; exact e
/-- a slice of a list of the workspace: a new list -/
theorem dox_slice (gi : Nat) {a : Expr} {lo hi : Option Expr} {l u : Option Int} {m : Bool} {W : Wk} {p : Addr} {es : List DL.E} (ha : DX X H0 S0 a G (.ref p)) (hp : W p = some (.lst es)) (hl : DPo X H0 S0 lo G l) (hu : DPo X H0 S0 hi G u) (hW : G[gi]? = some (.wrk m W) := by rfl) : DOX X H0 S0 (.Subscript a (.Slice lo hi none p2) pos) G (cutE es l u) := fun S F q H E Q kk => by
  obtain ⟨tl, pl, hl⟩ := hl
  obtain ⟨tu, pu, hu⟩ := hu
  refine wE_of (pe_slice sl_list pwE pl pu) (ha S F q H E _ fun v H1 S1 g1 r1 => hl S1 F q H1 (E.grow g1) _ fun H2 S2 g2 => hu S2 F q H2 ((E.grow g1).grow g2) _ fun H3 S3 g3 => ?_)
  cases r1
  have g := (g1.trans g2).trans g3
  have E3 := E.grow g
  obtain ⟨vs, h1, h2⟩ := E3.wlst hW hp
  exact ⟨p, vs, rfl, .inl (.inl h1), fun p' hp' => kk p' _ _ _ (g.trans (Grow.alloc0 hp')) (none_ext g.ext hp') (fun z => E3.slv p' z hp') upd_same ((cut_repI h2 l u).ext fun a o e => by rw [upd_ne (ne_of_none e hp')]; exact e)⟩
/-- two new lists glued -/
theorem dox_cat {a b : Expr} {xs ys : List DL.E} (ha : DOX X H0 S0 a G xs) (hb : DOX X H0 S0 b G ys) (hz : xs.length + ys.length ≤ 16777216) : DOX X H0 S0 (.BinOp a .Add b pos) G (xs ++ ys) := fun S F q H E Q kk =>
  wE_of (pe_op op_catR pwE pwE) (ha S F q H E _ fun p vs H1 S1 g1 n1 s1 h1 r1 => hb S1 F q H1 (E.grow g1) _ fun p' vs' H2 S2 g2 n2 s2 h2 r2 =>
    ⟨p, p', vs, vs', rfl, rfl, .inl (g2.ext _ _ h1), .inl h2, by rw [r1.len, r2.len, sizeLine_eq]; exact hz, fun c hc => kk c _ _ _ ((g1.trans g2).trans (Grow.alloc0 hc)) (none_ext (g1.trans g2).ext hc) (fun z => ((E.grow g1).grow g2).slv c z hc) upd_same
      (((r1.ext g2.ext).append r2).ext fun a o e => by rw [upd_ne (ne_of_none e hc)]; exact e)⟩)
/-- xs.index(x), by data -/
theorem de_indexD (hX : XOk P w K mg base k N sc fa X) {o e : Expr} {x z : D} {ys : List D} {j : Nat} (ho : DP X H0 S0 o G (.list ys)) (he : DP X H0 S0 e G x) (h1 : SeqAt.shaped (.list ys) = true) (h2 : SeqAt.shaped x = true) (hj : ys[j]? = some z) (hz : PyData.eqv z x = true) (hm : ∀ (m : Nat) (z' : D), m < j → ys[m]? = some z' → PyData.eqv z' x = false) (hl : ∀ S F q H, EnvOk H0 S0 G S F q H → ∀ Q : VK, (∀ v H' S', Grow S H S' H' → (∃ p vs, v = .ref p ∧ SqL X.K H' p vs) → (∀ H'', (∀ a o, H' a = some o → H'' a = some o) → Dp X.K H'' v (.list ys)) → Q v H') → wE X o q H Q)
    (hbase : attributeBase o "index" X.env (eval o X.env) = eval o X.env := by rfl)
    (hfew : ((backTo cpos (starEach [e] X.env)).all (fun x => !x.1) && (backToKw cpos (keywordEach [] X.env)).all (fun x => x.1.isSome)
      && decide ([e].length + ([] : List Keyword).length + (if ([] : List Keyword).isEmpty then 0 else 1) < 30)) = true := by rfl)
    (hline : (apos.endLine == cpos.line) = true := by rfl) (hs : starEach [e] X.env = (false, eval e X.env) :: starEach [] X.env := by rfl) (hplain : (backTo cpos (starEach [] X.env)).any (·.1) = false := by rfl) :
    DE X H0 S0 (.Call (.Attribute o "index" apos) [e] [] cpos) G (.int (j : Int)) := fun S F q H E Q kk =>
  wE_of (pe_bm PySem.F.plainAttrs_list PySem.F.slot_list_index PySem.F.type_list_index (mt_indexD (by have := hX.room.un; omega)) pwE (pa_cons pwE pa_nil hs) hbase hfew hline hs hplain) (hl S F q H E _ fun v H1 S1 g1 hq r1 => by
    obtain ⟨p, vs, rfl, h3⟩ := hq
    refine ⟨.inl ⟨rfl, _, h3⟩, he S1 F q H1 (E.grow g1) _ fun u H2 S2 g2 r2 => ?_⟩
    exact ⟨p, u, x, ys, j, z, rfl, rfl, r1 H2 g2.ext, r2 H2 fun _ _ z => z, h1, h2, hj, hz, hm, kk _ H2 S2 (g1.trans g2) (.int _)⟩)
/-- a list of the workspace, for the rule ahead -/
theorem lp_x (gi : Nat) {e : Expr} {m : Bool} {W : Wk} {p : Addr} {es : List DL.E} {ds : List D} (h : DX X H0 S0 e G (.ref p)) (hp : W p = some (.lst es)) (ht : Thaws W es ds) (hW : G[gi]? = some (.wrk m W) := by rfl) : ∀ S F q H, EnvOk H0 S0 G S F q H → ∀ Q : VK, (∀ v H' S', Grow S H S' H' → (∃ p vs, v = .ref p ∧ SqL X.K H' p vs) → (∀ H'', (∀ a o, H' a = some o → H'' a = some o) → Dp X.K H'' v (.list ds)) → Q v H') → wE X e q H Q := fun S F q H E Q kk => h S F q H E Q fun v H' S' g r => by
  have E' := E.grow g
  cases r
  obtain ⟨vs, h1, h2⟩ := E'.wlst hW hp
  refine kk _ H' S' g ⟨p, vs, rfl, .inl (.inl h1)⟩ fun H'' e => ?_
  have rr := Thaw.rep (S := S') (E'.wat hW).2 (.lst hp ht) (.ref p)
  exact (rr.mono (S' := fun a => S' a ∨ W a ≠ none) (fun _ z => z) fun a o _ z => e a o z).dp
/-- z not in e, e a list told of which something is known -/
theorem dt_ninR {a b : Expr} {z : Str} {t : Bool} {P'' : RV → Prop} (ha : DE X H0 S0 a G (.str z)) (hb : DR X H0 S0 b G P'') (hp : ∀ r, P'' r → ∃ ns : List Str, r = .own (ns.map PyData.str) ∧ (!ns.contains z) = t) (hm : behindInMarks .NotIn b = false := by rfl) : DT X H0 S0 (.Compare a [.NotIn] [b] pos) G t := fun S F q H E Q kk =>
  wT_of (pt_cmpR op_notIn_seq pwE pwE hm) (ha S F q H E _ fun v H1 S1 g1 r1 => hb S1 F q H1 (E.grow g1) _ (fun d v' S' H' hd g r => by
      obtain ⟨ns, e, _⟩ := hp _ hd
      cases e) fun ds p vs S2 H2 hd g2 hn hs h2 r2 => by
    obtain ⟨ns, e, et⟩ := hp _ hd
    cases e
    cases r1
    have e := r2.strs
    subst e
    exact ⟨p, _, rfl, .inl (.inl (.inl h2)), rfl, flat_strs ns, _, rfl, by rw [inV_str, et]; exact kk H2 S2 (g1.trans g2)⟩)
/-- a and b, both told by what changes the workspace -/
theorem dm_and2 {gi : Nat} {a b : Expr} {rest : List Expr} {M1 : Wk → Prop} {M : DL.E → Wk → Prop} (h1 : DM X H0 S0 a G gi (fun it W' => it = .d (.bool true) ∧ M1 W')) (h2 : ∀ W', M1 W' → DM X H0 S0 (.BoolOp .And (b :: rest) pos) (G.set gi (.wrk true W')) gi M) : DM X H0 S0 (.BoolOp .And (a :: b :: rest) pos) G gi M := fun S F q H E Q kk =>
  wE_of (pe_and pwE pwE) (h1 S F q H E _ fun it W' v S' F' H' mm k1 E' r => by
    obtain ⟨rfl, mm⟩ := mm
    cases r with
    | d r =>
      cases r
      refine ⟨_, rfl, ?_⟩
      exact iteT (h2 W' mm S' F' q H' E' _ fun it W2 u S2 F2 H2 m2 k2 E2 r2 => kk it W2 u S2 F2 H2 m2 (k1.trans k2) (by rw [List.set_set] at E2; exact E2) r2))
theorem dm_one {gi : Nat} {op : BoolOp} {a : Expr} {M : DL.E → Wk → Prop} (h : DM X H0 S0 a G gi M) : DM X H0 S0 (.BoolOp op [a] pos) G gi M := fun S F q H E Q kk => wE_of (pe_one pwE) (h S F q H E Q kk)
end
end DL

/-! DXa: what may raise: rules below the layer. -/
namespace L2
open PySem PySem.Spec PyProof.Rows
section
variable {X : Cx} {CX : CXT} {k : Nat} {f C D : Addr} {fd : FuncData} {ps : List Str} {sp : Sp} {E : St → XK} {x m nm : Str} {mc : Value} {p pos apos p1 p2 : Pos} {e o : Expr} {es : List Expr} {ta : TE} {t : TA}
/-- B.__init__(self, ..), B a class of the text whose __init__ is ValueError's -/
theorem pe_baseinit {pl : Sem Bool} (g1 : Gl X nm) (g2 : X.mg nm = some (.ref D)) (rd : ClX.CRead X.K D mc) (vV : PySem.W.findCls X.K (.ref D) mc "__init__" = some (.val (.builtin "ValueError.__init__"))) (ar : PA X (e :: es) t) (g3 : (nm == ("__debug__" : Str)) = false := by decide)
    (h3 : eval (.Call (.Attribute (.Name nm p1) "__init__" p2) (e :: es) [] pos) X.env = (do
      let cv ← eval (.Name nm p1) X.env
      standAt p2.atName
      let (g, fst) ← holding [cv] (getMethod cv "__init__" pl)
      callWith pos g fst (backTo pos (starEach (e :: es) X.env)) (backToKw pos (keywordEach [] X.env))) := by rfl)
    (h1 : starEach (e :: es) X.env = (false, eval e X.env) :: starEach es X.env := by rfl) (h2 : (backTo pos (starEach es X.env)).any (·.1) = false := by rfl) :
    PE X (.Call (.Attribute (.Name nm p1) "__init__" p2) (e :: es) [] pos) (tVeI X.K t) := by
  constructor
  intro pins s q H Q I h
  refine PySem.W.methodCall_KW (ld_glob I g1 g2 ?_ g3) h3
  refine PySem.W.method_cls I.kIn rd.ga (PySem.W.cls_value I.kIn rd.rd vV (by decide +kernel) ?_)
  refine PyProof.Rows.callWith_method1 (thn (ar.run pos pins _ q H _ (I.tok _) h) fun us s1 hh => ?_) h1 h2
  obtain ⟨vs, H1, I1, r1, a, C, ws, rfl, hl, T, ea, z⟩ := hh
  cases r1 with
  | @cons _ u0 _ ur ra rr =>
    obtain rfl : u0 = Value.ref a := ra
    refine oinit_ok T I1 ea ?_ fun s' J => ⟨.non, H1, J, rfl, z⟩
    have := Paired.length rr
    rw [sizeLine_eq]
    omega
/-- o.m(e, ..), what it lets out told by the slots -/
def tMethZ (C : Addr) (m : Str) (sp : Sp) (E : St → XK) (ta : TE) (t : TA) : TE := fun q H Q => ta q H fun x H1 => ∃ a dx fs, x = .ref a ∧ H1 a = some (.ins C dx fs) ∧ fs.lookup m = none ∧ t q H1 fun vs H2 => sp (x :: vs) H2 Q (E q)
theorem pe_methZ {pl : Sem Bool} (ho : PE X o ta) (cl : Cls X.K C) (me : Meth X.K C m f) (Fk : FnOk X.prog X.w X.K X.mg X.base CX k f fd ps sp) (rm : Room k X.A) (bi : Binds X.K fd ps []) (px : ∀ q, PassesAt CX X q (E q)) (ar : PA X (e :: es) t)
    (h1 : starEach (e :: es) X.env = (false, eval e X.env) :: starEach es X.env := by rfl) (h2 : (backTo pos (starEach es X.env)).any (·.1) = false := by rfl)
    (h3 : eval (.Call (.Attribute o m apos) (e :: es) [] pos) X.env = (do
      let cv ← eval o X.env
      standAt apos.atName
      let (g, fst) ← holding [cv] (getMethod cv m pl)
      callWith pos g fst (backTo pos (starEach (e :: es) X.env)) (backToKw pos (keywordEach [] X.env))) := by rfl) :
    PE X (.Call (.Attribute o m apos) (e :: es) [] pos) (tMethZ C m sp E ta t) := by
  constructor
  intro pins s q H Q I h
  refine PySem.W.methodCall_KW (pl := pl) (thn (ho.run pins s q H _ I h) fun u s1 hh => ?_) h3
  obtain ⟨x, H1, I1, rx, a, dx, fs, rfl, ea, l, z⟩ := hh
  obtain rfl : u = Value.ref a := rx
  refine getmeth_ok I1 ea cl me l ?_
  refine PySem.W.callWith_K (first := [.ref a]) (h₀ := X.base) I.ok.mod.kin me.kp (thn (ar.run pos pins s1 q H1 _ I1 z) fun us s2 hh => ?_) h1 h2
  obtain ⟨vs, H2, I2, r, z2⟩ := hh
  exact ⟨I2.kIn, run_fnS (us := .ref a :: us) (vs := .ref a :: vs) Fk rm bi (px q) I2 (.cons rfl r) z2⟩
/-- C(e, ..), what it lets out told by the slots -/
theorem run_makeS {pins : List (Addr × Obj)} {q : St} {H : Hp} {s : Shared} {Q : VK} {us : List Value} {vs : List V} (M : Mk X.K C f) (Fk : FnOk X.prog X.w X.K X.mg X.base CX k f fd ps sp) (rm : Room (k + 1) X.A) (bi : Binds X.K fd ps []) (px : PassesAt CX X q (E q)) (I : Inv X pins q H s) (r : Vals vs us)
    (h : ∀ x dx, H x = none → H dx = none → dx ≠ x → sp (.ref x :: vs) (upd (upd H dx (.own x)) x (.ins C dx [])) (fun v H2 => v = .non ∧ Q (.ref x) H2) (E q)) : wpAny (model X.prog X.w) X.A (call (.ref C) us) (EP X pins q Q) X.xe s := by
  have n1 : H (s.heap.objs.size + 1) = none := I.hok.fresh (Nat.le_succ _)
  have n0 : H s.heap.objs.size = none := I.hok.fresh (Nat.le_refl _)
  have hq := h _ _ n1 n0 (Nat.ne_of_lt (Nat.lt_succ_self _))
  have J := Inv.made (C := C) I
  have rr : Vals (V.ref (s.heap.objs.size + 1) :: vs) (Value.ref (s.heap.objs.size + 1) :: us) := .cons rfl r
  have hl : (Value.ref (s.heap.objs.size + 1) :: us).length = ps.length := rr.length.symm.trans (Fk.len _ _ _ _ hq)
  have bb := bi _ (Value.ref (s.heap.objs.size + 1) :: us) J.kIn (by rw [List.append_nil]; exact hl)
  rw [List.append_nil] at bb
  refine wpAny_call (make_map (f := f) I.kIn M.makes M.init (beq_iff_eq.mp M.fn) ?_)
  refine codeAny_mono (Fk.run _ X.stack _ _ ⟨Value.ref (s.heap.objs.size + 1) :: us, []⟩ _ _ _ (E q) (rm.make C us []) (J.env0.make C us []) bb rr hq) fun rs s' z => ?_
  match rs, z with
  | .error er, z => exact px pins _ _ er s' J z
  | .ok (.ret u), z =>
    obtain ⟨v, H', I3, rv, ev, q3⟩ := J.after z
    subst ev
    exact ⟨rv, ⟨V.ref (s.heap.objs.size + 1), H', I3, rfl, q3⟩⟩
  | .ok .next, z => exact z.elim
  | .ok .brk, z => exact z.elim
  | .ok .cont, z => exact z.elim
def tMakeS (C : Addr) (sp : Sp) (E : St → XK) (t : TA) : TE := fun q H Q => t q H fun vs H1 => ∀ x dx, H1 x = none → H1 dx = none → dx ≠ x → sp (.ref x :: vs) (upd (upd H1 dx (.own x)) x (.ins C dx [])) (fun v H2 => v = .non ∧ Q (.ref x) H2) (E q)
theorem pe_makeS (M : Mk X.K C f) (Fk : FnOk X.prog X.w X.K X.mg X.base CX k f fd ps sp) (rm : Room (k + 1) X.A) (g1 : Gl X x) (g2 : X.mg x = some (.ref C)) (bi : Binds X.K fd ps []) (px : ∀ q, PassesAt CX X q (E q)) (ar : PA X (e :: es) t) (g3 : (x == ("__debug__" : Str)) = false := by decide)
    (h1 : starEach (e :: es) X.env = (false, eval e X.env) :: starEach es X.env := by rfl) (h2 : (backTo pos (starEach es X.env)).any (·.1) = false := by rfl) : PE X (.Call (.Name x p) (e :: es) [] pos) (tMakeS C sp E t) := by
  constructor
  intro pins s q H Q I h
  refine wpAny_Call_Name_kw (ld_glob I g1 g2 ?_ g3)
  refine PySem.W.callWith_K (h₀ := X.base) I.ok.mod.kin M.kp (thn (ar.run pos pins s q H _ I h) fun us s1 hh => ?_) h1 h2
  obtain ⟨vs, H1, I1, r, z⟩ := hh
  exact ⟨I1.kIn, run_makeS M Fk rm bi (px q) I1 r z⟩
end
end L2
namespace DL
open PySem PySem.Spec PyProof.Rows L2
/-- an exception: its class, its fields (none: it has no dict) -/
abbrev Exn := Addr × Option (List (Str × V))
def RxH (x : Exn) (H : Hp) (cls : Value) (d : Option Addr) (H' : Hp) : Prop := cls = .ref x.1 ∧ ((x.2 = none ∧ d = none) ∨ ∃ fs dd, x.2 = some fs ∧ d = some dd ∧ H dd = none ∧ H' dd = some (.xd fs))
theorem RxH.weak {x : Exn} {H H1 : Hp} {cls : Value} {d : Option Addr} {H' : Hp} (h : RxH x H1 cls d H') (e : ∀ a o, H a = some o → H1 a = some o) : RxH x H cls d H' := ⟨h.1, h.2.imp id fun ⟨fs, dd, a, b, c, z⟩ => ⟨fs, dd, a, b, none_ext e c, z⟩⟩
def DEZ (X : Cx) (H0 : Hp) (S0 : AS) (e : Expr) (G : List Slot) (x : Exn) : Prop := ∀ S F q H, EnvOk H0 S0 G S F q H → ∀ W : WX, Takes X W → (∀ cls d H' S', Grow S H S' H' → RxH x H cls d H' → W cls d q H') → ∀ Q : VK, wE X e q H Q
def DZ (X : Cx) (H0 : Hp) (S0 : AS) (ss : List Stmt) (G : List Slot) (x : Exn) : Prop := ∀ S F q H, EnvOk H0 S0 G S F q H → ∀ W : WX, Takes X W → (∀ cls d H' S', Grow S H S' H' → RxH x H cls d H' → W cls d q H') → ∀ Dd, wSs X ss Dd q H
/-- a def may let x out -/
def Lets (X : Cx) (H0 : Hp) (x : Exn) : Prop := ∃ E : XK, Takes X (fun cls d _ H' => E cls d H') ∧ ∀ cls d H', RxH x H0 cls d H' → (∀ a o, H0 a = some o → H' a = some o) → E cls d H'
abbrev TrZ := List Arg → Wk → Exn → Prop
def spZ (K : PySem.W.Frag) (T : TrZ) : Sp := fun vs H _ E => ∃ (S : AS) (W : Wk) (as : List Arg) (x : Exn), (∀ a, S a → H a ≠ none) ∧ (∀ a c, W a = some c → CellOk H a c) ∧ RepsM K S H W vs as ∧ T as W x ∧ ∀ cls d H', RxH x H cls d H' → (∀ a o, H a = some o → H' a = some o) → E cls d H'
structure CalleeZ (P : Program) (w : World) (K : PySem.W.Frag) (mg : Str → Option Value) (base : Heap) (k : Nat) (x : Str) (T : TrZ) : Prop where
  ex : ∃ f fd ps, FnOk P w K mg base (L2.CX P w) k f fd ps (spZ K T) ∧ mg x = some (.ref f) ∧ PySem.W.keepIn K (.ref f) = true ∧ Binds K fd ps []
structure MethZ (P : Program) (w : World) (K : PySem.W.Frag) (mg : Str → Option Value) (base : Heap) (k : Nat) (C : Addr) (m : Str) (T : TrZ) : Prop where
  ex : ∃ f fd ps, FnOk P w K mg base (L2.CX P w) k f fd ps (spZ K T) ∧ Meth K C m f ∧ Binds K fd ps []
structure MakeZ (P : Program) (w : World) (K : PySem.W.Frag) (mg : Str → Option Value) (base : Heap) (k : Nat) (x : Str) (C : Addr) (T : TrZ) : Prop where
  ex : ∃ f fd ps, FnOk P w K mg base (L2.CX P w) k f fd ps (spZ K T) ∧ Mk K C f ∧ mg x = some (.ref C) ∧ Binds K fd ps []
/-- an own class of exceptions without __init__ of its own -/
structure OwnX (K : PySem.W.Frag) (mg : Str → Option Value) (x : Str) (C : Addr) : Prop where
  q : PySem.W.excIn K C [.type "ValueError", .type "Exception", .type "BaseException", .type "object"] "ValueError.__new__" = true
  g : mg x = some (.ref C)
  k : PySem.W.keepIn K (.ref C) = true
  b : PySem.W.subIn K (.ref C) (.type "BaseException") = some true
  t : PySem.W.typeIn K (.ref C) = some (.type "type")
/-- what the __init__ of an own class does: one field -/
def spInit (C : Addr) (fl : Str) : Sp := fun vs H Q _ => ∃ a y, vs = [.ref a, y] ∧ H a = some (exo a C none) ∧ ∀ dx, H dx = none → dx ≠ a → Q .non (upd (upd H dx (exd dx [(fl, y)])) a (exo a C (some dx)))
structure InitX (P : Program) (w : World) (K : PySem.W.Frag) (mg : Str → Option Value) (base : Heap) (k : Nat) (x : Str) (C : Addr) (fl : Str) : Prop where
  T : OexC K C
  g : mg x = some (.ref C)
  ex : ∃ f fd ps, PySem.W.findIn K (.ref C) "__init__" = some (some (.ref f)) ∧ PySem.W.typeIn K (.ref f) = some (.type "function") ∧ FnOk P w K mg base CX0 k f fd ps (spInit C fl) ∧ Binds K fd ps []
section
variable {P : Program} {w : World} {K : PySem.W.Frag} {mg : Str → Option Value} {base : Heap} {k : Nat} {N : List Str} {sc : Scope} {fa : Bool} {X : Cx} {H0 : Hp} {S0 : AS} {G G1 G2 : List Slot} {pos p1 p2 p3 p4 apos cpos : Pos} {x : Exn}
theorem ds_z {ss : List Stmt} {P' : Out → Prop} (L : Lets X H0 x) (h : DZ X H0 S0 ss G x) : DS X H0 S0 ss G P' := fun S F q H Dd En kk => by
  obtain ⟨E, tk, hE⟩ := L
  exact h S F q H En _ tk (fun cls d H' S' g r => hE cls d H' (r.weak En.ext) fun a o z => g.ext a o (En.ext a o z)) Dd
theorem dz_expr {e : Expr} {rest : List Stmt} (he : DEZ X H0 S0 e G x) (hs : swapsWith e none pos.line X.env = pure false := by rfl) : DZ X H0 S0 (.Expr e pos :: rest) G x := fun S F q H En W tk kk Dd =>
  wSs_of (pss_cons (ps_expr pwE hs) pwSs) (he S F q H En W tk kk _)
theorem dz_ret {e : Expr} {rest : List Stmt} (he : DEZ X H0 S0 e G x) : DZ X H0 S0 (.Return (some e) pos :: rest) G x := fun S F q H En W tk kk Dd =>
  wSs_of (pss_cons (ps_ret pwE) pwSs) (he S F q H En W tk kk _)
theorem dz_set (i : Nat) {y : Str} {e : Expr} {rest : List Stmt} (hX : XOk P w K mg base k N sc true X) (he : DEZ X H0 S0 e G x) (hN : N[i]? = some y := by rfl) (hv : locB sc y = true := by decide +kernel)
    (hs : swapsWith e (some (.Name y p1)) pos.line X.env = pure false := by rfl) : DZ X H0 S0 (.Assign [.Name y p1] e pos :: rest) G x := fun S F q H En W tk kk Dd =>
  wSs_of (pss_cons (ps_set (i := i) (by rw [hX.eN]; exact hX.nd) (by rw [hX.eN]; exact hN) (by rw [hX.es]; exact loc_of hv) pwE hs (by
    rcases loc_of hv with z | z
    · exact .inr (by rw [hX.es]; exact z)
    · exact .inl (hX.fn rfl y))) pwSs) (he S F q H En W tk kk _)
/-- raise X('..') -/
theorem dz_raise {y m : Str} {C : Addr} {j : Nat} {rest : List Stmt} (hX : XOk P w K mg base k N sc fa X) (o : OwnX K mg y C) (hg : globB sc y = true := by decide +kernel) (hd : (y == ("__debug__" : Str)) = false := by decide) : DZ X H0 S0 (.Raise (some (.Call (.Name y p1) [.Constant (.str m) j p2] [] p3)) none pos :: rest) G (C, none) := fun S F q H En W tk kk Dd =>
  wSs_of (pss_cons (ps_raise hX.calm tk (pmk_own PySem.F.excBase_ValueError (by rw [hX.eK]; exact o.q) (by rw [hX.emg]; exact o.g) (by rw [hX.eK]; exact o.k) (raises_own (by rw [hX.eK]; exact o.b) (by rw [hX.eK]; exact o.t)) (hX.gl hg) hd)) pwSs)
    (kk _ _ H S (Grow.refl S H) ⟨rfl, .inl ⟨rfl, rfl⟩⟩)
/-- raise X(e) -/
theorem dz_raiseI {y fl : Str} {C : Addr} {e : Expr} {d : D} {v : V} {j : Nat} {rest : List Stmt} (hX : XOk P w K mg base k N sc fa X) (o : InitX P w K mg base j y C fl) (he : DE X H0 S0 e G d) (hv : ∀ S H u, Rep S H u d → u = v) (hj : j + 1 ≤ k := by decide) (hg : globB sc y = true := by decide +kernel) (hd : (y == ("__debug__" : Str)) = false := by decide)
    (hs : starEach [e] X.env = (false, eval e X.env) :: starEach [] X.env := by rfl) (hpl : (backTo p3 (starEach [] X.env)).any (·.1) = false := by rfl) : DZ X H0 S0 (.Raise (some (.Call (.Name y p1) [e] [] p3)) none pos :: rest) G (C, some [(fl, v)]) := by
  obtain ⟨T, g, f, fd, ps, iC, tI, F1, hb⟩ := o
  cases hX.eP
  cases hX.ew
  cases hX.eK
  cases hX.emg
  cases hX.eb
  intro S F q H En W tk kk Dd
  refine wSs_of (pss_cons (ps_raise hX.calm tk (pmk_oex T iC tI F1 (hX.room.mono hj) hb .nil pass0 (hX.gl hg) g (pa_cons pwE pa_nil hs) hd hs hpl)) pwSs) (he S F q H En _ fun u H1 S1 g1 r1 => ?_)
  have ev := hv S1 H1 u r1
  subst ev
  refine ⟨by show 1 ≤ 1000; decide, fun a na => ⟨a, u, rfl, upd_same, fun dx nd ne => ?_⟩⟩
  rw [upd_ne ne] at nd
  refine ⟨rfl, dx, [(fl, u)], upd_same, by rw [upd_ne ne, upd_same], nd, ?_⟩
  refine kk _ _ _ S1 (g1.trans ⟨fun b o z => ?_, fun b z => z, fun b z => .inl z, fun b z => .inl z⟩) ⟨rfl, .inr ⟨_, dx, rfl, rfl, none_ext g1.ext nd, upd_same⟩⟩
  have ba : b ≠ a := fun y => by rw [y, na] at z; cases z
  have bd : b ≠ dx := fun y => by rw [y, nd] at z; cases z
  rw [upd_ne bd, del_ne ba, upd_ne ba, upd_ne bd, upd_ne ba]
  exact z
/-- the way out of a callee -/
theorem z_end {gi : Nat} {m : Bool} {W : Wk} {T : TrZ} {as : List Arg} {S S1 : AS} {F : Nat → AS} {q : L2.St} {H H1 : Hp} {vs : List V} {Q : VK} {E : XK} (E1 : EnvOk H0 S0 G S1 F q H1) (hW : G[gi]? = some (.wrk m W)) (g1 : Grow S H S1 H1) (r1 : RepsM K S1 H1 W vs as) (ht : T as W x)
    (kk : ∀ cls d H' S', Grow S H S' H' → RxH x H cls d H' → E cls d H') : spZ K T vs H1 Q E := by
  refine ⟨S1, W, as, x, E1.slv, (E1.wat hW).2, r1, ht, fun cls d H' r ex => ?_⟩
  exact kk cls d H' S1 (g1.trans ⟨ex, fun a z => z, fun a z => .inl z, fun a z => .inl z⟩) (r.weak g1.ext)
theorem dez_call (gi : Nat) {j : Nat} {W : Wk} {m : Bool} {T : TrZ} {y : Str} {e : Expr} {es : List Expr} {as : List Arg} (hX : XOk P w K mg base k N sc fa X) (c : CalleeZ P w K mg base j y T) (ha : DAM X H0 S0 W (e :: es) G as) (ht : T as W x) (hW : G[gi]? = some (.wrk m W) := by rfl) (hj : j ≤ k := by decide) (hg : globB sc y = true := by decide +kernel)
    (hdb : (y == ("__debug__" : Str)) = false := by decide) (he : starEach (e :: es) X.env = (false, eval e X.env) :: starEach es X.env := by rfl) (hpl : (backTo pos (starEach es X.env)).any (·.1) = false := by rfl) : DEZ X H0 S0 (.Call (.Name y p1) (e :: es) [] pos) G x := by
  obtain ⟨f, fd, ps, FO, hm, hk, hb⟩ := c.ex
  cases hX.eP
  cases hX.ew
  cases hX.eK
  cases hX.emg
  cases hX.eb
  intro S F q H En W' tk kk Q
  exact wE_of (pe_callS FO (hX.room.mono hj) (hX.gl hg) hm hk hb (fun q => passAt tk q) pwA hdb he hpl) (ha S F q H En _ fun vs H1 S1 g1 r1 => z_end (En.grow g1) hW g1 r1 ht kk)
theorem dez_meth (gi : Nat) {j : Nat} {W : Wk} {mm : Bool} {T : TrZ} {m : Str} {o e : Expr} {es : List Expr} {a C dx : Addr} {fs : List (Str × V)} {as : List Arg} {pl : Sem Bool} (hX : XOk P w K mg base k N sc fa X) (c : MethZ P w K mg base j C m T) (cl : Cls K C) (ho : DX X H0 S0 o G (.ref a)) (hp : W a = some (icell C dx fs)) (hl : fs.lookup m = none) (ha : DAM X H0 S0 W (e :: es) G as) (ht : T (.x (.ref a) :: as) W x) (hW : G[gi]? = some (.wrk mm W) := by rfl) (hj : j ≤ k := by decide)
    (hst : starEach (e :: es) X.env = (false, eval e X.env) :: starEach es X.env := by rfl) (hpl : (backTo pos (starEach es X.env)).any (·.1) = false := by rfl)
    (het : eval (.Call (.Attribute o m apos) (e :: es) [] pos) X.env = (do
      let cv ← eval o X.env
      standAt apos.atName
      let (g, fst) ← holding [cv] (getMethod cv m pl)
      callWith pos g fst (backTo pos (starEach (e :: es) X.env)) (backToKw pos (keywordEach [] X.env))) := by rfl) : DEZ X H0 S0 (.Call (.Attribute o m apos) (e :: es) [] pos) G x := by
  obtain ⟨f, fd, ps, FO, hm, hb⟩ := c.ex
  cases hX.eP
  cases hX.ew
  cases hX.eK
  cases hX.emg
  cases hX.eb
  intro S F q H En W' tk kk Q
  refine wE_of (pe_methZ pwE cl hm FO (hX.room.mono hj) hb (fun q => passAt tk q) pwA hst hpl het) (ho S F q H En _ fun v H1 S1 g1 r1 => ?_)
  cases r1
  have E1 := En.grow g1
  exact ⟨a, dx, fs, rfl, icell_at E1 hW hp, hl, ha S1 F q H1 E1 _ fun vs H2 S2 g2 r2 => z_end (E1.grow g2) hW (g1.trans g2) (.cons (.x (.ref a)) r2) ht kk⟩
/-- C(e, ..) whose __init__ raises -/
theorem dez_make (gi : Nat) {j : Nat} {W : Wk} {m : Bool} {T : TrZ} {y : Str} {C : Addr} {e : Expr} {es : List Expr} {as : List Arg} (hX : XOk P w K mg base k N sc fa X) (c : MakeZ P w K mg base j y C T) (ha : DAM X H0 S0 W (e :: es) G as) (ht : ∀ a, T (.x (.ref a) :: as) W x) (hW : G[gi]? = some (.wrk m W) := by rfl) (hj : j + 1 ≤ k := by decide) (hg : globB sc y = true := by decide +kernel)
    (hdb : (y == ("__debug__" : Str)) = false := by decide) (he : starEach (e :: es) X.env = (false, eval e X.env) :: starEach es X.env := by rfl) (hpl : (backTo pos (starEach es X.env)).any (·.1) = false := by rfl) : DEZ X H0 S0 (.Call (.Name y p1) (e :: es) [] pos) G x := by
  obtain ⟨f, fd, ps, FO, hM, hm, hb⟩ := c.ex
  cases hX.eP
  cases hX.ew
  cases hX.eK
  cases hX.emg
  cases hX.eb
  intro S F q H En W' tk kk Q
  refine wE_of (pe_makeS hM FO (hX.room.mono hj) (hX.gl hg) hm hb (fun q => passAt tk q) pwA hdb he hpl) (ha S F q H En _ fun vs H1 S1 g1 r1 a dx na nd ne => ?_)
  have gr : Grow S1 H1 S1 (upd (upd H1 dx (.own a)) a (.ins C dx [])) := (Grow.alloc0 nd).trans (Grow.alloc0 (by rw [upd_ne (Ne.symm ne)]; exact na))
  have g2 := g1.trans gr
  refine z_end (En.grow g2) hW g2 (.cons (.x (.ref a)) ?_) (ht a) kk
  exact r1.grow gr
/-- a def of the text that lets x out -/
theorem fnok_ofZ (gi : Nat) {y qual : Str} {st : Stmt} {f : Addr} {fd : FuncData} {N ps : List Str} {T : TrZ} (F : Fun K y qual st f fd) (Sc : FnScope N ps (defScope st)) (hg : ps.length ≤ gi) (hN : gi < N.length) (hT : ∀ as W x, T as W x → as.length = ps.length)
    (body : ∀ (X : Cx) (H0 : Hp) (S0 : AS) (as : List Arg) (W : Wk) (x : Exn), XOk P w K mg base k N (defScope st) true X → Lets X H0 x → T as W x → DS X H0 S0 (defBody st) (startR K N gi W as) (fun _ => False)) : FnOk P w K mg base (L2.CX P w) (k + 1) f fd ps (spZ K T) := by
  refine F.okX Sc (fun vs H Q E h => ?_) (fun cdv A outer s H vs Q E hr h => ?_)
  · obtain ⟨S, W, as, x, _, _, r, ht, _⟩ := h
    rw [r.len]
    exact hT as W x ht
  · obtain ⟨S, W, as, x, lv, ok, r, ht, kk⟩ := h
    have hX : XOk P w K mg base k N (defScope st) true (cxOf (L2.CX P w) P w K mg base N qual (defScope st) f cdv A outer s H E) := ⟨rfl, rfl, rfl, rfl, rfl, rfl, rfl, Sc.nd, rfl, hr, fun _ _ => rfl, passes_of (K := fun e s'' => L2.CX P w outer H s E e s'') rfl⟩
    obtain ⟨F0, E0⟩ := start_okR (N := N) (gi := gi) r (by rw [hT as W x ht]; exact hg) hN lv ok
    exact ⟨_, pwSs, body _ H S as W x hX ⟨E, takes_of rfl rfl rfl rfl, kk⟩ ht S F0 _ H _ E0 ⟨fun G S' F q H' h => h.elim, fun G S' F q H' h => h.elim, fun G S' F q H' h => h.elim, fun d v S' H' h => h.elim, fun ds p vs S' H' h => h.elim, fun G F q e v S' H' h => h.elim⟩⟩
end
end DL

/-! DXb: an exception that is caught and kept. -/
namespace L2
open PySem PySem.Spec PyProof.Rows
theorem Inv.track {X : Cx} {pins : List (Addr × Obj)} {q : St} {H : Hp} {s : Shared} {a : Addr} {oe : Obj} {vs : Array Value} {φ : Heap → Prop} (I : Inv X pins q H s) (ha : s.heap.get? a = some oe) (hd : oe.data = .fields vs) (hφ : φ s.heap) (st : ∀ h1 h2 : Heap, φ h1 → (∀ o, h1.get? a = some o → h2.get? a = some o) → φ h2)
    (na : H a = none) (n0 : X.s_0.heap.get? a = none) (nL : a ≠ X.env.locals) (np : ∀ p ∈ X.pn ++ pins, p.1 ≠ a) : Inv X pins q (upd H a (.ext φ)) s := by
  have nn : ∀ {b : Addr} {o : HO}, H b = some o → b ≠ a := fun {b o} e z => by rw [z, na] at e; cases e
  refine ⟨I.ok, I.os, I.bare, ⟨I.base.keep, I.base.slot, fun b o e n hx => ?_, I.base.there, fun b xs e => ?_, fun b o u e => ?_, fun b ps e => ?_⟩, I.loc, I.cell, ?_, fun y c e => ?_, fun p hp => ?_, fun b o e => ?_, I.len⟩
  · rw [upd_ne (fun z => by rw [z, n0] at e; cases e)]
    exact I.base.free b o e n hx
  · have := I.base.tups b xs e
    rw [upd_ne (nn this)]
    exact this
  · have := I.base.frzs b o u e
    rw [upd_ne (nn this)]
    exact this
  · obtain ⟨more, e2⟩ := I.base.tbls b ps e
    exact ⟨more, by rw [upd_ne (nn e2)]; exact e2⟩
  · rw [upd_ne (Ne.symm nL)]
    exact I.free
  · obtain ⟨v, z⟩ := I.cell y c e
    have nc : c ≠ a := fun y => by
      subst y
      obtain ⟨o, e1, e2⟩ := z
      rw [ha] at e1
      cases e1
      rw [hd] at e2
      cases e2
    rw [upd_ne nc]
    exact I.freeC y c e
  · obtain ⟨p1, p2, p3⟩ := I.pin p hp
    exact ⟨p1, by rw [upd_ne (np p hp)]; exact p2, p3⟩
  · by_cases z : b = a
    · subst z
      rw [upd_same] at e
      cases e
      exact ⟨hφ, ⟨oe, ha⟩, st⟩
    · rw [upd_ne z] at e
      exact (I.hok b o e).stay (fun c w hc y => y) (fun c hc => by rw [upd_ne (nn hc)]; exact hc) fun c xs hc => by rw [upd_ne (nn hc)]; exact hc
/-- an exception that is kept -/
def exT (cls : Value) (d : Option Addr) (a : Addr) : HO := .ext fun h => ∃ oe, h.get? a = some oe ∧ Zc cls d oe ∧ ∃ vs, oe.data = .fields vs
def noEnds : Ends := { nx := fun _ _ => False, rt := fun _ _ => False, bk := fun _ _ => False, ct := fun _ _ => False }
/-- what is wished of it: the clause's class names it, the suite runs on, then it is kept -/
def wCa (K : PySem.W.Frag) (c : Value) (i : Nat) (ts : Addr → Value → Option Addr → TS) (D : Ends) : WX := fun cls d q H => PySem.W.exmOne K cls c = some true ∧
  ∀ a, H a = none → ts a cls d { nx := fun q' H' => D.nx (q'.set i none) (upd H' a (exT cls d a)), rt := fun _ _ => False, bk := fun _ _ => False, ct := fun _ _ => False } (q.set i (some (.ref a))) H
section
variable {X : Cx} {x n : Str} {c : Value} {i : Nat} {body suite : List Stmt} {b₀ : Stmt} {np pos pos' : Pos} {tb : WX → TS} {ts : Addr → Value → Option Addr → TS}
theorem ps_caught (hs : X.stack = X.env :: X.outer) (hf : X.env.frame = some X.env.locals) (hex : X.ex = []) (hN : X.N.Nodup) (hi : X.N[i]? = some n) (hln : X.env.kindOf n = some .local) (hc : Names X x c)
    (hb : ∀ (W : WX) (pn : List (Addr × Obj)) (xe : Value → Shared → Prop), Takes (X.tr pn xe) W → PassesOwn (model X.prog X.w) X.A X.env xe → PSs (X.tr pn xe) body (tb W))
    (hsu : ∀ (a : Addr) (oe : Obj) (cls : Value) (d : Option Addr) (pn : List (Addr × Obj)), Zc cls d oe → (∃ vs, oe.data = .fields vs) → PSs (X.suite a ((a, oe) :: pn)) (b₀ :: suite) (ts a cls d)) :
    PS X (.Try body [.ExceptHandler (some (.Name x np)) (some n) (b₀ :: suite) pos'] [] [] pos) (fun D q H => tb (wCa X.K c i ts D) noEnds q H) := by
  constructor
  intro pins s q H D I h
  have ok := I.ok
  have fr : X.A.frames = some (X.env :: X.outer) := by rw [ok.frames, hs]
  have own : Loc X.env.scope n := .inl hln
  refine wpAny_Try_except ?_
  refine wpAny_mono ((hb (wCa X.K c i ts D) (X.pn ++ pins)
    (fun u u1 => wpAny (model X.prog X.w) X.A (noteFrame u X.env)
      (fun _ u2 => wpAny (model X.prog X.w) X.A (setFlight u none)
        (fun _ u3 => wpAny (model X.prog X.w) X.A (handleBy u X.env [.ExceptHandler (some (.Name x np)) (some n) (b₀ :: suite) pos']) (SP X pins D) X.xe u3) X.xe u2) X.xe u1) (fun u s' xx => ?_) PassesOwn.looking).run [] s q H noEnds (I.toTry _) h) (fun fl s1 hsp => ?_) (fun _ _ z => z)
  · obtain ⟨a, B, sI, pins', q', H', cls, d, rfl, J', nb, up, sky, na, os, ag, hm, hy⟩ := xx
    have J : Inv X pins q' H' sI := J'.ofTry ok
    rw [show (X.tr (X.pn ++ pins) _).stack = X.env :: X.outer from hs] at sky
    show wpAny (model X.prog X.w) X.A (noteFrame (.ref a) X.env) _ _ _
    refine Sky.land Zc.steady fr hf sky fun h3 fl3 up3 => ?_
    have J3 : Inv X pins q' H' { s' with heap := h3 } := J.landed nb fl3.1 (up.trans up3) os ag
    obtain ⟨oe3, vs3, he3, hz3, hd3⟩ := fl3.there
    have nfr : a ∉ frs (X.env :: X.outer) := fun hm => by
      obtain ⟨_, o', e', hnf⟩ := (show h3.FunFrames B (X.env :: X.outer) from fl3.2.2.1).mem hm
      rw [he3] at e'
      cases e'
      exact hnf _ hd3
    have nL : a ≠ X.env.locals := fun z => nfr (List.mem_filterMap.mpr ⟨X.env, .head _, by rw [hf, z]⟩)
    have nF : a ∉ X.fs := fun hm => by
      obtain ⟨v, hv, z⟩ := List.mem_filterMap.mp hm
      exact nfr (List.mem_filterMap.mpr ⟨v, .tail _ hv, z⟩)
    have nI : sI.heap.get? a = none := by
      cases z : sI.heap.get? a with
      | none => rfl
      | some o =>
        have := nb a o z (by rw [show (X.tr (X.pn ++ pins) _).stack = X.env :: X.outer from hs]; exact nfr)
        rw [fl3.2.1] at this
        cases this
    have n0 : X.s_0.heap.get? a = none := by
      cases z : X.s_0.heap.get? a with
      | none => rfl
      | some o =>
        obtain ⟨o', e'⟩ := J.base.there a o z (by rw [hex]; exact List.not_mem_nil)
        rw [nI] at e'
        cases e'
    have npin : ∀ p ∈ X.pn ++ pins, p.1 ≠ a := fun p hp z => by
      have := (J.pin p hp).1
      rw [z, nI] at this
      cases this
    have S3 := J3.suite he3 hd3 na nL nF
    refine wpAny_handleBy_cons (codeAny_handlers_test ?_) (by intro z; cases z)
    have ty : PySem.W.Looks (model X.prog X.w) h3 (typeOf (.ref a)) cls := fun A Q E s k z => wpAny_typeOf_ref (k _ _ he3) (by rw [hz3.1]; exact z)
    have lm := PySem.W.exm_one (M := model X.prog X.w) (J3.kIn) ty hm
    have named : ∀ {Q : Value → Shared → Prop} {E : Value → Shared → Prop}, Q c { s' with heap := h3 } → wpAny (model X.prog X.w) (X.A.mark (some (.ref a))) (eval (.Name x np) X.env) Q E { s' with heap := h3 } := fun {Q E} z => by
      obtain ⟨hg, hdb, hm | ⟨hm, hv, hnn⟩⟩ := hc
      · exact ld_glob (X := X.suite a ((a, oe3) :: (X.pn ++ pins))) S3 hg hm z hdb
      · exact ld_blt (X := X.suite a ((a, oe3) :: (X.pn ++ pins))) S3 hg hm hv z hnn hdb
    refine named (lm.here (codeAny_handlers_suite_as ?_))
    refine HandSPX.lands_againZ fl3 fun h4 fl4 up4 => ?_
    have J4 : Inv X pins q' H' { s' with heap := h4 } := J.landed nb fl4.1 ((up.trans up3).trans up4) os ag
    obtain ⟨oe4, vs4, he4, hz4, hd4⟩ := fl4.there
    have S4 := J4.suite he4 hd4 na nL nF
    refine store_ok (X := X.suite a ((a, oe4) :: (X.pn ++ pins))) (v := .ref a) S4 hN hi own rfl (fun s5 S5 => ?_) (.inr hln)
    refine wpAny_mono ((hsu a oe4 cls d (X.pn ++ pins) hz4 ⟨_, hd4⟩).run [] s5 _ H' _ S5 (hy a na)) (fun fl s6 hsp => ?_) (fun _ _ z => z.elim)
    match fl, hsp with
    | .next, hsp =>
      obtain ⟨q6, H6, S6, z6⟩ := hsp
      obtain ⟨e6, n6, _⟩ := S6.pin (a, oe4) (List.mem_append_left _ (.head _))
      have J6 := (S6.unsuite ok).track (φ := fun h => ∃ oe, h.get? a = some oe ∧ Zc cls d oe ∧ ∃ vs, oe.data = .fields vs) e6 hd4 ⟨oe4, e6, hz4, vs4, hd4⟩ (fun h1 h2 z k => by
        obtain ⟨oe, a1, a2, a3⟩ := z
        exact ⟨oe, k _ a1, a2, a3⟩) n6 n0 nL npin
      exact gone_ok J6 hN hi hln fun s7 J7 => ⟨_, _, J7, z6⟩
    | .brk, hsp =>
      obtain ⟨_, _, _, z⟩ := hsp
      exact z.elim
    | .cont, hsp =>
      obtain ⟨_, _, _, z⟩ := hsp
      exact z.elim
    | .ret u, hsp =>
      obtain ⟨_, _, _, _, _, z⟩ := hsp
      exact z.elim
  · match fl, hsp with
    | .next, hsp =>
      obtain ⟨_, _, _, z⟩ := hsp
      exact z.elim
    | .brk, hsp =>
      obtain ⟨_, _, _, z⟩ := hsp
      exact z.elim
    | .cont, hsp =>
      obtain ⟨_, _, _, z⟩ := hsp
      exact z.elim
    | .ret u, hsp =>
      obtain ⟨_, _, _, _, _, z⟩ := hsp
      exact z.elim
end
end L2

/-! DXc: try, except in the layer; isinstance of a kept exception. -/
namespace L2
open PySem PySem.Spec PyProof.Rows
/-- isinstance(e, c), e an exception that is kept -/
def rIsX (K : PySem.W.Frag) : List V → Hp → VK → Prop := fun xs H Q => ∃ (a D : Addr) (d : Option Addr) (c : V) (cv : Value) (b : Bool), xs = [.ref a, c] ∧ (∀ u, RelV c u → u = cv) ∧ H a = some (exT (.ref D) d a) ∧ (d = none ∨ ∃ dd fs, d = some dd ∧ H dd = some (.xd fs)) ∧ ExcC K D ∧
  PySem.W.kitOne K (.ref D) cv = some b ∧ Q (.bl b) H
theorem call_isX {X : Cx} : CallR X (.builtin "isinstance") (rIsX X.K) := by
  intro pins s q H xs us Q I r h
  obtain ⟨a, D, d, c, cv, b, rfl, hcv, ha, hd, C, e, z⟩ := h
  cases r with
  | cons rx rr =>
    cases rr with
    | cons rt rr =>
      cases rr
      cases rx
      have ec := hcv _ rt
      subst ec
      have ok : ObjOk X.prog X.w H s.heap a (exT (.ref D) d a) := I.hok a _ ha
      obtain ⟨⟨oe, h1, h2, vs, h3⟩, _, _⟩ := ok
      obtain ⟨cd, hcl, _⟩ := PySem.W.any_some C.hd
      have J : ∃ od, PySem.W.InstAt s.heap a oe D od := by
        obtain ⟨oc, odd, oda, osl⟩ := oe
        obtain ⟨c1, c2⟩ := h2
        dsimp only at c1 c2 h3
        subst c1 c2 h3
        rcases hd with rfl | ⟨dd, fs, rfl, hdd⟩
        · exact ⟨none, h1, rfl, rfl, trivial⟩
        · have hx : ObjOk X.prog X.w H s.heap dd (.xd fs) := I.hok dd _ hdd
          obtain ⟨_, ⟨o, _, _, e1, _⟩, _⟩ := hx
          exact ⟨some o, h1, rfl, rfl, e1⟩
      obtain ⟨od, J⟩ := J
      exact PySem.W.kia_one (PySem.W.kitx_exc (by rw [hcl]; rfl) C.hg C.hk C.hs C.ha C.hn C.ht C.hm) I.kIn J e (fun z => nomatch z) fun tk => ⟨.bl b, H, I.kept (t' := tk) fun _ _ z => z, rfl, z⟩
end L2
namespace DL
open PySem PySem.Spec PyProof.Rows L2
/-- at a: a kept exception of the class D -/
def ExAt (W : Wk) (a D : Addr) : Prop := ∃ d, W a = some (.raw (exT (.ref D) d a)) ∧ (d = none ∨ ∃ dd fs, d = some dd ∧ W dd = some (.raw (.xd fs)))
theorem ExAt.sub {W W' : Wk} {a D : Addr} (h : ExAt W a D) (k : ∀ b c, W b = some c → W' b = some c) : ExAt W' a D := by
  obtain ⟨d, h1, h2⟩ := h
  exact ⟨d, k _ _ h1, h2.imp id fun ⟨dd, fs, e, z⟩ => ⟨dd, fs, e, k _ _ z⟩⟩
structure TryOk (X : Cx) : Prop where
  st : X.stack = X.env :: X.outer
  fr : X.env.frame = some X.env.locals
  ex : X.ex = []
theorem nto_ext (φ : Heap → Prop) : NTo (.ext φ) := ⟨fun xs h => (by cases h), fun u xs h => (by cases h)⟩
theorem nto_xd (fs : List (Str × V)) : NTo (.xd fs) := ⟨fun xs h => (by cases h), fun u xs h => (by cases h)⟩
section
variable {P : Program} {w : World} {K : PySem.W.Frag} {mg : Str → Option Value} {base : Heap} {k : Nat} {N : List Str} {sc : Scope} {fa : Bool} {X : Cx} {H0 : Hp} {S0 : AS} {G G1 G2 : List Slot} {pos p1 p2 p3 p4 p5 pos' apos cpos : Pos} {x : Exn}
theorem XOk.tr {pn : List (Addr × Obj)} {xe : Value → Shared → Prop} (hX : XOk P w K mg base k N sc fa X) (po : PassesOwn (model X.prog X.w) X.A X.env xe) : XOk P w K mg base k N sc fa (X.tr pn xe) := ⟨hX.eP, hX.ew, hX.eK, hX.emg, hX.eb, hX.eN, hX.es, hX.nd, hX.calm, hX.room, hX.fn, po⟩
/-- the body of a try, which raises x -/
def DZT (X : Cx) (P : Program) (w : World) (K : PySem.W.Frag) (mg : Str → Option Value) (base : Heap) (k : Nat) (N : List Str) (sc : Scope) (H0 : Hp) (S0 : AS) (ss : List Stmt) (G : List Slot) (x : Exn) : Prop := ∀ pn xe, XOk P w K mg base k N sc true (X.tr pn xe) → DZ (X.tr pn xe) H0 S0 ss G x
theorem try_core {q : L2.St} {H : Hp} {S : AS} {F : Nat → AS} {cx n : Str} {c : Value} {i : Nat} {body suite : List Stmt} {b₀ : Stmt} {ts : Addr → Value → Option Addr → TS} (hX : XOk P w K mg base k N sc true X) (tr : TryOk X) (hi : N[i]? = some n) (hl : ownB sc n = true) (hc : Names X cx c) (hm : PySem.W.exmOne K (.ref x.1) c = some true)
    (hb : DZT X P w K mg base k N sc H0 S0 body G x)
    (hsu : ∀ (a : Addr) (oe : Obj) (cls : Value) (d : Option Addr) (pn : List (Addr × Obj)), Zc cls d oe → (∃ vs, oe.data = .fields vs) → PSs (X.suite a ((a, oe) :: pn)) (b₀ :: suite) (ts a cls d)) {rest : List Stmt} {Dd : Ends} (En : EnvOk H0 S0 G S F q H)
    (kk : ∀ d H', Grow S H S H' → RxH x H (.ref x.1) d H' → ∀ a, H' a = none → ts a (.ref x.1) d { nx := fun q' H2 => wSs X rest Dd (q'.set i none) (upd H2 a (exT (.ref x.1) d a)), rt := fun _ _ => False, bk := fun _ _ => False, ct := fun _ _ => False } (q.set i (some (.ref a))) H') :
    wSs X (.Try body [.ExceptHandler (some (.Name cx p1)) (some n) (b₀ :: suite) pos'] [] [] pos :: rest) Dd q H := by
  refine wSs_of (pss_cons (ps_caught (i := i) (tb := fun W => fun D q H => ∀ pn xe, Takes (X.tr pn xe) W → PassesOwn (model X.prog X.w) X.A X.env xe → wSs (X.tr pn xe) body D q H) tr.st tr.fr tr.ex (by rw [hX.eN]; exact hX.nd) (by rw [hX.eN]; exact hi) ?_ hc (fun W pn xe tk po => ⟨fun pins s q H D I h => h pn xe tk po pins s I⟩) hsu) pwSs) ?_
  · have := own_of hl
    show X.env.scope.names.lookup n = some .local
    rw [hX.es]
    exact this
  · intro pn xe tk po
    refine hb pn xe (hX.tr po) S F q H En _ tk (fun cls d H' S' g r => ?_) noEnds
    obtain ⟨e1, e2⟩ := r
    subst e1
    exact ⟨by rw [hX.eK]; exact hm, fun a na => kk d H' ⟨g.ext, fun _ z => z, fun _ z => .inl z, fun _ z => .inl z⟩ ⟨rfl, e2⟩ a na⟩
/-- try: .. except X as e: y = e -/
theorem ds_tryC (ie iy gi : Nat) {cx n y : Str} {c : Value} {body rest : List Stmt} {W : Wk} {P' : Out → Prop} (hX : XOk P w K mg base k N sc true X) (tr : TryOk X) (hm : mg cx = some c) (hk : PySem.W.exmOne K (.ref x.1) c = some true) (hb : DZT X P w K mg base k N sc H0 S0 body G x)
    (h : ∀ a W', (∀ b c, W b = some c → W' b = some c) → W a = none → ExAt W' a x.1 → DS X H0 S0 rest (((G.set iy (.itm (.ref a))).set ie .junk).set gi (.wrk true W')) P') (hW : G[gi]? = some (.wrk true W) := by rfl) (hN : N[ie]? = some n := by rfl) (hN2 : N[iy]? = some y := by rfl) (hl : ownB sc n = true := by decide +kernel) (hv : locB sc y = true := by decide +kernel) (hv2 : visB sc n = true := by decide +kernel)
    (hg : globB sc cx = true := by decide +kernel) (hdb : (cx == ("__debug__" : Str)) = false := by decide) (ha : ie < G.length := by exact Nat.le_of_ble_eq_true rfl) (hi : iy < G.length := by exact Nat.le_of_ble_eq_true rfl) (ne1 : iy ≠ gi := by decide) (ne2 : ie ≠ gi := by decide) (ne3 : ie ≠ iy := by decide) (hd : (n == ("__debug__" : Str)) = false := by decide) (hcd : (n == ("__classdict__" : Str)) = false := by decide)
    (hs : ∀ a pn, swapsWith (.Name n p3) (some (.Name y p2)) apos.line (X.suite a pn).env = pure false := by intro _ _; rfl) :
    DS X H0 S0 (.Try body [.ExceptHandler (some (.Name cx p1)) (some n) [.Assign [.Name y p2] (.Name n p3) apos] pos'] [] [] pos :: rest) G P' := fun S F q H Dd En kk => by
  have ql : q.length = G.length := En.len
  refine try_core (i := ie) (ts := fun a cls d => fun D q H => ∃ v, q[ie]? = some (some v) ∧ D.nx (q.set iy (some v)) H) hX tr hN hl ⟨hX.gl hg, hdb, .inl (by rw [hX.emg]; exact hm)⟩ hk hb (fun a oe cls d pn hz hf => ?_) En (fun d H1 g r a na => ?_)
  · have ps := pss_one (ps_set (X := X.suite a ((a, oe) :: pn)) (i := iy) (by rw [hX.eN]; exact hX.nd) (by rw [hX.eN]; exact hN2) (by rw [hX.es]; exact loc_of hv) (pe_var (X := X.suite a ((a, oe) :: pn)) (i := ie) (by rw [hX.eN]; exact hN) (by rw [hX.es]; exact vis_of hv2) hd hcd) (hs a ((a, oe) :: pn)) (by
      rcases loc_of hv with z | z
      · exact .inr (by rw [hX.es]; exact z)
      · exact .inl (hX.fn rfl y)))
    exact ⟨fun pins s q H D I hh => ps.run pins s q H D I (by obtain ⟨v, e, z⟩ := hh; exact ⟨v, e, z⟩)⟩
  · have E1 := En.grow g
    refine ⟨.ref a, List.getElem?_set_self (by omega), ?_⟩
    have Ea : EnvOk H0 S0 (G.set iy (.itm (.ref a))) S _ (q.set iy (some (.ref a))) H1 := E1.puti hi (.ref a)
    have Eb := Ea.putj (i := ie) (by rw [List.length_set]; exact ha) none
    have eq_ : (((q.set ie (some (V.ref a))).set iy (some (.ref a))).set ie none) = (q.set iy (some (.ref a))).set ie none := by
      rw [List.set_comm _ _ ne3, List.set_set]
    show wSs X rest Dd (((q.set ie (some (V.ref a))).set iy (some (.ref a))).set ie none) _
    rw [eq_]
    have hW2 : ((G.set iy (.itm (.ref a))).set ie .junk)[gi]? = some (.wrk true W) := by rw [List.getElem?_set_ne ne2, List.getElem?_set_ne ne1]; exact hW
    have Wa : W a = none := by
      cases e : W a with
      | none => rfl
      | some c => exact absurd na (((En.grow g).wdom hW) a (by rw [e]; exact Option.some_ne_none _)).1
    have fin : ∀ (W2 : Wk) (F2 : Nat → AS), EnvOk H0 S0 (((G.set iy (.itm (.ref a))).set ie .junk).set gi (.wrk true W2)) S F2 ((q.set iy (some (.ref a))).set ie none) H1 → (∀ b c, W b = some c → W2 b = some c) → (d = none ∨ ∃ dd fs, d = some dd ∧ W2 dd = some (.raw (.xd fs))) → wSs X rest Dd ((q.set iy (some (.ref a))).set ie none) (upd H1 a (exT (.ref x.1) d a)) := fun W2 F2 E2 s2 hd2 => by
      have gi_ : gi < (((G.set iy (.itm (.ref a))).set ie .junk)).length := (List.getElem?_eq_some_iff.mp hW2).1
      have hW3 : (((G.set iy (.itm (.ref a))).set ie .junk).set gi (.wrk true W2))[gi]? = some (.wrk true W2) := List.getElem?_set_self gi_
      have W2a : W2 a = none := by
        cases e : W2 a with
        | none => rfl
        | some c => exact absurd na ((E2.wdom hW3) a (by rw [e]; exact Option.some_ne_none _)).1
      have gr : Grow S H1 S (upd H1 a (exT (.ref x.1) d a)) := Grow.alloc0 na
      obtain ⟨F4, E4⟩ := (E2.grow gr).wadd (gi := gi) (W := W2) (p := a) (c := .raw (exT (.ref x.1) d a)) hW3 ⟨upd_same, nto_ext _⟩ (by rw [upd_same]; exact Option.some_ne_none _) (none_ext E1.ext na) (fun z => E2.slv a z na) (fun j z => E2.flv j a z na)
      rw [List.set_set] at E4
      have s3 : ∀ b c, W2 b = some c → updW W2 a (.raw (exT (.ref x.1) d a)) b = some c := fun b c e => by rw [updW_ne (fun z => by rw [z, W2a] at e; cases e)]; exact e
      refine h a _ (fun b c e => s3 b c (s2 b c e)) Wa ⟨d, updW_same, hd2.imp id fun ⟨dd, fs, e, z⟩ => ⟨dd, fs, e, s3 _ _ z⟩⟩ S F4 _ _ Dd E4 (kk.at_ (g.trans gr).keep)
    rcases r.2 with ⟨_, ed⟩ | ⟨fs, dd, _, ed, hn, hdd⟩
    · have eg : ((G.set iy (.itm (.ref a))).set ie .junk).set gi (.wrk true W) = (G.set iy (.itm (.ref a))).set ie .junk := set_wrk hW2
      exact fin W _ (by rw [eg]; exact Eb) (fun _ _ z => z) (.inl ed)
    · obtain ⟨F3, E3⟩ := Eb.wadd (gi := gi) (W := W) (p := dd) (c := .raw (.xd fs)) hW2 ⟨hdd, nto_xd fs⟩ (by rw [hdd]; exact Option.some_ne_none _) (none_ext En.ext hn) (fun z => En.slv dd z hn) (fun j z => by
        by_cases j1 : j = ie
        · simp only [if_pos j1] at z
        · simp only [if_neg j1] at z
          by_cases j2 : j = iy
          · simp only [if_pos j2] at z
          · simp only [if_neg j2] at z
            exact En.flv j dd z hn)
      have Wd : W dd = none := by
        cases e : W dd with
        | none => rfl
        | some c => exact absurd hn ((En.wdom hW) dd (by rw [e]; exact Option.some_ne_none _)).1
      exact fin _ F3 E3 (fun b c e => by rw [updW_ne (fun z => by rw [z, Wd] at e; cases e)]; exact e) (.inr ⟨dd, fs, ed, updW_same⟩)
/-- try: .. except X as e: y = e.f -/
theorem ds_tryP (ie iy : Nat) {cx n y fl : Str} {c : Value} {body rest : List Stmt} {C : Addr} {v : V} {d : D} {P' : Out → Prop} (hX : XOk P w K mg base k N sc true X) (tr : TryOk X) (hm : mg cx = some c) (hk : PySem.W.exmOne K (.ref C) c = some true) (T : XfC K C) (hno : PySem.W.findIn K (.ref C) fl = some none) (hb : DZT X P w K mg base k N sc H0 S0 body G (C, some [(fl, v)])) (hd0 : ∀ H, Rep (fun _ => False) H v d)
    (h : DS X H0 S0 rest ((G.set iy (.val d)).set ie .junk) P') (hN : N[ie]? = some n := by rfl) (hN2 : N[iy]? = some y := by rfl) (hl : ownB sc n = true := by decide +kernel) (hv : locB sc y = true := by decide +kernel) (hv2 : visB sc n = true := by decide +kernel)
    (hg : globB sc cx = true := by decide +kernel) (hdb : (cx == ("__debug__" : Str)) = false := by decide) (ha : ie < G.length := by exact Nat.le_of_ble_eq_true rfl) (hi : iy < G.length := by exact Nat.le_of_ble_eq_true rfl) (ne3 : ie ≠ iy := by decide) (hd : (n == ("__debug__" : Str)) = false := by decide) (hcd : (n == ("__classdict__" : Str)) = false := by decide)
    (hs : ∀ a pn, swapsWith (.Attribute (.Name n p3) fl p4) (some (.Name y p2)) apos.line (X.suite a pn).env = pure false := by intro _ _; rfl) (hba : ∀ a pn, attributeBase (.Name n p3) fl (X.suite a pn).env (eval (.Name n p3) (X.suite a pn).env) = eval (.Name n p3) (X.suite a pn).env := by intro _ _; rfl) :
    DS X H0 S0 (.Try body [.ExceptHandler (some (.Name cx p1)) (some n) [.Assign [.Name y p2] (.Attribute (.Name n p3) fl p4) apos] pos'] [] [] pos :: rest) G P' := fun S F q H Dd En kk => by
  have ql : q.length = G.length := En.len
  refine try_core (x := (C, some [(fl, v)])) (i := ie) (ts := fun a cls d => fun D q H => tXf a cls d C fl (tVar ie) q H fun u H1 => D.nx (q.set iy (some u)) H1) hX tr hN hl ⟨hX.gl hg, hdb, .inl (by rw [hX.emg]; exact hm)⟩ hk hb (fun a oe cls d pn hz hf => ?_) En (fun d' H1 g r a na => ?_)
  · exact pss_one (ps_set (X := X.suite a ((a, oe) :: pn)) (i := iy) (by rw [hX.eN]; exact hX.nd) (by rw [hX.eN]; exact hN2) (by rw [hX.es]; exact loc_of hv) (pe_xf (by rw [hX.eK]; exact T) (by rw [hX.eK]; exact hno) hz hf (pe_var (X := X.suite a ((a, oe) :: pn)) (i := ie) (by rw [hX.eN]; exact hN) (by rw [hX.es]; exact vis_of hv2) hd hcd) (hba a ((a, oe) :: pn))) (hs a ((a, oe) :: pn)) (by
      rcases loc_of hv with z | z
      · exact .inr (by rw [hX.es]; exact z)
      · exact .inl (hX.fn rfl y)))
  · rcases r.2 with ⟨e0, _⟩ | ⟨fs, dd, e0, ed, hn, hdd⟩
    · cases e0
    · cases e0
      refine ⟨.ref a, List.getElem?_set_self (by omega), rfl, rfl, dd, _, v, ed, hdd, List.lookup_cons_self, ?_⟩
      have E1 := En.grow g
      have eq_ : (((q.set ie (some (V.ref a))).set iy (some v)).set ie none) = (q.set iy (some v)).set ie none := by
        rw [List.set_comm _ _ ne3, List.set_set]
      show wSs X rest Dd (((q.set ie (some (V.ref a))).set iy (some v)).set ie none) _
      rw [eq_]
      have gr : Grow S H1 S (upd H1 a (exT (.ref C) d' a)) := Grow.alloc0 na
      have Ea := (E1.grow gr).putv hi ((hd0 _).mono (S' := S) (fun _ z => z.elim) fun _ _ _ z => z)
      have Eb := Ea.putj (i := ie) (by rw [List.length_set]; exact ha) none
      exact h S _ _ _ Dd Eb (kk.at_ (g.trans gr).keep)
/-- isinstance(e, C), e a kept exception, C a class of the text -/
theorem de_isiX (gi : Nat) {a : Expr} {y : Str} {p D C : Addr} {m : Bool} {W : Wk} {b : Bool} (hX : XOk P w K mg base k N sc fa X) (hm : mg "isinstance" = none) (ha : DX X H0 S0 a G (.ref p)) (hp : ExAt W p D) (hC : ExcC K D) (hy : mg y = some (.ref C)) (hk : PySem.W.kitOne K (.ref D) (.ref C) = some b) (hW : G[gi]? = some (.wrk m W) := by rfl)
    (hg : globB sc "isinstance" = true := by decide +kernel) (hgT : globB sc y = true := by decide +kernel) (hdb : (y == ("__debug__" : Str)) = false := by decide)
    (hs : starEach [a, .Name y p2] X.env = (false, eval a X.env) :: starEach [.Name y p2] X.env := by rfl) (hs2 : starEach [.Name y p2] X.env = (false, eval (.Name y p2) X.env) :: starEach [] X.env := by rfl) (hpl : (backTo pos (starEach [.Name y p2] X.env)).any (·.1) = false := by rfl) :
    DE X H0 S0 (.Call (.Name "isinstance" p1) [a, .Name y p2] [] pos) G (.bool b) := fun S F q H En Q kk =>
  wE_of (pe_callB call_isX (hX.gl hg) (by rw [hX.emg]; exact hm) PyProof.Rows.boot_isinstance (pa_cons pwE (pa_cons (pe_glob (v := .ref C) (hX.gl hgT) (by rw [hX.emg]; exact hy) rfl hdb) pa_nil hs2) hs) (by decide) (by decide) hs hpl)
    (ha S F q H En _ fun v H1 S1 g1 r1 => by
      cases r1
      have E1 := En.grow g1
      obtain ⟨d, h1, h2⟩ := hp
      have c1 := (E1.wat hW).2 p _ h1
      refine ⟨p, D, d, .ref C, .ref C, b, rfl, fun u z => z, c1.1, h2.imp id fun ⟨dd, fs, e, z⟩ => ⟨dd, fs, e, ((E1.wat hW).2 dd _ z).1⟩, by rw [hX.eK]; exact hC, by rw [hX.eK]; exact hk, kk _ H1 S1 g1 (.bl _)⟩)
/-- .. C a built-in class -/
theorem de_isiY (gi : Nat) {a : Expr} {y T : Str} {t : String} {p D : Addr} {m : Bool} {W : Wk} {b : Bool} (hX : XOk P w K mg base k N sc fa X) (hm : mg "isinstance" = none) (ha : DX X H0 S0 a G (.ref p)) (hp : ExAt W p D) (hC : ExcC K D) (hy : mg y = none) (hv : bootBuiltins y = some (.type t)) (hk : PySem.W.kitOne K (.ref D) (.type t) = some b) (hW : G[gi]? = some (.wrk m W) := by rfl)
    (hg : globB sc "isinstance" = true := by decide +kernel) (hgT : globB sc y = true := by decide +kernel) (hn : y ≠ "__name__" := by decide) (hdb : (y == ("__debug__" : Str)) = false := by decide)
    (hs : starEach [a, .Name y p2] X.env = (false, eval a X.env) :: starEach [.Name y p2] X.env := by rfl) (hs2 : starEach [.Name y p2] X.env = (false, eval (.Name y p2) X.env) :: starEach [] X.env := by rfl) (hpl : (backTo pos (starEach [.Name y p2] X.env)).any (·.1) = false := by rfl) :
    DE X H0 S0 (.Call (.Name "isinstance" p1) [a, .Name y p2] [] pos) G (.bool b) := fun S F q H En Q kk =>
  wE_of (pe_callB call_isX (hX.gl hg) (by rw [hX.emg]; exact hm) PyProof.Rows.boot_isinstance (pa_cons pwE (pa_cons (pe_bltn (v := .ty t) (hX.gl hgT) (by rw [hX.emg]; exact hy) hv rfl hn hdb) pa_nil hs2) hs) (by decide) (by decide) hs hpl)
    (ha S F q H En _ fun v H1 S1 g1 r1 => by
      cases r1
      have E1 := En.grow g1
      obtain ⟨d, h1, h2⟩ := hp
      have c1 := (E1.wat hW).2 p _ h1
      refine ⟨p, D, d, .ty t, .type t, b, rfl, fun u z => z, c1.1, h2.imp id fun ⟨dd, fs, e, z⟩ => ⟨dd, fs, e, ((E1.wat hW).2 dd _ z).1⟩, by rw [hX.eK]; exact hC, by rw [hX.eK]; exact hk, kk _ H1 S1 g1 (.bl _)⟩)
/-- defs with a try -/
theorem fnok_ofMT (gi : Nat) {y qual : Str} {st : Stmt} {f : Addr} {fd : FuncData} {N ps : List Str} {T : TrM} (F : Fun K y qual st f fd) (Sc : FnScope N ps (defScope st)) (hg : ps.length ≤ gi) (hN : gi < N.length) (hT : ∀ as W P', T as W P' → as.length = ps.length)
    (body : ∀ (X : Cx) (H0 : Hp) (S0 : AS) (as : List Arg) (W : Wk) (P' : E → Wk → Prop), XOk P w K mg base k N (defScope st) true X → TryOk X → T as W P' → DS X H0 S0 (defBody st) (startM K N gi W as) (bodyM gi P')) : FnOk P w K mg base CX0 (k + 1) f fd ps (spM K T) := by
  refine F.ok Sc (fun vs H Q E h => ?_) (fun cdv A outer s H vs Q E hr h => ?_)
  · obtain ⟨S, W, as, P', _, _, r, ht, _⟩ := h
    rw [r.len]
    exact hT as W P' ht
  · obtain ⟨S, W, as, P', lv, ok, r, ht, k1⟩ := h
    have hX : XOk P w K mg base k N (defScope st) true ((cxOf CX0 P w K mg base N qual (defScope st) f cdv A outer s H E).nox) := ⟨rfl, rfl, rfl, rfl, rfl, rfl, rfl, Sc.nd, rfl, hr, fun _ _ => rfl, PassesOwn.never⟩
    obtain ⟨F0, E0⟩ := start_okM (N := N) (gi := gi) r (by rw [hT as W P' ht]; exact hg) hN lv ok
    have fin : ∀ it W' v G S' F q H', P' it W' → G[gi]? = some (.wrk true W') → EnvOk (offW W H) S G S' F q H' → RepI H' v it → Q v H' := fun it W' v G S' F q H' hp hW E' r =>
      k1 it W' v H' hp (fun a o z e => E'.ext a o (by rw [offW_eq z]; exact e)) (E'.wat hW).2 (fun a z => offW_none (E'.wdom hW a z).2.1) r
    refine ⟨_, pwSs, body _ (offW W H) S as W P' hX ⟨rfl, rfl, rfl⟩ ht S F0 _ H _ E0 ⟨fun G S' F q H' h c E' => ?_, fun G S' F q H' h c E' => h.elim, fun G S' F q H' h c E' => h.elim, fun d v S' H' h => h.elim, fun ds p vs S' H' h => h.elim, fun G F q e v S' H' h E' r => ?_⟩⟩
    · obtain ⟨W', hW, hp⟩ := h
      exact fin _ W' _ G S' F q H' hp hW E' (.d .non)
    · obtain ⟨W', hW, hp⟩ := h
      exact fin _ W' _ G S' F q H' hp hW E' r
theorem calleeMT_of (gi : Nat) {y qual : Str} {st : Stmt} {f : Addr} {fd : FuncData} {N ps : List Str} {T : TrM} (F : Fun K y qual st f fd) (Sc : FnScope N ps (defScope st)) (hm : mg y = some (.ref f)) (hb : Binds K fd ps []) (hT : ∀ as W P', T as W P' → as.length = ps.length)
    (body : ∀ (X : Cx) (H0 : Hp) (S0 : AS) (as : List Arg) (W : Wk) (P' : E → Wk → Prop), XOk P w K mg base k N (defScope st) true X → TryOk X → T as W P' → DS X H0 S0 (defBody st) (startM K N gi W as) (bodyM gi P')) (hg : ps.length ≤ gi := by decide) (hN : gi < N.length := by decide) : CalleeM P w K mg base (k + 1) y T :=
  ⟨f, fd, ps, fnok_ofMT gi F Sc hg hN hT body, hm, F.kp, hb⟩
theorem fnok_ofRT (gi : Nat) {y qual : Str} {st : Stmt} {f : Addr} {fd : FuncData} {N ps : List Str} {T : TrR} (F : Fun K y qual st f fd) (Sc : FnScope N ps (defScope st)) (hg : ps.length ≤ gi) (hN : gi < N.length) (hT : ∀ as W P', T as W P' → as.length = ps.length)
    (body : ∀ (X : Cx) (H0 : Hp) (S0 : AS) (as : List Arg) (W : Wk) (P' : RV → Prop), XOk P w K mg base k N (defScope st) true X → TryOk X → T as W P' → DS X H0 S0 (defBody st) (startR K N gi W as) (bodyP P')) : FnOk P w K mg base CX0 (k + 1) f fd ps (spR K T) := by
  refine F.ok Sc (fun vs H Q E h => ?_) (fun cdv A outer s H vs Q E hr h => ?_)
  · obtain ⟨S, W, as, P', _, _, r, ht, _⟩ := h
    rw [r.len]
    exact hT as W P' ht
  · obtain ⟨S, W, as, P', lv, ok, r, ht, k1, k2⟩ := h
    have hX : XOk P w K mg base k N (defScope st) true ((cxOf CX0 P w K mg base N qual (defScope st) f cdv A outer s H E).nox) := ⟨rfl, rfl, rfl, rfl, rfl, rfl, rfl, Sc.nd, rfl, hr, fun _ _ => rfl, PassesOwn.never⟩
    obtain ⟨F0, E0⟩ := start_okR (N := N) (gi := gi) r (by rw [hT as W P' ht]; exact hg) hN lv ok
    refine ⟨_, pwSs, body _ H S as W P' hX ⟨rfl, rfl, rfl⟩ ht S F0 _ H _ E0 ⟨fun G S' F q H' h c E' => ?_, fun G S' F q H' h c E' => h.elim, fun G S' F q H' h c E' => h.elim, fun d v S' H' h ex sf sl r => k1 d v S' H' h ex sf sl r, fun ds p vs S' H' h ex sf sl hn hs hq r => k2 ds p vs S' H' h ex sf sl hn hs hq r, fun G F q e v S' H' h => h.elim⟩⟩
    exact k1 .none .non S' H' h E'.ext E'.sfr E'.slv .non
theorem calleeRT_of (gi : Nat) {y qual : Str} {st : Stmt} {f : Addr} {fd : FuncData} {N ps : List Str} {T : TrR} (F : Fun K y qual st f fd) (Sc : FnScope N ps (defScope st)) (hm : mg y = some (.ref f)) (hb : Binds K fd ps []) (hT : ∀ as W P', T as W P' → as.length = ps.length)
    (body : ∀ (X : Cx) (H0 : Hp) (S0 : AS) (as : List Arg) (W : Wk) (P' : RV → Prop), XOk P w K mg base k N (defScope st) true X → TryOk X → T as W P' → DS X H0 S0 (defBody st) (startR K N gi W as) (bodyP P')) (hg : ps.length ≤ gi := by decide) (hN : gi < N.length := by decide) : CalleeR P w K mg base (k + 1) y T :=
  ⟨f, fd, ps, fnok_ofRT gi F Sc hg hN hT body, hm, F.kp, hb⟩
end
end DL

/-! DXd: a try in which nothing is raised; sums of tuples. -/
namespace L2
open PySem PySem.Spec PyProof.Rows
section
variable {X : Cx} {body : List Stmt} {h0 : ExceptHandler} {hs : List ExceptHandler} {pos : Pos} {tb : TS}
theorem ps_try0 (hb : ∀ pn, PSs (X.tr pn (fun _ _ => False)) body tb) :
    PS X (.Try body (h0 :: hs) [] [] pos) (fun D q H => tb { nx := D.nx, rt := fun _ _ => False, bk := fun _ _ => False, ct := fun _ _ => False } q H) := by
  constructor
  intro pins s q H D I h
  have ok := I.ok
  refine wpAny_Try_except ?_
  refine wpAny_mono ((hb (X.pn ++ pins)).run [] s q H _ (I.toTry _) h) (fun fl s1 hsp => ?_) (fun _ _ z => z.elim)
  match fl, hsp with
  | .next, hsp =>
    obtain ⟨q1, H1, J, z⟩ := hsp
    exact wpAny_pure ⟨q1, H1, J.ofTry ok, z⟩
  | .brk, hsp =>
    obtain ⟨_, _, _, z⟩ := hsp
    exact z.elim
  | .cont, hsp =>
    obtain ⟨_, _, _, z⟩ := hsp
    exact z.elim
  | .ret u, hsp =>
    obtain ⟨_, _, _, _, _, z⟩ := hsp
    exact z.elim
end
end L2
namespace DL
open PySem PySem.Spec PyProof.Rows L2
section
variable {P : Program} {w : World} {K : PySem.W.Frag} {mg : Str → Option Value} {base : Heap} {k : Nat} {N : List Str} {sc : Scope} {fa : Bool} {X : Cx} {H0 : Hp} {S0 : AS} {G G1 G2 : List Slot} {pos p1 p2 p3 p4 p5 pos' apos cpos : Pos} {x : Exn}
/-- the body of a try, which raises nothing -/
def DST (X : Cx) (P : Program) (w : World) (K : PySem.W.Frag) (mg : Str → Option Value) (base : Heap) (k : Nat) (N : List Str) (sc : Scope) (H0 : Hp) (S0 : AS) (ss : List Stmt) (G : List Slot) (P' : Out → Prop) : Prop := ∀ pn xe, XOk P w K mg base k N sc true (X.tr pn xe) → DS (X.tr pn xe) H0 S0 ss G P'
theorem ds_try0 {body rest : List Stmt} {h0 : ExceptHandler} {hs : List ExceptHandler} {M : List Slot → Prop} {P' : Out → Prop} (hX : XOk P w K mg base k N sc true X) (hb : DST X P w K mg base k N sc H0 S0 body G (fun o => ∃ G', o = .nxt G' ∧ M G'))
    (h : ∀ G', M G' → DS X H0 S0 rest G' P') : DS X H0 S0 (.Try body (h0 :: hs) [] [] pos :: rest) G P' := fun S F q H Dd En kk => by
  refine wSs_of (pss_cons (ps_try0 (tb := fun D q H => ∀ pn, wSs (X.tr pn (fun _ _ => False)) body D q H) (fun pn => ⟨fun pins s q H D I h => h pn pins s I⟩)) pwSs) (fun pn => hb pn _ (hX.tr PassesOwn.never) S F q H _ En ⟨?_, ?_, ?_, ?_, ?_, ?_⟩)
  · rintro G2 S2 F2 q2 H2 ⟨G', e, m⟩ c E2
    cases e
    exact h _ m S2 F2 q2 H2 Dd E2 (kk.at_ c)
  · rintro G2 S2 F2 q2 H2 ⟨G', e, m⟩
    cases e
  · rintro G2 S2 F2 q2 H2 ⟨G', e, m⟩
    cases e
  · rintro d v S2 H2 ⟨G', e, m⟩
    cases e
  · rintro d p vs S2 H2 ⟨G', e, m⟩
    cases e
  · rintro G2 F2 q2 e v S2 H2 ⟨G', e', m⟩
    cases e'
/-- t + u of tuples -/
theorem de_catA {a b : Expr} {xs ys : List D} (ha : DE X H0 S0 a G (.tuple xs)) (hb : DE X H0 S0 b G (.tuple ys)) (hz : xs.length + ys.length ≤ 16777216) : DE X H0 S0 (.BinOp a .Add b pos) G (.tuple (xs ++ ys)) := fun S F q H E Q kk =>
  wE_of (pe_op op_catA pwE pwE) (ha S F q H E _ fun v H1 S1 g1 r1 => hb S1 F q H1 (E.grow g1) _ fun u H2 S2 g2 r2 => by
    cases r1 with
    | tup a1 a2 =>
      cases r2 with
      | tup b1 b2 =>
        have a1' := rd_keep (fun o z => g2.ext _ o z) a1
        have a2' := a2.keep g2.keep
        refine ⟨_, _, _, _, rfl, rfl, .inl a1', .inl b1, by rw [a2.len, b2.len, sizeLine_eq]; exact hz, fun e => ?_, fun _ e => ?_, fun _ _ p hp => kk _ _ _ ((g1.trans g2).trans (Grow.alloc hp)) (.tup (.inl upd_same) ((a2'.append b2).mono (fun _ z => .inl z) fun a o _ e => by rw [upd_ne (ne_of_none e hp)]; exact e))⟩
        · subst e
          cases a2
          exact kk _ H2 S2 (g1.trans g2) (.tup b1 b2)
        · subst e
          cases b2
          exact kk _ H2 S2 (g1.trans g2) (by rw [List.append_nil]; exact .tup a1' a2'))
end
end DL

/-! DXe: f(g(x), y), g changing the workspace; an exception met in a def. -/
namespace DL
open PySem PySem.Spec PyProof.Rows L2
section
variable {P : Program} {w : World} {K : PySem.W.Frag} {mg : Str → Option Value} {base : Heap} {k : Nat} {N : List Str} {sc : Scope} {fa : Bool} {X : Cx} {H0 : Hp} {S0 : AS} {G G1 G2 : List Slot} {pos p1 p2 p3 p4 p5 pos' apos cpos : Pos} {x : Exn}
/-- f(e, ..), e changing the workspace -/
theorem dm_callX (gi : Nat) {j : Nat} {W : Wk} {T : TrR} {y : Str} {e : Expr} {es : List Expr} {as : List Arg} {d : D} {M1 : DL.E → Wk → Prop} (hX : XOk P w K mg base k N sc fa X) (c : CalleeR P w K mg base j y T) (he : DM X H0 S0 e G gi M1) (ha : ∀ it W', M1 it W' → DAM X H0 S0 W' es (G.set gi (.wrk true W')) as) (ht : ∀ it W', M1 it W' → T (.x it :: as) W' (fun r => r = .val d)) (hf : Flat d)
    (hW : G[gi]? = some (.wrk true W) := by rfl) (hj : j ≤ k := by decide) (hg : globB sc y = true := by decide +kernel)
    (hdb : (y == ("__debug__" : Str)) = false := by decide) (hs : starEach (e :: es) X.env = (false, eval e X.env) :: starEach es X.env := by rfl) (hpl : (backTo pos (starEach es X.env)).any (·.1) = false := by rfl) : DM X H0 S0 (.Call (.Name y p1) (e :: es) [] pos) G gi (fun it W' => it = .d d ∧ ∃ it', M1 it' W') := by
  obtain ⟨f, fd, ps, FO, hm, hk, hb⟩ := c.ex
  cases hX.eP
  cases hX.ew
  cases hX.eK
  cases hX.emg
  cases hX.eb
  intro S F q H En Q kk
  refine wE_of (pe_call FO (hX.room.mono hj) (hX.gl hg) hm hk hb .nil pass0 (pa_cons pwE pwA hs) hdb hs hpl) (he S F q H En _ fun it W' v S1 F1 H1 m k1 E1 r1 => ha it W' m S1 F1 q H1 E1 _ fun vs H2 S2 g2 r2 => ?_)
  show spR X.K T ((v :: vs) ++ []) H2 Q _
  rw [List.append_nil]
  have hW' : (G.set gi (.wrk true W'))[gi]? = some (.wrk true W') := List.getElem?_set_self (List.getElem?_eq_some_iff.mp hW).1
  refine dr_end (E1.grow g2) hW' g2 (.cons (.x (r1.ext g2.ext)) r2) (ht it W' m) (fun d' v' S' H' hp g r => ?_) (fun ds p vs S' H' hp => by cases hp)
  cases hp
  exact kk _ W' v' S' _ H' ⟨rfl, it, m⟩ (k1.trans g.keep) (E1.grow g) (.d (r.flat hf))
theorem dm_imp {e : Expr} {gi : Nat} {M M2 : DL.E → Wk → Prop} (h : DM X H0 S0 e G gi M) (i : ∀ it W', M it W' → M2 it W') : DM X H0 S0 e G gi M2 := fun S F q H E Q kk => h S F q H E Q fun it W' v S' F' H' m => kk it W' v S' F' H' (i it W' m)
/-- what changes nothing -/
theorem dm_d {gi : Nat} {e : Expr} {d : D} {W : Wk} {M : DL.E → Wk → Prop} (h : DE X H0 S0 e G d) (f : Flat d) (m : M (.d d) W) (hW : G[gi]? = some (.wrk true W) := by rfl) : DM X H0 S0 e G gi M := fun S F q H E Q kk => h S F q H E Q fun v H1 S1 g1 r1 =>
  kk (.d d) W v S1 F H1 m g1.keep (by rw [set_wrk hW]; exact E.grow g1) (.d (r1.flat f))
/-- e is None, e changing the workspace -/
theorem dm_isN {gi : Nat} {e : Expr} {M : DL.E → Wk → Prop} {jj : Nat} (h : DM X H0 S0 e G gi (fun it W => ∃ d, it = .d d ∧ M (.d (.bool (isNone d))) W)) : DM X H0 S0 (.Compare e [.Is] [.Constant .none jj p2] pos) G gi M := fun S F q H E Q kk =>
  wE_of (pe_cmpR op_isN pwE pwE (nomark _)) (h S F q H E _ fun it W' v S' F' H' m c E' r => by
    obtain ⟨d, rfl, m⟩ := m
    cases r with
    | d r =>
      refine de_non S' F' q H' E' _ fun u H2 S2 g2 r2 => ?_
      cases r2
      exact ⟨rfl, by rw [rep_none r]; exact kk _ W' _ S2 F' H2 m ⟨fun a z => g2.sub a (c.sub a z), fun a o z y => g2.ext a o (c.obj a o z y)⟩ (E'.grow g2) (.d (.bl _))⟩)
/-- return e, told by a promise -/
theorem ds_retR {e : Expr} {rest : List Stmt} {P'' : RV → Prop} {P' : Out → Prop} (he : DR X H0 S0 e G P'') (h : ∀ r, P'' r → P' (.ret r)) : DS X H0 S0 (.Return (some e) pos :: rest) G P' := fun S F q H Dd E kk =>
  wSs_of (pss_cons (ps_ret pwE) pwSs) (he S F q H E _ (fun d v S1 H1 hp g1 r1 => kk.rv d v S1 H1 (h _ hp) (E.grow g1).ext (E.grow g1).sfr (E.grow g1).slv r1) fun l p vs S1 H1 hp g1 hn hS hq r1 => kk.ro l p vs S1 H1 (h _ hp) (E.grow g1).ext (E.grow g1).sfr (E.grow g1).slv (none_ext E.ext hn) hS hq r1)
end
end DL

/-! Mdr: draws. -/
namespace Mp
open PySem L2 DL
def divs : Nat → Int → Int
  | 0, x => x
  | n + 1, x => divs n (x / 10 ^ 12)
def mixed (c k : Int) : Int := if c % 2 = 0 then divs k.toNat ((c.natAbs : Int) / 2) else
  let n := (c + 7919 * k) % 2147483629
  let m := (n * n + 16807 * n + k) % 2147483629
  m * m % 2147483587
def cellAt (ns : List Int) (k : Int) : Int := ns.getD k.toNat 0
def great (c k : Int) : Int := if mixed c k % 3 = 0 then 1 + c % (10 ^ 60 - 1) else if mixed c k % 3 = 1 then 1 + mixed c k / 3 % 1000 else 1 + mixed c k / 3 % 4
theorem great_ok (c k : Int) : 1 ≤ great c k ∧ great c k ≤ 10 ^ 60 := by
  unfold great
  split
  · omega
  · split <;> omega
structure Psg where
  a : Int
  b : Int
  w : Int
  l : Int
def encP (p : Psg) : D := .tuple [.int p.a, .int p.b, .int p.w, .int p.l]
def P0 : Psg := ⟨0, 0, 0, 0⟩
theorem shp_P (p : Psg) : shp 1 (encP p) := shp_tup fun x hx => by
  simp only [List.mem_cons, List.not_mem_nil, or_false] at hx
  rcases hx with rfl | rfl | rfl | rfl <;> exact shp_int _ _
/-- two unlike rooms of m -/
theorem ab_ne {a r m : Int} (h : 2 ≤ m) (a0 : 0 ≤ a) (a1 : a < m) (r0 : 0 ≤ r) (r1 : r < m - 1) : a ≠ (a + 1 + r) % m := by
  by_cases c : a + 1 + r < m
  · rw [Int.emod_eq_of_lt (by omega) c]
    omega
  · have e : a + 1 + r = (a + 1 + r - m) + m := by omega
    rw [e, Int.add_emod_right, Int.emod_eq_of_lt (by omega) (by omega)]
    omega
theorem ab_dr {one u m : Int} (h : 2 ≤ m) : one % m ≠ (one % m + 1 + u % (m - 1)) % m :=
  ab_ne h (Int.emod_nonneg _ (by omega)) (Int.emod_lt_of_pos _ (by omega)) (Int.emod_nonneg _ (by omega)) (Int.emod_lt_of_pos _ (by omega))
theorem in_m {x m : Int} (h : 2 ≤ m) : 0 ≤ x % m ∧ x % m < m := ⟨Int.emod_nonneg _ (by omega), Int.emod_lt_of_pos _ (by omega)⟩
end Mp

/-! Mnm: named halls: rows, deeds, words. -/
namespace Nm
open PySem L2 DL Mp
theorem mixed_nn (c k : Int) : 0 ≤ mixed c k := by
  unfold mixed
  split
  · have : ∀ (n : Nat) (x : Int), 0 ≤ x → 0 ≤ divs n x := fun n => by
      induction n with
      | zero => exact fun x h => h
      | succ n ih => exact fun x h => ih _ (Int.ediv_nonneg h (by decide))
    exact this _ _ (by omega)
  · exact Int.emod_nonneg _ (by decide)
structure Row where
  n : Str
  a : Str
  b : Str
  w : Int
  l : Int
def rowDs (r : Row) : List D := [.str r.n, .str r.a, .str r.b, .int r.w, .int r.l]
def psgOf (seen : List Str) (r : Row) : Psg := ⟨(seen.idxOf r.a : Nat), (seen.idxOf r.b : Nat), r.w, r.l⟩
def sDs (zs : List Str) : List D := zs.map PyData.str
theorem Flats.strs : ∀ (ns : List Str), Flats (ns.map PyData.str)
  | [] => .nil
  | n :: ns => .cons (.str n) (Flats.strs ns)
theorem flat_P (p : Psg) : Flat (encP p) := .tup (.cons (.int _) (.cons (.int _) (.cons (.int _) (.cons (.int _) .nil))))
theorem flat_row (r : Row) : Flats (rowDs r) := .cons (.str _) (.cons (.str _) (.cons (.str _) (.cons (.int _) (.cons (.int _) .nil))))
/-! ### names -/
def letters : Str := "abcdefghijklmnopqrstuvwxyz"
def NameOk (z : Str) : Prop := 1 ≤ z.length ∧ z.length ≤ 12 ∧ ∀ c ∈ z.cps.toList, c ∈ letters.cps.toList
theorem set_at {α : Type} {l : List α} {j : Nat} {v : α} (h : l[j]? = some v) : l.set j v = l := by
  obtain ⟨h3, h4⟩ := List.getElem?_eq_some_iff.mp h
  rw [← h4]
  exact List.set_getElem_self h3
theorem era_map {α β : Type} (f : α → β) (l : List α) (j : Nat) : (l.map f).eraseIdx j = (l.eraseIdx j).map f := by
  rw [List.eraseIdx_eq_take_drop_succ, List.eraseIdx_eq_take_drop_succ, List.map_append, List.map_take, List.map_drop]
theorem letters_ok : letters.cps.toList.all (· < 0x110000) = true := by decide +kernel
theorem shp_str {z : Str} (h : NameOk z) (n : Nat) : shp n (.str z) := ⟨by
  show PyData.strOk z = true
  unfold PyData.strOk
  rw [Array.all_eq_true']
  intro c hc
  exact List.all_eq_true.mp letters_ok c (h.2.2 c (Array.mem_def.mp hc)), by simp [PyData.depth]⟩
theorem shp_strs {zs : List Str} (h : ∀ z ∈ zs, NameOk z) : shp 1 (.list (zs.map PyData.str)) := shp_list fun x hx => by
  obtain ⟨z, hz, rfl⟩ := List.mem_map.mp hx
  exact shp_str (h z hz) 0
theorem NameOk.ne {z : Str} (h : NameOk z) : z ≠ "" := by
  intro e
  subst e
  exact absurd h.1 (by decide +kernel)
/-! ### deeds -/
inductive Deed where
  | lay (r : Row)
  | shut (n : Str)
  | widen (n : Str) (m : Int)
  | narrow (n : Str) (m : Int)
def encDeed : Deed → D
  | .lay r => .tuple [.str "lay", .str r.n, .str r.a, .str r.b, .int r.w, .int r.l]
  | .shut n => .tuple [.str "shut", .str n]
  | .widen n m => .tuple [.str "widen", .str n, .int m]
  | .narrow n m => .tuple [.str "narrow", .str n, .int m]
theorem flat_deed (d : Deed) : Flat (encDeed d) := by
  cases d with
  | lay r => exact .tup (.cons (.str _) (.cons (.str _) (.cons (.str _) (.cons (.str _) (.cons (.int _) (.cons (.int _) .nil))))))
  | shut n => exact .tup (.cons (.str _) (.cons (.str _) .nil))
  | widen n m => exact .tup (.cons (.str _) (.cons (.str _) (.cons (.int _) .nil)))
  | narrow n m => exact .tup (.cons (.str _) (.cons (.str _) (.cons (.int _) .nil)))
/-- no deed draws a number beyond this -/
def DBig : Deed → Prop
  | .lay r => r.w ≤ 10 ^ 58 ∧ r.l ≤ 10 ^ 58
  | .widen _ m => m ≤ 10 ^ 58
  | _ => True
/-- seen, with a word more -/
def seenAdd (s : List Str) (z : Str) : List Str := if s.contains z then s else s ++ [z]
/-- what is kept of a hall -/
structure Ok (seen : List Str) (rows : List Row) : Prop where
  sn : seen.Nodup
  rn : (rows.map Row.n).Nodup
  mem : ∀ r ∈ rows, r.a ∈ seen ∧ r.b ∈ seen ∧ r.a ≠ r.b ∧ 1 ≤ r.w ∧ 1 ≤ r.l
  s2 : 2 ≤ seen.length
  s40 : seen.length ≤ 40
  r60 : rows.length ≤ 60
  so : ∀ z ∈ seen, NameOk z
  no : ∀ r ∈ rows, NameOk r.n
theorem Ok.shp {seen : List Str} {rows : List Row} (o : Ok seen rows) {r : Row} (hr : r ∈ rows) : ∀ x ∈ rowDs r, DL.shp 0 x := fun x hx => by
  obtain ⟨ra, rb, _⟩ := o.mem r hr
  simp only [rowDs, List.mem_cons, List.not_mem_nil, or_false] at hx
  rcases hx with rfl | rfl | rfl | rfl | rfl
  · exact shp_str (o.no r hr) 0
  · exact shp_str (o.so _ ra) 0
  · exact shp_str (o.so _ rb) 0
  · exact shp_int _ _
  · exact shp_int _ _
theorem Ok.shpT {seen : List Str} {rows : List Row} (o : Ok seen rows) : DL.shp 2 (.list (rows.map fun r => PyData.tuple (rowDs r))) := shp_list fun x hx => by
  obtain ⟨r, hr, rfl⟩ := List.mem_map.mp hx
  exact shp_tup (o.shp hr)
theorem Ok.shpL {seen : List Str} {rows : List Row} (o : Ok seen rows) : DL.shp 2 (.list (rows.map fun r => PyData.list (rowDs r))) := shp_list fun x hx => by
  obtain ⟨r, hr, rfl⟩ := List.mem_map.mp hx
  exact shp_list (o.shp hr)
inductive Does : List Str → List Row → Deed → List Str → List Row → Prop
  | lay {s : List Str} {rs : List Row} {r : Row} : r.n ∉ rs.map Row.n → r.a ≠ r.b → 1 ≤ r.w → 1 ≤ r.l → NameOk r.n → NameOk r.a → NameOk r.b → rs.length < 60 → (seenAdd (seenAdd s r.a) r.b).length ≤ 40 → Does s rs (.lay r) (seenAdd (seenAdd s r.a) r.b) (rs ++ [r])
  | shut {s : List Str} {rs : List Row} {r : Row} {j : Nat} : rs[j]? = some r → Does s rs (.shut r.n) s (rs.eraseIdx j)
  | widen {s : List Str} {rs : List Row} {r : Row} {j : Nat} {m : Int} : rs[j]? = some r → 1 ≤ m → Does s rs (.widen r.n m) s (rs.set j { r with w := r.w + m })
  | narrow {s : List Str} {rs : List Row} {r : Row} {j : Nat} {m : Int} : rs[j]? = some r → 1 ≤ m → m < r.w → Does s rs (.narrow r.n m) s (rs.set j { r with w := r.w - m })
theorem idx_at {rs : List Row} (h : (rs.map Row.n).Nodup) {j : Nat} {r : Row} (hj : rs[j]? = some r) : (rs.map Row.n).idxOf r.n = j := by
  have hm : (rs.map Row.n)[j]? = some r.n := by rw [List.getElem?_map, hj]; rfl
  obtain ⟨jl, je⟩ := List.getElem?_eq_some_iff.mp hm
  have := h.idxOf_getElem j jl
  rw [je] at this
  exact this
theorem seen_mem {s : List Str} {z : Str} : z ∈ seenAdd s z := by
  unfold seenAdd
  split
  · rename_i h; exact List.contains_iff_mem.mp h
  · exact List.mem_append_right _ (List.mem_singleton.mpr rfl)
theorem seen_sub {s : List Str} {z x : Str} (h : x ∈ s) : x ∈ seenAdd s z := by
  unfold seenAdd
  split
  · exact h
  · exact List.mem_append_left _ h
theorem seen_or {s : List Str} {z x : Str} (h : x ∈ seenAdd s z) : x ∈ s ∨ x = z := by
  unfold seenAdd at h
  split at h
  · exact .inl h
  · exact (List.mem_append.mp h).imp id List.mem_singleton.mp
theorem seen_nd {s : List Str} {z : Str} (h : s.Nodup) : (seenAdd s z).Nodup := by
  unfold seenAdd
  split
  · exact h
  · rename_i hc
    rw [List.nodup_append]
    refine ⟨h, List.nodup_cons.mpr ⟨List.not_mem_nil, List.nodup_nil⟩, fun x hx y hy e => ?_⟩
    rw [List.mem_singleton] at hy
    subst hy
    subst e
    exact hc (List.contains_iff_mem.mpr hx)
theorem seen_pre (s : List Str) (z : Str) : ∃ t, seenAdd s z = s ++ t := by
  unfold seenAdd
  split
  · exact ⟨[], (List.append_nil s).symm⟩
  · exact ⟨[z], rfl⟩
theorem seen_len (s : List Str) (z : Str) : s.length ≤ (seenAdd s z).length := by
  obtain ⟨t, e⟩ := seen_pre s z
  rw [e, List.length_append]
  omega
theorem idx_app {s t : List Str} {z : Str} (h : z ∈ s) : (s ++ t).idxOf z = s.idxOf z := by
  rw [List.idxOf_append, if_pos h]
theorem psg_seen {s : List Str} {z : Str} {rs : List Row} (h : ∀ r ∈ rs, r.a ∈ s ∧ r.b ∈ s) : rs.map (psgOf (seenAdd s z)) = rs.map (psgOf s) := by
  obtain ⟨t, e⟩ := seen_pre s z
  rw [e]
  exact List.map_congr_left fun r hr => by
    unfold psgOf
    rw [idx_app (h r hr).1, idx_app (h r hr).2]
theorem Does.ok {s s' : List Str} {rs rs' : List Row} {d : Deed} (h : Does s rs d s' rs') (o : Ok s rs) : Ok s' rs' := by
  have upd : ∀ {j : Nat} {r : Row} {w : Int}, rs[j]? = some r → 1 ≤ w → Ok s (rs.set j { r with w := w }) := fun {j r w} hj h1 => by
    obtain ⟨jl, je⟩ := List.getElem?_eq_some_iff.mp hj
    have en : (rs.set j { r with w := w }).map Row.n = rs.map Row.n := by
      rw [List.map_set]
      have : (rs.map Row.n)[j]? = some r.n := by rw [List.getElem?_map, hj]; rfl
      exact set_at this
    refine ⟨o.sn, by rw [en]; exact o.rn, fun x hx => ?_, o.s2, o.s40, by rw [List.length_set]; exact o.r60, o.so, fun x hx => by
      rcases List.mem_or_eq_of_mem_set hx with hx | rfl
      · exact o.no x hx
      · exact o.no r (List.mem_of_getElem? hj)⟩
    rcases List.mem_or_eq_of_mem_set hx with hx | rfl
    · exact o.mem x hx
    · obtain ⟨a1, a2, a3, a4, a5⟩ := o.mem r (List.mem_of_getElem? hj)
      exact ⟨a1, a2, a3, h1, a5⟩
  cases h with
  | lay h1 h2 h3 h4 h5 h6 h7 h8 h9 =>
    refine ⟨seen_nd (seen_nd o.sn), ?_, fun x hx => ?_, Nat.le_trans o.s2 (Nat.le_trans (seen_len _ _) (seen_len _ _)), h9, by rw [List.length_append]; simp only [List.length_cons, List.length_nil]; omega, fun z hz => ?_, fun x hx => ?_⟩
    · rw [List.map_append, List.nodup_append]
      refine ⟨o.rn, List.nodup_cons.mpr ⟨List.not_mem_nil, List.nodup_nil⟩, fun x hx y hy e => ?_⟩
      simp only [List.map_cons, List.map_nil, List.mem_singleton] at hy
      subst hy
      subst e
      exact h1 hx
    · rcases List.mem_append.mp hx with hx | hx
      · obtain ⟨a1, a2, a3⟩ := o.mem x hx
        exact ⟨seen_sub (seen_sub a1), seen_sub (seen_sub a2), a3⟩
      · rw [List.mem_singleton] at hx
        subst hx
        exact ⟨seen_sub seen_mem, seen_mem, h2, h3, h4⟩
    · rcases seen_or hz with hz | rfl
      · rcases seen_or hz with hz | rfl
        · exact o.so z hz
        · exact h6
      · exact h7
    · rcases List.mem_append.mp hx with hx | hx
      · exact o.no x hx
      · rw [List.mem_singleton] at hx
        subst hx
        exact h5
  | shut hj =>
    refine ⟨o.sn, ?_, fun x hx => o.mem x (List.mem_of_mem_eraseIdx hx), o.s2, o.s40, Nat.le_trans (List.length_eraseIdx_le _ _) o.r60, o.so, fun x hx => o.no x (List.mem_of_mem_eraseIdx hx)⟩
    rw [← era_map]
    exact o.rn.sublist (List.eraseIdx_sublist _ _)
  | widen hj h1 =>
    obtain ⟨_, _, _, a4, _⟩ := o.mem _ (List.mem_of_getElem? hj)
    exact upd hj (by omega)
  | narrow hj h1 h2 => exact upd hj (by omega)
theorem seen_fresh {s : List Str} {a b : Str} (h : a ≠ b) : seenAdd (seenAdd s a) b = s ++ [a, b].filter fun z => !s.contains z := by
  have hb : (s ++ [a]).contains b = s.contains b := by
    rw [Bool.eq_iff_iff, List.contains_iff_mem, List.contains_iff_mem, List.mem_append, List.mem_singleton]
    exact ⟨fun z => z.elim id fun z => absurd z.symm h, .inl⟩
  unfold seenAdd
  rw [List.filter_cons, List.filter_cons, List.filter_nil]
  cases ca : s.contains a <;> cases cb : s.contains b <;> simp only [ca, cb, hb, if_true, if_false, Bool.not_true, Bool.not_false, List.append_nil, List.append_assoc, Bool.false_eq_true] <;> first | rfl | (rw [hb, cb]; rfl) | skip
/-! ### rows found, by data -/
theorem row_plain (r : Row) : (PyData.list (rowDs r)).plain = true := by
  simp [rowDs, PyData.plain, PyData.plainAll]
theorem rows_plain : ∀ rs : List Row, PyData.plainAll (rs.map fun r => PyData.list (rowDs r)) = true
  | [] => by simp [PyData.plainAll]
  | r :: rs => by simp [PyData.plainAll, row_plain r, rows_plain rs]
theorem rows_depth : ∀ rs : List Row, PyData.depthAll (rs.map fun r => PyData.list (rowDs r)) ≤ 60
  | [] => by simp [PyData.depthAll]
  | r :: rs => by
    have h1 := rows_depth rs
    have h2 : (PyData.list (rowDs r)).depth ≤ 60 := by
      simp [rowDs, PyData.depth, PyData.depthAll]
    simp only [List.map_cons, PyData.depthAll]
    omega
theorem eqv_row_ne {r q : Row} (h : r.n ≠ q.n) : PyData.eqv (.list (rowDs r)) (.list (rowDs q)) = false := by
  simp [rowDs, PyData.eqv, PyData.eqvAll, h]
theorem eqv_row (r : Row) : PyData.eqv (.list (rowDs r)) (.list (rowDs r)) = true := by
  simp [rowDs, PyData.eqv, PyData.eqvAll]
theorem place_row {rs : List Row} (h : (rs.map Row.n).Nodup) {j : Nat} {r : Row} (hj : rs[j]? = some r) : SeqAt.dataPlace (rs.map fun r => PyData.list (rowDs r)) (.list (rowDs r)) = some j := by
  obtain ⟨jl, je⟩ := List.getElem?_eq_some_iff.mp hj
  unfold SeqAt.dataPlace
  rw [List.findIdx?_eq_some_iff_getElem]
  refine ⟨by rw [List.length_map]; exact jl, by rw [List.getElem_map, je]; exact eqv_row r, fun m hm => ?_⟩
  have ml : m < rs.length := by omega
  rw [List.getElem_map, eqv_row_ne]
  · decide
  · intro e
    have hm' : rs[m]? = some rs[m] := List.getElem?_eq_getElem ml
    have := idx_at h hm'
    rw [e, idx_at h hj] at this
    omega
/-! ### words -/
def baseOf (num : Int) : Str := cutS (cutS letters (some (num % 26)) (some (num % 26 + num / 26 % 12))) none (some 11)
def wordOf (num : Int) (j : Int) : Str := cutS (baseOf num) none (some (num / 312 % ((baseOf num).length + 1))) ++ (⟨#[letters.cps.toList.getD j.toNat 0]⟩ : Str) ++ cutS (baseOf num) (some (num / 312 % ((baseOf num).length + 1))) none
def wordsOf (num : Int) (many : Int) : List Str := (rng many).map (wordOf num)
theorem cut_list (z : Str) (lo hi : Option Int) : (cutS z lo hi).cps.toList = (z.cps.toList.drop (HT.sIx z.length 0 lo)).take (HT.sIx z.length z.length hi - HT.sIx z.length 0 lo) := rfl
theorem app_list (x y : Str) : (x ++ y).cps.toList = x.cps.toList ++ y.cps.toList := by
  show (x.cps ++ y.cps).toList = _
  rw [Array.toList_append]
theorem str_len (z : Str) : z.length = z.cps.toList.length := by
  show z.cps.size = _
  rw [Array.length_toList]
theorem app_len (x y : Str) : (x ++ y).length = x.length + y.length := by rw [str_len, app_list, List.length_append, ← str_len, ← str_len]
theorem cut_mem {z : Str} {lo hi : Option Int} {c : Nat} (h : c ∈ (cutS z lo hi).cps.toList) : c ∈ z.cps.toList := List.mem_of_mem_drop (List.mem_of_mem_take h)
theorem letters_len : letters.length = 26 := by decide +kernel
theorem letters_nd : letters.cps.toList.Nodup := by decide +kernel
theorem sIx_nn {n d : Nat} {i : Int} (h : 0 ≤ i) : HT.sIx n d (some i) = min i.toNat n := by
  show (if i < 0 then _ else _) = _
  rw [if_neg (by omega)]
theorem base_len (num : Int) : (baseOf num).length ≤ 11 := by
  rw [str_len]
  unfold baseOf
  rw [cut_list, List.length_take, sIx_nn (by decide)]
  show min (min 11 _ - 0) _ ≤ 11
  omega
theorem base_mem {num : Int} {c : Nat} (h : c ∈ (baseOf num).cps.toList) : c ∈ letters.cps.toList := cut_mem (cut_mem h)
theorem word_list (num j : Int) (hn : 0 ≤ num) : ∃ k : Nat, k ≤ (baseOf num).length ∧ (wordOf num j).cps.toList = (baseOf num).cps.toList.take k ++ letters.cps.toList.getD j.toNat 0 :: (baseOf num).cps.toList.drop k := by
  have h0 : (0 : Int) ≤ num / 312 % ((baseOf num).length + 1) := Int.emod_nonneg _ (by omega)
  have h1 : num / 312 % (((baseOf num).length : Int) + 1) < ((baseOf num).length : Int) + 1 := Int.emod_lt_of_pos _ (by omega)
  unfold wordOf
  generalize num / 312 % (((baseOf num).length : Int) + 1) = i at *
  refine ⟨i.toNat, by omega, ?_⟩
  rw [app_list, app_list, cut_list, cut_list, sIx_nn h0, sIx_nn h0]
  have e1 : HT.sIx (baseOf num).length 0 none = 0 := rfl
  have e2 : HT.sIx (baseOf num).length (baseOf num).length none = (baseOf num).length := rfl
  rw [e1, e2, Nat.min_eq_left (by omega), List.drop_zero, Nat.sub_zero, List.append_assoc]
  congr 1
  have e3 : ((baseOf num).cps.toList.drop i.toNat).take ((baseOf num).length - i.toNat) = (baseOf num).cps.toList.drop i.toNat := by
    rw [List.take_of_length_le]
    rw [List.length_drop, ← str_len]
    exact Nat.le_refl _
  rw [e3]
  rfl
theorem letter_mem {j : Int} (h0 : 0 ≤ j) (h1 : j < 26) : letters.cps.toList.getD j.toNat 0 ∈ letters.cps.toList := by
  have hl : j.toNat < letters.cps.toList.length := by rw [← str_len, letters_len]; omega
  rw [List.getD_eq_getElem?_getD, List.getElem?_eq_getElem hl]
  exact List.getElem_mem hl
theorem word_ok {num j : Int} (hn : 0 ≤ num) (h0 : 0 ≤ j) (h1 : j < 26) : NameOk (wordOf num j) := by
  obtain ⟨k, hk, e⟩ := word_list num j hn
  have hl : (wordOf num j).length = (baseOf num).length + 1 := by
    rw [str_len, e, List.length_append, List.length_cons, List.length_take, List.length_drop, ← str_len]
    omega
  have := base_len num
  refine ⟨by omega, by omega, fun c hc => ?_⟩
  rw [e] at hc
  rcases List.mem_append.mp hc with hc | hc
  · exact base_mem (List.mem_of_mem_take hc)
  · rcases List.mem_cons.mp hc with rfl | hc
    · exact letter_mem h0 h1
    · exact base_mem (List.mem_of_mem_drop hc)
theorem word_inj {num i j : Int} (hn : 0 ≤ num) (i0 : 0 ≤ i) (i1 : i < 26) (j0 : 0 ≤ j) (j1 : j < 26) (h : wordOf num i = wordOf num j) : i = j := by
  have h0 : (0 : Int) ≤ num / 312 % ((baseOf num).length + 1) := Int.emod_nonneg _ (by omega)
  have e : (wordOf num i).cps.toList = (wordOf num j).cps.toList := by rw [h]
  unfold wordOf at e
  rw [app_list, app_list, app_list, app_list, List.append_assoc, List.append_assoc] at e
  have e2 := List.append_cancel_left e
  have e3 : letters.cps.toList.getD i.toNat 0 = letters.cps.toList.getD j.toNat 0 := (List.cons.inj e2).1
  have il : i.toNat < letters.cps.toList.length := by rw [← str_len, letters_len]; omega
  have jl : j.toNat < letters.cps.toList.length := by rw [← str_len, letters_len]; omega
  rw [List.getD_eq_getElem?_getD, List.getD_eq_getElem?_getD, List.getElem?_eq_getElem il, List.getElem?_eq_getElem jl] at e3
  have f1 := letters_nd.idxOf_getElem i.toNat il
  have f2 := letters_nd.idxOf_getElem j.toNat jl
  have e3 : letters.cps.toList[i.toNat] = letters.cps.toList[j.toNat] := e3
  rw [e3, f2] at f1
  omega
theorem words_len (num many : Int) : (wordsOf num many).length = many.toNat := by unfold wordsOf; rw [List.length_map, rng_len]
theorem words_ok {num many : Int} (hn : 0 ≤ num) (hm : many ≤ 26) : ∀ z ∈ wordsOf num many, NameOk z := fun z hz => by
  obtain ⟨j, hj, rfl⟩ := List.mem_map.mp hz
  have := mem_rng hj
  exact word_ok hn (by omega) (by omega)
theorem rng_nd (n : Int) : (rng n).Nodup := by
  unfold rng
  unfold List.Nodup
  rw [List.pairwise_map]
  exact List.nodup_range.imp fun h e => h (by omega)
theorem words_nd {num many : Int} (hn : 0 ≤ num) (hm : many ≤ 26) : (wordsOf num many).Nodup := by
  unfold wordsOf
  unfold List.Nodup
  rw [List.pairwise_map]
  refine List.Pairwise.imp_of_mem (fun {a b} ha hb hne he => hne ?_) (rng_nd many)
  have h1 := mem_rng ha
  have h2 := mem_rng hb
  exact word_inj hn (by omega) (by omega) (by omega) (by omega) he
end Nm
namespace Fl
def fl_here : Unit := ()
end Fl

/-! M62: deeds refused; words that are none of a law's. -/
namespace Nm
open PySem L2 DL Mp
instance (z : Str) : Decidable (NameOk z) := by unfold NameOk; infer_instance
/-- what refuses a deed: 0 NoHall, 1 NoName, 2 Twice, 3 TooMany, 4 NoPassage, 5 NoWidth -/
inductive Refuses : List Str → List Row → Deed → Nat → Prop
  | nm {s : List Str} {rs : List Row} {r : Row} : ¬ (NameOk r.n ∧ NameOk r.a ∧ NameOk r.b) → r.n.length ≤ 1000 → r.a.length ≤ 1000 → r.b.length ≤ 1000 → Refuses s rs (.lay r) 1
  | tw {s : List Str} {rs : List Row} {r : Row} : NameOk r.n → NameOk r.a → NameOk r.b → r.n ∈ rs.map Row.n → Refuses s rs (.lay r) 2
  | nh {s : List Str} {rs : List Row} {r : Row} : NameOk r.n → NameOk r.a → NameOk r.b → r.n ∉ rs.map Row.n → (r.a = r.b ∨ r.w < 1 ∨ r.l < 1) → Refuses s rs (.lay r) 0
  | tm {s : List Str} {rs : List Row} {r : Row} : NameOk r.n → NameOk r.a → NameOk r.b → r.n ∉ rs.map Row.n → r.a ≠ r.b → 1 ≤ r.w → 1 ≤ r.l → (60 ≤ rs.length ∨ 40 < (seenAdd (seenAdd s r.a) r.b).length) → Refuses s rs (.lay r) 3
  | s4 {s : List Str} {rs : List Row} {n : Str} : n ∉ rs.map Row.n → Refuses s rs (.shut n) 4
  | w4 {s : List Str} {rs : List Row} {n : Str} {m : Int} : n ∉ rs.map Row.n → Refuses s rs (.widen n m) 4
  | n4 {s : List Str} {rs : List Row} {n : Str} {m : Int} : n ∉ rs.map Row.n → Refuses s rs (.narrow n m) 4
  | w5 {s : List Str} {rs : List Row} {r : Row} {j : Nat} {m : Int} : rs[j]? = some r → m < 1 → Refuses s rs (.widen r.n m) 5
  | n5 {s : List Str} {rs : List Row} {r : Row} {j : Nat} {m : Int} : rs[j]? = some r → (m < 1 ∨ r.w ≤ m) → Refuses s rs (.narrow r.n m) 5
theorem Refuses.lt {s : List Str} {rs : List Row} {d : Deed} {i : Nat} (h : Refuses s rs d i) : i < 6 := by cases h <;> decide
/-! ### words of a law -/
def conseq : List Nat → Bool
  | a :: b :: r => (b == a + 1) && conseq (b :: r)
  | _ => true
theorem conseq_tail {a : Nat} {l : List Nat} (h : conseq (a :: l) = true) : conseq l = true := by
  cases l with
  | nil => rfl
  | cons b r =>
    unfold conseq at h
    exact (Bool.and_eq_true_iff.mp h).2
theorem conseq_drop : ∀ (n : Nat) {l : List Nat}, conseq l = true → conseq (l.drop n) = true
  | 0, l, h => by rw [List.drop_zero]; exact h
  | n + 1, [], h => rfl
  | n + 1, a :: l, h => by rw [List.drop_succ_cons]; exact conseq_drop n (conseq_tail h)
theorem conseq_take : ∀ (n : Nat) {l : List Nat}, conseq l = true → conseq (l.take n) = true
  | 0, l, h => by rw [List.take_zero]; rfl
  | n + 1, [], h => rfl
  | 1, a :: l, h => by rw [List.take_succ_cons, List.take_zero]; rfl
  | n + 2, [a], h => rfl
  | n + 2, a :: b :: l, h => by
    rw [List.take_succ_cons, List.take_succ_cons]
    have ih := conseq_take (n + 1) (conseq_tail h)
    rw [List.take_succ_cons] at ih
    unfold conseq at h ⊢
    rw [(Bool.and_eq_true_iff.mp h).1, ih]
    rfl
theorem letters_cq : conseq letters.cps.toList = true := by decide +kernel
theorem base_cq (num : Int) : conseq (baseOf num).cps.toList = true := by
  unfold baseOf
  rw [cut_list, cut_list]
  exact conseq_take _ (conseq_drop _ (conseq_take _ (conseq_drop _ letters_cq)))
def isWordL (l : List Nat) : Bool := (List.range l.length).any fun k => decide (97 ≤ l.getD k 0 ∧ l.getD k 0 ≤ 104) && conseq (l.eraseIdx k)
def isWord (z : Str) : Bool := isWordL z.cps.toList
theorem let8 : ∀ j, j < 8 → 97 ≤ letters.cps.toList.getD j 0 ∧ letters.cps.toList.getD j 0 ≤ 104 := by decide +kernel
theorem word_is {num j : Int} (hn : 0 ≤ num) (h0 : 0 ≤ j) (h1 : j < 8) : isWord (wordOf num j) = true := by
  obtain ⟨k, hk, e⟩ := word_list num j hn
  have hlt : (baseOf num).cps.toList.length = (baseOf num).length := (str_len _).symm
  unfold isWord isWordL
  rw [e, List.any_eq_true]
  have tl : ((baseOf num).cps.toList.take k).length = k := by rw [List.length_take]; omega
  refine ⟨k, List.mem_range.mpr (by rw [List.length_append, tl, List.length_cons]; omega), ?_⟩
  rw [List.getD_eq_getElem?_getD, List.getElem?_append_right (by omega), tl, Nat.sub_self, List.getElem?_cons_zero, List.eraseIdx_append_of_length_le (by omega), tl, Nat.sub_self, List.eraseIdx_cons_zero, List.take_append_drop, base_cq]
  have := let8 j.toNat (by omega)
  rw [Bool.and_true, decide_eq_true_eq]
  exact this
theorem words_is {num many : Int} (hn : 0 ≤ num) (hm : many ≤ 8) : ∀ z ∈ wordsOf num many, isWord z = true := fun z hz => by
  obtain ⟨j, hj, rfl⟩ := List.mem_map.mp hz
  have := mem_rng hj
  exact word_is hn (by omega) (by omega)
theorem not_word {z : Str} {l : List Str} (h : ∀ y ∈ l, isWord y = true) (hz : isWord z = false) : z ∉ l := fun hm => by
  have := h z hm
  rw [hz] at this
  cases this
/-- "zz" and what a room is called -/
def zz (r : Str) : Str := "zz" ++ cutS r none (some 9)
theorem zz_list (r : Str) : (zz r).cps.toList = 122 :: 122 :: r.cps.toList.take 9 := by
  have hz : ("zz" : Str).cps.toList = [122, 122] := by decide +kernel
  unfold zz
  rw [app_list, hz, cut_list, sIx_nn (by decide)]
  have e : HT.sIx r.length 0 none = 0 := rfl
  rw [e, List.drop_zero, Nat.sub_zero]
  show 122 :: 122 :: _ = _
  refine congrArg (122 :: 122 :: ·) ?_
  rw [show ((9 : Int).toNat) = 9 from rfl, str_len]
  exact List.take_eq_take_iff.mpr (by omega)
theorem zz_no (r : Str) : isWord (zz r) = false := by
  unfold isWord isWordL
  rw [zz_list, List.any_eq_false]
  intro k _
  match k with
  | 0 => simp
  | 1 => simp
  | k + 2 =>
    rw [List.eraseIdx_cons_succ, List.eraseIdx_cons_succ]
    simp [conseq]
theorem zz_ok {r : Str} (h : NameOk r) : NameOk (zz r) := by
  have hl : (zz r).length = 2 + min 9 r.length := by
    rw [str_len, zz_list, List.length_cons, List.length_cons, List.length_take, ← str_len]
    omega
  refine ⟨by omega, by omega, fun c hc => ?_⟩
  rw [zz_list] at hc
  rcases List.mem_cons.mp hc with rfl | hc
  · decide +kernel
  rcases List.mem_cons.mp hc with rfl | hc
  · decide +kernel
  · exact h.2.2 c (List.mem_of_mem_take hc)
/-! ### what is no name -/
def noNames : List Str := ["", "abcdefghijklm", "Ann", "a1", "a b", "a-b", "_"]
def noName (n : Int) : Str := noNames.getD (n % 7).toNat ""
theorem noNames_bad : ∀ z ∈ noNames, ¬ NameOk z ∧ z.length ≤ 1000 := by decide +kernel
theorem noName_bad (n : Int) : ¬ NameOk (noName n) ∧ (noName n).length ≤ 1000 := by
  refine noNames_bad _ ?_
  have h0 := Int.emod_nonneg n (show (7 : Int) ≠ 0 by decide)
  have h1 := Int.emod_lt_of_pos n (show (0 : Int) < 7 by decide)
  have hl : (n % 7).toNat < noNames.length := by show _ < 7; omega
  unfold noName
  rw [List.getD_eq_getElem?_getD, List.getElem?_eq_getElem hl]
  exact List.getElem_mem hl
theorem NameOk.short {z : Str} (h : NameOk z) : z.length ≤ 1000 := by have := h.2.1; omega
def bl1 (n : Int) (R0 : Str) : List (Nat × Row) := [(1, ⟨noName n, R0, R0, 0, 1⟩)]
def bl2 (n : Int) (R0 R1 : Str) : List (Nat × Row) := [(1, ⟨zz R0, noName n, R1, 0, 1⟩)]
def bl3 (n : Int) (R0 : Str) : List (Nat × Row) := [(1, ⟨zz R0, R0, noName n, 1, 1⟩), (0, ⟨zz R0, R0, R0, 1, 1⟩)]
def bl4 (R0 R1 : Str) : List (Nat × Row) := [(0, ⟨zz R0, R0, R1, 0, 1⟩), (0, ⟨zz R0, R1, R0, 1, 0⟩)]
def bl5 (n : Int) (R0 R1 : Str) : List (Nat × Row) := [(0, ⟨zz R0, R0, R1, 0 - n % 10 ^ 59, 1⟩), (0, ⟨zz R0, R0, R1, 5, -1⟩)]
def badLay (n : Int) (R0 R1 : Str) : List (Nat × Row) := bl1 n R0 ++ bl2 n R0 R1 ++ bl3 n R0 ++ bl4 R0 R1 ++ bl5 n R0 R1
def bm1 (R0 f : Str) : List (Nat × Row) := [(2, ⟨f, R0, R0, 0, 0⟩)]
def bm2 (R0 R1 l : Str) : List (Nat × Row) := [(2, ⟨l, R0, R1, 1, 1⟩)]
def bm3 (n : Int) (R0 f : Str) : List (Nat × Row) := [(1, ⟨f, R0, noName n, 1, 1⟩)]
def badLay2 (n : Int) (R0 R1 f l : Str) : List (Nat × Row) := bm1 R0 f ++ bm2 R0 R1 l ++ bm3 n R0 f
theorem badLay_ok {s : List Str} {rs : List Row} {n : Int} {R0 R1 : Str} (h0 : NameOk R0) (h1 : NameOk R1) (hz : zz R0 ∉ rs.map Row.n) : ∀ x ∈ badLay n R0 R1, Refuses s rs (.lay x.2) x.1 := fun x hx => by
  have hb := noName_bad n
  have z0 := zz_ok h0
  have hn := Int.emod_nonneg n (show (10 ^ 59 : Int) ≠ 0 by decide)
  simp only [badLay, bl1, bl2, bl3, bl4, bl5, List.cons_append, List.nil_append, List.mem_cons, List.not_mem_nil, or_false] at hx
  rcases hx with rfl | rfl | rfl | rfl | rfl | rfl | rfl | rfl
  · exact .nm (fun z => hb.1 z.1) hb.2 h0.short h0.short
  · exact .nm (fun z => hb.1 z.2.1) z0.short hb.2 h1.short
  · exact .nm (fun z => hb.1 z.2.2) z0.short h0.short hb.2
  · exact .nh z0 h0 h0 hz (.inl rfl)
  · exact .nh z0 h0 h1 hz (.inr (.inl (by show (0 : Int) < 1; decide)))
  · exact .nh z0 h1 h0 hz (.inr (.inr (by show (0 : Int) < 1; decide)))
  · exact .nh z0 h0 h1 hz (.inr (.inl (by show 0 - n % 10 ^ 59 < 1; omega)))
  · exact .nh z0 h0 h1 hz (.inr (.inr (by show (-1 : Int) < 1; decide)))
theorem badLay2_ok {s : List Str} {rs : List Row} {n : Int} {R0 R1 f l : Str} (h0 : NameOk R0) (h1 : NameOk R1) (hf : f ∈ rs.map Row.n) (hl : l ∈ rs.map Row.n) (of : NameOk f) (ol : NameOk l) : ∀ x ∈ badLay2 n R0 R1 f l, Refuses s rs (.lay x.2) x.1 := fun x hx => by
  have hb := noName_bad n
  simp only [badLay2, bm1, bm2, bm3, List.cons_append, List.nil_append, List.mem_cons, List.not_mem_nil, or_false] at hx
  rcases hx with rfl | rfl | rfl
  · exact .tw of h0 h0 hf
  · exact .tw ol h0 h1 hl
  · exact .nm (fun z => hb.1 z.2.2) of.short h0.short hb.2
def bd1 (R0 : Str) : List (Nat × Deed) := [(4, .shut (zz R0)), (4, .widen (zz R0) 0)]
def bd2 : List (Nat × Deed) := [(4, .narrow "" 1)]
def bd3 (n : Int) (r : Row) : List (Nat × Deed) := [(5, .widen r.n 0), (5, .widen r.n (-1 - n % 10 ^ 59)), (5, .narrow r.n 0)]
def bd4 (r : Row) : List (Nat × Deed) := [(5, .narrow r.n r.w), (5, .narrow r.n (-2))]
def bd5 (n : Int) (r : Row) : List (Nat × Deed) := [(5, .narrow r.n (r.w + 1 + n % 5))]
def badDs (n : Int) (R0 : Str) (r : Row) : List (Nat × Deed) := bd1 R0 ++ bd2 ++ bd3 n r ++ bd4 r ++ bd5 n r
theorem badDs_ok {s : List Str} {rs : List Row} {n : Int} {R0 : Str} {r : Row} {j : Nat} (hz : zz R0 ∉ rs.map Row.n) (he : ("" : Str) ∉ rs.map Row.n) (hj : rs[j]? = some r) : ∀ x ∈ badDs n R0 r, Refuses s rs x.2 x.1 := fun x hx => by
  have hn := Int.emod_nonneg n (show (10 ^ 59 : Int) ≠ 0 by decide)
  have h5 := Int.emod_nonneg n (show (5 : Int) ≠ 0 by decide)
  simp only [badDs, bd1, bd2, bd3, bd4, bd5, List.cons_append, List.nil_append, List.mem_cons, List.not_mem_nil, or_false] at hx
  rcases hx with rfl | rfl | rfl | rfl | rfl | rfl | rfl | rfl | rfl
  · exact .s4 hz
  · exact .w4 hz
  · exact .n4 he
  · exact .w5 hj (by decide)
  · exact .w5 hj (by omega)
  · exact .n5 hj (.inl (by decide))
  · exact .n5 hj (.inr (Int.le_refl _))
  · exact .n5 hj (.inl (by decide))
  · exact .n5 hj (.inr (by omega))
/-! ### halls filled -/
def ones : Str := "abcdefgh"
def others : Str := "klmnopqrst"
def fillOf (a b : Nat) : Str := (⟨#[a]⟩ : Str) ++ (⟨#[b]⟩ : Str) ++ "qz"
def fills : List Str := ones.cps.toList.flatMap fun a => others.cps.toList.map fun b => fillOf a b
theorem fills_len : fills.length = 80 := by decide +kernel
theorem fills_nd : fills.Nodup := by decide +kernel
theorem fills_ok : ∀ z ∈ fills, NameOk z ∧ isWord z = false := by decide +kernel
theorem fills_not : ∀ z ∈ fills, z ≠ "way" ∧ z ≠ "last" ∧ z ≠ "path" ∧ z ≠ "newone" ∧ z ≠ "newtwo" := by decide +kernel
theorem lits : isWord "way" = false ∧ isWord "last" = false ∧ isWord "path" = false ∧ isWord "newone" = false ∧ isWord "newtwo" = false := by decide +kernel
theorem lits_ok : NameOk "way" ∧ NameOk "last" ∧ NameOk "path" ∧ NameOk "newone" ∧ NameOk "newtwo" ∧ ¬ NameOk "Last" := by decide +kernel
end Nm

namespace K
open PySem L2 DL
def topS (i : Nat) : Stmt := PySem.Challenge.pw_leavehall_k62_deeds_refused.main.body.getD i (.Pass ⟨0, 0, 0, 0⟩)
abbrev s__wall : Stmt := topS 0
abbrev n__wall : List Str := ["k"]
theorem sc__wall : FnScope n__wall ["k"] (defScope s__wall) := ⟨rfl, rfl, rfl, by decide +kernel, rfl, by decide +kernel, by decide +kernel⟩
abbrev w__wall : List Str := ["k", "!w"]
theorem sw__wall : FnScope w__wall ["k"] (defScope s__wall) := ⟨rfl, rfl, rfl, by decide +kernel, rfl, by decide +kernel, by decide +kernel⟩
abbrev s_NoHall_init : Stmt := inClass (topS 3) 0
abbrev n_NoHall_init : List Str := ["self", "place"]
theorem sc_NoHall_init : FnScope n_NoHall_init ["self", "place"] (defScope s_NoHall_init) := ⟨rfl, rfl, rfl, by decide +kernel, rfl, by decide +kernel, by decide +kernel⟩
abbrev w_NoHall_init : List Str := ["self", "place", "!w"]
theorem sw_NoHall_init : FnScope w_NoHall_init ["self", "place"] (defScope s_NoHall_init) := ⟨rfl, rfl, rfl, by decide +kernel, rfl, by decide +kernel, by decide +kernel⟩
abbrev s_look_at_name : Stmt := topS 15
abbrev n_look_at_name : List Str := ["name", "sign"]
theorem sc_look_at_name : FnScope n_look_at_name ["name"] (defScope s_look_at_name) := ⟨rfl, rfl, rfl, by decide +kernel, rfl, by decide +kernel, by decide +kernel⟩
abbrev w_look_at_name : List Str := ["name", "sign", "!w"]
theorem sw_look_at_name : FnScope w_look_at_name ["name"] (defScope s_look_at_name) := ⟨rfl, rfl, rfl, by decide +kernel, rfl, by decide +kernel, by decide +kernel⟩
abbrev s_NamedHall_init : Stmt := inClass (topS 16) 0
abbrev n_NamedHall_init : List Str := ["self", "start", "goal"]
theorem sc_NamedHall_init : FnScope n_NamedHall_init ["self", "start", "goal"] (defScope s_NamedHall_init) := ⟨rfl, rfl, rfl, by decide +kernel, rfl, by decide +kernel, by decide +kernel⟩
abbrev w_NamedHall_init : List Str := ["self", "start", "goal", "!w"]
theorem sw_NamedHall_init : FnScope w_NamedHall_init ["self", "start", "goal"] (defScope s_NamedHall_init) := ⟨rfl, rfl, rfl, by decide +kernel, rfl, by decide +kernel, by decide +kernel⟩
abbrev s_NamedHall_lay : Stmt := inClass (topS 16) 1
abbrev n_NamedHall_lay : List Str := ["self", "name", "a", "b", "width", "length", "word", "fresh"]
theorem sc_NamedHall_lay : FnScope n_NamedHall_lay ["self", "name", "a", "b", "width", "length"] (defScope s_NamedHall_lay) := ⟨rfl, rfl, rfl, by decide +kernel, rfl, by decide +kernel, by decide +kernel⟩
abbrev w_NamedHall_lay : List Str := ["self", "name", "a", "b", "width", "length", "word", "fresh", "!w"]
theorem sw_NamedHall_lay : FnScope w_NamedHall_lay ["self", "name", "a", "b", "width", "length"] (defScope s_NamedHall_lay) := ⟨rfl, rfl, rfl, by decide +kernel, rfl, by decide +kernel, by decide +kernel⟩
abbrev s_NamedHall_place_of : Stmt := inClass (topS 16) 2
abbrev n_NamedHall_place_of : List Str := ["self", "name"]
theorem sc_NamedHall_place_of : FnScope n_NamedHall_place_of ["self", "name"] (defScope s_NamedHall_place_of) := ⟨rfl, rfl, rfl, by decide +kernel, rfl, by decide +kernel, by decide +kernel⟩
abbrev w_NamedHall_place_of : List Str := ["self", "name", "!w"]
theorem sw_NamedHall_place_of : FnScope w_NamedHall_place_of ["self", "name"] (defScope s_NamedHall_place_of) := ⟨rfl, rfl, rfl, by decide +kernel, rfl, by decide +kernel, by decide +kernel⟩
abbrev s_NamedHall_shut : Stmt := inClass (topS 16) 3
abbrev n_NamedHall_shut : List Str := ["self", "name", "at"]
theorem sc_NamedHall_shut : FnScope n_NamedHall_shut ["self", "name"] (defScope s_NamedHall_shut) := ⟨rfl, rfl, rfl, by decide +kernel, rfl, by decide +kernel, by decide +kernel⟩
abbrev w_NamedHall_shut : List Str := ["self", "name", "at", "!w"]
theorem sw_NamedHall_shut : FnScope w_NamedHall_shut ["self", "name"] (defScope s_NamedHall_shut) := ⟨rfl, rfl, rfl, by decide +kernel, rfl, by decide +kernel, by decide +kernel⟩
abbrev s_NamedHall_widen : Stmt := inClass (topS 16) 4
abbrev n_NamedHall_widen : List Str := ["self", "name", "more", "at", "a", "b", "width", "length"]
theorem sc_NamedHall_widen : FnScope n_NamedHall_widen ["self", "name", "more"] (defScope s_NamedHall_widen) := ⟨rfl, rfl, rfl, by decide +kernel, rfl, by decide +kernel, by decide +kernel⟩
abbrev w_NamedHall_widen : List Str := ["self", "name", "more", "at", "a", "b", "width", "length", "!w"]
theorem sw_NamedHall_widen : FnScope w_NamedHall_widen ["self", "name", "more"] (defScope s_NamedHall_widen) := ⟨rfl, rfl, rfl, by decide +kernel, rfl, by decide +kernel, by decide +kernel⟩
abbrev s_NamedHall_narrow : Stmt := inClass (topS 16) 5
abbrev n_NamedHall_narrow : List Str := ["self", "name", "less", "at", "a", "b", "width", "length"]
theorem sc_NamedHall_narrow : FnScope n_NamedHall_narrow ["self", "name", "less"] (defScope s_NamedHall_narrow) := ⟨rfl, rfl, rfl, by decide +kernel, rfl, by decide +kernel, by decide +kernel⟩
abbrev w_NamedHall_narrow : List Str := ["self", "name", "less", "at", "a", "b", "width", "length", "!w"]
theorem sw_NamedHall_narrow : FnScope w_NamedHall_narrow ["self", "name", "less"] (defScope s_NamedHall_narrow) := ⟨rfl, rfl, rfl, by decide +kernel, rfl, by decide +kernel, by decide +kernel⟩
abbrev s_NamedHall_rooms : Stmt := inClass (topS 16) 6
abbrev n_NamedHall_rooms : List Str := ["self"]
theorem sc_NamedHall_rooms : FnScope n_NamedHall_rooms ["self"] (defScope s_NamedHall_rooms) := ⟨rfl, rfl, rfl, by decide +kernel, rfl, by decide +kernel, by decide +kernel⟩
abbrev w_NamedHall_rooms : List Str := ["self", "!w"]
theorem sw_NamedHall_rooms : FnScope w_NamedHall_rooms ["self"] (defScope s_NamedHall_rooms) := ⟨rfl, rfl, rfl, by decide +kernel, rfl, by decide +kernel, by decide +kernel⟩
abbrev s_NamedHall_passages : Stmt := inClass (topS 16) 7
abbrev n_NamedHall_passages : List Str := ["self", "found", "name", "passage"]
theorem sc_NamedHall_passages : FnScope n_NamedHall_passages ["self"] (defScope s_NamedHall_passages) := ⟨rfl, rfl, rfl, by decide +kernel, rfl, by decide +kernel, by decide +kernel⟩
abbrev w_NamedHall_passages : List Str := ["self", "found", "name", "passage", "!w"]
theorem sw_NamedHall_passages : FnScope w_NamedHall_passages ["self"] (defScope s_NamedHall_passages) := ⟨rfl, rfl, rfl, by decide +kernel, rfl, by decide +kernel, by decide +kernel⟩
abbrev s_NamedHall_walk_names : Stmt := inClass (topS 16) 8
abbrev n_NamedHall_walk_names : List Str := ["self", "walk"]
theorem sc_NamedHall_walk_names : FnScope n_NamedHall_walk_names ["self", "walk"] (defScope s_NamedHall_walk_names) := ⟨rfl, rfl, rfl, by decide +kernel, rfl, by decide +kernel, by decide +kernel⟩
abbrev w_NamedHall_walk_names : List Str := ["self", "walk", "!w"]
theorem sw_NamedHall_walk_names : FnScope w_NamedHall_walk_names ["self", "walk"] (defScope s_NamedHall_walk_names) := ⟨rfl, rfl, rfl, by decide +kernel, rfl, by decide +kernel, by decide +kernel⟩
abbrev s_NamedHall_room_moments : Stmt := inClass (topS 16) 9
abbrev n_NamedHall_room_moments : List Str := ["self", "moments"]
theorem sc_NamedHall_room_moments : FnScope n_NamedHall_room_moments ["self", "moments"] (defScope s_NamedHall_room_moments) := ⟨rfl, rfl, rfl, by decide +kernel, rfl, by decide +kernel, by decide +kernel⟩
abbrev w_NamedHall_room_moments : List Str := ["self", "moments", "!w"]
theorem sw_NamedHall_room_moments : FnScope w_NamedHall_room_moments ["self", "moments"] (defScope s_NamedHall_room_moments) := ⟨rfl, rfl, rfl, by decide +kernel, rfl, by decide +kernel, by decide +kernel⟩
abbrev s_NamedHall_out : Stmt := inClass (topS 16) 10
abbrev n_NamedHall_out : List Str := ["self", "turns"]
theorem sc_NamedHall_out : FnScope n_NamedHall_out ["self", "turns"] (defScope s_NamedHall_out) := ⟨rfl, rfl, rfl, by decide +kernel, rfl, by decide +kernel, by decide +kernel⟩
abbrev w_NamedHall_out : List Str := ["self", "turns", "!w"]
theorem sw_NamedHall_out : FnScope w_NamedHall_out ["self", "turns"] (defScope s_NamedHall_out) := ⟨rfl, rfl, rfl, by decide +kernel, rfl, by decide +kernel, by decide +kernel⟩
abbrev s_NamedHall_turns_for : Stmt := inClass (topS 16) 11
abbrev n_NamedHall_turns_for : List Str := ["self", "people"]
theorem sc_NamedHall_turns_for : FnScope n_NamedHall_turns_for ["self", "people"] (defScope s_NamedHall_turns_for) := ⟨rfl, rfl, rfl, by decide +kernel, rfl, by decide +kernel, by decide +kernel⟩
abbrev w_NamedHall_turns_for : List Str := ["self", "people", "!w"]
theorem sw_NamedHall_turns_for : FnScope w_NamedHall_turns_for ["self", "people"] (defScope s_NamedHall_turns_for) := ⟨rfl, rfl, rfl, by decide +kernel, rfl, by decide +kernel, by decide +kernel⟩
abbrev s_NamedHall_worth : Stmt := inClass (topS 16) 12
abbrev n_NamedHall_worth : List Str := ["self", "name", "turns"]
theorem sc_NamedHall_worth : FnScope n_NamedHall_worth ["self", "name", "turns"] (defScope s_NamedHall_worth) := ⟨rfl, rfl, rfl, by decide +kernel, rfl, by decide +kernel, by decide +kernel⟩
abbrev w_NamedHall_worth : List Str := ["self", "name", "turns", "!w"]
theorem sw_NamedHall_worth : FnScope w_NamedHall_worth ["self", "name", "turns"] (defScope s_NamedHall_worth) := ⟨rfl, rfl, rfl, by decide +kernel, rfl, by decide +kernel, by decide +kernel⟩
abbrev s_cell_at : Stmt := topS 18
abbrev n_cell_at : List Str := ["_law_script", "_law_k"]
theorem sc_cell_at : FnScope n_cell_at ["_law_script", "_law_k"] (defScope s_cell_at) := ⟨rfl, rfl, rfl, by decide +kernel, rfl, by decide +kernel, by decide +kernel⟩
abbrev w_cell_at : List Str := ["_law_script", "_law_k", "!w"]
theorem sw_cell_at : FnScope w_cell_at ["_law_script", "_law_k"] (defScope s_cell_at) := ⟨rfl, rfl, rfl, by decide +kernel, rfl, by decide +kernel, by decide +kernel⟩
abbrev s_mixed : Stmt := topS 19
abbrev n_mixed : List Str := ["_law_cell", "_law_k", "_law_number", "_law_time"]
theorem sc_mixed : FnScope n_mixed ["_law_cell", "_law_k"] (defScope s_mixed) := ⟨rfl, rfl, rfl, by decide +kernel, rfl, by decide +kernel, by decide +kernel⟩
abbrev w_mixed : List Str := ["_law_cell", "_law_k", "_law_number", "_law_time", "!w"]
theorem sw_mixed : FnScope w_mixed ["_law_cell", "_law_k"] (defScope s_mixed) := ⟨rfl, rfl, rfl, by decide +kernel, rfl, by decide +kernel, by decide +kernel⟩
abbrev s_words : Stmt := topS 20
abbrev n_words : List Str := ["_law_cell", "_law_many", "_law_k", "_law_letters", "_law_number", "_law_base", "_law_at", "_law_j"]
theorem sc_words : FnScope n_words ["_law_cell", "_law_many", "_law_k"] (defScope s_words) := ⟨rfl, rfl, rfl, by decide +kernel, rfl, by decide +kernel, by decide +kernel⟩
abbrev w_words : List Str := ["_law_cell", "_law_many", "_law_k", "_law_letters", "_law_number", "_law_base", "_law_at", "_law_j", "!w"]
theorem sw_words : FnScope w_words ["_law_cell", "_law_many", "_law_k"] (defScope s_words) := ⟨rfl, rfl, rfl, by decide +kernel, rfl, by decide +kernel, by decide +kernel⟩
abbrev s_length : Stmt := topS 21
abbrev n_length : List Str := ["_law_cell", "_law_number"]
theorem sc_length : FnScope n_length ["_law_cell"] (defScope s_length) := ⟨rfl, rfl, rfl, by decide +kernel, rfl, by decide +kernel, by decide +kernel⟩
abbrev w_length : List Str := ["_law_cell", "_law_number", "!w"]
theorem sw_length : FnScope w_length ["_law_cell"] (defScope s_length) := ⟨rfl, rfl, rfl, by decide +kernel, rfl, by decide +kernel, by decide +kernel⟩
abbrev s_width : Stmt := topS 22
abbrev n_width : List Str := ["_law_cell", "_law_number"]
theorem sc_width : FnScope n_width ["_law_cell"] (defScope s_width) := ⟨rfl, rfl, rfl, by decide +kernel, rfl, by decide +kernel, by decide +kernel⟩
abbrev w_width : List Str := ["_law_cell", "_law_number", "!w"]
theorem sw_width : FnScope w_width ["_law_cell"] (defScope s_width) := ⟨rfl, rfl, rfl, by decide +kernel, rfl, by decide +kernel, by decide +kernel⟩
abbrev s_fresh : Stmt := topS 23
abbrev n_fresh : List Str := ["_law_words_here", "_law_held", "_law_names", "_law_row", "_law_word"]
theorem sc_fresh : FnScope n_fresh ["_law_words_here", "_law_held"] (defScope s_fresh) := ⟨rfl, rfl, rfl, by decide +kernel, rfl, by decide +kernel, by decide +kernel⟩
abbrev w_fresh : List Str := ["_law_words_here", "_law_held", "_law_names", "_law_row", "_law_word", "!w"]
theorem sw_fresh : FnScope w_fresh ["_law_words_here", "_law_held"] (defScope s_fresh) := ⟨rfl, rfl, rfl, by decide +kernel, rfl, by decide +kernel, by decide +kernel⟩
abbrev s_deed : Stmt := topS 24
abbrev n_deed : List Str := ["_law_cell", "_law_held", "_law_rooms", "_law_names", "_law_number", "_law_way", "_law_a", "_law_b", "_law_row"]
theorem sc_deed : FnScope n_deed ["_law_cell", "_law_held", "_law_rooms", "_law_names"] (defScope s_deed) := ⟨rfl, rfl, rfl, by decide +kernel, rfl, by decide +kernel, by decide +kernel⟩
abbrev w_deed : List Str := ["_law_cell", "_law_held", "_law_rooms", "_law_names", "_law_number", "_law_way", "_law_a", "_law_b", "_law_row", "!w"]
theorem sw_deed : FnScope w_deed ["_law_cell", "_law_held", "_law_rooms", "_law_names"] (defScope s_deed) := ⟨rfl, rfl, rfl, by decide +kernel, rfl, by decide +kernel, by decide +kernel⟩
abbrev s_do : Stmt := topS 25
abbrev n_do : List Str := ["_law_hall", "_law_deed_here"]
theorem sc_do : FnScope n_do ["_law_hall", "_law_deed_here"] (defScope s_do) := ⟨rfl, rfl, rfl, by decide +kernel, rfl, by decide +kernel, by decide +kernel⟩
abbrev w_do : List Str := ["_law_hall", "_law_deed_here", "!w"]
theorem sw_do : FnScope w_do ["_law_hall", "_law_deed_here"] (defScope s_do) := ⟨rfl, rfl, rfl, by decide +kernel, rfl, by decide +kernel, by decide +kernel⟩
abbrev s_noted : Stmt := topS 26
abbrev n_noted : List Str := ["_law_held", "_law_seen", "_law_deed_here", "_law_room", "_law_row"]
theorem sc_noted : FnScope n_noted ["_law_held", "_law_seen", "_law_deed_here"] (defScope s_noted) := ⟨rfl, rfl, rfl, by decide +kernel, rfl, by decide +kernel, by decide +kernel⟩
abbrev w_noted : List Str := ["_law_held", "_law_seen", "_law_deed_here", "_law_room", "_law_row", "!w"]
theorem sw_noted : FnScope w_noted ["_law_held", "_law_seen", "_law_deed_here"] (defScope s_noted) := ⟨rfl, rfl, rfl, by decide +kernel, rfl, by decide +kernel, by decide +kernel⟩
abbrev s_is : Stmt := topS 27
abbrev n_is : List Str := ["_law_caught_here", "_law_at", "_law_told", "_law_k"]
theorem sc_is : FnScope n_is ["_law_caught_here", "_law_at"] (defScope s_is) := ⟨rfl, rfl, rfl, by decide +kernel, rfl, by decide +kernel, by decide +kernel⟩
abbrev w_is : List Str := ["_law_caught_here", "_law_at", "_law_told", "_law_k", "!w"]
theorem sw_is : FnScope w_is ["_law_caught_here", "_law_at"] (defScope s_is) := ⟨rfl, rfl, rfl, by decide +kernel, rfl, by decide +kernel, by decide +kernel⟩
abbrev s_caught : Stmt := topS 28
abbrev n_caught : List Str := ["_law_hall", "_law_deed_here", "_law_caught_here", "e"]
theorem sc_caught : FnScope n_caught ["_law_hall", "_law_deed_here"] (defScope s_caught) := ⟨rfl, rfl, rfl, by decide +kernel, rfl, by decide +kernel, by decide +kernel⟩
abbrev w_caught : List Str := ["_law_hall", "_law_deed_here", "_law_caught_here", "e", "!w"]
theorem sw_caught : FnScope w_caught ["_law_hall", "_law_deed_here"] (defScope s_caught) := ⟨rfl, rfl, rfl, by decide +kernel, rfl, by decide +kernel, by decide +kernel⟩
abbrev s_begun : Stmt := topS 29
abbrev n_begun : List Str := ["_law_start", "_law_goal", "_law_caught_here", "e"]
theorem sc_begun : FnScope n_begun ["_law_start", "_law_goal"] (defScope s_begun) := ⟨rfl, rfl, rfl, by decide +kernel, rfl, by decide +kernel, by decide +kernel⟩
abbrev w_begun : List Str := ["_law_start", "_law_goal", "_law_caught_here", "e", "!w"]
theorem sw_begun : FnScope w_begun ["_law_start", "_law_goal"] (defScope s_begun) := ⟨rfl, rfl, rfl, by decide +kernel, rfl, by decide +kernel, by decide +kernel⟩
abbrev s_no_name : Stmt := topS 30
abbrev n_no_name : List Str := ["_law_number"]
theorem sc_no_name : FnScope n_no_name ["_law_number"] (defScope s_no_name) := ⟨rfl, rfl, rfl, by decide +kernel, rfl, by decide +kernel, by decide +kernel⟩
abbrev w_no_name : List Str := ["_law_number", "!w"]
theorem sw_no_name : FnScope w_no_name ["_law_number"] (defScope s_no_name) := ⟨rfl, rfl, rfl, by decide +kernel, rfl, by decide +kernel, by decide +kernel⟩
abbrev s_bad_lay : Stmt := topS 31
abbrev n_bad_lay : List Str := ["_law_number", "_law_held", "_law_rooms", "_law_name", "_law_some", "_law_one"]
theorem sc_bad_lay : FnScope n_bad_lay ["_law_number", "_law_held", "_law_rooms"] (defScope s_bad_lay) := ⟨rfl, rfl, rfl, by decide +kernel, rfl, by decide +kernel, by decide +kernel⟩
abbrev w_bad_lay : List Str := ["_law_number", "_law_held", "_law_rooms", "_law_name", "_law_some", "_law_one", "!w"]
theorem sw_bad_lay : FnScope w_bad_lay ["_law_number", "_law_held", "_law_rooms"] (defScope s_bad_lay) := ⟨rfl, rfl, rfl, by decide +kernel, rfl, by decide +kernel, by decide +kernel⟩
abbrev s_bad : Stmt := topS 32
abbrev n_bad : List Str := ["_law_cell", "_law_held", "_law_rooms", "_law_number", "_law_way", "_law_name", "_law_width_here", "_law_some"]
theorem sc_bad : FnScope n_bad ["_law_cell", "_law_held", "_law_rooms"] (defScope s_bad) := ⟨rfl, rfl, rfl, by decide +kernel, rfl, by decide +kernel, by decide +kernel⟩
abbrev w_bad : List Str := ["_law_cell", "_law_held", "_law_rooms", "_law_number", "_law_way", "_law_name", "_law_width_here", "_law_some", "!w"]
theorem sw_bad : FnScope w_bad ["_law_cell", "_law_held", "_law_rooms"] (defScope s_bad) := ⟨rfl, rfl, rfl, by decide +kernel, rfl, by decide +kernel, by decide +kernel⟩
abbrev s_place : Stmt := topS 33
abbrev n_place : List Str := ["_law_hall", "_law_deed_here", "_law_place_here", "e"]
theorem sc_place : FnScope n_place ["_law_hall", "_law_deed_here"] (defScope s_place) := ⟨rfl, rfl, rfl, by decide +kernel, rfl, by decide +kernel, by decide +kernel⟩
abbrev w_place : List Str := ["_law_hall", "_law_deed_here", "_law_place_here", "e", "!w"]
theorem sw_place : FnScope w_place ["_law_hall", "_law_deed_here"] (defScope s_place) := ⟨rfl, rfl, rfl, by decide +kernel, rfl, by decide +kernel, by decide +kernel⟩
abbrev s_full : Stmt := topS 34
abbrev n_full : List Str := ["_law_hall", "_law_held", "_law_seen", "_law_names", "_law_one", "_law_other", "_law_name", "_law_more"]
theorem sc_full : FnScope n_full ["_law_hall", "_law_held", "_law_seen"] (defScope s_full) := ⟨rfl, rfl, rfl, by decide +kernel, rfl, by decide +kernel, by decide +kernel⟩
abbrev w_full : List Str := ["_law_hall", "_law_held", "_law_seen", "_law_names", "_law_one", "_law_other", "_law_name", "_law_more", "!w"]
theorem sw_full : FnScope w_full ["_law_hall", "_law_held", "_law_seen"] (defScope s_full) := ⟨rfl, rfl, rfl, by decide +kernel, rfl, by decide +kernel, by decide +kernel⟩
abbrev s_begins : Stmt := topS 35
abbrev n_begins : List Str := ["_law_number", "_law_rooms"]
theorem sc_begins : FnScope n_begins ["_law_number", "_law_rooms"] (defScope s_begins) := ⟨rfl, rfl, rfl, by decide +kernel, rfl, by decide +kernel, by decide +kernel⟩
abbrev w_begins : List Str := ["_law_number", "_law_rooms", "!w"]
theorem sw_begins : FnScope w_begins ["_law_number", "_law_rooms"] (defScope s_begins) := ⟨rfl, rfl, rfl, by decide +kernel, rfl, by decide +kernel, by decide +kernel⟩
abbrev s_law : Stmt := topS 36
abbrev n_law : List Str := ["_law_script", "_law_rooms", "_law_names", "_law_number", "_law_hall", "_law_held", "_law_seen", "_law_cell", "_law_at", "_law_deed_here", "_law_row", "_law_good"]
theorem sc_law : FnScope n_law ["_law_script"] (defScope s_law) := ⟨rfl, rfl, rfl, by decide +kernel, rfl, by decide +kernel, by decide +kernel⟩
abbrev w_law : List Str := ["_law_script", "_law_rooms", "_law_names", "_law_number", "_law_hall", "_law_held", "_law_seen", "_law_cell", "_law_at", "_law_deed_here", "_law_row", "_law_good", "!w"]
theorem sw_law : FnScope w_law ["_law_script"] (defScope s_law) := ⟨rfl, rfl, rfl, by decide +kernel, rfl, by decide +kernel, by decide +kernel⟩
end K

namespace K
open PySem L2 DL Mp
structure Blt (mg : Str → Option Value) : Prop where
  len : mg "len" = none
  range : mg "range" = none
  min : mg "min" = none
  list : mg "list" = none
  tuple : mg "tuple" = none
  zip : mg "zip" = none
  isi : mg "isinstance" = none
  int : mg "int" = none
  bool : mg "bool" = none
  abs : mg "abs" = none
  ve : mg "ValueError" = none
end K

namespace K
open PySem L2 DL Mp
/-- what the text says of its errors -/
structure ETxt (K : PySem.W.Frag) (mg : Str → Option Value) (HE NH NN TW TM NP NW NL : Addr) : Prop where
  gHE : mg "HallError" = some (.ref HE)
  gNH : mg "NoHall" = some (.ref NH)
  gNN : mg "NoName" = some (.ref NN)
  gTW : mg "Twice" = some (.ref TW)
  gTM : mg "TooMany" = some (.ref TM)
  gNP : mg "NoPassage" = some (.ref NP)
  gNW : mg "NoWidth" = some (.ref NW)
  gNL : mg "NoLine" = some (.ref NL)
  oex : ∃ (nm q : Str) (N : Addr) (bs : List Value) (sn : List Str) (sub : List Value) (ab : Bool) (col : Option Bool) (dd : Option Addr) (m0 m1 m2 m3 m5 : Option Value), K.lookup NH = some (PySem.excClassObj nm q NH N bs [.ref HE, .type "ValueError", .type "Exception", .type "BaseException", .type "object"] true sn sub ab col dd m0 m1 m2 m3 m5 "ValueError.__new__")
  sa : PySem.W.findIn K (.ref NH) "__setattr__" = some (some (.builtin "object.__setattr__"))
  pl : PySem.W.findIn K (.ref NH) "place" = some none
  spc : PySem.W.specialIn K (.builtin "object.__class__") "__get__" = some (some (.builtin "getset_descriptor.__get__"))
  tks : PySem.W.takesIn K (.builtin "object.__class__") = some true
  rdH : PySem.W.readsIn K HE (.type "type") = true
  gaH : PySem.W.specialIn K (.ref HE) "__getattribute__" = some (some (.builtin "type.__getattribute__"))
  inH : PySem.W.findCls K (.ref HE) (.type "type") "__init__" = some (.val (.builtin "ValueError.__init__"))
  xNH : PySem.W.exmOne K (.ref NH) (.ref NH) = some true
  gaNH : PySem.W.findIn K (.ref NH) "__getattribute__" = some (some (.builtin "BaseException.__getattribute__"))
  ggNH : PySem.W.findIn K (.ref NH) "__getattr__" = some none
  bNH : PySem.W.subIn K (.ref NH) (.type "BaseException") = some true
  tNH : PySem.W.typeIn K (.ref NH) = some (.type "type")
  hNH : PySem.W.hasDictIn K NH = true
  kNH : PySem.W.keepIn K (.ref NH) = true
  cNH : PySem.W.findIn K (.ref NH) "__class__" = some (some (.builtin "object.__class__"))
  mNH : PySem.W.mroIn K NH (.type "object") = some true
  xNHHE : PySem.W.exmOne K (.ref NH) (.ref HE) = some true
  iNHNH : PySem.W.kitOne K (.ref NH) (.ref NH) = some true
  iNHNN : PySem.W.kitOne K (.ref NH) (.ref NN) = some false
  iNHTW : PySem.W.kitOne K (.ref NH) (.ref TW) = some false
  iNHTM : PySem.W.kitOne K (.ref NH) (.ref TM) = some false
  iNHNP : PySem.W.kitOne K (.ref NH) (.ref NP) = some false
  iNHNW : PySem.W.kitOne K (.ref NH) (.ref NW) = some false
  iNHNL : PySem.W.kitOne K (.ref NH) (.ref NL) = some false
  ivNH : PySem.W.kitOne K (.ref NH) (.type "ValueError") = some true
  qNN : PySem.W.excIn K NN [.type "ValueError", .type "Exception", .type "BaseException", .type "object"] "ValueError.__new__" = true
  gaNN : PySem.W.findIn K (.ref NN) "__getattribute__" = some (some (.builtin "BaseException.__getattribute__"))
  ggNN : PySem.W.findIn K (.ref NN) "__getattr__" = some none
  bNN : PySem.W.subIn K (.ref NN) (.type "BaseException") = some true
  tNN : PySem.W.typeIn K (.ref NN) = some (.type "type")
  hNN : PySem.W.hasDictIn K NN = true
  kNN : PySem.W.keepIn K (.ref NN) = true
  cNN : PySem.W.findIn K (.ref NN) "__class__" = some (some (.builtin "object.__class__"))
  mNN : PySem.W.mroIn K NN (.type "object") = some true
  xNNHE : PySem.W.exmOne K (.ref NN) (.ref HE) = some true
  iNNNH : PySem.W.kitOne K (.ref NN) (.ref NH) = some false
  iNNNN : PySem.W.kitOne K (.ref NN) (.ref NN) = some true
  iNNTW : PySem.W.kitOne K (.ref NN) (.ref TW) = some false
  iNNTM : PySem.W.kitOne K (.ref NN) (.ref TM) = some false
  iNNNP : PySem.W.kitOne K (.ref NN) (.ref NP) = some false
  iNNNW : PySem.W.kitOne K (.ref NN) (.ref NW) = some false
  iNNNL : PySem.W.kitOne K (.ref NN) (.ref NL) = some false
  ivNN : PySem.W.kitOne K (.ref NN) (.type "ValueError") = some true
  qTW : PySem.W.excIn K TW [.type "ValueError", .type "Exception", .type "BaseException", .type "object"] "ValueError.__new__" = true
  gaTW : PySem.W.findIn K (.ref TW) "__getattribute__" = some (some (.builtin "BaseException.__getattribute__"))
  ggTW : PySem.W.findIn K (.ref TW) "__getattr__" = some none
  bTW : PySem.W.subIn K (.ref TW) (.type "BaseException") = some true
  tTW : PySem.W.typeIn K (.ref TW) = some (.type "type")
  hTW : PySem.W.hasDictIn K TW = true
  kTW : PySem.W.keepIn K (.ref TW) = true
  cTW : PySem.W.findIn K (.ref TW) "__class__" = some (some (.builtin "object.__class__"))
  mTW : PySem.W.mroIn K TW (.type "object") = some true
  xTWHE : PySem.W.exmOne K (.ref TW) (.ref HE) = some true
  iTWNH : PySem.W.kitOne K (.ref TW) (.ref NH) = some false
  iTWNN : PySem.W.kitOne K (.ref TW) (.ref NN) = some false
  iTWTW : PySem.W.kitOne K (.ref TW) (.ref TW) = some true
  iTWTM : PySem.W.kitOne K (.ref TW) (.ref TM) = some false
  iTWNP : PySem.W.kitOne K (.ref TW) (.ref NP) = some false
  iTWNW : PySem.W.kitOne K (.ref TW) (.ref NW) = some false
  iTWNL : PySem.W.kitOne K (.ref TW) (.ref NL) = some false
  ivTW : PySem.W.kitOne K (.ref TW) (.type "ValueError") = some true
  qTM : PySem.W.excIn K TM [.type "ValueError", .type "Exception", .type "BaseException", .type "object"] "ValueError.__new__" = true
  gaTM : PySem.W.findIn K (.ref TM) "__getattribute__" = some (some (.builtin "BaseException.__getattribute__"))
  ggTM : PySem.W.findIn K (.ref TM) "__getattr__" = some none
  bTM : PySem.W.subIn K (.ref TM) (.type "BaseException") = some true
  tTM : PySem.W.typeIn K (.ref TM) = some (.type "type")
  hTM : PySem.W.hasDictIn K TM = true
  kTM : PySem.W.keepIn K (.ref TM) = true
  cTM : PySem.W.findIn K (.ref TM) "__class__" = some (some (.builtin "object.__class__"))
  mTM : PySem.W.mroIn K TM (.type "object") = some true
  xTMHE : PySem.W.exmOne K (.ref TM) (.ref HE) = some true
  iTMNH : PySem.W.kitOne K (.ref TM) (.ref NH) = some false
  iTMNN : PySem.W.kitOne K (.ref TM) (.ref NN) = some false
  iTMTW : PySem.W.kitOne K (.ref TM) (.ref TW) = some false
  iTMTM : PySem.W.kitOne K (.ref TM) (.ref TM) = some true
  iTMNP : PySem.W.kitOne K (.ref TM) (.ref NP) = some false
  iTMNW : PySem.W.kitOne K (.ref TM) (.ref NW) = some false
  iTMNL : PySem.W.kitOne K (.ref TM) (.ref NL) = some false
  ivTM : PySem.W.kitOne K (.ref TM) (.type "ValueError") = some true
  qNP : PySem.W.excIn K NP [.type "ValueError", .type "Exception", .type "BaseException", .type "object"] "ValueError.__new__" = true
  gaNP : PySem.W.findIn K (.ref NP) "__getattribute__" = some (some (.builtin "BaseException.__getattribute__"))
  ggNP : PySem.W.findIn K (.ref NP) "__getattr__" = some none
  bNP : PySem.W.subIn K (.ref NP) (.type "BaseException") = some true
  tNP : PySem.W.typeIn K (.ref NP) = some (.type "type")
  hNP : PySem.W.hasDictIn K NP = true
  kNP : PySem.W.keepIn K (.ref NP) = true
  cNP : PySem.W.findIn K (.ref NP) "__class__" = some (some (.builtin "object.__class__"))
  mNP : PySem.W.mroIn K NP (.type "object") = some true
  xNPHE : PySem.W.exmOne K (.ref NP) (.ref HE) = some true
  iNPNH : PySem.W.kitOne K (.ref NP) (.ref NH) = some false
  iNPNN : PySem.W.kitOne K (.ref NP) (.ref NN) = some false
  iNPTW : PySem.W.kitOne K (.ref NP) (.ref TW) = some false
  iNPTM : PySem.W.kitOne K (.ref NP) (.ref TM) = some false
  iNPNP : PySem.W.kitOne K (.ref NP) (.ref NP) = some true
  iNPNW : PySem.W.kitOne K (.ref NP) (.ref NW) = some false
  iNPNL : PySem.W.kitOne K (.ref NP) (.ref NL) = some false
  ivNP : PySem.W.kitOne K (.ref NP) (.type "ValueError") = some true
  qNW : PySem.W.excIn K NW [.type "ValueError", .type "Exception", .type "BaseException", .type "object"] "ValueError.__new__" = true
  gaNW : PySem.W.findIn K (.ref NW) "__getattribute__" = some (some (.builtin "BaseException.__getattribute__"))
  ggNW : PySem.W.findIn K (.ref NW) "__getattr__" = some none
  bNW : PySem.W.subIn K (.ref NW) (.type "BaseException") = some true
  tNW : PySem.W.typeIn K (.ref NW) = some (.type "type")
  hNW : PySem.W.hasDictIn K NW = true
  kNW : PySem.W.keepIn K (.ref NW) = true
  cNW : PySem.W.findIn K (.ref NW) "__class__" = some (some (.builtin "object.__class__"))
  mNW : PySem.W.mroIn K NW (.type "object") = some true
  xNWHE : PySem.W.exmOne K (.ref NW) (.ref HE) = some true
  iNWNH : PySem.W.kitOne K (.ref NW) (.ref NH) = some false
  iNWNN : PySem.W.kitOne K (.ref NW) (.ref NN) = some false
  iNWTW : PySem.W.kitOne K (.ref NW) (.ref TW) = some false
  iNWTM : PySem.W.kitOne K (.ref NW) (.ref TM) = some false
  iNWNP : PySem.W.kitOne K (.ref NW) (.ref NP) = some false
  iNWNW : PySem.W.kitOne K (.ref NW) (.ref NW) = some true
  iNWNL : PySem.W.kitOne K (.ref NW) (.ref NL) = some false
  ivNW : PySem.W.kitOne K (.ref NW) (.type "ValueError") = some true
structure IsTab (K : PySem.W.Frag) (mg : Str → Option Value) (D : Addr) (i : Nat) : Prop where
  ex : ExcC K D
  c0 : ∃ C, mg "NoHall" = some (.ref C) ∧ PySem.W.kitOne K (.ref D) (.ref C) = some (decide (0 = i))
  c1 : ∃ C, mg "NoName" = some (.ref C) ∧ PySem.W.kitOne K (.ref D) (.ref C) = some (decide (1 = i))
  c2 : ∃ C, mg "Twice" = some (.ref C) ∧ PySem.W.kitOne K (.ref D) (.ref C) = some (decide (2 = i))
  c3 : ∃ C, mg "TooMany" = some (.ref C) ∧ PySem.W.kitOne K (.ref D) (.ref C) = some (decide (3 = i))
  c4 : ∃ C, mg "NoPassage" = some (.ref C) ∧ PySem.W.kitOne K (.ref D) (.ref C) = some (decide (4 = i))
  c5 : ∃ C, mg "NoWidth" = some (.ref C) ∧ PySem.W.kitOne K (.ref D) (.ref C) = some (decide (5 = i))
  c6 : ∃ C, mg "NoLine" = some (.ref C) ∧ PySem.W.kitOne K (.ref D) (.ref C) = some (decide (6 = i))
  ve : PySem.W.kitOne K (.ref D) (.type "ValueError") = some true
section
variable {P : Program} {w : World} {K : PySem.W.Frag} {mg : Str → Option Value} {base : Heap} {HE NH NN TW TM NP NW NL : Addr}
theorem ETxt.o (T : ETxt K mg HE NH NN TW TM NP NW NL) : OexC K NH := by
  obtain ⟨nm, q, N, bs, sn, sub, ab, col, dd, m0, m1, m2, m3, m5, h⟩ := T.oex
  exact ⟨⟨nm, q, N, bs, _, sn, sub, ab, col, dd, m0, m1, m2, m3, m5, h, by show PySem.HandSPX.refsVE [.type "ValueError", .type "Exception", .type "BaseException", .type "object"] = true; decide +kernel⟩, T.sa, T.bNH, T.tNH, T.kNH⟩
theorem ETxt.f (T : ETxt K mg HE NH NN TW TM NP NW NL) : XfC K NH := ⟨T.gaNH, T.ggNH, T.bNH, T.hNH⟩
theorem ETxt.exNH (T : ETxt K mg HE NH NN TW TM NP NW NL) : ExcC K NH := ⟨T.gaNH, T.ggNH, T.bNH, T.hNH, T.cNH, T.spc, T.tks, T.mNH⟩
theorem ETxt.tabNH (T : ETxt K mg HE NH NN TW TM NP NW NL) : IsTab K mg NH 0 := ⟨T.exNH, ⟨_, T.gNH, T.iNHNH⟩, ⟨_, T.gNN, T.iNHNN⟩, ⟨_, T.gTW, T.iNHTW⟩, ⟨_, T.gTM, T.iNHTM⟩, ⟨_, T.gNP, T.iNHNP⟩, ⟨_, T.gNW, T.iNHNW⟩, ⟨_, T.gNL, T.iNHNL⟩, T.ivNH⟩
theorem ETxt.exNN (T : ETxt K mg HE NH NN TW TM NP NW NL) : ExcC K NN := ⟨T.gaNN, T.ggNN, T.bNN, T.hNN, T.cNN, T.spc, T.tks, T.mNN⟩
theorem ETxt.wNN (T : ETxt K mg HE NH NN TW TM NP NW NL) : OwnX K mg "NoName" NN := ⟨T.qNN, T.gNN, T.kNN, T.bNN, T.tNN⟩
theorem ETxt.tabNN (T : ETxt K mg HE NH NN TW TM NP NW NL) : IsTab K mg NN 1 := ⟨T.exNN, ⟨_, T.gNH, T.iNNNH⟩, ⟨_, T.gNN, T.iNNNN⟩, ⟨_, T.gTW, T.iNNTW⟩, ⟨_, T.gTM, T.iNNTM⟩, ⟨_, T.gNP, T.iNNNP⟩, ⟨_, T.gNW, T.iNNNW⟩, ⟨_, T.gNL, T.iNNNL⟩, T.ivNN⟩
theorem ETxt.exTW (T : ETxt K mg HE NH NN TW TM NP NW NL) : ExcC K TW := ⟨T.gaTW, T.ggTW, T.bTW, T.hTW, T.cTW, T.spc, T.tks, T.mTW⟩
theorem ETxt.wTW (T : ETxt K mg HE NH NN TW TM NP NW NL) : OwnX K mg "Twice" TW := ⟨T.qTW, T.gTW, T.kTW, T.bTW, T.tTW⟩
theorem ETxt.tabTW (T : ETxt K mg HE NH NN TW TM NP NW NL) : IsTab K mg TW 2 := ⟨T.exTW, ⟨_, T.gNH, T.iTWNH⟩, ⟨_, T.gNN, T.iTWNN⟩, ⟨_, T.gTW, T.iTWTW⟩, ⟨_, T.gTM, T.iTWTM⟩, ⟨_, T.gNP, T.iTWNP⟩, ⟨_, T.gNW, T.iTWNW⟩, ⟨_, T.gNL, T.iTWNL⟩, T.ivTW⟩
theorem ETxt.exTM (T : ETxt K mg HE NH NN TW TM NP NW NL) : ExcC K TM := ⟨T.gaTM, T.ggTM, T.bTM, T.hTM, T.cTM, T.spc, T.tks, T.mTM⟩
theorem ETxt.wTM (T : ETxt K mg HE NH NN TW TM NP NW NL) : OwnX K mg "TooMany" TM := ⟨T.qTM, T.gTM, T.kTM, T.bTM, T.tTM⟩
theorem ETxt.tabTM (T : ETxt K mg HE NH NN TW TM NP NW NL) : IsTab K mg TM 3 := ⟨T.exTM, ⟨_, T.gNH, T.iTMNH⟩, ⟨_, T.gNN, T.iTMNN⟩, ⟨_, T.gTW, T.iTMTW⟩, ⟨_, T.gTM, T.iTMTM⟩, ⟨_, T.gNP, T.iTMNP⟩, ⟨_, T.gNW, T.iTMNW⟩, ⟨_, T.gNL, T.iTMNL⟩, T.ivTM⟩
theorem ETxt.exNP (T : ETxt K mg HE NH NN TW TM NP NW NL) : ExcC K NP := ⟨T.gaNP, T.ggNP, T.bNP, T.hNP, T.cNP, T.spc, T.tks, T.mNP⟩
theorem ETxt.wNP (T : ETxt K mg HE NH NN TW TM NP NW NL) : OwnX K mg "NoPassage" NP := ⟨T.qNP, T.gNP, T.kNP, T.bNP, T.tNP⟩
theorem ETxt.tabNP (T : ETxt K mg HE NH NN TW TM NP NW NL) : IsTab K mg NP 4 := ⟨T.exNP, ⟨_, T.gNH, T.iNPNH⟩, ⟨_, T.gNN, T.iNPNN⟩, ⟨_, T.gTW, T.iNPTW⟩, ⟨_, T.gTM, T.iNPTM⟩, ⟨_, T.gNP, T.iNPNP⟩, ⟨_, T.gNW, T.iNPNW⟩, ⟨_, T.gNL, T.iNPNL⟩, T.ivNP⟩
theorem ETxt.exNW (T : ETxt K mg HE NH NN TW TM NP NW NL) : ExcC K NW := ⟨T.gaNW, T.ggNW, T.bNW, T.hNW, T.cNW, T.spc, T.tks, T.mNW⟩
theorem ETxt.wNW (T : ETxt K mg HE NH NN TW TM NP NW NL) : OwnX K mg "NoWidth" NW := ⟨T.qNW, T.gNW, T.kNW, T.bNW, T.tNW⟩
theorem ETxt.tabNW (T : ETxt K mg HE NH NN TW TM NP NW NL) : IsTab K mg NW 5 := ⟨T.exNW, ⟨_, T.gNH, T.iNWNH⟩, ⟨_, T.gNN, T.iNWNN⟩, ⟨_, T.gTW, T.iNWTW⟩, ⟨_, T.gTM, T.iNWTM⟩, ⟨_, T.gNP, T.iNWNP⟩, ⟨_, T.gNW, T.iNWNW⟩, ⟨_, T.gNL, T.iNWNL⟩, T.ivNW⟩
/-- the errors by number -/
def eA (NH NN TW TM NP NW NL : Addr) : Nat → Addr
  | 0 => NH
  | 1 => NN
  | 2 => TW
  | 3 => TM
  | 4 => NP
  | 5 => NW
  | _ => NL
/-- the i-th error as it is raised -/
def errX (NH NN TW TM NP NW NL : Addr) (i : Nat) : Exn := (eA NH NN TW TM NP NW NL i, if i = 0 then some [(("place" : Str), V.non)] else none)
theorem ETxt.tab (T : ETxt K mg HE NH NN TW TM NP NW NL) : ∀ i, i < 6 → IsTab K mg (eA NH NN TW TM NP NW NL i) i
  | 0, _ => T.tabNH
  | 1, _ => T.tabNN
  | 2, _ => T.tabTW
  | 3, _ => T.tabTM
  | 4, _ => T.tabNP
  | 5, _ => T.tabNW
  | i + 6, h => absurd h (by omega)
theorem ETxt.exm (T : ETxt K mg HE NH NN TW TM NP NW NL) : ∀ i, i < 6 → PySem.W.exmOne K (.ref (eA NH NN TW TM NP NW NL i)) (.ref HE) = some true
  | 0, _ => T.xNHHE
  | 1, _ => T.xNNHE
  | 2, _ => T.xTWHE
  | 3, _ => T.xTMHE
  | 4, _ => T.xNPHE
  | 5, _ => T.xNWHE
  | i + 6, h => absurd h (by omega)
theorem c_NoHall_init {f : Addr} {fd : FuncData} (F : Fun K "__init__" "NoHall.__init__" s_NoHall_init f fd) (iC : PySem.W.findIn K (.ref NH) "__init__" = some (some (.ref f))) (tI : PySem.W.typeIn K (.ref f) = some (.type "function")) (hb : Binds K fd ["self", "place"] []) (T : ETxt K mg HE NH NN TW TM NP NW NL) : InitX P w K mg base 1 "NoHall" NH "place" := by
  refine ⟨T.o, T.gNH, f, fd, ["self", "place"], iC, tI, ?_, hb⟩
  refine F.ok sc_NoHall_init (fun vs H Q E h => by obtain ⟨a, y, rfl, _⟩ := h; rfl) (fun cdv A outer s H vs Q E hr h => ?_)
  obtain ⟨a, y, rfl, ha, hq⟩ := h
  have hX : XOk P w K mg base 0 n_NoHall_init (defScope s_NoHall_init) true ((cxOf CX0 P w K mg base n_NoHall_init "NoHall.__init__" (defScope s_NoHall_init) f cdv A outer s H E).nox) := ⟨rfl, rfl, rfl, rfl, rfl, rfl, rfl, sc_NoHall_init.nd, rfl, hr, fun _ _ => rfl, PassesOwn.never⟩
  refine ⟨_, pss_cons (ps_expr (pe_baseinit (X := ((cxOf CX0 P w K mg base n_NoHall_init "NoHall.__init__" (defScope s_NoHall_init) f cdv A outer s H E).nox)) (hX.gl (x := "HallError") (by decide +kernel)) T.gHE ⟨T.rdH, T.gaH⟩ T.inH (pa_cons (pv 0) (pa_cons pe_str pa_nil)))) (pss_cons (ps_ost (pv 0) (pv 1)) pss_nil), ?_⟩
  refine ⟨.ref a, rfl, ⟨a, NH, _, rfl, by decide, T.o, ha, ?_⟩⟩
  exact ⟨y, rfl, .ref a, rfl, a, NH, rfl, T.o, T.pl, .inl ⟨ha, fun dx nd ne => hq dx nd ne⟩⟩
def tIs (K : PySem.W.Frag) (mg : Str → Option Value) : TrR := fun as W P' => ∃ (a D : Addr) (i : Nat), IsTab K mg D i ∧ i < 7 ∧ as = [.x (.ref a), .d (.int (i : Int))] ∧ ExAt W a D ∧ P' (.val (.bool true))
theorem c_is {f : Addr} {fd : FuncData} (F : Fun K "_law_is" "_law_is" s_is f fd) (hm : mg "_law_is" = some (.ref f)) (hb : Binds K fd ["_law_caught_here", "_law_at"] []) (B : Blt mg) : CalleeR P w K mg base 1 "_law_is" (tIs K mg) := by
  refine calleeR_of 4 F sw_is hm hb (fun as W P' h => by obtain ⟨a, D, i, _, _, rfl, _⟩ := h; rfl) fun X H0 S0 as W P' hX h => ?_
  obtain ⟨a, D, i, I, hi, rfl, ha, h⟩ := h
  obtain ⟨C0, g0, k0⟩ := I.c0
  obtain ⟨C1, g1, k1⟩ := I.c1
  obtain ⟨C2, g2, k2⟩ := I.c2
  obtain ⟨C3, g3, k3⟩ := I.c3
  obtain ⟨C4, g4, k4⟩ := I.c4
  obtain ⟨C5, g5, k5⟩ := I.c5
  obtain ⟨C6, g6, k6⟩ := I.c6
  refine ds_setoN 2 hX (he := (do_lst (da_cons (de_isiX 4 hX B.isi (dx_v 0 hX) ha I.ex g0 k0) (da_cons (de_isiX 4 hX B.isi (dx_v 0 hX) ha I.ex g1 k1) (da_cons (de_isiX 4 hX B.isi (dx_v 0 hX) ha I.ex g2 k2) da_nil)))).cast (ys := [decide (0 = i), decide (1 = i), decide (2 = i)].map PyData.bool) rfl) (h := ?_)
  refine ds_setoN 2 hX (he := do_catE (enc := PyData.bool) (xs := [decide (0 = i), decide (1 = i), decide (2 = i)]) (ys := [decide (3 = i), decide (4 = i), decide (5 = i)]) (dlr_o 2 hX) (dlr_own ((do_lst (da_cons (de_isiX 4 hX B.isi (dx_v 0 hX) ha I.ex g3 k3) (da_cons (de_isiX 4 hX B.isi (dx_v 0 hX) ha I.ex g4 k4) (da_cons (de_isiX 4 hX B.isi (dx_v 0 hX) ha I.ex g5 k5) da_nil)))).cast rfl)) (Nat.le_of_ble_eq_true rfl)) (h := ?_)
  refine ds_setoN 2 hX (he := do_catE (enc := PyData.bool) (xs := [decide (0 = i), decide (1 = i), decide (2 = i), decide (3 = i), decide (4 = i), decide (5 = i)]) (ys := [decide (6 = i)]) (dlr_o 2 hX) (dlr_own ((do_lst (da_cons (de_isiX 4 hX B.isi (dx_v 0 hX) ha I.ex g6 k6) da_nil)).cast rfl)) (Nat.le_of_ble_eq_true rfl)) (h := ?_)
  refine ds_if2 (dt_neD hX (dp_l (dls_o 2 hX)) (dp_l (dls_own (do_map hX [("_law_k", 3)] (enc := PyData.int) (xs := rng 7) PyData.bool (fun (v : Int) => decide (v = (i : Int))) (hit := di_rng hX B.range (he := de_int) (h := by decide)) (hsz := by rw [rng_len]; decide) (turn := fun v hv => ⟨_, _, fun X' hX' => dg_loc 3 hX', by simp, fun X' hX' => de_c (de_v 3 hX') (de_v 1 hX') .eq⟩)))) (shp_of (shp_map (n := 0) (fun b => shp_bool b 0) _) (by decide)) (shp_of (shp_map (n := 0) (fun b => shp_bool b 0) _) (by decide))) (fun c1 => ?_) (fun c1 => ds_nil ?_)
  · have e : ([decide (0 = i), decide (1 = i), decide (2 = i), decide (3 = i), decide (4 = i), decide (5 = i)] ++ [decide (6 = i)]) = (rng 7).map (fun (v : Int) => decide (v = (i : Int))) := by
      have : i = 0 ∨ i = 1 ∨ i = 2 ∨ i = 3 ∨ i = 4 ∨ i = 5 ∨ i = 6 := by omega
      rcases this with rfl | rfl | rfl | rfl | rfl | rfl | rfl <;> decide
    rw [e, eqv_self (shp_map (n := 0) (fun b => shp_bool b 0) _)] at c1
    cases c1
  · have e7 : decide ((i : Int) = 7) = false := decide_eq_false (by omega)
    refine ds_ret (de_or (x := (false && false)) (y := true) (de_and (x := false) (y := false) ((de_c (de_v 1 hX) de_int .eq).cast (by rw [e7])) (fun z => by cases z)) fun _ => de_one (de_isiY (T := "x") (t := "ValueError") 4 hX B.isi (dx_v 0 hX) ha I.ex B.ve (by rfl) I.ve)) h
end
end K

namespace K
open PySem L2 DL Mp Nm
/-- the constants of the named halls, and what is asked of their class -/
structure HTxt (K : PySem.W.Frag) (mg : Str → Option Value) (C : Addr) : Prop where
  cl : Cls K C
  nR : NoAttr K C "room_names"
  nM : NoAttr K C "names"
  nH : NoAttr K C "held"
  cL : DL.Con mg "LETTERS" (.str letters)
  cN : DL.Con mg "LONGEST_NAME" (.int 12)
  cP : DL.Con mg "MOST_PASSAGES" (.int 60)
  cR : DL.Con mg "MOST_ROOMS" (.int 40)
structure HAd where
  x : Addr
  dx : Addr
  r : Addr
  m : Addr
  h : Addr
def hflds (A : HAd) : List (Str × V) := [("room_names", .ref A.r), ("names", .ref A.m), ("held", .ref A.h)]
theorem fl_r (A : HAd) : (hflds A).lookup ("room_names" : Str) = some (V.ref A.r) := by
  unfold hflds
  rw [List.lookup_cons_self]
theorem fl_m (A : HAd) : (hflds A).lookup ("names" : Str) = some (V.ref A.m) := by
  unfold hflds
  rw [List.lookup_cons, show (("names" : Str) == "room_names") = false by decide +kernel, List.lookup_cons_self]
theorem fl_h (A : HAd) : (hflds A).lookup ("held" : Str) = some (V.ref A.h) := by
  unfold hflds
  rw [List.lookup_cons, show (("held" : Str) == "room_names") = false by decide +kernel]
  show List.lookup _ _ = _
  rw [List.lookup_cons, show (("held" : Str) == "names") = false by decide +kernel, List.lookup_cons_self]
def noF (m : Str) : Bool := (m == "room_names") || (m == "names") || (m == "held")
theorem fl_no (A : HAd) {m : Str} (h : noF m = false := by decide +kernel) : (hflds A).lookup m = none := by
  unfold noF at h
  rw [Bool.or_eq_false_iff, Bool.or_eq_false_iff] at h
  unfold hflds
  rw [List.lookup_cons, h.1.1]
  show List.lookup _ _ = _
  rw [List.lookup_cons, h.1.2]
  show List.lookup _ _ = _
  rw [List.lookup_cons, h.2]
  rfl
abbrev eS (zs : List Str) : List E := (zs.map PyData.str).map E.d
abbrev eH (seen : List Str) (rows : List Row) : List E := ((rows.map (psgOf seen)).map encP).map E.d
structure HallAt (C : Addr) (W : Wk) (A : HAd) (seen : List Str) (rows : List Row) : Prop where
  x : W A.x = some (icell C A.dx (hflds A))
  r : W A.r = some (.lst (eS seen))
  m : W A.m = some (.lst (eS (rows.map Row.n)))
  h : W A.h = some (.lst (eH seen rows))
  rm : A.r ≠ A.m
  mh : A.m ≠ A.h
  rh : A.r ≠ A.h
theorem ne_cell {W : Wk} {a b : Addr} {C dx : Addr} {fs : List (Str × V)} {es : List E} (h1 : W a = some (icell C dx fs)) (h2 : W b = some (.lst es)) : a ≠ b := fun e => by
  subst e
  rw [h1] at h2
  cases h2
theorem fl_put (A : HAd) : putF "held" (V.ref A.h) (putF "names" (V.ref A.m) (putF "room_names" (V.ref A.r) [])) = hflds A := by
  have k1 : ¬ (("room_names" : Str) = "names") := by decide +kernel
  have k2 : ¬ (("room_names" : Str) = "held") := by decide +kernel
  have k3 : ¬ (("names" : Str) = "held") := by decide +kernel
  unfold putF putF putF putF
  simp only [if_neg k1, if_neg k2, if_neg k3]
  rfl
theorem putF_len2 (a b : Addr) : (putF "names" (V.ref a) (putF "room_names" (V.ref b) [])).length = 2 := by
  have k1 : ¬ (("room_names" : Str) = "names") := by decide +kernel
  unfold putF putF putF
  simp only [if_neg k1]
  rfl
/-- what is no list of A's stays -/
def OffH (A : HAd) (W W' : Wk) : Prop := ∀ p, p ≠ A.r → p ≠ A.m → p ≠ A.h → W' p = W p
section
variable {P : Program} {w : World} {K : PySem.W.Frag} {mg : Str → Option Value} {base : Heap}
def tLook : Tr := fun ds P' => ∃ z, ds = [.str z] ∧ NameOk z ∧ P' (.val .none)
theorem c_look_at_name {f C : Addr} {fd : FuncData} (F : Fun K "look_at_name" "look_at_name" s_look_at_name f fd) (hm : mg "look_at_name" = some (.ref f)) (hb : Binds K fd ["name"] []) (B : Blt mg) (T : HTxt K mg C) : Callee P w K mg base 1 "look_at_name" [false] tLook := by
  refine callee_of F sc_look_at_name hm hb (fun ds P' h => by obtain ⟨z, rfl, _⟩ := h; rfl) fun X H0 S0 ds P' hX h => ?_
  obtain ⟨z, rfl, ok, h⟩ := h
  have hz : z.length ≤ sizeLine := by have := ok.2.1; have := sizeLine_eq; omega
  refine ds_if2 (t := false) (dt_w (dw_or (x := false) (y := false) ((dt_c (de_v 0 hX) de_str .eqs).cast (decide_eq_false ok.ne)) fun _ => dw_t ((dt_c (de_lens hX B.len (de_v 0 hX) hz) (de_cint hX T.cN) .gt).cast (decide_eq_false (by have := ok.2.1; omega))))) (fun c => by cases c) (fun _ => ds_nil ?_)
  refine ds_fold hX (E := fun (_ : Unit) => [.val (.str z), .junk]) (step := fun _ _ => ()) (J := fun _ _ => True) (s0 := ()) (enc := chD) (xs := z.cps.toList)
    (hit := di_str (de_v 0 hX)) (h0 := rfl) (j0 := trivial) (hs := ?_) (hj := fun _ _ _ _ _ => trivial) (he := fun _ => ds_nil h)
  intro _ c r hc _
  refine ⟨_, _, dg_nameN 1 hX, ?_⟩
  exact ds_if2 (t := false) ((dt_ninC (c := c) (de_v 1 hX) (de_cstr hX T.cL)).cast (by rw [decide_eq_true (ok.2.2 c hc)]; rfl)) (fun c => by cases c) (fun _ => ds_nil (ds_end [1] rfl))
/-! ### __init__ -/
def tInit (C : Addr) : TrM := fun as W M => ∃ (x dx : Addr) (s g : Str), as = [.x (.ref x), .d (.str s), .d (.str g)] ∧ W x = some (icell C dx []) ∧ W dx ≠ none ∧ NameOk s ∧ NameOk g ∧ s ≠ g ∧
  ∀ A W', A.x = x → A.dx = dx → W A.r = none → W A.m = none → W A.h = none → (∀ p, p ≠ x → p ≠ A.r → p ≠ A.m → p ≠ A.h → W' p = W p) → HallAt C W' A [s, g] [] → M (.d .none) W'
theorem c_NamedHall_init {f C : Addr} {fd : FuncData} (F : Fun K "__init__" "NamedHall.__init__" s_NamedHall_init f fd) (hm : Mk K C f) (hy : mg "NamedHall" = some (.ref C)) (hb : Binds K fd ["self", "start", "goal"] []) (B : Blt mg) (T : HTxt K mg C) (Cl : Callee P w K mg base 1 "look_at_name" [false] tLook) : MakeM P w K mg base 2 "NamedHall" C (tInit C) := by
  refine makeM_of 3 F sw_NamedHall_init hm hy hb (fun as W P' h => by obtain ⟨x, dx, s, g, rfl, _⟩ := h; rfl) fun X H0 S0 as W M hX h => ?_
  obtain ⟨x, dx, s, g, rfl, hx, hdx, os, og, hne, h⟩ := h
  show DS X H0 S0 _ [.itm (.ref x), .val (.str s), .val (.str g), .wrk true W] _
  refine ds_expr (he := de_call hX Cl (ha := db_v (de_v 1 hX) db_nil) (ht := ⟨_, rfl, os, rfl⟩)) (h := ?_)
  refine ds_expr (he := de_call hX Cl (ha := db_v (de_v 2 hX) db_nil) (ht := ⟨_, rfl, og, rfl⟩)) (h := ?_)
  refine ds_if2 (t := false) ((dt_c (de_v 1 hX) (de_v 2 hX) .eqs).cast (decide_eq_false hne)) (fun c => by cases c) (fun _ => ds_nil ?_)
  refine ds_setfld 3 hX (he := dox_lst (dxs_cons (dx_d (de_v 1 hX) (.str _)) (dxs_cons (dx_d (de_v 2 hX) (.str _)) dxs_nil))) (ho := dx_v 0 hX) (hp := hx) T.cl T.nR (by show 0 < 1000; decide) fun r hr hrx => ?_
  dsimp only [List.set]
  refine ds_setfld 3 hX (hW := rfl) (he := dox_lst dxs_nil) (ho := dx_v 0 hX) (hp := updW_same) (c := T.cl) (n := T.nM) (hl := by show 1 < 1000; decide) (h := fun m hm hmx => ?_)
  dsimp only [List.set]
  refine ds_setfld 3 hX (hW := rfl) (he := dox_lst dxs_nil) (ho := dx_v 0 hX) (hp := updW_same) (c := T.cl) (n := T.nH) (hl := by rw [putF_len2]; decide) (h := fun h' hh hhx => ds_nil ?_)
  dsimp only [List.set]
  rw [updW_ne hmx] at hm
  rw [updW_ne hhx] at hh
  have mr : m ≠ r := fun e => by subst e; rw [updW_same] at hm; cases hm
  have hm0 : h' ≠ m := fun e => by subst e; rw [updW_same] at hh; cases hh
  rw [updW_ne mr] at hm
  rw [updW_ne hm0, updW_ne hhx] at hh
  have hr0 : h' ≠ r := fun e => by subst e; rw [updW_same] at hh; cases hh
  rw [updW_ne hr0] at hh
  refine ⟨_, rfl, h ⟨x, dx, r, m, h'⟩ _ rfl rfl hr hm hh (fun p p1 p2 p3 p4 => ?_) ⟨?_, ?_, ?_, ?_, Ne.symm mr, Ne.symm hm0, Ne.symm hr0⟩⟩
  · simp only at p2 p3 p4
    rw [updW_ne p1, updW_ne p4, updW_ne p1, updW_ne p3, updW_ne p1, updW_ne p2]
  · show updW _ x _ x = _
    rw [updW_same]
    rw [← fl_put ⟨x, dx, r, m, h'⟩]
  · show updW _ x _ r = _
    rw [updW_ne hrx, updW_ne (Ne.symm hr0), updW_ne hrx, updW_ne (Ne.symm mr), updW_ne hrx, updW_same]
    rfl
  · show updW _ x _ m = _
    rw [updW_ne hmx, updW_ne (Ne.symm hm0), updW_ne hmx, updW_same]
    rfl
  · show updW _ x _ h' = _
    rw [updW_ne hhx, updW_same]
    rfl
/-! ### what is read -/
def tPlace (C : Addr) : TrR := fun as W P' => ∃ (A : HAd) (seen : List Str) (rows : List Row) (n : Str), as = [.x (.ref A.x), .d (.str n)] ∧ HallAt C W A seen rows ∧ n ∈ rows.map Row.n ∧ P' (.val (.int ((rows.map Row.n).idxOf n : Nat)))
theorem c_NamedHall_place_of {f C : Addr} {fd : FuncData} (F : Fun K "place_of" "NamedHall.place_of" s_NamedHall_place_of f fd) (hm : Meth K C "place_of" f) (hb : Binds K fd ["self", "name"] []) (B : Blt mg) (T : HTxt K mg C) : MethR P w K mg base 1 C "place_of" (tPlace C) := by
  refine methR_of 2 F sw_NamedHall_place_of hm hb (fun as W P' h => by obtain ⟨A, seen, rows, n, rfl, _⟩ := h; rfl) fun X H0 S0 as W P' hX h => ?_
  obtain ⟨A, seen, rows, n, rfl, ha, hn, h⟩ := h
  show DS X H0 S0 _ [.itm (.ref A.x), .val (.str n), .wrk false W] _
  have dm : ∀ {pos : Pos} {p1 : Pos}, DLs X H0 S0 (.Attribute (.Name "self" p1) "names" pos) [.itm (.ref A.x), .val (.str n), .wrk false W] ((rows.map Row.n).map PyData.str) := fun {pos p1} => dls_x 2 (dx_fld 2 hX (dx_v 0 hX) ha.x T.cl T.nM (fl_m A)) ha.m
  refine ds_if2 (t := false) ((dt_ninS (de_v 1 hX) dm).cast (by rw [List.contains_iff_mem.mpr hn]; rfl)) (fun c => by cases c) (fun _ => ds_nil ?_)
  exact ds_ret (de_indexS dm (de_v 1 hX) hn) h
def tRooms (C : Addr) : TrR := fun as W P' => ∃ (A : HAd) (seen : List Str) (rows : List Row), as = [.x (.ref A.x)] ∧ HallAt C W A seen rows ∧ P' (.own (seen.map PyData.str))
theorem c_NamedHall_rooms {f C : Addr} {fd : FuncData} (F : Fun K "rooms" "NamedHall.rooms" s_NamedHall_rooms f fd) (hm : Meth K C "rooms" f) (hb : Binds K fd ["self"] []) (B : Blt mg) (T : HTxt K mg C) : MethR P w K mg base 1 C "rooms" (tRooms C) := by
  refine methR_of 1 F sw_NamedHall_rooms hm hb (fun as W P' h => by obtain ⟨A, seen, rows, rfl, _⟩ := h; rfl) fun X H0 S0 as W P' hX h => ?_
  obtain ⟨A, seen, rows, rfl, ha, h⟩ := h
  show DS X H0 S0 _ [.itm (.ref A.x), .wrk false W] _
  exact ds_reto (do_listL hX B.list (dls_x 1 (dx_fld 1 hX (dx_v 0 hX) ha.x T.cl T.nR (fl_r A)) ha.r)) h
def tPsgs (C : Addr) : TrR := fun as W P' => ∃ (A : HAd) (seen : List Str) (rows : List Row), as = [.x (.ref A.x)] ∧ HallAt C W A seen rows ∧ (∀ r ∈ rows, r.a ∈ seen ∧ r.b ∈ seen) ∧ rows.length ≤ 1000 ∧ P' (.own (rows.map fun r => PyData.tuple (rowDs r)))
theorem at_seen {seen : List Str} {z : Str} (h : z ∈ seen) : atI (seen.map PyData.str) ((seen.idxOf z : Nat) : Int) = some (.str z) := by
  have il := List.idxOf_lt_length_iff.mpr h
  exact at_enc PyData.str (by omega) (by rw [Int.toNat_natCast, List.getElem?_eq_getElem il, List.getElem_idxOf])
theorem c_NamedHall_passages {f C : Addr} {fd : FuncData} (F : Fun K "passages" "NamedHall.passages" s_NamedHall_passages f fd) (hm : Meth K C "passages" f) (hb : Binds K fd ["self"] []) (B : Blt mg) (T : HTxt K mg C) : MethR P w K mg base 1 C "passages" (tPsgs C) := by
  refine methR_of 4 F sw_NamedHall_passages hm hb (fun as W P' h => by obtain ⟨A, seen, rows, rfl, _⟩ := h; rfl) fun X H0 S0 as W P' hX h => ?_
  obtain ⟨A, seen, rows, rfl, ha, hin, hl, h⟩ := h
  show DS X H0 S0 _ [.itm (.ref A.x), .junk, .junk, .junk, .wrk false W] _
  refine ds_setoN 1 hX (he := do_lst da_nil) (h := ?_)
  refine ds_forZW 4 hX B.zip (fun i Gi => ∃ y2 y3, Gi = [.itm (.ref A.x), .own ((rows.take i).map fun r => PyData.tuple (rowDs r)), y2, y3, .wrk false W]) (dx_fld 4 hX (dx_v 0 hX) ha.x T.cl T.nM (fl_m A)) (dx_fld 4 hX (dx_v 0 hX) ha.x T.cl T.nH (fl_h A)) (xs := (rows.map Row.n).map PyData.str) (ys := (rows.map (psgOf seen)).map encP) (by simp only [List.length_map])
    (fun i Gi hI => by obtain ⟨_, _, rfl⟩ := hI; exact ⟨false, W, rfl, ha.m, ha.h⟩) ⟨_, _, rfl⟩ ?_ ?_
  · rintro i x y Gi hx hy ⟨y2, y3, rfl⟩
    rw [List.getElem?_map, List.getElem?_map] at hx hy
    obtain ⟨r, hr⟩ : ∃ r, rows[i]? = some r := by
      cases z : rows[i]? with
      | none => rw [z] at hx; cases hx
      | some r => exact ⟨r, rfl⟩
    rw [hr] at hx hy
    cases hx
    cases hy
    obtain ⟨ra, rb⟩ := hin r (List.mem_of_getElem? hr)
    have et : rows.take (i + 1) = rows.take i ++ [r] := by rw [List.take_succ, hr]; rfl
    have dr : ∀ {pos : Pos} {p1 : Pos}, DLs X H0 S0 (.Attribute (.Name "self" p1) "room_names" pos) [.itm (.ref A.x), .own ((rows.take i).map fun r => PyData.tuple (rowDs r)), .val (.str r.n), .val (encP (psgOf seen r)), .wrk false W] (seen.map PyData.str) := fun {pos p1} => dls_x 4 (dx_fld 4 hX (dx_v 0 hX) ha.x T.cl T.nR (fl_r A)) ha.r
    have tl : (rows.take i).length ≤ 1000 := Nat.le_trans (by rw [List.length_take]; exact Nat.min_le_right _ _) hl
    refine ⟨_, _, dg_tup hX (dgs_cons (dg_nameN 2 hX) (dgs_cons (dg_nameN 3 hX) dgs_nil)), ?_⟩
    refine ds_appendEN 1 hX (fun r => PyData.tuple (rowDs r)) r (he := de_tup (da_cons (de_v 2 hX) (da_cons (de_ix dr (de_ixt (de_v 3 hX) de_int rfl) (at_seen ra)) (da_cons (de_ix dr (de_ixt (de_v 3 hX) de_int rfl) (at_seen rb)) (da_cons (de_ixt (de_v 3 hX) de_int rfl) (da_cons (de_ixt (de_v 3 hX) de_int rfl) da_nil)))))) (hz := by omega) (h := ds_nil ?_)
    exact ⟨_, _, by rw [et]⟩
  · rintro Gn ⟨y2, y3, rfl⟩
    rw [List.length_map, List.length_map, List.take_length]
    exact ds_retv 1 hX (h := h)
/-! ### what changes a hall -/
theorem len_eS (zs : List Str) : (eS zs).length = zs.length := by simp only [List.length_map]
theorem len_eH (seen : List Str) (rows : List Row) : (eH seen rows).length = rows.length := by simp only [List.length_map]
theorem set_eH {seen : List Str} {rows : List Row} {j : Nat} {r : Row} : (eH seen rows).set j (.d (encP (psgOf seen r))) = eH seen (rows.set j r) := by
  rw [← List.map_set, ← List.map_set, ← List.map_set]
theorem at_eH {seen : List Str} {rows : List Row} {j : Nat} {r : Row} (h : rows[j]? = some r) : atI (eH seen rows) (j : Int) = some (.d (encP (psgOf seen r))) := by
  have := atI_nat (xs := eH seen rows) (j := j) (v := .d (encP (psgOf seen r))) (by rw [List.getElem?_map, List.getElem?_map, List.getElem?_map, h]; rfl)
  exact this
theorem name_in {rows : List Row} {j : Nat} {r : Row} (h : rows[j]? = some r) : r.n ∈ rows.map Row.n := List.mem_map_of_mem (List.mem_of_getElem? h)
theorem set_names {rows : List Row} {j : Nat} {r : Row} {v : Int} (h : rows[j]? = some r) : (rows.set j { r with w := v }).map Row.n = rows.map Row.n := by
  rw [List.map_set]
  have : (rows.map Row.n)[j]? = some r.n := by rw [List.getElem?_map, h]; rfl
  exact set_at this
def tDeed (C : Addr) (f : Deed → Option (List DL.Arg)) : TrM := fun as W M => ∃ (A : HAd) (seen seen' : List Str) (rows rows' : List Row) (d : Deed) (l : List DL.Arg), f d = some l ∧ as = .x (.ref A.x) :: l ∧ HallAt C W A seen rows ∧ Ok seen rows ∧ Does seen rows d seen' rows' ∧
  ∀ W', OffH A W W' → HallAt C W' A seen' rows' → M (.d .none) W'
def aShut : Deed → Option (List DL.Arg)
  | .shut n => some [.d (.str n)]
  | _ => none
def aWiden : Deed → Option (List DL.Arg)
  | .widen n m => some [.d (.str n), .d (.int m)]
  | _ => none
def aNarrow : Deed → Option (List DL.Arg)
  | .narrow n m => some [.d (.str n), .d (.int m)]
  | _ => none
def aLay : Deed → Option (List DL.Arg)
  | .lay r => some [.d (.str r.n), .d (.str r.a), .d (.str r.b), .d (.int r.w), .d (.int r.l)]
  | _ => none
theorem c_NamedHall_shut {f C : Addr} {fd : FuncData} (F : Fun K "shut" "NamedHall.shut" s_NamedHall_shut f fd) (hm : Meth K C "shut" f) (hb : Binds K fd ["self", "name"] []) (B : Blt mg) (T : HTxt K mg C) (Cp : MethR P w K mg base 1 C "place_of" (tPlace C)) : MethM P w K mg base 2 C "shut" (tDeed C aShut) := by
  refine methM_of 3 F sw_NamedHall_shut hm hb (fun as W P' h => by
    obtain ⟨A, _, _, _, _, d, l, hf, rfl, _⟩ := h
    cases d <;> cases hf
    rfl) fun X H0 S0 as W M hX h => ?_
  obtain ⟨A, seen, seen', rows, rows', d, l, hf, rfl, ha, ok, hd, h⟩ := h
  cases hd with
  | lay => cases hf
  | widen => cases hf
  | narrow => cases hf
  | @shut r j hj =>
    cases hf
    show DS X H0 S0 _ [.itm (.ref A.x), .val (.str r.n), .junk, .wrk true W] _
    obtain ⟨jl, je⟩ := List.getElem?_eq_some_iff.mp hj
    have r60 := ok.r60
    refine ds_setN 2 hX (d := .int (j : Int)) (he := de_r (dr_meth 3 hX Cp T.cl (dx_v 0 hX) ha.x (fl_no A) (dam_d (de_v 1 hX) dam_nil) ⟨A, seen, rows, r.n, rfl, ha, name_in hj, by rw [idx_at ok.rn hj]; rfl⟩)) (h := ?_)
    refine ds_popAtW 3 hX (dx_fld 3 hX (dx_v 0 hX) ha.x T.cl T.nM (fl_m A)) ha.m (de_v 2 hX) (j := j) (by rw [len_eS, List.length_map]; have := ixN_nat (n := rows.length) (i := (j : Int)) (by omega) (by omega); rw [this, Int.toNat_natCast]) (by rw [len_eS, List.length_map]; omega) ?_
    have xm := ne_cell ha.x ha.m
    have xh := ne_cell ha.x ha.h
    have x1 : updW W A.m (.lst ((eS (rows.map Row.n)).eraseIdx j)) A.x = some (icell C A.dx (hflds A)) := by rw [updW_ne xm]; exact ha.x
    have h1 : updW W A.m (.lst ((eS (rows.map Row.n)).eraseIdx j)) A.h = some (.lst (eH seen rows)) := by rw [updW_ne (Ne.symm ha.mh)]; exact ha.h
    refine ds_popAtW 3 hX (dx_fld 3 hX (dx_v 0 hX) x1 T.cl T.nH (fl_h A)) h1 (de_v 2 hX) (j := j) (by rw [len_eH]; have := ixN_nat (n := rows.length) (i := (j : Int)) (by omega) (by omega); rw [this, Int.toNat_natCast]) (by rw [len_eH]; omega) (ds_nil ?_)
    refine ⟨_, rfl, h _ (fun p p1 p2 p3 => by rw [updW_ne p3, updW_ne p2]) ⟨?_, ?_, ?_, ?_, ha.rm, ha.mh, ha.rh⟩⟩
    · rw [updW_ne xh, updW_ne xm]; exact ha.x
    · rw [updW_ne ha.rh, updW_ne ha.rm]; exact ha.r
    · rw [updW_ne ha.mh, updW_same]
      simp only [era_map]
    · rw [updW_same]
      simp only [era_map]
theorem c_NamedHall_widen {f C : Addr} {fd : FuncData} (F : Fun K "widen" "NamedHall.widen" s_NamedHall_widen f fd) (hm : Meth K C "widen" f) (hb : Binds K fd ["self", "name", "more"] []) (B : Blt mg) (T : HTxt K mg C) (Cp : MethR P w K mg base 1 C "place_of" (tPlace C)) : MethM P w K mg base 2 C "widen" (tDeed C aWiden) := by
  refine methM_of 8 F sw_NamedHall_widen hm hb (fun as W P' h => by
    obtain ⟨A, _, _, _, _, d, l, hf, rfl, _⟩ := h
    cases d <;> cases hf
    rfl) fun X H0 S0 as W M hX h => ?_
  obtain ⟨A, seen, seen', rows, rows', d, l, hf, rfl, ha, ok, hd, h⟩ := h
  cases hd with
  | lay => cases hf
  | shut => cases hf
  | narrow => cases hf
  | @widen r j mo hj h1 =>
    cases hf
    show DS X H0 S0 _ [.itm (.ref A.x), .val (.str r.n), .val (.int mo), .junk, .junk, .junk, .junk, .junk, .wrk true W] _
    obtain ⟨jl, je⟩ := List.getElem?_eq_some_iff.mp hj
    have xh := ne_cell ha.x ha.h
    refine ds_setN 3 hX (d := .int (j : Int)) (he := de_r (dr_meth 8 hX Cp T.cl (dx_v 0 hX) ha.x (fl_no A) (dam_d (de_v 1 hX) dam_nil) ⟨A, seen, rows, r.n, rfl, ha, name_in hj, by rw [idx_at ok.rn hj]; rfl⟩)) (h := ?_)
    refine ds_if2 (t := false) ((dt_c (de_v 2 hX) de_int .lt).cast (decide_eq_false (by omega))) (fun c => by cases c) (fun _ => ds_nil ?_)
    refine ds_unpack hX (he := de_x (d := encP (psgOf seen r)) (dx_ix 8 (dx_fld 8 hX (dx_v 0 hX) ha.x T.cl T.nH (fl_h A)) ha.h (de_v 3 hX) (at_eH hj))) (hg := dg_tup hX (dgs_cons (dg_nameN 4 hX) (dgs_cons (dg_nameN 5 hX) (dgs_cons (dg_nameN 6 hX) (dgs_cons (dg_nameN 7 hX) dgs_nil))))) (h := ?_)
    refine ds_setixW 8 hX (he := dx_d (de_tup (da_cons (de_v 4 hX) (da_cons (de_v 5 hX) (da_cons (de_add (de_v 6 hX) (de_v 2 hX)) (da_cons (de_v 7 hX) da_nil))))) (flat_P (psgOf seen { r with w := r.w + mo }))) (ho := dx_fld 8 hX (dx_v 0 hX) ha.x T.cl T.nH (fl_h A)) (hp := ha.h) (hb := de_v 3 hX) (j := j) (by rw [len_eH]; have := ixN_nat (n := rows.length) (i := (j : Int)) (by omega) (by omega); rw [this, Int.toNat_natCast]) (ds_nil ?_)
    refine ⟨_, rfl, h _ (fun p p1 p2 p3 => by rw [updW_ne p3]) ⟨?_, ?_, ?_, ?_, ha.rm, ha.mh, ha.rh⟩⟩
    · rw [updW_ne xh]; exact ha.x
    · rw [updW_ne ha.rh]; exact ha.r
    · rw [updW_ne ha.mh, set_names hj]; exact ha.m
    · rw [updW_same]
      exact congrArg (fun z => some (Cell.lst z)) (set_eH (r := { r with w := r.w + mo }))
theorem c_NamedHall_narrow {f C : Addr} {fd : FuncData} (F : Fun K "narrow" "NamedHall.narrow" s_NamedHall_narrow f fd) (hm : Meth K C "narrow" f) (hb : Binds K fd ["self", "name", "less"] []) (B : Blt mg) (T : HTxt K mg C) (Cp : MethR P w K mg base 1 C "place_of" (tPlace C)) : MethM P w K mg base 2 C "narrow" (tDeed C aNarrow) := by
  refine methM_of 8 F sw_NamedHall_narrow hm hb (fun as W P' h => by
    obtain ⟨A, _, _, _, _, d, l, hf, rfl, _⟩ := h
    cases d <;> cases hf
    rfl) fun X H0 S0 as W M hX h => ?_
  obtain ⟨A, seen, seen', rows, rows', d, l, hf, rfl, ha, ok, hd, h⟩ := h
  cases hd with
  | lay => cases hf
  | shut => cases hf
  | widen => cases hf
  | @narrow r j le hj h1 h2 =>
    cases hf
    show DS X H0 S0 _ [.itm (.ref A.x), .val (.str r.n), .val (.int le), .junk, .junk, .junk, .junk, .junk, .wrk true W] _
    obtain ⟨jl, je⟩ := List.getElem?_eq_some_iff.mp hj
    have xh := ne_cell ha.x ha.h
    refine ds_setN 3 hX (d := .int (j : Int)) (he := de_r (dr_meth 8 hX Cp T.cl (dx_v 0 hX) ha.x (fl_no A) (dam_d (de_v 1 hX) dam_nil) ⟨A, seen, rows, r.n, rfl, ha, name_in hj, by rw [idx_at ok.rn hj]; rfl⟩)) (h := ?_)
    refine ds_unpack hX (he := de_x (d := encP (psgOf seen r)) (dx_ix 8 (dx_fld 8 hX (dx_v 0 hX) ha.x T.cl T.nH (fl_h A)) ha.h (de_v 3 hX) (at_eH hj))) (hg := dg_tup hX (dgs_cons (dg_nameN 4 hX) (dgs_cons (dg_nameN 5 hX) (dgs_cons (dg_nameN 6 hX) (dgs_cons (dg_nameN 7 hX) dgs_nil))))) (h := ?_)
    refine ds_if2 (t := false) (dt_w (dw_or (x := false) (y := false) ((dt_c (de_v 2 hX) de_int .lt).cast (decide_eq_false (by omega))) fun _ => dw_t ((dt_c (de_v 2 hX) (de_v 6 hX) .ge).cast (decide_eq_false (by show ¬ r.w ≤ le; omega))))) (fun c => by cases c) (fun _ => ds_nil ?_)
    refine ds_setixW 8 hX (he := dx_d (de_tup (da_cons (de_v 4 hX) (da_cons (de_v 5 hX) (da_cons (de_sub (de_v 6 hX) (de_v 2 hX)) (da_cons (de_v 7 hX) da_nil))))) (flat_P (psgOf seen { r with w := r.w - le }))) (ho := dx_fld 8 hX (dx_v 0 hX) ha.x T.cl T.nH (fl_h A)) (hp := ha.h) (hb := de_v 3 hX) (j := j) (by rw [len_eH]; have := ixN_nat (n := rows.length) (i := (j : Int)) (by omega) (by omega); rw [this, Int.toNat_natCast]) (ds_nil ?_)
    refine ⟨_, rfl, h _ (fun p p1 p2 p3 => by rw [updW_ne p3]) ⟨?_, ?_, ?_, ?_, ha.rm, ha.mh, ha.rh⟩⟩
    · rw [updW_ne xh]; exact ha.x
    · rw [updW_ne ha.rh]; exact ha.r
    · rw [updW_ne ha.mh, set_names hj]; exact ha.m
    · rw [updW_same]
      exact congrArg (fun z => some (Cell.lst z)) (set_eH (r := { r with w := r.w - le }))
theorem c_NamedHall_lay {f C : Addr} {fd : FuncData} (F : Fun K "lay" "NamedHall.lay" s_NamedHall_lay f fd) (hm : Meth K C "lay" f) (hb : Binds K fd ["self", "name", "a", "b", "width", "length"] []) (B : Blt mg) (T : HTxt K mg C) (Cl : Callee P w K mg base 1 "look_at_name" [false] tLook) : MethM P w K mg base 2 C "lay" (tDeed C aLay) := by
  refine methM_of 8 F sw_NamedHall_lay hm hb (fun as W P' h => by
    obtain ⟨A, _, _, _, _, d, l, hf, rfl, _⟩ := h
    cases d <;> cases hf
    rfl) fun X H0 S0 as W M hX h => ?_
  obtain ⟨A, seen, seen', rows, rows', d, l, hf, rfl, ha, ok, hd, h⟩ := h
  have hd' := hd
  cases hd with
  | shut => cases hf
  | widen => cases hf
  | narrow => cases hf
  | @lay r h1 h2 h3 h4 h5 h6 h7 h8 h9 =>
    cases hf
    have ok' := hd'.ok ok
    obtain ⟨ra, rb, _⟩ := ok'.mem r (List.mem_append_right _ (List.mem_singleton.mpr rfl))
    have es := seen_fresh (s := seen) h2
    have epq : rows.map (psgOf (seenAdd (seenAdd seen r.a) r.b)) = rows.map (psgOf seen) := by
      rw [psg_seen fun q hq => ⟨seen_sub (ok.mem q hq).1, seen_sub (ok.mem q hq).2.1⟩, psg_seen fun q hq => ⟨(ok.mem q hq).1, (ok.mem q hq).2.1⟩]
    have s40 := ok.s40
    generalize seenAdd (seenAdd seen r.a) r.b = sn at *
    show DS X H0 S0 _ [.itm (.ref A.x), .val (.str r.n), .val (.str r.a), .val (.str r.b), .val (.int r.w), .val (.int r.l), .junk, .junk, .wrk true W] _
    refine ds_fold hX (E := fun (_ : Unit) => [.itm (.ref A.x), .val (.str r.n), .val (.str r.a), .val (.str r.b), .val (.int r.w), .val (.int r.l), .junk, .junk, .wrk true W]) (step := fun _ _ => ()) (J := fun _ _ => True) (s0 := ()) (enc := PyData.str) (xs := [r.n, r.a, r.b])
      (hit := di_list (de_own (do_lst (da_cons (de_v 1 hX) (da_cons (de_v 2 hX) (da_cons (de_v 3 hX) da_nil)))))) (h0 := rfl) (j0 := trivial) (hs := ?_) (hj := fun _ _ _ _ _ => trivial) (he := fun _ => ?_)
    · intro _ z t hz _
      have oz : NameOk z := by
        simp only [List.mem_cons, List.not_mem_nil, or_false] at hz
        rcases hz with rfl | rfl | rfl <;> assumption
      refine ⟨_, _, dg_nameN 6 hX, ?_⟩
      exact ds_expr (he := de_call hX Cl (ha := db_v (de_v 6 hX) db_nil) (ht := ⟨_, rfl, oz, rfl⟩)) (h := ds_end [6] rfl)
    refine ds_if2 (t := false) ((dt_inS (de_v 1 hX) (dls_x 8 (dx_fld 8 hX (dx_v 0 hX) ha.x T.cl T.nM (fl_m A)) ha.m)).cast (by rw [Bool.eq_false_iff]; exact fun z => h1 (List.contains_iff_mem.mp z))) (fun c => by cases c) (fun _ => ds_nil ?_)
    refine ds_if2 (t := false) (dt_w (dw_or (x := false) (y := false) ((dt_c (de_v 2 hX) (de_v 3 hX) .eqs).cast (decide_eq_false h2)) fun _ => dw_or (x := false) (y := false) ((dt_c (de_v 4 hX) de_int .lt).cast (decide_eq_false (by omega))) fun _ => dw_t ((dt_c (de_v 5 hX) de_int .lt).cast (decide_eq_false (by omega))))) (fun c => by cases c) (fun _ => ds_nil ?_)
    refine ds_setFN 7 hX [("word", 6)] (enc := PyData.str) (xs := [r.a, r.b]) PyData.str (fun z => !seen.contains z) (fun z => z) (hit := di_list (de_own (do_lst (da_cons (de_v 2 hX) (da_cons (de_v 3 hX) da_nil))))) (hsz := by show 2 ≤ 16777216; decide) (turn := fun z hz => ?_) (h := ?_)
    · exact ⟨_, _, fun X' hX' => dg_loc 6 hX', by decide, fun X' hX' => dt_ninS (de_v 6 hX') (dls_x 8 (dx_fld 8 hX' (dx_v 0 hX') ha.x T.cl T.nR (fl_r A)) ha.r), fun _ X' hX' => de_v 6 hX'⟩
    have lf : (([r.a, r.b].filter fun z => !seen.contains z).map fun z => z).length ≤ 2 := by
      rw [List.length_map]
      exact List.length_filter_le _ _
    rw [List.map_id'] at lf ⊢
    have e1 : eS seen ++ (([r.a, r.b].filter fun z => !seen.contains z).map PyData.str).map E.d = eS sn := by rw [← List.map_append, ← List.map_append, ← es]
    have el : seen.length + ([r.a, r.b].filter fun z => !seen.contains z).length = sn.length := by rw [es, List.length_append]
    generalize ([r.a, r.b].filter fun z => !seen.contains z) = fr at *
    refine ds_if2 (t := false) (dt_w (dw_or (x := false) (y := false) ((dt_c ((de_len hX B.len (ha := dls_x 8 (dx_fld 8 hX (dx_v 0 hX) ha.x T.cl T.nM (fl_m A)) ha.m)).cast (y := .int (rows.length : Int)) (by rw [List.length_map, List.length_map])) (de_cint hX T.cP) .ge).cast (decide_eq_false (by omega))) fun _ => dw_t ((dt_c (de_add ((de_len hX B.len (ha := dls_x 8 (dx_fld 8 hX (dx_v 0 hX) ha.x T.cl T.nR (fl_r A)) ha.r)).cast (y := .int (seen.length : Int)) (by rw [List.length_map])) ((de_len hX B.len (ha := dls_o 7 hX)).cast (y := .int (fr.length : Int)) (by rw [List.length_map]))) (de_cint hX T.cR) .gt).cast (decide_eq_false (by omega))))) (fun c => by cases c) (fun _ => ds_nil ?_)
    have xr := ne_cell ha.x ha.r
    have xm := ne_cell ha.x ha.m
    have xh := ne_cell ha.x ha.h
    refine ds_extendW 7 8 hX (dx_fld 8 hX (dx_v 0 hX) ha.x T.cl T.nR (fl_r A)) ha.r (Flats.strs fr) (by rw [len_eS, List.length_map]; omega) ?_
    rw [e1]
    have x1 : updW W A.r (.lst (eS sn)) A.x = some (icell C A.dx (hflds A)) := by rw [updW_ne xr]; exact ha.x
    have m1 : updW W A.r (.lst (eS sn)) A.m = some (.lst (eS (rows.map Row.n))) := by rw [updW_ne (Ne.symm ha.rm)]; exact ha.m
    refine ds_appendW 8 hX (dx_fld 8 hX (dx_v 0 hX) x1 T.cl T.nM (fl_m A)) m1 (dx_d (de_v 1 hX) (.str _)) (by rw [len_eS, List.length_map]; omega) ?_
    have x2 : updW (updW W A.r (.lst (eS sn))) A.m (.lst (eS (rows.map Row.n) ++ [.d (.str r.n)])) A.x = some (icell C A.dx (hflds A)) := by rw [updW_ne xm, updW_ne xr]; exact ha.x
    have h2' : updW (updW W A.r (.lst (eS sn))) A.m (.lst (eS (rows.map Row.n) ++ [.d (.str r.n)])) A.h = some (.lst (eH seen rows)) := by rw [updW_ne (Ne.symm ha.mh), updW_ne (Ne.symm ha.rh)]; exact ha.h
    have r2 : updW (updW W A.r (.lst (eS sn))) A.m (.lst (eS (rows.map Row.n) ++ [.d (.str r.n)])) A.r = some (.lst (eS sn)) := by rw [updW_ne ha.rm, updW_same]
    generalize hw2 : updW (updW W A.r (.lst (eS sn))) A.m (.lst (eS (rows.map Row.n) ++ [.d (.str r.n)])) = W2 at *
    have dr : ∀ {pos : Pos} {p1 : Pos}, DLs X H0 S0 (.Attribute (.Name "self" p1) "room_names" pos) [.itm (.ref A.x), .val (.str r.n), .val (.str r.a), .val (.str r.b), .val (.int r.w), .val (.int r.l), .junk, .own (fr.map PyData.str), .wrk true W2] (sn.map PyData.str) := fun {pos p1} =>
      dls_x 8 (dx_fld 8 hX (dx_v 0 hX) x2 T.cl T.nR (fl_r A)) r2
    refine ds_appendW 8 hX (dx_fld 8 hX (dx_v 0 hX) x2 T.cl T.nH (fl_h A)) h2' (dx_d (de_tup (da_cons (de_indexS dr (de_v 2 hX) ra) (da_cons (de_indexS dr (de_v 3 hX) rb) (da_cons (de_v 4 hX) (da_cons (de_v 5 hX) da_nil))))) (flat_P (psgOf sn r))) (by rw [len_eH]; omega) (ds_nil ?_)
    subst hw2
    refine ⟨_, rfl, h _ (fun p p1 p2 p3 => by rw [updW_ne p3, updW_ne p2, updW_ne p1]) ⟨?_, ?_, ?_, ?_, ha.rm, ha.mh, ha.rh⟩⟩
    · rw [updW_ne xh, updW_ne xm, updW_ne xr]; exact ha.x
    · rw [updW_ne ha.rh, updW_ne ha.rm, updW_same]
    · rw [updW_ne ha.mh, updW_same, List.map_append]
      show _ = some (Cell.lst (((rows.map Row.n ++ [r].map Row.n).map PyData.str).map E.d))
      rw [List.map_append, List.map_append]
      rfl
    · rw [updW_same]
      show _ = some (Cell.lst (((((rows ++ [r]).map (psgOf sn)).map encP).map E.d)))
      rw [List.map_append, epq, List.map_append, List.map_append]
      rfl
end
end K

namespace K
open PySem L2 DL Mp
abbrev lI (xs : List Int) : D := .list (xs.map PyData.int)
section
variable {P : Program} {w : World} {K : PySem.W.Frag} {mg : Str → Option Value} {base : Heap}
def tCellAt : Tr := fun ds P' => ∃ (ns : List Int) (k : Int), ds = [lI ns, .int k] ∧ 0 ≤ k ∧ P' (.val (.int (cellAt ns k)))
theorem c_cell_at {f : Addr} {fd : FuncData} (F : Fun K "_law_cell_at" "_law_cell_at" s_cell_at f fd) (hm : mg "_law_cell_at" = some (.ref f)) (hb : Binds K fd ["_law_script", "_law_k"] []) (B : Blt mg) : Callee P w K mg base 1 "_law_cell_at" [true, false] tCellAt := by
  refine callee_of F sc_cell_at hm hb (fun ds P' h => by obtain ⟨ns, k, rfl, _⟩ := h; rfl) fun X H0 S0 ds P' hX h => ?_
  obtain ⟨ns, k, rfl, h0, h⟩ := h
  refine ds_if2 (dt_c (de_v 1 hX) (de_len hX B.len (ha := dls_b 0 hX)) .lt) (fun c => ?_) (fun c => ds_nil ?_)
  · exact ds_ret (de_ix (dls_b 0 hX) (de_v 1 hX) (at_E PyData.int h0 (by simpa using c) 0)) h
  · refine ds_ret de_int ?_
    have e : cellAt ns k = 0 := by
      unfold cellAt
      rw [List.getD_eq_getElem?_getD, List.getElem?_eq_none (by simp at c; omega)]
      rfl
    rw [e] at h
    exact h
def tMixed : Tr := fun ds P' => ∃ (c k : Int), ds = [.int c, .int k] ∧ 0 ≤ k ∧ k < 1000000 ∧ P' (.val (.int (mixed c k)))
theorem c_mixed {f : Addr} {fd : FuncData} (F : Fun K "_law_mixed" "_law_mixed" s_mixed f fd) (hm : mg "_law_mixed" = some (.ref f)) (hb : Binds K fd ["_law_cell", "_law_k"] []) (B : Blt mg) : Callee P w K mg base 1 "_law_mixed" [false, false] tMixed := by
  refine callee_of F sc_mixed hm hb (fun ds P' h => by obtain ⟨ns, k, rfl, _⟩ := h; rfl) fun X H0 S0 ds P' hX h => ?_
  obtain ⟨c, k, rfl, h0, h1, h⟩ := h
  refine ds_if2 (dt_c (de_mod (de_v 0 hX) de_int) de_int .eq) (fun hc => ?_) (fun hc => ds_nil ?_)
  · refine ds_set 2 hX (he := de_div (de_abs hX B.abs (ha := de_v 0 hX)) de_int) (h := ?_)
    refine ds_for hX (fun i Gi => ∃ x s, Gi = [.val (.int c), .val (.int k), .val (.int x), s] ∧ divs (k.toNat - i) x = divs k.toNat ((c.natAbs : Int) / 2)) (di_range1 hX B.range (he := de_v 1 hX) (h1 := by omega) (h2 := by omega)) ⟨_, _, rfl, rfl⟩ ?_ ?_
    · rintro i d Gi hd ⟨x, s, rfl, hx⟩
      obtain ⟨hi, rfl⟩ := rngD_get hd
      refine ⟨_, _, dg_name 3 hX, ds_set 2 hX (he := de_div (de_v 2 hX) (de_pow de_int de_int)) (h := ds_nil ⟨_, _, rfl, ?_⟩)⟩
      rw [← hx, show k.toNat - i = (k.toNat - (i + 1)) + 1 by omega]
      rfl
    · rintro Gn ⟨x, s, rfl, hx⟩
      refine ds_ret (de_v 2 hX) ?_
      rw [rngD_len, Nat.sub_self] at hx
      have e : mixed c k = x := by
        unfold mixed
        rw [if_pos (of_decide_eq_true hc), ← hx]
        rfl
      rw [← e]
      exact h
  · refine ds_set 2 hX (he := de_mod (de_add (de_v 0 hX) (de_mulL de_int (de_v 1 hX))) de_int) (h := ?_)
    refine ds_set 2 hX (he := de_mod (de_add (de_add (de_mul (de_v 2 hX) (de_v 2 hX) (.inl (by omega))) (de_mulL de_int (de_v 2 hX))) (de_v 1 hX)) de_int) (h := ?_)
    refine ds_ret (de_mod (de_mul (de_v 2 hX) (de_v 2 hX) (.inl (by omega))) de_int) ?_
    have e : mixed c k = _ := if_neg (of_decide_eq_false hc)
    rw [e] at h
    exact h
end
end K

namespace K
open PySem L2 DL Mp Nm
section
variable {P : Program} {w : World} {K : PySem.W.Frag} {mg : Str → Option Value} {base : Heap} {HE NH NN TW TM NP NW NL : Addr}
/-! what is refused -/
def tLookNZ (NN : Addr) : TrZ := fun as _ x => ∃ z : Str, as = [.d (.str z)] ∧ ¬ NameOk z ∧ z.length ≤ 1000 ∧ x = ((NN, none) : Exn)
theorem str_k {z : Str} (h : z.length ≤ 1000) : z.length ≤ sizeLine := by have := sizeLine_eq; omega
theorem c_look_at_name_z {f C : Addr} {fd : FuncData} (F : Fun K "look_at_name" "look_at_name" s_look_at_name f fd) (hm : mg "look_at_name" = some (.ref f)) (hb : Binds K fd ["name"] []) (B : Blt mg) (T : HTxt K mg C) (TE : ETxt K mg HE NH NN TW TM NP NW NL) : CalleeZ P w K mg base 1 "look_at_name" (tLookNZ NN) := by
  refine ⟨f, fd, _, fnok_ofZ 2 F sw_look_at_name (by decide) (by decide) (fun as W x h => by obtain ⟨z, rfl, _⟩ := h; rfl) fun X H0 S0 as W x hX L h => ?_, hm, F.kp, hb⟩
  obtain ⟨z, rfl, bad, hs, rfl⟩ := h
  have hz := str_k hs
  refine ds_if2 (dt_w (dw_or (dt_c (de_v 0 hX) de_str .eqs) fun _ => dw_t (dt_c (de_lens hX B.len (de_v 0 hX) hz) (de_cint hX T.cN) .gt))) (fun c1 => ds_z L (dz_raise hX TE.wNN)) (fun c1 => ds_nil ?_)
  have c1' : ¬ z = "" ∧ ¬ (12 : Int) < (z.length : Int) := by simpa using c1
  have hex : ∃ c ∈ z.cps.toList, c ∉ letters.cps.toList := Classical.byContradiction fun hn => bad ⟨by
    rcases Nat.eq_zero_or_pos z.length with e | e
    · exfalso
      apply c1'.1
      have : z.cps = #[] := Array.eq_empty_of_size_eq_zero e
      show z = ⟨#[]⟩
      rw [← this]
    · exact e, by omega, fun c hc => Classical.byContradiction fun q => hn ⟨c, hc, q⟩⟩
  refine ds_forT hX (fun l Gi => ∃ y, Gi = [.val (.str z), y, .wrk false W] ∧ ∃ c ∈ l, c ∉ letters.cps.toList) (enc := chD) (xs := z.cps.toList) (di_str (de_v 0 hX)) ⟨_, rfl, hex⟩ ?_ ?_
  · rintro c r Gi ⟨y, rfl, hx⟩ _
    refine ⟨_, _, dg_nameN 1 hX, ?_⟩
    refine ds_if2 (dt_ninC (c := c) (de_v 1 hX) (de_cstr hX T.cL)) (fun c2 => ds_z L (dz_raise hX TE.wNN)) (fun c2 => ds_nil (ds_nil ⟨_, rfl, ?_⟩))
    obtain ⟨d, hd, hn⟩ := hx
    rcases List.mem_cons.mp hd with rfl | hd
    · rw [decide_eq_false hn] at c2
      cases c2
    · exact ⟨d, hd, hn⟩
  · rintro Gn ⟨y, rfl, c, hc, _⟩
    cases hc
end
end K
namespace KL
open PySem L2 DL Mp Nm K
section
variable {P : Program} {w : World} {K : PySem.W.Frag} {mg : Str → Option Value} {base : Heap} {HE NH NN TW TM NP NW NL : Addr}
/-- a call of look_at_name, its text good or not -/
theorem ds_look {k : Nat} {N : List Str} {sc : Scope} {X : Cx} {H0 : Hp} {S0 : AS} {G : List Slot} {pos p1 : Pos} {e : Expr} {z : Str} {x : Exn} {rest : List Stmt} {P' : Out → Prop} {W : Wk} {m : Bool} (gi : Nat) (hX : XOk P w K mg base (k + 1) N sc true X) (Cl : Callee P w K mg base 1 "look_at_name" [false] tLook) (Cz : CalleeZ P w K mg base 1 "look_at_name" (tLookNZ NN)) (L : Lets X H0 x) (he : DE X H0 S0 e G (.str z)) (hs : z.length ≤ 1000) (hx : ¬ NameOk z → x = ((NN, none) : Exn)) (h : NameOk z → DS X H0 S0 rest G P') (hW : G[gi]? = some (.wrk m W) := by rfl)
    (hg : globB sc "look_at_name" = true := by decide +kernel) (hst : starEach [e] X.env = (false, eval e X.env) :: starEach [] X.env := by rfl) (hpl : (backTo pos (starEach [] X.env)).any (·.1) = false := by rfl) (hsw : swapsWith (.Call (.Name "look_at_name" p1) [e] [] pos) none pos.line X.env = pure false := by rfl) : DS X H0 S0 (.Expr (.Call (.Name "look_at_name" p1) [e] [] pos) pos :: rest) G P' := by
  by_cases ok : NameOk z
  · exact ds_expr (he := de_call hX Cl (hj := by omega) (hg := hg) (ha := db_v he db_nil (hs := hst)) (ht := ⟨_, rfl, ok, rfl⟩) (he := hst) (hpl := hpl)) (h := h ok) (hs := hsw)
  · exact ds_z L (dz_expr (dez_call gi hX Cz (dam_d he dam_nil (hs := hst)) ⟨z, rfl, ok, hs, hx ok⟩ (hW := hW) (hj := by omega) (hg := hg) (he := hst) (hpl := hpl)) (hs := hsw))
end
end KL
namespace K
open PySem L2 DL Mp Nm KL
section
variable {P : Program} {w : World} {K : PySem.W.Frag} {mg : Str → Option Value} {base : Heap} {HE NH NN TW TM NP NW NL : Addr}
def tPlaceZ (C NP : Addr) : TrZ := fun as W x => ∃ (A : HAd) (seen : List Str) (rows : List Row) (n : Str), as = [.x (.ref A.x), .d (.str n)] ∧ HallAt C W A seen rows ∧ n ∉ rows.map Row.n ∧ x = ((NP, none) : Exn)
theorem c_NamedHall_place_of_z {f C : Addr} {fd : FuncData} (F : Fun K "place_of" "NamedHall.place_of" s_NamedHall_place_of f fd) (hm : Meth K C "place_of" f) (hb : Binds K fd ["self", "name"] []) (B : Blt mg) (T : HTxt K mg C) (TE : ETxt K mg HE NH NN TW TM NP NW NL) : MethZ P w K mg base 1 C "place_of" (tPlaceZ C NP) := by
  refine ⟨f, fd, _, fnok_ofZ 2 F sw_NamedHall_place_of (by decide) (by decide) (fun as W x h => by obtain ⟨A, _, _, n, rfl, _⟩ := h; rfl) fun X H0 S0 as W x hX L h => ?_, hm, hb⟩
  obtain ⟨A, seen, rows, n, rfl, ha, hn, rfl⟩ := h
  show DS X H0 S0 _ [.itm (.ref A.x), .val (.str n), .wrk false W] _
  refine ds_if2 (t := true) ((dt_ninS (de_v 1 hX) (dls_x 2 (dx_fld 2 hX (dx_v 0 hX) ha.x T.cl T.nM (fl_m A)) ha.m)).cast (by rw [show (rows.map Row.n).contains n = false from by rw [Bool.eq_false_iff]; exact fun z => hn (List.contains_iff_mem.mp z)]; rfl)) (fun _ => ds_z L (dz_raise hX TE.wNP)) (fun c => by cases c)
def tDeedZ (C NH NN TW TM NP NW NL : Addr) (f : Deed → Option (List DL.Arg)) : TrZ := fun as W x => ∃ (A : HAd) (seen : List Str) (rows : List Row) (d : Deed) (l : List DL.Arg) (i : Nat), f d = some l ∧ as = .x (.ref A.x) :: l ∧ HallAt C W A seen rows ∧ Ok seen rows ∧ Refuses seen rows d i ∧ x = errX NH NN TW TM NP NW NL i
theorem c_NamedHall_shut_z {f C : Addr} {fd : FuncData} (F : Fun K "shut" "NamedHall.shut" s_NamedHall_shut f fd) (hm : Meth K C "shut" f) (hb : Binds K fd ["self", "name"] []) (B : Blt mg) (T : HTxt K mg C) (TE : ETxt K mg HE NH NN TW TM NP NW NL) (Cp : MethZ P w K mg base 1 C "place_of" (tPlaceZ C NP)) : MethZ P w K mg base 2 C "shut" (tDeedZ C NH NN TW TM NP NW NL aShut) := by
  refine ⟨f, fd, _, fnok_ofZ 3 F sw_NamedHall_shut (by decide) (by decide) (fun as W x h => by
    obtain ⟨A, _, _, d, l, i, hf, rfl, _⟩ := h
    cases d <;> cases hf
    rfl) fun X H0 S0 as W x hX L h => ?_, hm, hb⟩
  obtain ⟨A, seen, rows, d, l, i, hf, rfl, ha, ok, hr, rfl⟩ := h
  cases hr <;> cases hf
  rename_i n hn
  show DS X H0 S0 _ [.itm (.ref A.x), .val (.str n), .junk, .wrk false W] _
  exact ds_z L (dz_set 2 hX (dez_meth 3 hX Cp T.cl (dx_v 0 hX) ha.x (fl_no A) (dam_d (de_v 1 hX) dam_nil) ⟨A, seen, rows, n, rfl, ha, hn, rfl⟩))
theorem c_NamedHall_widen_z {f C : Addr} {fd : FuncData} (F : Fun K "widen" "NamedHall.widen" s_NamedHall_widen f fd) (hm : Meth K C "widen" f) (hb : Binds K fd ["self", "name", "more"] []) (B : Blt mg) (T : HTxt K mg C) (TE : ETxt K mg HE NH NN TW TM NP NW NL) (Cq : MethR P w K mg base 1 C "place_of" (tPlace C)) (Cp : MethZ P w K mg base 1 C "place_of" (tPlaceZ C NP)) : MethZ P w K mg base 2 C "widen" (tDeedZ C NH NN TW TM NP NW NL aWiden) := by
  refine ⟨f, fd, _, fnok_ofZ 8 F sw_NamedHall_widen (by decide) (by decide) (fun as W x h => by
    obtain ⟨A, _, _, d, l, i, hf, rfl, _⟩ := h
    cases d <;> cases hf
    rfl) fun X H0 S0 as W x hX L h => ?_, hm, hb⟩
  obtain ⟨A, seen, rows, d, l, i, hf, rfl, ha, ok, hr, rfl⟩ := h
  cases hr with
  | nm => cases hf
  | tw => cases hf
  | nh => cases hf
  | tm => cases hf
  | s4 => cases hf
  | n4 => cases hf
  | n5 => cases hf
  | @w4 n m hn =>
    cases hf
    show DS X H0 S0 _ [.itm (.ref A.x), .val (.str n), .val (.int m), .junk, .junk, .junk, .junk, .junk, .wrk false W] _
    exact ds_z L (dz_set 3 hX (dez_meth 8 hX Cp T.cl (dx_v 0 hX) ha.x (fl_no A) (dam_d (de_v 1 hX) dam_nil) ⟨A, seen, rows, n, rfl, ha, hn, rfl⟩))
  | @w5 r j m hj h1 =>
    cases hf
    show DS X H0 S0 _ [.itm (.ref A.x), .val (.str r.n), .val (.int m), .junk, .junk, .junk, .junk, .junk, .wrk false W] _
    refine ds_setN 3 hX (d := .int (j : Int)) (he := de_r (dr_meth 8 hX Cq T.cl (dx_v 0 hX) ha.x (fl_no A) (dam_d (de_v 1 hX) dam_nil) ⟨A, seen, rows, r.n, rfl, ha, name_in hj, by rw [idx_at ok.rn hj]; rfl⟩)) (h := ?_)
    exact ds_if2 (t := true) ((dt_c (de_v 2 hX) de_int .lt).cast (decide_eq_true h1)) (fun _ => ds_z L (dz_raise hX TE.wNW)) (fun c => by cases c)
theorem c_NamedHall_narrow_z {f C : Addr} {fd : FuncData} (F : Fun K "narrow" "NamedHall.narrow" s_NamedHall_narrow f fd) (hm : Meth K C "narrow" f) (hb : Binds K fd ["self", "name", "less"] []) (B : Blt mg) (T : HTxt K mg C) (TE : ETxt K mg HE NH NN TW TM NP NW NL) (Cq : MethR P w K mg base 1 C "place_of" (tPlace C)) (Cp : MethZ P w K mg base 1 C "place_of" (tPlaceZ C NP)) : MethZ P w K mg base 2 C "narrow" (tDeedZ C NH NN TW TM NP NW NL aNarrow) := by
  refine ⟨f, fd, _, fnok_ofZ 8 F sw_NamedHall_narrow (by decide) (by decide) (fun as W x h => by
    obtain ⟨A, _, _, d, l, i, hf, rfl, _⟩ := h
    cases d <;> cases hf
    rfl) fun X H0 S0 as W x hX L h => ?_, hm, hb⟩
  obtain ⟨A, seen, rows, d, l, i, hf, rfl, ha, ok, hr, rfl⟩ := h
  cases hr with
  | nm => cases hf
  | tw => cases hf
  | nh => cases hf
  | tm => cases hf
  | s4 => cases hf
  | w4 => cases hf
  | w5 => cases hf
  | @n4 n m hn =>
    cases hf
    show DS X H0 S0 _ [.itm (.ref A.x), .val (.str n), .val (.int m), .junk, .junk, .junk, .junk, .junk, .wrk false W] _
    exact ds_z L (dz_set 3 hX (dez_meth 8 hX Cp T.cl (dx_v 0 hX) ha.x (fl_no A) (dam_d (de_v 1 hX) dam_nil) ⟨A, seen, rows, n, rfl, ha, hn, rfl⟩))
  | @n5 r j m hj h1 =>
    cases hf
    show DS X H0 S0 _ [.itm (.ref A.x), .val (.str r.n), .val (.int m), .junk, .junk, .junk, .junk, .junk, .wrk false W] _
    refine ds_setN 3 hX (d := .int (j : Int)) (he := de_r (dr_meth 8 hX Cq T.cl (dx_v 0 hX) ha.x (fl_no A) (dam_d (de_v 1 hX) dam_nil) ⟨A, seen, rows, r.n, rfl, ha, name_in hj, by rw [idx_at ok.rn hj]; rfl⟩)) (h := ?_)
    refine ds_unpack hX (he := de_x (d := encP (psgOf seen r)) (dx_ix 8 (dx_fld 8 hX (dx_v 0 hX) ha.x T.cl T.nH (fl_h A)) ha.h (de_v 3 hX) (at_eH hj))) (hg := dg_tup hX (dgs_cons (dg_nameN 4 hX) (dgs_cons (dg_nameN 5 hX) (dgs_cons (dg_nameN 6 hX) (dgs_cons (dg_nameN 7 hX) dgs_nil))))) (h := ?_)
    refine ds_if2 (t := true) ((dt_w (dw_or (dt_c (de_v 2 hX) de_int .lt) fun _ => dw_t (dt_c (de_v 2 hX) (de_v 6 hX) .ge))).cast (by
      show (decide (m < 1) || decide (r.w ≤ m)) = true
      rw [Bool.or_eq_true, decide_eq_true_eq, decide_eq_true_eq]
      exact h1)) (fun _ => ds_z L (dz_raise hX TE.wNW)) (fun c => by cases c)
theorem c_NamedHall_lay_z {f C : Addr} {fd : FuncData} (F : Fun K "lay" "NamedHall.lay" s_NamedHall_lay f fd) (hm : Meth K C "lay" f) (hb : Binds K fd ["self", "name", "a", "b", "width", "length"] []) (B : Blt mg) (T : HTxt K mg C) (TE : ETxt K mg HE NH NN TW TM NP NW NL) (I : InitX P w K mg base 1 "NoHall" NH "place") (Cl : Callee P w K mg base 1 "look_at_name" [false] tLook) (Cz : CalleeZ P w K mg base 1 "look_at_name" (tLookNZ NN)) : MethZ P w K mg base 3 C "lay" (tDeedZ C NH NN TW TM NP NW NL aLay) := by
  refine ⟨f, fd, _, fnok_ofZ 8 F sw_NamedHall_lay (by decide) (by decide) (fun as W x h => by
    obtain ⟨A, _, _, d, l, i, hf, rfl, _⟩ := h
    cases d <;> cases hf
    rfl) fun X H0 S0 as W x hX L h => ?_, hm, hb⟩
  obtain ⟨A, seen, rows, d, l, i, hf, rfl, ha, ok, hr, rfl⟩ := h
  have go : ∀ (r : Row), r.n.length ≤ 1000 → r.a.length ≤ 1000 → r.b.length ≤ 1000 → (¬ (NameOk r.n ∧ NameOk r.a ∧ NameOk r.b) → i = 1) → (NameOk r.n ∧ NameOk r.a ∧ NameOk r.b → DS X H0 S0 ((defBody s_NamedHall_lay).drop 1) [.itm (.ref A.x), .val (.str r.n), .val (.str r.a), .val (.str r.b), .val (.int r.w), .val (.int r.l), .junk, .junk, .wrk false W] (fun _ => False)) → DS X H0 S0 ((defBody s_NamedHall_lay).drop 0) [.itm (.ref A.x), .val (.str r.n), .val (.str r.a), .val (.str r.b), .val (.int r.w), .val (.int r.l), .junk, .junk, .wrk false W] (fun _ => False) := fun r l1 l2 l3 hi h => by
    refine ds_forT hX (fun l Gi => ∃ y, Gi = [.itm (.ref A.x), .val (.str r.n), .val (.str r.a), .val (.str r.b), .val (.int r.w), .val (.int r.l), y, .junk, .wrk false W] ∧ (∀ z ∈ l, z.length ≤ 1000) ∧ ((∀ z ∈ l, NameOk z) → NameOk r.n ∧ NameOk r.a ∧ NameOk r.b) ∧ ((∃ z ∈ l, ¬ NameOk z) → i = 1)) (enc := PyData.str) (xs := [r.n, r.a, r.b]) (di_list (de_own (do_lst (da_cons (de_v 1 hX) (da_cons (de_v 2 hX) (da_cons (de_v 3 hX) da_nil))))))
      ⟨_, rfl, fun z hz => ?_, fun hz => ⟨hz _ (.head _), hz _ (.tail _ (.head _)), hz _ (.tail _ (.tail _ (.head _)))⟩, fun hz => hi fun q => ?_⟩ ?_ ?_
    · simp only [List.mem_cons, List.not_mem_nil, or_false] at hz
      rcases hz with rfl | rfl | rfl <;> assumption
    · obtain ⟨z, hz, hn⟩ := hz
      simp only [List.mem_cons, List.not_mem_nil, or_false] at hz
      rcases hz with rfl | rfl | rfl
      · exact hn q.1
      · exact hn q.2.1
      · exact hn q.2.2
    · rintro z r' Gi ⟨y, rfl, hl, h1, h2⟩ _
      refine ⟨_, _, dg_nameN 6 hX, ?_⟩
      refine ds_look 8 hX Cl Cz L (de_v 6 hX) (hl z (.head _)) (fun nz => ?_) (fun oz => ds_nil ⟨_, rfl, fun y hy => hl y (.tail _ hy), fun hr => h1 fun y hy => ?_, fun hr => h2 ?_⟩)
      · rw [h2 ⟨z, .head _, nz⟩]
        rfl
      · rcases List.mem_cons.mp hy with rfl | hy
        · exact oz
        · exact hr y hy
      · obtain ⟨y, hy, hn⟩ := hr
        exact ⟨y, .tail _ hy, hn⟩
    · rintro Gn ⟨y, rfl, _, h1, _⟩
      exact ds_wipeN [6] (h (h1 fun z hz => by cases hz))
  have go2 : ∀ (r : Row), (r.n ∈ rows.map Row.n → i = 2) → (r.n ∉ rows.map Row.n → DS X H0 S0 ((defBody s_NamedHall_lay).drop 2) [.itm (.ref A.x), .val (.str r.n), .val (.str r.a), .val (.str r.b), .val (.int r.w), .val (.int r.l), .junk, .junk, .wrk false W] (fun _ => False)) → DS X H0 S0 ((defBody s_NamedHall_lay).drop 1) [.itm (.ref A.x), .val (.str r.n), .val (.str r.a), .val (.str r.b), .val (.int r.w), .val (.int r.l), .junk, .junk, .wrk false W] (fun _ => False) := fun r hi h => by
    refine ds_if2 (dt_inS (de_v 1 hX) (dls_x 8 (dx_fld 8 hX (dx_v 0 hX) ha.x T.cl T.nM (fl_m A)) ha.m)) (fun c => ?_) (fun c => ds_nil (h fun z => ?_))
    · rw [hi (List.contains_iff_mem.mp c)] at L
      exact ds_z L (dz_raise hX TE.wTW)
    · rw [List.contains_iff_mem.mpr z] at c
      cases c
  cases hr with
  | s4 => cases hf
  | w4 => cases hf
  | w5 => cases hf
  | n4 => cases hf
  | n5 => cases hf
  | @nm r hn l1 l2 l3 =>
    cases hf
    exact go r l1 l2 l3 (fun _ => rfl) (fun q => absurd q hn)
  | @tw r o1 o2 o3 hn =>
    cases hf
    exact go r o1.short o2.short o3.short (fun q => absurd ⟨o1, o2, o3⟩ q) fun _ => go2 r (fun _ => rfl) fun q => absurd hn q
  | @nh r o1 o2 o3 hn hw =>
    cases hf
    refine go r o1.short o2.short o3.short (fun q => absurd ⟨o1, o2, o3⟩ q) fun _ => go2 r (fun q => absurd q hn) fun _ => ?_
    refine ds_if2 (t := true) ((dt_w (dw_or (dt_c (de_v 2 hX) (de_v 3 hX) .eqs) fun _ => dw_or (dt_c (de_v 4 hX) de_int .lt) fun _ => dw_t (dt_c (de_v 5 hX) de_int .lt))).cast (by
      show (decide (r.a = r.b) || (decide (r.w < 1) || decide (r.l < 1))) = true
      rw [Bool.or_eq_true, Bool.or_eq_true, decide_eq_true_eq, decide_eq_true_eq, decide_eq_true_eq]
      exact hw)) (fun _ => ds_z L (dz_raiseI hX I de_non (fun S H u r => by cases r; rfl))) (fun c => by cases c)
  | @tm r o1 o2 o3 hn hab hw hl hmany =>
    cases hf
    refine go r o1.short o2.short o3.short (fun q => absurd ⟨o1, o2, o3⟩ q) fun _ => go2 r (fun q => absurd q hn) fun _ => ?_
    refine ds_if2 (t := false) (dt_w (dw_or (x := false) (y := false) ((dt_c (de_v 2 hX) (de_v 3 hX) .eqs).cast (decide_eq_false hab)) fun _ => dw_or (x := false) (y := false) ((dt_c (de_v 4 hX) de_int .lt).cast (decide_eq_false (by omega))) fun _ => dw_t ((dt_c (de_v 5 hX) de_int .lt).cast (decide_eq_false (by omega))))) (fun c => by cases c) (fun _ => ds_nil ?_)
    have es := seen_fresh (s := seen) hab
    have s40 := ok.s40
    have r60 := ok.r60
    refine ds_setFN 7 hX [("word", 6)] (enc := PyData.str) (xs := [r.a, r.b]) PyData.str (fun z => !seen.contains z) (fun z => z) (hit := di_list (de_own (do_lst (da_cons (de_v 2 hX) (da_cons (de_v 3 hX) da_nil))))) (hsz := by show 2 ≤ 16777216; decide) (turn := fun z hz => ?_) (h := ?_)
    · exact ⟨_, _, fun X' hX' => dg_loc 6 hX', by decide, fun X' hX' => dt_ninS (de_v 6 hX') (dls_x 8 (dx_fld 8 hX' (dx_v 0 hX') ha.x T.cl T.nR (fl_r A)) ha.r), fun _ X' hX' => de_v 6 hX'⟩
    rw [List.map_id']
    have el : seen.length + ([r.a, r.b].filter fun z => !seen.contains z).length = (seenAdd (seenAdd seen r.a) r.b).length := by rw [es, List.length_append]
    generalize ([r.a, r.b].filter fun z => !seen.contains z) = fr at *
    refine ds_if2 (t := true) ((dt_w (dw_or (dt_c ((de_len hX B.len (ha := dls_x 8 (dx_fld 8 hX (dx_v 0 hX) ha.x T.cl T.nM (fl_m A)) ha.m)).cast (y := .int (rows.length : Int)) (by rw [List.length_map, List.length_map])) (de_cint hX T.cP) .ge) fun _ => dw_t (dt_c (de_add ((de_len hX B.len (ha := dls_x 8 (dx_fld 8 hX (dx_v 0 hX) ha.x T.cl T.nR (fl_r A)) ha.r)).cast (y := .int (seen.length : Int)) (by rw [List.length_map])) ((de_len hX B.len (ha := dls_o 7 hX)).cast (y := .int (fr.length : Int)) (by rw [List.length_map]))) (de_cint hX T.cR) .gt))).cast (by
      show (decide ((60 : Int) ≤ (rows.length : Int)) || decide ((40 : Int) < (seen.length : Int) + (fr.length : Int))) = true
      rw [Bool.or_eq_true, decide_eq_true_eq, decide_eq_true_eq]
      omega)) (fun _ => ds_z L (dz_raise hX TE.wTM)) (fun c => by cases c)
/-- NamedHall(s, g) refused -/
def tInitZ (NN TW : Addr) : TrZ := fun as _ x => ∃ (a : Addr) (s g : Str), as = [.x (.ref a), .d (.str s), .d (.str g)] ∧ s.length ≤ 1000 ∧ g.length ≤ 1000 ∧ ((¬ (NameOk s ∧ NameOk g) ∧ x = ((NN, none) : Exn)) ∨ (NameOk s ∧ NameOk g ∧ s = g ∧ x = ((TW, none) : Exn)))
theorem c_NamedHall_init_z {f C : Addr} {fd : FuncData} (F : Fun K "__init__" "NamedHall.__init__" s_NamedHall_init f fd) (hm : Mk K C f) (hy : mg "NamedHall" = some (.ref C)) (hb : Binds K fd ["self", "start", "goal"] []) (TE : ETxt K mg HE NH NN TW TM NP NW NL) (Cl : Callee P w K mg base 1 "look_at_name" [false] tLook) (Cz : CalleeZ P w K mg base 1 "look_at_name" (tLookNZ NN)) : MakeZ P w K mg base 2 "NamedHall" C (tInitZ NN TW) := by
  refine ⟨f, fd, _, fnok_ofZ 3 F sw_NamedHall_init (by decide) (by decide) (fun as W x h => by obtain ⟨a, s, g, rfl, _⟩ := h; rfl) fun X H0 S0 as W x hX L h => ?_, hm, hy, hb⟩
  obtain ⟨a, s, g, rfl, l1, l2, h⟩ := h
  show DS X H0 S0 _ [.itm (.ref a), .val (.str s), .val (.str g), .wrk false W] _
  refine ds_look 3 hX Cl Cz L (de_v 1 hX) l1 (fun nz => ?_) (fun o1 => ?_)
  · rcases h with ⟨_, e⟩ | ⟨q, _⟩
    · exact e
    · exact absurd q nz
  refine ds_look 3 hX Cl Cz L (de_v 2 hX) l2 (fun nz => ?_) (fun o2 => ?_)
  · rcases h with ⟨_, e⟩ | ⟨_, q, _⟩
    · exact e
    · exact absurd q nz
  rcases h with ⟨q, _⟩ | ⟨_, _, e, rfl⟩
  · exact absurd ⟨o1, o2⟩ q
  exact ds_if2 (t := true) ((dt_c (de_v 1 hX) (de_v 2 hX) .eqs).cast (decide_eq_true e)) (fun _ => ds_z L (dz_raise hX TE.wTW)) (fun c => by cases c)
end
end K

namespace K
open PySem L2 DL Mp Nm
/-! what the laws of named halls keep -/
abbrev rowE (r : Row) : List E := (rowDs r).map E.d
structure LawAt (W : Wk) (hp sp : Addr) (rs : List (Addr × Row)) (seen : List Str) : Prop where
  h : W hp = some (.lst (rs.map fun r => E.ref r.1))
  s : W sp = some (.lst (eS seen))
  r : ∀ r ∈ rs, W r.1 = some (.lst (rowE r.2))
  nd : (hp :: sp :: rs.map (·.1)).Nodup
def rws (rs : List (Addr × Row)) : List Row := rs.map (·.2)
theorem LawAt.sub {W W' : Wk} {hp sp : Addr} {rs : List (Addr × Row)} {seen : List Str} (h : LawAt W hp sp rs seen) (k : ∀ a c, W a = some c → W' a = some c) : LawAt W' hp sp rs seen := ⟨k _ _ h.h, k _ _ h.s, fun r hr => k _ _ (h.r r hr), h.nd⟩
theorem HallAt.sub {C : Addr} {W W' : Wk} {A : HAd} {seen : List Str} {rows : List Row} (h : HallAt C W A seen rows) (k : ∀ a c, W a = some c → W' a = some c) : HallAt C W' A seen rows := ⟨k _ _ h.x, k _ _ h.r, k _ _ h.m, k _ _ h.h, h.rm, h.mh, h.rh⟩
theorem LawAt.thaw {W : Wk} {hp sp : Addr} {rs : List (Addr × Row)} {seen : List Str} (h : LawAt W hp sp rs seen) {r : Addr × Row} (hr : r ∈ rs) : Thaw W (.ref r.1) (.list (rowDs r.2)) := .lst (h.r r hr) (Thaws.flats (flat_row r.2))
theorem LawAt.thaws {W : Wk} {hp sp : Addr} {rs : List (Addr × Row)} {seen : List Str} (h : LawAt W hp sp rs seen) : Thaws W (rs.map fun r => E.ref r.1) ((rws rs).map fun r => PyData.list (rowDs r)) := by
  have : ∀ l : List (Addr × Row), (∀ r ∈ l, r ∈ rs) → Thaws W (l.map fun r => E.ref r.1) ((rws l).map fun r => PyData.list (rowDs r)) := fun l => by
    induction l with
    | nil => exact fun _ => .nil
    | cons r l ih => exact fun hl => .cons (h.thaw (hl r (.head _))) (ih fun x hx => hl x (.tail _ hx))
  exact this rs fun _ z => z
/-- the hall's lists and what the law keeps lie apart -/
structure Apart (A : HAd) (hp sp : Addr) (rs : List (Addr × Row)) : Prop where
  ne : ∀ p ∈ hp :: sp :: rs.map (·.1), p ≠ A.x ∧ p ≠ A.r ∧ p ≠ A.m ∧ p ≠ A.h
section
variable {P : Program} {w : World} {K : PySem.W.Frag} {mg : Str → Option Value} {base : Heap}
/-! ### words -/
def tWords : Tr := fun ds P' => ∃ (c many k : Int), ds = [.int c, .int many, .int k] ∧ 0 ≤ k ∧ k < 1000000 ∧ 0 ≤ many ∧ many ≤ 26 ∧ P' (.own (sDs (wordsOf (mixed c k) many)))
theorem str_small {z : Str} (h : z.length ≤ 100) : z.length ≤ sizeLine := by have := sizeLine_eq; omega
theorem c_words {f : Addr} {fd : FuncData} (F : Fun K "_law_words" "_law_words" s_words f fd) (hm : mg "_law_words" = some (.ref f)) (hb : Binds K fd ["_law_cell", "_law_many", "_law_k"] []) (B : Blt mg) (Cm : Callee P w K mg base 1 "_law_mixed" [false, false] tMixed) : Callee P w K mg base 2 "_law_words" [false, false, false] tWords := by
  refine callee_of F sc_words hm hb (fun ds P' h => by obtain ⟨c, many, k, rfl, _⟩ := h; rfl) fun X H0 S0 ds P' hX h => ?_
  obtain ⟨c, many, k, rfl, k0, k1, m0, m1, h⟩ := h
  have n0 := mixed_nn c k
  refine ds_setN 3 hX (d := .str letters) (he := de_str) (h := ?_)
  refine ds_setN 4 hX (he := de_call hX Cm (ha := db_v (de_v 0 hX) (db_v (de_v 2 hX) db_nil)) (ht := ⟨_, _, rfl, k0, k1, rfl⟩)) (h := ?_)
  generalize mixed c k = num at *
  have ll : letters.length ≤ sizeLine := str_small (by rw [letters_len]; decide)
  refine ds_setN 5 hX (d := .str (cutS letters (some (num % 26)) (some (num % 26 + num / 26 % 12)))) (he := de_sls (de_v 3 hX) ll (dpo_some (de_mod (de_v 4 hX) de_int)) (dpo_some (de_add (de_mod (de_v 4 hX) de_int) (de_mod (de_div (de_v 4 hX) de_int) de_int)))) (h := ?_)
  have l1 : (cutS letters (some (num % 26)) (some (num % 26 + num / 26 % 12))).length ≤ sizeLine := str_small (by
    rw [str_len, cut_list, List.length_take]
    have e := letters_len
    rw [str_len] at e
    refine Nat.le_trans (Nat.min_le_right _ _) ?_
    rw [List.length_drop]
    omega)
  refine ds_setN 5 hX (d := .str (baseOf num)) (he := de_sls (de_v 5 hX) l1 dpo_none (dpo_some de_int)) (h := ?_)
  have bl := base_len num
  have lb : (baseOf num).length ≤ sizeLine := str_small (by omega)
  refine ds_setN 6 hX (d := .int (num / 312 % ((baseOf num).length + 1))) (he := de_mod (de_div (de_v 4 hX) de_int) (de_add (de_lens hX B.len (de_v 5 hX) lb) de_int) (by omega)) (h := ?_)
  refine ds_reto (ds := sDs (wordsOf num many)) (do_map hX [("_law_j", 7)] (enc := PyData.int) (xs := rng many) PyData.str (fun j => wordOf num j) (hit := di_rng hX B.range (he := de_v 1 hX) (h := by omega)) (hsz := by rw [rng_len]; omega) (turn := fun j hj => ?_)) h
  have hj' := mem_rng hj
  have cl : ∀ lo hi, (cutS (baseOf num) lo hi).length ≤ 11 := fun lo hi => by
    rw [str_len, cut_list, List.length_take]
    refine Nat.le_trans (Nat.min_le_right _ _) ?_
    rw [List.length_drop, ← str_len]
    omega
  have at_ : atI letters.cps.toList j = some (letters.cps.toList.getD j.toNat 0) := by
    have hl : j.toNat < letters.cps.toList.length := by rw [← str_len, letters_len]; omega
    have := atI_nat (xs := letters.cps.toList) (j := j.toNat) (v := letters.cps.toList.getD j.toNat 0) (by rw [List.getElem?_eq_getElem hl, List.getD_eq_getElem?_getD, List.getElem?_eq_getElem hl]; rfl)
    rwa [Int.toNat_of_nonneg hj'.1] at this
  refine ⟨_, _, fun X' hX' => dg_loc 7 hX', by decide, fun X' hX' => ?_⟩
  refine de_adds (de_adds (de_sls (de_v 5 hX') lb dpo_none (dpo_some (de_v 6 hX'))) (de_ixs (de_v 3 hX') ll (de_v 7 hX') at_) ?_) (de_sls (de_v 5 hX') lb (dpo_some (de_v 6 hX')) dpo_none) ?_
  · have := cl none (some (num / 312 % ((baseOf num).length + 1)))
    have e := sizeLine_eq
    show _ + 1 ≤ _
    omega
  · rw [app_len]
    have a1 := cl none (some (num / 312 % ((baseOf num).length + 1)))
    have a2 := cl (some (num / 312 % ((baseOf num).length + 1))) none
    have e := sizeLine_eq
    show _ + 1 + _ ≤ _
    omega
def wid (c : Int) : Int := if mixed c 1 % 4 = 0 then 1 + c % 10 ^ 58 else 1 + mixed c 1 / 4 % 6
def len_ (c : Int) : Int := if mixed c 2 % 6 = 0 then 1 + c % 10 ^ 58 else 1 + mixed c 2 / 6 % 5
theorem wid_ok (c : Int) : 1 ≤ wid c ∧ wid c ≤ 10 ^ 58 := by
  unfold wid
  split <;> omega
theorem len_ok (c : Int) : 1 ≤ len_ c ∧ len_ c ≤ 10 ^ 58 := by
  unfold len_
  split <;> omega
def tNum (g : Int → Int) : Tr := fun ds P' => ∃ (c : Int), ds = [.int c] ∧ P' (.val (.int (g c)))
theorem c_length {f : Addr} {fd : FuncData} (F : Fun K "_law_length" "_law_length" s_length f fd) (hm : mg "_law_length" = some (.ref f)) (hb : Binds K fd ["_law_cell"] []) (Cm : Callee P w K mg base 1 "_law_mixed" [false, false] tMixed) : Callee P w K mg base 2 "_law_length" [false] (tNum len_) := by
  refine callee_of F sc_length hm hb (fun ds P' h => by obtain ⟨c, rfl, _⟩ := h; rfl) fun X H0 S0 ds P' hX h => ?_
  obtain ⟨c, rfl, h⟩ := h
  refine ds_setN 1 hX (he := de_call hX Cm (ha := db_v (de_v 0 hX) (db_v de_int db_nil)) (ht := ⟨_, _, rfl, by decide, by decide, rfl⟩)) (h := ?_)
  unfold len_ at h
  refine ds_if2 (dt_c (de_mod (de_v 1 hX) de_int) de_int .eq) (fun c1 => ?_) (fun c1 => ds_nil ?_)
  · rw [if_pos (of_decide_eq_true c1)] at h
    exact ds_ret (de_add de_int (de_mod (de_v 0 hX) (de_pow de_int de_int))) h
  · rw [if_neg (of_decide_eq_false c1)] at h
    exact ds_ret (de_add de_int (de_mod (de_div (de_v 1 hX) de_int) de_int)) h
theorem c_width {f : Addr} {fd : FuncData} (F : Fun K "_law_width" "_law_width" s_width f fd) (hm : mg "_law_width" = some (.ref f)) (hb : Binds K fd ["_law_cell"] []) (Cm : Callee P w K mg base 1 "_law_mixed" [false, false] tMixed) : Callee P w K mg base 2 "_law_width" [false] (tNum wid) := by
  refine callee_of F sc_width hm hb (fun ds P' h => by obtain ⟨c, rfl, _⟩ := h; rfl) fun X H0 S0 ds P' hX h => ?_
  obtain ⟨c, rfl, h⟩ := h
  refine ds_setN 1 hX (he := de_call hX Cm (ha := db_v (de_v 0 hX) (db_v de_int db_nil)) (ht := ⟨_, _, rfl, by decide, by decide, rfl⟩)) (h := ?_)
  unfold wid at h
  refine ds_if2 (dt_c (de_mod (de_v 1 hX) de_int) de_int .eq) (fun c1 => ?_) (fun c1 => ds_nil ?_)
  · rw [if_pos (of_decide_eq_true c1)] at h
    exact ds_ret (de_add de_int (de_mod (de_v 0 hX) (de_pow de_int de_int))) h
  · rw [if_neg (of_decide_eq_false c1)] at h
    exact ds_ret (de_add de_int (de_mod (de_div (de_v 1 hX) de_int) de_int)) h
/-! ### deeds drawn -/
/-- the words of a law: rooms and names -/
structure Pool (rooms names : List Str) (seen : List Str) (rows : List Row) : Prop where
  ok : Ok seen rows
  ro : ∀ z ∈ rooms, NameOk z
  rn : rooms.Nodup
  r2 : 2 ≤ rooms.length
  r5 : rooms.length ≤ 26
  no : ∀ z ∈ names, NameOk z
  nn : names.Nodup
  n8 : names.length ≤ 26
  n1 : 1 ≤ names.length
  ss : ∀ z ∈ seen, z ∈ rooms
  rs : ∀ r ∈ rows, r.n ∈ names
theorem nd_len : ∀ {l m : List Str}, l.Nodup → (∀ z ∈ l, z ∈ m) → l.length ≤ m.length
  | [], m, _, _ => Nat.zero_le _
  | x :: l, m, h, s => by
    have hx := s x (.head _)
    have ih := nd_len (m := m.erase x) (List.nodup_cons.mp h).2 fun z hz => by
      rw [List.mem_erase_of_ne (fun (e : z = x) => (List.nodup_cons.mp h).1 (e ▸ hz))]
      exact s z (.tail _ hz)
    have := List.length_erase_of_mem hx
    have h0 : 0 < m.length := List.length_pos_of_mem hx
    rw [List.length_cons]
    omega
theorem Pool.next {rooms names seen seen' : List Str} {rows rows' : List Row} {d : Deed} (p : Pool rooms names seen rows) (h : Does seen rows d seen' rows') (hl : ∀ r, d = .lay r → r.n ∈ names ∧ r.a ∈ rooms ∧ r.b ∈ rooms) : Pool rooms names seen' rows' := by
  refine ⟨h.ok p.ok, p.ro, p.rn, p.r2, p.r5, p.no, p.nn, p.n8, p.n1, fun z hz => ?_, fun r hr => ?_⟩
  · cases h with
    | lay =>
      obtain ⟨_, h2, h3⟩ := hl _ rfl
      rcases seen_or hz with hz | rfl
      · rcases seen_or hz with hz | rfl
        · exact p.ss z hz
        · exact h2
      · exact h3
    | shut => exact p.ss z hz
    | widen => exact p.ss z hz
    | narrow => exact p.ss z hz
  · cases h with
    | lay =>
      obtain ⟨h1, _, _⟩ := hl _ rfl
      rcases List.mem_append.mp hr with hr | hr
      · exact p.rs r hr
      · rw [List.mem_singleton] at hr
        subst hr
        exact h1
    | shut => exact p.rs r (List.mem_of_mem_eraseIdx hr)
    | widen hj =>
      rcases List.mem_or_eq_of_mem_set hr with hr | rfl
      · exact p.rs r hr
      · have q := p.rs _ (List.mem_of_getElem? hj)
        exact q
    | narrow hj =>
      rcases List.mem_or_eq_of_mem_set hr with hr | rfl
      · exact p.rs r hr
      · have q := p.rs _ (List.mem_of_getElem? hj)
        exact q
def freshOf (names held : List Str) : Option Str := names.find? fun z => !held.contains z
def tFresh : TrR := fun as W P' => ∃ (names : List Str) (hp sp : Addr) (rs : List (Addr × Row)) (seen : List Str) (z : Str), as = [.d (.list (sDs names)), .x (.ref hp)] ∧ LawAt W hp sp rs seen ∧ rs.length ≤ 1000 ∧ freshOf names ((rws rs).map Row.n) = some z ∧ P' (.val (.str z))
theorem names_eq (rs : List (Addr × Row)) : (rs.map fun r => PyData.str r.2.n) = ((rws rs).map Row.n).map PyData.str := by
  unfold rws
  rw [List.map_map, List.map_map]
  rfl
theorem c_fresh {f : Addr} {fd : FuncData} (F : Fun K "_law_fresh" "_law_fresh" s_fresh f fd) (hm : mg "_law_fresh" = some (.ref f)) (hb : Binds K fd ["_law_words_here", "_law_held"] []) : CalleeR P w K mg base 1 "_law_fresh" tFresh := by
  refine calleeR_of 5 F sw_fresh hm hb (fun as W P' h => by obtain ⟨names, hp, sp, rs, seen, z, rfl, _⟩ := h; rfl) fun X H0 S0 as W P' hX h => ?_
  obtain ⟨names, hp, sp, rs, seen, z, rfl, hl, rl, hz, h⟩ := h
  show DS X H0 S0 _ [.val (.list (sDs names)), .itm (.ref hp), .junk, .junk, .junk, .wrk false W] _
  refine ds_setMX 2 5 hX [("_law_row", 3)] (enc := fun (r : Addr × Row) => E.ref r.1) (xs := rs) (fun r => PyData.str r.2.n) (dx_v 1 hX) hl.h (by omega) (fun r hr => ⟨_, _, fun X' hX' => dgx_loc 3 hX', by decide, fun X' hX' => de_x (dx_ix 5 (dx_v 3 hX') (hl.r r hr) de_int rfl)⟩) ?_
  rw [names_eq]
  generalize (rws rs).map Row.n = held at *
  refine ds_forT hX (fun r Gi => Gi = [.val (.list (sDs names)), .itm (.ref hp), .own (held.map PyData.str), .junk, .junk, .wrk false W] ∧ freshOf r held = some z) (enc := PyData.str) (xs := names) (di_list (de_v 0 hX)) ⟨rfl, hz⟩ ?_ ?_
  · rintro y r Gi ⟨rfl, hs⟩ _
    refine ⟨_, _, dg_nameN 4 hX, ?_⟩
    unfold freshOf at hs
    rw [List.find?_cons] at hs
    refine ds_if2 (dt_ninS (de_v 4 hX) (dls_o 2 hX)) (fun c => ?_) (fun c => ds_nil (ds_end [4] ⟨rfl, ?_⟩))
    · rw [c] at hs
      cases hs
      exact ds_ret (de_v 4 hX) h
    · rw [c] at hs
      exact hs
  · rintro Gn ⟨rfl, hs⟩
    cases hs
theorem fresh_ex {names held : List Str} (h : ∃ z ∈ names, z ∉ held) : ∃ z, freshOf names held = some z ∧ z ∈ names ∧ z ∉ held := by
  obtain ⟨z, hz, hn⟩ := h
  cases e : freshOf names held with
  | none =>
    have := List.find?_eq_none.mp e z hz
    rw [Bool.not_eq_true, Bool.not_eq_false'] at this
    exact absurd (List.contains_iff_mem.mp this) hn
  | some y =>
    have h1 := List.find?_some e
    have h2 := List.mem_of_find?_eq_some e
    rw [Bool.not_eq_true'] at h1
    exact ⟨y, rfl, h2, fun q => by rw [List.contains_iff_mem.mpr q] at h1; cases h1⟩
/-- some word is left -/
theorem Pool.left {rooms names seen : List Str} {rows : List Row} (p : Pool rooms names seen rows) (h : rows = [] ∨ rows.length < names.length) : ∃ z ∈ names, z ∉ rows.map Row.n := by
  have n1 := p.n1
  apply Classical.byContradiction
  intro c
  have s : ∀ z ∈ names, z ∈ rows.map Row.n := fun z hz => Classical.byContradiction fun q => c ⟨z, hz, q⟩
  have := nd_len p.nn s
  rw [List.length_map] at this
  rcases h with rfl | h
  · have : names.length ≤ 0 := this
    omega
  · omega
theorem Pool.le (p : Pool rooms names seen rows) : rows.length ≤ 26 ∧ seen.length ≤ 26 := by
  have h1 := nd_len p.ok.rn (m := names) fun z hz => by
    obtain ⟨r, hr, rfl⟩ := List.mem_map.mp hz
    exact p.rs r hr
  have h2 := nd_len p.ok.sn p.ss
  have a := p.n8
  have b := p.r5
  rw [List.length_map] at h1
  omega
def tDraw : TrR := fun as W P' => ∃ (c : Int) (hp sp : Addr) (rs : List (Addr × Row)) (seen rooms names : List Str), as = [.d (.int c), .x (.ref hp), .d (.list (sDs rooms)), .d (.list (sDs names))] ∧ LawAt W hp sp rs seen ∧ Pool rooms names seen (rws rs) ∧
  ∀ d seen' rows', Does seen (rws rs) d seen' rows' → Pool rooms names seen' rows' → DBig d → P' (.val (encDeed d))
theorem c_deed {f : Addr} {fd : FuncData} (F : Fun K "_law_deed" "_law_deed" s_deed f fd) (hm : mg "_law_deed" = some (.ref f)) (hb : Binds K fd ["_law_cell", "_law_held", "_law_rooms", "_law_names"] []) (B : Blt mg) (Cm : Callee P w K mg base 1 "_law_mixed" [false, false] tMixed) (Cf : CalleeR P w K mg base 1 "_law_fresh" tFresh) (Cw : Callee P w K mg base 2 "_law_width" [false] (tNum wid)) (Cl : Callee P w K mg base 2 "_law_length" [false] (tNum len_)) : CalleeR P w K mg base 3 "_law_deed" tDraw := by
  refine calleeR_of 9 F sw_deed hm hb (fun as W P' h => by obtain ⟨c, hp, sp, rs, seen, rooms, names, rfl, _⟩ := h; rfl) fun X H0 S0 as W P' hX h => ?_
  obtain ⟨c, hp, sp, rs, seen, rooms, names, rfl, hl, pl, h⟩ := h
  show DS X H0 S0 _ [.val (.int c), .itm (.ref hp), .val (.list (sDs rooms)), .val (.list (sDs names)), .junk, .junk, .junk, .junk, .junk, .wrk false W] _
  have rl : (rws rs).length = rs.length := List.length_map _
  have r2 := pl.r2
  have r5 := pl.r5
  have n0 := mixed_nn c 0
  obtain ⟨le1, le2⟩ := pl.le
  have w1 := wid_ok c
  have l1 := len_ok c
  refine ds_setN 4 hX (he := de_call hX Cm (ha := db_v (de_v 0 hX) (db_v de_int db_nil)) (ht := ⟨_, _, rfl, by decide, by decide, rfl⟩)) (h := ?_)
  generalize mixed c 0 = num at *
  refine ds_setN 5 hX (he := de_mod (de_v 4 hX) de_int) (h := ?_)
  have lr : ∀ {G : List Slot}, G[2]? = some (.val (.list (sDs rooms))) → ∀ {p1 p2 pos : Pos}, DE X H0 S0 (.Call (.Name "len" p1) [.Name "_law_rooms" p2] [] pos) G (.int (rooms.length : Int)) := fun {G} hG {_ _ _} => (de_len hX B.len (ha := dls_val (de_v 2 hX (h := hG)))).cast (by rw [show (sDs rooms).length = rooms.length from List.length_map _])
  have sh : SeqAt.shaped (.list ((rws rs).map fun r => PyData.list (rowDs r))) = true := shp_of pl.ok.shpL (by decide)
  refine ds_if2 (dt_w (dw_or (x := rs.isEmpty) ((dt_eqD hX (dp_x 9 (dx_v 1 hX) (.lst hl.h hl.thaws)) (dp_l (dls_own (do_lst da_nil))) sh (shp_of (n := 1) (shp_list fun x hx => by cases hx) (by decide))).cast (by rw [eqv_nil]; unfold rws; cases rs <;> rfl)) fun _ => dw_t (dt_w (dw_and (dt_c (de_v 5 hX) de_int .lt) fun _ => dw_t (dt_c ((de_lenx 9 hX B.len (dx_v 1 hX) hl.h).cast (y := .int (rs.length : Int)) (by rw [List.length_map])) ((de_len hX B.len (ha := dls_val (de_v 3 hX))).cast (y := .int (names.length : Int)) (by rw [show (sDs names).length = names.length from List.length_map _])) .lt))))) (fun c1 => ?_) (fun c1 => ds_nil ?_)
  · have c2 : rws rs = [] ∨ (rws rs).length < names.length := by
      rw [Bool.or_eq_true, Bool.and_eq_true, List.isEmpty_iff] at c1
      rcases c1 with c1 | ⟨_, c1⟩
      · left; rw [c1]; rfl
      · right
        have := of_decide_eq_true c1
        omega
    have lft := pl.left c2
    obtain ⟨z, hz, zm, zn⟩ := fresh_ex lft
    have rpos : (0 : Int) < rooms.length := by omega
    have i1 := in_m (x := num / 9) (m := rooms.length) (by omega)
    have i2 := in_m (x := num / 9 % rooms.length + 1 + num / 90 % ((rooms.length : Int) - 1)) (m := rooms.length) (by omega)
    have ne : num / 9 % (rooms.length : Int) ≠ (num / 9 % rooms.length + 1 + num / 90 % ((rooms.length : Int) - 1)) % rooms.length := ab_dr (by omega)
    refine ds_setN 6 hX (he := de_mod (de_div (de_v 4 hX) de_int) (lr rfl) rpos) (h := ?_)
    refine ds_setN 7 hX (he := de_mod (de_add (de_add (de_v 6 hX) de_int) (de_mod (de_div (de_v 4 hX) de_int) (de_sub (lr rfl) de_int) (by omega))) (lr rfl) rpos) (h := ?_)
    generalize hi : num / 9 % (rooms.length : Int) = i at *
    generalize hj : (i + 1 + num / 90 % ((rooms.length : Int) - 1)) % rooms.length = j at *
    have ia : i.toNat < rooms.length := by omega
    have ja : j.toNat < rooms.length := by omega
    have rne : rooms[i.toNat] ≠ rooms[j.toNat] := fun e => by
      have f1 := pl.rn.idxOf_getElem i.toNat ia
      have f2 := pl.rn.idxOf_getElem j.toNat ja
      rw [e, f2] at f1
      omega
    have at_ : ∀ (k : Int) (hk : 0 ≤ k) (hl : k.toNat < rooms.length), atI (sDs rooms) k = some (.str rooms[k.toNat]) := fun k hk hl => at_enc PyData.str hk (List.getElem?_eq_getElem hl)
    have dd : Does seen (rws rs) (.lay ⟨z, rooms[i.toNat], rooms[j.toNat], wid c, len_ c⟩) (seenAdd (seenAdd seen rooms[i.toNat]) rooms[j.toNat]) (rws rs ++ [⟨z, rooms[i.toNat], rooms[j.toNat], wid c, len_ c⟩]) := by
      refine .lay zn rne w1.1 l1.1 (pl.no z zm) (pl.ro _ (List.getElem_mem _)) (pl.ro _ (List.getElem_mem _)) (by omega) ?_
      have := nd_len (l := seenAdd (seenAdd seen rooms[i.toNat]) rooms[j.toNat]) (m := rooms) (seen_nd (seen_nd pl.ok.sn)) fun y hy => by
        rcases seen_or hy with hy | rfl
        · rcases seen_or hy with hy | rfl
          · exact pl.ss y hy
          · exact List.getElem_mem _
        · exact List.getElem_mem _
      show (seenAdd (seenAdd seen rooms[i.toNat]) rooms[j.toNat]).length ≤ 40
      omega
    have pn := pl.next dd fun r e => by
      cases e
      exact ⟨zm, List.getElem_mem _, List.getElem_mem _⟩
    refine ds_ret (d := encDeed (.lay ⟨z, rooms[i.toNat], rooms[j.toNat], wid c, len_ c⟩)) (de_tup (da_cons de_str (da_cons (de_r (dr_call 9 hX Cf (dam_d (de_v 3 hX) (dam_x (dx_v 1 hX) dam_nil)) ⟨names, hp, sp, rs, seen, z, rfl, hl, by omega, hz, rfl⟩)) (da_cons (de_ix (dls_val (de_v 2 hX)) (de_v 6 hX) (at_ i i1.1 ia)) (da_cons (de_ix (dls_val (de_v 2 hX)) (de_v 7 hX) (at_ j i2.1 ja)) (da_cons (de_call hX Cw (ha := db_v (de_v 0 hX) db_nil) (ht := ⟨_, rfl, rfl⟩)) (da_cons (de_call hX Cl (ha := db_v (de_v 0 hX) db_nil) (ht := ⟨_, rfl, rfl⟩)) da_nil))))))) (h _ _ _ dd pn ⟨w1.2, l1.2⟩)
  · have ne : rs ≠ [] := fun e => by
      subst e
      cases c1
    have lp : 0 < rs.length := List.length_pos_iff.mpr ne
    have i1 : 0 ≤ num / 9 % (rs.length : Int) ∧ num / 9 % (rs.length : Int) < rs.length := ⟨Int.emod_nonneg _ (by omega), Int.emod_lt_of_pos _ (by omega)⟩
    have ia : (num / 9 % (rs.length : Int)).toNat < rs.length := by omega
    have hr : rs[(num / 9 % (rs.length : Int)).toNat]? = some rs[(num / 9 % (rs.length : Int)).toNat] := List.getElem?_eq_getElem ia
    have at_ : atI (rs.map fun r => E.ref r.1) (num / 9 % (rs.length : Int)) = some (E.ref rs[(num / 9 % (rs.length : Int)).toNat].1) := by
      have := atI_nat (xs := rs.map fun r => E.ref r.1) (j := (num / 9 % (rs.length : Int)).toNat) (v := E.ref rs[(num / 9 % (rs.length : Int)).toNat].1) (by rw [List.getElem?_map, hr]; rfl)
      rwa [Int.toNat_of_nonneg i1.1] at this
    generalize (num / 9 % (rs.length : Int)).toNat = j at *
    refine ds_setX 8 hX (he := dx_ix 9 (dx_v 1 hX) hl.h (de_mod (de_div (de_v 4 hX) de_int) ((de_lenx 9 hX B.len (dx_v 1 hX) hl.h).cast (y := .int (rs.length : Int)) (by rw [List.length_map])) (by omega)) at_) (h := ?_)
    have hrw := hl.r rs[j] (List.getElem_mem ia)
    have hj : (rws rs)[j]? = some rs[j].2 := by
      show (rs.map (·.2))[j]? = _
      rw [List.getElem?_map, hr]
      rfl
    generalize rs[j] = q at *
    obtain ⟨qa, r⟩ := q
    have mm := pl.ok.mem r (List.mem_of_getElem? hj)
    simp only at hj hrw
    refine ds_if2 (dt_c (de_v 5 hX) de_int .eq) (fun c2 => ?_) (fun c2 => ds_nil ?_)
    · have dd : Does seen (rws rs) (.shut r.n) seen ((rws rs).eraseIdx j) := .shut hj
      exact ds_ret (d := encDeed (.shut r.n)) (de_tup (da_cons de_str (da_cons (de_x (dx_ix 9 (dx_v 8 hX) hrw de_int rfl)) da_nil))) (h _ _ _ dd (pl.next dd fun r e => by cases e) trivial)
    · refine ds_if2 (dt_w (dw_and (dt_c (de_v 5 hX) de_int .eq) fun _ => dw_t (dt_c (de_x (d := .int r.w) (dx_ix 9 (dx_v 8 hX) hrw de_int rfl)) de_int .gt))) (fun c3 => ?_) (fun c3 => ds_nil ?_)
      · have w2 : 1 < r.w := by
          rw [Bool.and_eq_true] at c3
          exact of_decide_eq_true c3.2
        have m0 : 0 < min (r.w - 1) 3 := by omega
        have e0 := Int.emod_nonneg (num / 90) (show min (r.w - 1) 3 ≠ 0 by omega)
        have e1 := Int.emod_lt_of_pos (num / 90) m0
        have dd : Does seen (rws rs) (.narrow r.n (1 + num / 90 % min (r.w - 1) 3)) seen _ := .narrow hj (by omega) (by omega)
        exact ds_ret (d := encDeed (.narrow r.n (1 + num / 90 % min (r.w - 1) 3))) (de_tup (da_cons de_str (da_cons (de_x (dx_ix 9 (dx_v 8 hX) hrw de_int rfl)) (da_cons (de_add de_int (de_mod (de_div (de_v 4 hX) de_int) (de_min2 hX B.min (ha := de_sub (de_x (d := .int r.w) (dx_ix 9 (dx_v 8 hX) hrw de_int rfl)) de_int) (hb := de_int)) m0)) da_nil)))) (h _ _ _ dd (pl.next dd fun r e => by cases e) trivial)
      · have dd : Does seen (rws rs) (.widen r.n (wid c)) seen _ := .widen hj w1.1
        exact ds_ret (d := encDeed (.widen r.n (wid c))) (de_tup (da_cons de_str (da_cons (de_x (dx_ix 9 (dx_v 8 hX) hrw de_int rfl)) (da_cons (de_call hX Cw (ha := db_v (de_v 0 hX) db_nil) (ht := ⟨_, rfl, rfl⟩)) da_nil)))) (h _ _ _ dd (pl.next dd fun r e => by cases e) w1.2)
/-! ### deeds done -/
def tDo (C : Addr) : TrM := fun as W M => ∃ (A : HAd) (seen seen' : List Str) (rows rows' : List Row) (d : Deed), as = [.x (.ref A.x), .d (encDeed d)] ∧ HallAt C W A seen rows ∧ Ok seen rows ∧ Does seen rows d seen' rows' ∧
  ∀ W', OffH A W W' → HallAt C W' A seen' rows' → M (.d .none) W'
theorem kne {a b : Str} (h : (a == b) = false) : decide (a = b) = false := decide_eq_false fun e => by rw [e, beq_self_eq_true] at h; cases h
theorem c_do {f C : Addr} {fd : FuncData} (F : Fun K "_law_do" "_law_do" s_do f fd) (hm : mg "_law_do" = some (.ref f)) (hb : Binds K fd ["_law_hall", "_law_deed_here"] []) (T : HTxt K mg C) (Cl : MethM P w K mg base 2 C "lay" (tDeed C aLay)) (Cs : MethM P w K mg base 2 C "shut" (tDeed C aShut)) (Cw : MethM P w K mg base 2 C "widen" (tDeed C aWiden)) (Cn : MethM P w K mg base 2 C "narrow" (tDeed C aNarrow)) : CalleeM P w K mg base 3 "_law_do" (tDo C) := by
  refine calleeM_of 2 F sw_do hm hb (fun as W P' h => by obtain ⟨A, _, _, _, _, d, rfl, _⟩ := h; rfl) fun X H0 S0 as W M hX h => ?_
  obtain ⟨A, seen, seen', rows, rows', d, rfl, ha, ok, hd, h⟩ := h
  show DS X H0 S0 _ [.itm (.ref A.x), .val (encDeed d), .wrk true W] _
  have k1 : (("shut" : Str) == "lay") = false := by decide +kernel
  have k2 : (("widen" : Str) == "lay") = false := by decide +kernel
  have k3 : (("narrow" : Str) == "lay") = false := by decide +kernel
  have k4 : (("widen" : Str) == "shut") = false := by decide +kernel
  have k5 : (("narrow" : Str) == "shut") = false := by decide +kernel
  have k6 : (("narrow" : Str) == "widen") = false := by decide +kernel
  have fin : ∀ {f : Deed → Option (List DL.Arg)} {l : List DL.Arg}, f d = some l → tDeed C f (.x (.ref A.x) :: l) W (fun it W' => it = .d .none ∧ OffH A W W' ∧ HallAt C W' A seen' rows') := fun {f l} hf => ⟨A, seen, seen', rows, rows', d, l, hf, rfl, ha, ok, hd, fun W' o hh => ⟨rfl, o, hh⟩⟩
  have out : ∀ it W', (it = E.d .none ∧ OffH A W W' ∧ HallAt C W' A seen' rows') → bodyM 2 M (.eff ([.itm (.ref A.x), .val (encDeed d), .wrk true W].set 2 (.wrk true W')) it) := fun it W' ⟨e, o, hh⟩ => ⟨W', rfl, by rw [e]; exact h W' o hh⟩
  cases d with
  | lay r =>
    refine ds_if2 (t := true) ((dt_c (de_ixt (d := .str "lay") (de_v 1 hX) de_int rfl) de_str .eqs).cast (decide_eq_true rfl)) (fun _ => ?_) (fun c => by cases c)
    exact ds_retM (dm_meth 2 hX Cl T.cl (dx_v 0 hX) ha.x (fl_no A) (dam_d (de_ixt (de_v 1 hX) de_int rfl) (dam_d (de_ixt (de_v 1 hX) de_int rfl) (dam_d (de_ixt (de_v 1 hX) de_int rfl) (dam_d (de_ixt (de_v 1 hX) de_int rfl) (dam_d (de_ixt (de_v 1 hX) de_int rfl) dam_nil))))) (fin rfl)) out
  | shut n =>
    refine ds_if2 (t := false) ((dt_c (de_ixt (d := .str "shut") (de_v 1 hX) de_int rfl) de_str .eqs).cast (kne k1)) (fun c => by cases c) (fun _ => ds_nil ?_)
    refine ds_if2 (t := true) ((dt_c (de_ixt (d := .str "shut") (de_v 1 hX) de_int rfl) de_str .eqs).cast (decide_eq_true rfl)) (fun _ => ?_) (fun c => by cases c)
    exact ds_retM (dm_meth 2 hX Cs T.cl (dx_v 0 hX) ha.x (fl_no A) (dam_d (de_ixt (de_v 1 hX) de_int rfl) dam_nil) (fin rfl)) out
  | widen n m =>
    refine ds_if2 (t := false) ((dt_c (de_ixt (d := .str "widen") (de_v 1 hX) de_int rfl) de_str .eqs).cast (kne k2)) (fun c => by cases c) (fun _ => ds_nil ?_)
    refine ds_if2 (t := false) ((dt_c (de_ixt (d := .str "widen") (de_v 1 hX) de_int rfl) de_str .eqs).cast (kne k4)) (fun c => by cases c) (fun _ => ds_nil ?_)
    refine ds_if2 (t := true) ((dt_c (de_ixt (d := .str "widen") (de_v 1 hX) de_int rfl) de_str .eqs).cast (decide_eq_true rfl)) (fun _ => ?_) (fun c => by cases c)
    exact ds_retM (dm_meth 2 hX Cw T.cl (dx_v 0 hX) ha.x (fl_no A) (dam_d (de_ixt (de_v 1 hX) de_int rfl) (dam_d (de_ixt (de_v 1 hX) de_int rfl) dam_nil)) (fin rfl)) out
  | narrow n m =>
    refine ds_if2 (t := false) ((dt_c (de_ixt (d := .str "narrow") (de_v 1 hX) de_int rfl) de_str .eqs).cast (kne k3)) (fun c => by cases c) (fun _ => ds_nil ?_)
    refine ds_if2 (t := false) ((dt_c (de_ixt (d := .str "narrow") (de_v 1 hX) de_int rfl) de_str .eqs).cast (kne k5)) (fun c => by cases c) (fun _ => ds_nil ?_)
    refine ds_if2 (t := false) ((dt_c (de_ixt (d := .str "narrow") (de_v 1 hX) de_int rfl) de_str .eqs).cast (kne k6)) (fun c => by cases c) (fun _ => ds_nil ?_)
    exact ds_retM (dm_meth 2 hX Cn T.cl (dx_v 0 hX) ha.x (fl_no A) (dam_d (de_ixt (de_v 1 hX) de_int rfl) (dam_d (de_ixt (de_v 1 hX) de_int rfl) dam_nil)) (fin rfl)) out
/-! ### deeds noted -/
def tNoted : TrM := fun as W M => ∃ (hp sp : Addr) (rs : List (Addr × Row)) (seen seen' : List Str) (rows' : List Row) (d : Deed), as = [.x (.ref hp), .x (.ref sp), .d (encDeed d)] ∧ LawAt W hp sp rs seen ∧ Ok seen (rws rs) ∧ Does seen (rws rs) d seen' rows' ∧
  ∀ W' rs', rws rs' = rows' → LawAt W' hp sp rs' seen' → (∀ p, W p ≠ none → p ∉ hp :: sp :: rs.map (·.1) → W' p = W p) → (∀ p ∈ rs'.map (·.1), p ∈ rs.map (·.1) ∨ W p = none) → M (.d .none) W'
theorem refs_er (rs : List (Addr × Row)) (j : Nat) : (rs.map fun r => E.ref r.1).eraseIdx j = (rs.eraseIdx j).map fun r => E.ref r.1 := era_map _ _ _
theorem LawAt.upd {W : Wk} {hp sp : Addr} {rs : List (Addr × Row)} {seen : List Str} (h : LawAt W hp sp rs seen) {j : Nat} {a : Addr} {r r' : Row} (hj : rs[j]? = some (a, r)) : LawAt (updW W a (.lst (rowE r'))) hp sp (rs.set j (a, r')) seen := by
  have nd := h.nd
  rw [List.nodup_cons, List.nodup_cons] at nd
  obtain ⟨n1, n2, n3⟩ := nd
  have am : a ∈ rs.map (·.1) := List.mem_map_of_mem (f := (·.1)) (List.mem_of_getElem? hj)
  have ef : (rs.set j (a, r')).map (·.1) = rs.map (·.1) := by
    rw [List.map_set]
    exact set_at (by rw [List.getElem?_map, hj]; rfl)
  have er : ((rs.set j (a, r')).map fun r => E.ref r.1) = rs.map fun r => E.ref r.1 := by
    rw [List.map_set]
    exact set_at (by rw [List.getElem?_map, hj]; rfl)
  have ha : hp ≠ a := fun e => n1 (by rw [e]; exact .tail _ am)
  have hs : sp ≠ a := fun e => n2 (by rw [e]; exact am)
  refine ⟨by rw [updW_ne ha, er]; exact h.h, by rw [updW_ne hs]; exact h.s, fun x hx => ?_, by rw [ef]; exact h.nd⟩
  obtain ⟨i, hi⟩ := List.mem_iff_getElem?.mp hx
  by_cases e : i = j
  · subst e
    have il : i < rs.length := (List.getElem?_eq_some_iff.mp hj).1
    rw [List.getElem?_set_self il] at hi
    cases hi
    exact updW_same
  · rw [List.getElem?_set_ne (Ne.symm e)] at hi
    have : x.1 ≠ a := fun q => by
      have i1 : (rs.map (·.1))[i]? = some a := by rw [List.getElem?_map, hi, ← q]; rfl
      have j1 : (rs.map (·.1))[j]? = some a := by rw [List.getElem?_map, hj]; rfl
      obtain ⟨il, ie⟩ := List.getElem?_eq_some_iff.mp i1
      obtain ⟨jl, je⟩ := List.getElem?_eq_some_iff.mp j1
      have f1 := n3.idxOf_getElem i il
      have f2 := n3.idxOf_getElem j jl
      rw [ie] at f1
      rw [je, f1] at f2
      exact e f2
    rw [updW_ne this]
    exact h.r x (List.mem_of_getElem? hi)
end
end K

namespace K
open PySem L2 DL Mp Nm
def dName : Deed → Str
  | .lay r => r.n
  | .shut n => n
  | .widen n _ => n
  | .narrow n _ => n
def dKind : Deed → Str
  | .lay _ => "lay"
  | .shut _ => "shut"
  | .widen _ _ => "widen"
  | .narrow _ _ => "narrow"
theorem enc_at0 (d : Deed) : ∃ l, encDeed d = .tuple l ∧ atI l (0 : Int) = some (.str (dKind d)) ∧ atI l (1 : Int) = some (.str (dName d)) := by
  cases d <;> exact ⟨_, rfl, rfl, rfl⟩
theorem LawAt.erase {W : Wk} {hp sp : Addr} {rs : List (Addr × Row)} {seen : List Str} (h : LawAt W hp sp rs seen) (j : Nat) : LawAt (updW W hp (.lst ((rs.map fun r => E.ref r.1).eraseIdx j))) hp sp (rs.eraseIdx j) seen := by
  have nd := h.nd
  rw [List.nodup_cons, List.nodup_cons] at nd
  obtain ⟨n1, n2, n3⟩ := nd
  have hs : sp ≠ hp := fun e => n1 (by rw [e]; exact .head _)
  have sub : ∀ p ∈ (rs.eraseIdx j).map (·.1), p ∈ rs.map (·.1) := fun p hp => by
    obtain ⟨r, hr, rfl⟩ := List.mem_map.mp hp
    exact List.mem_map_of_mem (List.mem_of_mem_eraseIdx hr)
  refine ⟨by rw [updW_same, refs_er], by rw [updW_ne hs]; exact h.s, fun r hr => ?_, ?_⟩
  · have hr' := List.mem_of_mem_eraseIdx hr
    rw [updW_ne (fun e => n1 (.tail _ (by rw [← e]; exact List.mem_map_of_mem hr')))]
    exact h.r r hr'
  · rw [List.nodup_cons, List.nodup_cons]
    refine ⟨fun z => ?_, fun z => n2 (sub _ z), ?_⟩
    · rcases List.mem_cons.mp z with e | z
      · exact hs e.symm
      · exact n1 (.tail _ (sub _ z))
    · rw [← era_map]
      exact n3.sublist (List.eraseIdx_sublist _ _)
theorem sub_new {W : Wk} {p : Addr} {c : Cell} (h : W p = none) : ∀ a d, W a = some d → updW W p c a = some d := fun a d e => by
  rw [updW_ne (fun z => by rw [z, h] at e; cases e)]
  exact e
theorem LawAt.lay {W : Wk} {hp sp : Addr} {rs : List (Addr × Row)} {seen : List Str} {a : Addr} {r : Row} (h : LawAt W hp sp rs seen) (ha : W a = none) : LawAt (updW (updW W a (.lst (rowE r))) hp (.lst ((rs.map fun r => E.ref r.1) ++ [E.ref a]))) hp sp (rs ++ [(a, r)]) seen := by
  have nd := h.nd
  rw [List.nodup_cons, List.nodup_cons] at nd
  obtain ⟨n1, n2, n3⟩ := nd
  have hs : sp ≠ hp := fun e => n1 (by rw [e]; exact .head _)
  have ah : a ≠ hp := fun e => by rw [e, h.h] at ha; cases ha
  have as_ : a ≠ sp := fun e => by rw [e, h.s] at ha; cases ha
  have ar : a ∉ rs.map (·.1) := fun z => by
    obtain ⟨r, hr, rfl⟩ := List.mem_map.mp z
    rw [h.r r hr] at ha
    cases ha
  refine ⟨by rw [updW_same, List.map_append]; rfl, by rw [updW_ne hs, updW_ne (Ne.symm as_)]; exact h.s, fun x hx => ?_, ?_⟩
  · rcases List.mem_append.mp hx with hx | hx
    · have xm : x.1 ∈ rs.map (·.1) := List.mem_map_of_mem hx
      rw [updW_ne (fun e => n1 (.tail _ (by rw [← e]; exact xm))), updW_ne (fun e => ar (by rw [← e]; exact xm))]
      exact h.r x hx
    · rw [List.mem_singleton] at hx
      subst hx
      rw [updW_ne ah, updW_same]
  · rw [List.map_append, List.nodup_cons, List.nodup_cons]
    refine ⟨fun z => ?_, fun z => ?_, ?_⟩
    · rcases List.mem_cons.mp z with e | z
      · exact hs e.symm
      · rcases List.mem_append.mp z with z | z
        · exact n1 (.tail _ z)
        · exact ah (List.mem_singleton.mp z).symm
    · rcases List.mem_append.mp z with z | z
      · exact n2 z
      · exact as_ (List.mem_singleton.mp z).symm
    · rw [List.nodup_append]
      refine ⟨n3, List.nodup_cons.mpr ⟨List.not_mem_nil, List.nodup_nil⟩, fun x hx y hy e => ?_⟩
      have hy : y = a := List.mem_singleton.mp hy
      subst hy
      subst e
      exact ar hx
section
variable {P : Program} {w : World} {K : PySem.W.Frag} {mg : Str → Option Value} {base : Heap}
theorem dt_same {X : Cx} {H0 : Hp} {S0 : AS} {k : Nat} (hX : XOk P w K mg base k w_noted (defScope s_noted) true X) {G : List Slot} {W : Wk} {d : Deed} {qa : Addr} {q : Row} (h2 : G[2]? = some (.val (encDeed d))) (h4 : G[4]? = some (.itm (.ref qa))) (h5 : G[5]? = some (.wrk true W)) (hq : W qa = some (.lst (rowE q))) {kind : Str} {p1 p2 p3 p4 p5 p6 p7 p8 p9 p10 p11 p12 p13 : Pos} {j1 j2 j3 j4 : Nat} :
    DT X H0 S0 (.BoolOp .And [.Compare (.Subscript (.Name "_law_row" p1) (.Constant (.int 0) j1 p2) p3) [.Eq] [.Subscript (.Name "_law_deed_here" p4) (.Constant (.int 1) j2 p5) p6] p7, .Compare (.Subscript (.Name "_law_deed_here" p8) (.Constant (.int 0) j3 p9) p10) [.Eq] [.Constant (.str kind) j4 p11] p12] p13) G (decide (q.n = dName d) && decide (dKind d = kind)) := by
  obtain ⟨l, e, a0, a1⟩ := enc_at0 d
  rw [e] at h2
  exact dt_w (dw_and (dt_c (de_x (d := .str q.n) (dx_ix 5 (dx_v 4 hX (h := h4)) hq de_int rfl (hW := h5))) (de_ixt (de_v 2 hX (h := h2)) de_int a1) .eqs) fun _ => dw_t (dt_c (de_ixt (de_v 2 hX (h := h2)) de_int a0) de_str .eqs))
theorem c_noted {f : Addr} {fd : FuncData} (F : Fun K "_law_noted" "_law_noted" s_noted f fd) (hm : mg "_law_noted" = some (.ref f)) (hb : Binds K fd ["_law_held", "_law_seen", "_law_deed_here"] []) (B : Blt mg) : CalleeM P w K mg base 1 "_law_noted" tNoted := by
  refine calleeM_of 5 F sw_noted hm hb (fun as W P' h => by obtain ⟨hp, sp, rs, _, _, _, d, rfl, _⟩ := h; rfl) fun X H0 S0 as W M hX h => ?_
  obtain ⟨hp, sp, rs, seen, seen', rows', d, rfl, hl, ok, hd, h⟩ := h
  show DS X H0 S0 _ [.itm (.ref hp), .itm (.ref sp), .val (encDeed d), .junk, .junk, .wrk true W] _
  have r60 := ok.r60
  have rl : (rws rs).length = rs.length := List.length_map _
  have nd := hl.nd
  rw [List.nodup_cons, List.nodup_cons] at nd
  obtain ⟨n1, n2, n3⟩ := nd
  have hs : sp ≠ hp := fun e => n1 (by rw [e]; exact .head _)
  have k1 : (("shut" : Str) == "lay") = false := by decide +kernel
  have k2 : (("widen" : Str) == "lay") = false := by decide +kernel
  have k3 : (("narrow" : Str) == "lay") = false := by decide +kernel
  have k4 : (("widen" : Str) == "shut") = false := by decide +kernel
  have k5 : (("narrow" : Str) == "shut") = false := by decide +kernel
  have k6 : (("narrow" : Str) == "widen") = false := by decide +kernel
  have k7 : (("lay" : Str) == "shut") = false := by decide +kernel
  have k8 : (("lay" : Str) == "widen") = false := by decide +kernel
  have k9 : (("lay" : Str) == "narrow") = false := by decide +kernel
  have k10 : (("shut" : Str) == "widen") = false := by decide +kernel
  have k11 : (("shut" : Str) == "narrow") = false := by decide +kernel
  have k12 : (("widen" : Str) == "narrow") = false := by decide +kernel
  -- what lies at a row's place
  have at_row : ∀ (i : Nat) (it : E), (rs.map fun r => E.ref r.1)[i]? = some it → ∃ qa q, rs[i]? = some (qa, q) ∧ it = .ref qa ∧ W qa = some (.lst (rowE q)) := fun i it hi => by
    rw [List.getElem?_map] at hi
    cases e : rs[i]? with
    | none => rw [e] at hi; cases hi
    | some r =>
      rw [e] at hi
      cases hi
      exact ⟨r.1, r.2, rfl, rfl, hl.r r (List.mem_of_getElem? e)⟩
  have nm_ne : ∀ {i j : Nat} {qa qb : Addr} {q r : Row}, rs[i]? = some (qa, q) → rs[j]? = some (qb, r) → i ≠ j → q.n ≠ r.n := fun {i j qa qb q r} h1 h2 hij e => by
    have f1 := idx_at ok.rn (show (rws rs)[i]? = some q by show (rs.map (·.2))[i]? = _; rw [List.getElem?_map, h1]; rfl)
    have f2 := idx_at ok.rn (show (rws rs)[j]? = some r by show (rs.map (·.2))[j]? = _; rw [List.getElem?_map, h2]; rfl)
    rw [e, f2] at f1
    exact hij f1.symm
  have of_rws : ∀ {j : Nat} {r : Row}, (rws rs)[j]? = some r → ∃ a, rs[j]? = some (a, r) := fun {j r} hj => by
    have hj : (rs.map (·.2))[j]? = some r := hj
    rw [List.getElem?_map] at hj
    cases e : rs[j]? with
    | none => rw [e] at hj; cases hj
    | some x =>
      rw [e] at hj
      obtain ⟨a, r'⟩ := x
      cases hj
      exact ⟨a, rfl⟩
  cases hd with
  | @lay r h1 h2 h3 h4 h5 h6 h7 h8 h9 =>
    refine ds_if2 (t := true) ((dt_c (de_ixt (d := .str "lay") (de_v 2 hX) de_int rfl) de_str .eqs).cast (decide_eq_true rfl)) (fun _ => ?_) (fun c => by cases c)
    refine ds_appendWo 5 hX (dx_v 0 hX) hl.h (dox_lst (dxs_cons (dx_d (de_ixt (de_v 2 hX) de_int rfl) (.str r.n)) (dxs_cons (dx_d (de_ixt (de_v 2 hX) de_int rfl) (.str r.a)) (dxs_cons (dx_d (de_ixt (de_v 2 hX) de_int rfl) (.str r.b)) (dxs_cons (dx_d (de_ixt (de_v 2 hX) de_int rfl) (.int r.w)) (dxs_cons (dx_d (de_ixt (de_v 2 hX) de_int rfl) (.int r.l)) dxs_nil)))))) (by rw [List.length_map]; omega) fun a ha => ?_
    change DS X H0 S0 _ [.itm (.ref hp), .itm (.ref sp), .val (encDeed (.lay r)), .junk, .junk, .wrk true (updW (updW W a (.lst (rowE r))) hp (.lst ((rs.map fun r => E.ref r.1) ++ [E.ref a])))] _
    have L1 := hl.lay (r := r) ha
    have fr1 : ∀ p, W p ≠ none → p ∉ hp :: sp :: rs.map (·.1) → (updW (updW W a (.lst (rowE r))) hp (.lst ((rs.map fun r => E.ref r.1) ++ [E.ref a]))) p = W p := fun p hp0 hpn => by
      rw [updW_ne (fun e => hpn (by rw [e]; exact .head _)), updW_ne (fun e => hp0 (by rw [e]; exact ha))]
    generalize hW1 : updW (updW W a (.lst (rowE r))) hp (.lst ((rs.map fun r => E.ref r.1) ++ [E.ref a])) = W1 at *
    have s40 := ok.s40
    refine ds_forT hX (fun l Gi => ∃ (s : List Str) (W' : Wk) (y : Slot), Gi = [.itm (.ref hp), .itm (.ref sp), .val (encDeed (.lay r)), y, .junk, .wrk true W'] ∧ W' sp = some (.lst (eS s)) ∧ (∀ p, p ≠ sp → W' p = W1 p) ∧ l.foldl seenAdd s = seenAdd (seenAdd seen r.a) r.b ∧ s.length + l.length ≤ 1000) (enc := PyData.str) (xs := [r.a, r.b]) ((di_tup (de_slT (ds := [.str "lay", .str r.n, .str r.a, .str r.b, .int r.w, .int r.l]) (l := some 2) (u := some 4) (de_v 2 hX (h := rfl)) (dpo_some de_int) (dpo_some de_int) (by show ¬ (HT.sIx 6 0 (some 2) = 0 ∧ HT.sIx 6 6 (some 4) = 6); decide))).cast rfl)
      ⟨seen, W1, _, rfl, L1.s, fun _ _ => rfl, rfl, by show seen.length + 2 ≤ 1000; omega⟩ ?_ ?_
    · rintro z l Gi ⟨s, W', y, rfl, w1, w2, hf, hlen⟩ _
      refine ⟨_, _, dg_nameN 3 hX, ?_⟩
      have hlen : s.length + (l.length + 1) ≤ 1000 := hlen
      have ef : l.foldl seenAdd (seenAdd s z) = seenAdd (seenAdd seen r.a) r.b := hf
      refine ds_if2 (dt_ninS (de_v 3 hX) (dls_x 5 (dx_v 1 hX) w1)) (fun c => ?_) (fun c => ds_nil (ds_nil ?_))
      · rw [Bool.not_eq_true'] at c
        have es : seenAdd s z = s ++ [z] := by unfold seenAdd; rw [c]; rfl
        rw [es] at ef
        refine ds_appendW 5 hX (dx_v 1 hX) w1 (dx_d (de_v 3 hX) (.str _)) (by rw [len_eS]; omega) (ds_nil (ds_nil ?_))
        refine ⟨s ++ [z], _, _, rfl, ?_, fun p hp => by rw [updW_ne hp]; exact w2 p hp, ef, by rw [List.length_append]; simp only [List.length_cons, List.length_nil]; omega⟩
        rw [updW_same, eS, eS, List.map_append, List.map_append]
        rfl
      · have c : s.contains z = true := by
          cases e : s.contains z with
          | true => rfl
          | false => rw [e] at c; cases c
        have es : seenAdd s z = s := by unfold seenAdd; rw [c]; rfl
        rw [es] at ef
        exact ⟨s, W', _, rfl, w1, w2, ef, by omega⟩
    · rintro Gn ⟨s, W', y, rfl, w1, w2, hf, _⟩
      have hf : s = seenAdd (seenAdd seen r.a) r.b := hf
      subst hf
      have nd1 := L1.nd
      rw [List.nodup_cons, List.nodup_cons] at nd1
      obtain ⟨m1, m2, m3⟩ := nd1
      have L2 : LawAt W' hp sp (rs ++ [(a, r)]) (seenAdd (seenAdd seen r.a) r.b) := by
        refine ⟨by rw [w2 hp (Ne.symm hs)]; exact L1.h, w1, fun x hx => ?_, L1.nd⟩
        rw [w2 x.1 (fun e => m2 (by rw [← e]; exact List.mem_map_of_mem hx))]
        exact L1.r x hx
      refine ds_nil ?_
      refine ds_forWo 5 hX (es := (rs ++ [(a, r)]).map fun r => E.ref r.1) (dox_list 5 hX B.list (dx_v 0 hX) L2.h) (h := fun p hp0 => ?_)
      dsimp only [List.set]
      have L3 := L2.sub (sub_new (c := .lst ((rs ++ [(a, r)]).map fun r => E.ref r.1)) hp0)
      refine ⟨fun i Gi => ∃ y3 y4, Gi = [.itm (.ref hp), .itm (.ref sp), .val (encDeed (.lay r)), y3, y4, .wrk true (updW W' p (.lst ((rs ++ [(a, r)]).map fun r => E.ref r.1)))], fun i Gi ⟨_, _, e⟩ => ⟨true, updW W' p (.lst ((rs ++ [(a, r)]).map fun r => E.ref r.1)), by rw [e]; rfl, updW_same⟩, ⟨_, _, rfl⟩, ?_, ?_⟩
      · rintro i e Gi hi ⟨y3, y4, rfl⟩
        rw [List.getElem?_map] at hi
        obtain ⟨q, hq⟩ : ∃ q, (rs ++ [(a, r)])[i]? = some q := by
          cases z : (rs ++ [(a, r)])[i]? with
          | none => rw [z] at hi; cases hi
          | some q => exact ⟨q, rfl⟩
        rw [hq] at hi
        cases hi
        have hqw := L3.r q (List.mem_of_getElem? hq)
        refine ⟨_, _, dgx_name 4 hX, ?_⟩
        refine ds_if2 (t := false) ((dt_same hX rfl rfl rfl hqw).cast (by rw [show decide (dKind (.lay r) = "shut") = false from kne k7, Bool.and_false])) (fun c => by cases c) (fun _ => ds_nil ?_)
        refine ds_if2 (t := false) ((dt_same hX rfl rfl rfl hqw).cast (by rw [show decide (dKind (.lay r) = "widen") = false from kne k8, Bool.and_false])) (fun c => by cases c) (fun _ => ds_nil ?_)
        refine ds_if2 (t := false) ((dt_same hX rfl rfl rfl hqw).cast (by rw [show decide (dKind (.lay r) = "narrow") = false from kne k9, Bool.and_false])) (fun c => by cases c) (fun _ => ds_nil ?_)
        exact ds_nil ⟨_, _, rfl⟩
      · rintro Gn ⟨y3, y4, rfl⟩
        refine ds_nil ⟨_, rfl, h _ (rs ++ [(a, r)]) (by unfold rws; rw [List.map_append]; rfl) L3 (fun p1 hp1 hn => ?_) fun p1 hp1 => ?_⟩
        · have hs1 : p1 ≠ sp := fun e => hn (by rw [e]; exact .tail _ (.head _))
          have e2 : W' p1 = W p1 := by rw [w2 p1 hs1]; exact fr1 p1 hp1 hn
          rw [updW_ne (fun e => hp1 (by rw [← e2, e]; exact hp0))]
          exact e2
        · rw [List.map_append] at hp1
          exact (List.mem_append.mp hp1).imp id fun z => by rw [List.mem_singleton.mp z]; exact ha
  | @shut r j hj =>
    obtain ⟨a, hja⟩ := of_rws hj
    have jl : j < rs.length := (List.getElem?_eq_some_iff.mp hja).1
    refine ds_if2 (t := false) ((dt_c (de_ixt (d := .str "shut") (de_v 2 hX) de_int rfl) de_str .eqs).cast (kne k1)) (fun c => by cases c) (fun _ => ds_nil ?_)
    refine ds_forWo 5 hX (es := rs.map fun r => E.ref r.1) (dox_list 5 hX B.list (dx_v 0 hX) hl.h) (h := fun p hp0 => ?_)
    dsimp only [List.set]
    have L1 := hl.sub (sub_new (c := .lst (rs.map fun r => E.ref r.1)) hp0)
    have L2 := L1.erase j
    have php : p ≠ hp := fun e => by rw [e, hl.h] at hp0; cases hp0
    have hpp : updW W p (.lst (rs.map fun r => E.ref r.1)) p = some (.lst (rs.map fun r => E.ref r.1)) := updW_same
    have fr : ∀ p1, W p1 ≠ none → p1 ∉ hp :: sp :: rs.map (·.1) → (updW (updW W p (.lst (rs.map fun r => E.ref r.1))) hp (.lst ((rs.map fun r => E.ref r.1).eraseIdx j))) p1 = W p1 := fun p1 h1 h2 => by
      rw [updW_ne (fun e => h2 (by rw [e]; exact .head _)), updW_ne (fun e => h1 (by rw [e]; exact hp0))]
    have rowW : ∀ {qa : Addr} {q : Row}, (qa, q) ∈ rs → updW W p (.lst (rs.map fun r => E.ref r.1)) qa = some (.lst (rowE q)) := fun {qa q} hq => L1.r (qa, q) hq
    generalize hWp : updW W p (.lst (rs.map fun r => E.ref r.1)) = Wp at *
    have hpq : updW Wp hp (.lst ((rs.map fun r => E.ref r.1).eraseIdx j)) p = some (.lst (rs.map fun r => E.ref r.1)) := by rw [updW_ne php]; exact hpp
    have rowQ : ∀ {qa : Addr} {q : Row}, (qa, q) ∈ rs → updW Wp hp (.lst ((rs.map fun r => E.ref r.1).eraseIdx j)) qa = some (.lst (rowE q)) := fun {qa q} hq => by
      rw [updW_ne (fun e => n1 (.tail _ (by rw [← e]; exact List.mem_map_of_mem (f := (·.1)) hq)))]
      exact rowW hq
    obtain ⟨Wi, v1, v2⟩ : ∃ Wi : Nat → Wk, (∀ i, i ≤ j → Wi i = Wp) ∧ ∀ i, j < i → Wi i = updW Wp hp (.lst ((rs.map fun r => E.ref r.1).eraseIdx j)) := ⟨fun i => if i ≤ j then Wp else updW Wp hp (.lst ((rs.map fun r => E.ref r.1).eraseIdx j)), fun i hi => if_pos hi, fun i hi => if_neg (by omega)⟩
    refine ⟨fun i Gi => ∃ y3 y4, Gi = [.itm (.ref hp), .itm (.ref sp), .val (encDeed (.shut r.n)), y3, y4, .wrk true (Wi i)], fun i Gi ⟨_, _, e⟩ => ⟨true, Wi i, by rw [e]; rfl, ?_⟩, ⟨_, _, by rw [v1 0 (by omega)]⟩, ?_, ?_⟩
    · by_cases c : i ≤ j
      · rw [v1 i c]; exact hpp
      · rw [v2 i (by omega)]; exact hpq
    · rintro i e Gi hi ⟨y3, y4, rfl⟩
      obtain ⟨qa, q, hq, rfl, _⟩ := at_row i e hi
      have hqm := List.mem_of_getElem? hq
      have hqi : Wi i qa = some (.lst (rowE q)) := by
        by_cases c : i ≤ j
        · rw [v1 i c]; exact rowW hqm
        · rw [v2 i (by omega)]; exact rowQ hqm
      refine ⟨_, _, dgx_name 4 hX, ?_⟩
      by_cases c : i = j
      · subst c
        rw [hja] at hq
        cases hq
        have v3 := v2 (i + 1) (by omega)
        rw [v1 i (Nat.le_refl _)] at hqi ⊢
        refine ds_if2 (t := true) ((dt_same hX rfl rfl rfl hqi).cast (by rw [show decide (r.n = dName (.shut r.n)) = true from decide_eq_true rfl, show decide (dKind (.shut r.n) = "shut") = true from decide_eq_true rfl]; rfl)) (fun _ => ?_) (fun c => by cases c)
        refine ds_removeW 5 hX (dx_v 0 hX) L1.h L1.thaws (dx_v 4 hX) (L1.thaw hqm) (rows_plain _) (row_plain _) (rows_depth _) (place_row ok.rn hj) (ds_nil ?_)
        have hq2 := rowQ hqm
        refine ds_if2 (t := false) ((dt_same hX rfl rfl rfl hq2).cast (by rw [show decide (dKind (.shut r.n) = "widen") = false from kne k10, Bool.and_false])) (fun c => by cases c) (fun _ => ds_nil ?_)
        refine ds_if2 (t := false) ((dt_same hX rfl rfl rfl hq2).cast (by rw [show decide (dKind (.shut r.n) = "narrow") = false from kne k11, Bool.and_false])) (fun c => by cases c) (fun _ => ds_nil ?_)
        exact ds_nil ⟨_, _, by rw [v3]⟩
      · have ne := nm_ne hq hja c
        have v3 : Wi (i + 1) = Wi i := by
          by_cases c2 : i + 1 ≤ j
          · rw [v1 _ c2, v1 _ (by omega)]
          · rw [v2 _ (by omega), v2 _ (by omega)]
        refine ds_if2 (t := false) ((dt_same hX rfl rfl rfl hqi).cast (by rw [show decide (q.n = dName (.shut r.n)) = false from decide_eq_false ne]; rfl)) (fun c => by cases c) (fun _ => ds_nil ?_)
        refine ds_if2 (t := false) ((dt_same hX rfl rfl rfl hqi).cast (by rw [show decide (q.n = dName (.shut r.n)) = false from decide_eq_false ne]; rfl)) (fun c => by cases c) (fun _ => ds_nil ?_)
        refine ds_if2 (t := false) ((dt_same hX rfl rfl rfl hqi).cast (by rw [show decide (q.n = dName (.shut r.n)) = false from decide_eq_false ne]; rfl)) (fun c => by cases c) (fun _ => ds_nil ?_)
        exact ds_nil ⟨_, _, by rw [v3]⟩
    · rintro Gn ⟨y3, y4, rfl⟩
      rw [v2 _ (by rw [List.length_map]; exact jl)]
      refine ds_nil ⟨_, rfl, h _ (rs.eraseIdx j) (by unfold rws; rw [era_map]) L2 fr fun p1 hp1 => ?_⟩
      obtain ⟨x, hx, rfl⟩ := List.mem_map.mp hp1
      exact .inl (List.mem_map_of_mem (List.mem_of_mem_eraseIdx hx))
  | @widen r j m hj hm1 =>
    obtain ⟨a, hja⟩ := of_rws hj
    have jl : j < rs.length := (List.getElem?_eq_some_iff.mp hja).1
    have am := List.mem_of_getElem? hja
    refine ds_if2 (t := false) ((dt_c (de_ixt (d := .str "widen") (de_v 2 hX) de_int rfl) de_str .eqs).cast (kne k2)) (fun c => by cases c) (fun _ => ds_nil ?_)
    refine ds_forWo 5 hX (es := rs.map fun r => E.ref r.1) (dox_list 5 hX B.list (dx_v 0 hX) hl.h) (h := fun p hp0 => ?_)
    dsimp only [List.set]
    have L1 := hl.sub (sub_new (c := .lst (rs.map fun r => E.ref r.1)) hp0)
    have L2 := L1.upd (r' := { r with w := r.w + m }) hja
    have pa : p ≠ a := fun e => by rw [e, hl.r _ am] at hp0; cases hp0
    have hpp : updW W p (.lst (rs.map fun r => E.ref r.1)) p = some (.lst (rs.map fun r => E.ref r.1)) := updW_same
    have fr : ∀ p1, W p1 ≠ none → p1 ∉ hp :: sp :: rs.map (·.1) → (updW (updW W p (.lst (rs.map fun r => E.ref r.1))) a (.lst (rowE { r with w := r.w + m }))) p1 = W p1 := fun p1 h1 h2 => by
      rw [updW_ne (fun e => h2 (by rw [e]; exact .tail _ (.tail _ (List.mem_map_of_mem (f := (·.1)) am)))), updW_ne (fun e => h1 (by rw [e]; exact hp0))]
    have rowW : ∀ {qa : Addr} {q : Row}, (qa, q) ∈ rs → updW W p (.lst (rs.map fun r => E.ref r.1)) qa = some (.lst (rowE q)) := fun {qa q} hq => L1.r (qa, q) hq
    generalize hWp : updW W p (.lst (rs.map fun r => E.ref r.1)) = Wp at *
    have hpq : updW Wp a (.lst (rowE { r with w := r.w + m })) p = some (.lst (rs.map fun r => E.ref r.1)) := by rw [updW_ne pa]; exact hpp
    obtain ⟨Wi, v1, v2⟩ : ∃ Wi : Nat → Wk, (∀ i, i ≤ j → Wi i = Wp) ∧ ∀ i, j < i → Wi i = updW Wp a (.lst (rowE { r with w := r.w + m })) := ⟨fun i => if i ≤ j then Wp else updW Wp a (.lst (rowE { r with w := r.w + m })), fun i hi => if_pos hi, fun i hi => if_neg (by omega)⟩
    refine ⟨fun i Gi => ∃ y3 y4, Gi = [.itm (.ref hp), .itm (.ref sp), .val (encDeed (.widen r.n m)), y3, y4, .wrk true (Wi i)], fun i Gi ⟨_, _, e⟩ => ⟨true, Wi i, by rw [e]; rfl, ?_⟩, ⟨_, _, by rw [v1 0 (by omega)]⟩, ?_, ?_⟩
    · by_cases c : i ≤ j
      · rw [v1 i c]; exact hpp
      · rw [v2 i (by omega)]; exact hpq
    · rintro i e Gi hi ⟨y3, y4, rfl⟩
      obtain ⟨qa, q, hq, rfl, _⟩ := at_row i e hi
      have hqm := List.mem_of_getElem? hq
      refine ⟨_, _, dgx_name 4 hX, ?_⟩
      by_cases c : i = j
      · subst c
        rw [hja] at hq
        cases hq
        have v3 := v2 (i + 1) (by omega)
        have hqi := rowW hqm
        rw [v1 i (Nat.le_refl _)]
        refine ds_if2 (t := false) ((dt_same hX rfl rfl rfl hqi).cast (by rw [show decide (dKind (.widen r.n m) = "shut") = false from kne k4, Bool.and_false])) (fun c => by cases c) (fun _ => ds_nil ?_)
        refine ds_if2 (t := true) ((dt_same hX rfl rfl rfl hqi).cast (by rw [show decide (r.n = dName (.widen r.n m)) = true from decide_eq_true rfl, show decide (dKind (.widen r.n m) = "widen") = true from decide_eq_true rfl]; rfl)) (fun _ => ?_) (fun c => by cases c)
        refine ds_setixW 5 hX (he := dx_d (de_add (de_x (d := .int r.w) (dx_ix 5 (dx_v 4 hX) hqi de_int rfl)) (de_ixt (d := .int m) (de_v 2 hX) de_int rfl)) (.int _)) (ho := dx_v 4 hX) (hp := hqi) (hb := de_int) (j := 3) (hj := rfl) (ds_nil ?_)
        have hq2 : updW Wp a (.lst ((rowE r).set 3 (.d (.int (r.w + m))))) a = some (.lst (rowE { r with w := r.w + m })) := updW_same
        refine ds_if2 (t := false) ((dt_same hX rfl rfl rfl hq2).cast (by rw [show decide (dKind (.widen r.n m) = "narrow") = false from kne k12, Bool.and_false])) (fun c => by cases c) (fun _ => ds_nil ?_)
        exact ds_nil ⟨_, _, by rw [v3]; rfl⟩
      · have ne := nm_ne hq hja c
        have qne : qa ≠ a := fun e => by
          subst e
          have i1 : (rs.map (·.1))[i]? = some qa := by rw [List.getElem?_map, hq]; rfl
          have j1 : (rs.map (·.1))[j]? = some qa := by rw [List.getElem?_map, hja]; rfl
          obtain ⟨il, ie⟩ := List.getElem?_eq_some_iff.mp i1
          obtain ⟨jl', je⟩ := List.getElem?_eq_some_iff.mp j1
          have f1 := n3.idxOf_getElem i il
          have f2 := n3.idxOf_getElem j jl'
          rw [ie] at f1
          rw [je, f1] at f2
          exact c f2
        have hqi : Wi i qa = some (.lst (rowE q)) := by
          by_cases c : i ≤ j
          · rw [v1 i c]; exact rowW hqm
          · rw [v2 i (by omega), updW_ne qne]; exact rowW hqm
        have v3 : Wi (i + 1) = Wi i := by
          by_cases c2 : i + 1 ≤ j
          · rw [v1 _ c2, v1 _ (by omega)]
          · rw [v2 _ (by omega), v2 _ (by omega)]
        refine ds_if2 (t := false) ((dt_same hX rfl rfl rfl hqi).cast (by rw [show decide (q.n = dName (.widen r.n m)) = false from decide_eq_false ne]; rfl)) (fun c => by cases c) (fun _ => ds_nil ?_)
        refine ds_if2 (t := false) ((dt_same hX rfl rfl rfl hqi).cast (by rw [show decide (q.n = dName (.widen r.n m)) = false from decide_eq_false ne]; rfl)) (fun c => by cases c) (fun _ => ds_nil ?_)
        refine ds_if2 (t := false) ((dt_same hX rfl rfl rfl hqi).cast (by rw [show decide (q.n = dName (.widen r.n m)) = false from decide_eq_false ne]; rfl)) (fun c => by cases c) (fun _ => ds_nil ?_)
        exact ds_nil ⟨_, _, by rw [v3]⟩
    · rintro Gn ⟨y3, y4, rfl⟩
      rw [v2 _ (by rw [List.length_map]; exact jl)]
      refine ds_nil ⟨_, rfl, h _ (rs.set j (a, { r with w := r.w + m })) (by unfold rws; rw [List.map_set]) L2 fr fun p1 hp1 => .inl ?_⟩
      rw [List.map_set] at hp1
      rcases List.mem_or_eq_of_mem_set hp1 with z | z
      · exact z
      · rw [z]; exact List.mem_map_of_mem (f := (·.1)) am
  | @narrow r j m hj hm1 hm2 =>
    obtain ⟨a, hja⟩ := of_rws hj
    have jl : j < rs.length := (List.getElem?_eq_some_iff.mp hja).1
    have am := List.mem_of_getElem? hja
    refine ds_if2 (t := false) ((dt_c (de_ixt (d := .str "narrow") (de_v 2 hX) de_int rfl) de_str .eqs).cast (kne k3)) (fun c => by cases c) (fun _ => ds_nil ?_)
    refine ds_forWo 5 hX (es := rs.map fun r => E.ref r.1) (dox_list 5 hX B.list (dx_v 0 hX) hl.h) (h := fun p hp0 => ?_)
    dsimp only [List.set]
    have L1 := hl.sub (sub_new (c := .lst (rs.map fun r => E.ref r.1)) hp0)
    have L2 := L1.upd (r' := { r with w := r.w - m }) hja
    have pa : p ≠ a := fun e => by rw [e, hl.r _ am] at hp0; cases hp0
    have hpp : updW W p (.lst (rs.map fun r => E.ref r.1)) p = some (.lst (rs.map fun r => E.ref r.1)) := updW_same
    have fr : ∀ p1, W p1 ≠ none → p1 ∉ hp :: sp :: rs.map (·.1) → (updW (updW W p (.lst (rs.map fun r => E.ref r.1))) a (.lst (rowE { r with w := r.w - m }))) p1 = W p1 := fun p1 h1 h2 => by
      rw [updW_ne (fun e => h2 (by rw [e]; exact .tail _ (.tail _ (List.mem_map_of_mem (f := (·.1)) am)))), updW_ne (fun e => h1 (by rw [e]; exact hp0))]
    have rowW : ∀ {qa : Addr} {q : Row}, (qa, q) ∈ rs → updW W p (.lst (rs.map fun r => E.ref r.1)) qa = some (.lst (rowE q)) := fun {qa q} hq => L1.r (qa, q) hq
    generalize hWp : updW W p (.lst (rs.map fun r => E.ref r.1)) = Wp at *
    have hpq : updW Wp a (.lst (rowE { r with w := r.w - m })) p = some (.lst (rs.map fun r => E.ref r.1)) := by rw [updW_ne pa]; exact hpp
    obtain ⟨Wi, v1, v2⟩ : ∃ Wi : Nat → Wk, (∀ i, i ≤ j → Wi i = Wp) ∧ ∀ i, j < i → Wi i = updW Wp a (.lst (rowE { r with w := r.w - m })) := ⟨fun i => if i ≤ j then Wp else updW Wp a (.lst (rowE { r with w := r.w - m })), fun i hi => if_pos hi, fun i hi => if_neg (by omega)⟩
    refine ⟨fun i Gi => ∃ y3 y4, Gi = [.itm (.ref hp), .itm (.ref sp), .val (encDeed (.narrow r.n m)), y3, y4, .wrk true (Wi i)], fun i Gi ⟨_, _, e⟩ => ⟨true, Wi i, by rw [e]; rfl, ?_⟩, ⟨_, _, by rw [v1 0 (by omega)]⟩, ?_, ?_⟩
    · by_cases c : i ≤ j
      · rw [v1 i c]; exact hpp
      · rw [v2 i (by omega)]; exact hpq
    · rintro i e Gi hi ⟨y3, y4, rfl⟩
      obtain ⟨qa, q, hq, rfl, _⟩ := at_row i e hi
      have hqm := List.mem_of_getElem? hq
      refine ⟨_, _, dgx_name 4 hX, ?_⟩
      by_cases c : i = j
      · subst c
        rw [hja] at hq
        cases hq
        have v3 := v2 (i + 1) (by omega)
        have hqi := rowW hqm
        rw [v1 i (Nat.le_refl _)]
        refine ds_if2 (t := false) ((dt_same hX rfl rfl rfl hqi).cast (by rw [show decide (dKind (.narrow r.n m) = "shut") = false from kne k5, Bool.and_false])) (fun c => by cases c) (fun _ => ds_nil ?_)
        refine ds_if2 (t := false) ((dt_same hX rfl rfl rfl hqi).cast (by rw [show decide (dKind (.narrow r.n m) = "widen") = false from kne k6, Bool.and_false])) (fun c => by cases c) (fun _ => ds_nil ?_)
        refine ds_if2 (t := true) ((dt_same hX rfl rfl rfl hqi).cast (by rw [show decide (r.n = dName (.narrow r.n m)) = true from decide_eq_true rfl, show decide (dKind (.narrow r.n m) = "narrow") = true from decide_eq_true rfl]; rfl)) (fun _ => ?_) (fun c => by cases c)
        refine ds_setixW 5 hX (he := dx_d (de_sub (de_x (d := .int r.w) (dx_ix 5 (dx_v 4 hX) hqi de_int rfl)) (de_ixt (d := .int m) (de_v 2 hX) de_int rfl)) (.int _)) (ho := dx_v 4 hX) (hp := hqi) (hb := de_int) (j := 3) (hj := rfl) (ds_nil ?_)
        exact ds_nil ⟨_, _, by rw [v3]; rfl⟩
      · have ne := nm_ne hq hja c
        have qne : qa ≠ a := fun e => by
          subst e
          have i1 : (rs.map (·.1))[i]? = some qa := by rw [List.getElem?_map, hq]; rfl
          have j1 : (rs.map (·.1))[j]? = some qa := by rw [List.getElem?_map, hja]; rfl
          obtain ⟨il, ie⟩ := List.getElem?_eq_some_iff.mp i1
          obtain ⟨jl', je⟩ := List.getElem?_eq_some_iff.mp j1
          have f1 := n3.idxOf_getElem i il
          have f2 := n3.idxOf_getElem j jl'
          rw [ie] at f1
          rw [je, f1] at f2
          exact c f2
        have hqi : Wi i qa = some (.lst (rowE q)) := by
          by_cases c : i ≤ j
          · rw [v1 i c]; exact rowW hqm
          · rw [v2 i (by omega), updW_ne qne]; exact rowW hqm
        have v3 : Wi (i + 1) = Wi i := by
          by_cases c2 : i + 1 ≤ j
          · rw [v1 _ c2, v1 _ (by omega)]
          · rw [v2 _ (by omega), v2 _ (by omega)]
        refine ds_if2 (t := false) ((dt_same hX rfl rfl rfl hqi).cast (by rw [show decide (q.n = dName (.narrow r.n m)) = false from decide_eq_false ne]; rfl)) (fun c => by cases c) (fun _ => ds_nil ?_)
        refine ds_if2 (t := false) ((dt_same hX rfl rfl rfl hqi).cast (by rw [show decide (q.n = dName (.narrow r.n m)) = false from decide_eq_false ne]; rfl)) (fun c => by cases c) (fun _ => ds_nil ?_)
        refine ds_if2 (t := false) ((dt_same hX rfl rfl rfl hqi).cast (by rw [show decide (q.n = dName (.narrow r.n m)) = false from decide_eq_false ne]; rfl)) (fun c => by cases c) (fun _ => ds_nil ?_)
        exact ds_nil ⟨_, _, by rw [v3]⟩
    · rintro Gn ⟨y3, y4, rfl⟩
      rw [v2 _ (by rw [List.length_map]; exact jl)]
      refine ds_nil ⟨_, rfl, h _ (rs.set j (a, { r with w := r.w - m })) (by unfold rws; rw [List.map_set]) L2 fr fun p1 hp1 => .inl ?_⟩
      rw [List.map_set] at hp1
      rcases List.mem_or_eq_of_mem_set hp1 with z | z
      · exact z
      · rw [z]; exact List.mem_map_of_mem (f := (·.1)) am
end
end K

namespace K
open PySem L2 DL Mp Nm
theorem LawAt.off {A : HAd} {W W' : Wk} {hp sp : Addr} {rs : List (Addr × Row)} {seen : List Str} (h : LawAt W hp sp rs seen) (a : Apart A hp sp rs) (o : OffH A W W') : LawAt W' hp sp rs seen := by
  have q : ∀ p ∈ hp :: sp :: rs.map (·.1), W' p = W p := fun p hp => by
    obtain ⟨_, a2, a3, a4⟩ := a.ne p hp
    exact o p a2 a3 a4
  exact ⟨by rw [q hp (.head _)]; exact h.h, by rw [q sp (.tail _ (.head _))]; exact h.s, fun r hr => by rw [q r.1 (.tail _ (.tail _ (List.mem_map_of_mem hr)))]; exact h.r r hr, h.nd⟩
/-- what the law notes leaves a hall alone -/
theorem HallAt.noted {C : Addr} {A : HAd} {W W' : Wk} {hp sp : Addr} {rs rs' : List (Addr × Row)} {seen : List Str} {rows : List Row} (h : HallAt C W A seen rows) (a : Apart A hp sp rs) (fr : ∀ p, W p ≠ none → p ∉ hp :: sp :: rs.map (·.1) → W' p = W p) (nw : ∀ p ∈ rs'.map (·.1), p ∈ rs.map (·.1) ∨ W p = none) : HallAt C W' A seen rows ∧ Apart A hp sp rs' := by
  have q : ∀ {p : Addr} {c : Cell}, W p = some c → (∀ y ∈ hp :: sp :: rs.map (·.1), y ≠ p) → W' p = some c := fun {p c} e n => by rw [fr p (by rw [e]; exact Option.some_ne_none _) fun z => n p z rfl]; exact e
  refine ⟨⟨q h.x fun y hy => (a.ne y hy).1, q h.r fun y hy => (a.ne y hy).2.1, q h.m fun y hy => (a.ne y hy).2.2.1, q h.h fun y hy => (a.ne y hy).2.2.2, h.rm, h.mh, h.rh⟩, ⟨fun p hp' => ?_⟩⟩
  rcases List.mem_cons.mp hp' with rfl | hp'
  · exact a.ne p (.head _)
  rcases List.mem_cons.mp hp' with rfl | hp'
  · exact a.ne p (.tail _ (.head _))
  rcases nw p hp' with z | z
  · exact a.ne p (.tail _ (.tail _ z))
  · have d : ∀ {b : Addr} {c : Cell}, W b = some c → p ≠ b := fun e z2 => by rw [z2, e] at z; cases z
    exact ⟨d h.x, d h.r, d h.m, d h.h⟩
/-- two halls -/
structure Two (A B : HAd) : Prop where
  ne : ∀ p, p = B.x ∨ p = B.r ∨ p = B.m ∨ p = B.h → p ≠ A.r ∧ p ≠ A.m ∧ p ≠ A.h
theorem HallAt.off {C : Addr} {A B : HAd} {W W' : Wk} {seen : List Str} {rows : List Row} (h : HallAt C W B seen rows) (t : Two A B) (o : OffH A W W') : HallAt C W' B seen rows := by
  have q : ∀ p, p = B.x ∨ p = B.r ∨ p = B.m ∨ p = B.h → W' p = W p := fun p hp => o p (t.ne p hp).1 (t.ne p hp).2.1 (t.ne p hp).2.2
  exact ⟨by rw [q _ (.inl rfl)]; exact h.x, by rw [q _ (.inr (.inl rfl))]; exact h.r, by rw [q _ (.inr (.inr (.inl rfl)))]; exact h.m, by rw [q _ (.inr (.inr (.inr rfl)))]; exact h.h, h.rm, h.mh, h.rh⟩
/-- a hall made -/
def Made (C : Addr) (W : Wk) (s g : Str) (it : E) (W' : Wk) : Prop := ∃ A : HAd, it = .ref A.x ∧ HallAt C W' A [s, g] [] ∧ (∀ q c, W q = some c → W' q = some c) ∧ W A.x = none ∧ W A.r = none ∧ W A.m = none ∧ W A.h = none
theorem made_of {C : Addr} {W : Wk} {s g : Str} (os : NameOk s) (og : NameOk g) (hne : s ≠ g) : ∀ a dx, W a = none → W dx = none → dx ≠ a → tInit C (.x (.ref a) :: [.d (.str s), .d (.str g)]) (updW (updW W dx (.raw (.own a))) a (icell C dx [])) (fun it W' => it = .d .none ∧ Made C W s g (.ref a) W') := fun a dx ha hdx hd => by
  refine ⟨a, dx, s, g, rfl, updW_same, by rw [updW_ne hd, updW_same]; exact Option.some_ne_none _, os, og, hne, fun A W' hx hdx' hr hm hh fr hall => ⟨rfl, A, by rw [hx], hall, fun q c e => ?_, by rw [hx]; exact ha, ?_, ?_, ?_⟩⟩
  · have qa : q ≠ a := fun z => by rw [z, ha] at e; cases e
    have qd : q ≠ dx := fun z => by rw [z, hdx] at e; cases e
    have e1 : updW (updW W dx (.raw (.own a))) a (icell C dx []) q = some c := by rw [updW_ne qa, updW_ne qd]; exact e
    have d : ∀ {b : Addr}, updW (updW W dx (.raw (.own a))) a (icell C dx []) b = none → q ≠ b := fun z z2 => by rw [← z2, e1] at z; cases z
    rw [fr q qa (d hr) (d hm) (d hh)]
    exact e1
  all_goals
    have d : ∀ {b : Addr}, updW (updW W dx (.raw (.own a))) a (icell C dx []) b = none → W b = none := fun {b} z => by
      have b1 : b ≠ a := fun z2 => by rw [z2, updW_same] at z; cases z
      rw [updW_ne b1] at z
      have b2 : b ≠ dx := fun z2 => by rw [z2, updW_same] at z; cases z
      rw [updW_ne b2] at z
      exact z
    first | exact d hr | exact d hm | exact d hh
end K

namespace K
open PySem L2 DL Mp Nm KL
section
variable {P : Program} {w : World} {K : PySem.W.Frag} {mg : Str → Option Value} {base : Heap} {HE NH NN TW TM NP NW NL : Addr}
def tDoZ (C NH NN TW TM NP NW NL : Addr) : TrZ := fun as W x => ∃ (A : HAd) (seen : List Str) (rows : List Row) (d : Deed) (i : Nat), as = [.x (.ref A.x), .d (encDeed d)] ∧ HallAt C W A seen rows ∧ Ok seen rows ∧ Refuses seen rows d i ∧ x = errX NH NN TW TM NP NW NL i
theorem c_do_z {f C : Addr} {fd : FuncData} (F : Fun K "_law_do" "_law_do" s_do f fd) (hm : mg "_law_do" = some (.ref f)) (hb : Binds K fd ["_law_hall", "_law_deed_here"] []) (T : HTxt K mg C) (TE : ETxt K mg HE NH NN TW TM NP NW NL) (Cl : MethZ P w K mg base 3 C "lay" (tDeedZ C NH NN TW TM NP NW NL aLay)) (Cs : MethZ P w K mg base 2 C "shut" (tDeedZ C NH NN TW TM NP NW NL aShut)) (Cw : MethZ P w K mg base 2 C "widen" (tDeedZ C NH NN TW TM NP NW NL aWiden)) (Cn : MethZ P w K mg base 2 C "narrow" (tDeedZ C NH NN TW TM NP NW NL aNarrow)) : CalleeZ P w K mg base 4 "_law_do" (tDoZ C NH NN TW TM NP NW NL) := by
  refine ⟨f, fd, _, fnok_ofZ 2 F sw_do (by decide) (by decide) (fun as W x h => by obtain ⟨A, _, _, d, i, rfl, _⟩ := h; rfl) fun X H0 S0 as W x hX L h => ?_, hm, F.kp, hb⟩
  obtain ⟨A, seen, rows, d, i, rfl, ha, ok, hr, rfl⟩ := h
  show DS X H0 S0 _ [.itm (.ref A.x), .val (encDeed d), .wrk false W] _
  have k1 : (("shut" : Str) == "lay") = false := by decide +kernel
  have k2 : (("widen" : Str) == "lay") = false := by decide +kernel
  have k3 : (("narrow" : Str) == "lay") = false := by decide +kernel
  have k4 : (("widen" : Str) == "shut") = false := by decide +kernel
  have k5 : (("narrow" : Str) == "shut") = false := by decide +kernel
  have k6 : (("narrow" : Str) == "widen") = false := by decide +kernel
  have fin : ∀ {f : Deed → Option (List DL.Arg)} {l : List DL.Arg}, f d = some l → tDeedZ C NH NN TW TM NP NW NL f (.x (.ref A.x) :: l) W (errX NH NN TW TM NP NW NL i) := fun {f l} hf => ⟨A, seen, rows, d, l, i, hf, rfl, ha, ok, hr, rfl⟩
  cases d with
  | lay r =>
    refine ds_if2 (t := true) ((dt_c (de_ixt (d := .str "lay") (de_v 1 hX) de_int rfl) de_str .eqs).cast (decide_eq_true rfl)) (fun _ => ?_) (fun c => by cases c)
    exact ds_z L (dz_ret (dez_meth 2 hX Cl T.cl (dx_v 0 hX) ha.x (fl_no A) (dam_d (de_ixt (de_v 1 hX) de_int rfl) (dam_d (de_ixt (de_v 1 hX) de_int rfl) (dam_d (de_ixt (de_v 1 hX) de_int rfl) (dam_d (de_ixt (de_v 1 hX) de_int rfl) (dam_d (de_ixt (de_v 1 hX) de_int rfl) dam_nil))))) (fin rfl)))
  | shut n =>
    refine ds_if2 (t := false) ((dt_c (de_ixt (d := .str "shut") (de_v 1 hX) de_int rfl) de_str .eqs).cast (kne k1)) (fun c => by cases c) (fun _ => ds_nil ?_)
    refine ds_if2 (t := true) ((dt_c (de_ixt (d := .str "shut") (de_v 1 hX) de_int rfl) de_str .eqs).cast (decide_eq_true rfl)) (fun _ => ?_) (fun c => by cases c)
    exact ds_z L (dz_ret (dez_meth 2 hX Cs T.cl (dx_v 0 hX) ha.x (fl_no A) (dam_d (de_ixt (de_v 1 hX) de_int rfl) dam_nil) (fin rfl)))
  | widen n m =>
    refine ds_if2 (t := false) ((dt_c (de_ixt (d := .str "widen") (de_v 1 hX) de_int rfl) de_str .eqs).cast (kne k2)) (fun c => by cases c) (fun _ => ds_nil ?_)
    refine ds_if2 (t := false) ((dt_c (de_ixt (d := .str "widen") (de_v 1 hX) de_int rfl) de_str .eqs).cast (kne k4)) (fun c => by cases c) (fun _ => ds_nil ?_)
    refine ds_if2 (t := true) ((dt_c (de_ixt (d := .str "widen") (de_v 1 hX) de_int rfl) de_str .eqs).cast (decide_eq_true rfl)) (fun _ => ?_) (fun c => by cases c)
    exact ds_z L (dz_ret (dez_meth 2 hX Cw T.cl (dx_v 0 hX) ha.x (fl_no A) (dam_d (de_ixt (de_v 1 hX) de_int rfl) (dam_d (de_ixt (de_v 1 hX) de_int rfl) dam_nil)) (fin rfl)))
  | narrow n m =>
    refine ds_if2 (t := false) ((dt_c (de_ixt (d := .str "narrow") (de_v 1 hX) de_int rfl) de_str .eqs).cast (kne k3)) (fun c => by cases c) (fun _ => ds_nil ?_)
    refine ds_if2 (t := false) ((dt_c (de_ixt (d := .str "narrow") (de_v 1 hX) de_int rfl) de_str .eqs).cast (kne k5)) (fun c => by cases c) (fun _ => ds_nil ?_)
    refine ds_if2 (t := false) ((dt_c (de_ixt (d := .str "narrow") (de_v 1 hX) de_int rfl) de_str .eqs).cast (kne k6)) (fun c => by cases c) (fun _ => ds_nil ?_)
    exact ds_z L (dz_ret (dez_meth 2 hX Cn T.cl (dx_v 0 hX) ha.x (fl_no A) (dam_d (de_ixt (de_v 1 hX) de_int rfl) (dam_d (de_ixt (de_v 1 hX) de_int rfl) dam_nil)) (fin rfl)))
def tCaught (C NH NN TW TM NP NW NL : Addr) : TrM := fun as W M => ∃ (A : HAd) (seen : List Str) (rows : List Row) (d : Deed) (i : Nat), as = [.x (.ref A.x), .d (encDeed d)] ∧ HallAt C W A seen rows ∧ Ok seen rows ∧ Refuses seen rows d i ∧ ∀ a W', (∀ b c, W b = some c → W' b = some c) → ExAt W' a (eA NH NN TW TM NP NW NL i) → M (.ref a) W'
theorem c_caught {f C : Addr} {fd : FuncData} (F : Fun K "_law_caught" "_law_caught" s_caught f fd) (hm : mg "_law_caught" = some (.ref f)) (hb : Binds K fd ["_law_hall", "_law_deed_here"] []) (TE : ETxt K mg HE NH NN TW TM NP NW NL) (Cz : CalleeZ P w K mg base 4 "_law_do" (tDoZ C NH NN TW TM NP NW NL)) : CalleeM P w K mg base 5 "_law_caught" (tCaught C NH NN TW TM NP NW NL) := by
  refine calleeMT_of 4 F sw_caught hm hb (fun as W M h => by obtain ⟨A, _, _, d, i, rfl, _⟩ := h; rfl) fun X H0 S0 as W M hX tr h => ?_
  obtain ⟨A, seen, rows, d, i, rfl, ha, ok, hr, h⟩ := h
  show DS X H0 S0 _ [.itm (.ref A.x), .val (encDeed d), .junk, .junk, .wrk true W] _
  refine ds_setN 2 hX (he := de_non) (h := ?_)
  refine ds_tryC (x := errX NH NN TW TM NP NW NL i) 3 2 4 hX tr TE.gHE (TE.exm i hr.lt) (fun pn xe hX' => dz_expr (dez_call 4 hX' Cz (dam_x (dx_v 0 hX') (dam_d (de_v 1 hX') dam_nil)) ⟨A, seen, rows, d, i, rfl, ha, ok, hr, rfl⟩)) (fun a W' hW _ hE => ?_)
  exact ds_retx (dx_v 2 hX) ⟨W', rfl, h a W' hW hE⟩
def tPlace0 (C : Addr) : TrM := fun as W M => ∃ (A : HAd) (seen : List Str) (rows : List Row) (d : Deed), as = [.x (.ref A.x), .d (encDeed d)] ∧ HallAt C W A seen rows ∧ Ok seen rows ∧ Refuses seen rows d 0 ∧ M (.d .none) W
theorem c_place {f C : Addr} {fd : FuncData} (F : Fun K "_law_place" "_law_place" s_place f fd) (hm : mg "_law_place" = some (.ref f)) (hb : Binds K fd ["_law_hall", "_law_deed_here"] []) (TE : ETxt K mg HE NH NN TW TM NP NW NL) (Cz : CalleeZ P w K mg base 4 "_law_do" (tDoZ C NH NN TW TM NP NW NL)) : CalleeM P w K mg base 5 "_law_place" (tPlace0 C) := by
  refine calleeMT_of 4 F sw_place hm hb (fun as W M h => by obtain ⟨A, _, _, d, rfl, _⟩ := h; rfl) fun X H0 S0 as W M hX tr h => ?_
  obtain ⟨A, seen, rows, d, rfl, ha, ok, hr, h⟩ := h
  show DS X H0 S0 _ [.itm (.ref A.x), .val (encDeed d), .junk, .junk, .wrk true W] _
  refine ds_setN 2 hX (he := de_neg de_int) (h := ?_)
  refine ds_tryP (C := NH) (v := .non) (d := .none) 3 2 hX tr TE.gNH TE.xNH TE.f TE.pl (fun pn xe hX' => dz_expr (dez_call 4 hX' Cz (dam_x (dx_v 0 hX') (dam_d (de_v 1 hX') dam_nil)) ⟨A, seen, rows, d, 0, rfl, ha, ok, hr, rfl⟩)) (fun H => .non) ?_
  exact ds_retx (dx_d (de_v 2 hX) .non) ⟨W, rfl, h⟩
def tBegun (NN TW : Addr) : TrM := fun as W M => ∃ (s g : Str) (D : Addr), as = [.d (.str s), .d (.str g)] ∧ s.length ≤ 1000 ∧ g.length ≤ 1000 ∧ ((¬ (NameOk s ∧ NameOk g) ∧ D = NN) ∨ (NameOk s ∧ NameOk g ∧ s = g ∧ D = TW)) ∧ ∀ a W', (∀ b c, W b = some c → W' b = some c) → ExAt W' a D → M (.ref a) W'
theorem c_begun {f C : Addr} {fd : FuncData} (F : Fun K "_law_begun" "_law_begun" s_begun f fd) (hm : mg "_law_begun" = some (.ref f)) (hb : Binds K fd ["_law_start", "_law_goal"] []) (TE : ETxt K mg HE NH NN TW TM NP NW NL) (Cz : MakeZ P w K mg base 2 "NamedHall" C (tInitZ NN TW)) : CalleeM P w K mg base 4 "_law_begun" (tBegun NN TW) := by
  refine calleeMT_of 4 F sw_begun hm hb (fun as W M h => by obtain ⟨s, g, D, rfl, _⟩ := h; rfl) fun X H0 S0 as W M hX tr h => ?_
  obtain ⟨s, g, D, rfl, l1, l2, hc, h⟩ := h
  show DS X H0 S0 _ [.val (.str s), .val (.str g), .junk, .junk, .wrk true W] _
  have hx : PySem.W.exmOne K (.ref D) (.ref HE) = some true := by
    rcases hc with ⟨_, rfl⟩ | ⟨_, _, _, rfl⟩
    · exact TE.xNNHE
    · exact TE.xTWHE
  refine ds_setN 2 hX (he := de_non) (h := ?_)
  refine ds_tryC (x := (D, none)) 3 2 4 hX tr TE.gHE hx (fun pn xe hX' => dz_expr (dez_make 4 hX' Cz (dam_d (de_v 0 hX') (dam_d (de_v 1 hX') dam_nil)) (fun a => ⟨a, s, g, rfl, l1, l2, hc.imp (fun z => ⟨z.1, by rw [z.2]⟩) fun z => ⟨z.1, z.2.1, z.2.2.1, by rw [z.2.2.2]⟩⟩))) (fun a W' hW _ hE => ?_)
  exact ds_retx (dx_v 2 hX) ⟨W', rfl, h a W' hW hE⟩
def tNoName : Tr := fun ds P' => ∃ (n : Int), ds = [.int n] ∧ P' (.val (.str (noName n)))
theorem c_no_name {f : Addr} {fd : FuncData} (F : Fun K "_law_no_name" "_law_no_name" s_no_name f fd) (hm : mg "_law_no_name" = some (.ref f)) (hb : Binds K fd ["_law_number"] []) : Callee P w K mg base 1 "_law_no_name" [false] tNoName := by
  refine callee_of F sc_no_name hm hb (fun ds P' h => by obtain ⟨n, rfl, _⟩ := h; rfl) fun X H0 S0 ds P' hX h => ?_
  obtain ⟨n, rfl, h⟩ := h
  have e := Int.emod_nonneg n (show (7 : Int) ≠ 0 by decide)
  have e2 := Int.emod_lt_of_pos n (show (0 : Int) < 7 by decide)
  exact ds_ret (de_ix (dls_own ((do_lst (da_cons de_str (da_cons de_str (da_cons de_str (da_cons de_str (da_cons de_str (da_cons de_str (da_cons de_str da_nil)))))))).cast (ys := noNames.map PyData.str) rfl)) (de_mod (de_v 0 hX) (de_int (i := 7))) (at_E PyData.str (xs := noNames) (i := n % 7) e e2 "")) h
theorem mem_rws {q : Addr × Row} {rs : List (Addr × Row)} (h : q ∈ rs) : q.2 ∈ rws rs := List.mem_map_of_mem (f := (·.2)) h
/-! ### halls that are none -/
def tBegins : TrM := fun as W M => ∃ (n : Int) (R0 : Str) (more : List Str), as = [.d (.int n), .d (.list (sDs (R0 :: more)))] ∧ NameOk R0 ∧ ∀ W', (∀ b c, W b = some c → W' b = some c) → M (.d (.bool true)) W'
theorem c_begins {f : Addr} {fd : FuncData} (F : Fun K "_law_begins" "_law_begins" s_begins f fd) (hm : mg "_law_begins" = some (.ref f)) (hb : Binds K fd ["_law_number", "_law_rooms"] []) (TE : ETxt K mg HE NH NN TW TM NP NW NL) (Ci : CalleeR P w K mg base 1 "_law_is" (tIs K mg)) (Cb : CalleeM P w K mg base 4 "_law_begun" (tBegun NN TW)) (Cn : Callee P w K mg base 1 "_law_no_name" [false] tNoName) : CalleeM P w K mg base 5 "_law_begins" tBegins := by
  refine calleeM_of 2 F sw_begins hm hb (fun as W M h => by obtain ⟨n, R0, more, rfl, _⟩ := h; rfl) fun X H0 S0 as W M hX h => ?_
  obtain ⟨n, R0, more, rfl, o0, h⟩ := h
  show DS X H0 S0 _ [.val (.int n), .val (.list (sDs (R0 :: more))), .wrk true W] _
  have at0 : atI (sDs (R0 :: more)) (0 : Int) = some (.str R0) := at_enc PyData.str (xs := R0 :: more) (i := 0) (x := R0) (by decide) rfl
  refine ds_ifM (M := fun t W' => t = false ∧ ∀ b c, W b = some c → W' b = some c) (dtm_not (dtm_e (dm_imp (dm_callX 2 hX Ci (M1 := fun it W' => ∃ a, it = .ref a ∧ ExAt W' a NN ∧ ∀ b c, W b = some c → W' b = some c) (dm_call 2 hX Cb (dam_d (de_call hX Cn (ha := db_v (de_v 0 hX) db_nil) (ht := ⟨_, rfl, rfl⟩)) (dam_d (de_ix (dls_val (de_v 1 hX)) de_int at0) dam_nil)) ⟨_, _, NN, rfl, (noName_bad _).2, o0.short, .inl ⟨fun z => (noName_bad _).1 z.1, rfl⟩, fun a W' s e => ⟨a, rfl, e, s⟩⟩) (fun it W' _ => dam_d de_int dam_nil) (fun it W' hm => by
    obtain ⟨a, rfl, e, _⟩ := hm
    exact ⟨a, NN, 1, TE.tabNN, by decide, rfl, e, rfl⟩) (.bl true)) fun it W' hm => by
      obtain ⟨rfl, it', a, _, _, s⟩ := hm
      exact ⟨true, rfl, rfl, s⟩))) fun t W1 hm => ?_
  obtain ⟨rfl, s1⟩ := hm
  refine ⟨fun c => (by cases c), fun _ => ds_nil ?_⟩
  dsimp only [List.set]
  refine ds_ifM (M := fun t W' => t = false ∧ ∀ b c, W b = some c → W' b = some c) (dtm_not (dtm_e (dm_imp (dm_callX 2 hX Ci (M1 := fun it W' => ∃ a, it = .ref a ∧ ExAt W' a NN ∧ ∀ b c, W1 b = some c → W' b = some c) (dm_call 2 hX Cb (dam_d (de_ix (dls_val (de_v 1 hX)) de_int at0) (dam_d (de_call hX Cn (ha := db_v (de_div (de_v 0 hX) de_int) db_nil) (ht := ⟨_, rfl, rfl⟩)) dam_nil)) ⟨_, _, NN, rfl, o0.short, (noName_bad _).2, .inl ⟨fun z => (noName_bad _).1 z.2, rfl⟩, fun a W' s e => ⟨a, rfl, e, s⟩⟩) (fun it W' _ => dam_d de_int dam_nil) (fun it W' hm => by
    obtain ⟨a, rfl, e, _⟩ := hm
    exact ⟨a, NN, 1, TE.tabNN, by decide, rfl, e, rfl⟩) (.bl true)) fun it W' hm => by
      obtain ⟨rfl, it', a, _, _, s⟩ := hm
      exact ⟨true, rfl, rfl, fun b c z => s b c (s1 b c z)⟩))) fun t W2 hm => ?_
  obtain ⟨rfl, s2⟩ := hm
  refine ⟨fun c => (by cases c), fun _ => ds_nil ?_⟩
  dsimp only [List.set]
  exact ds_retM (dm_callX 2 hX Ci (d := .bool true) (M1 := fun it W' => ∃ a, it = .ref a ∧ ExAt W' a TW ∧ ∀ b c, W2 b = some c → W' b = some c) (dm_call 2 hX Cb (dam_d (de_ix (dls_val (de_v 1 hX)) de_int at0) (dam_d (de_ix (dls_val (de_v 1 hX)) de_int at0) dam_nil)) ⟨_, _, TW, rfl, o0.short, o0.short, .inr ⟨o0, o0, rfl, rfl⟩, fun a W' s e => ⟨a, rfl, e, s⟩⟩) (fun it W' _ => dam_d de_int dam_nil) (fun it W' hm => by
    obtain ⟨a, rfl, e, _⟩ := hm
    exact ⟨a, TW, 2, TE.tabTW, by decide, rfl, e, rfl⟩) (.bl true)) (fun it W' hm => by
      obtain ⟨rfl, it', a, _, _, s⟩ := hm
      exact ⟨W', rfl, h W' fun b c z => s b c (s2 b c z)⟩)
end
end K

namespace K
open PySem L2 DL Mp Nm KL
section
variable {P : Program} {w : World} {K : PySem.W.Frag} {mg : Str → Option Value} {base : Heap} {HE NH NN TW TM NP NW NL : Addr}
/-! ### what is refused, drawn -/
def encB (x : Nat × Row) : D := .tuple [.int (x.1 : Int), .str x.2.n, .str x.2.a, .str x.2.b, .int x.2.w, .int x.2.l]
def encBd (x : Nat × Deed) : D := .tuple [.int (x.1 : Int), encDeed x.2]
theorem cut9 (z : Str) : (cutS z none (some 9)).length ≤ 9 := by
  rw [str_len, cut_list, List.length_take, sIx_nn (by decide)]
  show min (min 9 _ - 0) _ ≤ 9
  omega
def tBad (rooms : List Str) : TrR := fun as W P' => ∃ (n : Int) (hp sp : Addr) (rs : List (Addr × Row)) (seen : List Str) (R0 R1 : Str) (more : List Str), rooms = R0 :: R1 :: more ∧ as = [.d (.int n), .x (.ref hp), .d (.list (sDs rooms))] ∧ LawAt W hp sp rs seen ∧ Ok seen (rws rs) ∧ NameOk R0 ∧ NameOk R1 ∧ zz R0 ∉ (rws rs).map Row.n ∧ ∀ k d, Refuses seen (rws rs) d k → P' (.val (encBd (k, d)))
theorem c_bad_lay {f : Addr} {fd : FuncData} (F : Fun K "_law_bad_lay" "_law_bad_lay" s_bad_lay f fd) (hm : mg "_law_bad_lay" = some (.ref f)) (hb : Binds K fd ["_law_number", "_law_held", "_law_rooms"] []) (B : Blt mg) (Cn : Callee P w K mg base 1 "_law_no_name" [false] tNoName) : CalleeR P w K mg base 2 "_law_bad_lay" (fun as W P' => ∃ rooms, tBad rooms as W P') := by
  refine calleeR_of 6 F sw_bad_lay hm hb (fun as W P' h => by obtain ⟨rooms, n, hp, sp, rs, seen, R0, R1, more, _, rfl, _⟩ := h; rfl) fun X H0 S0 as W P' hX h => ?_
  obtain ⟨rooms, n, hp, sp, rs, seen, R0, R1, more, rfl, rfl, hl, ok, o0, o1, hz, h⟩ := h
  show DS X H0 S0 _ [.val (.int n), .itm (.ref hp), .val (.list (sDs (R0 :: R1 :: more))), .junk, .junk, .junk, .wrk false W] _
  have s0 := str_k o0.short
  have r60 := ok.r60
  have rl : (rws rs).length = rs.length := List.length_map _
  have sh : SeqAt.shaped (.list ((rws rs).map fun r => PyData.list (rowDs r))) = true := shp_of ok.shpL (by decide)
  have at0 : atI (sDs (R0 :: R1 :: more)) (0 : Int) = some (.str R0) := at_enc PyData.str (xs := R0 :: R1 :: more) (i := 0) (x := R0) (by decide) rfl
  have at1 : atI (sDs (R0 :: R1 :: more)) (1 : Int) = some (.str R1) := at_enc PyData.str (xs := R0 :: R1 :: more) (i := 1) (x := R1) (by decide) rfl
  refine ds_setN 3 hX (d := .str (zz R0)) (he := de_adds de_str (de_sls (de_ix (dls_val (de_v 2 hX)) de_int at0) s0 dpo_none (dpo_some de_int)) (by have := cut9 R0; have := sizeLine_eq; show 2 + _ ≤ _; omega)) (h := ?_)
  have dN : ∀ {G : List Slot} {p1 p2 pos : Pos}, G[0]? = some (.val (.int n)) → DE X H0 S0 (.Call (.Name "_law_no_name" p1) [.Name "_law_number" p2] [] pos) G (.str (noName n)) := fun hG => de_call hX Cn (ha := db_v (de_v 0 hX (h := hG)) db_nil) (ht := ⟨_, rfl, rfl⟩)
  have d0 : ∀ {G : List Slot} {p1 p2 pos : Pos} {j : Nat}, G[2]? = some (.val (.list (sDs (R0 :: R1 :: more)))) → DE X H0 S0 (.Subscript (.Name "_law_rooms" p1) (.Constant (.int 0) j p2) pos) G (.str R0) := fun hG => de_ix (dls_val (de_v 2 hX (h := hG))) de_int at0
  have d1 : ∀ {G : List Slot} {p1 p2 pos : Pos} {j : Nat}, G[2]? = some (.val (.list (sDs (R0 :: R1 :: more)))) → DE X H0 S0 (.Subscript (.Name "_law_rooms" p1) (.Constant (.int 1) j p2) pos) G (.str R1) := fun hG => de_ix (dls_val (de_v 2 hX (h := hG))) de_int at1
  refine ds_setoN 4 hX (he := (do_lst (da_cons (de_tup (da_cons de_int (da_cons (dN rfl) (da_cons (d0 rfl) (da_cons (d0 rfl) (da_cons de_int (da_cons de_int da_nil))))))) da_nil)).cast (ys := (bl1 n R0).map encB) rfl) (h := ?_)
  refine ds_setoN 4 hX (he := do_catE (enc := encB) (xs := bl1 n R0) (ys := bl2 n R0 R1) (dlr_o 4 hX) (dlr_own ((do_lst (da_cons (de_tup (da_cons de_int (da_cons (de_v 3 hX) (da_cons (dN rfl) (da_cons (d1 rfl) (da_cons de_int (da_cons de_int da_nil))))))) da_nil)).cast rfl)) (Nat.le_of_ble_eq_true rfl)) (h := ?_)
  refine ds_setoN 4 hX (he := do_catE (enc := encB) (xs := bl1 n R0 ++ bl2 n R0 R1) (ys := bl3 n R0) (dlr_o 4 hX) (dlr_own ((do_lst (da_cons (de_tup (da_cons de_int (da_cons (de_v 3 hX) (da_cons (d0 rfl) (da_cons (dN rfl) (da_cons de_int (da_cons de_int da_nil))))))) (da_cons (de_tup (da_cons de_int (da_cons (de_v 3 hX) (da_cons (d0 rfl) (da_cons (d0 rfl) (da_cons de_int (da_cons de_int da_nil))))))) da_nil))).cast rfl)) (Nat.le_of_ble_eq_true rfl)) (h := ?_)
  refine ds_setoN 4 hX (he := do_catE (enc := encB) (xs := bl1 n R0 ++ bl2 n R0 R1 ++ bl3 n R0) (ys := bl4 R0 R1) (dlr_o 4 hX) (dlr_own ((do_lst (da_cons (de_tup (da_cons de_int (da_cons (de_v 3 hX) (da_cons (d0 rfl) (da_cons (d1 rfl) (da_cons de_int (da_cons de_int da_nil))))))) (da_cons (de_tup (da_cons de_int (da_cons (de_v 3 hX) (da_cons (d1 rfl) (da_cons (d0 rfl) (da_cons de_int (da_cons de_int da_nil))))))) da_nil))).cast rfl)) (Nat.le_of_ble_eq_true rfl)) (h := ?_)
  refine ds_setoN 4 hX (he := do_catE (enc := encB) (xs := bl1 n R0 ++ bl2 n R0 R1 ++ bl3 n R0 ++ bl4 R0 R1) (ys := bl5 n R0 R1) (dlr_o 4 hX) (dlr_own ((do_lst (da_cons (de_tup (da_cons de_int (da_cons (de_v 3 hX) (da_cons (d0 rfl) (da_cons (d1 rfl) (da_cons (de_sub de_int (de_mod (de_v 0 hX) (de_pow de_int de_int))) (da_cons de_int da_nil))))))) (da_cons (de_tup (da_cons de_int (da_cons (de_v 3 hX) (da_cons (d0 rfl) (da_cons (d1 rfl) (da_cons de_int (da_cons (de_neg de_int) da_nil))))))) da_nil))).cast rfl)) (Nat.le_of_ble_eq_true rfl)) (h := ?_)
  have good := badLay_ok (s := seen) (n := n) o0 o1 hz
  refine ds_if (fun G' => ∃ L : List (Nat × Row), G' = [.val (.int n), .itm (.ref hp), .val (.list (sDs (R0 :: R1 :: more))), .val (.str (zz R0)), .own (L.map encB), .junk, .wrk false W] ∧ 0 < L.length ∧ L.length ≤ 20 ∧ ∀ x ∈ L, Refuses seen (rws rs) (.lay x.2) x.1) (t := !rs.isEmpty) ((dt_neD hX (dp_x 6 (dx_v 1 hX) (.lst hl.h hl.thaws)) (dp_l (dls_own (do_lst da_nil))) sh (shp_of (n := 1) (shp_list fun x hx => by cases hx) (by decide))).cast (by rw [eqv_nil]; unfold rws; cases rs <;> rfl)) (fun c1 => ?_) (fun c1 => ds_nil ⟨_, rfl, by show 0 < 8; decide, by show 8 ≤ 20; decide, good⟩) ?_
  · obtain ⟨q0, rs', rfl⟩ : ∃ q0 rs', rs = q0 :: rs' := by
      cases rs with
      | nil => cases c1
      | cons q0 rs' => exact ⟨q0, rs', rfl⟩
    obtain ⟨q1, e1⟩ : ∃ q1, q0 :: rs' = (q0 :: rs').dropLast ++ [q1] := ⟨_, (List.dropLast_concat_getLast (by simp)).symm⟩
    have mq1 : q1 ∈ q0 :: rs' := by rw [e1]; exact List.mem_append_right _ (List.mem_singleton.mpr rfl)
    have m0 : q0.2.n ∈ (rws (q0 :: rs')).map Row.n := List.mem_map_of_mem (mem_rws (.head _))
    have m1 : q1.2.n ∈ (rws (q0 :: rs')).map Row.n := List.mem_map_of_mem (mem_rws mq1)
    have good2 := badLay2_ok (s := seen) (n := n) o0 o1 m0 m1 (ok.no _ (mem_rws (.head _))) (ok.no _ (mem_rws mq1))
    have atL : atI ((q0 :: rs').map fun r => E.ref r.1) (-1 : Int) = some (E.ref q1.1) := by
      rw [e1, List.map_append]
      exact atI_last _ _
    have dF : ∀ {G : List Slot} {p1 p2 p3 p4 p5 : Pos} {j j' : Nat}, G[1]? = some (.itm (.ref hp)) → G[6]? = some (.wrk false W) → DE X H0 S0 (.Subscript (.Subscript (.Name "_law_held" p1) (.Constant (.int 0) j p2) p3) (.Constant (.int 0) j' p4) p5) G (.str q0.2.n) := fun h1 h6 => de_x (dx_ix 6 (dx_ix 6 (dx_v 1 hX (h := h1)) hl.h de_int (it := E.ref q0.1) (atI_nat (j := 0) rfl) (hW := h6)) (hl.r q0 (.head _)) de_int rfl (hW := h6))
    refine ds_setoN 4 hX (he := (do_catE (enc := encB) (xs := badLay n R0 R1) (ys := bm1 R0 q0.2.n) (dlr_o 4 hX) (dlr_own ((do_lst (da_cons (de_tup (da_cons de_int (da_cons (dF rfl rfl) (da_cons (d0 rfl) (da_cons (d0 rfl) (da_cons de_int (da_cons de_int da_nil))))))) da_nil)).cast rfl)) (Nat.le_of_ble_eq_true rfl))) (h := ?_)
    refine ds_setoN 4 hX (he := do_catE (enc := encB) (xs := badLay n R0 R1 ++ bm1 R0 q0.2.n) (ys := bm2 R0 R1 q1.2.n) (dlr_o 4 hX) (dlr_own ((do_lst (da_cons (de_tup (da_cons de_int (da_cons (de_x (dx_ix 6 (dx_ix 6 (dx_v 1 hX) hl.h (de_neg de_int) atL) (hl.r q1 mq1) de_int rfl)) (da_cons (d0 rfl) (da_cons (d1 rfl) (da_cons de_int (da_cons de_int da_nil))))))) da_nil)).cast rfl)) (Nat.le_of_ble_eq_true rfl)) (h := ?_)
    refine ds_setoN 4 hX (he := do_catE (enc := encB) (xs := badLay n R0 R1 ++ bm1 R0 q0.2.n ++ bm2 R0 R1 q1.2.n) (ys := bm3 n R0 q0.2.n) (dlr_o 4 hX) (dlr_own ((do_lst (da_cons (de_tup (da_cons de_int (da_cons (dF rfl rfl) (da_cons (d0 rfl) (da_cons (dN rfl) (da_cons de_int (da_cons de_int da_nil))))))) da_nil)).cast rfl)) (Nat.le_of_ble_eq_true rfl)) (h := ?_)
    refine ds_nil ⟨_, rfl, by show 0 < 11; decide, by show 11 ≤ 20; decide, fun x hx => ?_⟩
    have e : badLay n R0 R1 ++ bm1 R0 q0.2.n ++ bm2 R0 R1 q1.2.n ++ bm3 n R0 q0.2.n = badLay n R0 R1 ++ badLay2 n R0 R1 q0.2.n q1.2.n := by
      unfold badLay2
      simp only [List.append_assoc]
    rw [e] at hx
    rcases List.mem_append.mp hx with hx | hx
    · exact good x hx
    · exact good2 x hx
  rintro G' ⟨L, rfl, l0, l1, hL⟩
  have i0 : 0 ≤ n / 7 % (L.length : Int) := Int.emod_nonneg _ (by omega)
  have i1 : n / 7 % (L.length : Int) < L.length := Int.emod_lt_of_pos _ (by omega)
  obtain ⟨x, hx⟩ : ∃ x, L[(n / 7 % (L.length : Int)).toNat]? = some x := ⟨_, List.getElem?_eq_getElem (by omega)⟩
  refine ds_setN 5 hX (d := encB x) (he := de_ix (dls_o 4 hX) (de_mod (de_div (de_v 0 hX) de_int) ((de_len hX B.len (ha := dls_o 4 hX)).cast (y := .int (L.length : Int)) (by rw [List.length_map])) (by omega)) (at_enc encB i0 hx)) (h := ?_)
  refine ds_ret (d := encBd (x.1, .lay x.2)) (de_tup (da_cons (de_ixt (de_v 5 hX) de_int rfl) (da_cons (de_catA (ys := [.str x.2.n, .str x.2.a, .str x.2.b, .int x.2.w, .int x.2.l]) (de_tup (da_cons de_str da_nil)) (de_slT (ds := [.int (x.1 : Int), .str x.2.n, .str x.2.a, .str x.2.b, .int x.2.w, .int x.2.l]) (de_v 5 hX) (dpo_some de_int) dpo_none ?_) (Nat.le_of_ble_eq_true rfl)) da_nil))) (h _ _ (hL x (List.mem_of_getElem? hx)))
  show ¬ (HT.sIx 6 0 (some 1) = 0 ∧ HT.sIx 6 6 none = 6)
  decide
end
end K

namespace K
open PySem L2 DL Mp Nm KL
section
variable {P : Program} {w : World} {K : PySem.W.Frag} {mg : Str → Option Value} {base : Heap} {HE NH NN TW TM NP NW NL : Addr}
theorem c_bad {f : Addr} {fd : FuncData} (F : Fun K "_law_bad" "_law_bad" s_bad f fd) (hm : mg "_law_bad" = some (.ref f)) (hb : Binds K fd ["_law_cell", "_law_held", "_law_rooms"] []) (B : Blt mg) (Cm : Callee P w K mg base 1 "_law_mixed" [false, false] tMixed) (Cl : CalleeR P w K mg base 2 "_law_bad_lay" (fun as W P' => ∃ rooms, tBad rooms as W P')) : CalleeR P w K mg base 3 "_law_bad" (fun as W P' => ∃ rooms, tBad rooms as W P') := by
  refine calleeR_of 8 F sw_bad hm hb (fun as W P' h => by obtain ⟨rooms, n, hp, sp, rs, seen, R0, R1, more, _, rfl, _⟩ := h; rfl) fun X H0 S0 as W P' hX h => ?_
  obtain ⟨rooms, c, hp, sp, rs, seen, R0, R1, more, rfl, rfl, hl, ok, o0, o1, hz, h⟩ := h
  show DS X H0 S0 _ [.val (.int c), .itm (.ref hp), .val (.list (sDs (R0 :: R1 :: more))), .junk, .junk, .junk, .junk, .junk, .wrk false W] _
  have s0 := str_k o0.short
  have r60 := ok.r60
  have rl : (rws rs).length = rs.length := List.length_map _
  have sh : SeqAt.shaped (.list ((rws rs).map fun r => PyData.list (rowDs r))) = true := shp_of ok.shpL (by decide)
  have at0 : atI (sDs (R0 :: R1 :: more)) (0 : Int) = some (.str R0) := at_enc PyData.str (xs := R0 :: R1 :: more) (i := 0) (x := R0) (by decide) rfl
  refine ds_setN 3 hX (he := de_call hX Cm (ha := db_v (de_v 0 hX) (db_v de_int db_nil)) (ht := ⟨_, _, rfl, by decide, by decide, rfl⟩)) (h := ?_)
  generalize mixed c 3 = num at *
  refine ds_setN 4 hX (he := de_mod (de_v 3 hX) de_int) (h := ?_)
  refine ds_if2 (dt_w (dw_or (dt_c (de_v 4 hX) de_int .eq) fun _ => dw_t ((dt_eqD hX (dp_x 8 (dx_v 1 hX) (.lst hl.h hl.thaws)) (dp_l (dls_own (do_lst da_nil))) sh (shp_of (n := 1) (shp_list fun x hx => by cases hx) (by decide))).cast (y := rs.isEmpty) (by rw [eqv_nil]; unfold rws; cases rs <;> rfl)))) (fun c1 => ?_) (fun c1 => ds_nil ?_)
  · exact ds_retR (P'' := fun r => P' r) (dr_call 8 hX Cl (dam_d (de_div (de_v 3 hX) de_int) (dam_x (dx_v 1 hX) (dam_d (de_v 2 hX) dam_nil))) ⟨_, _, hp, sp, rs, seen, R0, R1, more, rfl, rfl, hl, ok, o0, o1, hz, fun k d hr => h k d hr⟩) (fun r hr => hr)
  have rpos : 0 < rs.length := by
    rw [Bool.or_eq_false_iff] at c1
    cases rs with
    | nil => exact absurd c1.2 (by decide)
    | cons a b => simp
  have i0 : 0 ≤ num / 3 % (rs.length : Int) := Int.emod_nonneg _ (by omega)
  have i1 : num / 3 % (rs.length : Int) < rs.length := Int.emod_lt_of_pos _ (by omega)
  obtain ⟨q, hq⟩ : ∃ q, rs[(num / 3 % (rs.length : Int)).toNat]? = some q := ⟨_, List.getElem?_eq_getElem (by omega)⟩
  have qm := List.mem_of_getElem? hq
  have ln : ∀ {G : List Slot} {p1 p2 pos : Pos}, G[1]? = some (.itm (.ref hp)) → G[8]? = some (.wrk false W) → DE X H0 S0 (.Call (.Name "len" p1) [.Name "_law_held" p2] [] pos) G (.int (rs.length : Int)) := fun h1 h8 => (de_lenx 8 hX B.len (dx_v 1 hX (h := h1)) hl.h (hW := h8)).cast (by rw [List.length_map])
  have atq : atI (rs.map fun r => E.ref r.1) (num / 3 % (rs.length : Int)) = some (E.ref q.1) := by
    have := atI_nat (xs := rs.map fun r => E.ref r.1) (j := (num / 3 % (rs.length : Int)).toNat) (v := E.ref q.1) (by rw [List.getElem?_map, hq]; rfl)
    rwa [Int.toNat_of_nonneg i0] at this
  refine ds_setN 5 hX (d := .str q.2.n) (he := de_x (dx_ix 8 (dx_ix 8 (dx_v 1 hX) hl.h (de_mod (de_div (de_v 3 hX) de_int) (ln rfl rfl) (by omega)) atq) (hl.r q qm) de_int rfl)) (h := ?_)
  refine ds_setN 6 hX (d := .int q.2.w) (he := de_x (dx_ix 8 (dx_ix 8 (dx_v 1 hX) hl.h (de_mod (de_div (de_v 3 hX) de_int) (ln rfl rfl) (by omega)) atq) (hl.r q qm) de_int rfl)) (h := ?_)
  have hj : (rws rs)[(num / 3 % (rs.length : Int)).toNat]? = some q.2 := by unfold rws; rw [List.getElem?_map, hq]; rfl
  have he : ("" : Str) ∉ (rws rs).map Row.n := fun z => by
    obtain ⟨r, hr, e⟩ := List.mem_map.mp z
    exact (ok.no r hr).ne e
  have good := badDs_ok (s := seen) (n := num) hz he hj
  have zl : ("zz" : Str).length + (cutS R0 none (some 9)).length ≤ sizeLine := by have := cut9 R0; have := sizeLine_eq; show 2 + _ ≤ _; omega
  have dz : ∀ {G : List Slot} {p1 p2 p3 p4 p5 p6 p7 p8 : Pos} {j j' j'' : Nat}, G[2]? = some (.val (.list (sDs (R0 :: R1 :: more)))) → DE X H0 S0 (.BinOp (.Constant (.str "zz") j p1) .Add (.Subscript (.Subscript (.Name "_law_rooms" p2) (.Constant (.int 0) j' p3) p4) (.Slice none (some (.Constant (.int 9) j'' p5)) none p6) p7) p8) G (.str (zz R0)) := fun hG => de_adds de_str (de_sls (de_ix (dls_val (de_v 2 hX (h := hG))) de_int at0) s0 dpo_none (dpo_some de_int)) zl
  have d59 : ∀ {G : List Slot} {p1 p2 p3 p4 p5 p6 p7 p8 : Pos} {j j' j'' : Nat}, G[3]? = some (.val (.int num)) → DE X H0 S0 (.BinOp (.UnaryOp .USub (.Constant (.int 1) j p1) p2) .Sub (.BinOp (.Name "_law_number" p3) .Mod (.BinOp (.Constant (.int 10) j' p4) .Pow (.Constant (.int 59) j'' p5) p6) p7) p8) G (.int (-1 - num % 10 ^ 59)) := fun hG => de_sub (de_neg de_int) (de_mod (de_v 3 hX (h := hG)) (de_pow de_int de_int))
  refine ds_setoN 7 hX (he := DO.cast (ys := (bd1 R0).map encBd) (do_lst (da_cons (de_tup (da_cons de_int (da_cons (de_tup (da_cons de_str (da_cons (dz rfl) da_nil))) da_nil))) (da_cons (de_tup (da_cons de_int (da_cons (de_tup (da_cons de_str (da_cons (dz rfl) (da_cons de_int da_nil)))) da_nil))) da_nil))) rfl) (h := ?_)
  refine ds_setoN 7 hX (he := do_catE (enc := encBd) (xs := bd1 R0) (ys := bd2) (dlr_o 7 hX) (dlr_own (DO.cast (do_lst (da_cons (de_tup (da_cons de_int (da_cons (de_tup (da_cons de_str (da_cons de_str (da_cons de_int da_nil)))) da_nil))) da_nil)) rfl)) (Nat.le_of_ble_eq_true rfl)) (h := ?_)
  refine ds_setoN 7 hX (he := do_catE (enc := encBd) (xs := bd1 R0 ++ bd2) (ys := bd3 num q.2) (dlr_o 7 hX) (dlr_own (DO.cast (do_lst (da_cons (de_tup (da_cons de_int (da_cons (de_tup (da_cons de_str (da_cons (de_v 5 hX) (da_cons de_int da_nil)))) da_nil))) (da_cons (de_tup (da_cons de_int (da_cons (de_tup (da_cons de_str (da_cons (de_v 5 hX) (da_cons (d59 rfl) da_nil)))) da_nil))) (da_cons (de_tup (da_cons de_int (da_cons (de_tup (da_cons de_str (da_cons (de_v 5 hX) (da_cons de_int da_nil)))) da_nil))) da_nil)))) rfl)) (Nat.le_of_ble_eq_true rfl)) (h := ?_)
  refine ds_setoN 7 hX (he := do_catE (enc := encBd) (xs := bd1 R0 ++ bd2 ++ bd3 num q.2) (ys := bd4 q.2) (dlr_o 7 hX) (dlr_own (DO.cast (do_lst (da_cons (de_tup (da_cons de_int (da_cons (de_tup (da_cons de_str (da_cons (de_v 5 hX) (da_cons (de_v 6 hX) da_nil)))) da_nil))) (da_cons (de_tup (da_cons de_int (da_cons (de_tup (da_cons de_str (da_cons (de_v 5 hX) (da_cons (de_neg de_int) da_nil)))) da_nil))) da_nil))) rfl)) (Nat.le_of_ble_eq_true rfl)) (h := ?_)
  refine ds_setoN 7 hX (he := do_catE (enc := encBd) (xs := bd1 R0 ++ bd2 ++ bd3 num q.2 ++ bd4 q.2) (ys := bd5 num q.2) (dlr_o 7 hX) (dlr_own (DO.cast (do_lst (da_cons (de_tup (da_cons de_int (da_cons (de_tup (da_cons de_str (da_cons (de_v 5 hX) (da_cons (de_add (de_add (de_v 6 hX) de_int) (de_mod (de_v 3 hX) de_int)) da_nil)))) da_nil))) da_nil)) rfl)) (Nat.le_of_ble_eq_true rfl)) (h := ?_)
  have k0 : 0 ≤ num / 24 % 9 := Int.emod_nonneg _ (by decide)
  have k1 : num / 24 % 9 < 9 := Int.emod_lt_of_pos _ (by decide)
  obtain ⟨x, hx⟩ : ∃ x, (badDs num R0 q.2)[(num / 24 % 9).toNat]? = some x := ⟨_, List.getElem?_eq_getElem (by show _ < 9; omega)⟩
  exact ds_ret (d := encBd x) (de_ix (dls_o 7 hX (ds := (badDs num R0 q.2).map encBd)) (de_mod (de_div (de_v 3 hX) de_int) (de_int (i := 9))) (at_enc encBd k0 hx)) (h _ _ (good x (List.mem_of_getElem? hx)))
end
end K

namespace KL
open PySem L2 DL Mp Nm K
section
variable {P : Program} {w : World} {K : PySem.W.Frag} {mg : Str → Option Value} {base : Heap} {HE NH NN TW TM NP NW NL : Addr}
/-- not _law_is(_law_caught(_law_hall, (..)), i): the deed is refused so -/
theorem dtm_chk {C : Addr} {k : Nat} {N : List Str} {sc : Scope} {X : Cx} {H0 : Hp} {S0 : AS} {G : List Slot} {p1 p2 p3 p4 p5 p6 p7 p8 : Pos} {x1 : Nat} {es : List Expr} {j : Nat} {W : Wk} {A : HAd} {seen : List Str} {rows : List Row} {d : Deed} {i : Nat} {z : Int} (ih gi : Nat) (hX : XOk P w K mg base (k + 5) N sc true X) (TE : ETxt K mg HE NH NN TW TM NP NW NL) (Ci : CalleeR P w K mg base 1 "_law_is" (tIs K mg)) (Cc : CalleeM P w K mg base 5 "_law_caught" (tCaught C NH NN TW TM NP NW NL)) (ha : HallAt C W A seen rows) (ok : Ok seen rows) (hr : Refuses seen rows d i)
    (hz : z = (i : Int)) (hd : DE X H0 S0 (.Tuple es x1 p1) G (encDeed d)) (hW : G[gi]? = some (.wrk true W) := by rfl) (hh : G[ih]? = some (.itm (.ref A.x)) := by rfl) (hN : N[ih]? = some "_law_hall" := by rfl) (hv : visB sc "_law_hall" = true := by decide +kernel) (hg1 : globB sc "_law_is" = true := by decide +kernel) (hg2 : globB sc "_law_caught" = true := by decide +kernel)
    (s1 : starEach [.Name "_law_hall" p2, .Tuple es x1 p1] X.env = (false, eval (.Name "_law_hall" p2) X.env) :: starEach [.Tuple es x1 p1] X.env := by rfl) (s2 : starEach [.Tuple es x1 p1] X.env = (false, eval (.Tuple es x1 p1) X.env) :: starEach [] X.env := by rfl) (pl1 : (backTo p4 (starEach [.Tuple es x1 p1] X.env)).any (·.1) = false := by rfl)
    (s3 : starEach [.Call (.Name "_law_caught" p3) [.Name "_law_hall" p2, .Tuple es x1 p1] [] p4, .Constant (.int z) j p5] X.env = (false, eval (.Call (.Name "_law_caught" p3) [.Name "_law_hall" p2, .Tuple es x1 p1] [] p4) X.env) :: starEach [.Constant (.int z) j p5] X.env := by rfl) (s4 : starEach [.Constant (.int z) j p5] X.env = (false, eval (.Constant (.int z) j p5) X.env) :: starEach [] X.env := by rfl) (pl2 : (backTo p7 (starEach [.Constant (.int z) j p5] X.env)).any (·.1) = false := by rfl)
    (hi : ∀ whole, PySem.isTrue (.Call (.Name "_law_is" p6) [.Call (.Name "_law_caught" p3) [.Name "_law_hall" p2, .Tuple es x1 p1] [] p4, .Constant (.int z) j p5] [] p7) X.env whole = (do let v ← whole; standAt (Expr.pos (.Call (.Name "_law_is" p6) [.Call (.Name "_law_caught" p3) [.Name "_law_hall" p2, .Tuple es x1 p1] [] p4, .Constant (.int z) j p5] [] p7)); holding [v] (truthy v)) := by intro _; rfl) :
    DTM X H0 S0 (.UnaryOp .Not (.Call (.Name "_law_is" p6) [.Call (.Name "_law_caught" p3) [.Name "_law_hall" p2, .Tuple es x1 p1] [] p4, .Constant (.int z) j p5] [] p7) p8) G gi (fun t W' => t = false ∧ ∀ b c, W b = some c → W' b = some c) := by
  subst hz
  refine dtm_not (dtm_e (dm_imp (dm_callX gi hX Ci (M1 := fun it W' => ∃ a, it = .ref a ∧ ExAt W' a (eA NH NN TW TM NP NW NL i) ∧ ∀ b c, W b = some c → W' b = some c) (dm_call gi hX Cc (dam_x (dx_v ih hX hN hv hh) (dam_d hd dam_nil s2) s1) ⟨A, seen, rows, d, i, rfl, ha, ok, hr, fun a W' s e => ⟨a, rfl, e, s⟩⟩ hW (by omega) hg2 (by decide) s1 pl1) (fun it W' _ => dam_d de_int dam_nil s4) (fun it W' hm => ?_) (.bl true) hW (by omega) hg1 (by decide) s3 pl2) fun it W' hm => ?_) hi)
  · obtain ⟨a, rfl, e, _⟩ := hm
    have := hr.lt
    exact ⟨a, _, i, TE.tab i this, by omega, rfl, e, rfl⟩
  · obtain ⟨rfl, it', a, _, _, s⟩ := hm
    exact ⟨true, rfl, rfl, s⟩
end
end KL
namespace K
open PySem L2 DL Mp Nm KL
section
variable {P : Program} {w : World} {K : PySem.W.Frag} {mg : Str → Option Value} {base : Heap} {HE NH NN TW TM NP NW NL : Addr}
def mkF (s0 s1 z : Str) : Row := ⟨z, s0, s1, 1, 1⟩
theorem add_in {s : List Str} {z : Str} (h : z ∈ s) : seenAdd s z = s := if_pos (List.contains_iff_mem.mpr h)
theorem add_out {s : List Str} {z : Str} (h : z ∉ s) : seenAdd s z = s ++ [z] := by
  unfold seenAdd
  rw [if_neg (fun e => h (List.contains_iff_mem.mp e))]
theorem cut_take (l : List Str) {k : Int} (h : 0 ≤ k) : cutL l none (some k) = l.take k.toNat := by
  show (l.drop 0).take (HT.sIx l.length l.length (some k) - 0) = _
  rw [List.drop_zero, Nat.sub_zero, sIx_nn h]
  exact List.take_eq_take_iff.mpr (by omega)
def tFull (C : Addr) : TrM := fun as W M => ∃ (A : HAd) (hp sp : Addr) (rs : List (Addr × Row)) (seen : List Str), as = [.x (.ref A.x), .x (.ref hp), .x (.ref sp)] ∧ HallAt C W A seen (rws rs) ∧ LawAt W hp sp rs seen ∧ Apart A hp sp rs ∧ Ok seen (rws rs) ∧ (∀ r ∈ rws rs, isWord r.n = true) ∧ (∀ z ∈ seen, isWord z = true) ∧ rs.length ≤ 26 ∧ seen.length ≤ 26 ∧ ∀ W', M (.d (.bool true)) W'
theorem c_full {f C : Addr} {fd : FuncData} (F : Fun K "_law_full" "_law_full" s_full f fd) (hm : mg "_law_full" = some (.ref f)) (hb : Binds K fd ["_law_hall", "_law_held", "_law_seen"] []) (B : Blt mg) (T : HTxt K mg C) (TE : ETxt K mg HE NH NN TW TM NP NW NL) (Cl : MethM P w K mg base 2 C "lay" (tDeed C aLay)) (Cs : MethM P w K mg base 2 C "shut" (tDeed C aShut)) (Cr : MethR P w K mg base 1 C "rooms" (tRooms C)) (Ci : CalleeR P w K mg base 1 "_law_is" (tIs K mg)) (Cc : CalleeM P w K mg base 5 "_law_caught" (tCaught C NH NN TW TM NP NW NL)) : CalleeM P w K mg base 6 "_law_full" (tFull C) := by
  refine calleeM_of 8 F sw_full hm hb (fun as W M h => by obtain ⟨A, hp, sp, rs, seen, rfl, _⟩ := h; rfl) fun X H0 S0 as W M hX h => ?_
  obtain ⟨A, hp, sp, rs, seen, rfl, ha, hl, ap, ok, wN, wR, r26, s26, h⟩ := h
  show DS X H0 S0 _ [.itm (.ref A.x), .itm (.ref hp), .itm (.ref sp), .junk, .junk, .junk, .junk, .junk, .wrk true W] _
  obtain ⟨lw, ll, lp, ln, lt⟩ := lits
  obtain ⟨ow, ol, op_, on, ot, oL⟩ := lits_ok
  have rl : (rws rs).length = rs.length := List.length_map _
  obtain ⟨s0, s1, more, rfl⟩ : ∃ s0 s1 more, seen = s0 :: s1 :: more := by
    match seen, ok.s2 with
    | a :: b :: c, _ => exact ⟨a, b, c, rfl⟩
  have m0 : s0 ∈ s0 :: s1 :: more := .head _
  have m1 : s1 ∈ s0 :: s1 :: more := .tail _ (.head _)
  have n01 : s0 ≠ s1 := fun e => (List.nodup_cons.mp ok.sn).1 (by rw [e]; exact .head _)
  have at0 : atI ((s0 :: s1 :: more).map PyData.str) (0 : Int) = some (.str s0) := at_enc PyData.str (xs := s0 :: s1 :: more) (i := 0) (x := s0) (by decide) rfl
  have at1 : atI ((s0 :: s1 :: more).map PyData.str) (1 : Int) = some (.str s1) := at_enc PyData.str (xs := s0 :: s1 :: more) (i := 1) (x := s1) (by decide) rfl
  have nw : ∀ z, isWord z = false → z ∉ (rws rs).map Row.n := fun z hz => not_word (fun y hy => by
    obtain ⟨r, hr, rfl⟩ := List.mem_map.mp hy
    exact wN r hr) hz
  have ns : ∀ z, isWord z = false → z ∉ s0 :: s1 :: more := fun z hz => not_word wR hz
  refine ds_setoN 3 hX (he := do_lst da_nil) (h := ?_)
  refine ds_fold hX (E := fun (L : List Str) => [.itm (.ref A.x), .itm (.ref hp), .itm (.ref sp), .own (L.map PyData.str), .junk, .junk, .junk, .junk, .wrk true W]) (step := fun L a => L ++ others.cps.toList.map (fillOf a)) (J := fun r L => L.length + 10 * r.length ≤ 80) (s0 := []) (enc := chD) (xs := ones.cps.toList) (hit := di_str de_str) (h0 := rfl) (j0 := by decide +kernel) (hs := ?_) (hj := fun L a r _ hJ => ?_) (he := fun _ => ?_)
  · intro L a r _ hJ
    refine ⟨_, _, dg_nameN 4 hX, ?_⟩
    have ol : (others.cps.toList.map (fillOf a)).length = 10 := by rw [List.length_map]; decide +kernel
    have o10 : others.cps.toList.length = 10 := by decide +kernel
    refine ds_setoN 3 hX (he := do_catE (enc := PyData.str) (xs := L) (ys := others.cps.toList.map (fillOf a)) (dlr_o 3 hX) (dlr_own (do_map hX [("_law_other", 5)] (enc := chD) (xs := others.cps.toList) PyData.str (fun b => fillOf a b) (hit := di_str de_str) (hsz := by rw [o10]; decide) (turn := fun b hb => ⟨_, _, fun X' hX' => dg_loc 5 hX', by decide, fun X' hX' => de_adds (de_adds (x := ⟨#[a]⟩) (y := ⟨#[b]⟩) (de_v 4 hX') (de_v 5 hX') (by have := sizeLine_eq; show 1 + 1 ≤ _; omega)) de_str (by have := sizeLine_eq; show 2 + 2 ≤ _; omega)⟩))) (by rw [ol]; omega)) (h := ?_)
    exact ds_end [4] rfl
  · have ol : (others.cps.toList.map (fillOf a)).length = 10 := by rw [List.length_map]; decide +kernel
    simp only [List.length_cons] at hJ
    rw [List.length_append, ol]
    omega
  have ef : ones.cps.toList.foldl (fun L a => L ++ others.cps.toList.map (fillOf a)) [] = fills := by decide +kernel
  rw [ef]
  refine ds_freezeN 3 (h := ?_)
  -- sixty passages
  have ek : cutL fills none (some (60 - (rs.length : Int))) = fills.take (60 - rs.length) := by
    rw [cut_take _ (by omega)]
    congr 1
    omega
  have dS0 : ∀ {G : List Slot} {p1 p2 p3 : Pos} {j : Nat} {W' : Wk}, LawAt W' hp sp rs (s0 :: s1 :: more) → G[2]? = some (.itm (.ref sp)) → G[8]? = some (.wrk true W') → DE X H0 S0 (.Subscript (.Name "_law_seen" p1) (.Constant (.int 0) j p2) p3) G (.str s0) := fun hl h2 h8 => de_ix (dls_x 8 (dx_v 2 hX (h := h2)) hl.s (hW := h8)) de_int at0
  have dS1 : ∀ {G : List Slot} {p1 p2 p3 : Pos} {j : Nat} {W' : Wk}, LawAt W' hp sp rs (s0 :: s1 :: more) → G[2]? = some (.itm (.ref sp)) → G[8]? = some (.wrk true W') → DE X H0 S0 (.Subscript (.Name "_law_seen" p1) (.Constant (.int 1) j p2) p3) G (.str s1) := fun hl h2 h8 => de_ix (dls_x 8 (dx_v 2 hX (h := h2)) hl.s (hW := h8)) de_int at1
  have kf : ∀ z ∈ fills.take (60 - rs.length), z ∈ fills := fun z hz => List.mem_of_mem_take hz
  have sub_ok : ∀ {done : List Str}, Ok (s0 :: s1 :: more) (rws rs ++ done.map (mkF s0 s1)) → True := fun _ => trivial
  refine ds_forT hX (fun l Gi => ∃ (W : Wk) (done : List Str) (y6 : Slot), Gi = [.itm (.ref A.x), .itm (.ref hp), .itm (.ref sp), .val (.list (fills.map PyData.str)), .junk, .junk, y6, .junk, .wrk true W] ∧ done ++ l = fills.take (60 - rs.length) ∧ HallAt C W A (s0 :: s1 :: more) (rws rs ++ done.map (mkF s0 s1)) ∧ LawAt W hp sp rs (s0 :: s1 :: more) ∧ Ok (s0 :: s1 :: more) (rws rs ++ done.map (mkF s0 s1))) (enc := PyData.str) (xs := fills.take (60 - rs.length))
    ((di_list (de_own (do_sliceE (enc := PyData.str) (xs := fills) (dls_val (de_v 3 hX)) dpo_none (dpo_some (de_sub de_int ((de_lenx 8 hX B.len (dx_v 1 hX) hl.h).cast (y := .int (rs.length : Int)) (by rw [List.length_map]))))))).cast (by rw [ek])) ⟨W, [], _, rfl, rfl, by rw [List.map_nil, List.append_nil]; exact ha, hl, by rw [List.map_nil, List.append_nil]; exact ok⟩ ?_ ?_
  · rintro z l Gi ⟨W, done, y6, rfl, hd, ha, hl, ok'⟩ _
    refine ⟨_, _, dg_nameN 6 hX, ?_⟩
    have hzm : z ∈ fills.take (60 - rs.length) := by rw [← hd]; exact List.mem_append_right _ (.head _)
    have hzf := kf z hzm
    have nd : (done ++ z :: l).Nodup := by rw [hd]; exact fills_nd.sublist (List.take_sublist _ _)
    have zd : z ∉ done := fun q => (List.nodup_append.mp nd).2.2 z q z (.head _) rfl
    have dl : done.length + l.length + 1 ≤ 60 - rs.length := by
      have := congrArg List.length hd
      rw [List.length_append, List.length_cons, List.length_take] at this
      omega
    have dz : Does (s0 :: s1 :: more) (rws rs ++ done.map (mkF s0 s1)) (.lay (mkF s0 s1 z)) (s0 :: s1 :: more) (rws rs ++ done.map (mkF s0 s1) ++ [mkF s0 s1 z]) := by
      have e : seenAdd (seenAdd (s0 :: s1 :: more) (mkF s0 s1 z).a) (mkF s0 s1 z).b = s0 :: s1 :: more := by rw [add_in (z := (mkF s0 s1 z).a) m0]; exact add_in m1
      have := @Does.lay (s0 :: s1 :: more) (rws rs ++ done.map (mkF s0 s1)) (mkF s0 s1 z) ?_ n01 (Int.le_refl _) (Int.le_refl _) (fills_ok z hzf).1 (ok.so _ m0) (ok.so _ m1) ?_ (by rw [e]; exact ok.s40)
      · rw [e] at this
        exact this
      · rw [List.map_append, List.mem_append]
        rintro (q | q)
        · exact nw z (fills_ok z hzf).2 q
        · rw [List.map_map] at q
          obtain ⟨y, hy, e⟩ := List.mem_map.mp q
          exact zd (by rw [← show y = z from e]; exact hy)
      · rw [List.length_append, List.length_map]
        omega
    refine ds_exprM 8 (M := fun it W' => OffH A W W' ∧ HallAt C W' A (s0 :: s1 :: more) (rws rs ++ done.map (mkF s0 s1) ++ [mkF s0 s1 z])) (dm_meth 8 hX Cl T.cl (dx_v 0 hX) ha.x (fl_no A) (dam_d (de_v 6 hX) (dam_d (dS0 hl rfl rfl) (dam_d (dS1 hl rfl rfl) (dam_d de_int (dam_d de_int dam_nil))))) ⟨A, _, _, _, _, .lay (mkF s0 s1 z), _, rfl, rfl, ha, ok', dz, fun W' o hh => ⟨o, hh⟩⟩) fun it W1 hm => ?_
    obtain ⟨o1, ha1⟩ := hm
    dsimp only [List.set]
    refine ds_nil ⟨W1, done ++ [z], _, rfl, by rw [List.append_assoc]; exact hd, ?_, hl.off ap o1, ?_⟩
    · rw [List.map_append, ← List.append_assoc]; exact ha1
    · rw [List.map_append, ← List.append_assoc]; exact dz.ok ok'
  rintro Gn ⟨W1, done, y6, rfl, hd, ha, hl, ok1⟩
  rw [List.append_nil] at hd
  subst hd
  have k1 : (fills.take (60 - rs.length)).length = 60 - rs.length := by rw [List.length_take, fills_len]; omega
  have len60 : (rws rs ++ (fills.take (60 - rs.length)).map (mkF s0 s1)).length = 60 := by rw [List.length_append, List.length_map, k1, rl]; omega
  have nw1 : ∀ z, isWord z = false → z ∉ fills → z ∉ (rws rs ++ (fills.take (60 - rs.length)).map (mkF s0 s1)).map Row.n := fun z hz hf => by
    rw [List.map_append, List.mem_append]
    rintro (q | q)
    · exact nw z hz q
    · rw [List.map_map] at q
      obtain ⟨y, hy, e⟩ := List.mem_map.mp q
      exact hf (by rw [← show y = z from e]; exact kf y hy)
  have oS0 := ok.so _ m0
  have oS1 := ok.so _ m1
  have lastF : ("last" : Str) ∉ fills := fun q => (fills_not _ q).2.1 rfl
  have wayF : ("way" : Str) ∉ fills := fun q => (fills_not _ q).1 rfl
  have pathF : ("path" : Str) ∉ fills := fun q => (fills_not _ q).2.2.1 rfl
  have newoF : ("newone" : Str) ∉ fills := fun q => (fills_not _ q).2.2.2.1 rfl
  have newtF : ("newtwo" : Str) ∉ fills := fun q => (fills_not _ q).2.2.2.2 rfl
  have s2_ : ∀ {W W' W'' : Wk}, (∀ b c, W b = some c → W' b = some c) → (∀ b c, W' b = some c → W'' b = some c) → ∀ b c, W b = some c → W'' b = some c := fun a b x y z => b x y (a x y z)
  refine ds_ifM (M := fun t W' => t = false ∧ ∀ b c, W1 b = some c → W' b = some c) (dtm_chk 0 8 hX TE Ci Cc ha ok1 (d := .lay ⟨"last", s0, s1, 1, 1⟩) (i := 3) (.tm ol oS0 oS1 (nw1 _ ll lastF) n01 (Int.le_refl _) (Int.le_refl _) (.inl (by rw [len60]; exact Nat.le_refl _))) rfl (de_tup (da_cons de_str (da_cons de_str (da_cons (dS0 hl rfl rfl) (da_cons (dS1 hl rfl rfl) (da_cons de_int (da_cons de_int da_nil)))))))) fun t W2 hm => ?_
  obtain ⟨rfl, s2⟩ := hm
  refine ⟨fun c => (by cases c), fun _ => ds_nil ?_⟩
  dsimp only [List.set]
  have ha := ha.sub s2
  have hl := hl.sub s2
  have f0 : fills[0]? = some (fillOf 97 107) := by decide +kernel
  have at2 : atI (fills.map PyData.str) (0 : Int) = some (.str (fillOf 97 107)) := at_enc PyData.str (xs := fills) (i := 0) (x := fillOf 97 107) (by decide) f0
  have f0m : fillOf 97 107 ∈ fills := List.mem_of_getElem? f0
  have f0t : fillOf 97 107 ∈ fills.take (60 - rs.length) := by
    have : (fills.take (60 - rs.length))[0]? = some (fillOf 97 107) := by rw [List.getElem?_take, if_pos (by omega)]; exact f0
    exact List.mem_of_getElem? this
  refine ds_ifM (M := fun t W' => t = false ∧ ∀ b c, W2 b = some c → W' b = some c) (dtm_chk 0 8 hX TE Ci Cc ha ok1 (d := .lay ⟨fillOf 97 107, s0, s1, 1, 1⟩) (i := 2) (.tw (fills_ok _ f0m).1 oS0 oS1 (by
    rw [List.map_append, List.map_map]
    exact List.mem_append_right _ (List.mem_map.mpr ⟨_, f0t, rfl⟩))) rfl (de_tup (da_cons de_str (da_cons (de_ix (dls_val (de_v 3 hX)) de_int at2) (da_cons (dS0 hl rfl rfl) (da_cons (dS1 hl rfl rfl) (da_cons de_int (da_cons de_int da_nil)))))))) fun t W3 hm => ?_
  obtain ⟨rfl, s3⟩ := hm
  refine ⟨fun c => (by cases c), fun _ => ds_nil ?_⟩
  dsimp only [List.set]
  have ha := ha.sub s3
  have hl := hl.sub s3
  refine ds_ifM (M := fun t W' => t = false ∧ ∀ b c, W3 b = some c → W' b = some c) (dtm_chk 0 8 hX TE Ci Cc ha ok1 (d := .lay ⟨"Last", s0, s1, 1, 1⟩) (i := 1) (.nm (fun q => oL q.1) (by show ("Last" : Str).length ≤ 1000; decide +kernel) oS0.short oS1.short) rfl (de_tup (da_cons de_str (da_cons de_str (da_cons (dS0 hl rfl rfl) (da_cons (dS1 hl rfl rfl) (da_cons de_int (da_cons de_int da_nil)))))))) fun t W4 hm => ?_
  obtain ⟨rfl, s4⟩ := hm
  refine ⟨fun c => (by cases c), fun _ => ds_nil ?_⟩
  dsimp only [List.set]
  have ha := ha.sub s4
  have hl := hl.sub s4
  refine ds_ifM (M := fun t W' => t = false ∧ ∀ b c, W4 b = some c → W' b = some c) (dtm_chk 0 8 hX TE Ci Cc ha ok1 (d := .lay ⟨"last", s0, s0, 1, 1⟩) (i := 0) (.nh ol oS0 oS0 (nw1 _ ll lastF) (.inl rfl)) rfl (de_tup (da_cons de_str (da_cons de_str (da_cons (dS0 hl rfl rfl) (da_cons (dS0 hl rfl rfl) (da_cons de_int (da_cons de_int da_nil)))))))) fun t W5 hm => ?_
  obtain ⟨rfl, s5⟩ := hm
  refine ⟨fun c => (by cases c), fun _ => ds_nil ?_⟩
  dsimp only [List.set]
  have ha := ha.sub s5
  have hl := hl.sub s5
  refine ds_ifM (M := fun t W' => t = false ∧ ∀ b c, W5 b = some c → W' b = some c) (dtm_chk 0 8 hX TE Ci Cc ha ok1 (d := .lay ⟨"last", s0, s1, 0, 1⟩) (i := 0) (.nh ol oS0 oS1 (nw1 _ ll lastF) (.inr (.inl (by show (0 : Int) < 1; decide)))) rfl (de_tup (da_cons de_str (da_cons de_str (da_cons (dS0 hl rfl rfl) (da_cons (dS1 hl rfl rfl) (da_cons de_int (da_cons de_int da_nil)))))))) fun t W6 hm => ?_
  obtain ⟨rfl, s6⟩ := hm
  refine ⟨fun c => (by cases c), fun _ => ds_nil ?_⟩
  dsimp only [List.set]
  have ha := ha.sub s6
  have hl := hl.sub s6
  -- shut again
  refine ds_forT hX (fun l Gi => ∃ (W : Wk) (y6 : Slot), Gi = [.itm (.ref A.x), .itm (.ref hp), .itm (.ref sp), .val (.list (fills.map PyData.str)), .junk, .junk, y6, .junk, .wrk true W] ∧ HallAt C W A (s0 :: s1 :: more) (rws rs ++ l.map (mkF s0 s1)) ∧ LawAt W hp sp rs (s0 :: s1 :: more) ∧ Ok (s0 :: s1 :: more) (rws rs ++ l.map (mkF s0 s1))) (enc := PyData.str) (xs := fills.take (60 - rs.length))
    ((di_list (de_own (do_sliceE (enc := PyData.str) (xs := fills) (dls_val (de_v 3 hX)) dpo_none (dpo_some (de_sub de_int ((de_lenx 8 hX B.len (dx_v 1 hX) hl.h).cast (y := .int (rs.length : Int)) (by rw [List.length_map]))))))).cast (by rw [ek])) ⟨W6, _, rfl, ha, hl, ok1⟩ ?_ ?_
  · rintro z l Gi ⟨W, y6, rfl, ha, hl, ok'⟩ _
    refine ⟨_, _, dg_nameN 6 hX, ?_⟩
    have hj : (rws rs ++ (z :: l).map (mkF s0 s1))[(rws rs).length]? = some (mkF s0 s1 z) := by rw [List.getElem?_append_right (Nat.le_refl _), Nat.sub_self]; rfl
    have he : (rws rs ++ (z :: l).map (mkF s0 s1)).eraseIdx (rws rs).length = rws rs ++ l.map (mkF s0 s1) := by rw [List.eraseIdx_append_of_length_le (Nat.le_refl _), Nat.sub_self]; rfl
    have dz := Does.shut (s := s0 :: s1 :: more) hj
    rw [he] at dz
    refine ds_exprM 8 (M := fun it W' => OffH A W W' ∧ HallAt C W' A (s0 :: s1 :: more) (rws rs ++ l.map (mkF s0 s1))) (dm_meth 8 hX Cs T.cl (dx_v 0 hX) ha.x (fl_no A) (dam_d (de_v 6 hX) dam_nil) ⟨A, _, _, _, _, .shut z, _, rfl, rfl, ha, ok', dz, fun W' o hh => ⟨o, hh⟩⟩) fun it W1 hm => ?_
    obtain ⟨o1, ha1⟩ := hm
    dsimp only [List.set]
    exact ds_nil ⟨W1, _, rfl, ha1, hl.off ap o1, dz.ok ok'⟩
  rintro Gn ⟨W7, y7, rfl, ha, hl, _⟩
  rw [List.map_nil, List.append_nil] at ha
  have hfil : ((fills.filter fun z => !(s0 :: s1 :: more).contains z).map fun z => z) = fills := by
    rw [List.map_id', List.filter_eq_self]
    intro z hz
    rw [Bool.not_eq_true', Bool.eq_false_iff]
    exact fun q => ns z (fills_ok z hz).2 (List.contains_iff_mem.mp q)
  have sl2 : (s0 :: s1 :: more).length = more.length + 2 := rfl
  obtain ⟨n1, hn1, hn14⟩ : ∃ n1 : Nat, (n1 : Int) = 40 - ((s0 :: s1 :: more).length : Int) ∧ n1 = 40 - (s0 :: s1 :: more).length := ⟨40 - (s0 :: s1 :: more).length, by omega, rfl⟩
  have ek2 : cutL fills none (some (40 - ((s0 :: s1 :: more).length : Int))) = fills.take n1 := by
    rw [cut_take _ (by omega)]
    congr 1
    omega
  refine ds_setoN 7 hX (he := DO.cast (ys := (fills.take n1).map PyData.str) (do_sliceE (enc := PyData.str) (xs := fills) (dls_own (DO.cast (do_filt hX [("_law_name", 6)] (enc := PyData.str) (xs := fills) PyData.str (fun z => !(s0 :: s1 :: more).contains z) (fun z => z) (hit := di_list (de_v 3 hX)) (hsz := by rw [fills_len]; decide) (turn := fun z hz => ⟨_, _, fun X' hX' => dg_loc 6 hX', by decide, fun X' hX' => dt_ninS (de_v 6 hX') (dls_x 8 (dx_v 2 hX') hl.s), fun _ X' hX' => de_v 6 hX'⟩)) (by rw [hfil]))) dpo_none (dpo_some (de_sub de_int ((de_lenx 8 hX B.len (dx_v 2 hX) hl.s).cast (y := .int ((s0 :: s1 :: more).length : Int)) (by rw [List.length_map, List.length_map]))))) (by rw [ek2])) (h := ?_)
  refine ds_freezeN 7 (h := ?_)
  have tl1 : (fills.take n1).length = n1 := by rw [List.length_take, fills_len]; omega
  have ek3 : cutL (fills.take n1) none (some ((n1 : Int) - 1)) = fills.take (n1 - 1) := by
    rw [cut_take _ (by omega), List.take_take]
    congr 1
    omega
  have tl2 : (fills.take (n1 - 1)).length = n1 - 1 := by rw [List.length_take, fills_len]; omega
  have kf2 : ∀ z ∈ fills.take (n1 - 1), z ∈ fills := fun z hz => List.mem_of_mem_take hz
  refine ds_forT hX (fun l Gi => ∃ (W : Wk) (done : List Str) (y6 : Slot), Gi = [.itm (.ref A.x), .itm (.ref hp), .itm (.ref sp), .val (.list (fills.map PyData.str)), .junk, .junk, y6, .val (.list ((fills.take n1).map PyData.str)), .wrk true W] ∧ done ++ l = fills.take (n1 - 1) ∧ HallAt C W A ((s0 :: s1 :: more) ++ done) (rws rs) ∧ LawAt W hp sp rs (s0 :: s1 :: more) ∧ Ok ((s0 :: s1 :: more) ++ done) (rws rs)) (enc := PyData.str) (xs := fills.take (n1 - 1))
    ((di_list (de_own (do_sliceE (enc := PyData.str) (xs := fills.take n1) (dls_val (de_v 7 hX)) dpo_none (dpo_some (de_sub ((de_len hX B.len (ha := dls_val (de_v 7 hX))).cast (y := .int (n1 : Int)) (by rw [List.length_map, tl1])) de_int))))).cast (by rw [ek3])) ⟨W7, [], _, rfl, rfl, by rw [List.append_nil]; exact ha, hl, by rw [List.append_nil]; exact ok⟩ ?_ ?_
  · rintro z l Gi ⟨W, done, y6, rfl, hd, ha, hl, ok'⟩ _
    refine ⟨_, _, dg_nameN 6 hX, ?_⟩
    have hzm : z ∈ fills.take (n1 - 1) := by rw [← hd]; exact List.mem_append_right _ (.head _)
    have hzf := kf2 z hzm
    have nd : (done ++ z :: l).Nodup := by rw [hd]; exact fills_nd.sublist (List.take_sublist _ _)
    have zd : z ∉ done := fun q => (List.nodup_append.mp nd).2.2 z q z (.head _) rfl
    have zs := ns z (fills_ok z hzf).2
    have dl : done.length + l.length + 1 = n1 - 1 := by
      have := congrArg List.length hd
      rw [List.length_append, List.length_cons, tl2] at this
      omega
    have e : seenAdd (seenAdd ((s0 :: s1 :: more) ++ done) s0) z = (s0 :: s1 :: more) ++ (done ++ [z]) := by
      rw [add_in (List.mem_append_left _ m0), add_out, List.append_assoc]
      rw [List.mem_append]
      rintro (q | q)
      · exact zs q
      · exact zd q
    have dz : Does ((s0 :: s1 :: more) ++ done) (rws rs) (.lay ⟨"way", s0, z, 1, 1⟩) ((s0 :: s1 :: more) ++ (done ++ [z])) (rws rs ++ [⟨"way", s0, z, 1, 1⟩]) := by
      have := @Does.lay ((s0 :: s1 :: more) ++ done) (rws rs) ⟨"way", s0, z, 1, 1⟩ (nw _ lw) (fun q => zs (by rw [← show s0 = z from q]; exact m0)) (Int.le_refl _) (Int.le_refl _) ow oS0 (fills_ok z hzf).1 (by omega) (by
        show (seenAdd (seenAdd ((s0 :: s1 :: more) ++ done) s0) z).length ≤ 40
        rw [e, List.length_append, List.length_append, List.length_singleton]
        omega)
      rw [show seenAdd (seenAdd ((s0 :: s1 :: more) ++ done) (Row.mk "way" s0 z 1 1).a) (Row.mk "way" s0 z 1 1).b = _ from e] at this
      exact this
    have okz := dz.ok ok'
    refine ds_exprM 8 (M := fun it W' => OffH A W W' ∧ HallAt C W' A ((s0 :: s1 :: more) ++ (done ++ [z])) (rws rs ++ [⟨"way", s0, z, 1, 1⟩])) (dm_meth 8 hX Cl T.cl (dx_v 0 hX) ha.x (fl_no A) (dam_d de_str (dam_d (dS0 hl rfl rfl) (dam_d (de_v 6 hX) (dam_d de_int (dam_d de_int dam_nil))))) ⟨A, _, _, _, _, .lay ⟨"way", s0, z, 1, 1⟩, _, rfl, rfl, ha, ok', dz, fun W' o hh => ⟨o, hh⟩⟩) fun it W1 hm => ?_
    obtain ⟨o1, ha1⟩ := hm
    dsimp only [List.set]
    have hl1 := hl.off ap o1
    have hj : (rws rs ++ [(⟨"way", s0, z, 1, 1⟩ : Row)])[(rws rs).length]? = some ⟨"way", s0, z, 1, 1⟩ := by rw [List.getElem?_append_right (Nat.le_refl _), Nat.sub_self]; rfl
    have he : (rws rs ++ [(⟨"way", s0, z, 1, 1⟩ : Row)]).eraseIdx (rws rs).length = rws rs := by rw [List.eraseIdx_append_of_length_le (Nat.le_refl _), Nat.sub_self]; exact List.append_nil _
    have ds := Does.shut (s := (s0 :: s1 :: more) ++ (done ++ [z])) hj
    rw [he] at ds
    refine ds_exprM 8 (M := fun it W' => OffH A W1 W' ∧ HallAt C W' A ((s0 :: s1 :: more) ++ (done ++ [z])) (rws rs)) (dm_meth 8 hX Cs T.cl (dx_v 0 hX) ha1.x (fl_no A) (dam_d de_str dam_nil) ⟨A, _, _, _, _, .shut "way", _, rfl, rfl, ha1, okz, ds, fun W' o hh => ⟨o, hh⟩⟩) fun it W2 hm => ?_
    obtain ⟨o2, ha2⟩ := hm
    dsimp only [List.set]
    exact ds_nil ⟨W2, done ++ [z], _, rfl, by rw [List.append_assoc]; exact hd, ha2, hl1.off ap o2, ds.ok okz⟩
  rintro Gn ⟨W8, done, y8, rfl, hd, ha, hl, ok2⟩
  rw [List.append_nil] at hd
  subst hd
  -- forty rooms
  have len39 : ((s0 :: s1 :: more) ++ fills.take (n1 - 1)).length = 39 := by rw [List.length_append, tl2]; omega
  have m0' : s0 ∈ (s0 :: s1 :: more) ++ fills.take (n1 - 1) := List.mem_append_left _ m0
  have m1' : s1 ∈ (s0 :: s1 :: more) ++ fills.take (n1 - 1) := List.mem_append_left _ m1
  have no' : ("newone" : Str) ∉ (s0 :: s1 :: more) ++ fills.take (n1 - 1) := fun q => (List.mem_append.mp q).elim (ns _ ln) fun q => newoF (kf2 _ q)
  have nt' : ("newtwo" : Str) ∉ (s0 :: s1 :: more) ++ fills.take (n1 - 1) := fun q => (List.mem_append.mp q).elim (ns _ lt) fun q => newtF (kf2 _ q)
  have ne12 : ("newtwo" : Str) ≠ "newone" := by decide +kernel
  generalize (s0 :: s1 :: more) ++ fills.take (n1 - 1) = sn at *
  have e1 : seenAdd sn "newone" = sn ++ [("newone" : Str)] := add_out no'
  have nt2 : ("newtwo" : Str) ∉ sn ++ [("newone" : Str)] := fun q => (List.mem_append.mp q).elim nt' fun q => ne12 (List.mem_singleton.mp q)
  refine ds_ifM (M := fun t W' => t = false ∧ ∀ b c, W8 b = some c → W' b = some c) (dtm_chk 0 8 hX TE Ci Cc ha ok2 (d := .lay ⟨"way", "newone", "newtwo", 1, 1⟩) (i := 3) (.tm ow on ot (nw _ lw) (Ne.symm ne12) (Int.le_refl _) (Int.le_refl _) (.inr (by
    show 40 < (seenAdd (seenAdd sn "newone") "newtwo").length
    rw [e1, add_out nt2, List.length_append, List.length_append, len39]
    decide))) rfl (de_tup (da_cons de_str (da_cons de_str (da_cons de_str (da_cons de_str (da_cons de_int (da_cons de_int da_nil)))))))) fun t W9 hm => ?_
  obtain ⟨rfl, s9⟩ := hm
  refine ⟨fun c => (by cases c), fun _ => ds_nil ?_⟩
  dsimp only [List.set]
  have ha := ha.sub s9
  have hl := hl.sub s9
  have e2 : seenAdd (seenAdd sn "newone") s1 = sn ++ [("newone" : Str)] := by rw [e1]; exact add_in (List.mem_append_left _ m1')
  have no1 : ("newone" : Str) ≠ s1 := fun q => no' (by rw [q]; exact m1')
  have no0 : ("newone" : Str) ≠ s0 := fun q => no' (by rw [q]; exact m0')
  have dw : Does sn (rws rs) (.lay ⟨"way", "newone", s1, 1, 1⟩) (sn ++ [("newone" : Str)]) (rws rs ++ [⟨"way", "newone", s1, 1, 1⟩]) := by
    have := @Does.lay sn (rws rs) ⟨"way", "newone", s1, 1, 1⟩ (nw _ lw) no1 (Int.le_refl _) (Int.le_refl _) ow on oS1 (by omega) (by
      show (seenAdd (seenAdd sn "newone") s1).length ≤ 40
      rw [e2, List.length_append, len39]
      decide)
    rw [show seenAdd (seenAdd sn (Row.mk "way" "newone" s1 1 1).a) (Row.mk "way" "newone" s1 1 1).b = _ from e2] at this
    exact this
  have ok3 := dw.ok ok2
  refine ds_ifM (M := fun t W' => t = false ∧ OffH A W9 W' ∧ HallAt C W' A (sn ++ [("newone" : Str)]) (rws rs ++ [⟨"way", "newone", s1, 1, 1⟩])) (dtm_notN (dm_meth 8 hX Cl T.cl (dx_v 0 hX) ha.x (fl_no A) (dam_d de_str (dam_d de_str (dam_d (dS1 hl rfl rfl) (dam_d de_int (dam_d de_int dam_nil))))) ⟨A, _, _, _, _, .lay ⟨"way", "newone", s1, 1, 1⟩, _, rfl, rfl, ha, ok2, dw, fun W' o hh => ⟨_, rfl, rfl, o, hh⟩⟩)) fun t Wa hm => ?_
  obtain ⟨rfl, oa, haa⟩ := hm
  refine ⟨fun c => (by cases c), fun _ => ds_nil ?_⟩
  dsimp only [List.set]
  have hl := hl.off ap oa
  have ha := haa
  have npath : ("path" : Str) ∉ (rws rs ++ [(⟨"way", "newone", s1, 1, 1⟩ : Row)]).map Row.n := by
    rw [List.map_append, List.mem_append]
    rintro (q | q)
    · exact nw _ lp q
    · have q' : ("path" : Str) = "way" := List.mem_singleton.mp q
      exact absurd q' (by decide +kernel)
  have m0'' : s0 ∈ sn ++ [("newone" : Str)] := List.mem_append_left _ m0'
  have nt0 : s0 ≠ "newtwo" := fun q => nt' (by rw [← q]; exact m0')
  refine ds_ifM (M := fun t W' => t = false ∧ ∀ b c, Wa b = some c → W' b = some c) (dtm_chk 0 8 hX TE Ci Cc ha ok3 (d := .lay ⟨"path", s0, "newtwo", 1, 1⟩) (i := 3) (.tm op_ oS0 ot npath nt0 (Int.le_refl _) (Int.le_refl _) (.inr (by
    show 40 < (seenAdd (seenAdd (sn ++ [("newone" : Str)]) s0) "newtwo").length
    rw [add_in m0'', add_out nt2, List.length_append, List.length_append, len39]
    decide))) rfl (de_tup (da_cons de_str (da_cons de_str (da_cons (dS0 hl rfl rfl) (da_cons de_str (da_cons de_int (da_cons de_int da_nil)))))))) fun t Wb hm => ?_
  obtain ⟨rfl, sb⟩ := hm
  refine ⟨fun c => (by cases c), fun _ => ds_nil ?_⟩
  dsimp only [List.set]
  have ha := ha.sub sb
  have hl := hl.sub sb
  refine ds_ifM (M := fun t W' => t = false ∧ ∀ b c, Wb b = some c → W' b = some c) (dtm_chk 0 8 hX TE Ci Cc ha ok3 (d := .lay ⟨"path", "newtwo", "newtwo", 1, 1⟩) (i := 0) (.nh op_ ot ot npath (.inl rfl)) rfl (de_tup (da_cons de_str (da_cons de_str (da_cons de_str (da_cons de_str (da_cons de_int (da_cons de_int da_nil)))))))) fun t Wc hm => ?_
  obtain ⟨rfl, sc_⟩ := hm
  refine ⟨fun c => (by cases c), fun _ => ds_nil ?_⟩
  dsimp only [List.set]
  have ha := ha.sub sc_
  have hl := hl.sub sc_
  have e4 : seenAdd (seenAdd (sn ++ [("newone" : Str)]) "newone") s0 = sn ++ [("newone" : Str)] := by rw [add_in (List.mem_append_right _ (List.mem_singleton.mpr rfl))]; exact add_in m0''
  have dq : Does (sn ++ [("newone" : Str)]) (rws rs ++ [⟨"way", "newone", s1, 1, 1⟩]) (.lay ⟨"path", "newone", s0, 1, 1⟩) (sn ++ [("newone" : Str)]) (rws rs ++ [⟨"way", "newone", s1, 1, 1⟩] ++ [⟨"path", "newone", s0, 1, 1⟩]) := by
    have := @Does.lay (sn ++ [("newone" : Str)]) (rws rs ++ [⟨"way", "newone", s1, 1, 1⟩]) ⟨"path", "newone", s0, 1, 1⟩ npath no0 (Int.le_refl _) (Int.le_refl _) op_ on oS0 (by rw [List.length_append, List.length_singleton]; omega) (by
      show (seenAdd (seenAdd (sn ++ [("newone" : Str)]) "newone") s0).length ≤ 40
      rw [e4, List.length_append, len39]
      decide)
    rw [show seenAdd (seenAdd (sn ++ [("newone" : Str)]) (Row.mk "path" "newone" s0 1 1).a) (Row.mk "path" "newone" s0 1 1).b = _ from e4] at this
    exact this
  refine ds_retM (gi := 8) (M := fun it _ => it = .d (.bool true)) (dm_and2 (M1 := fun W3 => W3 = Wc) (dm_d (gi := 8) (de_c ((de_len hX B.len (ha := dls_own (do_r (dr_meth0 8 hX Cr T.cl (dx_v 0 hX) ha.x (fl_no A) ⟨A, sn ++ [("newone" : Str)], _, rfl, ha, rfl⟩)))).cast (y := .int 40) (by rw [List.length_map, List.length_append, len39]; rfl)) de_int .eq) (.bl _) ⟨rfl, rfl⟩) fun W' hW' => ?_) fun it W' hm => ?_
  · subst hW'
    dsimp only [List.set]
    exact dm_one (dm_isN (dm_meth 8 hX Cl T.cl (dx_v 0 hX) ha.x (fl_no A) (dam_d de_str (dam_d de_str (dam_d (dS0 hl rfl rfl) (dam_d de_int (dam_d de_int dam_nil))))) ⟨A, _, _, _, _, .lay ⟨"path", "newone", s0, 1, 1⟩, _, rfl, rfl, ha, ok3, dq, fun W' o hh => ⟨_, rfl, rfl⟩⟩))
  · subst hm
    exact ⟨W', rfl, h W'⟩
end
end K

namespace KL
open PySem PySem.Spec PyProof.Rows L2 DL Mp Nm K
section
variable {P : Program} {w : World} {K : PySem.W.Frag} {mg : Str → Option Value} {base : Heap} {k : Nat} {N : List Str} {sc : Scope} {fa : Bool} {X : Cx} {H0 : Hp} {S0 : AS} {G G1 G2 : List Slot} {pos p1 p2 p3 p4 : Pos}
/-- a, b, .. = e, e told by a promise -/
theorem ds_unpackR {tg e : Expr} {rest : List Stmt} {P'' : RV → Prop} {P' : Out → Prop} (hX : XOk P w K mg base k N sc fa X) (he : DR X H0 S0 e G P'') (hn : ∀ l, ¬ P'' (.own l)) (h : ∀ d, P'' (.val d) → ∃ G1 t, DG X H0 S0 tg d G G1 t ∧ DS X H0 S0 rest G1 P')
    (hs : swapsWithSole [tg] e pos.line X.env = pure false := by rfl) (hw : swappedStores [tg] e X.env = pure none := by rfl) (h1 : (assignEach [tg] X.env).map (·.2) = [assign tg X.env] := by rfl) : DS X H0 S0 (.Assign [tg] e pos :: rest) G P' := fun S F q H Dd E kk =>
  wSs_of (pss_cons (ps_asg pwE pwG hs hw h1) pwSs) (he S F q H E _ (fun d v S1 H1 hp g1 r1 => by
    obtain ⟨G1, t, hg, hr⟩ := h d hp
    exact hg S1 F q H1 (E.grow g1) v r1 _ fun F2 q2 E2 _ => hr S1 F2 q2 H1 Dd E2 (kk.at_ g1.keep)) fun l p vs S1 H1 hp => absurd hp (hn l))
/-- a or b, a false, b changing the workspace -/
theorem dm_or2 {gi : Nat} {a b : Expr} {rest : List Expr} {W : Wk} {M : DL.E → Wk → Prop} (h1 : DE X H0 S0 a G (.bool false)) (h2 : DM X H0 S0 (.BoolOp .Or (b :: rest) pos) G gi M) : DM X H0 S0 (.BoolOp .Or (a :: b :: rest) pos) G gi M := fun S F q H E Q kk =>
  wE_of (pe_or pwE pwE) (h1 S F q H E _ fun v H1 S1 g1 r1 => by
    cases r1
    refine ⟨_, rfl, ?_⟩
    exact iteF (h2 S1 F q H1 (E.grow g1) _ fun it W2 u S2 F2 H2 m2 k2 E2 r2 => kk it W2 u S2 F2 H2 m2 (g1.keep.trans k2) E2 r2))
end
end KL
namespace K
open PySem L2 DL Mp Nm KL
section
variable {P : Program} {w : World} {K : PySem.W.Frag} {mg : Str → Option Value} {base : Heap} {HE NH NN TW TM NP NW NL : Addr}
theorem rows_eq (rs : List (Addr × Row)) : (rs.map fun r => PyData.tuple (rowDs r.2)) = (rws rs).map fun r => PyData.tuple (rowDs r) := by
  unfold rws
  rw [List.map_map]
  rfl
theorem eqT {n : Nat} {d : D} (h : DL.shp n d) : PyData.eqv d d = true := DL.eqv_self h
theorem c_law {f C : Addr} {fd : FuncData} (F : Fun K "law" "law" s_law f fd) (B : Blt mg) (T : HTxt K mg C) (TE : ETxt K mg HE NH NN TW TM NP NW NL) (Cc : Callee P w K mg base 1 "_law_cell_at" [true, false] tCellAt) (Cm : Callee P w K mg base 1 "_law_mixed" [false, false] tMixed) (Cw : Callee P w K mg base 2 "_law_words" [false, false, false] tWords) (Ci : MakeM P w K mg base 2 "NamedHall" C (tInit C)) (Cr : MethR P w K mg base 1 C "rooms" (tRooms C)) (Cp : MethR P w K mg base 1 C "passages" (tPsgs C)) (Cd : CalleeR P w K mg base 3 "_law_deed" tDraw) (Co : CalleeM P w K mg base 3 "_law_do" (tDo C)) (Cn : CalleeM P w K mg base 1 "_law_noted" tNoted)
    (Cb : CalleeM P w K mg base 5 "_law_begins" tBegins) (Cbad : CalleeR P w K mg base 3 "_law_bad" (fun as W P' => ∃ rooms, tBad rooms as W P')) (Cis : CalleeR P w K mg base 1 "_law_is" (tIs K mg)) (Cca : CalleeM P w K mg base 5 "_law_caught" (tCaught C NH NN TW TM NP NW NL)) (Cpl : CalleeM P w K mg base 5 "_law_place" (tPlace0 C)) (Cf : CalleeM P w K mg base 6 "_law_full" (tFull C)) : FnOk P w K mg base CX0 7 f fd ["_law_script"] (spD K [true] tLaw) := by
  refine fnok_of F sw_law (fun ds P' h => by obtain ⟨ns, rfl, _⟩ := h; rfl) fun X H0 S0 ds P' hX h => ?_
  obtain ⟨ns, rfl, hlen, h⟩ := h
  have m0 := mixed_nn (cellAt ns 0) 0
  have m2 := mixed_nn (cellAt ns 0) 2
  have n2 := mixed_nn (cellAt ns 1) 2
  refine ds_setoN 1 hX (he := do_call hX Cw (ha := db_v (de_call hX Cc (ha := db_b (dls_b 0 hX) (db_v de_int db_nil)) (ht := ⟨ns, 0, rfl, by decide, rfl⟩)) (db_v (de_add de_int (de_mod (de_call hX Cm (ha := db_v (de_call hX Cc (ha := db_b (dls_b 0 hX) (db_v de_int db_nil)) (ht := ⟨ns, 0, rfl, by decide, rfl⟩)) (db_v de_int db_nil)) (ht := ⟨_, _, rfl, by decide, by decide, rfl⟩)) de_int)) (db_v de_int db_nil))) (ht := ⟨_, _, _, rfl, by decide, by decide, by omega, by omega, rfl⟩)) (h := ?_)
  refine ds_freezeN 1 (h := ?_)
  have k0 := Int.emod_nonneg (mixed (cellAt ns 1) 2) (show (2 : Int) ≠ 0 by decide)
  have k1 := Int.emod_lt_of_pos (mixed (cellAt ns 1) 2) (show (0 : Int) < 2 by decide)
  refine ds_setoN 2 hX (he := do_call hX Cw (ha := db_v (de_call hX Cc (ha := db_b (dls_b 0 hX) (db_v de_int db_nil)) (ht := ⟨ns, 1, rfl, by decide, rfl⟩)) (db_v de_int (db_v (de_mod (de_call hX Cm (ha := db_v (de_call hX Cc (ha := db_b (dls_b 0 hX) (db_v de_int db_nil)) (ht := ⟨ns, 1, rfl, by decide, rfl⟩)) (db_v de_int db_nil)) (ht := ⟨_, _, rfl, by decide, by decide, rfl⟩)) de_int) db_nil))) (ht := ⟨_, _, _, rfl, k0, by omega, by decide, by decide, rfl⟩)) (h := ?_)
  refine ds_freezeN 2 (h := ?_)
  refine ds_setN 3 hX (he := de_call hX Cm (ha := db_v (de_call hX Cc (ha := db_b (dls_b 0 hX) (db_v de_int db_nil)) (ht := ⟨ns, 1, rfl, by decide, rfl⟩)) (db_v de_int db_nil)) (ht := ⟨_, _, rfl, by decide, by decide, rfl⟩)) (h := ?_)
  generalize mixed (cellAt ns 1) 4 = num at *
  have rlen := words_len (mixed (cellAt ns 0) 0) (2 + mixed (cellAt ns 0) 2 % 4)
  have rok := words_ok (many := 2 + mixed (cellAt ns 0) 2 % 4) m0 (by omega)
  have rnd := words_nd (many := 2 + mixed (cellAt ns 0) 2 % 4) m0 (by omega)
  have rwd := words_is (many := 2 + mixed (cellAt ns 0) 2 % 4) m0 (by omega)
  have nlen := words_len (mixed (cellAt ns 1) (mixed (cellAt ns 1) 2 % 2)) 8
  have nok := words_ok (many := 8) (mixed_nn (cellAt ns 1) (mixed (cellAt ns 1) 2 % 2)) (by decide)
  have nnd := words_nd (many := 8) (mixed_nn (cellAt ns 1) (mixed (cellAt ns 1) 2 % 2)) (by decide)
  have nwd := words_is (many := 8) (mixed_nn (cellAt ns 1) (mixed (cellAt ns 1) 2 % 2)) (by decide)
  generalize wordsOf (mixed (cellAt ns 0) 0) (2 + mixed (cellAt ns 0) 2 % 4) = rooms at *
  generalize wordsOf (mixed (cellAt ns 1) (mixed (cellAt ns 1) 2 % 2)) 8 = names at *
  have e8 : (8 : Int).toNat = 8 := rfl
  rw [e8] at nlen
  have r2 : 2 ≤ rooms.length := by omega
  have r26 : rooms.length ≤ 26 := by omega
  clear rlen
  obtain ⟨z0, z1, zs, rfl⟩ : ∃ z0 z1 zs, rooms = z0 :: z1 :: zs := by
    match rooms, r2 with
    | z0 :: z1 :: zs, _ => exact ⟨z0, z1, zs, rfl⟩
  have o0 := rok z0 (.head _)
  have o1 := rok z1 (.tail _ (.head _))
  have n01 : z0 ≠ z1 := fun e => (List.nodup_cons.mp rnd).1 (by rw [e]; exact .head _)
  have cut2 : cutL (z0 :: z1 :: zs) none (some 2) = [z0, z1] := by
    show ((z0 :: z1 :: zs).drop 0).take (min 2 (zs.length + 1 + 1) - 0) = _
    rw [Nat.min_eq_left (by omega)]
    rfl
  have at0 : atI (sDs (z0 :: z1 :: zs)) (0 : Int) = some (.str z0) := at_enc PyData.str (xs := z0 :: z1 :: zs) (i := 0) (x := z0) (by decide) rfl
  have at1 : atI (sDs (z0 :: z1 :: zs)) (1 : Int) = some (.str z1) := at_enc PyData.str (xs := z0 :: z1 :: zs) (i := 1) (x := z1) (by decide) rfl
  refine ds_begW 12 (h := ?_)
  refine ds_ifM (M := fun t W' => t = false) (dtm_not (dtm_e (dm_call 12 hX Cb (dam_d (de_v 3 hX) (dam_d (de_v 1 hX) dam_nil)) ⟨_, z0, z1 :: zs, rfl, o0, fun W' s => ⟨true, rfl, rfl⟩⟩))) fun t W0 hm => ?_
  subst hm
  refine ⟨fun c => (by cases c), fun _ => ds_nil ?_⟩
  dsimp only [List.set]
  refine ds_setMx 4 12 hX (dm_make 12 hX Ci (dam_d (de_ix (d := .str z0) (dls_val (de_v 1 hX)) de_int at0) (dam_d (de_ix (d := .str z1) (dls_val (de_v 1 hX)) de_int at1) dam_nil)) (M := Made C W0 z0 z1) (made_of o0 o1 n01)) fun it W1 hA => ?_
  obtain ⟨A, rfl, hA, _, _⟩ := hA
  dsimp only [List.set]
  refine ds_setOX 5 12 hX (dox_lst dxs_nil) fun hp hp0 => ?_
  dsimp only [List.set]
  have s3 := sub_new (c := .lst []) hp0
  refine ds_setOX 6 12 hX (dox_o (do_sliceE (enc := PyData.str) (xs := z0 :: z1 :: zs) (dls_val (de_v 1 hX)) dpo_none (dpo_some de_int)) (Flats.strs _)) fun sp sp0 => ?_
  dsimp only [List.set]
  rw [cut2]
  have s4 := sub_new (c := .lst (([z0, z1].map PyData.str).map E.d)) sp0
  have hA3 := (hA.sub s3).sub s4
  have sh : sp ≠ hp := fun e => by rw [e, updW_same] at sp0; cases sp0
  have hL : LawAt (updW (updW W1 hp (.lst [])) sp (.lst (([z0, z1].map PyData.str).map E.d))) hp sp [] [z0, z1] := ⟨by rw [updW_ne (Ne.symm sh), updW_same]; rfl, updW_same, fun r hr => (by cases hr), by
    rw [List.nodup_cons, List.nodup_cons]
    exact ⟨fun z => sh (List.mem_singleton.mp z).symm, fun z => (by cases z), List.nodup_nil⟩⟩
  have pA : Apart A hp sp [] := ⟨fun p hp' => by
    have sp1 : W1 sp = none := by rw [updW_ne sh] at sp0; exact sp0
    have d : ∀ {b : Addr} {c : Cell}, W1 b = some c → p ≠ b := fun {b c} e z => by
      rcases List.mem_cons.mp hp' with q | q
      · rw [← z, q, hp0] at e; cases e
      · rw [List.mem_singleton.mp q] at z
        rw [← z, sp1] at e; cases e
    exact ⟨d hA.x, d hA.r, d hA.m, d hA.h⟩⟩
  have ok0 : Ok [z0, z1] [] := ⟨List.nodup_cons.mpr ⟨fun z => n01 (List.mem_singleton.mp z), List.nodup_cons.mpr ⟨fun z => (by cases z), List.nodup_nil⟩⟩, List.nodup_nil, fun r hr => (by cases hr), Nat.le_refl _, (by show 2 ≤ 40; decide), (by show 0 ≤ 60; decide), fun z hz => by
    rcases List.mem_cons.mp hz with rfl | hz
    · exact o0
    · rw [List.mem_singleton.mp hz]; exact o1, fun r hr => (by cases hr)⟩
  have pool0 : Pool (z0 :: z1 :: zs) names [z0, z1] (rws []) := ⟨ok0, rok, rnd, r2, r26, nok, nnd, by omega, by omega, fun z hz => by
    rcases List.mem_cons.mp hz with rfl | hz
    · exact .head _
    · rw [List.mem_singleton.mp hz]; exact .tail _ (.head _), fun r hr => (by cases hr)⟩
  generalize updW (updW W1 hp (.lst [])) sp (.lst (([z0, z1].map PyData.str).map E.d)) = W4 at *
  refine ds_forT hX (fun l Gi => ∃ (W : Wk) (rs : List (Addr × Row)) (seen : List Str) (y7 y8 y9 y11 : Slot), Gi = [.bor K (ns.map PyData.int), .val (.list (sDs (z0 :: z1 :: zs))), .val (.list (sDs names)), .val (.int num), .itm (.ref A.x), .itm (.ref hp), .itm (.ref sp), y7, y8, y9, .junk, y11, .wrk true W] ∧ HallAt C W A seen (rws rs) ∧ LawAt W hp sp rs seen ∧ Apart A hp sp rs ∧ Pool (z0 :: z1 :: zs) names seen (rws rs)) (enc := PyData.int) (xs := cutL ns (some 2) (some 14)) (di_list (de_own (do_sliceE (enc := PyData.int) (dls_b 0 hX) (dpo_some de_int) (dpo_some de_int))))
    ⟨W4, [], [z0, z1], _, _, _, _, rfl, hA3, hL, pA, pool0⟩ ?_ ?_
  · rintro c l Gi ⟨W, rs, seen, y7, y8, y9, y11, rfl, hA, hL, pA, pool⟩ _
    refine ⟨_, _, dg_nameN 7 hX, ?_⟩
    have ok := pool.ok
    have r60 := ok.r60
    have rl : (rws rs).length = rs.length := List.length_map _
    have hz : zz z0 ∉ (rws rs).map Row.n := not_word (fun y hy => by
      obtain ⟨r, hr, rfl⟩ := List.mem_map.mp hy
      exact nwd _ (pool.rs r hr)) (zz_no z0)
    refine ds_unpackR (P'' := fun r => ∃ (i : Nat) (d : Deed), r = .val (encBd (i, d)) ∧ Refuses seen (rws rs) d i) hX (dr_call 12 hX Cbad (dam_d (de_v 7 hX) (dam_x (dx_v 5 hX) (dam_d (de_v 1 hX) dam_nil))) ⟨_, c, hp, sp, rs, seen, z0, z1, zs, rfl, rfl, hL, ok, o0, o1, hz, fun i d hr => ⟨i, d, rfl, hr⟩⟩) (fun l hl => by obtain ⟨i, d, e, _⟩ := hl; cases e) fun dd hdd => ?_
    obtain ⟨i, d, e, hr⟩ := hdd
    cases e
    refine ⟨_, _, dg_tup hX (dgs_cons (dg_nameN 8 hX) (dgs_cons (dg_nameN 9 hX) dgs_nil)), ?_⟩
    have hi := hr.lt
    refine ds_ifM (M := fun t W' => t = false ∧ ∀ b c, W b = some c → W' b = some c) (dtm_w (dwm_or (M1 := fun t W' => t = false ∧ ∀ b c, W b = some c → W' b = some c) (dtm_not (dtm_e (dm_imp (dm_callX 12 hX Cis (M1 := fun it W' => ∃ a, it = .ref a ∧ ExAt W' a (eA NH NN TW TM NP NW NL i) ∧ ∀ b c, W b = some c → W' b = some c) (dm_call 12 hX Cca (dam_x (dx_v 4 hX) (dam_d (de_v 9 hX) dam_nil)) ⟨A, seen, rws rs, d, i, rfl, hA, ok, hr, fun a W' s e => ⟨a, rfl, e, s⟩⟩) (fun it W' _ => dam_d (de_v 8 hX) dam_nil) (fun it W' hm => by
      obtain ⟨a, rfl, e, _⟩ := hm
      exact ⟨a, _, i, TE.tab i hi, by omega, rfl, e, rfl⟩) (.bl true)) fun it W' hm => by
        obtain ⟨rfl, it', a, _, _, s⟩ := hm
        exact ⟨true, rfl, rfl, s⟩))) (fun W1 hm => ?_) (fun W1 hm => by cases hm.1))) fun t W3 hm => ?_
    · obtain ⟨_, s1⟩ := hm
      dsimp only [List.set]
      by_cases ei : i = 0
      · subst ei
        refine dwm_t (dtm_w (dwm_and (M1 := fun t W' => t = true ∧ W' = W1) (dtm_d ((dt_c (de_v 8 hX) de_int .eq).cast (y := true) rfl) ⟨rfl, rfl⟩) (fun W2 hm => ?_) (fun W2 hm => by cases hm.1)))
        obtain ⟨_, rfl⟩ := hm
        dsimp only [List.set]
        exact dwm_t (dtm_notN (dm_call 12 hX Cpl (dam_x (dx_v 4 hX) (dam_d (de_v 9 hX) dam_nil)) ⟨A, seen, rws rs, d, rfl, hA.sub s1, ok, hr, _, rfl, rfl, s1⟩))
      · refine dwm_t (dtm_w (dwm_and (M1 := fun t W' => t = false ∧ W' = W1) (dtm_d ((dt_c (de_v 8 hX) de_int .eq).cast (y := false) (decide_eq_false (by omega))) ⟨rfl, rfl⟩) (fun W2 hm => by cases hm.1) (fun W2 hm => ?_)))
        obtain ⟨_, rfl⟩ := hm
        exact ⟨rfl, s1⟩
    obtain ⟨rfl, s3⟩ := hm
    refine ⟨fun c => (by cases c), fun _ => ds_nil ?_⟩
    dsimp only [List.set]
    have hA := hA.sub s3
    have hL := hL.sub s3
    have sS := shp_strs ok.so
    have sT := ok.shpT
    have inn : ∀ r ∈ rws rs, r.a ∈ seen ∧ r.b ∈ seen := fun r hr => ⟨(ok.mem r hr).1, (ok.mem r hr).2.1⟩
    refine ds_if2 (t := false) (dt_w (dw_or (x := false) (y := false) ((dt_neD hX (dp_l (dls_own (do_r (dr_meth0 12 hX Cr T.cl (dx_v 4 hX) hA.x (fl_no A) ⟨A, seen, rws rs, rfl, hA, rfl⟩)))) (dp_l (dls_x 12 (dx_v 6 hX) hL.s)) (shp_of sS (by decide)) (shp_of sS (by decide))).cast (by rw [eqT sS]; rfl)) fun _ => dw_t ((dt_neD hX (dp_l (dls_own (do_r (dr_meth0 12 hX Cp T.cl (dx_v 4 hX) hA.x (fl_no A) ⟨A, seen, rws rs, rfl, hA, inn, by omega, rfl⟩)))) (dp_l (dls_own ((do_mapX 12 hX [("_law_row", 10)] (enc := fun (r : Addr × Row) => E.ref r.1) (xs := rs) (fun r => PyData.tuple (rowDs r.2)) (dx_v 5 hX) hL.h (by omega) fun r hr => ⟨_, _, fun X' hX' => dgx_loc 10 hX', by decide, fun X' hX' => de_tupL hX' B.tuple (dls_x 12 (dx_v 10 hX') (hL.r r hr))⟩).cast (rows_eq rs)))) (shp_of sT (by decide)) (shp_of sT (by decide))).cast (by rw [eqT sT]; rfl)))) (fun c => by cases c) (fun _ => ds_nil ?_)
    refine ds_setR 11 hX (P'' := fun r => ∃ d seen' rows', r.dat = encDeed d ∧ Does seen (rws rs) d seen' rows' ∧ Pool (z0 :: z1 :: zs) names seen' rows') (dr_call 12 hX Cd (dam_d (de_v 7 hX) (dam_x (dx_v 5 hX) (dam_d (de_v 1 hX) (dam_d (de_v 2 hX) dam_nil)))) ⟨c, hp, sp, rs, seen, _, names, rfl, hL, pool, fun d seen' rows' hd pn _ => ⟨d, seen', rows', rfl, hd, pn⟩⟩) fun r hr => ?_
    obtain ⟨d', seen', rows', er, hd, pn⟩ := hr
    rw [er]
    dsimp only [List.set]
    refine ds_exprM 12 (M := fun it W' => OffH A W3 W' ∧ HallAt C W' A seen' rows') (dm_call 12 hX Co (dam_x (dx_v 4 hX) (dam_d (de_v 11 hX) dam_nil)) ⟨A, seen, seen', rws rs, rows', d', rfl, hA, ok, hd, fun W' o hh => ⟨o, hh⟩⟩) fun it W5 hm => ?_
    obtain ⟨of1, hA1⟩ := hm
    dsimp only [List.set]
    have hL1 := hL.off pA of1
    refine ds_exprM 12 (M := fun it W' => ∃ rs', rws rs' = rows' ∧ LawAt W' hp sp rs' seen' ∧ (∀ p, W5 p ≠ none → p ∉ hp :: sp :: rs.map (·.1) → W' p = W5 p) ∧ ∀ p ∈ rs'.map (·.1), p ∈ rs.map (·.1) ∨ W5 p = none) (dm_call 12 hX Cn (dam_x (dx_v 5 hX) (dam_x (dx_v 6 hX) (dam_d (de_v 11 hX) dam_nil))) ⟨hp, sp, rs, seen, seen', rows', d', rfl, hL1, ok, hd, fun W' rs' e hl fr nw => ⟨rs', e, hl, fr, nw⟩⟩) fun it W6 hm => ?_
    obtain ⟨rs', er', hL2, fr, nw⟩ := hm
    dsimp only [List.set]
    obtain ⟨hA2, pA2⟩ := hA1.noted pA fr nw
    subst er'
    exact ds_nil ⟨W6, rs', seen', _, _, _, _, rfl, hA2, hL2, pA2, pn⟩
  · rintro Gn ⟨W, rs, seen, y7, y8, y9, y11, rfl, hA, hL, pA, pool⟩
    obtain ⟨le1, le2⟩ := pool.le
    have rl : (rws rs).length = rs.length := List.length_map _
    by_cases c : num / 49 % 4 = 0
    · refine ds_retMd (gi := 12) (M := fun it _ => it = .d (.bool true)) (dm_or2 (W := W) ((de_c (de_mod (de_div (de_v 3 hX) de_int) de_int) de_int .ne).cast (by rw [decide_eq_true c]; rfl)) (dm_one (dm_call 12 hX Cf (dam_x (dx_v 4 hX) (dam_x (dx_v 5 hX) (dam_x (dx_v 6 hX) dam_nil))) ⟨A, hp, sp, rs, seen, rfl, hA, hL, pA, pool.ok, fun r hr => nwd _ (pool.rs r hr), fun z hz => rwd _ (pool.ss z hz), by omega, by omega, fun W' => rfl⟩))) fun it W' hm => ⟨_, hm, h⟩
    · exact ds_ret (d := .bool true) (de_or (x := true) (y := true) ((de_c (de_mod (de_div (de_v 3 hX) de_int) de_int) de_int .ne).cast (by rw [decide_eq_false c]; rfl)) fun z => by cases z) h
end
end K

namespace Nm
end Nm
namespace K
open PySem L2 DL Mp Nm
theorem all_mk {l : PySem.W.OpenLaw} {w : World} {K : PySem.W.Frag} {h : Heap} {mg : Str → Option Value} {fa CC HE NH NN TW TM NP NW NL : Addr} (X : K.In h) (G : h.Ns mainGlobals mg) (hfa : mg "law" = some (.ref fa))
    (e_gHE : PySem.W.nsIn K mainGlobals "HallError" = some (some (.ref HE)))
    (e_gNH : PySem.W.nsIn K mainGlobals "NoHall" = some (some (.ref NH)))
    (e_gNN : PySem.W.nsIn K mainGlobals "NoName" = some (some (.ref NN)))
    (e_gTW : PySem.W.nsIn K mainGlobals "Twice" = some (some (.ref TW)))
    (e_gTM : PySem.W.nsIn K mainGlobals "TooMany" = some (some (.ref TM)))
    (e_gNP : PySem.W.nsIn K mainGlobals "NoPassage" = some (some (.ref NP)))
    (e_gNW : PySem.W.nsIn K mainGlobals "NoWidth" = some (some (.ref NW)))
    (e_gNL : PySem.W.nsIn K mainGlobals "NoLine" = some (some (.ref NL)))
    {nm q : Str} {N : Addr} {bs : List Value} {sn : List Str} {sub : List Value} {ab : Bool} {col : Option Bool} {dd : Option Addr} {m0 m1 m2 m3 m5 : Option Value} (e_oex : K.lookup NH = some (PySem.excClassObj nm q NH N bs [.ref HE, .type "ValueError", .type "Exception", .type "BaseException", .type "object"] true sn sub ab col dd m0 m1 m2 m3 m5 "ValueError.__new__"))
    (e_sa : PySem.W.findIn K (.ref NH) "__setattr__" = some (some (.builtin "object.__setattr__")))
    (e_pl : PySem.W.findIn K (.ref NH) "place" = some none)
    (e_spc : PySem.W.specialIn K (.builtin "object.__class__") "__get__" = some (some (.builtin "getset_descriptor.__get__")))
    (e_tks : PySem.W.takesIn K (.builtin "object.__class__") = some true)
    (e_rdH : PySem.W.readsIn K HE (.type "type") = true)
    (e_gaH : PySem.W.specialIn K (.ref HE) "__getattribute__" = some (some (.builtin "type.__getattribute__")))
    (e_inH : PySem.W.findCls K (.ref HE) (.type "type") "__init__" = some (.val (.builtin "ValueError.__init__")))
    (e_xNH : PySem.W.exmOne K (.ref NH) (.ref NH) = some true)
    (e_gaNH : PySem.W.findIn K (.ref NH) "__getattribute__" = some (some (.builtin "BaseException.__getattribute__")))
    (e_ggNH : PySem.W.findIn K (.ref NH) "__getattr__" = some none)
    (e_bNH : PySem.W.subIn K (.ref NH) (.type "BaseException") = some true)
    (e_tNH : PySem.W.typeIn K (.ref NH) = some (.type "type"))
    (e_hNH : PySem.W.hasDictIn K NH = true)
    (e_kNH : PySem.W.keepIn K (.ref NH) = true)
    (e_cNH : PySem.W.findIn K (.ref NH) "__class__" = some (some (.builtin "object.__class__")))
    (e_mNH : PySem.W.mroIn K NH (.type "object") = some true)
    (e_xNHHE : PySem.W.exmOne K (.ref NH) (.ref HE) = some true)
    (e_iNHNH : PySem.W.kitOne K (.ref NH) (.ref NH) = some true)
    (e_iNHNN : PySem.W.kitOne K (.ref NH) (.ref NN) = some false)
    (e_iNHTW : PySem.W.kitOne K (.ref NH) (.ref TW) = some false)
    (e_iNHTM : PySem.W.kitOne K (.ref NH) (.ref TM) = some false)
    (e_iNHNP : PySem.W.kitOne K (.ref NH) (.ref NP) = some false)
    (e_iNHNW : PySem.W.kitOne K (.ref NH) (.ref NW) = some false)
    (e_iNHNL : PySem.W.kitOne K (.ref NH) (.ref NL) = some false)
    (e_ivNH : PySem.W.kitOne K (.ref NH) (.type "ValueError") = some true)
    (e_qNN : PySem.W.excIn K NN [.type "ValueError", .type "Exception", .type "BaseException", .type "object"] "ValueError.__new__" = true)
    (e_gaNN : PySem.W.findIn K (.ref NN) "__getattribute__" = some (some (.builtin "BaseException.__getattribute__")))
    (e_ggNN : PySem.W.findIn K (.ref NN) "__getattr__" = some none)
    (e_bNN : PySem.W.subIn K (.ref NN) (.type "BaseException") = some true)
    (e_tNN : PySem.W.typeIn K (.ref NN) = some (.type "type"))
    (e_hNN : PySem.W.hasDictIn K NN = true)
    (e_kNN : PySem.W.keepIn K (.ref NN) = true)
    (e_cNN : PySem.W.findIn K (.ref NN) "__class__" = some (some (.builtin "object.__class__")))
    (e_mNN : PySem.W.mroIn K NN (.type "object") = some true)
    (e_xNNHE : PySem.W.exmOne K (.ref NN) (.ref HE) = some true)
    (e_iNNNH : PySem.W.kitOne K (.ref NN) (.ref NH) = some false)
    (e_iNNNN : PySem.W.kitOne K (.ref NN) (.ref NN) = some true)
    (e_iNNTW : PySem.W.kitOne K (.ref NN) (.ref TW) = some false)
    (e_iNNTM : PySem.W.kitOne K (.ref NN) (.ref TM) = some false)
    (e_iNNNP : PySem.W.kitOne K (.ref NN) (.ref NP) = some false)
    (e_iNNNW : PySem.W.kitOne K (.ref NN) (.ref NW) = some false)
    (e_iNNNL : PySem.W.kitOne K (.ref NN) (.ref NL) = some false)
    (e_ivNN : PySem.W.kitOne K (.ref NN) (.type "ValueError") = some true)
    (e_qTW : PySem.W.excIn K TW [.type "ValueError", .type "Exception", .type "BaseException", .type "object"] "ValueError.__new__" = true)
    (e_gaTW : PySem.W.findIn K (.ref TW) "__getattribute__" = some (some (.builtin "BaseException.__getattribute__")))
    (e_ggTW : PySem.W.findIn K (.ref TW) "__getattr__" = some none)
    (e_bTW : PySem.W.subIn K (.ref TW) (.type "BaseException") = some true)
    (e_tTW : PySem.W.typeIn K (.ref TW) = some (.type "type"))
    (e_hTW : PySem.W.hasDictIn K TW = true)
    (e_kTW : PySem.W.keepIn K (.ref TW) = true)
    (e_cTW : PySem.W.findIn K (.ref TW) "__class__" = some (some (.builtin "object.__class__")))
    (e_mTW : PySem.W.mroIn K TW (.type "object") = some true)
    (e_xTWHE : PySem.W.exmOne K (.ref TW) (.ref HE) = some true)
    (e_iTWNH : PySem.W.kitOne K (.ref TW) (.ref NH) = some false)
    (e_iTWNN : PySem.W.kitOne K (.ref TW) (.ref NN) = some false)
    (e_iTWTW : PySem.W.kitOne K (.ref TW) (.ref TW) = some true)
    (e_iTWTM : PySem.W.kitOne K (.ref TW) (.ref TM) = some false)
    (e_iTWNP : PySem.W.kitOne K (.ref TW) (.ref NP) = some false)
    (e_iTWNW : PySem.W.kitOne K (.ref TW) (.ref NW) = some false)
    (e_iTWNL : PySem.W.kitOne K (.ref TW) (.ref NL) = some false)
    (e_ivTW : PySem.W.kitOne K (.ref TW) (.type "ValueError") = some true)
    (e_qTM : PySem.W.excIn K TM [.type "ValueError", .type "Exception", .type "BaseException", .type "object"] "ValueError.__new__" = true)
    (e_gaTM : PySem.W.findIn K (.ref TM) "__getattribute__" = some (some (.builtin "BaseException.__getattribute__")))
    (e_ggTM : PySem.W.findIn K (.ref TM) "__getattr__" = some none)
    (e_bTM : PySem.W.subIn K (.ref TM) (.type "BaseException") = some true)
    (e_tTM : PySem.W.typeIn K (.ref TM) = some (.type "type"))
    (e_hTM : PySem.W.hasDictIn K TM = true)
    (e_kTM : PySem.W.keepIn K (.ref TM) = true)
    (e_cTM : PySem.W.findIn K (.ref TM) "__class__" = some (some (.builtin "object.__class__")))
    (e_mTM : PySem.W.mroIn K TM (.type "object") = some true)
    (e_xTMHE : PySem.W.exmOne K (.ref TM) (.ref HE) = some true)
    (e_iTMNH : PySem.W.kitOne K (.ref TM) (.ref NH) = some false)
    (e_iTMNN : PySem.W.kitOne K (.ref TM) (.ref NN) = some false)
    (e_iTMTW : PySem.W.kitOne K (.ref TM) (.ref TW) = some false)
    (e_iTMTM : PySem.W.kitOne K (.ref TM) (.ref TM) = some true)
    (e_iTMNP : PySem.W.kitOne K (.ref TM) (.ref NP) = some false)
    (e_iTMNW : PySem.W.kitOne K (.ref TM) (.ref NW) = some false)
    (e_iTMNL : PySem.W.kitOne K (.ref TM) (.ref NL) = some false)
    (e_ivTM : PySem.W.kitOne K (.ref TM) (.type "ValueError") = some true)
    (e_qNP : PySem.W.excIn K NP [.type "ValueError", .type "Exception", .type "BaseException", .type "object"] "ValueError.__new__" = true)
    (e_gaNP : PySem.W.findIn K (.ref NP) "__getattribute__" = some (some (.builtin "BaseException.__getattribute__")))
    (e_ggNP : PySem.W.findIn K (.ref NP) "__getattr__" = some none)
    (e_bNP : PySem.W.subIn K (.ref NP) (.type "BaseException") = some true)
    (e_tNP : PySem.W.typeIn K (.ref NP) = some (.type "type"))
    (e_hNP : PySem.W.hasDictIn K NP = true)
    (e_kNP : PySem.W.keepIn K (.ref NP) = true)
    (e_cNP : PySem.W.findIn K (.ref NP) "__class__" = some (some (.builtin "object.__class__")))
    (e_mNP : PySem.W.mroIn K NP (.type "object") = some true)
    (e_xNPHE : PySem.W.exmOne K (.ref NP) (.ref HE) = some true)
    (e_iNPNH : PySem.W.kitOne K (.ref NP) (.ref NH) = some false)
    (e_iNPNN : PySem.W.kitOne K (.ref NP) (.ref NN) = some false)
    (e_iNPTW : PySem.W.kitOne K (.ref NP) (.ref TW) = some false)
    (e_iNPTM : PySem.W.kitOne K (.ref NP) (.ref TM) = some false)
    (e_iNPNP : PySem.W.kitOne K (.ref NP) (.ref NP) = some true)
    (e_iNPNW : PySem.W.kitOne K (.ref NP) (.ref NW) = some false)
    (e_iNPNL : PySem.W.kitOne K (.ref NP) (.ref NL) = some false)
    (e_ivNP : PySem.W.kitOne K (.ref NP) (.type "ValueError") = some true)
    (e_qNW : PySem.W.excIn K NW [.type "ValueError", .type "Exception", .type "BaseException", .type "object"] "ValueError.__new__" = true)
    (e_gaNW : PySem.W.findIn K (.ref NW) "__getattribute__" = some (some (.builtin "BaseException.__getattribute__")))
    (e_ggNW : PySem.W.findIn K (.ref NW) "__getattr__" = some none)
    (e_bNW : PySem.W.subIn K (.ref NW) (.type "BaseException") = some true)
    (e_tNW : PySem.W.typeIn K (.ref NW) = some (.type "type"))
    (e_hNW : PySem.W.hasDictIn K NW = true)
    (e_kNW : PySem.W.keepIn K (.ref NW) = true)
    (e_cNW : PySem.W.findIn K (.ref NW) "__class__" = some (some (.builtin "object.__class__")))
    (e_mNW : PySem.W.mroIn K NW (.type "object") = some true)
    (e_xNWHE : PySem.W.exmOne K (.ref NW) (.ref HE) = some true)
    (e_iNWNH : PySem.W.kitOne K (.ref NW) (.ref NH) = some false)
    (e_iNWNN : PySem.W.kitOne K (.ref NW) (.ref NN) = some false)
    (e_iNWTW : PySem.W.kitOne K (.ref NW) (.ref TW) = some false)
    (e_iNWTM : PySem.W.kitOne K (.ref NW) (.ref TM) = some false)
    (e_iNWNP : PySem.W.kitOne K (.ref NW) (.ref NP) = some false)
    (e_iNWNW : PySem.W.kitOne K (.ref NW) (.ref NW) = some true)
    (e_iNWNL : PySem.W.kitOne K (.ref NW) (.ref NL) = some false)
    (e_ivNW : PySem.W.kitOne K (.ref NW) (.type "ValueError") = some true)
    {f1 : Addr} {od1 an1 : Option Addr} {sl1 : Array (Option Value)} {oc1 kV1 dc1 pm1 cd1 ct1 : Value}
    (a1 : PySem.W.nsIn K mainGlobals "_law_cell_at" = some (some (.ref f1)))
    (l1 : K.lookup f1 = some ⟨oc1, od1, .func (PySem.W.fnOf "_law_cell_at" "_law_cell_at" (defArgs s_cell_at) (defBody s_cell_at) (defScope s_cell_at) .none kV1 dc1 pm1 an1 cd1 ct1), sl1⟩) (c1 : PySem.W.codeIn K cd1 "_law_cell_at" = true) (k1 : PySem.W.keepIn K (.ref f1) = true)
    {f2 : Addr} {od2 an2 : Option Addr} {sl2 : Array (Option Value)} {oc2 kV2 dc2 pm2 cd2 ct2 : Value}
    (a2 : PySem.W.nsIn K mainGlobals "_law_mixed" = some (some (.ref f2)))
    (l2 : K.lookup f2 = some ⟨oc2, od2, .func (PySem.W.fnOf "_law_mixed" "_law_mixed" (defArgs s_mixed) (defBody s_mixed) (defScope s_mixed) .none kV2 dc2 pm2 an2 cd2 ct2), sl2⟩) (c2 : PySem.W.codeIn K cd2 "_law_mixed" = true) (k2 : PySem.W.keepIn K (.ref f2) = true)
    {f3 : Addr} {od3 an3 : Option Addr} {sl3 : Array (Option Value)} {oc3 kV3 dc3 pm3 cd3 ct3 : Value}
    (a3 : PySem.W.nsIn K mainGlobals "_law_words" = some (some (.ref f3)))
    (l3 : K.lookup f3 = some ⟨oc3, od3, .func (PySem.W.fnOf "_law_words" "_law_words" (defArgs s_words) (defBody s_words) (defScope s_words) .none kV3 dc3 pm3 an3 cd3 ct3), sl3⟩) (c3 : PySem.W.codeIn K cd3 "_law_words" = true) (k3 : PySem.W.keepIn K (.ref f3) = true)
    {f4 : Addr} {od4 an4 : Option Addr} {sl4 : Array (Option Value)} {oc4 kV4 dc4 pm4 cd4 ct4 : Value}
    (a4 : PySem.W.nsIn K mainGlobals "look_at_name" = some (some (.ref f4)))
    (l4 : K.lookup f4 = some ⟨oc4, od4, .func (PySem.W.fnOf "look_at_name" "look_at_name" (defArgs s_look_at_name) (defBody s_look_at_name) (defScope s_look_at_name) .none kV4 dc4 pm4 an4 cd4 ct4), sl4⟩) (c4 : PySem.W.codeIn K cd4 "look_at_name" = true) (k4 : PySem.W.keepIn K (.ref f4) = true)
    {f5 : Addr} {od5 an5 : Option Addr} {sl5 : Array (Option Value)} {oc5 kV5 dc5 pm5 cd5 ct5 : Value}
    (a5 : PySem.W.findIn K (.ref CC) "__init__" = some (some (.ref f5))) (i5 : PySem.W.isFn K (.ref f5) = true)
    (l5 : K.lookup f5 = some ⟨oc5, od5, .func (PySem.W.fnOf "__init__" "NamedHall.__init__" (defArgs s_NamedHall_init) (defBody s_NamedHall_init) (defScope s_NamedHall_init) .none kV5 dc5 pm5 an5 cd5 ct5), sl5⟩) (c5 : PySem.W.codeIn K cd5 "NamedHall.__init__" = true) (k5 : PySem.W.keepIn K (.ref f5) = true)
    {f6 : Addr} {od6 an6 : Option Addr} {sl6 : Array (Option Value)} {oc6 kV6 dc6 pm6 cd6 ct6 : Value}
    (a6 : PySem.W.findIn K (.ref CC) "rooms" = some (some (.ref f6))) (i6 : PySem.W.isFn K (.ref f6) = true)
    (l6 : K.lookup f6 = some ⟨oc6, od6, .func (PySem.W.fnOf "rooms" "NamedHall.rooms" (defArgs s_NamedHall_rooms) (defBody s_NamedHall_rooms) (defScope s_NamedHall_rooms) .none kV6 dc6 pm6 an6 cd6 ct6), sl6⟩) (c6 : PySem.W.codeIn K cd6 "NamedHall.rooms" = true) (k6 : PySem.W.keepIn K (.ref f6) = true)
    {f7 : Addr} {od7 an7 : Option Addr} {sl7 : Array (Option Value)} {oc7 kV7 dc7 pm7 cd7 ct7 : Value}
    (a7 : PySem.W.findIn K (.ref CC) "passages" = some (some (.ref f7))) (i7 : PySem.W.isFn K (.ref f7) = true)
    (l7 : K.lookup f7 = some ⟨oc7, od7, .func (PySem.W.fnOf "passages" "NamedHall.passages" (defArgs s_NamedHall_passages) (defBody s_NamedHall_passages) (defScope s_NamedHall_passages) .none kV7 dc7 pm7 an7 cd7 ct7), sl7⟩) (c7 : PySem.W.codeIn K cd7 "NamedHall.passages" = true) (k7 : PySem.W.keepIn K (.ref f7) = true)
    {f8 : Addr} {od8 an8 : Option Addr} {sl8 : Array (Option Value)} {oc8 kV8 dc8 pm8 cd8 ct8 : Value}
    (a8 : PySem.W.nsIn K mainGlobals "_law_fresh" = some (some (.ref f8)))
    (l8 : K.lookup f8 = some ⟨oc8, od8, .func (PySem.W.fnOf "_law_fresh" "_law_fresh" (defArgs s_fresh) (defBody s_fresh) (defScope s_fresh) .none kV8 dc8 pm8 an8 cd8 ct8), sl8⟩) (c8 : PySem.W.codeIn K cd8 "_law_fresh" = true) (k8 : PySem.W.keepIn K (.ref f8) = true)
    {f9 : Addr} {od9 an9 : Option Addr} {sl9 : Array (Option Value)} {oc9 kV9 dc9 pm9 cd9 ct9 : Value}
    (a9 : PySem.W.nsIn K mainGlobals "_law_width" = some (some (.ref f9)))
    (l9 : K.lookup f9 = some ⟨oc9, od9, .func (PySem.W.fnOf "_law_width" "_law_width" (defArgs s_width) (defBody s_width) (defScope s_width) .none kV9 dc9 pm9 an9 cd9 ct9), sl9⟩) (c9 : PySem.W.codeIn K cd9 "_law_width" = true) (k9 : PySem.W.keepIn K (.ref f9) = true)
    {f10 : Addr} {od10 an10 : Option Addr} {sl10 : Array (Option Value)} {oc10 kV10 dc10 pm10 cd10 ct10 : Value}
    (a10 : PySem.W.nsIn K mainGlobals "_law_length" = some (some (.ref f10)))
    (l10 : K.lookup f10 = some ⟨oc10, od10, .func (PySem.W.fnOf "_law_length" "_law_length" (defArgs s_length) (defBody s_length) (defScope s_length) .none kV10 dc10 pm10 an10 cd10 ct10), sl10⟩) (c10 : PySem.W.codeIn K cd10 "_law_length" = true) (k10 : PySem.W.keepIn K (.ref f10) = true)
    {f11 : Addr} {od11 an11 : Option Addr} {sl11 : Array (Option Value)} {oc11 kV11 dc11 pm11 cd11 ct11 : Value}
    (a11 : PySem.W.nsIn K mainGlobals "_law_deed" = some (some (.ref f11)))
    (l11 : K.lookup f11 = some ⟨oc11, od11, .func (PySem.W.fnOf "_law_deed" "_law_deed" (defArgs s_deed) (defBody s_deed) (defScope s_deed) .none kV11 dc11 pm11 an11 cd11 ct11), sl11⟩) (c11 : PySem.W.codeIn K cd11 "_law_deed" = true) (k11 : PySem.W.keepIn K (.ref f11) = true)
    {f12 : Addr} {od12 an12 : Option Addr} {sl12 : Array (Option Value)} {oc12 kV12 dc12 pm12 cd12 ct12 : Value}
    (a12 : PySem.W.findIn K (.ref CC) "lay" = some (some (.ref f12))) (i12 : PySem.W.isFn K (.ref f12) = true)
    (l12 : K.lookup f12 = some ⟨oc12, od12, .func (PySem.W.fnOf "lay" "NamedHall.lay" (defArgs s_NamedHall_lay) (defBody s_NamedHall_lay) (defScope s_NamedHall_lay) .none kV12 dc12 pm12 an12 cd12 ct12), sl12⟩) (c12 : PySem.W.codeIn K cd12 "NamedHall.lay" = true) (k12 : PySem.W.keepIn K (.ref f12) = true)
    {f13 : Addr} {od13 an13 : Option Addr} {sl13 : Array (Option Value)} {oc13 kV13 dc13 pm13 cd13 ct13 : Value}
    (a13 : PySem.W.findIn K (.ref CC) "place_of" = some (some (.ref f13))) (i13 : PySem.W.isFn K (.ref f13) = true)
    (l13 : K.lookup f13 = some ⟨oc13, od13, .func (PySem.W.fnOf "place_of" "NamedHall.place_of" (defArgs s_NamedHall_place_of) (defBody s_NamedHall_place_of) (defScope s_NamedHall_place_of) .none kV13 dc13 pm13 an13 cd13 ct13), sl13⟩) (c13 : PySem.W.codeIn K cd13 "NamedHall.place_of" = true) (k13 : PySem.W.keepIn K (.ref f13) = true)
    {f14 : Addr} {od14 an14 : Option Addr} {sl14 : Array (Option Value)} {oc14 kV14 dc14 pm14 cd14 ct14 : Value}
    (a14 : PySem.W.findIn K (.ref CC) "shut" = some (some (.ref f14))) (i14 : PySem.W.isFn K (.ref f14) = true)
    (l14 : K.lookup f14 = some ⟨oc14, od14, .func (PySem.W.fnOf "shut" "NamedHall.shut" (defArgs s_NamedHall_shut) (defBody s_NamedHall_shut) (defScope s_NamedHall_shut) .none kV14 dc14 pm14 an14 cd14 ct14), sl14⟩) (c14 : PySem.W.codeIn K cd14 "NamedHall.shut" = true) (k14 : PySem.W.keepIn K (.ref f14) = true)
    {f15 : Addr} {od15 an15 : Option Addr} {sl15 : Array (Option Value)} {oc15 kV15 dc15 pm15 cd15 ct15 : Value}
    (a15 : PySem.W.findIn K (.ref CC) "widen" = some (some (.ref f15))) (i15 : PySem.W.isFn K (.ref f15) = true)
    (l15 : K.lookup f15 = some ⟨oc15, od15, .func (PySem.W.fnOf "widen" "NamedHall.widen" (defArgs s_NamedHall_widen) (defBody s_NamedHall_widen) (defScope s_NamedHall_widen) .none kV15 dc15 pm15 an15 cd15 ct15), sl15⟩) (c15 : PySem.W.codeIn K cd15 "NamedHall.widen" = true) (k15 : PySem.W.keepIn K (.ref f15) = true)
    {f16 : Addr} {od16 an16 : Option Addr} {sl16 : Array (Option Value)} {oc16 kV16 dc16 pm16 cd16 ct16 : Value}
    (a16 : PySem.W.findIn K (.ref CC) "narrow" = some (some (.ref f16))) (i16 : PySem.W.isFn K (.ref f16) = true)
    (l16 : K.lookup f16 = some ⟨oc16, od16, .func (PySem.W.fnOf "narrow" "NamedHall.narrow" (defArgs s_NamedHall_narrow) (defBody s_NamedHall_narrow) (defScope s_NamedHall_narrow) .none kV16 dc16 pm16 an16 cd16 ct16), sl16⟩) (c16 : PySem.W.codeIn K cd16 "NamedHall.narrow" = true) (k16 : PySem.W.keepIn K (.ref f16) = true)
    {f17 : Addr} {od17 an17 : Option Addr} {sl17 : Array (Option Value)} {oc17 kV17 dc17 pm17 cd17 ct17 : Value}
    (a17 : PySem.W.nsIn K mainGlobals "_law_do" = some (some (.ref f17)))
    (l17 : K.lookup f17 = some ⟨oc17, od17, .func (PySem.W.fnOf "_law_do" "_law_do" (defArgs s_do) (defBody s_do) (defScope s_do) .none kV17 dc17 pm17 an17 cd17 ct17), sl17⟩) (c17 : PySem.W.codeIn K cd17 "_law_do" = true) (k17 : PySem.W.keepIn K (.ref f17) = true)
    {f18 : Addr} {od18 an18 : Option Addr} {sl18 : Array (Option Value)} {oc18 kV18 dc18 pm18 cd18 ct18 : Value}
    (a18 : PySem.W.nsIn K mainGlobals "_law_noted" = some (some (.ref f18)))
    (l18 : K.lookup f18 = some ⟨oc18, od18, .func (PySem.W.fnOf "_law_noted" "_law_noted" (defArgs s_noted) (defBody s_noted) (defScope s_noted) .none kV18 dc18 pm18 an18 cd18 ct18), sl18⟩) (c18 : PySem.W.codeIn K cd18 "_law_noted" = true) (k18 : PySem.W.keepIn K (.ref f18) = true)
    {f19 : Addr} {od19 an19 : Option Addr} {sl19 : Array (Option Value)} {oc19 kV19 dc19 pm19 cd19 ct19 : Value}
    (a19 : PySem.W.nsIn K mainGlobals "_law_is" = some (some (.ref f19)))
    (l19 : K.lookup f19 = some ⟨oc19, od19, .func (PySem.W.fnOf "_law_is" "_law_is" (defArgs s_is) (defBody s_is) (defScope s_is) .none kV19 dc19 pm19 an19 cd19 ct19), sl19⟩) (c19 : PySem.W.codeIn K cd19 "_law_is" = true) (k19 : PySem.W.keepIn K (.ref f19) = true)
    {f20 : Addr} {od20 an20 : Option Addr} {sl20 : Array (Option Value)} {oc20 kV20 dc20 pm20 cd20 ct20 : Value}
    (a20 : PySem.W.nsIn K mainGlobals "_law_begun" = some (some (.ref f20)))
    (l20 : K.lookup f20 = some ⟨oc20, od20, .func (PySem.W.fnOf "_law_begun" "_law_begun" (defArgs s_begun) (defBody s_begun) (defScope s_begun) .none kV20 dc20 pm20 an20 cd20 ct20), sl20⟩) (c20 : PySem.W.codeIn K cd20 "_law_begun" = true) (k20 : PySem.W.keepIn K (.ref f20) = true)
    {f21 : Addr} {od21 an21 : Option Addr} {sl21 : Array (Option Value)} {oc21 kV21 dc21 pm21 cd21 ct21 : Value}
    (a21 : PySem.W.nsIn K mainGlobals "_law_no_name" = some (some (.ref f21)))
    (l21 : K.lookup f21 = some ⟨oc21, od21, .func (PySem.W.fnOf "_law_no_name" "_law_no_name" (defArgs s_no_name) (defBody s_no_name) (defScope s_no_name) .none kV21 dc21 pm21 an21 cd21 ct21), sl21⟩) (c21 : PySem.W.codeIn K cd21 "_law_no_name" = true) (k21 : PySem.W.keepIn K (.ref f21) = true)
    {f22 : Addr} {od22 an22 : Option Addr} {sl22 : Array (Option Value)} {oc22 kV22 dc22 pm22 cd22 ct22 : Value}
    (a22 : PySem.W.nsIn K mainGlobals "_law_begins" = some (some (.ref f22)))
    (l22 : K.lookup f22 = some ⟨oc22, od22, .func (PySem.W.fnOf "_law_begins" "_law_begins" (defArgs s_begins) (defBody s_begins) (defScope s_begins) .none kV22 dc22 pm22 an22 cd22 ct22), sl22⟩) (c22 : PySem.W.codeIn K cd22 "_law_begins" = true) (k22 : PySem.W.keepIn K (.ref f22) = true)
    {f23 : Addr} {od23 an23 : Option Addr} {sl23 : Array (Option Value)} {oc23 kV23 dc23 pm23 cd23 ct23 : Value}
    (a23 : PySem.W.nsIn K mainGlobals "_law_bad_lay" = some (some (.ref f23)))
    (l23 : K.lookup f23 = some ⟨oc23, od23, .func (PySem.W.fnOf "_law_bad_lay" "_law_bad_lay" (defArgs s_bad_lay) (defBody s_bad_lay) (defScope s_bad_lay) .none kV23 dc23 pm23 an23 cd23 ct23), sl23⟩) (c23 : PySem.W.codeIn K cd23 "_law_bad_lay" = true) (k23 : PySem.W.keepIn K (.ref f23) = true)
    {f24 : Addr} {od24 an24 : Option Addr} {sl24 : Array (Option Value)} {oc24 kV24 dc24 pm24 cd24 ct24 : Value}
    (a24 : PySem.W.nsIn K mainGlobals "_law_bad" = some (some (.ref f24)))
    (l24 : K.lookup f24 = some ⟨oc24, od24, .func (PySem.W.fnOf "_law_bad" "_law_bad" (defArgs s_bad) (defBody s_bad) (defScope s_bad) .none kV24 dc24 pm24 an24 cd24 ct24), sl24⟩) (c24 : PySem.W.codeIn K cd24 "_law_bad" = true) (k24 : PySem.W.keepIn K (.ref f24) = true)
    {f25 : Addr} {od25 an25 : Option Addr} {sl25 : Array (Option Value)} {oc25 kV25 dc25 pm25 cd25 ct25 : Value}
    (a25 : PySem.W.findIn K (.ref NH) "__init__" = some (some (.ref f25))) (i25 : PySem.W.typeIn K (.ref f25) = some (.type "function"))
    (l25 : K.lookup f25 = some ⟨oc25, od25, .func (PySem.W.fnOf "__init__" "NoHall.__init__" (defArgs s_NoHall_init) (defBody s_NoHall_init) (defScope s_NoHall_init) .none kV25 dc25 pm25 an25 cd25 ct25), sl25⟩) (c25 : PySem.W.codeIn K cd25 "NoHall.__init__" = true) (k25 : PySem.W.keepIn K (.ref f25) = true)
    {f26 : Addr} {od26 an26 : Option Addr} {sl26 : Array (Option Value)} {oc26 kV26 dc26 pm26 cd26 ct26 : Value}
    (a26 : PySem.W.nsIn K mainGlobals "_law_caught" = some (some (.ref f26)))
    (l26 : K.lookup f26 = some ⟨oc26, od26, .func (PySem.W.fnOf "_law_caught" "_law_caught" (defArgs s_caught) (defBody s_caught) (defScope s_caught) .none kV26 dc26 pm26 an26 cd26 ct26), sl26⟩) (c26 : PySem.W.codeIn K cd26 "_law_caught" = true) (k26 : PySem.W.keepIn K (.ref f26) = true)
    {f27 : Addr} {od27 an27 : Option Addr} {sl27 : Array (Option Value)} {oc27 kV27 dc27 pm27 cd27 ct27 : Value}
    (a27 : PySem.W.nsIn K mainGlobals "_law_place" = some (some (.ref f27)))
    (l27 : K.lookup f27 = some ⟨oc27, od27, .func (PySem.W.fnOf "_law_place" "_law_place" (defArgs s_place) (defBody s_place) (defScope s_place) .none kV27 dc27 pm27 an27 cd27 ct27), sl27⟩) (c27 : PySem.W.codeIn K cd27 "_law_place" = true) (k27 : PySem.W.keepIn K (.ref f27) = true)
    {f28 : Addr} {od28 an28 : Option Addr} {sl28 : Array (Option Value)} {oc28 kV28 dc28 pm28 cd28 ct28 : Value}
    (a28 : PySem.W.nsIn K mainGlobals "_law_full" = some (some (.ref f28)))
    (l28 : K.lookup f28 = some ⟨oc28, od28, .func (PySem.W.fnOf "_law_full" "_law_full" (defArgs s_full) (defBody s_full) (defScope s_full) .none kV28 dc28 pm28 an28 cd28 ct28), sl28⟩) (c28 : PySem.W.codeIn K cd28 "_law_full" = true) (k28 : PySem.W.keepIn K (.ref f28) = true)
    {f29 : Addr} {od29 an29 : Option Addr} {sl29 : Array (Option Value)} {oc29 kV29 dc29 pm29 cd29 ct29 : Value}
    (a29 : PySem.W.nsIn K mainGlobals "law" = some (some (.ref f29)))
    (l29 : K.lookup f29 = some ⟨oc29, od29, .func (PySem.W.fnOf "law" "law" (defArgs s_law) (defBody s_law) (defScope s_law) .none kV29 dc29 pm29 an29 cd29 ct29), sl29⟩) (c29 : PySem.W.codeIn K cd29 "law" = true) (k29 : PySem.W.keepIn K (.ref f29) = true)
    (aC : PySem.W.nsIn K mainGlobals "NamedHall" = some (some (.ref CC))) (pg : PySem.W.plainGet K CC Str.empty = true) (hd : PySem.W.hasDictIn K CC = true) (po : PySem.W.plainOver K CC = true) (sa : PySem.W.findIn K (.ref CC) "__setattr__" = some (some (.builtin "object.__setattr__"))) (mk : PySem.W.makesIn K CC = true) (kc : PySem.W.keepIn K (.ref CC) = true)
    (y_nR : PySem.W.findIn K (.ref CC) "room_names" = some none)
    (y_nM : PySem.W.findIn K (.ref CC) "names" = some none)
    (y_nH : PySem.W.findIn K (.ref CC) "held" = some none)
    {u_cL : Value} (g_cL : PySem.W.nsIn K mainGlobals "LETTERS" = some (some u_cL)) (r_cL : RelV (.str letters) u_cL)
    {u_cN : Value} (g_cN : PySem.W.nsIn K mainGlobals "LONGEST_NAME" = some (some u_cN)) (r_cN : RelV (.int 12) u_cN)
    {u_cP : Value} (g_cP : PySem.W.nsIn K mainGlobals "MOST_PASSAGES" = some (some u_cP)) (r_cP : RelV (.int 60) u_cP)
    {u_cR : Value} (g_cR : PySem.W.nsIn K mainGlobals "MOST_ROOMS" = some (some u_cR)) (r_cR : RelV (.int 40) u_cR)
    (z_len : PySem.W.nsIn K mainGlobals "len" = some none)
    (z_range : PySem.W.nsIn K mainGlobals "range" = some none)
    (z_min : PySem.W.nsIn K mainGlobals "min" = some none)
    (z_list : PySem.W.nsIn K mainGlobals "list" = some none)
    (z_tuple : PySem.W.nsIn K mainGlobals "tuple" = some none)
    (z_zip : PySem.W.nsIn K mainGlobals "zip" = some none)
    (z_isi : PySem.W.nsIn K mainGlobals "isinstance" = some none)
    (z_int : PySem.W.nsIn K mainGlobals "int" = some none)
    (z_bool : PySem.W.nsIn K mainGlobals "bool" = some none)
    (z_abs : PySem.W.nsIn K mainGlobals "abs" = some none)
    (z_ve : PySem.W.nsIn K mainGlobals "ValueError" = some none)
    : ∃ fd : FuncData, (∀ (s : Shared) (v : Value), BindsTo s fd ⟨[v], []⟩ [("_law_script", v)]) ∧ ∀ base : Heap, K.In base → base.Ns mainGlobals mg → FnOk l.prog w K mg base CX0 7 fa fd ["_law_script"] (spD K [true] tLaw) := by
  have e := hfa.symm.trans (PySem.W.mg_of X G a29)
  cases e
  have B : Blt mg := ⟨PySem.W.mg_none_of X G z_len, PySem.W.mg_none_of X G z_range, PySem.W.mg_none_of X G z_min, PySem.W.mg_none_of X G z_list, PySem.W.mg_none_of X G z_tuple, PySem.W.mg_none_of X G z_zip, PySem.W.mg_none_of X G z_isi, PySem.W.mg_none_of X G z_int, PySem.W.mg_none_of X G z_bool, PySem.W.mg_none_of X G z_abs, PySem.W.mg_none_of X G z_ve⟩
  have T : HTxt K mg CC := ⟨⟨pg, hd, po, sa⟩, y_nR, y_nM, y_nH, ⟨_, PySem.W.mg_of X G g_cL, r_cL⟩, ⟨_, PySem.W.mg_of X G g_cN, r_cN⟩, ⟨_, PySem.W.mg_of X G g_cP, r_cP⟩, ⟨_, PySem.W.mg_of X G g_cR, r_cR⟩⟩
  have TE : ETxt K mg HE NH NN TW TM NP NW NL := ⟨PySem.W.mg_of X G e_gHE, PySem.W.mg_of X G e_gNH, PySem.W.mg_of X G e_gNN, PySem.W.mg_of X G e_gTW, PySem.W.mg_of X G e_gTM, PySem.W.mg_of X G e_gNP, PySem.W.mg_of X G e_gNW, PySem.W.mg_of X G e_gNL, ⟨_, _, _, _, _, _, _, _, _, _, _, _, _, _, e_oex⟩, e_sa, e_pl, e_spc, e_tks, e_rdH, e_gaH, e_inH, e_xNH, e_gaNH, e_ggNH, e_bNH, e_tNH, e_hNH, e_kNH, e_cNH, e_mNH, e_xNHHE, e_iNHNH, e_iNHNN, e_iNHTW, e_iNHTM, e_iNHNP, e_iNHNW, e_iNHNL, e_ivNH, e_qNN, e_gaNN, e_ggNN, e_bNN, e_tNN, e_hNN, e_kNN, e_cNN, e_mNN, e_xNNHE, e_iNNNH, e_iNNNN, e_iNNTW, e_iNNTM, e_iNNNP, e_iNNNW, e_iNNNL, e_ivNN, e_qTW, e_gaTW, e_ggTW, e_bTW, e_tTW, e_hTW, e_kTW, e_cTW, e_mTW, e_xTWHE, e_iTWNH, e_iTWNN, e_iTWTW, e_iTWTM, e_iTWNP, e_iTWNW, e_iTWNL, e_ivTW, e_qTM, e_gaTM, e_ggTM, e_bTM, e_tTM, e_hTM, e_kTM, e_cTM, e_mTM, e_xTMHE, e_iTMNH, e_iTMNN, e_iTMTW, e_iTMTM, e_iTMNP, e_iTMNW, e_iTMNL, e_ivTM, e_qNP, e_gaNP, e_ggNP, e_bNP, e_tNP, e_hNP, e_kNP, e_cNP, e_mNP, e_xNPHE, e_iNPNH, e_iNPNN, e_iNPTW, e_iNPTM, e_iNPNP, e_iNPNW, e_iNPNL, e_ivNP, e_qNW, e_gaNW, e_ggNW, e_bNW, e_tNW, e_hNW, e_kNW, e_cNW, e_mNW, e_xNWHE, e_iNWNH, e_iNWNN, e_iNWTW, e_iNWTM, e_iNWNP, e_iNWNW, e_iNWNL, e_ivNW⟩
  have F1 := fun_mk (st := s_cell_at) l1 c1 k1
  have F2 := fun_mk (st := s_mixed) l2 c2 k2
  have F3 := fun_mk (st := s_words) l3 c3 k3
  have F4 := fun_mk (st := s_look_at_name) l4 c4 k4
  have F5 := fun_mk (st := s_NamedHall_init) l5 c5 k5
  have F6 := fun_mk (st := s_NamedHall_rooms) l6 c6 k6
  have F7 := fun_mk (st := s_NamedHall_passages) l7 c7 k7
  have F8 := fun_mk (st := s_fresh) l8 c8 k8
  have F9 := fun_mk (st := s_width) l9 c9 k9
  have F10 := fun_mk (st := s_length) l10 c10 k10
  have F11 := fun_mk (st := s_deed) l11 c11 k11
  have F12 := fun_mk (st := s_NamedHall_lay) l12 c12 k12
  have F13 := fun_mk (st := s_NamedHall_place_of) l13 c13 k13
  have F14 := fun_mk (st := s_NamedHall_shut) l14 c14 k14
  have F15 := fun_mk (st := s_NamedHall_widen) l15 c15 k15
  have F16 := fun_mk (st := s_NamedHall_narrow) l16 c16 k16
  have F17 := fun_mk (st := s_do) l17 c17 k17
  have F18 := fun_mk (st := s_noted) l18 c18 k18
  have F19 := fun_mk (st := s_is) l19 c19 k19
  have F20 := fun_mk (st := s_begun) l20 c20 k20
  have F21 := fun_mk (st := s_no_name) l21 c21 k21
  have F22 := fun_mk (st := s_begins) l22 c22 k22
  have F23 := fun_mk (st := s_bad_lay) l23 c23 k23
  have F24 := fun_mk (st := s_bad) l24 c24 k24
  have F25 := fun_mk (st := s_NoHall_init) l25 c25 k25
  have F26 := fun_mk (st := s_caught) l26 c26 k26
  have F27 := fun_mk (st := s_place) l27 c27 k27
  have F28 := fun_mk (st := s_full) l28 c28 k28
  have F29 := fun_mk (st := s_law) l29 c29 k29
  refine ⟨PySem.W.fnOf "law" "law" (defArgs s_law) (defBody s_law) (defScope s_law) .none kV29 dc29 pm29 an29 cd29 ct29, fun s v => .of_eq rfl, fun base _ _ => ?_⟩
  have b1 := F1.binds (ps := ["_law_script", "_law_k"]) fun _ _ _ _ _ _ us hl => match us, hl with | [_, _], _ => rfl
  have C1 := c_cell_at (P := l.prog) (w := w) (base := base) F1 (PySem.W.mg_of X G a1) b1 B
  have b2 := F2.binds (ps := ["_law_cell", "_law_k"]) fun _ _ _ _ _ _ us hl => match us, hl with | [_, _], _ => rfl
  have C2 := c_mixed (P := l.prog) (w := w) (base := base) F2 (PySem.W.mg_of X G a2) b2 B
  have b3 := F3.binds (ps := ["_law_cell", "_law_many", "_law_k"]) fun _ _ _ _ _ _ us hl => match us, hl with | [_, _, _], _ => rfl
  have C3 := c_words (P := l.prog) (w := w) (base := base) F3 (PySem.W.mg_of X G a3) b3 B C2
  have b4 := F4.binds (ps := ["name"]) fun _ _ _ _ _ _ us hl => match us, hl with | [_], _ => rfl
  have C4 := c_look_at_name (P := l.prog) (w := w) (base := base) F4 (PySem.W.mg_of X G a4) b4 B T
  have b5 := F5.binds (ps := ["self", "start", "goal"]) fun _ _ _ _ _ _ us hl => match us, hl with | [_, _, _], _ => rfl
  have C5 := c_NamedHall_init (P := l.prog) (w := w) (base := base) F5 ⟨mk, a5, i5, kc⟩ (PySem.W.mg_of X G aC) b5 B T C4
  have b6 := F6.binds (ps := ["self"]) fun _ _ _ _ _ _ us hl => match us, hl with | [_], _ => rfl
  have C6 := c_NamedHall_rooms (P := l.prog) (w := w) (base := base) F6 ⟨a6, i6, k6⟩ b6 B T
  have b7 := F7.binds (ps := ["self"]) fun _ _ _ _ _ _ us hl => match us, hl with | [_], _ => rfl
  have C7 := c_NamedHall_passages (P := l.prog) (w := w) (base := base) F7 ⟨a7, i7, k7⟩ b7 B T
  have b8 := F8.binds (ps := ["_law_words_here", "_law_held"]) fun _ _ _ _ _ _ us hl => match us, hl with | [_, _], _ => rfl
  have C8 := c_fresh (P := l.prog) (w := w) (base := base) F8 (PySem.W.mg_of X G a8) b8
  have b9 := F9.binds (ps := ["_law_cell"]) fun _ _ _ _ _ _ us hl => match us, hl with | [_], _ => rfl
  have C9 := c_width (P := l.prog) (w := w) (base := base) F9 (PySem.W.mg_of X G a9) b9 C2
  have b10 := F10.binds (ps := ["_law_cell"]) fun _ _ _ _ _ _ us hl => match us, hl with | [_], _ => rfl
  have C10 := c_length (P := l.prog) (w := w) (base := base) F10 (PySem.W.mg_of X G a10) b10 C2
  have b11 := F11.binds (ps := ["_law_cell", "_law_held", "_law_rooms", "_law_names"]) fun _ _ _ _ _ _ us hl => match us, hl with | [_, _, _, _], _ => rfl
  have C11 := c_deed (P := l.prog) (w := w) (base := base) F11 (PySem.W.mg_of X G a11) b11 B C2 C8 C9 C10
  have b12 := F12.binds (ps := ["self", "name", "a", "b", "width", "length"]) fun _ _ _ _ _ _ us hl => match us, hl with | [_, _, _, _, _, _], _ => rfl
  have C12 := c_NamedHall_lay (P := l.prog) (w := w) (base := base) F12 ⟨a12, i12, k12⟩ b12 B T C4
  have b13 := F13.binds (ps := ["self", "name"]) fun _ _ _ _ _ _ us hl => match us, hl with | [_, _], _ => rfl
  have C13 := c_NamedHall_place_of (P := l.prog) (w := w) (base := base) F13 ⟨a13, i13, k13⟩ b13 B T
  have b14 := F14.binds (ps := ["self", "name"]) fun _ _ _ _ _ _ us hl => match us, hl with | [_, _], _ => rfl
  have C14 := c_NamedHall_shut (P := l.prog) (w := w) (base := base) F14 ⟨a14, i14, k14⟩ b14 B T C13
  have b15 := F15.binds (ps := ["self", "name", "more"]) fun _ _ _ _ _ _ us hl => match us, hl with | [_, _, _], _ => rfl
  have C15 := c_NamedHall_widen (P := l.prog) (w := w) (base := base) F15 ⟨a15, i15, k15⟩ b15 B T C13
  have b16 := F16.binds (ps := ["self", "name", "less"]) fun _ _ _ _ _ _ us hl => match us, hl with | [_, _, _], _ => rfl
  have C16 := c_NamedHall_narrow (P := l.prog) (w := w) (base := base) F16 ⟨a16, i16, k16⟩ b16 B T C13
  have b17 := F17.binds (ps := ["_law_hall", "_law_deed_here"]) fun _ _ _ _ _ _ us hl => match us, hl with | [_, _], _ => rfl
  have C17 := c_do (P := l.prog) (w := w) (base := base) F17 (PySem.W.mg_of X G a17) b17 T C12 C14 C15 C16
  have b18 := F18.binds (ps := ["_law_held", "_law_seen", "_law_deed_here"]) fun _ _ _ _ _ _ us hl => match us, hl with | [_, _, _], _ => rfl
  have C18 := c_noted (P := l.prog) (w := w) (base := base) F18 (PySem.W.mg_of X G a18) b18 B
  have b19 := F19.binds (ps := ["_law_caught_here", "_law_at"]) fun _ _ _ _ _ _ us hl => match us, hl with | [_, _], _ => rfl
  have C19 := c_is (P := l.prog) (w := w) (base := base) F19 (PySem.W.mg_of X G a19) b19 B
  have C20 := c_look_at_name_z (P := l.prog) (w := w) (base := base) F4 (PySem.W.mg_of X G a4) b4 B T TE
  have C21 := c_NamedHall_init_z (P := l.prog) (w := w) (base := base) F5 ⟨mk, a5, i5, kc⟩ (PySem.W.mg_of X G aC) b5 TE C4 C20
  have b20 := F20.binds (ps := ["_law_start", "_law_goal"]) fun _ _ _ _ _ _ us hl => match us, hl with | [_, _], _ => rfl
  have C22 := c_begun (P := l.prog) (w := w) (base := base) F20 (PySem.W.mg_of X G a20) b20 TE C21
  have b21 := F21.binds (ps := ["_law_number"]) fun _ _ _ _ _ _ us hl => match us, hl with | [_], _ => rfl
  have C23 := c_no_name (P := l.prog) (w := w) (base := base) F21 (PySem.W.mg_of X G a21) b21
  have b22 := F22.binds (ps := ["_law_number", "_law_rooms"]) fun _ _ _ _ _ _ us hl => match us, hl with | [_, _], _ => rfl
  have C24 := c_begins (P := l.prog) (w := w) (base := base) F22 (PySem.W.mg_of X G a22) b22 TE C19 C22 C23
  have b23 := F23.binds (ps := ["_law_number", "_law_held", "_law_rooms"]) fun _ _ _ _ _ _ us hl => match us, hl with | [_, _, _], _ => rfl
  have C25 := c_bad_lay (P := l.prog) (w := w) (base := base) F23 (PySem.W.mg_of X G a23) b23 B C23
  have b24 := F24.binds (ps := ["_law_cell", "_law_held", "_law_rooms"]) fun _ _ _ _ _ _ us hl => match us, hl with | [_, _, _], _ => rfl
  have C26 := c_bad (P := l.prog) (w := w) (base := base) F24 (PySem.W.mg_of X G a24) b24 B C2 C25
  have b25 := F25.binds (ps := ["self", "place"]) fun _ _ _ _ _ _ us hl => match us, hl with | [_, _], _ => rfl
  have C27 := c_NoHall_init (P := l.prog) (w := w) (base := base) F25 a25 i25 b25 TE
  have C28 := c_NamedHall_lay_z (P := l.prog) (w := w) (base := base) F12 ⟨a12, i12, k12⟩ b12 B T TE C27 C4 C20
  have C29 := c_NamedHall_place_of_z (P := l.prog) (w := w) (base := base) F13 ⟨a13, i13, k13⟩ b13 B T TE
  have C30 := c_NamedHall_shut_z (P := l.prog) (w := w) (base := base) F14 ⟨a14, i14, k14⟩ b14 B T TE C29
  have C31 := c_NamedHall_widen_z (P := l.prog) (w := w) (base := base) F15 ⟨a15, i15, k15⟩ b15 B T TE C13 C29
  have C32 := c_NamedHall_narrow_z (P := l.prog) (w := w) (base := base) F16 ⟨a16, i16, k16⟩ b16 B T TE C13 C29
  have C33 := c_do_z (P := l.prog) (w := w) (base := base) F17 (PySem.W.mg_of X G a17) b17 T TE C28 C30 C31 C32
  have b26 := F26.binds (ps := ["_law_hall", "_law_deed_here"]) fun _ _ _ _ _ _ us hl => match us, hl with | [_, _], _ => rfl
  have C34 := c_caught (P := l.prog) (w := w) (base := base) F26 (PySem.W.mg_of X G a26) b26 TE C33
  have b27 := F27.binds (ps := ["_law_hall", "_law_deed_here"]) fun _ _ _ _ _ _ us hl => match us, hl with | [_, _], _ => rfl
  have C35 := c_place (P := l.prog) (w := w) (base := base) F27 (PySem.W.mg_of X G a27) b27 TE C33
  have b28 := F28.binds (ps := ["_law_hall", "_law_held", "_law_seen"]) fun _ _ _ _ _ _ us hl => match us, hl with | [_, _, _], _ => rfl
  have C36 := c_full (P := l.prog) (w := w) (base := base) F28 (PySem.W.mg_of X G a28) b28 B T TE C12 C14 C6 C19 C34
  exact c_law F29 B T TE C1 C2 C3 C5 C6 C7 C11 C17 C18 C24 C26 C19 C34 C35 C36
end K
open PySem PySem.W PyProof.Rows
set_option maxRecDepth 100000 in
set_option maxHeartbeats 0 in
theorem PySem.Challenge.cw_leavehall_k62_deeds_refused_holds : PySem.Challenge.rw_leavehall_k62_deeds_refused.Holds := by
  w_on; o_law; k_head; (case hw => w_witness2)
  k_fill
  refine L2.walk_of (l := PySem.Challenge.rw_leavehall_k62_deeds_refused) (n := 63) (k := 7) (x := "_law_script") (CX := fun _ => L2.CX0) (sp := fun w => DL.spD _ [true] DL.tLaw) rfl (by decide) rfl ⟨rfl, by decide, by decide⟩ (fun w h Y => PySem.W.kIn_of Y) ?F (fun _ _ a ns hl _ hS => DL.sp_law hl hS) (fun _ _ _ _ _ h => h)
  case F =>
    intro w mg fa h KX G hmg
    refine' K.all_mk KX G hmg ?e_gHE ?e_gNH ?e_gNN ?e_gTW ?e_gTM ?e_gNP ?e_gNW ?e_gNL ?e_oex ?e_sa ?e_pl ?e_spc ?e_tks ?e_rdH ?e_gaH ?e_inH ?e_xNH ?e_gaNH ?e_ggNH ?e_bNH ?e_tNH ?e_hNH ?e_kNH ?e_cNH ?e_mNH ?e_xNHHE ?e_iNHNH ?e_iNHNN ?e_iNHTW ?e_iNHTM ?e_iNHNP ?e_iNHNW ?e_iNHNL ?e_ivNH ?e_qNN ?e_gaNN ?e_ggNN ?e_bNN ?e_tNN ?e_hNN ?e_kNN ?e_cNN ?e_mNN ?e_xNNHE ?e_iNNNH ?e_iNNNN ?e_iNNTW ?e_iNNTM ?e_iNNNP ?e_iNNNW ?e_iNNNL ?e_ivNN ?e_qTW ?e_gaTW ?e_ggTW ?e_bTW ?e_tTW ?e_hTW ?e_kTW ?e_cTW ?e_mTW ?e_xTWHE ?e_iTWNH ?e_iTWNN ?e_iTWTW ?e_iTWTM ?e_iTWNP ?e_iTWNW ?e_iTWNL ?e_ivTW ?e_qTM ?e_gaTM ?e_ggTM ?e_bTM ?e_tTM ?e_hTM ?e_kTM ?e_cTM ?e_mTM ?e_xTMHE ?e_iTMNH ?e_iTMNN ?e_iTMTW ?e_iTMTM ?e_iTMNP ?e_iTMNW ?e_iTMNL ?e_ivTM ?e_qNP ?e_gaNP ?e_ggNP ?e_bNP ?e_tNP ?e_hNP ?e_kNP ?e_cNP ?e_mNP ?e_xNPHE ?e_iNPNH ?e_iNPNN ?e_iNPTW ?e_iNPTM ?e_iNPNP ?e_iNPNW ?e_iNPNL ?e_ivNP ?e_qNW ?e_gaNW ?e_ggNW ?e_bNW ?e_tNW ?e_hNW ?e_kNW ?e_cNW ?e_mNW ?e_xNWHE ?e_iNWNH ?e_iNWNN ?e_iNWTW ?e_iNWTM ?e_iNWNP ?e_iNWNW ?e_iNWNL ?e_ivNW ?a1 ?l1 ?c1 ?k1 ?a2 ?l2 ?c2 ?k2 ?a3 ?l3 ?c3 ?k3 ?a4 ?l4 ?c4 ?k4 ?a5 ?i5 ?l5 ?c5 ?k5 ?a6 ?i6 ?l6 ?c6 ?k6 ?a7 ?i7 ?l7 ?c7 ?k7 ?a8 ?l8 ?c8 ?k8 ?a9 ?l9 ?c9 ?k9 ?a10 ?l10 ?c10 ?k10 ?a11 ?l11 ?c11 ?k11 ?a12 ?i12 ?l12 ?c12 ?k12 ?a13 ?i13 ?l13 ?c13 ?k13 ?a14 ?i14 ?l14 ?c14 ?k14 ?a15 ?i15 ?l15 ?c15 ?k15 ?a16 ?i16 ?l16 ?c16 ?k16 ?a17 ?l17 ?c17 ?k17 ?a18 ?l18 ?c18 ?k18 ?a19 ?l19 ?c19 ?k19 ?a20 ?l20 ?c20 ?k20 ?a21 ?l21 ?c21 ?k21 ?a22 ?l22 ?c22 ?k22 ?a23 ?l23 ?c23 ?k23 ?a24 ?l24 ?c24 ?k24 ?a25 ?i25 ?l25 ?c25 ?k25 ?a26 ?l26 ?c26 ?k26 ?a27 ?l27 ?c27 ?k27 ?a28 ?l28 ?c28 ?k28 ?a29 ?l29 ?c29 ?k29 ?aC ?pg ?hd ?po ?sa ?mk ?kc ?y_nR ?y_nM ?y_nH ?g_cL ?r_cL ?g_cN ?r_cN ?g_cP ?r_cP ?g_cR ?r_cR ?z_len ?z_range ?z_min ?z_list ?z_tuple ?z_zip ?z_isi ?z_int ?z_bool ?z_abs ?z_ve
    (case e_gHE => first | k_is | k_exc | rfl); (case e_gNH => first | k_is | k_exc | rfl); (case e_gNN => first | k_is | k_exc | rfl); (case e_gTW => first | k_is | k_exc | rfl); (case e_gTM => first | k_is | k_exc | rfl); (case e_gNP => first | k_is | k_exc | rfl)
    (case e_gNW => first | k_is | k_exc | rfl); (case e_gNL => first | k_is | k_exc | rfl); (case e_oex => first | k_is | k_exc | rfl); (case e_sa => first | k_is | k_exc | rfl); (case e_pl => first | k_is | k_exc | rfl); (case e_spc => first | k_is | k_exc | rfl)
    (case e_tks => first | k_is | k_exc | rfl); (case e_rdH => first | k_is | k_exc | rfl); (case e_gaH => first | k_is | k_exc | rfl); (case e_inH => first | k_is | k_exc | rfl); (case e_xNH => first | k_is | k_exc | rfl); (case e_gaNH => first | k_is | k_exc | rfl)
    (case e_ggNH => first | k_is | k_exc | rfl); (case e_bNH => first | k_is | k_exc | rfl); (case e_tNH => first | k_is | k_exc | rfl); (case e_hNH => first | k_is | k_exc | rfl); (case e_kNH => first | k_is | k_exc | rfl); (case e_cNH => first | k_is | k_exc | rfl)
    (case e_mNH => first | k_is | k_exc | rfl); (case e_xNHHE => first | k_is | k_exc | rfl); (case e_iNHNH => first | k_is | k_exc | rfl); (case e_iNHNN => first | k_is | k_exc | rfl); (case e_iNHTW => first | k_is | k_exc | rfl); (case e_iNHTM => first | k_is | k_exc | rfl)
    (case e_iNHNP => first | k_is | k_exc | rfl); (case e_iNHNW => first | k_is | k_exc | rfl); (case e_iNHNL => first | k_is | k_exc | rfl); (case e_ivNH => first | k_is | k_exc | rfl); (case e_qNN => first | k_is | k_exc | rfl); (case e_gaNN => first | k_is | k_exc | rfl)
    (case e_ggNN => first | k_is | k_exc | rfl); (case e_bNN => first | k_is | k_exc | rfl); (case e_tNN => first | k_is | k_exc | rfl); (case e_hNN => first | k_is | k_exc | rfl); (case e_kNN => first | k_is | k_exc | rfl); (case e_cNN => first | k_is | k_exc | rfl)
    (case e_mNN => first | k_is | k_exc | rfl); (case e_xNNHE => first | k_is | k_exc | rfl); (case e_iNNNH => first | k_is | k_exc | rfl); (case e_iNNNN => first | k_is | k_exc | rfl); (case e_iNNTW => first | k_is | k_exc | rfl); (case e_iNNTM => first | k_is | k_exc | rfl)
    (case e_iNNNP => first | k_is | k_exc | rfl); (case e_iNNNW => first | k_is | k_exc | rfl); (case e_iNNNL => first | k_is | k_exc | rfl); (case e_ivNN => first | k_is | k_exc | rfl); (case e_qTW => first | k_is | k_exc | rfl); (case e_gaTW => first | k_is | k_exc | rfl)
    (case e_ggTW => first | k_is | k_exc | rfl); (case e_bTW => first | k_is | k_exc | rfl); (case e_tTW => first | k_is | k_exc | rfl); (case e_hTW => first | k_is | k_exc | rfl); (case e_kTW => first | k_is | k_exc | rfl); (case e_cTW => first | k_is | k_exc | rfl)
    (case e_mTW => first | k_is | k_exc | rfl); (case e_xTWHE => first | k_is | k_exc | rfl); (case e_iTWNH => first | k_is | k_exc | rfl); (case e_iTWNN => first | k_is | k_exc | rfl); (case e_iTWTW => first | k_is | k_exc | rfl); (case e_iTWTM => first | k_is | k_exc | rfl)
    (case e_iTWNP => first | k_is | k_exc | rfl); (case e_iTWNW => first | k_is | k_exc | rfl); (case e_iTWNL => first | k_is | k_exc | rfl); (case e_ivTW => first | k_is | k_exc | rfl); (case e_qTM => first | k_is | k_exc | rfl); (case e_gaTM => first | k_is | k_exc | rfl)
    (case e_ggTM => first | k_is | k_exc | rfl); (case e_bTM => first | k_is | k_exc | rfl); (case e_tTM => first | k_is | k_exc | rfl); (case e_hTM => first | k_is | k_exc | rfl); (case e_kTM => first | k_is | k_exc | rfl); (case e_cTM => first | k_is | k_exc | rfl)
    (case e_mTM => first | k_is | k_exc | rfl); (case e_xTMHE => first | k_is | k_exc | rfl); (case e_iTMNH => first | k_is | k_exc | rfl); (case e_iTMNN => first | k_is | k_exc | rfl); (case e_iTMTW => first | k_is | k_exc | rfl); (case e_iTMTM => first | k_is | k_exc | rfl)
    (case e_iTMNP => first | k_is | k_exc | rfl); (case e_iTMNW => first | k_is | k_exc | rfl); (case e_iTMNL => first | k_is | k_exc | rfl); (case e_ivTM => first | k_is | k_exc | rfl); (case e_qNP => first | k_is | k_exc | rfl); (case e_gaNP => first | k_is | k_exc | rfl)
    (case e_ggNP => first | k_is | k_exc | rfl); (case e_bNP => first | k_is | k_exc | rfl); (case e_tNP => first | k_is | k_exc | rfl); (case e_hNP => first | k_is | k_exc | rfl); (case e_kNP => first | k_is | k_exc | rfl); (case e_cNP => first | k_is | k_exc | rfl)
    (case e_mNP => first | k_is | k_exc | rfl); (case e_xNPHE => first | k_is | k_exc | rfl); (case e_iNPNH => first | k_is | k_exc | rfl); (case e_iNPNN => first | k_is | k_exc | rfl); (case e_iNPTW => first | k_is | k_exc | rfl); (case e_iNPTM => first | k_is | k_exc | rfl)
    (case e_iNPNP => first | k_is | k_exc | rfl); (case e_iNPNW => first | k_is | k_exc | rfl); (case e_iNPNL => first | k_is | k_exc | rfl); (case e_ivNP => first | k_is | k_exc | rfl); (case e_qNW => first | k_is | k_exc | rfl); (case e_gaNW => first | k_is | k_exc | rfl)
    (case e_ggNW => first | k_is | k_exc | rfl); (case e_bNW => first | k_is | k_exc | rfl); (case e_tNW => first | k_is | k_exc | rfl); (case e_hNW => first | k_is | k_exc | rfl); (case e_kNW => first | k_is | k_exc | rfl); (case e_cNW => first | k_is | k_exc | rfl)
    (case e_mNW => first | k_is | k_exc | rfl); (case e_xNWHE => first | k_is | k_exc | rfl); (case e_iNWNH => first | k_is | k_exc | rfl); (case e_iNWNN => first | k_is | k_exc | rfl); (case e_iNWTW => first | k_is | k_exc | rfl); (case e_iNWTM => first | k_is | k_exc | rfl)
    (case e_iNWNP => first | k_is | k_exc | rfl); (case e_iNWNW => first | k_is | k_exc | rfl); (case e_iNWNL => first | k_is | k_exc | rfl); (case e_ivNW => first | k_is | k_exc | rfl); (case aC => k_is); (case pg => k_is)
    (case hd => k_is); (case po => k_is); (case sa => k_is); (case mk => k_is); (case kc => k_is); (case a1 => k_is)
    (case l1 => k_is); (case c1 => k_is); (case k1 => k_is); (case a2 => k_is); (case l2 => k_is); (case c2 => k_is)
    (case k2 => k_is); (case a3 => k_is); (case l3 => k_is); (case c3 => k_is); (case k3 => k_is); (case a4 => k_is)
    (case l4 => k_is); (case c4 => k_is); (case k4 => k_is); (case a5 => k_is); (case i5 => k_is); (case l5 => k_is)
    (case c5 => k_is); (case k5 => k_is); (case a6 => k_is); (case i6 => k_is); (case l6 => k_is); (case c6 => k_is)
    (case k6 => k_is); (case a7 => k_is); (case i7 => k_is); (case l7 => k_is); (case c7 => k_is); (case k7 => k_is)
    (case a8 => k_is); (case l8 => k_is); (case c8 => k_is); (case k8 => k_is); (case a9 => k_is); (case l9 => k_is)
    (case c9 => k_is); (case k9 => k_is); (case a10 => k_is); (case l10 => k_is); (case c10 => k_is); (case k10 => k_is)
    (case a11 => k_is); (case l11 => k_is); (case c11 => k_is); (case k11 => k_is); (case a12 => k_is); (case i12 => k_is)
    (case l12 => k_is); (case c12 => k_is); (case k12 => k_is); (case a13 => k_is); (case i13 => k_is); (case l13 => k_is)
    (case c13 => k_is); (case k13 => k_is); (case a14 => k_is); (case i14 => k_is); (case l14 => k_is); (case c14 => k_is)
    (case k14 => k_is); (case a15 => k_is); (case i15 => k_is); (case l15 => k_is); (case c15 => k_is); (case k15 => k_is)
    (case a16 => k_is); (case i16 => k_is); (case l16 => k_is); (case c16 => k_is); (case k16 => k_is); (case a17 => k_is)
    (case l17 => k_is); (case c17 => k_is); (case k17 => k_is); (case a18 => k_is); (case l18 => k_is); (case c18 => k_is)
    (case k18 => k_is); (case a19 => k_is); (case l19 => k_is); (case c19 => k_is); (case k19 => k_is); (case a20 => k_is)
    (case l20 => k_is); (case c20 => k_is); (case k20 => k_is); (case a21 => k_is); (case l21 => k_is); (case c21 => k_is)
    (case k21 => k_is); (case a22 => k_is); (case l22 => k_is); (case c22 => k_is); (case k22 => k_is); (case a23 => k_is)
    (case l23 => k_is); (case c23 => k_is); (case k23 => k_is); (case a24 => k_is); (case l24 => k_is); (case c24 => k_is)
    (case k24 => k_is); (case a25 => k_is); (case i25 => k_is); (case l25 => k_is); (case c25 => k_is); (case k25 => k_is)
    (case a26 => k_is); (case l26 => k_is); (case c26 => k_is); (case k26 => k_is); (case a27 => k_is); (case l27 => k_is)
    (case c27 => k_is); (case k27 => k_is); (case a28 => k_is); (case l28 => k_is); (case c28 => k_is); (case k28 => k_is)
    (case a29 => k_is); (case l29 => k_is); (case c29 => k_is); (case k29 => k_is); (case y_nR => k_is); (case y_nM => k_is)
    (case y_nH => k_is); (case g_cL => k_is); (case g_cN => k_is); (case g_cP => k_is); (case g_cR => k_is); (case z_len => k_is)
    (case z_range => k_is); (case z_min => k_is); (case z_list => k_is); (case z_tuple => k_is); (case z_zip => k_is); (case z_isi => k_is)
    (case z_int => k_is); (case z_bool => k_is); (case z_abs => k_is); (case z_ve => k_is)
    (case r_cL => exact ⟨_, rfl⟩)
    (case r_cN => exact ⟨_, rfl⟩)
    (case r_cP => exact ⟨_, rfl⟩)
    (case r_cR => exact ⟨_, rfl⟩)
