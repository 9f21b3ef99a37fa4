import PyProof.Rows.All
import Wide.All
import OpenK.AllK
import Wide.FinOn
import HandS.ForMost
import HandS.IsInst
import HandS.Zip
import HandS.Walk
import HandS.Evl
import KE.GoesEnum
import HandS.TupAny
import HandS.TupLe
import HandS.SortInts
import HandS.Conv
import HandS.More
import KE.KSortedM
import PySem.Challenge.RW_warmhold_k83_judge_of_prices
set_option Elab.async false
set_option linter.all false
set_option maxRecDepth 100000
set_option maxHeartbeats 4000000
/-! Mirrors: data without addresses, how a value stands for data, frames of slots, what an expression or a block computes. -/
namespace Mi
open PySem L2
open Evl (Ex ex_t ex_l ex_rd fresh_back)

inductive D where
  | non | bl (b : Bool) | int (i : Int) | str (s : Str)
  | lst (ds : List D) | tup (ds : List D)
  | dic (ks : List Key) (ds : List D)
  | dit (ks : List (List Key)) (ds : List D)
  | obj (c : Str) (ns : List Str) (ds : List D)
  | scr (ns : List Int)

/-- what the text's classes are at: the written part, the address of each class -/
structure Th where
  K : PySem.W.Frag
  C : Str → Addr

mutual
def Rep (T : Th) (H : Hp) : D → V → Prop
  | .non, v => v = .non
  | .bl b, v => v = .bl b
  | .int i, v => v = .int i
  | .str s, v => v = .str s
  | .lst ds, v => ∃ p vs, v = .ref p ∧ H p = some (.lst vs) ∧ Reps T H ds vs
  | .tup ds, v => ∃ p vs, v = .ref p ∧ H p = some (.tup vs) ∧ Reps T H ds vs
  | .dic ks ds, v => ∃ p vs, v = .ref p ∧ H p = some (.dK (ks.zip vs)) ∧ ks.length = vs.length ∧ Reps T H ds vs
  | .dit ks ds, v => ∃ p vs, v = .ref p ∧ H p = some (.dT (ks.zip vs)) ∧ ks.length = vs.length ∧ Reps T H ds vs
  | .obj c ns ds, v => ∃ p dx vs, v = .ref p ∧ H p = some (.ins (T.C c) dx (ns.zip vs)) ∧ ns.length = vs.length ∧ Reps T H ds vs
  | .scr ns, v => ∃ p, v = .ref p ∧ SqL T.K H p (ns.map V.int)
def Reps (T : Th) (H : Hp) : List D → List V → Prop
  | [], vs => vs = []
  | d :: ds, vs => ∃ v r, vs = v :: r ∧ Rep T H d v ∧ Reps T H ds r
end

section
variable {T : Th} {H H' : Hp}
mutual
theorem Rep.mono (e : Ex H H') : ∀ {d : D} {v : V}, Rep T H d v → Rep T H' d v
  | .non, v, h => by simpa only [Rep] using h
  | .bl b, v, h => by simpa only [Rep] using h
  | .int i, v, h => by simpa only [Rep] using h
  | .str s, v, h => by simpa only [Rep] using h
  | .lst ds, v, h => by
    simp only [Rep] at h ⊢
    obtain ⟨p, vs, q, r, s⟩ := h
    exact ⟨p, vs, q, e _ _ r, Reps.mono e s⟩
  | .tup ds, v, h => by
    simp only [Rep] at h ⊢
    obtain ⟨p, vs, q, r, s⟩ := h
    exact ⟨p, vs, q, e _ _ r, Reps.mono e s⟩
  | .dic ks ds, v, h => by
    simp only [Rep] at h ⊢
    obtain ⟨p, vs, q, r, l, s⟩ := h
    exact ⟨p, vs, q, e _ _ r, l, Reps.mono e s⟩
  | .dit ks ds, v, h => by
    simp only [Rep] at h ⊢
    obtain ⟨p, vs, q, r, l, s⟩ := h
    exact ⟨p, vs, q, e _ _ r, l, Reps.mono e s⟩
  | .obj c ns ds, v, h => by
    simp only [Rep] at h ⊢
    obtain ⟨p, dx, vs, q, r, l, s⟩ := h
    exact ⟨p, dx, vs, q, e _ _ r, l, Reps.mono e s⟩
  | .scr ns, v, h => by
    simp only [Rep] at h ⊢
    obtain ⟨p, q, r⟩ := h
    exact ⟨p, q, ex_l e r⟩
theorem Reps.mono (e : Ex H H') : ∀ {ds : List D} {vs : List V}, Reps T H ds vs → Reps T H' ds vs
  | [], vs, h => by simpa only [Reps] using h
  | d :: ds, vs, h => by
    simp only [Reps] at h ⊢
    obtain ⟨v, r, q, s, t⟩ := h
    exact ⟨v, r, q, Rep.mono e s, Reps.mono e t⟩
end
theorem Reps.len : ∀ {ds : List D} {vs : List V}, Reps T H ds vs → ds.length = vs.length
  | [], vs, h => by simp only [Reps] at h; subst h; rfl
  | d :: ds, vs, h => by
    simp only [Reps] at h
    obtain ⟨v, r, q, s, t⟩ := h
    subst q
    simp [Reps.len t]
theorem Reps.get : ∀ {ds : List D} {vs : List V} {i : Nat} {d : D}, Reps T H ds vs → ds[i]? = some d → ∃ v, vs[i]? = some v ∧ Rep T H d v
  | [], vs, i, d, h, e => by simp at e
  | d :: ds, vs, 0, d', h, e => by
    simp only [Reps] at h
    obtain ⟨v, r, q, s, t⟩ := h
    subst q
    simp at e; subst e
    exact ⟨v, rfl, s⟩
  | d :: ds, vs, i + 1, d', h, e => by
    simp only [Reps] at h
    obtain ⟨v, r, q, s, t⟩ := h
    subst q
    simpa using Reps.get (i := i) t (by simpa using e)
theorem Reps.get' : ∀ {ds : List D} {vs : List V} {i : Nat} {v : V}, Reps T H ds vs → vs[i]? = some v → ∃ d, ds[i]? = some d ∧ Rep T H d v := fun {ds vs i v} h e => by
  have hl := h.len
  have hi : i < vs.length := (List.getElem?_eq_some_iff.mp e).1
  obtain ⟨w, hw, r⟩ := h.get (i := i) (d := ds[i]'(by omega)) (by simp [hl, hi])
  rw [e] at hw; cases hw
  exact ⟨_, by simp [hl, hi], r⟩
theorem Reps.app : ∀ {ds es : List D} {vs ws : List V}, Reps T H ds vs → Reps T H es ws → Reps T H (ds ++ es) (vs ++ ws)
  | [], es, vs, ws, h, k => by simp only [Reps] at h; subst h; simpa using k
  | d :: ds, es, vs, ws, h, k => by
    simp only [Reps] at h
    obtain ⟨v, r, q, s, t⟩ := h
    subst q
    show Reps T H (d :: (ds ++ es)) (v :: (r ++ ws))
    simp only [Reps]
    exact ⟨v, _, rfl, s, Reps.app t k⟩
theorem Reps.one {d : D} {v : V} (h : Rep T H d v) : Reps T H [d] [v] := by
  simp only [Reps]
  exact ⟨v, [], rfl, h, rfl⟩
theorem Reps.nil : Reps T H [] [] := by simp only [Reps]
theorem Reps.cons {d : D} {v : V} {ds : List D} {vs : List V} (h : Rep T H d v) (k : Reps T H ds vs) : Reps T H (d :: ds) (v :: vs) := by
  simp only [Reps]
  exact ⟨v, vs, rfl, h, k⟩
theorem Reps.uncons {d : D} {ds : List D} {vs : List V} (h : Reps T H (d :: ds) vs) : ∃ v r, vs = v :: r ∧ Rep T H d v ∧ Reps T H ds r := by
  simpa only [Reps] using h
theorem Reps.set : ∀ {ds : List D} {vs : List V} {d : D} {v : V} (i : Nat), Reps T H ds vs → Rep T H d v → Reps T H (ds.set i d) (vs.set i v)
  | [], vs, d, v, i, h, k => by simp only [Reps] at h; subst h; simpa using Reps.nil
  | e :: ds, vs, d, v, 0, h, k => by
    obtain ⟨w, r, rfl, s, t⟩ := h.uncons
    exact Reps.cons k t
  | e :: ds, vs, d, v, i + 1, h, k => by
    obtain ⟨w, r, rfl, s, t⟩ := h.uncons
    exact Reps.cons s (Reps.set i t k)
theorem Reps.take : ∀ {ds : List D} {vs : List V} (n : Nat), Reps T H ds vs → Reps T H (ds.take n) (vs.take n)
  | ds, vs, 0, h => by simpa using Reps.nil
  | [], vs, n + 1, h => by simp only [Reps] at h; subst h; simpa using Reps.nil
  | d :: ds, vs, n + 1, h => by
    obtain ⟨w, r, rfl, s, t⟩ := h.uncons
    exact Reps.cons s (Reps.take n t)
theorem Reps.drop : ∀ {ds : List D} {vs : List V} (n : Nat), Reps T H ds vs → Reps T H (ds.drop n) (vs.drop n)
  | ds, vs, 0, h => by simpa using h
  | [], vs, n + 1, h => by simp only [Reps] at h; subst h; simpa using Reps.nil
  | d :: ds, vs, n + 1, h => by
    obtain ⟨w, r, rfl, s, t⟩ := h.uncons
    exact Reps.drop n t
theorem Reps.ints : ∀ {ns : List Int} {vs : List V}, Reps T H (ns.map D.int) vs → vs = ns.map V.int
  | [], vs, h => by simpa only [List.map_nil, Reps] using h
  | n :: ns, vs, h => by
    obtain ⟨w, r, rfl, s, t⟩ := h.uncons
    simp only [Rep] at s
    subst s
    rw [Reps.ints t]; rfl
theorem Reps.of_ints : ∀ (ns : List Int), Reps T H (ns.map D.int) (ns.map V.int)
  | [] => Reps.nil
  | n :: ns => Reps.cons (by simp only [Rep]) (Reps.of_ints ns)
end

/-- the frozen part F grows to F2 while the heap grows from H to H2: what is new in F2 was not in H -/
structure Grow (F F2 H H2 : Hp) : Prop where
  f : Ex F F2
  i : Ex F2 H2
  h : Ex H H2
  new : ∀ a, F2 a ≠ none → F a ≠ none ∨ H a = none
theorem Ex.some' {F F2 : Hp} (e : Ex F F2) {a : Addr} (h : F a ≠ none) : F2 a ≠ none := by
  cases q : F a with
  | none => exact absurd q h
  | some o => rw [e a o q]; simp
theorem Grow.refl {F H : Hp} (e : Ex F H) : Grow F F H H := ⟨Ex.refl F, e, Ex.refl H, fun _ h => .inl h⟩
theorem Grow.trans {F F2 F3 H H2 H3 : Hp} (a : Grow F F2 H H2) (b : Grow F2 F3 H2 H3) : Grow F F3 H H3 :=
  ⟨a.f.trans b.f, b.i, a.h.trans b.h, fun x h => by
    rcases b.new x h with q | q
    · exact a.new x q
    · exact .inr (by
        cases z : H x with
        | none => rfl
        | some o => rw [a.h x o z] at q; cases q)⟩
theorem Grow.lay {F H : Hp} (e : Ex F H) {p : Addr} (hp : H p = none) (o : HO) : Grow F F H (upd H p o) :=
  ⟨Ex.refl F, e.trans (Ex.new hp), Ex.new hp, fun _ h => .inl h⟩
theorem none_of_ex {F H : Hp} (e : Ex F H) {p : Addr} (hp : H p = none) : F p = none := fresh_back e hp
/-- what stands in H but not in F is taken into F -/
theorem Grow.freeze {F F2 H H2 : Hp} (g : Grow F F2 H H2) {p : Addr} {o : HO} (hp : H p = none) (h2 : H2 p = some o) (hf : F2 p = none) : Grow F (upd F2 p o) H H2 where
  f := g.f.trans (Ex.new hf)
  i := fun a u h => by
    by_cases e : a = p
    · subst e; rw [upd_same] at h; rw [h2, h]
    · rw [upd_ne e] at h; exact g.i a u h
  h := g.h
  new := fun a h => by
    by_cases e : a = p
    · subst e; exact .inr hp
    · rw [upd_ne e] at h; exact g.new a h

/-! ### slots -/
inductive Slot where
  | no | bad | val (d : D) | bor (d : D) | own (d : D) | mu (d : D)
abbrev Ctx := List Slot
def Slot.isOwn : Slot → Bool
  | .own _ => true
  | .mu _ => true
  | _ => false
/-- what stood at the entry: the part that may be read, the part that may be kept, the heap, the addresses of what may be changed -/
structure Base where
  B : Hp
  F : Hp
  H : Hp
  P : Nat → Addr
/-- where an answer's parts are held: in what may be kept (f), in what stood at the entry (b), in the heap as it is (h) -/
inductive Md where
  | f | b | h
def Md.fh : Md → Bool
  | .b => false
  | _ => true
def sel (Z : Base) (md : Md) (F H : Hp) : Hp := match md with | .f => F | .b => Z.B | .h => H
theorem sel_grow {Z : Base} {md : Md} {F F2 H H2 : Hp} (g : Grow F F2 H H2) : Ex (sel Z md F H) (sel Z md F2 H2) := by
  cases md
  · exact g.f
  · exact Ex.refl _
  · exact g.h
theorem sel_in {Z : Base} {md : Md} {F H : Hp} (e : Ex F H) (b : Ex Z.B H) : Ex (sel Z md F H) H := by
  cases md
  · exact e
  · exact b
  · exact Ex.refl H
theorem sel_out {Z : Base} {md : Md} {F H : Hp} (e : Ex F H) (hm : md.fh = true) : Ex F (sel Z md F H) := by
  cases md
  · exact Ex.refl F
  · cases hm
  · exact e
/-- a thing that is owned: its own object in H, its parts in F -/
def OwnC (T : Th) (F H : Hp) (p : Addr) : D → Prop
  | .lst ds => ∃ vs, H p = some (.lst vs) ∧ Reps T F ds vs
  | .dic ks ds => ∃ vs, H p = some (.dK (ks.zip vs)) ∧ ks.length = vs.length ∧ Reps T F ds vs
  | .dit ks ds => ∃ vs, H p = some (.dT (ks.zip vs)) ∧ ks.length = vs.length ∧ Reps T F ds vs
  | .obj c ns ds => ∃ dx vs, H p = some (.ins (T.C c) dx (ns.zip vs)) ∧ ns.length = vs.length ∧ Reps T F ds vs
  | _ => False
theorem OwnC.grow {T : Th} {F F2 H H2 : Hp} {p : Addr} {d : D} (h : OwnC T F H p d) (ef : Ex F F2) (eh : Ex H H2) : OwnC T F2 H2 p d := by
  cases d <;> simp only [OwnC] at h ⊢
  · obtain ⟨vs, a, b⟩ := h; exact ⟨vs, eh _ _ a, b.mono ef⟩
  · obtain ⟨vs, a, l, b⟩ := h; exact ⟨vs, eh _ _ a, l, b.mono ef⟩
  · obtain ⟨vs, a, l, b⟩ := h; exact ⟨vs, eh _ _ a, l, b.mono ef⟩
  · obtain ⟨dx, vs, a, l, b⟩ := h; exact ⟨dx, vs, eh _ _ a, l, b.mono ef⟩
theorem OwnC.there {T : Th} {F H : Hp} {p : Addr} {d : D} (h : OwnC T F H p d) : ∃ o, H p = some o ∧ ∀ F', Ex F F' → F' p = some o → Rep T F' d (.ref p) := by
  cases d <;> simp only [OwnC] at h
  · obtain ⟨vs, a, b⟩ := h; exact ⟨_, a, fun F' e q => by simp only [Rep]; exact ⟨p, vs, rfl, q, b.mono e⟩⟩
  · obtain ⟨vs, a, l, b⟩ := h; exact ⟨_, a, fun F' e q => by simp only [Rep]; exact ⟨p, vs, rfl, q, l, b.mono e⟩⟩
  · obtain ⟨vs, a, l, b⟩ := h; exact ⟨_, a, fun F' e q => by simp only [Rep]; exact ⟨p, vs, rfl, q, l, b.mono e⟩⟩
  · obtain ⟨dx, vs, a, l, b⟩ := h; exact ⟨_, a, fun F' e q => by simp only [Rep]; exact ⟨p, dx, vs, rfl, q, l, b.mono e⟩⟩
theorem OwnC.rep {T : Th} {F H : Hp} {p : Addr} {d : D} (h : OwnC T F H p d) (e : Ex F H) : Rep T H d (.ref p) := by
  obtain ⟨o, a, k⟩ := h.there
  exact k H e a
theorem OwnC.same {T : Th} {F F2 H H2 : Hp} {p : Addr} {o : HO} {d : D} (h : OwnC T F H p d) (ef : Ex F F2) (h1 : H p = some o) (h2 : H2 p = some o) : OwnC T F2 H2 p d := by
  cases d <;> simp only [OwnC] at h ⊢
  · obtain ⟨vs, a, b⟩ := h; exact ⟨vs, by rw [h2, ← h1, a], b.mono ef⟩
  · obtain ⟨vs, a, l, b⟩ := h; exact ⟨vs, by rw [h2, ← h1, a], l, b.mono ef⟩
  · obtain ⟨vs, a, l, b⟩ := h; exact ⟨vs, by rw [h2, ← h1, a], l, b.mono ef⟩
  · obtain ⟨dx, vs, a, l, b⟩ := h; exact ⟨dx, vs, by rw [h2, ← h1, a], l, b.mono ef⟩
/-- an other object is changed -/
theorem OwnC.upd {T : Th} {F H : Hp} {p q : Addr} {o : HO} {d : D} (h : OwnC T F H p d) (ne : p ≠ q) : OwnC T F (upd H q o) p d := by
  cases d <;> simp only [OwnC] at h ⊢
  · obtain ⟨vs, a, b⟩ := h; exact ⟨vs, by rw [upd_ne ne]; exact a, b⟩
  · obtain ⟨vs, a, l, b⟩ := h; exact ⟨vs, by rw [upd_ne ne]; exact a, l, b⟩
  · obtain ⟨vs, a, l, b⟩ := h; exact ⟨vs, by rw [upd_ne ne]; exact a, l, b⟩
  · obtain ⟨dx, vs, a, l, b⟩ := h; exact ⟨dx, vs, by rw [upd_ne ne]; exact a, l, b⟩

def SlotOk (T : Th) (Z : Base) (F H : Hp) (i : Nat) (o : Option (Option V)) : Slot → Prop
  | .no => True
  | .bad => False
  | .val d => ∃ v, o = some (some v) ∧ Rep T F d v
  | .bor d => ∃ v, o = some (some v) ∧ Rep T Z.B d v
  | .own d => ∃ p, o = some (some (.ref p)) ∧ Z.B p = none ∧ F p = none ∧ OwnC T F H p d ∧ Z.H p = none
  | .mu d => ∃ p, o = some (some (.ref p)) ∧ p = Z.P i ∧ Z.B p = none ∧ F p = none ∧ OwnC T F H p d
/-- the heap behind some steps of a body -/
structure Hv (Z : Base) (F H : Hp) : Prop where
  b : Ex Z.B H
  f0 : Ex Z.F F
  f : Ex F H
  dom : ∀ a, Z.H a ≠ none → H a ≠ none
  new : ∀ a, F a ≠ none → Z.F a ≠ none ∨ Z.H a = none
theorem Hv.grow {Z : Base} {F F2 H H2 : Hp} (h : Hv Z F H) (g : Grow F F2 H H2) : Hv Z F2 H2 :=
  ⟨h.b.trans g.h, h.f0.trans g.f, g.i, fun a q => Ex.some' g.h (h.dom a q), fun a q => by
    rcases g.new a q with z | z
    · exact h.new a z
    · refine .inr ?_
      cases y : Z.H a with
      | none => rfl
      | some o => exact absurd z (h.dom a (by rw [y]; simp))⟩
structure Ok (T : Th) (Z : Base) (Γ : Ctx) (F H : Hp) (σ : L2.St) : Prop where
  hv : Hv Z F H
  len : Γ.length ≤ σ.length
  at' : ∀ (i : Nat) (s : Slot), Γ[i]? = some s → SlotOk T Z F H i σ[i]? s
  sep : ∀ (i j : Nat) (p : Addr) (s t : Slot), Γ[i]? = some s → s.isOwn = true → Γ[j]? = some t → t.isOwn = true → σ[i]? = some (some (V.ref p)) → σ[j]? = some (some (V.ref p)) → i = j
section
variable {T : Th} {Z : Base} {Γ : Ctx} {F F2 H H2 : Hp} {σ : L2.St}
theorem SlotOk.grow {i : Nat} {o : Option (Option V)} {s : Slot} (h : SlotOk T Z F H i o s) (g : Grow F F2 H H2) : SlotOk T Z F2 H2 i o s := by
  have fr : ∀ {p : Addr} {d : D}, F p = none → OwnC T F H p d → F2 p = none := fun {p d} hf hc => by
    obtain ⟨u, hu, _⟩ := hc.there
    cases q : F2 p with
    | none => rfl
    | some u' =>
      rcases g.new p (by rw [q]; simp) with z | z
      · exact absurd hf z
      · rw [hu] at z; cases z
  cases s <;> simp only [SlotOk] at h ⊢
  · obtain ⟨v, a, b⟩ := h; exact ⟨v, a, b.mono g.f⟩
  · exact h
  · obtain ⟨p, a, b, c, d, z⟩ := h; exact ⟨p, a, b, fr c d, d.grow g.f g.h, z⟩
  · obtain ⟨p, a, a', b, c, d⟩ := h; exact ⟨p, a, a', b, fr c d, d.grow g.f g.h⟩
theorem Ok.grow (h : Ok T Z Γ F H σ) (g : Grow F F2 H H2) : Ok T Z Γ F2 H2 σ :=
  ⟨h.hv.grow g, h.len, fun i s e => (h.at' i s e).grow g, h.sep⟩
end

/-! ### what an expression, a test, an argument list computes -/
def Ev (T : Th) (md : Md) (te : TE) (Γ : Ctx) (m : Option D) : Prop := ∀ Z F H σ, Ok T Z Γ F H σ → ∀ d, m = some d → ∀ Q : VK, (∀ v F2 H2, Grow F F2 H H2 → Rep T (sel Z md F2 H2) d v → Q v H2) → te σ H Q
/-- a new thing, owned by who asked for it -/
def EvO (T : Th) (te : TE) (Γ : Ctx) (m : Option D) : Prop := ∀ Z F H σ, Ok T Z Γ F H σ → ∀ d, m = some d → ∀ Q : VK, (∀ p F2 H2, Grow F F2 H H2 → H p = none → F2 p = none → OwnC T F2 H2 p d → Q (.ref p) H2) → te σ H Q
def EvT (T : Th) (tt : TT) (Γ : Ctx) (m : Option Bool) : Prop := ∀ Z F H σ, Ok T Z Γ F H σ → ∀ b, m = some b → ∀ Q : Bool → Hp → Prop, (∀ F2 H2, Grow F F2 H H2 → Q b H2) → tt σ H Q
def RepsM (T : Th) (Z : Base) (F H : Hp) : List Md → List D → List V → Prop
  | [], ds, vs => ds = [] ∧ vs = []
  | md :: ms, ds, vs => ∃ d ds' v vs', ds = d :: ds' ∧ vs = v :: vs' ∧ Rep T (sel Z md F H) d v ∧ RepsM T Z F H ms ds' vs'
def EvA (T : Th) (ta : TA) (Γ : Ctx) (mds : List Md) (m : Option (List D)) : Prop := ∀ Z F H σ, Ok T Z Γ F H σ → ∀ ds, m = some ds → ∀ Q : List V → Hp → Prop, (∀ vs F2 H2, Grow F F2 H H2 → RepsM T Z F2 H2 mds ds vs → Q vs H2) → ta σ H Q
theorem RepsM.mono {T : Th} {Z : Base} {F F2 H H2 : Hp} (g : Grow F F2 H H2) : ∀ {mds : List Md} {ds : List D} {vs : List V}, RepsM T Z F H mds ds vs → RepsM T Z F2 H2 mds ds vs
  | [], _, _, h => h
  | md :: ms, _, _, ⟨d, ds', v, vs', a, b, c, e⟩ => ⟨d, ds', v, vs', a, b, c.mono (sel_grow g), RepsM.mono g e⟩

/-! two-place and one-place operations lifted -/
def o1 {α β : Type} (f : α → Option β) (a : Option α) : Option β := a.bind f
def o2 {α β γ : Type} (f : α → β → Option γ) (a : Option α) (b : Option β) : Option γ := a.bind fun x => b.bind fun y => f x y
@[simp] theorem o1_some {α β : Type} (f : α → Option β) (a : α) : o1 f (some a) = f a := id rfl
@[simp] theorem o2_some {α β γ : Type} (f : α → β → Option γ) (a : α) (b : β) : o2 f (some a) (some b) = f a b := id rfl
theorem o1_inv {α β : Type} {f : α → Option β} {a : Option α} {c : β} (h : o1 f a = some c) : ∃ x, a = some x ∧ f x = some c := by
  cases a with
  | none => cases h
  | some x => exact ⟨x, rfl, h⟩
theorem o2_inv {α β γ : Type} {f : α → β → Option γ} {a : Option α} {b : Option β} {c : γ} (h : o2 f a b = some c) : ∃ x y, a = some x ∧ b = some y ∧ f x y = some c := by
  cases a with
  | none => cases h
  | some x =>
    cases b with
    | none => cases h
    | some y => exact ⟨x, y, rfl, rfl, h⟩
theorem bind_inv {α β : Type} {f : α → Option β} {a : Option α} {c : β} (h : a.bind f = some c) : ∃ x, a = some x ∧ f x = some c := o1_inv h

/-- an operation upon two values: both read anywhere, the answer needs nothing of them (a number, a text, ..) -/
def OpS (T : Th) (r : R2) (f : D → D → Option D) : Prop := ∀ (H : Hp) (x y : V) (d e c : D), Rep T H d x → Rep T H e y → f d e = some c → ∀ Q : VK, (∀ v, (∀ G, Rep T G c v) → Q v H) → r x y H Q
/-- the answer is a part of the first operand, wherever that is held; the second one is read -/
def OpP (T : Th) (r : R2) (f : D → D → Option D) : Prop := ∀ (H : Hp) (x y : V) (d e c : D), Rep T H d x → Rep T H e y → f d e = some c → ∀ Q : VK, (∀ v, (∀ G, Ex G H → Rep T G d x → Rep T G c v) → Q v H) → r x y H Q
/-- the answer may be new; its parts are parts of the operands -/
def OpM (T : Th) (r : R2) (f : D → D → Option D) : Prop := ∀ (Z : Base) (md : Md) (F H : Hp) (x y : V) (d e c : D), md.fh = true → Ex F H → Rep T (sel Z md F H) d x → Rep T (sel Z md F H) e y → f d e = some c → ∀ Q : VK, (∀ v F2 H2, Grow F F2 H H2 → Rep T (sel Z md F2 H2) c v → Q v H2) → r x y H Q
section
variable {T : Th} {Γ : Ctx} {md : Md} {ta tb te : TE} {ma mb m : Option D} {r : R2} {f : D → D → Option D}
theorem Ev.low (h : Ev T md te Γ m) : Ev T .h te Γ m := fun Z F H σ ok d hd Q q => h Z F H σ ok d hd Q fun v F2 H2 g r => q v F2 H2 g (r.mono (sel_in g.i (ok.grow g).hv.b))
theorem ev_opS (ho : OpS T r f) (ha : Ev T .h ta Γ ma) (hb : Ev T .h tb Γ mb) : Ev T md (tOp r ta tb) Γ (o2 f ma mb) := fun Z F H σ ok d hd Q q => by
  obtain ⟨x, y, e1, e2, e3⟩ := o2_inv hd
  refine ha Z F H σ ok x e1 _ fun v F2 H2 g1 r1 => hb Z F2 H2 σ (ok.grow g1) y e2 _ fun w F3 H3 g2 r2 => ?_
  exact ho H3 v w x y d (r1.mono g2.h) r2 e3 Q fun u hu => q u F3 H3 (g1.trans g2) (hu _)
theorem ev_opP (ho : OpP T r f) (ha : Ev T md ta Γ ma) (hb : Ev T .h tb Γ mb) : Ev T md (tOp r ta tb) Γ (o2 f ma mb) := fun Z F H σ ok d hd Q q => by
  obtain ⟨x, y, e1, e2, e3⟩ := o2_inv hd
  refine ha Z F H σ ok x e1 _ fun v F2 H2 g1 r1 => hb Z F2 H2 σ (ok.grow g1) y e2 _ fun w F3 H3 g2 r2 => ?_
  have ok3 := (ok.grow g1).grow g2
  have r1' := r1.mono (sel_grow g2)
  have ei : Ex (sel Z md F3 H3) H3 := sel_in g2.i ok3.hv.b
  exact ho H3 v w x y d (r1'.mono ei) r2 e3 Q fun u hu => q u F3 H3 (g1.trans g2) (hu _ ei r1')
theorem ev_opM (ho : OpM T r f) (ha : Ev T md ta Γ ma) (hb : Ev T md tb Γ mb) (hm : md.fh = true := by rfl) : Ev T md (tOp r ta tb) Γ (o2 f ma mb) := fun Z F H σ ok d hd Q q => by
  obtain ⟨x, y, e1, e2, e3⟩ := o2_inv hd
  refine ha Z F H σ ok x e1 _ fun v F2 H2 g1 r1 => hb Z F2 H2 σ (ok.grow g1) y e2 _ fun w F3 H3 g2 r2 => ?_
  exact ho Z md F3 H3 v w x y d hm g2.i (r1.mono (sel_grow g2)) r2 e3 Q fun u F4 H4 g3 hu => q u F4 H4 ((g1.trans g2).trans g3) hu
theorem ev_val {i : Nat} {d : D} (h : Γ[i]? = some (.val d)) (hm : md.fh = true := by rfl) : Ev T md (tVar i) Γ (some d) := fun Z F H σ ok d' hd Q q => by
  cases hd
  obtain ⟨v, a, b⟩ := ok.at' i _ h
  exact ⟨v, a, q v F H (Grow.refl ok.hv.f) (b.mono (sel_out ok.hv.f hm))⟩
theorem ev_borB {i : Nat} {d : D} (h : Γ[i]? = some (.bor d)) : Ev T .b (tVar i) Γ (some d) := fun Z F H σ ok d' hd Q q => by
  cases hd
  obtain ⟨v, a, b⟩ := ok.at' i _ h
  exact ⟨v, a, q v F H (Grow.refl ok.hv.f) b⟩
theorem ev_bor {i : Nat} {d : D} (h : Γ[i]? = some (.bor d)) : Ev T .h (tVar i) Γ (some d) := (ev_borB h).low
theorem ev_own {i : Nat} {d : D} (h : Γ[i]? = some (.own d)) : Ev T .h (tVar i) Γ (some d) := fun Z F H σ ok d' hd Q q => by
  cases hd
  obtain ⟨p, a, b, c, e, _⟩ := ok.at' i _ h
  exact ⟨_, a, q _ F H (Grow.refl ok.hv.f) (e.rep ok.hv.f)⟩
theorem ev_mu {i : Nat} {d : D} (h : Γ[i]? = some (.mu d)) : Ev T .h (tVar i) Γ (some d) := fun Z F H σ ok d' hd Q q => by
  cases hd
  obtain ⟨p, a, a', b, c, e⟩ := ok.at' i _ h
  exact ⟨_, a, q _ F H (Grow.refl ok.hv.f) (e.rep ok.hv.f)⟩
/-- a number, a text, a truth value, None -/
def flat : D → Bool
  | .non => true | .bl _ => true | .int _ => true | .str _ => true | _ => false
def chk (d : D) : Option D := if flat d = true then some d else none
@[simp] theorem chk_int (i : Int) : chk (.int i) = some (.int i) := id rfl
@[simp] theorem chk_bl (i : Bool) : chk (.bl i) = some (.bl i) := id rfl
@[simp] theorem chk_str (i : Str) : chk (.str i) = some (.str i) := id rfl
theorem flat_rep {H G : Hp} {d : D} {v : V} (h : flat d = true) (r : Rep T H d v) : Rep T G d v := by
  cases d <;> simp only [flat, Rep] at h r ⊢ <;> first | exact r | cases h
theorem ev_chk (ha : Ev T .h ta Γ ma) : Ev T md ta Γ (o1 chk ma) := fun Z F H σ ok d hd Q q => by
  obtain ⟨x, e1, e2⟩ := o1_inv hd
  unfold chk at e2
  split at e2
  · rename_i hf
    cases e2
    exact ha Z F H σ ok _ e1 _ fun v F2 H2 g r => q v F2 H2 g (flat_rep hf r)
  · cases e2
theorem ev_c {v : V} {d : D} (h : ∀ G, Rep T G d v) : Ev T md (tC v) Γ (some d) := fun Z F H σ ok d' hd Q q => by
  cases hd
  exact q v F H (Grow.refl ok.hv.f) (h _)
theorem ev_int {i : Int} : Ev T md (tC (.int i)) Γ (some (.int i)) := ev_c fun _ => by simp only [Rep]
theorem ev_bl {i : Bool} : Ev T md (tC (.bl i)) Γ (some (.bl i)) := ev_c fun _ => by simp only [Rep]
theorem ev_str {i : Str} : Ev T md (tC (.str i)) Γ (some (.str i)) := ev_c fun _ => by simp only [Rep]
theorem ev_non : Ev T md (tC .non) Γ (some .non) := ev_c fun _ => by simp only [Rep]
/-- what is new may be kept -/
theorem ev_new (h : EvO T te Γ m) (hm : md.fh = true := by rfl) : Ev T md te Γ m := fun Z F H σ ok d hd Q q => by
  refine h Z F H σ ok d hd Q fun p F2 H2 g hp hf hc => ?_
  cases md with
  | h => exact q _ F2 H2 g (hc.rep g.i)
  | b => cases hm
  | f =>
    obtain ⟨o, ho, k⟩ := hc.there
    exact q _ (upd F2 p o) H2 (g.freeze hp ho hf) (k _ (Ex.new hf) upd_same)

/-! tests -/
def tru (d : D) : Option Bool := match d with | .bl b => some b | _ => none
@[simp] theorem tru_bl (b : Bool) : tru (.bl b) = some b := id rfl
theorem tru_inv {d : D} {b : Bool} (h : tru d = some b) : d = .bl b := by
  cases d <;> simp [tru] at h
  subst h; rfl
theorem evt_test (h : Ev T .h te Γ m) : EvT T (tTest te) Γ (o1 tru m) := fun Z F H σ ok b hb Q q => by
  obtain ⟨x, e1, e2⟩ := o1_inv hb
  rw [tru_inv e2] at e1
  refine h Z F H σ ok _ e1 _ fun v F2 H2 g r => ?_
  simp only [Rep] at r
  exact ⟨b, r, q F2 H2 g⟩
theorem evt_B (h : Ev T .h te Γ m) : EvT T (tB te) Γ (o1 tru m) := fun Z F H σ ok b hb Q q => by
  obtain ⟨x, e1, e2⟩ := o1_inv hb
  rw [tru_inv e2] at e1
  refine h Z F H σ ok _ e1 _ fun v F2 H2 g r => ?_
  simp only [Rep] at r
  exact ⟨b, r, q F2 H2 g⟩
def oAnd (a b : Option Bool) : Option Bool := a.bind fun x => if x = true then b else some false
def oOr (a b : Option Bool) : Option Bool := a.bind fun x => if x = true then some true else b
def oNot (a : Option Bool) : Option Bool := a.map not
@[simp] theorem oAnd_t (b : Option Bool) : oAnd (some true) b = b := id rfl
@[simp] theorem oAnd_f (b : Option Bool) : oAnd (some false) b = some false := id rfl
@[simp] theorem oOr_t (b : Option Bool) : oOr (some true) b = some true := id rfl
@[simp] theorem oOr_f (b : Option Bool) : oOr (some false) b = b := id rfl
@[simp] theorem oNot_s (b : Bool) : oNot (some b) = some (!b) := id rfl
variable {t u : TT} {mt mu : Option Bool}
theorem evt_and (h1 : EvT T t Γ mt) (h2 : EvT T u Γ mu) : EvT T (tAnd t u) Γ (oAnd mt mu) := fun Z F H σ ok b hb Q q => by
  obtain ⟨x, e1, e2⟩ := bind_inv hb
  refine h1 Z F H σ ok x e1 _ fun F2 H2 g => ?_
  cases x with
  | true => exact h2 Z F2 H2 σ (ok.grow g) b e2 Q fun F3 H3 g' => q F3 H3 (g.trans g')
  | false =>
    cases e2
    exact q F2 H2 g
theorem evt_or (h1 : EvT T t Γ mt) (h2 : EvT T u Γ mu) : EvT T (tOr t u) Γ (oOr mt mu) := fun Z F H σ ok b hb Q q => by
  obtain ⟨x, e1, e2⟩ := bind_inv hb
  refine h1 Z F H σ ok x e1 _ fun F2 H2 g => ?_
  cases x with
  | false => exact h2 Z F2 H2 σ (ok.grow g) b e2 Q fun F3 H3 g' => q F3 H3 (g.trans g')
  | true =>
    cases e2
    exact q F2 H2 g
theorem evt_not (h1 : EvT T t Γ mt) : EvT T (tNot t) Γ (oNot mt) := fun Z F H σ ok b hb Q q => by
  cases mt with
  | none => cases hb
  | some x =>
    cases hb
    exact h1 Z F H σ ok x rfl _ fun F2 H2 g => q F2 H2 g
/-! truth values as values: and, or, not -/
def dBl (b : Option Bool) : Option D := b.map D.bl
@[simp] theorem dBl_s (b : Bool) : dBl (some b) = some (.bl b) := id rfl
theorem ev_notV (h : Ev T .h te Γ m) : Ev T md (tNotV te) Γ (dBl (oNot (o1 tru m))) := fun Z F H σ ok d hd Q q => by
  cases m with
  | none => cases hd
  | some x =>
    cases e2 : tru x with
    | none => simp [o1, dBl, oNot, e2] at hd
    | some b =>
      rw [tru_inv e2] at h
      rw [show dBl (oNot (o1 tru (some x))) = some (.bl (!b)) by simp [o1, dBl, oNot, e2]] at hd
      cases hd
      refine h Z F H σ ok _ rfl _ fun v F2 H2 g r => ?_
      simp only [Rep] at r
      exact ⟨b, r, q _ F2 H2 g (by simp only [Rep])⟩
def oAndV (a b : Option D) : Option D := (o1 tru a).bind fun x => if x = true then b else some (.bl false)
def oOrV (a b : Option D) : Option D := (o1 tru a).bind fun x => if x = true then some (.bl true) else b
@[simp] theorem oAndV_t (b : Option D) : oAndV (some (.bl true)) b = b := id rfl
@[simp] theorem oAndV_f (b : Option D) : oAndV (some (.bl false)) b = some (.bl false) := id rfl
@[simp] theorem oOrV_t (b : Option D) : oOrV (some (.bl true)) b = some (.bl true) := id rfl
@[simp] theorem oOrV_f (b : Option D) : oOrV (some (.bl false)) b = b := id rfl
theorem ev_andV (h1 : Ev T .h ta Γ ma) (h2 : Ev T md tb Γ mb) : Ev T md (tAndV ta tb) Γ (oAndV ma mb) := fun Z F H σ ok d hd Q q => by
  obtain ⟨b, e1, e2⟩ := bind_inv hd
  obtain ⟨x, e3, e4⟩ := o1_inv e1
  rw [tru_inv e4] at e3
  refine h1 Z F H σ ok _ e3 _ fun v F2 H2 g r => ?_
  simp only [Rep] at r
  refine ⟨b, r, ?_⟩
  cases b with
  | true => exact h2 Z F2 H2 σ (ok.grow g) d e2 Q fun v F3 H3 g' r' => q v F3 H3 (g.trans g') r'
  | false =>
    cases e2
    exact q _ F2 H2 g (by simp only [Rep])
theorem ev_orV (h1 : Ev T .h ta Γ ma) (h2 : Ev T md tb Γ mb) : Ev T md (tOrV ta tb) Γ (oOrV ma mb) := fun Z F H σ ok d hd Q q => by
  obtain ⟨b, e1, e2⟩ := bind_inv hd
  obtain ⟨x, e3, e4⟩ := o1_inv e1
  rw [tru_inv e4] at e3
  refine h1 Z F H σ ok _ e3 _ fun v F2 H2 g r => ?_
  simp only [Rep] at r
  refine ⟨b, r, ?_⟩
  cases b with
  | false => exact h2 Z F2 H2 σ (ok.grow g) d e2 Q fun v F3 H3 g' r' => q v F3 H3 (g.trans g') r'
  | true =>
    cases e2
    exact q _ F2 H2 g (by simp only [Rep])
theorem ev_if (hc : EvT T t Γ mt) (h1 : Ev T md ta Γ ma) (h2 : Ev T md tb Γ mb) : Ev T md (tIf t ta tb) Γ (mt.bind fun c => if c = true then ma else mb) := fun Z F H σ ok d hd Q q => by
  obtain ⟨b, e1, e2⟩ := bind_inv hd
  refine hc Z F H σ ok b e1 _ fun F2 H2 g => ?_
  cases b with
  | true => exact h1 Z F2 H2 σ (ok.grow g) d e2 Q fun v F3 H3 g' r' => q v F3 H3 (g.trans g') r'
  | false => exact h2 Z F2 H2 σ (ok.grow g) d e2 Q fun v F3 H3 g' r' => q v F3 H3 (g.trans g') r'
/-! argument lists, tuples, lists -/
variable {tr : TA} {mds : List Md} {ms : Option (List D)}
def oCons (a : Option D) (b : Option (List D)) : Option (List D) := o2 (fun x y => some (x :: y)) a b
@[simp] theorem oCons_s (a : D) (b : List D) : oCons (some a) (some b) = some (a :: b) := id rfl
theorem eva_nil : EvA T tNil Γ [] (some []) := fun Z F H σ ok ds hd Q q => by
  cases hd
  exact q [] F H (Grow.refl ok.hv.f) ⟨rfl, rfl⟩
theorem eva_cons (h : Ev T md te Γ m) (hr : EvA T tr Γ mds ms) : EvA T (tCons te tr) Γ (md :: mds) (oCons m ms) := fun Z F H σ ok ds hd Q q => by
  obtain ⟨x, y, e1, e2, e3⟩ := o2_inv hd
  cases e3
  refine h Z F H σ ok x e1 _ fun v F2 H2 g r => hr Z F2 H2 σ (ok.grow g) y e2 _ fun vs F3 H3 g' r' => ?_
  exact q (v :: vs) F3 H3 (g.trans g') ⟨x, y, v, vs, rfl, rfl, r.mono (sel_grow g'), r'⟩
/-- the same mode for all -/
def EvL (T : Th) (md : Md) (ta : TA) (Γ : Ctx) (m : Option (List D)) : Prop := ∀ Z F H σ, Ok T Z Γ F H σ → ∀ ds, m = some ds → ∀ Q : List V → Hp → Prop, (∀ vs F2 H2, Grow F F2 H H2 → Reps T (sel Z md F2 H2) ds vs → Q vs H2) → ta σ H Q
theorem evl_nil : EvL T md tNil Γ (some []) := fun Z F H σ ok ds hd Q q => by
  cases hd
  exact q [] F H (Grow.refl ok.hv.f) Reps.nil
theorem evl_cons (h : Ev T md te Γ m) (hr : EvL T md tr Γ ms) : EvL T md (tCons te tr) Γ (oCons m ms) := fun Z F H σ ok ds hd Q q => by
  obtain ⟨x, y, e1, e2, e3⟩ := o2_inv hd
  cases e3
  refine h Z F H σ ok x e1 _ fun v F2 H2 g r => hr Z F2 H2 σ (ok.grow g) y e2 _ fun vs F3 H3 g' r' => ?_
  exact q (v :: vs) F3 H3 (g.trans g') (Reps.cons (r.mono (sel_grow g')) r')
def dTup (ds : List D) : Option D := if ds.length ≤ 16777216 then some (.tup ds) else none
def dLst (ds : List D) : Option D := if ds.length ≤ 16777216 then some (.lst ds) else none
theorem line_eq : (sizeLine : Nat) = 16777216 := sizeLine_eq
theorem ev_tup (h : EvL T md tr Γ ms) (hm : md.fh = true := by rfl) : Ev T md (tTup tr) Γ (o1 dTup ms) := fun Z F H σ ok d hd Q q => by
  obtain ⟨ds, e1, e2⟩ := o1_inv hd
  unfold dTup at e2
  split at e2
  · rename_i hl
    cases e2
    refine h Z F H σ ok ds e1 _ fun vs F2 H2 g r => ⟨by rw [← r.len, line_eq]; exact hl, fun p hp => ?_⟩
    have hf : F2 p = none := none_of_ex g.i hp
    have hp0 : H p = none := none_of_ex g.h hp
    have g2 : Grow F2 F2 H2 (upd H2 p (.tup vs)) := Grow.lay g.i hp _
    cases md with
    | h => exact q _ F2 _ (g.trans g2) (by simp only [Rep, sel]; exact ⟨p, vs, rfl, upd_same, r.mono (Ex.new hp)⟩)
    | b => cases hm
    | f => exact q _ (upd F2 p (.tup vs)) _ ((g.trans g2).freeze hp0 upd_same hf) (by simp only [Rep, sel]; exact ⟨p, vs, rfl, upd_same, r.mono (Ex.new hf)⟩)
  · cases e2
theorem evo_lst (h : EvL T .f tr Γ ms) : EvO T (tLst tr) Γ (o1 dLst ms) := fun Z F H σ ok d hd Q q => by
  obtain ⟨ds, e1, e2⟩ := o1_inv hd
  unfold dLst at e2
  split at e2
  · rename_i hl
    cases e2
    refine h Z F H σ ok ds e1 _ fun vs F2 H2 g r => ⟨by rw [← r.len, line_eq]; exact hl, fun p hp => ?_⟩
    have hf : F2 p = none := none_of_ex g.i hp
    have hp0 : H p = none := none_of_ex g.h hp
    exact q p F2 _ (g.trans (Grow.lay g.i hp _)) hp0 hf (by simp only [OwnC]; exact ⟨vs, upd_same, r⟩)
  · cases e2
/-- a list whose parts are only read -/
theorem ev_lstH (h : EvL T .h tr Γ ms) : Ev T .h (tLst tr) Γ (o1 dLst ms) := fun Z F H σ ok d hd Q q => by
  obtain ⟨ds, e1, e2⟩ := o1_inv hd
  unfold dLst at e2
  split at e2
  · rename_i hl
    cases e2
    refine h Z F H σ ok ds e1 _ fun vs F2 H2 g r => ⟨by rw [← r.len, line_eq]; exact hl, fun p hp => ?_⟩
    exact q _ F2 _ (g.trans (Grow.lay g.i hp _)) (by simp only [Rep, sel]; exact ⟨p, vs, rfl, upd_same, r.mono (Ex.new hp)⟩)
  · cases e2
end
end Mi
/-! statements, blocks, loops -/
namespace Mi
open PySem L2
open Evl (Ex ex_t ex_l ex_rd fresh_back)

inductive Out (α β : Type) where
  | nx (a : α) | ct (b : β) | bk (b : β) | rt (d : D) (ms : List (Nat × D))
structure RetOk (T : Th) (Z : Base) (d : D) (ms : List (Nat × D)) (v : V) (F H : Hp) : Prop where
  hv : Hv Z F H
  rep : Rep T F d v
  mus : ∀ x ∈ ms, F (Z.P x.1) = none ∧ OwnC T F H (Z.P x.1) x.2
def Post {α β : Type} (T : Th) (Z : Base) (Γn : α → Ctx) (Γl : β → Ctx) (E : Ends) : Out α β → Prop
  | .nx a => ∀ F H σ, Ok T Z (Γn a) F H σ → E.nx σ H
  | .ct b => ∀ F H σ, Ok T Z (Γl b) F H σ → E.ct σ H
  | .bk b => ∀ F H σ, Ok T Z (Γl b) F H σ → E.bk σ H
  | .rt d ms => ∀ v F H, RetOk T Z d ms v F H → E.rt v H
/-- a block that may be left: m tells how -/
def Bt {α β : Type} (T : Th) (t : TS) (Γ : Ctx) (m : Option (Out α β)) (Γn : α → Ctx) (Γl : β → Ctx) : Prop := ∀ Z F H σ, Ok T Z Γ F H σ → ∀ o, m = some o → ∀ E : Ends, Post T Z Γn Γl E o → t E σ H
/-- a block that goes on -/
def Bp {α : Type} (T : Th) (t : TS) (Γ : Ctx) (m : Option α) (Γn : α → Ctx) : Prop := ∀ Z F H σ, Ok T Z Γ F H σ → ∀ a, m = some a → ∀ E : Ends, (∀ F H σ, Ok T Z (Γn a) F H σ → E.nx σ H) → t E σ H

/-- what is forgotten -/
inductive Le : Ctx → Ctx → Prop where
  | nil {Γ : Ctx} : Le Γ []
  | keep {s : Slot} {Γ Γ' : Ctx} : Le Γ Γ' → Le (s :: Γ) (s :: Γ')
  | skip {s : Slot} {Γ Γ' : Ctx} : Le Γ Γ' → Le (s :: Γ) (.no :: Γ')
theorem Le.at' {Γ Γ' : Ctx} (h : Le Γ Γ') : ∀ (i : Nat) (s : Slot), Γ'[i]? = some s → s = .no ∨ Γ[i]? = some s := by
  induction h with
  | nil => intro i s e; simp at e
  | keep _ ih =>
    intro i s e
    cases i with
    | zero => exact .inr (by simpa using e)
    | succ i => simpa using ih i s (by simpa using e)
  | skip _ ih =>
    intro i s e
    cases i with
    | zero => exact .inl (by simpa using e.symm)
    | succ i => simpa using ih i s (by simpa using e)
theorem Le.len {Γ Γ' : Ctx} (h : Le Γ Γ') : Γ'.length ≤ Γ.length := by
  induction h with
  | nil => exact Nat.zero_le _
  | keep _ ih => simpa using ih
  | skip _ ih => simpa using ih
section
variable {T : Th} {Z : Base} {Γ Γ' : Ctx} {F F2 H H2 : Hp} {σ : L2.St}
theorem Ok.le (ok : Ok T Z Γ F H σ) (h : Le Γ Γ') : Ok T Z Γ' F H σ :=
  ⟨ok.hv, Nat.le_trans h.len ok.len, fun i s e => by
    rcases h.at' i s e with q | q
    · subst q; trivial
    · exact ok.at' i s q, fun i j p s t e1 o1 e2 o2 a b => by
    have f : ∀ {i : Nat} {s : Slot}, Γ'[i]? = some s → s.isOwn = true → Γ[i]? = some s := fun {i s} e o => by
      rcases h.at' i s e with q | q
      · subst q; cases o
      · exact q
    exact ok.sep i j p s t (f e1 o1) o1 (f e2 o2) o2 a b⟩
/-- a slot is stored -/
theorem Ok.set (ok : Ok T Z Γ F H σ) {i : Nat} {s : Slot} {v : V} (hs : SlotOk T Z F H i (some (some v)) s) (hsep : s.isOwn = true → ∀ (j : Nat) (t : Slot), Γ[j]? = some t → t.isOwn = true → σ[j]? ≠ some (some v)) :
    Ok T Z (Γ.set i s) F H (σ.set i (some v)) := by
  refine ⟨ok.hv, by simpa using ok.len, fun j t e => ?_, fun j k p t u e1 o1 e2 o2 a b => ?_⟩
  · by_cases hj : i = j
    · subst hj
      have hi : i < Γ.length := by
        have := (List.getElem?_eq_some_iff.mp e).1
        simpa using this
      rw [List.getElem?_set_self hi] at e; cases e
      rw [List.getElem?_set_self (Nat.lt_of_lt_of_le hi ok.len)]
      exact hs
    · rw [List.getElem?_set_ne hj] at e
      rw [List.getElem?_set_ne hj]
      exact ok.at' j t e
  · have hl : ∀ {j : Nat} {t : Slot}, (Γ.set i s)[j]? = some t → j < σ.length := fun {j t} e => by
      have := (List.getElem?_eq_some_iff.mp e).1
      have h2 := ok.len
      simp only [List.length_set] at this
      omega
    by_cases hj : i = j
    · by_cases hk : i = k
      · rw [← hj, ← hk]
      · subst hj
        have h1 := hl e1
        have hi : i < Γ.length := by
          have := (List.getElem?_eq_some_iff.mp e1).1
          simpa using this
        rw [List.getElem?_set_self hi] at e1; cases e1
        rw [List.getElem?_set_ne hk] at e2 b
        rw [List.getElem?_set_self h1] at a
        cases a
        exact absurd b (hsep o1 k u e2 o2)
    · by_cases hk : i = k
      · subst hk
        have h1 := hl e2
        have hi : i < Γ.length := by
          have := (List.getElem?_eq_some_iff.mp e2).1
          simpa using this
        rw [List.getElem?_set_self hi] at e2; cases e2
        rw [List.getElem?_set_ne hj] at e1 a
        rw [List.getElem?_set_self h1] at b
        cases b
        exact absurd a (hsep o2 j t e1 o1)
      · rw [List.getElem?_set_ne hj] at e1 a
        rw [List.getElem?_set_ne hk] at e2 b
        exact ok.sep j k p t u e1 o1 e2 o2 a b
theorem Ok.setVal (ok : Ok T Z Γ F H σ) {i : Nat} {d : D} {v : V} (r : Rep T F d v) : Ok T Z (Γ.set i (.val d)) F H (σ.set i (some v)) := ok.set ⟨v, rfl, r⟩ fun z => by cases z
theorem Ok.setBor (ok : Ok T Z Γ F H σ) {i : Nat} {d : D} {v : V} (r : Rep T Z.B d v) : Ok T Z (Γ.set i (.bor d)) F H (σ.set i (some v)) := ok.set ⟨v, rfl, r⟩ fun z => by cases z
/-- what an owned slot's address is -/
theorem SlotOk.own_at {i : Nat} {o : Option (Option V)} {s : Slot} (h : SlotOk T Z F H i o s) (w : s.isOwn = true) : ∃ p d, o = some (some (.ref p)) ∧ Z.B p = none ∧ F p = none ∧ OwnC T F H p d := by
  cases s <;> simp only [SlotOk, Slot.isOwn] at h w <;> first | cases w | skip
  · obtain ⟨p, a, b, c, d, _⟩ := h; exact ⟨p, _, a, b, c, d⟩
  · obtain ⟨p, a, _, b, c, d⟩ := h; exact ⟨p, _, a, b, c, d⟩
/-- a new owned thing is stored: it stood nowhere in H0, which the present heap grew from -/
theorem Ok.setOwn {H0 F0 : Hp} (ok0 : Ok T Z Γ F0 H0 σ) (g : Grow F0 F H0 H) {i : Nat} {d : D} {p : Addr} (hp : H0 p = none) (hf : F p = none) (hc : OwnC T F H p d) : Ok T Z (Γ.set i (.own d)) F H (σ.set i (some (.ref p))) := by
  have hz : Z.H p = none := by
    cases q : Z.H p with
    | none => rfl
    | some u => exact absurd hp (ok0.hv.dom p (by rw [q]; simp))
  refine (ok0.grow g).set ⟨p, rfl, none_of_ex ok0.hv.b hp, hf, hc, hz⟩ fun _ j t e o z => ?_
  obtain ⟨p', d', a, _, _, c⟩ := (ok0.at' j t e).own_at o
  rw [a] at z; cases z
  obtain ⟨u, hu, _⟩ := c.there
  rw [hp] at hu; cases hu
/-- an owned thing is changed -/
theorem Ok.chg (ok : Ok T Z Γ F H σ) {i : Nat} {s s' : Slot} {p : Addr} {d' : D} {o : HO} (hs : Γ[i]? = some s) (ho : s.isOwn = true) (hp : σ[i]? = some (some (.ref p)))
    (hs' : (s' = .own d' ∧ ∃ d, s = .own d) ∨ (s' = .mu d' ∧ ∃ d, s = .mu d)) (hc : OwnC T F (upd H p o) p d') : Ok T Z (Γ.set i s') F (upd H p o) σ := by
  obtain ⟨p', d0, a, b, c, e⟩ := (ok.at' i s hs).own_at ho
  rw [hp] at a; cases a
  have hB : Ex Z.B (upd H p o) := fun x u q => by rw [upd_ne (ne_of_none q b)]; exact ok.hv.b x u q
  have hF : Ex F (upd H p o) := fun x u q => by rw [upd_ne (ne_of_none q c)]; exact ok.hv.f x u q
  refine ⟨⟨hB, ok.hv.f0, hF, fun x q => ?_, ok.hv.new⟩, by simpa using ok.len, fun j t q => ?_, fun j k x t u e1 o1 e2 o2 a1 a2 => ?_⟩
  · by_cases hx : x = p
    · subst hx; rw [upd_same]; simp
    · rw [upd_ne hx]; exact ok.hv.dom x q
  · by_cases hj : i = j
    · subst hj
      have hi : i < Γ.length := (List.getElem?_eq_some_iff.mp hs).1
      rw [List.getElem?_set_self hi] at q; cases q
      have old := ok.at' i s hs
      rcases hs' with ⟨rfl, d, rfl⟩ | ⟨rfl, d, rfl⟩
      · obtain ⟨p2, z1, _, _, _, z2⟩ := old
        rw [hp] at z1; cases z1
        exact ⟨p, hp, b, c, hc, z2⟩
      · obtain ⟨p2, z1, z2, _⟩ := old
        rw [hp] at z1; cases z1
        exact ⟨p, hp, z2, b, c, hc⟩
    · rw [List.getElem?_set_ne hj] at q
      have old := ok.at' j t q
      have ne : ∀ {x}, σ[j]? = some (some (.ref x)) → t.isOwn = true → x ≠ p := fun {x} hx ot z => by
        subst z
        exact hj (ok.sep i j x s t hs ho q ot hp hx)
      cases t <;> simp only [SlotOk] at old ⊢
      · exact old
      · exact old
      · obtain ⟨x, y1, y2, y3, y4, y5⟩ := old
        exact ⟨x, y1, y2, y3, y4.upd (ne y1 rfl), y5⟩
      · obtain ⟨x, y1, y0, y2, y3, y4⟩ := old
        exact ⟨x, y1, y0, y2, y3, y4.upd (ne y1 rfl)⟩
  · have f : ∀ {j : Nat} {t : Slot}, (Γ.set i s')[j]? = some t → t.isOwn = true → ∃ t' : Slot, Γ[j]? = some t' ∧ t'.isOwn = true := fun {j t} e w => by
      by_cases hj : i = j
      · subst hj; exact ⟨s, hs, ho⟩
      · rw [List.getElem?_set_ne hj] at e; exact ⟨t, e, w⟩
    obtain ⟨t', q1, q2⟩ := f e1 o1
    obtain ⟨u', q3, q4⟩ := f e2 o2
    exact ok.sep j k x t' u' q1 q2 q3 q4 a1 a2
/-- an owned thing is from now on kept -/
theorem Ok.freeze (ok : Ok T Z Γ F H σ) {i : Nat} {d : D} (hs : Γ[i]? = some (.own d)) : ∃ F', Ok T Z (Γ.set i (.val d)) F' H σ := by
  obtain ⟨p, a, b, c, e, hz⟩ := ok.at' i _ hs
  obtain ⟨o, ho, k⟩ := e.there
  refine ⟨upd F p o, ?_⟩
  have ef : Ex F (upd F p o) := Ex.new c
  refine ⟨⟨ok.hv.b, ok.hv.f0.trans ef, fun x u q => ?_, ok.hv.dom, fun x q => ?_⟩, by simpa using ok.len, fun j t q => ?_, fun j l x t u e1 o1 e2 o2 a1 a2 => ?_⟩
  · by_cases hx : x = p
    · subst hx; rw [upd_same] at q; rw [ho, q]
    · rw [upd_ne hx] at q; exact ok.hv.f x u q
  · by_cases hx : x = p
    · subst hx; exact .inr hz
    · rw [upd_ne hx] at q; exact ok.hv.new x q
  · by_cases hj : i = j
    · subst hj
      have hi : i < Γ.length := (List.getElem?_eq_some_iff.mp hs).1
      rw [List.getElem?_set_self hi] at q; cases q
      exact ⟨_, a, k _ ef upd_same⟩
    · rw [List.getElem?_set_ne hj] at q
      have old := ok.at' j t q
      have ne : ∀ {x}, σ[j]? = some (some (.ref x)) → t.isOwn = true → x ≠ p := fun {x} hx ot z => by
        subst z
        exact hj (ok.sep i j x _ t hs rfl q ot a hx)
      cases t <;> simp only [SlotOk] at old ⊢
      · obtain ⟨v, y1, y2⟩ := old; exact ⟨v, y1, y2.mono ef⟩
      · exact old
      · obtain ⟨x, y1, y2, y3, y4, y5⟩ := old
        exact ⟨x, y1, y2, by rw [upd_ne (ne y1 rfl)]; exact y3, y4.grow ef (Ex.refl H), y5⟩
      · obtain ⟨x, y1, y0, y2, y3, y4⟩ := old
        exact ⟨x, y1, y0, y2, by rw [upd_ne (ne y1 rfl)]; exact y3, y4.grow ef (Ex.refl H)⟩
  · have f : ∀ {j : Nat} {t : Slot}, (Γ.set i (.val d))[j]? = some t → t.isOwn = true → Γ[j]? = some t := fun {j t} e w => by
      by_cases hj : i = j
      · subst hj
        have hi : i < Γ.length := (List.getElem?_eq_some_iff.mp hs).1
        rw [List.getElem?_set_self hi] at e; cases e; cases w
      · rw [List.getElem?_set_ne hj] at e; exact e
    exact ok.sep j l x t u (f e1 o1) o1 (f e2 o2) o2 a1 a2
end
end Mi
/-! rules for statements, blocks, loops -/
namespace Mi
open PySem L2
open Evl (Ex ex_t ex_l ex_rd fresh_back)

/-- what a block does, by what is wanted of its outcome -/
def B {ω : Type} (T : Th) (t : TS) (Γ : Ctx) (m : Option ω) (P : Base → Ends → ω → Prop) : Prop := ∀ Z F H σ, Ok T Z Γ F H σ → ∀ o, m = some o → ∀ E : Ends, P Z E o → t E σ H
abbrev PT {α β : Type} (T : Th) (Γn : α → Ctx) (Γl : β → Ctx) : Base → Ends → Out α β → Prop := fun Z E o => Post T Z Γn Γl E o
abbrev PP {α : Type} (T : Th) (Γn : α → Ctx) : Base → Ends → α → Prop := fun Z E a => ∀ F H σ, Ok T Z (Γn a) F H σ → E.nx σ H
section
variable {ω α β γ : Type} {T : Th} {Γ Γ' : Ctx} {md : Md} {te ta tb : TE} {tc : TT} {t u : TS} {m ma : Option ω} {P : Base → Ends → ω → Prop} {me : Option D} {mc : Option Bool} {i j k l : Nat}
theorem bp_set (h : Ev T .f te Γ me) : B T (tAsg te (gName i)) Γ me (PP T fun d => Γ.set i (.val d)) := fun Z F H σ ok d hd E p =>
  h Z F H σ ok d hd _ fun v F2 H2 g r => p F2 H2 _ ((ok.grow g).setVal r)
theorem bp_setB (h : Ev T .b te Γ me) : B T (tAsg te (gName i)) Γ me (PP T fun d => Γ.set i (.bor d)) := fun Z F H σ ok d hd E p =>
  h Z F H σ ok d hd _ fun v F2 H2 g r => p F2 H2 _ ((ok.grow g).setBor r)
theorem bp_setO (h : EvO T te Γ me) : B T (tAsg te (gName i)) Γ me (PP T fun d => Γ.set i (.own d)) := fun Z F H σ ok d hd E p =>
  h Z F H σ ok d hd _ fun q F2 H2 g hp hf hc => p F2 H2 _ (ok.setOwn g hp hf hc)
theorem bp_drop (h : Ev T md te Γ me) : B T (tDrop te) Γ me (PP T fun _ => Γ) := fun Z F H σ ok d hd E p =>
  h Z F H σ ok d hd _ fun v F2 H2 g r => p F2 H2 _ (ok.grow g)
theorem bp_next : B T tNext Γ (some ()) (PP T fun _ => Γ) := fun Z F H σ ok d hd E p => p F H σ ok
/-- forget, freeze: steps of the proof alone -/
theorem b_le (h : Le Γ Γ') (hb : B T t Γ' m P) : B T t Γ m P := fun Z F H σ ok => hb Z F H σ (ok.le h)
theorem b_freeze {d : D} (i : Nat) (hs : Γ[i]? = some (.own d)) (hb : B T t (Γ.set i (.val d)) m P) : B T t Γ m P := fun Z F H σ ok => by
  obtain ⟨F', ok'⟩ := ok.freeze hs
  exact hb Z F' H σ ok'
theorem b_seq {m1 : Option α} {Γ1 : α → Ctx} {m2 : α → Option ω} (h1 : B T t Γ m1 (PP T Γ1)) (h2 : ∀ a, B T u (Γ1 a) (m2 a) P) : B T (tSeq t u) Γ (m1.bind m2) P := fun Z F H σ ok o ho E p => by
  obtain ⟨a, e1, e2⟩ := bind_inv ho
  exact h1 Z F H σ ok a e1 _ fun F2 H2 σ2 ok2 => h2 a Z F2 H2 σ2 ok2 o e2 E p
/-- the same where the answer is not asked for -/
theorem b_seq0 {Γ1 : Ctx} {m2 : Option ω} (h1 : B T t Γ (some ()) (PP T fun _ => Γ1)) (h2 : B T u Γ1 m2 P) : B T (tSeq t u) Γ m2 P := fun Z F H σ ok o ho E p =>
  h1 Z F H σ ok () rfl _ fun F2 H2 σ2 ok2 => h2 Z F2 H2 σ2 ok2 o ho E p
def Out.thn (o : Out γ β) (k : γ → Option (Out α β)) : Option (Out α β) := match o with
  | .nx a => k a
  | .ct b => some (.ct b)
  | .bk b => some (.bk b)
  | .rt d ms => some (.rt d ms)
@[simp] theorem Out.thn_nx (a : γ) (k : γ → Option (Out α β)) : Out.thn (.nx a) k = k a := id rfl
@[simp] theorem Out.thn_ct (b : β) (k : γ → Option (Out α β)) : Out.thn (.ct b) k = some (.ct b) := id rfl
@[simp] theorem Out.thn_bk (b : β) (k : γ → Option (Out α β)) : Out.thn (.bk b) k = some (.bk b) := id rfl
@[simp] theorem Out.thn_rt (d : D) (ms : List (Nat × D)) (k : γ → Option (Out α β)) : Out.thn (.rt d ms) k = some (.rt d ms) := id rfl
theorem b_seqx {m1 : Option (Out γ β)} {Γ1 : γ → Ctx} {Γl : β → Ctx} {Γn : α → Ctx} {m2 : γ → Option (Out α β)} (h1 : B T t Γ m1 (PT T Γ1 Γl)) (h2 : ∀ a, B T u (Γ1 a) (m2 a) (PT T Γn Γl)) :
    B T (tSeq t u) Γ (m1.bind fun o => o.thn m2) (PT T Γn Γl) := fun Z F H σ ok o ho E p => by
  obtain ⟨a, e1, e2⟩ := bind_inv ho
  refine h1 Z F H σ ok a e1 _ ?_
  cases a with
  | nx a => exact fun F2 H2 σ2 ok2 => h2 a Z F2 H2 σ2 ok2 o e2 E p
  | ct b => cases e2; exact p
  | bk b => cases e2; exact p
  | rt d ms => cases e2; exact p
theorem b_if (hc : EvT T tc Γ mc) (ha : B T t Γ ma P) (hb : B T u Γ m P) : B T (tIfS tc t u) Γ (mc.bind fun c => if c = true then ma else m) P := fun Z F H σ ok o ho E p => by
  obtain ⟨c, e1, e2⟩ := bind_inv ho
  refine hc Z F H σ ok c e1 _ fun F2 H2 g => ?_
  cases c with
  | true => exact ha Z F2 H2 σ (ok.grow g) o e2 E p
  | false => exact hb Z F2 H2 σ (ok.grow g) o e2 E p
/-- the first branch leaves the block -/
theorem b_ifx {m1 m2 : Option (Out α β)} {Γl : β → Ctx} {Γn : α → Ctx} {v : TS} (hc : EvT T tc Γ mc) (ha : B T t Γ m1 (PT T (fun _ => [.bad]) Γl)) (hb : B T (tSeq u v) Γ m2 (PT T Γn Γl)) :
    B T (tSeq (tIfS tc t u) v) Γ (mc.bind fun c => if c = true then m1 else m2) (PT T Γn Γl) := fun Z F H σ ok o ho E p => by
  obtain ⟨c, e1, e2⟩ := bind_inv ho
  refine hc Z F H σ ok c e1 _ fun F2 H2 g => ?_
  cases c with
  | true =>
    refine ha Z F2 H2 σ (ok.grow g) o e2 _ ?_
    cases o with
    | nx a => exact fun F3 H3 σ3 ok3 => (ok3.at' 0 _ rfl).elim
    | ct b => exact p
    | bk b => exact p
    | rt d ms => exact p
  | false => exact hb Z F2 H2 σ (ok.grow g) o e2 E p
theorem b_ifx0 {m1 m2 : Option (Out α β)} {Γl : β → Ctx} {Γn : α → Ctx} {v : TS} (hc : EvT T tc Γ mc) (ha : B T t Γ m1 (PT T (fun _ => [.bad]) Γl)) (hb : B T v Γ m2 (PT T Γn Γl)) :
    B T (tSeq (tIfS tc t tNext) v) Γ (mc.bind fun c => if c = true then m1 else m2) (PT T Γn Γl) := b_ifx hc ha hb
/-- the second branch leaves the block -/
theorem b_ify {m1 m2 : Option (Out α β)} {Γl : β → Ctx} {Γn : α → Ctx} {v : TS} (hc : EvT T tc Γ mc) (ha : B T (tSeq t v) Γ m1 (PT T Γn Γl)) (hb : B T u Γ m2 (PT T (fun _ => [.bad]) Γl)) :
    B T (tSeq (tIfS tc t u) v) Γ (mc.bind fun c => if c = true then m1 else m2) (PT T Γn Γl) := fun Z F H σ ok o ho E p => by
  obtain ⟨c, e1, e2⟩ := bind_inv ho
  refine hc Z F H σ ok c e1 _ fun F2 H2 g => ?_
  cases c with
  | false =>
    refine hb Z F2 H2 σ (ok.grow g) o e2 _ ?_
    cases o with
    | nx a => exact fun F3 H3 σ3 ok3 => (ok3.at' 0 _ rfl).elim
    | ct b => exact p
    | bk b => exact p
    | rt d ms => exact p
  | true => exact ha Z F2 H2 σ (ok.grow g) o e2 E p
/-- the ends of a block -/
theorem bp_end {Γn : α → Ctx} {a : α} (h : Le Γ (Γn a)) : B T tNext Γ (some a) (PP T Γn) := fun Z F H σ ok a' e E p => by
  cases e
  exact p F H σ (ok.le h)
theorem bt_end {Γn : α → Ctx} {Γl : β → Ctx} {a : α} (h : Le Γ (Γn a)) : B T tNext Γ (some (.nx a)) (PT T Γn Γl) := fun Z F H σ ok a' e E p => by
  cases e
  exact p F H σ (ok.le h)
theorem bt_cont {Γn : α → Ctx} {Γl : β → Ctx} {b : β} (h : Le Γ (Γl b)) : B T tCont Γ (some (.ct b)) (PT T Γn Γl) := fun Z F H σ ok a' e E p => by
  cases e
  exact p F H σ (ok.le h)
theorem bt_break {Γn : α → Ctx} {Γl : β → Ctx} {b : β} (h : Le Γ (Γl b)) : B T tBreak Γ (some (.bk b)) (PT T Γn Γl) := fun Z F H σ ok a' e E p => by
  cases e
  exact p F H σ (ok.le h)
/-- the last statement, then the end -/
theorem b_last {m1 : Option α} {Γ1 : α → Ctx} {m2 : α → Option ω} (h1 : B T t Γ m1 (PP T Γ1)) (h2 : ∀ a, B T tNext (Γ1 a) (m2 a) P) : B T t Γ (m1.bind m2) P := fun Z F H σ ok o ho E p => by
  obtain ⟨a, e1, e2⟩ := bind_inv ho
  exact h1 Z F H σ ok a e1 E fun F2 H2 σ2 ok2 => h2 a Z F2 H2 σ2 ok2 o e2 E p
theorem b_lastx {m1 : Option (Out γ β)} {Γ1 : γ → Ctx} {Γl : β → Ctx} {Γn : α → Ctx} {m2 : γ → Option (Out α β)} (h1 : B T t Γ m1 (PT T Γ1 Γl)) (h2 : ∀ a, B T tNext (Γ1 a) (m2 a) (PT T Γn Γl)) :
    B T t Γ (m1.bind fun o => o.thn m2) (PT T Γn Γl) := fun Z F H σ ok o ho E p => by
  obtain ⟨a, e1, e2⟩ := bind_inv ho
  refine h1 Z F H σ ok a e1 _ ?_
  cases a with
  | nx a => exact fun F2 H2 σ2 ok2 => h2 a Z F2 H2 σ2 ok2 o e2 E p
  | ct b => cases e2; exact p
  | bk b => cases e2; exact p
  | rt d ms => cases e2; exact p
/-- what the changed parameters hold -/
def mus : Nat → Ctx → List (Nat × D)
  | _, [] => []
  | n, .mu d :: Γ => (n, d) :: mus (n + 1) Γ
  | n, _ :: Γ => mus (n + 1) Γ
theorem mus_at : ∀ {Γ : Ctx} {n : Nat} {x : Nat × D}, x ∈ mus n Γ → n ≤ x.1 ∧ Γ[x.1 - n]? = some (.mu x.2)
  | [], n, x, h => by simp [mus] at h
  | s :: Γ, n, x, h => by
    have go : x ∈ mus (n + 1) Γ → n ≤ x.1 ∧ (s :: Γ)[x.1 - n]? = some (.mu x.2) := fun h => by
      obtain ⟨a, b⟩ := mus_at h
      refine ⟨by omega, ?_⟩
      have e : x.1 - n = (x.1 - (n + 1)) + 1 := by omega
      rw [e]; simpa using b
    cases s <;> simp only [mus] at h <;> first | exact go h | skip
    rcases List.mem_cons.mp h with q | q
    · subst q; exact ⟨Nat.le_refl _, by simp⟩
    · exact go q
theorem bt_ret {Γn : α → Ctx} {Γl : β → Ctx} (h : Ev T .f te Γ me) : B T (tRet te) Γ (me.bind fun d => some (.rt d (mus 0 Γ))) (PT T Γn Γl) := fun Z F H σ ok o ho E p => by
  obtain ⟨d, e1, e2⟩ := bind_inv ho
  cases e2
  refine h Z F H σ ok d e1 _ fun v F2 H2 g r => p v F2 H2 ⟨ok.hv.grow g, r, fun x hx => ?_⟩
  obtain ⟨_, q⟩ := mus_at hx
  obtain ⟨p', a, b, c, e, f⟩ := (ok.grow g).at' _ _ q
  simp only [Nat.sub_zero] at b
  rw [← b]
  exact ⟨e, f⟩
theorem bt_retN {Γn : α → Ctx} {Γl : β → Ctx} : B T tRetN Γ (some (.rt .non (mus 0 Γ))) (PT T Γn Γl) := fun Z F H σ ok o ho E p => by
  cases ho
  refine p _ F H ⟨ok.hv, by simp only [Rep], fun x hx => ?_⟩
  obtain ⟨_, q⟩ := mus_at hx
  obtain ⟨p', a, b, c, e, f⟩ := ok.at' _ _ q
  simp only [Nat.sub_zero] at b
  rw [← b]
  exact ⟨e, f⟩
/-! ### targets -/
def slotOf : Md → D → Slot
  | .f, d => .val d
  | .b, d => .bor d
  | .h, _ => .no
/-- a value that stands for d is handed to the target, then the block runs -/
def Bg (T : Th) (g : TG) (t : TS) (Γ : Ctx) (md : Md) (d : D) (m : Option ω) (P : Base → Ends → ω → Prop) : Prop := ∀ Z F H σ x, Ok T Z Γ F H σ → Rep T (sel Z md F H) d x → ∀ o, m = some o → ∀ E : Ends, P Z E o → ∀ Q : L2.St → Hp → Prop, (∀ σ2 H2, t E σ2 H2 → Q σ2 H2) → g x σ H Q
theorem Ok.setMd {Z : Base} {F H : Hp} {σ : L2.St} (ok : Ok T Z Γ F H σ) {d : D} {v : V} (r : Rep T (sel Z md F H) d v) : Ok T Z (Γ.set i (slotOf md d)) F H (σ.set i (some v)) := by
  cases md with
  | f => exact ok.setVal r
  | b => exact ok.setBor r
  | h => exact ok.set trivial fun z => by cases z
theorem bg_name {d : D} (h : B T t (Γ.set i (slotOf md d)) m P) : Bg T (gName i) t Γ md d m P := fun Z F H σ x ok r o ho E p Q q =>
  q _ _ (h Z F H _ (ok.setMd r) o ho E p)
def un2 {ω : Type} (d : D) (k : D → D → Option ω) : Option ω := match d with | .tup [a, b] => k a b | _ => none
def un3 {ω : Type} (d : D) (k : D → D → D → Option ω) : Option ω := match d with | .tup [a, b, c] => k a b c | _ => none
def un4 {ω : Type} (d : D) (k : D → D → D → D → Option ω) : Option ω := match d with | .tup [a, b, c, e] => k a b c e | _ => none
def un5 {ω : Type} (d : D) (k : D → D → D → D → D → Option ω) : Option ω := match d with | .tup [a, b, c, e, f] => k a b c e f | _ => none
@[simp] theorem un2_t {ω : Type} (a b : D) (k : D → D → Option ω) : un2 (.tup [a, b]) k = k a b := id rfl
@[simp] theorem un3_t {ω : Type} (a b c : D) (k : D → D → D → Option ω) : un3 (.tup [a, b, c]) k = k a b c := id rfl
@[simp] theorem un4_t {ω : Type} (a b c e : D) (k : D → D → D → D → Option ω) : un4 (.tup [a, b, c, e]) k = k a b c e := id rfl
@[simp] theorem un5_t {ω : Type} (a b c e f : D) (k : D → D → D → D → D → Option ω) : un5 (.tup [a, b, c, e, f]) k = k a b c e f := id rfl
theorem un2_inv {d : D} {k : D → D → Option ω} {o : ω} (h : un2 d k = some o) : ∃ a b, d = .tup [a, b] ∧ k a b = some o := by
  unfold un2 at h
  split at h
  · exact ⟨_, _, rfl, h⟩
  · cases h
theorem un3_inv {d : D} {k : D → D → D → Option ω} {o : ω} (h : un3 d k = some o) : ∃ a b c, d = .tup [a, b, c] ∧ k a b c = some o := by
  unfold un3 at h
  split at h
  · exact ⟨_, _, _, rfl, h⟩
  · cases h
theorem un4_inv {d : D} {k : D → D → D → D → Option ω} {o : ω} (h : un4 d k = some o) : ∃ a b c e, d = .tup [a, b, c, e] ∧ k a b c e = some o := by
  unfold un4 at h
  split at h
  · exact ⟨_, _, _, _, rfl, h⟩
  · cases h
theorem un5_inv {d : D} {k : D → D → D → D → D → Option ω} {o : ω} (h : un5 d k = some o) : ∃ a b c e f, d = .tup [a, b, c, e, f] ∧ k a b c e f = some o := by
  unfold un5 at h
  split at h
  · exact ⟨_, _, _, _, _, rfl, h⟩
  · cases h
theorem rep_tup_inv {G : Hp} {ds : List D} {v : V} (r : Rep T G (.tup ds) v) : ∃ p vs, v = .ref p ∧ G p = some (.tup vs) ∧ Reps T G ds vs := by simpa only [Rep] using r
theorem bg_tup2 {d : D} {mk : D → D → Option ω} (h : ∀ a b, B T t ((Γ.set i (slotOf md a)).set j (slotOf md b)) (mk a b) P) : Bg T (gTup T.K 2 (gCons (gName i) (gCons (gName j) gNil))) t Γ md d (un2 d mk) P := fun Z F H σ x ok r o ho E p Q qq => by
  obtain ⟨a, b, rfl, e⟩ := un2_inv ho
  obtain ⟨q, vs, rfl, hq, rr⟩ := rep_tup_inv r
  obtain ⟨va, r1, rfl, ra, rr⟩ := rr.uncons
  obtain ⟨vb, r2, rfl, rb, rr⟩ := rr.uncons
  simp only [Reps] at rr; subst rr
  refine ⟨q, _, rfl, SqT.of (sel_in ok.hv.f ok.hv.b _ _ hq), rfl, va, _, rfl, vb, _, rfl, rfl, ?_⟩
  have ok2 := ok.setMd (i := i) ra
  exact qq _ _ (h a b Z F H _ (ok2.setMd (i := j) rb) o e E p)
theorem bg_tup3 {d : D} {mk : D → D → D → Option ω} (h : ∀ a b c, B T t (((Γ.set i (slotOf md a)).set j (slotOf md b)).set k (slotOf md c)) (mk a b c) P) : Bg T (gTup T.K 3 (gCons (gName i) (gCons (gName j) (gCons (gName k) gNil)))) t Γ md d (un3 d mk) P := fun Z F H σ x ok r o ho E p Q qq => by
  obtain ⟨a, b, c, rfl, e⟩ := un3_inv ho
  obtain ⟨q, vs, rfl, hq, rr⟩ := rep_tup_inv r
  obtain ⟨va, r1, rfl, ra, rr⟩ := rr.uncons
  obtain ⟨vb, r2, rfl, rb, rr⟩ := rr.uncons
  obtain ⟨vc, r3, rfl, rc, rr⟩ := rr.uncons
  simp only [Reps] at rr; subst rr
  refine ⟨q, _, rfl, SqT.of (sel_in ok.hv.f ok.hv.b _ _ hq), rfl, va, _, rfl, vb, _, rfl, vc, _, rfl, rfl, ?_⟩
  have ok2 := (ok.setMd (i := i) ra).setMd (i := j) rb
  exact qq _ _ (h a b c Z F H _ (ok2.setMd (i := k) rc) o e E p)
theorem bg_tup4 {d : D} {mk : D → D → D → D → Option ω} (h : ∀ a b c e, B T t ((((Γ.set i (slotOf md a)).set j (slotOf md b)).set k (slotOf md c)).set l (slotOf md e)) (mk a b c e) P) : Bg T (gTup T.K 4 (gCons (gName i) (gCons (gName j) (gCons (gName k) (gCons (gName l) gNil))))) t Γ md d (un4 d mk) P := fun Z F H σ x ok r o ho E p Q qq => by
  obtain ⟨a, b, c, f, rfl, e⟩ := un4_inv ho
  obtain ⟨q, vs, rfl, hq, rr⟩ := rep_tup_inv r
  obtain ⟨va, r1, rfl, ra, rr⟩ := rr.uncons
  obtain ⟨vb, r2, rfl, rb, rr⟩ := rr.uncons
  obtain ⟨vc, r3, rfl, rc, rr⟩ := rr.uncons
  obtain ⟨vd, r4, rfl, rd, rr⟩ := rr.uncons
  simp only [Reps] at rr; subst rr
  refine ⟨q, _, rfl, SqT.of (sel_in ok.hv.f ok.hv.b _ _ hq), rfl, va, _, rfl, vb, _, rfl, vc, _, rfl, vd, _, rfl, rfl, ?_⟩
  have ok2 := ((ok.setMd (i := i) ra).setMd (i := j) rb).setMd (i := k) rc
  exact qq _ _ (h a b c f Z F H _ (ok2.setMd (i := l) rd) o e E p)
theorem bg_tup5 {n : Nat} {d : D} {mk : D → D → D → D → D → Option ω} (h : ∀ a b c e f, B T t (((((Γ.set i (slotOf md a)).set j (slotOf md b)).set k (slotOf md c)).set l (slotOf md e)).set n (slotOf md f)) (mk a b c e f) P) : Bg T (gTup T.K 5 (gCons (gName i) (gCons (gName j) (gCons (gName k) (gCons (gName l) (gCons (gName n) gNil)))))) t Γ md d (un5 d mk) P := fun Z F H σ x ok r o ho E p Q qq => by
  obtain ⟨a, b, c, f, g, rfl, e⟩ := un5_inv ho
  obtain ⟨q, vs, rfl, hq, rr⟩ := rep_tup_inv r
  obtain ⟨va, r1, rfl, ra, rr⟩ := rr.uncons
  obtain ⟨vb, r2, rfl, rb, rr⟩ := rr.uncons
  obtain ⟨vc, r3, rfl, rc, rr⟩ := rr.uncons
  obtain ⟨vd, r4, rfl, rd, rr⟩ := rr.uncons
  obtain ⟨ve, r5, rfl, re, rr⟩ := rr.uncons
  simp only [Reps] at rr; subst rr
  refine ⟨q, _, rfl, SqT.of (sel_in ok.hv.f ok.hv.b _ _ hq), rfl, va, _, rfl, vb, _, rfl, vc, _, rfl, vd, _, rfl, ve, _, rfl, rfl, ?_⟩
  have ok2 := (((ok.setMd (i := i) ra).setMd (i := j) rb).setMd (i := k) rc).setMd (i := l) rd
  exact qq _ _ (h a b c f g Z F H _ (ok2.setMd (i := n) re) o e E p)
/-- e is unpacked, then the rest -/
theorem b_unp {g : TG} {mk : D → Option ω} (he : Ev T md te Γ me) (hg : ∀ d, Bg T g u Γ md d (mk d) P) : B T (tSeq (tAsg te g) u) Γ (me.bind mk) P := fun Z F H σ ok o ho E p => by
  obtain ⟨d, e1, e2⟩ := bind_inv ho
  exact he Z F H σ ok d e1 _ fun v F2 H2 gr r => hg d Z F2 H2 σ v (ok.grow gr) r o e2 E p _ fun _ _ z => z
/-- a, b = e1, e2 -/
theorem b_par {tr : TA} {ma mb : Option D} {ta tb : TE} (ha : Ev T .f ta Γ ma) (hb : Ev T .f tb Γ mb) : B T (tPar i j (tCons ta (tCons tb tNil))) Γ (o2 (fun x y => some (x, y)) ma mb) (PP T fun c => (Γ.set i (.val c.1)).set j (.val c.2)) := fun Z F H σ ok o ho E p => by
  obtain ⟨x, y, e1, e2, e3⟩ := o2_inv ho
  cases e3
  refine ha Z F H σ ok x e1 _ fun v F2 H2 g1 r1 => hb Z F2 H2 σ (ok.grow g1) y e2 _ fun w F3 H3 g2 r2 => ?_
  exact ⟨v, w, rfl, p F3 H3 _ ((((ok.grow g1).grow g2).setVal (r1.mono g2.f)).setVal r2)⟩
end
end Mi
/-! loops -/
namespace Mi
open PySem L2
open Evl (Ex ex_t ex_l ex_rd fresh_back)

/-- a walk gives the things ds, while all that was kept stands -/
structure Wk (T : Th) (Z : Base) (md : Md) (J : It) (ds : List D) (F0 : Hp) : Prop where
  go : ∀ i F H, i < ds.length → Ex F0 F → Ex F H → Ex Z.B H → J.go i H
  stop : ∀ F H, Ex F0 F → Ex F H → Ex Z.B H → J.stop ds.length H
  yld : ∀ i F H x H', i < ds.length → Ex F0 F → Ex F H → Ex Z.B H → J.yld i H x H' → ∃ F', Grow F F' H H' ∧ ∀ d, ds[i]? = some d → Rep T (sel Z md F' H') d x
/-- pairs, each made anew -/
structure Wk2 (T : Th) (Z : Base) (ma mb : Md) (J : It) (ds : List (D × D)) (F0 : Hp) : Prop where
  go : ∀ i F H, i < ds.length → Ex F0 F → Ex F H → Ex Z.B H → J.go i H
  stop : ∀ F H, Ex F0 F → Ex F H → Ex Z.B H → J.stop ds.length H
  yld : ∀ i F H x H', i < ds.length → Ex F0 F → Ex F H → Ex Z.B H → J.yld i H x H' → ∃ F', Grow F F' H H' ∧ ∃ p v w, x = .ref p ∧ SqT T.K H' p [v, w] ∧ ∀ d, ds[i]? = some d → Rep T (sel Z ma F' H') d.1 v ∧ Rep T (sel Z mb F' H') d.2 w
def EvI (T : Th) (wi : TI) (Γ : Ctx) (md : Md) (m : Option (List D)) : Prop := ∀ Z F H σ, Ok T Z Γ F H σ → ∀ ds, m = some ds → ∀ R : It → Hp → Prop, (∀ J F2 H2, Grow F F2 H H2 → Wk T Z md J ds F2 → R J H2) → wi σ H R
def EvI2 (T : Th) (wi : TI) (Γ : Ctx) (ma mb : Md) (m : Option (List (D × D))) : Prop := ∀ Z F H σ, Ok T Z Γ F H σ → ∀ ds, m = some ds → ∀ R : It → Hp → Prop, (∀ J F2 H2, Grow F F2 H H2 → Wk2 T Z ma mb J ds F2 → R J H2) → wi σ H R
/-- a pair's parts are handed to the target -/
def Bg2 {ω : Type} (T : Th) (g : TG) (t : TS) (Γ : Ctx) (ma mb : Md) (d e : D) (m : Option ω) (P : Base → Ends → ω → Prop) : Prop := ∀ Z F H σ p v w, Ok T Z Γ F H σ → SqT T.K H p [v, w] → Rep T (sel Z ma F H) d v → Rep T (sel Z mb F H) e w → ∀ o, m = some o → ∀ E : Ends, P Z E o → ∀ Q : L2.St → Hp → Prop, (∀ σ2 H2, t E σ2 H2 → Q σ2 H2) → g (.ref p) σ H Q

/-! the loops' mirrors -/
section
variable {β γ ι : Type}
def loopO (f : β → ι → Option (Out β β)) : List ι → β → Option (Out β γ)
  | [], b => some (.nx b)
  | x :: xs, b => (f b x).bind fun o => match o with
    | .nx b' => loopO f xs b'
    | .ct b' => loopO f xs b'
    | .bk b' => some (.nx b')
    | .rt d ms => some (.rt d ms)
@[simp] theorem loopO_nil (f : β → ι → Option (Out β β)) (b : β) : loopO (γ := γ) f [] b = some (.nx b) := id rfl
theorem loopO_cons (f : β → ι → Option (Out β β)) (x : ι) (xs : List ι) (b : β) : loopO (γ := γ) f (x :: xs) b = (f b x).bind fun o => match o with
    | .nx b' => loopO f xs b'
    | .ct b' => loopO f xs b'
    | .bk b' => some (.nx b')
    | .rt d ms => some (.rt d ms) := rfl
/-- a loop that nothing leaves -/
def foldO (f : β → ι → Option β) : List ι → β → Option β
  | [], b => some b
  | x :: xs, b => (f b x).bind fun b' => foldO f xs b'
@[simp] theorem foldO_nil (f : β → ι → Option β) (b : β) : foldO f [] b = some b := id rfl
theorem foldO_cons (f : β → ι → Option β) (x : ι) (xs : List ι) (b : β) : foldO f (x :: xs) b = (f b x).bind fun b' => foldO f xs b' := rfl
def whileN (c : β → Option Bool) (f : β → Option (Out β β)) : Nat → β → Option (Out β γ)
  | 0, _ => none
  | n + 1, b => (c b).bind fun k => if k = true then (f b).bind fun o => match o with
    | .nx b' => whileN c f n b'
    | .ct b' => whileN c f n b'
    | .bk b' => some (.nx b')
    | .rt d ms => some (.rt d ms)
    else some (.nx b)
theorem whileN_succ {c : β → Option Bool} {f : β → Option (Out β β)} : ∀ {n : Nat} {b : β} {o : Out β γ}, whileN c f n b = some o → whileN c f (n + 1) b = some o
  | 0, b, o, h => by cases h
  | n + 1, b, o, h => by
    unfold whileN at h ⊢
    obtain ⟨k, e1, e2⟩ := bind_inv h
    rw [e1]
    show (if k = true then _ else _) = _
    cases k with
    | false => exact e2
    | true =>
      obtain ⟨q, e3, e4⟩ := bind_inv (show (f b).bind _ = some o from e2)
      show (f b).bind _ = some o
      rw [e3]
      cases q with
      | nx b' => exact whileN_succ e4
      | ct b' => exact whileN_succ e4
      | bk b' => exact e4
      | rt d ms => exact e4
theorem whileN_le {c : β → Option Bool} {f : β → Option (Out β β)} {n k : Nat} {b : β} {o : Out β γ} (h : whileN c f n b = some o) (l : n ≤ k) : whileN c f k b = some o := by
  obtain ⟨j, rfl⟩ := Nat.exists_eq_add_of_le l
  clear l
  induction j with
  | zero => exact h
  | succ j ih => exact whileN_succ ih
open Classical in
/-- the while loop's answer, where it ends -/
noncomputable def whileO (c : β → Option Bool) (f : β → Option (Out β β)) (b : β) : Option (Out β γ) :=
  if h : ∃ n, (whileN (γ := γ) c f n b).isSome = true then whileN c f h.choose b else none
theorem whileO_of {c : β → Option Bool} {f : β → Option (Out β β)} {n : Nat} {b : β} {o : Out β γ} (h : whileN c f n b = some o) : whileO c f b = some o := by
  have hx : ∃ n, (whileN (γ := γ) c f n b).isSome = true := ⟨n, by rw [h]; rfl⟩
  unfold whileO
  rw [dif_pos hx]
  obtain ⟨o', ho⟩ := Option.isSome_iff_exists.mp hx.choose_spec
  have h1 := whileN_le h (Nat.le_max_left n hx.choose)
  have h2 := whileN_le ho (Nat.le_max_right n hx.choose)
  rw [h1] at h2
  rw [ho, ← h2]
theorem whileO_inv {c : β → Option Bool} {f : β → Option (Out β β)} {b : β} {o : Out β γ} (h : whileO c f b = some o) : ∃ n, whileN c f n b = some o := by
  unfold whileO at h
  split at h
  · exact ⟨_, h⟩
  · cases h
end
section
variable {T : Th} {Γ : Ctx} {Z : Base} {F F0 H H0 : Hp} {σ : L2.St}
abbrev Base.at (Z : Base) (F : Hp) : Base := { Z with F := F }
theorem SlotOk.at {i : Nat} {o : Option (Option V)} {s : Slot} {F1 : Hp} (h : SlotOk T Z F H i o s) : SlotOk T (Z.at F1) F H i o s := by
  cases s <;> exact h
theorem SlotOk.un {i : Nat} {o : Option (Option V)} {s : Slot} {F1 : Hp} (h : SlotOk T (Z.at F1) F H i o s) : SlotOk T Z F H i o s := by
  cases s <;> exact h
theorem Ok.at0 (ok : Ok T Z Γ F H σ) : Ok T (Z.at F) Γ F H σ :=
  ⟨⟨ok.hv.b, Ex.refl F, ok.hv.f, ok.hv.dom, fun a h => .inl h⟩, ok.len, fun i s e => (ok.at' i s e).at, ok.sep⟩
theorem Hv.un (h : Hv (Z.at F0) F H) (h0 : Hv Z F0 H0) : Hv Z F H :=
  ⟨h.b, h0.f0.trans h.f0, h.f, h.dom, fun a q => by
    rcases h.new a q with z | z
    · exact h0.new a z
    · exact .inr z⟩
theorem Ok.un (ok : Ok T (Z.at F0) Γ F H σ) (h0 : Hv Z F0 H0) : Ok T Z Γ F H σ :=
  ⟨ok.hv.un h0, ok.len, fun i s e => (ok.at' i s e).un, ok.sep⟩
theorem RetOk.un {d : D} {ms : List (Nat × D)} {v : V} (r : RetOk T (Z.at F0) d ms v F H) (h0 : Hv Z F0 H0) : RetOk T Z d ms v F H := ⟨r.hv.un h0, r.rep, r.mus⟩
end
section
variable {ω α β γ : Type} {T : Th} {Γ Γ' : Ctx} {md ma mb : Md} {te ta tb : TE} {tc : TT} {t u : TS} {g : TG} {wi : TI} {P : Base → Ends → ω → Prop} {me : Option D} {mc : β → Option Bool} {i j k l : Nat}

/-- the engine of both loops -/
theorem for_go {ι : Type} {Γl : β → Ctx} {Γl' : γ → Ctx} {f : β → ι → Option (Out β β)} {J : It} {ds : List ι} {Z : Base} {F0 H0 : Hp} {E : Ends} {σ : L2.St} (h0 : Hv Z F0 H0)
    (go : ∀ i F H, i < ds.length → Ex F0 F → Ex F H → Ex Z.B H → J.go i H) (stop : ∀ F H, Ex F0 F → Ex F H → Ex Z.B H → J.stop ds.length H)
    (turn : ∀ (i : Nat) F H σ b d, ds[i]? = some d → Ok T (Z.at F0) (Γl b) F H σ → ∀ x H', J.yld i H x H' → ∀ o, f b d = some o → ∀ E' : Ends, Post T (Z.at F0) Γl Γl E' o → g x σ H' fun σ2 H2 => t E' σ2 H2)
    {b0 : β} {o : Out β γ} (ho : loopO f ds b0 = some o) (ok : Ok T (Z.at F0) (Γl b0) F0 H0 σ) (p : Post T Z Γl Γl' E o) :
    ∃ W : Nat → Nat → L2.St → Hp → Prop, (∃ m, W 0 m σ H0) ∧ ∀ i m σ H, W i m σ H →
      (J.stop i H ∧ E.nx σ H) ∨ (J.go i H ∧ ∃ N : L2.St → Hp → Prop, (∀ σ' H', N σ' H' → ∃ m', m' < m ∧ W (i + 1) m' σ' H') ∧ ∀ x H', J.yld i H x H' → g x σ H' fun σ2 H2 => t { E with nx := N, ct := N, bk := E.nx } σ2 H2) := by
  refine ⟨fun i m σ H => m = ds.length - i ∧ i ≤ ds.length ∧ ∃ b F, Ok T (Z.at F0) (Γl b) F H σ ∧ loopO f (ds.drop i) b = some o, ⟨ds.length, by simp, Nat.zero_le _, b0, F0, ok, by simpa using ho⟩, ?_⟩
  rintro i m σ H ⟨rfl, hi, b, F, okb, hb⟩
  by_cases hlt : i < ds.length
  · refine .inr ⟨go i F H hlt okb.hv.f0 okb.hv.f okb.hv.b, fun σ' H' => ∃ b' F', Ok T (Z.at F0) (Γl b') F' H' σ' ∧ loopO f (ds.drop (i + 1)) b' = some o, fun σ' H' ⟨b', F', a, c⟩ => ⟨ds.length - (i + 1), by omega, rfl, hlt, b', F', a, c⟩, fun x H' y => ?_⟩
    have hd : ds.drop i = ds[i] :: ds.drop (i + 1) := List.drop_eq_getElem_cons hlt
    rw [hd, loopO_cons] at hb
    obtain ⟨o1, e1, e2⟩ := bind_inv hb
    refine turn i F H σ b ds[i] (by simp [hlt]) okb x H' y o1 e1 _ ?_
    cases o1 with
    | nx b' => exact fun F2 H2 σ2 ok2 => ⟨b', F2, ok2, e2⟩
    | ct b' => exact fun F2 H2 σ2 ok2 => ⟨b', F2, ok2, e2⟩
    | bk b' => cases e2; exact fun F2 H2 σ2 ok2 => p F2 H2 σ2 (ok2.un h0)
    | rt d ms => cases e2; exact fun v F2 H2 r => p v F2 H2 (r.un h0)
  · have e : i = ds.length := by omega
    subst e
    rw [List.drop_length] at hb
    cases hb
    exact .inl ⟨stop F H okb.hv.f0 okb.hv.f okb.hv.b, p F H σ (okb.un h0)⟩
/-- for x in ..: .., which may be left -/
theorem bt_for {Γl : β → Ctx} {Γl' : γ → Ctx} {f : β → D → Option (Out β β)} {b0 : β} {mi : Option (List D)} (hi : EvI T wi Γ md mi) (h0 : Le Γ (Γl b0)) (hb : ∀ b d, Bg T g t (Γl b) md d (f b d) (PT T Γl Γl)) :
    B T (tFor wi g t) Γ (mi.bind fun ds => loopO f ds b0) (PT T Γl Γl') := fun Z F H σ ok o ho E p => by
  obtain ⟨ds, e1, e2⟩ := bind_inv ho
  refine hi Z F H σ ok ds e1 _ fun J F2 H2 gr wk => ?_
  have ok2 := ok.grow gr
  refine for_go ok2.hv wk.go wk.stop (fun i F3 H3 σ3 b d hd ok3 x H4 y o1 ho1 E' p' => ?_) e2 (ok2.le h0).at0 p
  have hi : i < ds.length := (List.getElem?_eq_some_iff.mp hd).1
  obtain ⟨F4, g4, r4⟩ := wk.yld i F3 H3 x H4 hi ok3.hv.f0 ok3.hv.f ok3.hv.b y
  have r5 := r4 d hd
  refine hb b d (Z.at F2) F4 H4 σ3 x (ok3.grow g4) ?_ o1 ho1 E' p' _ fun _ _ z => z
  cases md <;> exact r5
theorem bt_for2 {Γl : β → Ctx} {Γl' : γ → Ctx} {f : β → D × D → Option (Out β β)} {b0 : β} {mi : Option (List (D × D))} (hi : EvI2 T wi Γ ma mb mi) (h0 : Le Γ (Γl b0)) (hb : ∀ b d e, Bg2 T g t (Γl b) ma mb d e (f b (d, e)) (PT T Γl Γl)) :
    B T (tFor wi g t) Γ (mi.bind fun ds => loopO f ds b0) (PT T Γl Γl') := fun Z F H σ ok o ho E p => by
  obtain ⟨ds, e1, e2⟩ := bind_inv ho
  refine hi Z F H σ ok ds e1 _ fun J F2 H2 gr wk => ?_
  have ok2 := ok.grow gr
  refine for_go ok2.hv wk.go wk.stop (fun i F3 H3 σ3 b d hd ok3 x H4 y o1 ho1 E' p' => ?_) e2 (ok2.le h0).at0 p
  have hi : i < ds.length := (List.getElem?_eq_some_iff.mp hd).1
  obtain ⟨F4, g4, q, v, w, rfl, hq, r4⟩ := wk.yld i F3 H3 x H4 hi ok3.hv.f0 ok3.hv.f ok3.hv.b y
  obtain ⟨r5, r6⟩ := r4 d hd
  refine hb b d.1 d.2 (Z.at F2) F4 H4 σ3 q v w (ok3.grow g4) hq ?_ ?_ o1 ho1 E' p' _ fun _ _ z => z
  · cases ma <;> exact r5
  · cases mb <;> exact r6
/-- a loop without an exit -/
def nxO {β γ : Type} (a : Option β) : Option (Out β γ) := a.map Out.nx
theorem loopO_fold {ι : Type} (f : β → ι → Option β) : ∀ (ds : List ι) (b : β), loopO (γ := γ) (fun b d => nxO (f b d)) ds b = nxO (foldO f ds b)
  | [], b => rfl
  | d :: ds, b => by
    rw [loopO_cons, foldO_cons]
    cases h : f b d with
    | none => rfl
    | some b' => exact loopO_fold f ds b'
theorem b_nxO {Γn : α → Ctx} {Γl : β → Ctx} {m : Option α} (h : B T t Γ m (PP T Γn)) : B T t Γ (nxO m) (PT T Γn Γl) := fun Z F H σ ok o ho E p => by
  cases m with
  | none => cases ho
  | some a =>
    cases ho
    exact h Z F H σ ok a rfl E p
theorem b_of_nxO {Γn : α → Ctx} {Γl : β → Ctx} {m : Option α} (h : B T t Γ (nxO m) (PT T Γn Γl)) : B T t Γ m (PP T Γn) := fun Z F H σ ok a ha E p => by
  subst ha
  exact h Z F H σ ok (.nx a) rfl E p
theorem bp_for {Γl : β → Ctx} {f : β → D → Option β} {b0 : β} {mi : Option (List D)} (hi : EvI T wi Γ md mi) (h0 : Le Γ (Γl b0)) (hb : ∀ b d, Bg T g t (Γl b) md d (f b d) (PP T Γl)) :
    B T (tFor wi g t) Γ (mi.bind fun ds => foldO f ds b0) (PP T Γl) := by
  refine b_of_nxO (Γl := fun _ : Unit => []) ?_
  have h := bt_for (Γl' := fun _ : Unit => []) (f := fun b d => nxO (f b d)) hi h0 (fun b d => fun Z F H σ x ok r o ho E p Q qq => by
    cases q : f b d with
    | none => rw [q] at ho; cases ho
    | some b' =>
      rw [q] at ho; cases ho
      exact hb b d Z F H σ x ok r b' q E p Q qq)
  have e : (mi.bind fun ds => loopO (γ := Unit) (fun b d => nxO (f b d)) ds b0) = nxO (mi.bind fun ds => foldO f ds b0) := by
    cases mi with
    | none => rfl
    | some ds => exact loopO_fold f ds b0
  rw [e] at h
  exact h
theorem bp_for2 {Γl : β → Ctx} {f : β → D × D → Option β} {b0 : β} {mi : Option (List (D × D))} (hi : EvI2 T wi Γ ma mb mi) (h0 : Le Γ (Γl b0)) (hb : ∀ b d e, Bg2 T g t (Γl b) ma mb d e (f b (d, e)) (PP T Γl)) :
    B T (tFor wi g t) Γ (mi.bind fun ds => foldO f ds b0) (PP T Γl) := by
  refine b_of_nxO (Γl := fun _ : Unit => []) ?_
  have h := bt_for2 (Γl' := fun _ : Unit => []) (f := fun b d => nxO (f b d)) hi h0 (fun b d e => fun Z F H σ p' v w ok hq r1 r2 o ho E p Q qq => by
    cases q : f b (d, e) with
    | none => rw [q] at ho; cases ho
    | some b' =>
      rw [q] at ho; cases ho
      exact hb b d e Z F H σ p' v w ok hq r1 r2 b' q E p Q qq)
  have e : (mi.bind fun ds => loopO (γ := Unit) (fun b d => nxO (f b d)) ds b0) = nxO (mi.bind fun ds => foldO f ds b0) := by
    cases mi with
    | none => rfl
    | some ds => exact loopO_fold f ds b0
  rw [e] at h
  exact h
/-- while -/
theorem bt_while {Γl : β → Ctx} {Γl' : γ → Ctx} {f : β → Option (Out β β)} {b0 : β} (h0 : Le Γ (Γl b0)) (hc : ∀ b, EvT T tc (Γl b) (mc b)) (hb : ∀ b, B T t (Γl b) (f b) (PT T Γl Γl)) :
    B T (tWhile tc t) Γ (whileO mc f b0) (PT T Γl Γl') := fun Z F H σ ok o ho E p => by
  obtain ⟨n, hn⟩ := whileO_inv ho
  refine ⟨fun m σ H => ∃ b F, Ok T Z (Γl b) F H σ ∧ whileN mc f m b = some o, ⟨n, b0, F, ok.le h0, hn⟩, ?_⟩
  rintro m σ H ⟨b, F, okb, hm⟩
  cases m with
  | zero => cases hm
  | succ m =>
    unfold whileN at hm
    obtain ⟨k, e1, e2⟩ := bind_inv hm
    refine hc b Z F H σ okb k e1 _ fun F2 H2 gr => ?_
    cases k with
    | false =>
      cases e2
      exact p F2 H2 σ (okb.grow gr)
    | true =>
      obtain ⟨o1, e3, e4⟩ := bind_inv (show (f b).bind _ = some o from e2)
      refine ⟨fun σ' H' => ∃ b' F', Ok T Z (Γl b') F' H' σ' ∧ whileN mc f m b' = some o, fun σ' H' ⟨b', F', a, c⟩ => ⟨m, Nat.lt_succ_self m, b', F', a, c⟩, ?_⟩
      refine hb b Z F2 H2 σ (okb.grow gr) o1 e3 _ ?_
      cases o1 with
      | nx b' => exact fun F3 H3 σ3 ok3 => ⟨b', F3, ok3, e4⟩
      | ct b' => exact fun F3 H3 σ3 ok3 => ⟨b', F3, ok3, e4⟩
      | bk b' => cases e4; exact p
      | rt d ms => cases e4; exact p
/-! pairs' targets -/
theorem bg2_nn {d e : D} {m : Option ω} (h : B T t ((Γ.set i (slotOf ma d)).set j (slotOf mb e)) m P) : Bg2 T (gTup T.K 2 (gCons (gName i) (gCons (gName j) gNil))) t Γ ma mb d e m P := fun Z F H σ p v w ok hq r1 r2 o ho E pp Q qq =>
  ⟨p, _, rfl, hq, rfl, v, _, rfl, w, _, rfl, rfl, qq _ _ (h Z F H _ ((ok.setMd (i := i) r1).setMd (i := j) r2) o ho E pp)⟩
/-- the second one is a pattern of its own; the first one; both -/
theorem bg2_np {g2 : TG} {d e : D} {m : Option ω} (h : Bg T g2 t (Γ.set i (slotOf ma d)) mb e m P) : Bg2 T (gTup T.K 2 (gCons (gName i) (gCons g2 gNil))) t Γ ma mb d e m P := fun Z F H σ p v w ok hq r1 r2 o ho E pp Q qq =>
  ⟨p, _, rfl, hq, rfl, v, _, rfl, w, _, rfl, h Z F H _ w (ok.setMd (i := i) r1) r2 o ho E pp _ fun σ2 H2 z => ⟨rfl, qq _ _ z⟩⟩
theorem bg2_2n {d e : D} {mk : D → D → Option ω} (h : ∀ a b, B T t (((Γ.set i (slotOf ma a)).set j (slotOf ma b)).set k (slotOf mb e)) (mk a b) P) :
    Bg2 T (gTup T.K 2 (gCons (gTup T.K 2 (gCons (gName i) (gCons (gName j) gNil))) (gCons (gName k) gNil))) t Γ ma mb d e (un2 d mk) P := fun Z F H σ p v w ok hq r1 r2 o ho E pp Q qq => by
  obtain ⟨a, b, rfl, e1⟩ := un2_inv ho
  obtain ⟨q, vs, rfl, hq1, rr⟩ := rep_tup_inv r1
  obtain ⟨va, s1, rfl, ra, rr⟩ := rr.uncons
  obtain ⟨vb, s2, rfl, rb, rr⟩ := rr.uncons
  simp only [Reps] at rr; subst rr
  refine ⟨p, _, rfl, hq, rfl, .ref q, _, rfl, q, _, rfl, SqT.of (sel_in ok.hv.f ok.hv.b _ _ hq1), rfl, va, _, rfl, vb, _, rfl, rfl, w, _, rfl, rfl, ?_⟩
  have ok2 := (ok.setMd (i := i) ra).setMd (i := j) rb
  exact qq _ _ (h a b Z F H _ (ok2.setMd (i := k) r2) o e1 E pp)
theorem bg2_3n {d e : D} {mk : D → D → D → Option ω} (h : ∀ a b c, B T t ((((Γ.set i (slotOf ma a)).set j (slotOf ma b)).set k (slotOf ma c)).set l (slotOf mb e)) (mk a b c) P) :
    Bg2 T (gTup T.K 2 (gCons (gTup T.K 3 (gCons (gName i) (gCons (gName j) (gCons (gName k) gNil)))) (gCons (gName l) gNil))) t Γ ma mb d e (un3 d mk) P := fun Z F H σ p v w ok hq r1 r2 o ho E pp Q qq => by
  obtain ⟨a, b, c, rfl, e1⟩ := un3_inv ho
  obtain ⟨q, vs, rfl, hq1, rr⟩ := rep_tup_inv r1
  obtain ⟨va, s1, rfl, ra, rr⟩ := rr.uncons
  obtain ⟨vb, s2, rfl, rb, rr⟩ := rr.uncons
  obtain ⟨vc, s3, rfl, rc, rr⟩ := rr.uncons
  simp only [Reps] at rr; subst rr
  refine ⟨p, _, rfl, hq, rfl, .ref q, _, rfl, q, _, rfl, SqT.of (sel_in ok.hv.f ok.hv.b _ _ hq1), rfl, va, _, rfl, vb, _, rfl, vc, _, rfl, rfl, w, _, rfl, rfl, ?_⟩
  have ok2 := ((ok.setMd (i := i) ra).setMd (i := j) rb).setMd (i := k) rc
  exact qq _ _ (h a b c Z F H _ (ok2.setMd (i := l) r2) o e1 E pp)
theorem bg2_32 {n : Nat} {d e : D} {mk : D → D → D → D → D → Option ω} (h : ∀ a b c x y, B T t (((((Γ.set i (slotOf ma a)).set j (slotOf ma b)).set k (slotOf ma c)).set l (slotOf mb x)).set n (slotOf mb y)) (mk a b c x y) P) :
    Bg2 T (gTup T.K 2 (gCons (gTup T.K 3 (gCons (gName i) (gCons (gName j) (gCons (gName k) gNil)))) (gCons (gTup T.K 2 (gCons (gName l) (gCons (gName n) gNil))) gNil))) t Γ ma mb d e (un3 d fun a b c => un2 e fun x y => mk a b c x y) P := fun Z F H σ p v w ok hq r1 r2 o ho E pp Q qq => by
  obtain ⟨a, b, c, rfl, e1⟩ := un3_inv ho
  obtain ⟨x, y, rfl, e2⟩ := un2_inv e1
  obtain ⟨q, vs, rfl, hq1, rr⟩ := rep_tup_inv r1
  obtain ⟨va, s1, rfl, ra, rr⟩ := rr.uncons
  obtain ⟨vb, s2, rfl, rb, rr⟩ := rr.uncons
  obtain ⟨vc, s3, rfl, rc, rr⟩ := rr.uncons
  simp only [Reps] at rr; subst rr
  obtain ⟨q', vs', rfl, hq2, rr⟩ := rep_tup_inv r2
  obtain ⟨vx, s4, rfl, rx, rr⟩ := rr.uncons
  obtain ⟨vy, s5, rfl, ry, rr⟩ := rr.uncons
  simp only [Reps] at rr; subst rr
  refine ⟨p, _, rfl, hq, rfl, .ref q, _, rfl, q, _, rfl, SqT.of (sel_in ok.hv.f ok.hv.b _ _ hq1), rfl, va, _, rfl, vb, _, rfl, vc, _, rfl, rfl, .ref q', _, rfl, q', _, rfl, SqT.of (sel_in ok.hv.f ok.hv.b _ _ hq2), rfl, vx, _, rfl, vy, _, rfl, rfl, rfl, ?_⟩
  have ok2 := (((ok.setMd (i := i) ra).setMd (i := j) rb).setMd (i := k) rc).setMd (i := l) rx
  exact qq _ _ (h a b c x y Z F H _ (ok2.setMd (i := n) ry) o e2 E pp)
end
end Mi
/-! walks over lists and tuples alike: x in v, enumerate(v), zip(v, w) -/
namespace PySem
open Sem (wp)
open AutoSeq1 (wpAny_loadPart')
theorem mi_enum_new1 {v : Value} {o : Obj} {H : Heap → Prop} (B : Begins v o H) :
    Meets (Builtin.«enumerate.__new__» ⟨[.type "enumerate", v], []⟩) (fun _ R s => H s.heap ∧
      R (.ok (.ret (.ref (s.heap.push o).objs.size))) { s with heap := (s.heap.push o).push { cls := .type "enumerate", data := .fields #[.none, .bool false, .ref s.heap.objs.size, rawInt 0, .none, .none] } }) :=
  .of_wp fun prog w A R s h => by
    obtain ⟨hp, g, d, tk, os⟩ := s; obtain ⟨h1, h⟩ := h
    have hsub := sub_enumerate
    have q1 : ∀ {A' : Around} {E : Value → Shared → Prop} {Q : Value → Shared → Prop}, Q (.ref hp.objs.size) ⟨hp.push o, g, d, tk, os⟩ → wpAny (model prog w) A' (pyIter v) Q E ⟨hp, g, d, tk, os⟩ :=
      fun q => B.iter prog w _ _ ⟨hp, g, d, tk, os⟩ _ h1 q
    wp_walk using q1
    refine wpAny_stack_any fun st => wpAny_pure ?_
    split
    · rename_i c _ _ _ _ _
      cases (c == Value.type "enumerate")
      · wp_walk using q1
        exact ⟨_, rfl, h⟩
      · wp_walk using q1
        exact ⟨_, rfl, h⟩
    · wp_walk using q1
      exact ⟨_, rfl, h⟩
section
variable {prog : Program} {w : World} {A : Around} {E : Value → Shared → Prop} {s : Shared}
theorem mi_enum_begins {v : Value} {o : Obj} {H : Heap → Prop} {Q : Value → Shared → Prop} (B : Begins v o H) (h1 : H s.heap)
    (h : ∀ h', IsEnum h' (s.heap.objs.size + 1) s.heap.objs.size 0 .none → h'.get? s.heap.objs.size = some o → h'.objs.size = s.heap.objs.size + 2 →
      (∀ b o, s.heap.get? b = some o → h'.get? b = some o) → Q (.ref (s.heap.objs.size + 1)) { s with heap := h' }) :
    wpAny (model prog w) A (call (.type "enumerate") [v]) Q E s := by
  refine callType_new F.called_enumerate (by decide) (F.typeCall_enumerate_1 _) (F.newCall_enumerate_1 _) (fun obj => F.args_object_init_2 obj _) F.entry_enumerate_new
    (mi_enum_new1 B) ⟨h1, ?_⟩
  have hz : (s.heap.push o).objs.size = s.heap.objs.size + 1 := Heap.size_push ..
  show _ ∧ _
  rw [hz]
  have he : IsEnum ((s.heap.push o).push { cls := .type "enumerate", data := .fields #[.none, .bool false, .ref s.heap.objs.size, rawInt 0, .none, .none] }) (s.heap.objs.size + 1) s.heap.objs.size 0 .none := by
    have := Heap.get?_push_size (s.heap.push o) (o := { cls := .type "enumerate", data := .fields #[.none, .bool false, .ref s.heap.objs.size, rawInt 0, .none, .none] }) rfl
    rw [hz] at this; exact this
  refine ⟨⟨_, he, rfl⟩, h _ he (Heap.get?_push_of_some _ (Heap.get?_push_size _ B.free)) (by rw [Heap.size_push, hz]) fun b o x => Heap.get?_push_of_some _ (Heap.get?_push_of_some _ x)⟩
end
end PySem

namespace Mi
open PySem L2
open PyProof.Rows
open Evl (Ex ex_t ex_l ex_rd fresh_back)
/-- a list (true) or a tuple (false) that is read -/
def SqK (kd : Bool) (K : PySem.W.Frag) (H : Hp) (a : Addr) (xs : List V) : Prop := if kd = true then SqL K H a xs else SqT K H a xs
def itK (kd : Bool) (h : Heap) (it a : Addr) (i : Nat) : Prop := if kd = true then h.IsListIter it a i else h.IsTupleIter it a i
def sqK (kd : Bool) (h : Heap) (a : Addr) (its : Array Value) : Prop := if kd = true then h.IsList a its else h.IsTuple a its
def itO (kd : Bool) (a : Addr) : Obj := if kd = true then { cls := .type "list_iterator", data := .fields #[.ref a, .int 0 0] } else { cls := .type "tuple_iterator", data := .fields #[.ref a, .int 0 0] }
theorem itK_obj {kd : Bool} {h : Heap} {it a : Addr} {i : Nat} (x : itK kd h it a i) : ∃ o, h.get? it = some o ∧ ∀ v, o.data ≠ .cell v := by
  cases kd with
  | true => obtain ⟨o, e, c, d⟩ := (show h.IsListIter it a i from x); exact ⟨o, e, fun v q => by rw [d] at q; cases q⟩
  | false => obtain ⟨o, e, c, d⟩ := (show h.IsTupleIter it a i from x); exact ⟨o, e, fun v q => by rw [d] at q; cases q⟩
theorem itK_at {kd : Bool} {h h' : Heap} {it a : Addr} {i : Nat} (x : itK kd h it a i) (k : ∀ o, h.get? it = some o → h'.get? it = some o) : itK kd h' it a i := by
  cases kd with
  | true => exact Heap.IsListIter.at (show h.IsListIter it a i from x) k
  | false => exact Heap.IsTupleIter.at (show h.IsTupleIter it a i from x) k
theorem itK_new {kd : Bool} {h : Heap} {it a : Addr} (e : h.get? it = some (itO kd a)) : itK kd h it a 0 := by
  cases kd with
  | true => exact ⟨_, e, rfl, rfl⟩
  | false => exact ⟨_, e, rfl, rfl⟩
theorem itO_free {kd : Bool} {a : Addr} : (itO kd a).isFreed = false := by cases kd <;> rfl
section
variable {X : Cx} {pins : List (Addr × Obj)} {σ : L2.St} {H : Hp} {s : Shared} {a b : Addr} {kd ka kb : Bool}
theorem sqK_of (I : Inv X pins σ H s) {xs : List V} (h : SqK kd X.K H a xs) : ∃ its : List Value, Vals xs its ∧ sqK kd s.heap a its.toArray := by
  cases kd with
  | true => obtain ⟨its, rv, p, _⟩ := I.list (show SqL X.K H a xs from h); exact ⟨its, rv, p.isList⟩
  | false => obtain ⟨its, rv, p, _⟩ := I.tuple (show SqT X.K H a xs from h); exact ⟨its, rv, (show s.heap.IsTuple a its.toArray from p)⟩
theorem sqK_inj (I : Inv X pins σ H s) {xs ys : List V} (h : SqK kd X.K H a xs) (h' : SqK kd X.K H a ys) : xs = ys := by
  cases kd with
  | true => exact I.list_inj (show SqL X.K H a xs from h) h'
  | false => exact I.tuple_inj (show SqT X.K H a xs from h) h'
theorem sqK_lt {h : Heap} {its : Array Value} (x : sqK kd h a its) : a < h.objs.size := by
  cases kd with
  | true => obtain ⟨o, e, _⟩ := (show h.IsList a its from x); exact Heap.lt_size e
  | false => obtain ⟨o, e, _⟩ := (show h.IsTuple a its from x); exact Heap.lt_size e
theorem drawsK {prog : Program} {w : World} {A : Around} (hh : A.handled = none) (it l : Addr) (hne : l ≠ it) (items : Array Value) :
    Draws prog w A it [it, l] items.size (fun i v => items[i]? = some v) (fun i h => itK kd h it l i ∧ sqK kd h l items) := by
  cases kd with
  | true => exact Draws.list hh it l hne items
  | false => exact Draws.tuple hh it l hne items
theorem beginsK (l : Addr) (items : Array Value) : Begins (.ref l) (itO kd l) fun h => sqK kd h l items := by
  cases kd with
  | true => exact begins_list l items
  | false => exact begins_tuple l items
def IteK (kd : Bool) (K : PySem.W.Frag) (a : Addr) : It :=
  ⟨fun i H => ∃ (xs : List V) (x : V), SqK kd K H a xs ∧ xs[i]? = some x, fun i H v H' => ∃ T x, v = .ref T ∧ H T = none ∧ H' = upd H T (.tup [.int (i : Nat), x]) ∧ ∀ xs, SqK kd K H a xs → xs[i]? = some x, fun i H => ∃ xs : List V, SqK kd K H a xs ∧ xs.length = i⟩
theorem turn_enumK {P : Program} {w : World} {K : PySem.W.Frag} {elts : List Expr} {kk : Nat} {tpos : Pos} (a e it : Addr) (hae : a ≠ e) (hai : a ≠ it) :
    Turn P w K (.Tuple elts kk tpos) (IteK kd K a) [e, it] e (fun i h => (∃ old, IsEnum h e it ((i : Nat) : Int) old) ∧ itK kd h it a i ∧ e ≠ it) where
  mem := by simp
  obj := fun i h st b hb => by
    obtain ⟨⟨old, he⟩, hi, _⟩ := st
    have e' : b = e ∨ b = it := by simpa using hb
    rcases e' with z | z
    · rw [z]; exact ⟨_, he, fun v q => nomatch q⟩
    · rw [z]; exact itK_obj hi
  keep := fun i h h' st k => let ⟨⟨old, he⟩, hi, hne⟩ := st; ⟨⟨old, k e (by simp) _ he⟩, itK_at hi fun o q => k it (by simp) o q, hne⟩
  item := by
    intro X hP hw hK hc i pins s σ H E I hf st hg
    subst hP hw hK
    obtain ⟨⟨old, he⟩, hit, hne⟩ := st
    obtain ⟨xs, x, hq, hx⟩ := hg
    obtain ⟨its, rv, p⟩ := sqK_of I hq
    obtain ⟨u, hu, ru⟩ := rv.get hx
    have hel : e < s.heap.objs.size := Heap.lt_size he
    have hil : it < s.heap.objs.size := by obtain ⟨_, q, _⟩ := itK_obj hit; exact Heap.lt_size q
    have hlt : i < its.toArray.size := by
      have := (List.getElem?_eq_some_iff.mp hu).1
      simpa using this
    have hh : X.A.in1.handled = none := I.ok.hd hc
    refine wpAny_pyNext_enum_itemD (drawsK (kd := kd) hh it a hai its.toArray) he ⟨hit, p⟩ hlt hne (by simp; exact ⟨hne, hae.symm⟩) fun y h' tk hy ho st' hT hsz hk => ?_
    have ey : y = u := by
      have hy' : its.toArray[i]? = some y := hy
      simp only [List.getElem?_toArray] at hy'
      rw [hu] at hy'
      exact (Option.some.inj hy').symm
    subst ey
    refine ⟨_, rfl, wpAny_letOwnedTupleGo_enum (s := { s with heap := h', toks := tk + 1 }) ho fun h'' he' sb => ?_⟩
    have hT2 : h''.get? s.heap.objs.size = some { cls := .type "tuple", data := .seq #[.int i tk, y] } := (sb.2 _ (Nat.ne_of_gt hel)).trans hT
    have new : ObjOk X.prog X.w (upd H s.heap.objs.size (.tup [.int (i : Nat), x])) h'' s.heap.objs.size (.tup [.int (i : Nat), x]) :=
      ⟨by show 2 ≤ sizeLine; decide, [.int i tk, y], .cons ⟨_, rfl⟩ (.cons ru .nil), ⟨_, hT2, rfl, _, rfl⟩⟩
    have I1 : Inv X pins σ (upd H s.heap.objs.size (.tup [.int (i : Nat), x])) { s with heap := h'', toks := tk + 1 } :=
      I.turnedNew (ch := [e, it]) (fun b ob hb q => (sb.2 b (fun z => hb (by simp [z]))).trans (hk b ob (fun z => hb (by simp [z])) (fun z => hb (by simp [z])) q)) hf (Nat.le_refl _) new
    refine ⟨.ref s.heap.objs.size, _, I1, rfl, ⟨_, x, rfl, I.hok.fresh (Nat.le_refl _), rfl, fun ys hy => by rw [sqK_inj I hy hq]; exact hx⟩, ⟨⟨y, ?_⟩, itK_at st'.1 fun o q => (sb.2 it (Ne.symm hne)).trans q, hne⟩, fun b hb => ?_⟩
    · have e1 : ((i + 1 : Nat) : Int) = (i : Int) + 1 := by omega
      rw [e1]; exact he'
    · have hb' : b < s.heap.objs.size := by
        have e' : b = e ∨ b = it := by simpa using hb
        rcases e' with z | z
        · rw [z]; exact hel
        · rw [z]; exact hil
      rw [upd_ne (Nat.ne_of_lt hb')]
      exact (hf b hb).1
  done := by
    intro X hP hw hK hc i pins s σ H E I hf st hg
    subst hP hw hK
    obtain ⟨⟨old, he⟩, hit, hne⟩ := st
    obtain ⟨xs, hq, hx⟩ := hg
    obtain ⟨its, rv, p⟩ := sqK_of I hq
    obtain ⟨f0, f1, f2, f3, f4, f5⟩ := hf it (by simp)
    have hl := rv.length
    have hh : X.A.in1.handled = none := I.ok.hd hc
    have hsz : its.toArray.size = i := by simp; omega
    exact wpAny_pyNext_enum_endD (drawsK (kd := kd) hh it a hai its.toArray) he ⟨by rw [hsz]; exact hit, p⟩ fun h' eb => ⟨rfl, I.turned (t' := s.toks) (fun b o hb q => eb b o hb q) f0 f1 f3 f4 f5⟩
  self := fun A i s Q E st h => let ⟨⟨_, he⟩, _⟩ := st; wpAny_pyIter_enum he h
/-- enumerate(v), v a list or a tuple -/
def iEnumK (K : PySem.W.Frag) (ta : TA) : TI := fun σ H R => ta σ H fun vs H1 => ∃ kd a xs, vs = [.ref a] ∧ SqK kd K H1 a xs ∧ R (IteK kd K a) H1
theorem pi_enumK {X : Cx} {e : Expr} {ta : TA} {p pos tpos : Pos} {elts : List Expr} {kk : Nat} (hg : Gl X "enumerate") (hm : X.mg "enumerate" = none) (ha : PA X [e] ta) (hs : starEach [e] X.env = [(false, eval e X.env)] := by rfl) :
    PI X (.Tuple elts kk tpos) (.Call (.Name "enumerate" p) [e] [] pos) (iEnumK X.K ta) := by
  refine ⟨fun pins s σ H R I h => ?_⟩
  refine Call_ (ld_blt I hg hm boot_enumerate (PyProof.Rows.callWith_type1 (thn (ha.run pos pins s σ H _ I h) fun us s1 ⟨vs, H1, I1, r1, q1⟩ => ?_) hs rfl))
  obtain ⟨kd, a, xs, ex, hq, q⟩ := q1
  subst ex
  cases r1 with
  | cons r rr =>
    cases rr
    cases r
    obtain ⟨its, rv, p'⟩ := sqK_of I1 hq
    have la := sqK_lt p'
    refine mi_enum_begins (beginsK a its.toArray) p' fun h' he hit hsz hk => wpAny_pyIter_enum he ?_
    have I2 : Inv X pins σ H1 { s1 with heap := h' } := I1.kept (t' := s1.toks) hk
    refine ⟨s1.heap.objs.size + 1, [s1.heap.objs.size + 1, s1.heap.objs.size], _, _, H1, rfl, I2, turn_enumK a (s1.heap.objs.size + 1) s1.heap.objs.size (Nat.ne_of_lt (Nat.lt_succ_of_lt la)) (Nat.ne_of_lt la), ⟨⟨.none, he⟩, itK_new hit, Nat.succ_ne_self _⟩, fun b hb => ?_, q⟩
    have e' : b = s1.heap.objs.size + 1 ∨ b = s1.heap.objs.size := by simpa using hb
    have hle : s1.heap.objs.size ≤ b := by
      rcases e' with z | z
      · rw [z]; exact Nat.le_add_right _ _
      · rw [z]; exact Nat.le_refl _
    exact I1.fpOk hle (I1.hok.fresh hle)
end
end Mi
/-! zip over lists and tuples; walks as Mi sees them -/
namespace Mi
open PySem L2
open PyProof.Rows
open Evl (Ex ex_t ex_l ex_rd fresh_back)
section
variable {ka kb kd : Bool}
def ItzK (ka kb : Bool) (K : PySem.W.Frag) (a b : Addr) : It :=
  ⟨fun i H => ∃ (xs ys : List V) (x y : V), SqK ka K H a xs ∧ SqK kb K H b ys ∧ xs[i]? = some x ∧ ys[i]? = some y,
    fun i H v H' => ∃ T x y, v = .ref T ∧ H T = none ∧ H' = upd H T (.tup [x, y]) ∧ (∀ xs, SqK ka K H a xs → xs[i]? = some x) ∧ ∀ ys, SqK kb K H b ys → ys[i]? = some y,
    fun i H => ∃ xs ys : List V, SqK ka K H a xs ∧ SqK kb K H b ys ∧ i ≤ xs.length ∧ i ≤ ys.length ∧ (i = xs.length ∨ i = ys.length)⟩
theorem turn_zipK {P : Program} {w : World} {K : PySem.W.Frag} {elts : List Expr} {kk : Nat} {tpos : Pos} {a b z TI TO i1 i2 : Addr} (S : ZipSep2 z TI TO i1 i2 [i1, a] [i2, b]) (ha1 : a ≠ i1) (hb2 : b ≠ i2) :
    Turn P w K (.Tuple elts kk tpos) (ItzK ka kb K a b) [z, TI, TO, i1, i2] z (fun i h => IsZip h z TI TO .none ∧ IsTupOf2 h TI (.ref i1) (.ref i2) ∧ (∃ x y, IsTupOf2 h TO x y) ∧ itK ka h i1 a i ∧ itK kb h i2 b i) where
  mem := by simp
  obj := fun i h st c hc => by
    obtain ⟨hz, hTI, ⟨x, y, hTO⟩, h1, h2⟩ := st
    have e' : c = z ∨ c = TI ∨ c = TO ∨ c = i1 ∨ c = i2 := by simpa using hc
    rcases e' with q | q | q | q | q
    · rw [q]; exact ⟨_, hz, fun v q => nomatch q⟩
    · rw [q]; exact ⟨_, hTI, fun v q => nomatch q⟩
    · rw [q]; exact ⟨_, hTO, fun v q => nomatch q⟩
    · rw [q]; exact itK_obj h1
    · rw [q]; exact itK_obj h2
  keep := fun i h h' st k => by
    obtain ⟨hz, hTI, ⟨x, y, hTO⟩, h1, h2⟩ := st
    exact ⟨k z (by simp) _ hz, k TI (by simp) _ hTI, ⟨x, y, k TO (by simp) _ hTO⟩, itK_at h1 fun o q => k i1 (by simp) o q, itK_at h2 fun o q => k i2 (by simp) o q⟩
  item := by
    intro X hP hw hK hc i pins s σ H E I hf st hg
    subst hP hw hK
    obtain ⟨hz, hTI, ⟨x0, y0, hTO⟩, h1, h2⟩ := st
    obtain ⟨xs, ys, x, y, hqx, hqy, hx, hy⟩ := hg
    obtain ⟨its, rv, p⟩ := sqK_of I hqx
    obtain ⟨its2, rv2, p2⟩ := sqK_of I hqy
    obtain ⟨u, hu, ru⟩ := rv.get hx
    obtain ⟨u2, hu2, ru2⟩ := rv2.get hy
    have hzl : z < s.heap.objs.size := Heap.lt_size hz
    have hh : X.A.in1.handled = none := I.ok.hd hc
    have lt1 : i < its.toArray.size := by
      have := (List.getElem?_eq_some_iff.mp hu).1
      simpa using this
    have lt2 : i < its2.toArray.size := by
      have := (List.getElem?_eq_some_iff.mp hu2).1
      simpa using this
    refine wpAny_pyNext_zipD2_item S (drawsK (kd := ka) hh i1 a ha1 its.toArray) (drawsK (kd := kb) hh i2 b hb2 its2.toArray) hz hTI hTO ⟨h1, p⟩ ⟨h2, p2⟩ lt1 lt2 fun v1 v2 h' tk e1 e2 z' TO' st1 st2 hT hsz hk => ?_
    have ev1 : v1 = u := by
      have hy' : its.toArray[i]? = some v1 := e1
      simp only [List.getElem?_toArray] at hy'
      rw [hu] at hy'
      exact (Option.some.inj hy').symm
    have ev2 : v2 = u2 := by
      have hy' : its2.toArray[i]? = some v2 := e2
      simp only [List.getElem?_toArray] at hy'
      rw [hu2] at hy'
      exact (Option.some.inj hy').symm
    subst ev1
    subst ev2
    refine ⟨_, rfl, wpAny_letOwnedTupleGo_zip (s := { s with heap := h', toks := tk }) z' fun h'' z'' sb => ?_⟩
    have hT2 : h''.get? s.heap.objs.size = some { cls := .type "tuple", data := .seq #[v1, v2] } := (sb.2 _ (Nat.ne_of_gt hzl)).trans hT
    have new : ObjOk X.prog X.w (upd H s.heap.objs.size (.tup [x, y])) h'' s.heap.objs.size (.tup [x, y]) :=
      ⟨by show 2 ≤ sizeLine; decide, [v1, v2], .cons ru (.cons ru2 .nil), ⟨_, hT2, rfl, _, rfl⟩⟩
    have I1 : Inv X pins σ (upd H s.heap.objs.size (.tup [x, y])) { s with heap := h'', toks := tk } :=
      I.turnedNew (t' := tk) (ch := [z, TI, TO, i1, i2]) (fun c o hb q => (sb.2 c (fun q' => hb (by simp [q']))).trans (hk c o (fun q' => hb (by simp [q'])) (fun q' => hb (by simp [q'])) (fun q' => hb (by simp [q'])) (fun q' => hb (by simp [q'])) q)) hf (Nat.le_refl _) new
    have n1 : i1 ≠ z := fun q => S.zf1 (by rw [← q]; exact S.mem1)
    have n2 : i2 ≠ z := fun q => S.zf2 (by rw [← q]; exact S.mem2)
    refine ⟨.ref s.heap.objs.size, _, I1, rfl, ⟨_, x, y, rfl, I.hok.fresh (Nat.le_refl _), rfl, fun l hl => by rw [sqK_inj I hl hqx]; exact hx, fun l hl => by rw [sqK_inj I hl hqy]; exact hy⟩, ⟨z'', ?_, ⟨v1, v2, ?_⟩, ?_, ?_⟩, fun c hcm => ?_⟩
    · exact (sb.2 _ S.TIz).trans (hk _ _ S.TIz S.TITO S.TIi1 S.TIi2 hTI)
    · exact (sb.2 _ S.TOz).trans TO'
    · exact itK_at st1.1 fun o q => (sb.2 _ n1).trans q
    · exact itK_at st2.1 fun o q => (sb.2 _ n2).trans q
    · have hlt : c < s.heap.objs.size := by
        have e' : c = z ∨ c = TI ∨ c = TO ∨ c = i1 ∨ c = i2 := by simpa using hcm
        rcases e' with q | q | q | q | q
        · rw [q]; exact hzl
        · rw [q]; exact Heap.lt_size hTI
        · rw [q]; exact Heap.lt_size hTO
        · rw [q]; obtain ⟨_, e1, _⟩ := itK_obj h1; exact Heap.lt_size e1
        · rw [q]; obtain ⟨_, e2, _⟩ := itK_obj h2; exact Heap.lt_size e2
      rw [upd_ne (Nat.ne_of_lt hlt)]
      exact (hf c hcm).1
  done := by
    intro X hP hw hK hc i pins s σ H E I hf st hg
    subst hP hw hK
    obtain ⟨hz, hTI, ⟨x0, y0, hTO⟩, h1, h2⟩ := st
    obtain ⟨xs, ys, hqx, hqy, le1, le2, hend⟩ := hg
    obtain ⟨its, rv, p⟩ := sqK_of I hqx
    obtain ⟨its2, rv2, p2⟩ := sqK_of I hqy
    have l1 := rv.length
    have l2 := rv2.length
    have hh : X.A.in1.handled = none := I.ok.hd hc
    exact wpAny_pyNext_zipD2_end S (drawsK (kd := ka) hh i1 a ha1 its.toArray) (drawsK (kd := kb) hh i2 b hb2 its2.toArray) hz hTI hTO ⟨h1, p⟩ ⟨h2, p2⟩ (by simp; omega) (by simp; omega) (by simp; omega) fun h' tk hk => ⟨rfl, I.turnedL (t' := tk) (ch := [z, TI, TO, i1, i2]) (fun c o hb q =>
      hk c o (fun q' => hb (by simp [q'])) (fun q' => hb (by simp [q'])) (fun q' => hb (by simp [q'])) (fun q' => hb (by simp [q'])) q) hf⟩
  self := fun A i s Q E st h => wpAny_pyIter_zip st.1 h
def iZipK (K : PySem.W.Frag) (ta : TA) : TI := fun σ H R => ta σ H fun vs H1 => ∃ ka kb a b xs ys, vs = [.ref a, .ref b] ∧ SqK ka K H1 a xs ∧ SqK kb K H1 b ys ∧ R (ItzK ka kb K a b) H1
theorem pi_zipK {X : Cx} {e e2 : Expr} {ta : TA} {p pos tpos : Pos} {elts : List Expr} {kk : Nat} (hg : Gl X "zip") (hm : X.mg "zip" = none) (ha : PA X [e, e2] ta)
    (hs : starEach [e, e2] X.env = (false, eval e X.env) :: starEach [e2] X.env := by rfl) (hpl : (backTo pos (starEach [e2] X.env)).any (·.1) = false := by rfl) :
    PI X (.Tuple elts kk tpos) (.Call (.Name "zip" p) [e, e2] [] pos) (iZipK X.K ta) := by
  refine ⟨fun pins s σ H R I h => ?_⟩
  refine Call_ (ld_blt I hg hm PyProof.Rows.boot_zip (PyProof.Rows.callWith_type1 (thn (ha.run pos pins s σ H _ I h) fun us s1 ⟨vs, H1, I1, r1, q1⟩ => ?_) hs hpl))
  obtain ⟨ka, kb, a, b, xs, ys, ex, hqx, hqy, q⟩ := q1
  subst ex
  cases r1 with
  | cons r rr =>
    cases rr with
    | cons r' rr =>
      cases rr
      cases r
      cases r'
      obtain ⟨its, rv, p1⟩ := sqK_of I1 hqx
      obtain ⟨its2, rv2, p2⟩ := sqK_of I1 hqy
      have la : a < s1.heap.objs.size := sqK_lt p1
      have lb : b < s1.heap.objs.size := sqK_lt p2
      refine zip_begins2 (beginsK a its.toArray) (beginsK b its2.toArray) p1 p2 fun h' hz hTI hTO h1 h2 hsz hk => wpAny_pyIter_zip hz ?_
      have I2 : Inv X pins σ H1 { s1 with heap := h' } := I1.kept (t' := s1.toks) hk
      refine ⟨s1.heap.objs.size + 4, [s1.heap.objs.size + 4, s1.heap.objs.size + 2, s1.heap.objs.size + 3, s1.heap.objs.size, s1.heap.objs.size + 1], _, _, H1, rfl, I2,
        turn_zipK (zip_sep2 (fp1 := [a]) (fp2 := [b]) (fun x hx => by simp at hx; rw [hx]; exact la) (fun x hx => by simp at hx; rw [hx]; exact lb)) (Nat.ne_of_lt la) (Nat.ne_of_lt (Nat.lt_succ_of_lt lb)), ⟨hz, hTI, ⟨_, _, hTO⟩, itK_new h1, itK_new h2⟩, fun c hcm => ?_, q⟩
      have e' : c = s1.heap.objs.size + 4 ∨ c = s1.heap.objs.size + 2 ∨ c = s1.heap.objs.size + 3 ∨ c = s1.heap.objs.size ∨ c = s1.heap.objs.size + 1 := by simpa using hcm
      have hle : s1.heap.objs.size ≤ c := by
        rcases e' with z | z | z | z | z
        · rw [z]; exact Nat.le_add_right _ _
        · rw [z]; exact Nat.le_add_right _ _
        · rw [z]; exact Nat.le_add_right _ _
        · rw [z]; exact Nat.le_refl _
        · rw [z]; exact Nat.le_add_right _ _
      exact I1.fpOk hle (I1.hok.fresh hle)
/-- v itself: a list, a tuple, a text -/
def iSeqK (K : PySem.W.Frag) (tl : TE) : TI := fun σ H R => tl σ H fun x H1 => (∃ a, x = .ref a ∧ (∃ xs, SqL K H1 a xs) ∧ R (Itl K a) H1) ∨ (∃ a, x = .ref a ∧ (∃ xs, SqT K H1 a xs) ∧ R (Itt K a) H1) ∨ ∃ z, x = .str z ∧ R (Its z) H1
theorem pi_seqK {X : Cx} {tg l : Expr} {tl : TE} (hl : PE X l tl) : PI X tg l (iSeqK X.K tl) := by
  refine ⟨fun pins s σ H R I h => ?_⟩
  refine thn (hl.run pins s σ H _ I h) fun v s1 ⟨x, H1, I1, r1, q1⟩ => ?_
  rcases q1 with ⟨a, e, ⟨xs, hq⟩, q⟩ | ⟨a, e, ⟨xs, hq⟩, q⟩ | ⟨z, e, q⟩
  · subst e
    cases r1
    obtain ⟨its, rv, p, hz⟩ := I1.list hq
    refine wpAny_pyIter_list p.isList ?_
    refine ⟨s1.heap.objs.size, [s1.heap.objs.size], _, _, H1, rfl, I1.kept (t' := s1.toks) fun b o e => Heap.get?_push_of_some _ e, turn_list a _, ⟨_, Heap.get?_push_size _ rfl, rfl, rfl⟩, fun b hb => ?_, q⟩
    have e : b = s1.heap.objs.size := by simpa using hb
    subst e
    exact I1.fpOk (Nat.le_refl _) (I1.hok.fresh (Nat.le_refl _))
  · subst e
    cases r1
    obtain ⟨its, rv, p, hz⟩ := I1.tuple hq
    refine wpAny_pyIter_tuple (show s1.heap.IsTuple a its.toArray from p) ?_
    refine ⟨s1.heap.objs.size, [s1.heap.objs.size], _, _, H1, rfl, I1.kept (t' := s1.toks) fun b o e => Heap.get?_push_of_some _ e, turn_tuple a _, ⟨_, Heap.get?_push_size _ rfl, rfl, rfl⟩, fun b hb => ?_, q⟩
    have e : b = s1.heap.objs.size := by simpa using hb
    subst e
    exact I1.fpOk (Nat.le_refl _) (I1.hok.fresh (Nat.le_refl _))
  · subst e
    obtain ⟨t, rfl⟩ := r1
    cases ha : z.cps.all (· < 128)
    · exact wpAny_pyIter_wide ha (pi_one (tk := s1.toks) I1 _ (turn_str _ z t "str_iterator" (.inr rfl)) ⟨_, Heap.get?_push_size _ rfl, rfl, rfl⟩ q)
    · exact wpAny_pyIter_ascii ha (pi_one (tk := s1.toks) I1 _ (turn_str _ z t "str_ascii_iterator" (.inl rfl)) ⟨_, Heap.get?_push_size _ rfl, rfl, rfl⟩ q)
end
/-! ### what is walked, as data -/
def chr1 (c : Nat) : D := .str ⟨#[c]⟩
def dItems : D → Option (List D)
  | .lst ds => some ds
  | .tup ds => some ds
  | .scr ns => some (ns.map D.int)
  | .str z => some (z.cps.toList.map chr1)
  | _ => none
/-- lists and tuples alone -/
def dSeq : D → Option (List D)
  | .lst ds => some ds
  | .tup ds => some ds
  | _ => none
def ranged (lo hi : Int) : List D := (List.range (hi - lo).toNat).map fun i => D.int (lo + (i : Nat))
def dRange1 : List D → Option (List D)
  | [.int n] => if -(2 ^ 62) ≤ n ∧ n < 2 ^ 62 then some (ranged 0 n) else none
  | _ => none
def dRange2 : List D → Option (List D)
  | [.int a, .int b] => if (-(2 ^ 62) ≤ a ∧ a < 2 ^ 62) ∧ -(2 ^ 62) ≤ b ∧ b < 2 ^ 62 then some (ranged a b) else none
  | _ => none
/-- a downward range -/
def rangedN (a b : Int) : List D := (List.range (a - b).toNat).map fun i => D.int (a - (i : Nat))
def dRange3 : List D → Option (List D)
  | [.int a, .int b, .int c] => if c = -1 ∧ (-(2 ^ 62) ≤ a ∧ a < 2 ^ 62) ∧ -(2 ^ 62) ≤ b ∧ b < 2 ^ 62 then some (rangedN a b) else none
  | _ => none
def enumed (ds : List D) : List (D × D) := ds.zipIdx.map fun x => (D.int (x.2 : Nat), x.1)
section
variable {T : Th} {Γ : Ctx} {md ma mb : Md} {te : TE} {tr : TA} {me : Option D} {ms : Option (List D)}
theorem rep_lst_inv {G : Hp} {ds : List D} {v : V} (r : Rep T G (.lst ds) v) : ∃ p vs, v = .ref p ∧ G p = some (.lst vs) ∧ Reps T G ds vs := by simpa only [Rep] using r
/-- what is held stays as it is through a loop -/
theorem sel_ex {Z : Base} {F0 F H H0 : Hp} (hm : md ≠ .h) (e0 : Ex F0 F) (e1 : Ex F H) (e2 : Ex Z.B H) : Ex (sel Z md F0 H0) H ∧ Ex (sel Z md F0 H0) (sel Z md F H) := by
  cases md with
  | f => exact ⟨e0.trans e1, e0⟩
  | b => exact ⟨e2, Ex.refl _⟩
  | h => exact absurd rfl hm
theorem evi_seq (h : Ev T md te Γ me) (hm : md ≠ .h := by decide) : EvI T (iSeqK T.K te) Γ md (o1 dItems me) := fun Z F H σ ok ds hd R q => by
  obtain ⟨x, e1, e2⟩ := o1_inv hd
  refine h Z F H σ ok x e1 _ fun v F2 H2 g r => ?_
  have ok2 := ok.grow g
  cases x <;> simp only [dItems] at e2 <;> try (cases e2; done)
  · -- a text
    rename_i z
    cases e2
    simp only [Rep] at r
    subst r
    refine .inr (.inr ⟨z, rfl, q _ F2 H2 g ⟨fun i F' H' hi _ _ _ => (by simpa using hi : i < z.cps.size), fun F' H' _ _ _ => by simp [Its], fun i F' H' x H'' hi _ e _ y => ?_⟩⟩)
    obtain ⟨rfl, c, hc, rfl⟩ := y
    refine ⟨F', Grow.refl e, fun d hd => ?_⟩
    rw [List.getElem?_map] at hd
    have hc' : z.cps.toList[i]? = some c := by simpa using hc
    rw [hc'] at hd
    cases hd
    simp only [chr1, Rep]
  · -- a list
    rename_i ds'
    cases e2
    obtain ⟨p, vs, rfl, hp, rr⟩ := rep_lst_inv r
    have hl := rr.len
    have ex : ∀ {F' H' : Hp}, Ex F2 F' → Ex F' H' → Ex Z.B H' → SqL T.K H' p vs := fun {F' H'} e0 e1 e2 => SqL.of ((sel_ex (H0 := H2) hm e0 e1 e2).1 _ _ hp)
    refine .inl ⟨p, rfl, ⟨vs, SqL.of (sel_in g.i ok2.hv.b _ _ hp)⟩, q _ F2 H2 g ⟨fun i F' H' hi e0 e1 e2 => ⟨vs, vs[i]'(by omega), ex e0 e1 e2, by simp⟩, fun F' H' e0 e1 e2 => ⟨vs, ex e0 e1 e2, by omega⟩, fun i F' H' x H'' hi e0 e1 e2 y => ?_⟩⟩
    obtain ⟨rfl, y⟩ := y
    refine ⟨F', Grow.refl e1, fun d hd => ?_⟩
    obtain ⟨v, hv, rv⟩ := rr.get hd
    rw [y vs (ex e0 e1 e2)] at hv
    cases hv
    exact rv.mono (sel_ex hm e0 e1 e2).2
  · -- a tuple
    rename_i ds'
    cases e2
    obtain ⟨p, vs, rfl, hp, rr⟩ := rep_tup_inv r
    have hl := rr.len
    have ex : ∀ {F' H' : Hp}, Ex F2 F' → Ex F' H' → Ex Z.B H' → SqT T.K H' p vs := fun {F' H'} e0 e1 e2 => SqT.of ((sel_ex (H0 := H2) hm e0 e1 e2).1 _ _ hp)
    refine .inr (.inl ⟨p, rfl, ⟨vs, SqT.of (sel_in g.i ok2.hv.b _ _ hp)⟩, q _ F2 H2 g ⟨fun i F' H' hi e0 e1 e2 => ⟨vs, vs[i]'(by omega), ex e0 e1 e2, by simp⟩, fun F' H' e0 e1 e2 => ⟨vs, ex e0 e1 e2, by omega⟩, fun i F' H' x H'' hi e0 e1 e2 y => ?_⟩⟩)
    obtain ⟨rfl, y⟩ := y
    refine ⟨F', Grow.refl e1, fun d hd => ?_⟩
    obtain ⟨v, hv, rv⟩ := rr.get hd
    rw [y vs (ex e0 e1 e2)] at hv
    cases hv
    exact rv.mono (sel_ex hm e0 e1 e2).2
  · -- the script
    rename_i ns
    cases e2
    simp only [Rep] at r
    obtain ⟨p, rfl, hp⟩ := r
    have ex : ∀ {F' H' : Hp}, Ex F2 F' → Ex F' H' → Ex Z.B H' → SqL T.K H' p (ns.map V.int) := fun {F' H'} e0 e1 e2 => ex_l (sel_ex (H0 := H2) hm e0 e1 e2).1 hp
    refine .inl ⟨p, rfl, ⟨_, ex_l (sel_in g.i ok2.hv.b) hp⟩, q _ F2 H2 g ⟨fun i F' H' hi e0 e1 e2 => ⟨_, .int (ns[i]'(by simpa using hi)), ex e0 e1 e2, by simp at hi; simp [hi]⟩, fun F' H' e0 e1 e2 => ⟨_, ex e0 e1 e2, by simp⟩, fun i F' H' x H'' hi e0 e1 e2 y => ?_⟩⟩
    obtain ⟨rfl, y⟩ := y
    refine ⟨F', Grow.refl e1, fun d hd => ?_⟩
    have y' := y _ (ex e0 e1 e2)
    rw [List.getElem?_map] at hd y'
    cases e : ns[i]? with
    | none => rw [e] at hd; cases hd
    | some n =>
      rw [e] at hd y'
      cases hd; cases y'
      simp only [Rep]
theorem wk_range {Z : Base} {F0 : Hp} (lo : Int) (n : Nat) : Wk T Z md (Itr lo n) ((List.range n).map fun i => D.int (lo + (i : Nat))) F0 where
  go := fun i F H hi _ _ _ => by simpa [Itr] using hi
  stop := fun F H _ _ _ => by simp [Itr]
  yld := fun i F H x H' hi _ e _ y => by
    obtain ⟨rfl, rfl⟩ := y
    refine ⟨F, Grow.refl e, fun d hd => ?_⟩
    rw [List.getElem?_map] at hd
    have : i < n := by simpa using hi
    rw [List.getElem?_range this] at hd
    cases hd
    simp only [Rep]
theorem wk_rangeC {Z : Base} {F0 : Hp} (lo : Int) (n : Nat) : Wk T Z md (Itc lo (-1) n) ((List.range n).map fun i => D.int (lo - (i : Nat))) F0 where
  go := fun i F H hi _ _ _ => by simpa [Itc] using hi
  stop := fun F H _ _ _ => by simp [Itc]
  yld := fun i F H x H' hi _ e _ y => by
    obtain ⟨rfl, rfl⟩ := y
    refine ⟨F, Grow.refl e, fun d hd => ?_⟩
    rw [List.getElem?_map] at hd
    have : i < n := by simpa using hi
    rw [List.getElem?_range this] at hd
    cases hd
    have e : lo + (i : Int) * -1 = lo - (i : Int) := by omega
    rw [e]
    simp only [Rep]
theorem evi_range1 (h : EvL T .h tr Γ ms) : EvI T (iRng1 tr) Γ md (o1 dRange1 ms) := fun Z F H σ ok ds hd R q => by
  obtain ⟨x, e1, e2⟩ := o1_inv hd
  refine h Z F H σ ok x e1 _ fun vs F2 H2 g r => ?_
  unfold dRange1 at e2
  split at e2
  · rename_i n
    split at e2
    · rename_i hn
      cases e2
      obtain ⟨v, r1, rfl, ra, rr⟩ := r.uncons
      simp only [Reps] at rr; subst rr
      simp only [Rep] at ra; subst ra
      refine ⟨n, rfl, hn.1, hn.2, q _ F2 H2 g ?_⟩
      have := wk_range (T := T) (md := md) (Z := Z) (F0 := F2) 0 n.toNat
      simpa [ranged] using this
    · cases e2
  · cases e2
theorem evi_range2 (h : EvL T .h tr Γ ms) : EvI T (iRng2 tr) Γ md (o1 dRange2 ms) := fun Z F H σ ok ds hd R q => by
  obtain ⟨x, e1, e2⟩ := o1_inv hd
  refine h Z F H σ ok x e1 _ fun vs F2 H2 g r => ?_
  unfold dRange2 at e2
  split at e2
  · rename_i a b
    split at e2
    · rename_i hn
      cases e2
      obtain ⟨v, r1, rfl, ra, rr⟩ := r.uncons
      obtain ⟨w, r2, rfl, rb, rr⟩ := rr.uncons
      simp only [Reps] at rr; subst rr
      simp only [Rep] at ra rb; subst ra rb
      exact ⟨a, b, rfl, ⟨hn.1.1, hn.1.2, hn.2.1, hn.2.2⟩, q _ F2 H2 g (wk_range a _)⟩
    · cases e2
  · cases e2
theorem evi_range3 (h : EvL T .h tr Γ ms) : EvI T (iRng3 tr) Γ md (o1 dRange3 ms) := fun Z F H σ ok ds hd R q => by
  obtain ⟨x, e1, e2⟩ := o1_inv hd
  refine h Z F H σ ok x e1 _ fun vs F2 H2 g r => ?_
  unfold dRange3 at e2
  split at e2
  · rename_i a b c
    split at e2
    · rename_i hn
      cases e2
      obtain ⟨hc, ha, hb⟩ := hn
      subst hc
      obtain ⟨v, r1, rfl, ra, rr⟩ := r.uncons
      obtain ⟨w, r2, rfl, rb, rr⟩ := rr.uncons
      obtain ⟨u, r3, rfl, rc, rr⟩ := rr.uncons
      simp only [Reps] at rr; subst rr
      simp only [Rep] at ra rb rc; subst ra rb rc
      exact ⟨a, b, -1, _, rfl, RgC.neg ha.1 ha.2 hb.1 hb.2, q _ F2 H2 g (wk_rangeC a _)⟩
    · cases e2
  · cases e2
/-- a list or a tuple that is held: its kind, its values -/
theorem seq_kd {G : Hp} {d : D} {ds : List D} {v : V} (r : Rep T G d v) (h : dSeq d = some ds) : ∃ kd p vs, v = .ref p ∧ (∀ G', Ex G G' → SqK kd T.K G' p vs) ∧ Reps T G ds vs := by
  cases d <;> simp only [dSeq] at h <;> try (cases h; done)
  · cases h
    obtain ⟨p, vs, rfl, hp, rr⟩ := rep_lst_inv r
    exact ⟨true, p, vs, rfl, fun G' e => SqL.of (e _ _ hp), rr⟩
  · cases h
    obtain ⟨p, vs, rfl, hp, rr⟩ := rep_tup_inv r
    exact ⟨false, p, vs, rfl, fun G' e => SqT.of (e _ _ hp), rr⟩
theorem tup_new {F H : Hp} (e : Ex F H) {q : Addr} (hq : H q = none) (o : HO) : Grow F (upd F q o) H (upd H q o) :=
  (Grow.lay e hq o).freeze hq upd_same (none_of_ex e hq)
theorem evi_enum (h : Ev T md te Γ me) (hm : md ≠ .h := by decide) : EvI2 T (iEnumK T.K (tCons te tNil)) Γ .f md ((o1 dSeq me).map enumed) := fun Z F H σ ok dp hd R q => by
  cases e0 : o1 dSeq me with
  | none => rw [e0] at hd; cases hd
  | some ds =>
    rw [e0] at hd; cases hd
    obtain ⟨x, e1, e2⟩ := o1_inv e0
    refine h Z F H σ ok x e1 _ fun v F2 H2 g r => ?_
    have ok2 := ok.grow g
    obtain ⟨kd, p, vs, rfl, hp, rr⟩ := seq_kd r e2
    have hl := rr.len
    have ex : ∀ {F' H' : Hp}, Ex F2 F' → Ex F' H' → Ex Z.B H' → SqK kd T.K H' p vs := fun {F' H'} e0 e1 e2 => hp _ (sel_ex (H0 := H2) hm e0 e1 e2).1
    have hlen : (enumed ds).length = ds.length := by simp [enumed]
    refine ⟨kd, p, vs, rfl, hp _ (sel_in g.i ok2.hv.b), q _ F2 H2 g ⟨fun i F' H' hi e0 e1 e2 => ⟨vs, vs[i]'(by omega), ex e0 e1 e2, by simp⟩, fun F' H' e0 e1 e2 => ⟨vs, ex e0 e1 e2, by omega⟩, fun i F' H' x H'' hi e0 e1 e2 y => ?_⟩⟩
    obtain ⟨t, x', rfl, ht, rfl, y⟩ := y
    refine ⟨_, tup_new e1 ht _, t, _, _, rfl, SqT.of upd_same, fun d hd => ?_⟩
    have hi' : i < ds.length := by omega
    have hd' : d = (D.int (i : Nat), ds[i]) := by
      unfold enumed at hd
      rw [List.getElem?_map, List.getElem?_zipIdx] at hd
      simp [hi'] at hd
      exact hd.symm
    subst hd'
    refine ⟨by simp only [Rep], ?_⟩
    obtain ⟨v, hv, rv⟩ := rr.get (i := i) (d := ds[i]) (by simp [hi'])
    rw [y vs (ex e0 e1 e2)] at hv
    cases hv
    exact (rv.mono (sel_ex (H0 := H2) hm e0 e1 e2).2).mono (sel_grow (tup_new e1 ht _))
theorem evi_zip {ta tb : TE} {m1 m2 : Option D} (ha : Ev T ma ta Γ m1) (hb : Ev T mb tb Γ m2) (h1 : ma ≠ .h := by decide) (h2 : mb ≠ .h := by decide) :
    EvI2 T (iZipK T.K (tCons ta (tCons tb tNil))) Γ ma mb (o2 (fun x y => some (x.zip y)) (o1 dSeq m1) (o1 dSeq m2)) := fun Z F H σ ok dp hd R q => by
  obtain ⟨xs, ys, e1, e2, e3⟩ := o2_inv hd
  cases e3
  obtain ⟨x, e4, e5⟩ := o1_inv e1
  obtain ⟨y, e6, e7⟩ := o1_inv e2
  refine ha Z F H σ ok x e4 _ fun v F2 H2 g r => hb Z F2 H2 σ (ok.grow g) y e6 _ fun w F3 H3 g2 r' => ?_
  have ok3 := (ok.grow g).grow g2
  obtain ⟨kd, p, vs, rfl, hp, rr⟩ := seq_kd (r.mono (sel_grow g2)) e5
  obtain ⟨kd', p', ws, rfl, hp', rr'⟩ := seq_kd r' e7
  have hl := rr.len
  have hl' := rr'.len
  have ex : ∀ {F' H' : Hp}, Ex F3 F' → Ex F' H' → Ex Z.B H' → SqK kd T.K H' p vs ∧ SqK kd' T.K H' p' ws := fun {F' H'} e0 e1 e2 => ⟨hp _ (sel_ex (H0 := H3) h1 e0 e1 e2).1, hp' _ (sel_ex (H0 := H3) h2 e0 e1 e2).1⟩
  have hlen : (xs.zip ys).length = min xs.length ys.length := by simp
  refine ⟨kd, kd', p, p', vs, ws, rfl, hp _ (sel_in g2.i ok3.hv.b), hp' _ (sel_in g2.i ok3.hv.b), q _ F3 H3 (g.trans g2) ⟨fun i F' H' hi e0 e1 e2 => ⟨vs, ws, vs[i]'(by omega), ws[i]'(by omega), (ex e0 e1 e2).1, (ex e0 e1 e2).2, by simp, by simp⟩,
    fun F' H' e0 e1 e2 => ⟨vs, ws, (ex e0 e1 e2).1, (ex e0 e1 e2).2, by omega, by omega, by omega⟩, fun i F' H' x H'' hi e0 e1 e2 y => ?_⟩⟩
  obtain ⟨t, x', y', rfl, ht, rfl, y1, y2⟩ := y
  refine ⟨_, tup_new e1 ht _, t, _, _, rfl, SqT.of upd_same, fun d hd => ?_⟩
  have hi1 : i < xs.length := by omega
  have hi2 : i < ys.length := by omega
  have hd' : d = (xs[i], ys[i]) := by
    rw [List.getElem?_zip_eq_some] at hd
    obtain ⟨q1, q2⟩ := hd
    simp [hi1] at q1
    simp [hi2] at q2
    exact Prod.ext q1.symm q2.symm
  subst hd'
  obtain ⟨v, hv, rv⟩ := rr.get (i := i) (d := xs[i]) (by simp [hi1])
  obtain ⟨w, hw, rw'⟩ := rr'.get (i := i) (d := ys[i]) (by simp [hi2])
  rw [y1 vs (ex e0 e1 e2).1] at hv
  rw [y2 ws (ex e0 e1 e2).2] at hw
  cases hv
  cases hw
  exact ⟨(rv.mono (sel_ex (H0 := H3) h1 e0 e1 e2).2).mono (sel_grow (tup_new e1 ht _)), (rw'.mono (sel_ex (H0 := H3) h2 e0 e1 e2).2).mono (sel_grow (tup_new e1 ht _))⟩
end
end Mi
/-! operations -/
namespace Mi
open PySem L2
open PyProof.Rows
open Evl (Ex ex_t ex_l ex_rd fresh_back)

/-! ### the operations upon data -/
def dAdd : D → D → Option D
  | .int a, .int b => some (.int (a + b))
  | .str a, .str b => if a.length + b.length ≤ 16777216 then some (.str (a ++ b)) else none
  | .lst a, .lst b => if a.length + b.length ≤ 16777216 then some (.lst (a ++ b)) else none
  | .tup a, .tup b => if a.length + b.length ≤ 16777216 then some (.tup (a ++ b)) else none
  | _, _ => none
def dSub : D → D → Option D
  | .int a, .int b => some (.int (a - b))
  | _, _ => none
def smallI (a : Int) : Prop := -18446744073709551616 < a ∧ a < 18446744073709551616
instance : DecidablePred smallI := fun a => by unfold smallI; infer_instance
def dMul : D → D → Option D
  | .int a, .int b => if smallI a ∨ smallI b then some (.int (a * b)) else none
  | .lst xs, .int k => if -9223372036854775808 ≤ k ∧ k < 9223372036854775808 ∧ xs.length * k.toNat ≤ 16777216 then some (.lst (List.replicate k.toNat xs).flatten) else none
  | _, _ => none
def dDiv : D → D → Option D
  | .int a, .int b => if 0 < b ∧ b < 1073741824 then some (.int (a / b)) else none
  | _, _ => none
def dMod : D → D → Option D
  | .int a, .int b => if 0 < b then some (.int (a % b)) else none
  | _, _ => none
def dPow : D → D → Option D
  | .int a, .int b => if 0 ≤ b ∧ b ≤ 1000000 ∧ a.natAbs < 18446744073709551616 then some (.int (a ^ b.toNat)) else none
  | _, _ => none
def dNeg : D → Option D
  | .int a => some (.int (-a))
  | _ => none
def dCmp (p : Int → Int → Bool) : D → D → Option D
  | .int a, .int b => some (.bl (p a b))
  | _, _ => none
def dLt : D → D → Option D := dCmp fun a b => decide (a < b)
def dLe : D → D → Option D := dCmp fun a b => decide (a ≤ b)
def dGt : D → D → Option D := dCmp fun a b => decide (b < a)
def dGe : D → D → Option D := dCmp fun a b => decide (b ≤ a)
mutual
def py : D → Option PyData
  | .non => some .none
  | .bl b => some (.bool b)
  | .int i => some (.int i)
  | .str s => some (.str s)
  | .lst ds => (pys ds).map PyData.list
  | .tup ds => (pys ds).map PyData.tuple
  | _ => none
def pys : List D → Option (List PyData)
  | [] => some []
  | d :: ds => (py d).bind fun x => (pys ds).map fun y => x :: y
end
def dEqB (d e : D) : Option Bool := (py d).bind fun x => (py e).bind fun y => if SeqAt.shaped x = true ∧ SeqAt.shaped y = true then some (PyData.eqv x y) else none
def dEq (d e : D) : Option D := (dEqB d e).map D.bl
def dNe (d e : D) : Option D := (dEqB d e).map fun b => D.bl !b
def eqF : D → D → Bool
  | .non, .non => true
  | .bl a, .bl b => a == b
  | .bl a, .int b => (if a then 1 else 0) == b
  | .int a, .bl b => a == (if b then 1 else 0)
  | .int a, .int b => a == b
  | .str a, .str b => a == b
  | _, _ => false
def keyOf : D → Option Key
  | .int i => some (.inl i)
  | .str s => some (.inr s)
  | _ => none
def keysOf : List D → Option (List Key)
  | [] => some []
  | d :: ds => (keyOf d).bind fun k => (keysOf ds).map fun r => k :: r
/-- the value at a key -/
def look {κ : Type} [DecidableEq κ] (ks : List κ) (ds : List D) (k : κ) : Option D := ((ks.zip ds).find? fun kv => decide (kv.1 = k)).map (·.2)
def dLook : D → D → Option (Option D)
  | .dic ks ds, d => (keyOf d).map fun k => look ks ds k
  | .dit ks ds, .tup es => (keysOf es).map fun k => look ks ds k
  | _, _ => none
def dInB : D → D → Option Bool
  | x, .lst ds => if flat x = true ∧ ds.all flat = true then some (ds.any fun e => eqF e x) else none
  | x, .tup ds => if flat x = true ∧ ds.all flat = true then some (ds.any fun e => eqF e x) else none
  | .str x, .str z => match x.cps.toList with
    | [c] => some (decide (c ∈ z.cps.toList))
    | _ => none
  | x, y => (dLook y x).map Option.isSome
def dIn (x y : D) : Option D := (dInB x y).map D.bl
def dNotIn (x y : D) : Option D := (dInB x y).map fun b => D.bl !b
def dIx : D → D → Option D
  | .lst ds, .int i => atI ds i
  | .tup ds, .int i => atI ds i
  | .scr ns, .int i => (atI ns i).map D.int
  | .str z, .int i => if z.length ≤ 16777216 then (atI z.cps.toList i).map chr1 else none
  | x, y => (dLook x y).bind id
def dIs : D → D → Option D
  | .bl a, .bl b => some (.bl (decide (a = b)))
  | .non, .non => some (.bl true)
  | .bl _, .non => some (.bl false)
  | .int _, .non => some (.bl false)
  | .str _, .non => some (.bl false)
  | .lst _, .non => some (.bl false)
  | .tup _, .non => some (.bl false)
  | .dic _ _, .non => some (.bl false)
  | .obj _ _ _, .non => some (.bl false)
  | _, _ => none
def dIsNot (d e : D) : Option D := (dIs d e).bind fun x => (tru x).map fun b => .bl !b
def dLen : D → Option D
  | .lst ds => some (.int ds.length)
  | .tup ds => some (.int ds.length)
  | .scr ns => some (.int ns.length)
  | .str z => if z.length ≤ 16777216 then some (.int z.length) else none
  | .dic ks ds => some (.int ds.length)
  | _ => none

/-! ### their readings -/
def rStrAdd : R2 := fun x y H Q => ∃ i j, x = .str i ∧ y = .str j ∧ i.length + j.length ≤ sizeLine ∧ Q (.str (i ++ j)) H
def rAddA (K : PySem.W.Frag) : R2 := fun x y H Q => rI0 (fun i j => .int (i + j)) x y H Q ∨ rStrAdd x y H Q ∨ rCat x y H Q ∨ rCatA K x y H Q
def rMulA (K : PySem.W.Frag) : R2 := fun x y H Q => rI CMul (fun i j => .int (i * j)) x y H Q ∨ rRep x y H Q
def rSign : R2 := fun x y H Q => ∃ (c : Nat) (z : Str), x = .str ⟨#[c]⟩ ∧ y = .str z ∧ Q (.bl (decide (c ∈ z.cps.toList))) H
def rSignN : R2 := fun x y H Q => ∃ (c : Nat) (z : Str), x = .str ⟨#[c]⟩ ∧ y = .str z ∧ Q (.bl (!decide (c ∈ z.cps.toList))) H
def rKeyIn (n : Bool) : R2 := fun y x H Q => ∃ a o, x = .ref a ∧ DGet H a y o ∧ Q (.bl (if n then !o.isSome else o.isSome)) H
def rInA (K : PySem.W.Frag) : R2 := fun x y H Q => rIn K false x y H Q ∨ rSign x y H Q ∨ rKeyIn false x y H Q
def rNotInA (K : PySem.W.Frag) : R2 := fun x y H Q => rIn K true x y H Q ∨ rSignN x y H Q ∨ rKeyIn true x y H Q
def rKeyGet : R2 := fun x y H Q => ∃ a v, x = .ref a ∧ DGet H a y (some v) ∧ Q v H
def rIxA (K : PySem.W.Frag) : R2 := fun x y H Q => rIx K x y H Q ∨ rKeyGet x y H Q
def rIsA : R2 := fun x y H Q => (∃ a b, x = .bl a ∧ y = .bl b ∧ Q (.bl (decide (a = b))) H) ∨ (y = .non ∧ Q (.bl (decide (x = .non))) H)
def rIsNotA : R2 := fun x y H Q => (∃ a b, x = .bl a ∧ y = .bl b ∧ Q (.bl (!decide (a = b))) H) ∨ (y = .non ∧ Q (.bl (!decide (x = .non))) H)
section
variable {X : Cx}
theorem op_addA : OpR X (binaryOp .Add) (rAddA X.K) := op_add.or (op_add_str.or (op_cat.or op_catA))
theorem op_mulA : OpR X (binaryOp .Mult) (rMulA X.K) := op_mul.or op_rep
theorem op_keyIn (hu : X.A.units + 64 < cLine) : OpR X (compareOp .In) (rKeyIn false) := fun pins s σ H x y v u Q I rx ry h => by
  obtain ⟨a, o, rfl, g, q⟩ := h
  cases (show u = Value.ref a from ry)
  exact d_in (by omega) I g rx fun s' I' => ⟨.bl o.isSome, H, I', rfl, q⟩
theorem op_keyNotIn (hu : X.A.units + 64 < cLine) : OpR X (compareOp .NotIn) (rKeyIn true) := fun pins s σ H x y v u Q I rx ry h => by
  obtain ⟨a, o, rfl, g, q⟩ := h
  cases (show u = Value.ref a from ry)
  exact d_notIn (by omega) I g rx fun s' I' => ⟨.bl (!o.isSome), H, I', rfl, q⟩
theorem op_inA (hu : X.A.units + 64 < cLine) : OpR X (compareOp .In) (rInA X.K) := op_in_seq.or (op_in_sign.or (op_keyIn hu))
theorem op_notInA (hu : X.A.units + 64 < cLine) : OpR X (compareOp .NotIn) (rNotInA X.K) := op_notIn_seq.or (op_notIn_sign.or (op_keyNotIn hu))
theorem ix_key (hu : X.A.units + 64 < cLine) : IxR X rKeyGet := fun value slice pins s σ H x y v u Q I rx ry h hs => by
  obtain ⟨a, w, rfl, g, q⟩ := h
  cases (show v = Value.ref a from rx)
  have hT := dict_typeIs I g
  unfold subscriptTail
  refine wpAny_bind ?_
  rw [getitemInPython_of_ne hT.not_modules]
  refine wpAny_bind (wpAny_specialOf hT PySem.F.slot_dict_getitem.lookup ?_)
  have fin : wpAny (model X.prog X.w) X.A (subscripted slice false (.ref a) u) (fun r s₃ => wpAny (model X.prog X.w) X.A (letTemporaryGo value (.ref a) r >>= fun _ => pure r) (EP X pins σ Q) X.xe s₃) X.xe s := by
    rw [hs]
    exact wpAny_operating (d_getItem (by omega) I g ry fun w' s3 I3 rw' => wpAny_bind (wpAny_letTemporaryGo (wpAny_pure ⟨w, H, I3, rw', q⟩)))
  first
    | exact wpAny_pure (wpAny_bind fin)
    | exact wpAny_bind (wpAny_pure (wpAny_bind fin))
    | exact wpAny_bind fin
theorem ix_A (hu : X.A.units + 64 < cLine) : IxR X (rIxA X.K) := ix_seq.or (ix_key hu)
theorem op_isA : OpR X (compareOp .Is) rIsA := op_is_bl.or op_isN
theorem op_isNotA : OpR X (compareOp .IsNot) rIsNotA := op_isnot_bl.or op_notN
end
section
variable {T : Th}
theorem smallI_iff {a : Int} : smallI a ↔ -(2 ^ 64) < a ∧ a < 2 ^ 64 := by unfold smallI; omega
theorem rep_lst {H : Hp} {p : Addr} {vs : List V} {ds : List D} (h : H p = some (.lst vs)) (r : Reps T H ds vs) : Rep T H (.lst ds) (.ref p) := by
  simp only [Rep]; exact ⟨p, vs, rfl, h, r⟩
theorem rep_tup {H : Hp} {p : Addr} {vs : List V} {ds : List D} (h : H p = some (.tup vs)) (r : Reps T H ds vs) : Rep T H (.tup ds) (.ref p) := by
  simp only [Rep]; exact ⟨p, vs, rfl, h, r⟩
/-- a new object whose parts are held -/
theorem sel_new {Z : Base} {md : Md} {F H : Hp} (hm : md.fh = true) (e : Ex F H) {p : Addr} (hp : H p = none) (o : HO) : ∃ F2, Grow F F2 H (upd H p o) ∧ sel Z md F2 (upd H p o) p = some o := by
  cases md with
  | f => exact ⟨upd F p o, (Grow.lay e hp o).freeze hp upd_same (none_of_ex e hp), upd_same⟩
  | b => cases hm
  | h => exact ⟨F, Grow.lay e hp o, upd_same⟩
theorem sel_in' {Z : Base} {md : Md} {F H : Hp} (hm : md.fh = true) (e : Ex F H) : Ex (sel Z md F H) H := by
  cases md with
  | f => exact e
  | b => cases hm
  | h => exact Ex.refl H
theorem opM_add : OpM T (rAddA T.K) dAdd := fun Z md F H x y d e c hm ex rd re hc Q q => by
  cases d <;> cases e <;> simp only [dAdd] at hc <;> try (cases hc; done)
  · cases hc
    simp only [Rep] at rd re
    subst rd re
    exact .inl ⟨_, _, rfl, rfl, q _ F H (Grow.refl ex) (by simp only [Rep])⟩
  · split at hc
    · rename_i hl
      cases hc
      simp only [Rep] at rd re
      subst rd re
      exact .inr (.inl ⟨_, _, rfl, rfl, by rw [line_eq]; exact hl, q _ F H (Grow.refl ex) (by simp only [Rep])⟩)
    · cases hc
  · split at hc
    · rename_i hl
      cases hc
      obtain ⟨p, vs, rfl, hp, r1⟩ := rep_lst_inv rd
      obtain ⟨p', vs', rfl, hp', r2⟩ := rep_lst_inv re
      have ei := sel_in' (Z := Z) hm ex
      refine .inr (.inr (.inl ⟨p, p', vs, vs', rfl, rfl, ei _ _ hp, ei _ _ hp', by rw [line_eq, ← r1.len, ← r2.len]; exact hl, fun n hn => ?_⟩))
      obtain ⟨F2, g, e2⟩ := sel_new (Z := Z) hm ex hn (.lst (vs ++ vs'))
      exact q _ F2 _ g (rep_lst e2 ((r1.mono (sel_grow g)).app (r2.mono (sel_grow g))))
    · cases hc
  · split at hc
    · rename_i hl
      cases hc
      obtain ⟨p, vs, rfl, hp, r1⟩ := rep_tup_inv rd
      obtain ⟨p', vs', rfl, hp', r2⟩ := rep_tup_inv re
      have ei := sel_in' (Z := Z) hm ex
      refine .inr (.inr (.inr ⟨p, p', vs, vs', rfl, rfl, SqT.of (ei _ _ hp), SqT.of (ei _ _ hp'), by rw [line_eq, ← r1.len, ← r2.len]; exact hl, fun h0 => ?_, fun _ h0 => ?_, fun _ _ n hn => ?_⟩))
      · subst h0
        have l1 := r1.len
        simp at l1
        subst l1
        exact q _ F H (Grow.refl ex) (by rw [List.nil_append]; exact rep_tup hp' r2)
      · subst h0
        have l1 := r2.len
        simp at l1
        subst l1
        exact q _ F H (Grow.refl ex) (by rw [List.append_nil]; exact rep_tup hp r1)
      · obtain ⟨F2, g, e2⟩ := sel_new (Z := Z) hm ex hn (.tup (vs ++ vs'))
        exact q _ F2 _ g (rep_tup e2 ((r1.mono (sel_grow g)).app (r2.mono (sel_grow g))))
    · cases hc
def rSubA : R2 := rI0 fun i j => .int (i - j)
def rDivA : R2 := rI CDiv fun i j => .int (i / j)
def rModA : R2 := rI (fun _ j => 0 < j) fun i j => .int (i % j)
def rPowA : R2 := rI CPow fun i j => .int (i ^ j.toNat)
theorem opS_sub : OpS T (rI0 fun i j => .int (i - j)) dSub := fun H x y d e c rd re hc Q q => by
  cases d <;> cases e <;> simp only [dSub] at hc <;> try (cases hc; done)
  cases hc
  simp only [Rep] at rd re
  subst rd re
  exact ⟨_, _, rfl, rfl, q _ fun G => by simp only [Rep]⟩
theorem opS_div : OpS T (rI CDiv fun i j => .int (i / j)) dDiv := fun H x y d e c rd re hc Q q => by
  cases d <;> cases e <;> simp only [dDiv] at hc <;> try (cases hc; done)
  split at hc
  · rename_i h
    cases hc
    simp only [Rep] at rd re
    subst rd re
    exact ⟨_, _, rfl, rfl, h, q _ fun G => by simp only [Rep]⟩
  · cases hc
theorem opS_mod : OpS T (rI (fun _ j => 0 < j) fun i j => .int (i % j)) dMod := fun H x y d e c rd re hc Q q => by
  cases d <;> cases e <;> simp only [dMod] at hc <;> try (cases hc; done)
  split at hc
  · rename_i h
    cases hc
    simp only [Rep] at rd re
    subst rd re
    exact ⟨_, _, rfl, rfl, h, q _ fun G => by simp only [Rep]⟩
  · cases hc
theorem opS_pow : OpS T (rI CPow fun i j => .int (i ^ j.toNat)) dPow := fun H x y d e c rd re hc Q q => by
  cases d <;> cases e <;> simp only [dPow] at hc <;> try (cases hc; done)
  split at hc
  · rename_i h
    cases hc
    simp only [Rep] at rd re
    subst rd re
    exact ⟨_, _, rfl, rfl, ⟨h.1, h.2.1, by have := h.2.2; omega⟩, q _ fun G => by simp only [Rep]⟩
  · cases hc
theorem reps_rep {H : Hp} {ds : List D} {vs : List V} (r : Reps T H ds vs) : ∀ k : Nat, Reps T H (List.replicate k ds).flatten (List.replicate k vs).flatten
  | 0 => Reps.nil
  | k + 1 => by rw [List.replicate_succ, List.replicate_succ, List.flatten_cons, List.flatten_cons]; exact r.app (reps_rep r k)
theorem opM_mul : OpM T (rMulA T.K) dMul := fun Z md F H x y d e c hm ex rd re hc Q q => by
  cases d <;> cases e <;> simp only [dMul] at hc <;> try (cases hc; done)
  · split at hc
    · rename_i h
      cases hc
      simp only [Rep] at rd re
      subst rd re
      refine .inl ⟨_, _, rfl, rfl, ?_, q _ F H (Grow.refl ex) (by simp only [Rep])⟩
      rcases h with h | h
      · exact .inl (smallI_iff.mp h)
      · exact .inr (smallI_iff.mp h)
    · cases hc
  · split at hc
    · rename_i h
      cases hc
      obtain ⟨p, vs, rfl, hp, r1⟩ := rep_lst_inv rd
      simp only [Rep] at re
      subst re
      have ei := sel_in' (Z := Z) hm ex
      refine .inr ⟨p, _, vs, rfl, rfl, ei _ _ hp, by have := h.1; omega, by have := h.2.1; omega, by rw [line_eq, ← r1.len]; exact h.2.2, fun n hn => ?_⟩
      rename_i ds k
      obtain ⟨F2, g, e2⟩ := sel_new (Z := Z) hm ex hn (.lst (List.replicate k.toNat vs).flatten)
      refine q _ F2 _ g (rep_lst e2 ?_)
      exact reps_rep (r1.mono (sel_grow (Z := Z) g)) _
    · cases hc
theorem opS_cmp {p : Int → Int → Bool} : OpS T (rI0 fun i j => .bl (p i j)) (dCmp p) := fun H x y d e c rd re hc Q q => by
  cases d <;> cases e <;> simp only [dCmp] at hc <;> try (cases hc; done)
  cases hc
  simp only [Rep] at rd re
  subst rd re
  exact ⟨_, _, rfl, rfl, q _ fun G => by simp only [Rep]⟩
theorem opS_lt : OpS T (rI0 fun i j => .bl (decide (i < j))) dLt := opS_cmp
theorem opS_le : OpS T (rI0 fun i j => .bl (decide (i ≤ j))) dLe := opS_cmp
theorem opS_gt : OpS T (rI0 fun i j => .bl (decide (j < i))) dGt := opS_cmp
theorem opS_ge : OpS T (rI0 fun i j => .bl (decide (j ≤ i))) dGe := opS_cmp
mutual
theorem rep_py {H : Hp} : ∀ {d : D} {v : V} {x : PyData}, Rep T H d v → py d = some x → Dp T.K H v x
  | .non, v, x, r, e => by simp only [Rep, py] at r e; cases e; subst r; exact .non
  | .bl b, v, x, r, e => by simp only [Rep, py] at r e; cases e; subst r; exact .bl b
  | .int b, v, x, r, e => by simp only [Rep, py] at r e; cases e; subst r; exact .int b
  | .str b, v, x, r, e => by simp only [Rep, py] at r e; cases e; subst r; exact .str b
  | .lst ds, v, x, r, e => by
    obtain ⟨p, vs, rfl, hp, rr⟩ := rep_lst_inv r
    simp only [py] at e
    obtain ⟨xs, hx, rfl⟩ := Option.map_eq_some_iff.mp e
    exact .lst (SqL.of hp) (reps_py rr hx)
  | .tup ds, v, x, r, e => by
    obtain ⟨p, vs, rfl, hp, rr⟩ := rep_tup_inv r
    simp only [py] at e
    obtain ⟨xs, hx, rfl⟩ := Option.map_eq_some_iff.mp e
    exact .tup (SqT.of hp) (reps_py rr hx)
  | .dic _ _, v, x, r, e => by simp only [py] at e; cases e
  | .dit _ _, v, x, r, e => by simp only [py] at e; cases e
  | .obj _ _ _, v, x, r, e => by simp only [py] at e; cases e
  | .scr _, v, x, r, e => by simp only [py] at e; cases e
theorem reps_py {H : Hp} : ∀ {ds : List D} {vs : List V} {xs : List PyData}, Reps T H ds vs → pys ds = some xs → DpAll T.K H vs xs
  | [], vs, xs, r, e => by simp only [Reps, pys] at r e; cases e; subst r; exact .nil
  | d :: ds, vs, xs, r, e => by
    obtain ⟨v, r', rfl, s, t⟩ := r.uncons
    simp only [pys] at e
    obtain ⟨x, e1, e2⟩ := bind_inv e
    obtain ⟨y, e3, rfl⟩ := Option.map_eq_some_iff.mp e2
    exact .cons (rep_py s e1) (reps_py t e3)
end
theorem dEqB_inv {d e : D} {b : Bool} (h : dEqB d e = some b) : ∃ x y, py d = some x ∧ py e = some y ∧ SeqAt.shaped x = true ∧ SeqAt.shaped y = true ∧ b = PyData.eqv x y := by
  unfold dEqB at h
  obtain ⟨x, e1, h⟩ := bind_inv h
  obtain ⟨y, e2, h⟩ := bind_inv h
  split at h
  · rename_i hs
    cases h
    exact ⟨x, y, e1, e2, hs.1, hs.2, rfl⟩
  · cases h
theorem opS_eq : OpS T (rEqD T.K) dEq := fun H x y d e c rd re hc Q q => by
  obtain ⟨b, hb, rfl⟩ := Option.map_eq_some_iff.mp (show (dEqB d e).map D.bl = some c from hc)
  obtain ⟨u, w, e1, e2, s1, s2, rfl⟩ := dEqB_inv hb
  exact ⟨u, w, rep_py rd e1, rep_py re e2, s1, s2, q _ fun G => by simp only [Rep]⟩
theorem opS_ne : OpS T (rNeD T.K) dNe := fun H x y d e c rd re hc Q q => by
  obtain ⟨b, hb, rfl⟩ := Option.map_eq_some_iff.mp (show (dEqB d e).map (fun b => D.bl !b) = some c from hc)
  obtain ⟨u, w, e1, e2, s1, s2, rfl⟩ := dEqB_inv hb
  exact ⟨u, w, rep_py rd e1, rep_py re e2, s1, s2, q _ fun G => by simp only [Rep]⟩
theorem flat_V {H : Hp} {d : D} {v : V} (h : flat d = true) (r : Rep T H d v) : flatV v = true := by
  cases d <;> simp only [flat, Rep] at h r <;> first | (subst r; rfl) | cases h
theorem eqF_V {H : Hp} {d e : D} {v w : V} (h : flat d = true) (h' : flat e = true) (r : Rep T H d v) (r' : Rep T H e w) : eqV v w = eqF d e := by
  cases d <;> first | (cases h; done) | skip
  all_goals (cases e <;> first | (cases h'; done) | skip)
  all_goals (simp only [Rep] at r r'; subst r r'; rfl)
theorem all_V {H : Hp} : ∀ {ds : List D} {vs : List V}, ds.all flat = true → Reps T H ds vs → vs.all flatV = true
  | [], vs, h, r => by simp only [Reps] at r; subst r; rfl
  | d :: ds, vs, h, r => by
    obtain ⟨v, r', rfl, s, t⟩ := r.uncons
    simp only [List.all_cons, Bool.and_eq_true] at h ⊢
    exact ⟨flat_V h.1 s, all_V h.2 t⟩
theorem inV_D {H : Hp} {x : D} {v : V} (hx : flat x = true) (rx : Rep T H x v) : ∀ {ds : List D} {vs : List V}, ds.all flat = true → Reps T H ds vs → inV v vs = ds.any fun e => eqF e x
  | [], vs, h, r => by simp only [Reps] at r; subst r; rfl
  | d :: ds, vs, h, r => by
    obtain ⟨w, r', rfl, s, t⟩ := r.uncons
    simp only [List.all_cons, Bool.and_eq_true] at h
    show (eqV w v || inV v r') = (eqF d x || ds.any fun e => eqF e x)
    rw [eqF_V h.1 hx s rx, inV_D hx rx h.2 t]
theorem look_V {κ : Type} [DecidableEq κ] {H : Hp} {k : κ} : ∀ {ks : List κ} {ds : List D} {vs : List V}, Reps T H ds vs → ks.length = vs.length →
    (look ks ds k = none ∧ valV (ks.zip vs) k = none) ∨ ∃ d v, look ks ds k = some d ∧ valV (ks.zip vs) k = some v ∧ Rep T H d v
  | [], ds, vs, r, l => .inl ⟨rfl, rfl⟩
  | a :: ks, [], vs, r, l => by simp only [Reps] at r; subst r; cases l
  | a :: ks, d :: ds, vs, r, l => by
    obtain ⟨v, r', rfl, s, t⟩ := r.uncons
    by_cases e : a = k
    · refine .inr ⟨d, v, ?_, ?_, s⟩
      · simp [look, List.find?_cons, e]
      · simp [valV, List.find?_cons, e]
    · have := look_V (k := k) t (ks := ks) (by simpa using l)
      have e1 : look (a :: ks) (d :: ds) k = look ks ds k := by simp [look, List.find?_cons, e]
      have e2 : valV ((a :: ks).zip (v :: r')) k = valV (ks.zip r') k := by simp [valV, List.find?_cons, e]
      rw [e1, e2]
      exact this
theorem keyOf_V {H : Hp} {d : D} {v : V} {k : Key} (r : Rep T H d v) (h : keyOf d = some k) : v = kV k := by
  cases d <;> simp only [keyOf, Rep] at h r <;> first | (cases h; subst r; rfl) | cases h
theorem keysOf_V {H : Hp} : ∀ {ds : List D} {vs : List V} {ks : List Key}, Reps T H ds vs → keysOf ds = some ks → vs = ks.map kV
  | [], vs, ks, r, h => by simp only [Reps, keysOf] at r h; cases h; subst r; rfl
  | d :: ds, vs, ks, r, h => by
    obtain ⟨v, r', rfl, s, t⟩ := r.uncons
    simp only [keysOf] at h
    obtain ⟨k, e1, h⟩ := bind_inv h
    obtain ⟨ks', e2, rfl⟩ := Option.map_eq_some_iff.mp h
    rw [keyOf_V s e1, keysOf_V t e2]; rfl
theorem dLook_V {H : Hp} {d e : D} {x y : V} {o : Option D} (rd : Rep T H d x) (re : Rep T H e y) (h : dLook d e = some o) :
    ∃ a w, x = .ref a ∧ DGet H a y w ∧ ((o = none ∧ w = none) ∨ ∃ c v, o = some c ∧ w = some v ∧ ∀ G, Ex G H → Rep T G d x → Rep T G c v) := by
  cases d <;> simp only [dLook] at h <;> try (cases h; done)
  · rename_i ks ds
    obtain ⟨k, hk, rfl⟩ := Option.map_eq_some_iff.mp h
    have ey := keyOf_V re hk
    simp only [Rep] at rd
    obtain ⟨a, vs, rfl, ha, l, rr⟩ := rd
    refine ⟨a, valV (ks.zip vs) k, rfl, .inl ⟨_, k, .inl ha, ey, rfl⟩, ?_⟩
    rcases look_V (k := k) rr l with ⟨q1, q2⟩ | ⟨c, v, q1, q2, q3⟩
    · exact .inl ⟨q1, q2⟩
    · refine .inr ⟨c, v, q1, q2, fun G eg rg => ?_⟩
      simp only [Rep] at rg
      obtain ⟨a', vs', e1, ha', l', rr'⟩ := rg
      cases e1
      have := eg _ _ ha'
      rw [ha] at this
      have hz : ks.zip vs = ks.zip vs' := by injection (Option.some.inj this)
      rcases look_V (k := k) rr' l' with ⟨z1, z2⟩ | ⟨c', v', z1, z2, z3⟩
      · rw [q1] at z1; cases z1
      · rw [q1] at z1; cases z1
        rw [← hz, q2] at z2; cases z2
        exact z3
  · cases e <;> simp only at h <;> try (cases h; done)
    rename_i ks ds es
    obtain ⟨k, hk, rfl⟩ := Option.map_eq_some_iff.mp h
    obtain ⟨p, vs', rfl, hp, r2⟩ := rep_tup_inv re
    have ey := keysOf_V r2 hk
    subst ey
    simp only [Rep] at rd
    obtain ⟨a, vs, rfl, ha, l, rr⟩ := rd
    refine ⟨a, valV (ks.zip vs) k, rfl, .inr ⟨_, k, p, .inl ha, rfl, hp, rfl⟩, ?_⟩
    rcases look_V (k := k) rr l with ⟨q1, q2⟩ | ⟨c, v, q1, q2, q3⟩
    · exact .inl ⟨q1, q2⟩
    · refine .inr ⟨c, v, q1, q2, fun G eg rg => ?_⟩
      simp only [Rep] at rg
      obtain ⟨a', vs', e1, ha', l', rr'⟩ := rg
      cases e1
      have := eg _ _ ha'
      rw [ha] at this
      have hz : ks.zip vs = ks.zip vs' := by injection (Option.some.inj this)
      rcases look_V (k := k) rr' l' with ⟨z1, z2⟩ | ⟨c', v', z1, z2, z3⟩
      · rw [q1] at z1; cases z1
      · rw [q1] at z1; cases z1
        rw [← hz, q2] at z2; cases z2
        exact z3
end
end Mi
/-! operations, built-ins -/
namespace Mi
open PySem L2
open PyProof.Rows
open Evl (Ex ex_t ex_l ex_rd fresh_back)
section
variable {T : Th}
theorem Str.of_cps {x : Str} {c : Nat} (h : x.cps.toList = [c]) : x = ⟨#[c]⟩ := by
  obtain ⟨a⟩ := x
  have : a = #[c] := by
    apply Array.ext'
    simpa using h
  rw [this]
theorem dInB_V {H : Hp} {x y : D} {v w : V} {b : Bool} (rx : Rep T H x v) (ry : Rep T H y w) (h : dInB x y = some b) :
    (∃ p xs, w = .ref p ∧ (SqL T.K H p xs ∨ SqT T.K H p xs) ∧ flatV v = true ∧ xs.all flatV = true ∧ inV v xs = b) ∨ (∃ c z, v = .str ⟨#[c]⟩ ∧ w = .str z ∧ decide (c ∈ z.cps.toList) = b) ∨ ∃ a o, w = .ref a ∧ DGet H a v o ∧ o.isSome = b := by
  have key : (dLook y x).map Option.isSome = some b → ∃ a o, w = .ref a ∧ DGet H a v o ∧ o.isSome = b := fun h => by
    obtain ⟨o, ho, rfl⟩ := Option.map_eq_some_iff.mp h
    obtain ⟨a, w', e1, e2, e3⟩ := dLook_V ry rx ho
    refine ⟨a, w', e1, e2, ?_⟩
    rcases e3 with ⟨rfl, rfl⟩ | ⟨c, v, rfl, rfl, _⟩ <;> rfl
  have lst : ∀ ds, y = .lst ds → dInB x (.lst ds) = (if flat x = true ∧ ds.all flat = true then some (ds.any fun e => eqF e x) else none) := fun ds _ => by cases x <;> rfl
  have tup : ∀ ds, y = .tup ds → dInB x (.tup ds) = (if flat x = true ∧ ds.all flat = true then some (ds.any fun e => eqF e x) else none) := fun ds _ => by cases x <;> rfl
  cases y with
  | lst ds =>
    rw [lst ds rfl] at h
    split at h
    · rename_i hf
      cases h
      obtain ⟨p, vs, rfl, hp, rr⟩ := rep_lst_inv ry
      exact .inl ⟨p, vs, rfl, .inl (SqL.of hp), flat_V hf.1 rx, all_V hf.2 rr, inV_D hf.1 rx hf.2 rr⟩
    · cases h
  | tup ds =>
    rw [tup ds rfl] at h
    split at h
    · rename_i hf
      cases h
      obtain ⟨p, vs, rfl, hp, rr⟩ := rep_tup_inv ry
      exact .inl ⟨p, vs, rfl, .inr (SqT.of hp), flat_V hf.1 rx, all_V hf.2 rr, inV_D hf.1 rx hf.2 rr⟩
    · cases h
  | str z =>
    cases x with
    | str x =>
      simp only [dInB] at h
      split at h
      · rename_i c hc
        cases h
        simp only [Rep] at rx ry
        subst rx ry
        exact .inr (.inl ⟨c, z, by rw [Str.of_cps hc], rfl, rfl⟩)
      · cases h
    | _ => exact .inr (.inr (key h))
  | _ => exact .inr (.inr (key (by cases x <;> exact h)))
theorem opS_in : OpS T (rInA T.K) dIn := fun H x y d e c rd re hc Q q => by
  obtain ⟨b, hb, rfl⟩ := Option.map_eq_some_iff.mp (show (dInB d e).map D.bl = some c from hc)
  have fin : Q (.bl b) H := q _ fun G => by simp only [Rep]
  rcases dInB_V rd re hb with ⟨p, xs, rfl, hs, f1, f2, rfl⟩ | ⟨c, z, rfl, rfl, rfl⟩ | ⟨a, o, rfl, g, rfl⟩
  · exact .inl ⟨p, xs, rfl, hs, f1, f2, fin⟩
  · exact .inr (.inl ⟨c, z, rfl, rfl, fin⟩)
  · exact .inr (.inr ⟨a, o, rfl, g, fin⟩)
theorem opS_notIn : OpS T (rNotInA T.K) dNotIn := fun H x y d e c rd re hc Q q => by
  obtain ⟨b, hb, rfl⟩ := Option.map_eq_some_iff.mp (show (dInB d e).map (fun b => D.bl !b) = some c from hc)
  have fin : Q (.bl !b) H := q _ fun G => by simp only [Rep]
  rcases dInB_V rd re hb with ⟨p, xs, rfl, hs, f1, f2, rfl⟩ | ⟨c, z, rfl, rfl, rfl⟩ | ⟨a, o, rfl, g, rfl⟩
  · exact .inl ⟨p, xs, rfl, hs, f1, f2, fin⟩
  · exact .inr (.inl ⟨c, z, rfl, rfl, fin⟩)
  · exact .inr (.inr ⟨a, o, rfl, g, fin⟩)
theorem atI_reps {H : Hp} {ds : List D} {vs : List V} {i : Int} {d : D} (r : Reps T H ds vs) (h : atI ds i = some d) : ∃ v, atI vs i = some v ∧ Rep T H d v := by
  unfold atI at h ⊢
  rw [r.len] at h
  obtain ⟨j, e1, e2⟩ := bind_inv h
  rw [e1]
  exact r.get e2
theorem opP_ix : OpP T (rIxA T.K) dIx := fun H x y d e c rd re hc Q q => by
  have key : (dLook d e).bind id = some c → rIxA T.K x y H Q := fun h => by
    obtain ⟨o, ho, h⟩ := bind_inv h
    obtain ⟨a, w', e1, e2, e3⟩ := dLook_V rd re ho
    rcases e3 with ⟨rfl, rfl⟩ | ⟨c', v, rfl, rfl, e4⟩
    · cases h
    · cases h
      exact .inr ⟨a, v, e1, e2, q v e4⟩
  cases d with
  | lst ds =>
    cases e with
    | int i =>
      obtain ⟨p, vs, rfl, hp, rr⟩ := rep_lst_inv rd
      simp only [Rep] at re; subst re
      obtain ⟨v, hv, rv⟩ := atI_reps rr (show atI ds i = some c from hc)
      refine .inl (.inl ⟨p, vs, i, v, rfl, rfl, SqL.of hp, hv, q v fun G eg rg => ?_⟩)
      obtain ⟨p', vs', e1, hp', rr'⟩ := rep_lst_inv rg
      cases e1
      have := eg _ _ hp'
      rw [hp] at this; cases this
      obtain ⟨v', hv', rv'⟩ := atI_reps rr' (show atI ds i = some c from hc)
      rw [hv] at hv'; cases hv'
      exact rv'
    | _ => exact key hc
  | tup ds =>
    cases e with
    | int i =>
      obtain ⟨p, vs, rfl, hp, rr⟩ := rep_tup_inv rd
      simp only [Rep] at re; subst re
      obtain ⟨v, hv, rv⟩ := atI_reps rr (show atI ds i = some c from hc)
      refine .inl (.inr (.inl ⟨p, vs, i, v, rfl, rfl, SqT.of hp, hv, q v fun G eg rg => ?_⟩))
      obtain ⟨p', vs', e1, hp', rr'⟩ := rep_tup_inv rg
      cases e1
      have := eg _ _ hp'
      rw [hp] at this; cases this
      obtain ⟨v', hv', rv'⟩ := atI_reps rr' (show atI ds i = some c from hc)
      rw [hv] at hv'; cases hv'
      exact rv'
    | _ => exact key hc
  | scr ns =>
    cases e with
    | int i =>
      obtain ⟨n, hn, rfl⟩ := Option.map_eq_some_iff.mp (show (atI ns i).map D.int = some c from hc)
      simp only [Rep] at rd re
      subst re
      obtain ⟨p, rfl, hp⟩ := rd
      have hv : atI (ns.map V.int) i = some (.int n) := by
        unfold atI at hn ⊢
        rw [List.length_map]
        obtain ⟨j, e1, e2⟩ := bind_inv hn
        rw [e1]
        show (ns.map V.int)[j]? = _
        rw [List.getElem?_map, e2]; rfl
      exact .inl (.inl ⟨p, _, i, _, rfl, rfl, hp, hv, q _ fun G _ _ => by simp only [Rep]⟩)
    | _ => exact key hc
  | str z =>
    cases e with
    | int i =>
      have hc' : (if z.length ≤ 16777216 then (atI z.cps.toList i).map chr1 else none) = some c := hc
      split at hc'
      · rename_i hl
        obtain ⟨n, hn, rfl⟩ := Option.map_eq_some_iff.mp hc'
        simp only [Rep] at rd re
        subst rd re
        exact .inl (.inr (.inr ⟨z, i, n, rfl, rfl, by rw [line_eq]; exact hl, hn, q _ fun G _ _ => by simp only [Rep, chr1]⟩))
      · cases hc'
    | _ => exact key hc
  | _ => exact key (by cases e <;> exact hc)
theorem rep_ne_non {H : Hp} {d : D} {v : V} (r : Rep T H d v) (h : d ≠ .non) : v ≠ .non := by
  cases d <;> simp only [Rep] at r <;> first | exact absurd rfl h | (subst r; intro q; cases q) | (obtain ⟨p, q⟩ := r; intro z; rw [z] at q; simp at q)
theorem opS_is : OpS T rIsA dIs := fun H x y d e c rd re hc Q q => by
  cases e with
  | non =>
    simp only [Rep] at re; subst re
    refine .inr ⟨rfl, ?_⟩
    cases d <;> simp only [dIs] at hc <;> try (cases hc; done)
    · cases hc
      simp only [Rep] at rd; subst rd
      exact q _ fun G => by simp [Rep]
    all_goals
      cases hc
      have hv := rep_ne_non rd (by intro z; cases z)
      rw [decide_eq_false hv]
      exact q _ fun G => by simp [Rep]
  | bl b =>
    cases d <;> simp only [dIs] at hc <;> try (cases hc; done)
    cases hc
    simp only [Rep] at rd re
    subst rd re
    exact .inl ⟨_, _, rfl, rfl, q _ fun G => by simp only [Rep]⟩
  | _ => cases d <;> simp only [dIs] at hc <;> cases hc
theorem opS_isNot : OpS T rIsNotA dIsNot := fun H x y d e c rd re hc Q q => by
  obtain ⟨z, e1, e2⟩ := bind_inv (show (dIs d e).bind _ = some c from hc)
  obtain ⟨b, e3, rfl⟩ := Option.map_eq_some_iff.mp e2
  have e4 := tru_inv e3
  subst e4
  have fin : ∀ b', b' = b → Q (.bl !b') H := fun b' h => q _ fun G => by subst h; simp only [Rep]
  rcases opS_is (T := T) H x y d e _ rd re e1 (fun v H' => v = .bl b ∧ H' = H) (fun v h => ⟨by have := h H; simp only [Rep] at this; exact this, rfl⟩) with ⟨a, a', rfl, rfl, q1, _⟩ | ⟨rfl, q1, _⟩
  · exact .inl ⟨a, a', rfl, rfl, fin _ (by simpa using q1)⟩
  · exact .inr ⟨rfl, fin _ (by simpa using q1)⟩
/-! slices -/
/-- the parts of a slice, as data -/
def EvP (T : Th) (tp : TO) (Γ : Ctx) (m : Option (Option Int)) : Prop := ∀ Z F H σ, Ok T Z Γ F H σ → ∀ o, m = some o → ∀ Q : Option Int → Hp → Prop, (∀ F2 H2, Grow F F2 H H2 → Q o H2) → tp σ H Q
def dI : D → Option Int
  | .int i => some i
  | _ => none
def cutD (xs : List D) (lo hi : Option Int) : List D := (xs.drop (HT.sIx xs.length 0 lo)).take (HT.sIx xs.length xs.length hi - HT.sIx xs.length 0 lo)
def dCut (d : D) (lo hi : Option Int) : Option D := match d with
  | .lst ds => some (.lst (cutD ds lo hi))
  | .tup ds => some (.tup (cutD ds lo hi))
  | .str z => if z.length ≤ 16777216 then some (.str (cutS z lo hi)) else none
  | _ => none
variable {Γ : Ctx} {md : Md} {te ta tb : TE} {tp tq : TO} {tr : TA} {me ma mb : Option D} {ms : Option (List D)} {ml mh : Option (Option Int)}
theorem evp_none : EvP T tNoPart Γ (some none) := fun Z F H σ ok o ho Q q => by
  cases ho
  exact q F H (Grow.refl ok.hv.f)
theorem evp_some (h : Ev T .h te Γ me) : EvP T (tPart te) Γ ((o1 dI me).map some) := fun Z F H σ ok o ho Q q => by
  obtain ⟨i, hi, rfl⟩ := Option.map_eq_some_iff.mp ho
  obtain ⟨x, e1, e2⟩ := o1_inv hi
  cases x <;> simp only [dI] at e2 <;> try (cases e2; done)
  cases e2
  refine h Z F H σ ok _ e1 _ fun v F2 H2 g r => ?_
  simp only [Rep] at r
  exact ⟨_, r, q F2 H2 g⟩
def rSlAll (K : PySem.W.Frag) : V → Option Int → Option Int → Hp → VK → Prop := fun x lo hi H Q => rSlL K x lo hi H Q ∨ rSlA K x lo hi H Q ∨ (∃ z, x = .str z ∧ z.length ≤ sizeLine ∧ Q (.str (cutS z lo hi)) H)
def oCut (a : Option D) (lo hi : Option (Option Int)) : Option D := a.bind fun x => lo.bind fun l => hi.bind fun u => dCut x l u
@[simp] theorem oCut_s (a : D) (lo hi : Option Int) : oCut (some a) (some lo) (some hi) = dCut a lo hi := id rfl
theorem cutD_V {H : Hp} {ds : List D} {vs : List V} (r : Reps T H ds vs) (lo hi : Option Int) : Reps T H (cutD ds lo hi) (cutV vs lo hi) := by
  unfold cutD cutV
  rw [r.len]
  exact (r.drop _).take _
theorem cutV_whole {vs : List V} {lo hi : Option Int} (h : HT.sIx vs.length 0 lo = 0 ∧ HT.sIx vs.length vs.length hi = vs.length) : cutV vs lo hi = vs := by
  unfold cutV
  rw [h.1, h.2]
  simp
theorem ev_cut (h : Ev T md te Γ me) (hl : EvP T tp Γ ml) (hh : EvP T tq Γ mh) (hm : md.fh = true := by rfl) : Ev T md (tSl (rSlAll T.K) te tp tq) Γ (oCut me ml mh) := fun Z F H σ ok d hd Q q => by
  obtain ⟨x, e1, hd⟩ := bind_inv hd
  obtain ⟨lo, e2, hd⟩ := bind_inv hd
  obtain ⟨hi, e3, hd⟩ := bind_inv hd
  refine h Z F H σ ok x e1 _ fun v F2 H2 g r => hl Z F2 H2 σ (ok.grow g) lo e2 _ fun F3 H3 g2 => hh Z F3 H3 σ ((ok.grow g).grow g2) hi e3 _ fun F4 H4 g3 => ?_
  have gg := (g.trans g2).trans g3
  have r := r.mono (sel_grow (g2.trans g3))
  have ei := sel_in' (Z := Z) hm g3.i
  cases x <;> simp only [dCut] at hd <;> try (cases hd; done)
  · split at hd
    · rename_i hz
      cases hd
      simp only [Rep] at r
      subst r
      exact .inr (.inr ⟨_, rfl, by rw [line_eq]; exact hz, q _ F4 H4 gg (by simp only [Rep])⟩)
    · cases hd
  · cases hd
    obtain ⟨p, vs, rfl, hp, rr⟩ := rep_lst_inv r
    refine .inl ⟨p, vs, rfl, SqL.of (ei _ _ hp), fun n hn => ?_⟩
    obtain ⟨F5, g5, e5⟩ := sel_new (Z := Z) hm g3.i hn (.lst (cutV vs lo hi))
    exact q _ F5 _ (gg.trans g5) (rep_lst e5 ((cutD_V rr lo hi).mono (sel_grow g5)))
  · cases hd
    obtain ⟨p, vs, rfl, hp, rr⟩ := rep_tup_inv r
    refine .inr (.inl ⟨p, vs, rfl, SqT.of (ei _ _ hp), fun hw => ?_, fun _ n hn => ?_⟩)
    · refine q _ F4 H4 gg (rep_tup hp ?_)
      have := cutD_V rr lo hi
      rw [cutV_whole hw] at this
      exact this
    · obtain ⟨F5, g5, e5⟩ := sel_new (Z := Z) hm g3.i hn (.tup (cutV vs lo hi))
      exact q _ F5 _ (gg.trans g5) (rep_tup e5 ((cutD_V rr lo hi).mono (sel_grow g5)))
theorem sl_all {X : Cx} : SlR X (rSlAll X.K) := sl_list.or (sl_tupA.or sl_str)
/-! calls of built-ins by values -/
/-- the answer needs nothing of the arguments -/
def ClS (T : Th) (r : List V → Hp → VK → Prop) (f : List D → Option D) : Prop := ∀ (H : Hp) (vs : List V) (ds : List D) (c : D), Reps T H ds vs → f ds = some c → ∀ Q : VK, (∀ v, (∀ G, Rep T G c v) → Q v H) → r vs H Q
/-- the answer is new, or a part of the arguments -/
def ClM (T : Th) (r : List V → Hp → VK → Prop) (f : List D → Option D) : Prop := ∀ (Z : Base) (md : Md) (F H : Hp) (vs : List V) (ds : List D) (c : D), md.fh = true → Ex F H → Reps T (sel Z md F H) ds vs → f ds = some c → ∀ Q : VK, (∀ v F2 H2, Grow F F2 H H2 → Rep T (sel Z md F2 H2) c v → Q v H2) → r vs H Q
/-- the answer is new; its parts are flat -/
def ClN (T : Th) (r : List V → Hp → VK → Prop) (f : List D → Option D) : Prop := ∀ (H : Hp) (vs : List V) (ds : List D) (c : D), Reps T H ds vs → f ds = some c → ∀ Q : VK, (∀ p o, H p = none → (∀ F, OwnC T F (upd H p o) p c) → Q (.ref p) (upd H p o)) → r vs H Q
theorem ev_clS {r : List V → Hp → VK → Prop} {f : List D → Option D} (hc : ClS T r f) (ha : EvL T .h tr Γ ms) : Ev T md (tCB r tr) Γ (o1 f ms) := fun Z F H σ ok d hd Q q => by
  obtain ⟨x, e1, e2⟩ := o1_inv hd
  refine ha Z F H σ ok x e1 _ fun vs F2 H2 g r => hc H2 vs x d r e2 Q fun v hv => q v F2 H2 g (hv _)
theorem ev_clM {r : List V → Hp → VK → Prop} {f : List D → Option D} (hc : ClM T r f) (ha : EvL T md tr Γ ms) (hm : md.fh = true := by rfl) : Ev T md (tCB r tr) Γ (o1 f ms) := fun Z F H σ ok d hd Q q => by
  obtain ⟨x, e1, e2⟩ := o1_inv hd
  refine ha Z F H σ ok x e1 _ fun vs F2 H2 g r => hc Z md F2 H2 vs x d hm g.i r e2 Q fun v F3 H3 g2 hv => q v F3 H3 (g.trans g2) hv
theorem evo_clN {r : List V → Hp → VK → Prop} {f : List D → Option D} (hc : ClN T r f) (ha : EvL T .h tr Γ ms) : EvO T (tCB r tr) Γ (o1 f ms) := fun Z F H σ ok d hd Q q => by
  obtain ⟨x, e1, e2⟩ := o1_inv hd
  refine ha Z F H σ ok x e1 _ fun vs F2 H2 g r => hc H2 vs x d r e2 Q fun p o hp ho => ?_
  exact q p F2 _ (g.trans (Grow.lay g.i hp o)) (none_of_ex g.h hp) (none_of_ex g.i hp) (ho _)
theorem reps1 {H : Hp} {d : D} {vs : List V} (r : Reps T H [d] vs) : ∃ v, vs = [v] ∧ Rep T H d v := by
  obtain ⟨v, r', rfl, s, t⟩ := r.uncons
  simp only [Reps] at t; subst t
  exact ⟨v, rfl, s⟩
theorem reps2 {H : Hp} {d e : D} {vs : List V} (r : Reps T H [d, e] vs) : ∃ v w, vs = [v, w] ∧ Rep T H d v ∧ Rep T H e w := by
  obtain ⟨v, r', rfl, s, t⟩ := r.uncons
  obtain ⟨w, rfl, t'⟩ := reps1 t
  exact ⟨v, w, rfl, s, t'⟩
/-- a function of one argument, of two -/
def f1 {α : Type} (f : D → Option α) : List D → Option α
  | [d] => f d
  | _ => none
def f2 {α : Type} (f : D → D → Option α) : List D → Option α
  | [d, e] => f d e
  | _ => none
@[simp] theorem f1_one {α : Type} (f : D → Option α) (d : D) : f1 f [d] = f d := id rfl
@[simp] theorem f2_two {α : Type} (f : D → D → Option α) (d e : D) : f2 f [d, e] = f d e := id rfl
theorem f1_inv {α : Type} {f : D → Option α} {ds : List D} {c : α} (h : f1 f ds = some c) : ∃ d, ds = [d] ∧ f d = some c := by
  unfold f1 at h
  split at h
  · exact ⟨_, rfl, h⟩
  · cases h
theorem f2_inv {α : Type} {f : D → D → Option α} {ds : List D} {c : α} (h : f2 f ds = some c) : ∃ d e, ds = [d, e] ∧ f d e = some c := by
  unfold f2 at h
  split at h
  · exact ⟨_, _, rfl, h⟩
  · cases h
def rLen (K : PySem.W.Frag) : List V → Hp → VK → Prop := fun xs H Q => (∃ x n, xs = [x] ∧ LenV K x H n ∧ Q (.int n) H) ∨ ∃ d kvs, xs = [.ref d] ∧ Rd H d (.dK kvs) ∧ Q (.int kvs.length) H
theorem cl_len {X : Cx} : CallR X (.builtin "len") (rLen X.K) := fun pins s σ H xs us Q I r h => by
  rcases h with h | ⟨d, kvs, rfl, hd, q⟩
  · exact call_len pins s σ H xs us Q I r h
  · obtain ⟨u, rfl, ru⟩ := vals1 r
    cases (show u = Value.ref d from ru)
    exact d_len I hd fun t s' I' => ⟨.int kvs.length, H, I', ⟨t, rfl⟩, q⟩
theorem cS_len : ClS T (rLen T.K) (f1 dLen) := fun H vs ds c r h Q q => by
  obtain ⟨d, e0, hd⟩ := f1_inv h
  subst e0
  obtain ⟨v, e0, rv⟩ := reps1 r
  subst e0
  clear r
  cases d <;> simp only [dLen] at hd <;> try (cases hd; done)
  · split at hd
    · rename_i hl
      cases hd
      simp only [Rep] at rv; subst rv
      exact .inl ⟨_, _, rfl, ⟨by rw [line_eq]; exact hl, rfl⟩, q _ fun G => by simp only [Rep]⟩
    · cases hd
  · cases hd
    obtain ⟨p, vs, rfl, hp, rr⟩ := rep_lst_inv rv
    exact .inl ⟨_, _, rfl, .inl ⟨vs, SqL.of hp, rfl⟩, q _ fun G => by simp only [Rep, rr.len]⟩
  · cases hd
    obtain ⟨p, vs, rfl, hp, rr⟩ := rep_tup_inv rv
    exact .inl ⟨_, _, rfl, .inr ⟨vs, SqT.of hp, rfl⟩, q _ fun G => by simp only [Rep, rr.len]⟩
  · cases hd
    simp only [Rep] at rv
    obtain ⟨p, vs, rfl, hp, l, rr⟩ := rv
    refine .inr ⟨p, _, rfl, .inl hp, ?_⟩
    rw [List.length_zip, l, Nat.min_self, ← rr.len]
    exact q _ fun G => by simp only [Rep]
  · cases hd
    simp only [Rep] at rv
    obtain ⟨p, rfl, hp⟩ := rv
    exact .inl ⟨_, _, rfl, .inl ⟨_, hp, rfl⟩, q _ fun G => by simp [Rep]⟩
def dInt : D → Option D
  | .int i => some (.int i)
  | .bl b => some (.int (if b then 1 else 0))
  | _ => none
def rInt : List V → Hp → VK → Prop := fun xs H Q => (∃ i, xs = [.int i] ∧ Q (.int i) H) ∨ ∃ k, xs = [.bl k] ∧ Q (.int (if k then 1 else 0)) H
theorem cS_int : ClS T rInt (f1 dInt) := fun H vs ds c r h Q q => by
  obtain ⟨d, e0, hd⟩ := f1_inv h
  subst e0
  obtain ⟨v, e0, rv⟩ := reps1 r
  subst e0
  clear r
  cases d <;> simp only [dInt] at hd <;> try (cases hd; done)
  · cases hd
    simp only [Rep] at rv; subst rv
    exact .inr ⟨_, rfl, q _ fun G => by simp only [Rep]⟩
  · cases hd
    simp only [Rep] at rv; subst rv
    exact .inl ⟨_, rfl, q _ fun G => by simp only [Rep]⟩
/-- all are asInts -/
def asInts : List D → Option (List Int)
  | [] => some []
  | .int i :: ds => (asInts ds).map fun r => i :: r
  | _ :: _ => none
theorem asInts_inv : ∀ {ds : List D} {ns : List Int}, asInts ds = some ns → ds = ns.map D.int
  | [], ns, h => by cases h; rfl
  | d :: ds, ns, h => by
    cases d <;> simp only [asInts] at h <;> try (cases h; done)
    obtain ⟨r, hr, rfl⟩ := Option.map_eq_some_iff.mp h
    rw [asInts_inv hr]; rfl
@[simp] theorem asInts_map : ∀ ns : List Int, asInts (ns.map D.int) = some ns
  | [] => rfl
  | n :: ns => by simp [asInts, asInts_map ns]
def dInts : D → Option (List Int)
  | .lst ds => asInts ds
  | .tup ds => asInts ds
  | _ => none
/-- a list of asInts, as the layer reads it; a tuple of them is served where the rule says so -/
theorem dInts_V {H : Hp} {d : D} {v : V} {ns : List Int} (r : Rep T H d v) (h : dInts d = some ns) : ∃ p, v = .ref p ∧ (SqL T.K H p (ns.map V.int) ∨ SqT T.K H p (ns.map V.int)) := by
  cases d <;> simp only [dInts] at h <;> try (cases h; done)
  · obtain ⟨p, vs, rfl, hp, rr⟩ := rep_lst_inv r
    rw [asInts_inv h] at rr
    rw [rr.ints] at hp
    exact ⟨p, rfl, .inl (SqL.of hp)⟩
  · obtain ⟨p, vs, rfl, hp, rr⟩ := rep_tup_inv r
    rw [asInts_inv h] at rr
    rw [rr.ints] at hp
    exact ⟨p, rfl, .inr (SqT.of hp)⟩
end
end Mi
/-! sorted, sum of a tuple -/
namespace SrtO
open PySem PyProof.Rows Srt
section
variable {prog : Program} {w : World} {A : Around} {E : Value → Shared → Prop} {s : Shared}
theorem mi_collect_tuple {l : Addr} {vs : List Value} {Q : List Value → Shared → Prop} (hl : s.heap.IsTuple l vs.toArray)
    (h : Q vs { s with heap := (s.heap.push (seqObj "list" #[] 0)).update s.heap.objs.size (Obj.mapSeq (· ++ vs.toArray)) }) (hsz : vs.length ≤ sizeLine) :
    wpAny (model prog w) A (collect (.ref l)) Q E s := by
  obtain ⟨o, ho, hc, n, hd⟩ := id hl
  unfold collect
  refine wpAny_bind (wpAny_runValue (codeAny_builtin entry_proto_collect' ?_))
  show wpAny _ _ (do again (.builtin "list.__iadd__" ⟨[← newList [], .ref l], []⟩)) _ _ s
  refine wpAny_bind (wpAny_newList (wpAny_pure ⟨Code.quiet_builtin _ (by decide +kernel), codeAny_builtin entry_list_iadd' ?_⟩))
  show wpAny _ _ (Builtin.List.listExtendWith (.ref s.heap.objs.size) (.ref l) (.ref s.heap.objs.size)) _ _ { s with heap := s.heap.push (seqObj "list" #[] 0) }
  unfold Builtin.List.listExtendWith
  have ho' : (s.heap.push (seqObj "list" #[] 0)).get? l = some o := Heap.get?_push_of_some _ ho
  refine wpAny_bind (wpAny_typeOf (T := "tuple") ⟨o, ho', hc⟩ ?_)
  have ht : (Value.type "tuple" == Value.type "tuple") = true := by rfl
  rw [if_pos (by rw [ht]; simp)]
  refine wpAny_bind (listItems_at ho' hd ?_)
  refine wpAny_bind (listItems_at (xs := #[]) (n := 0) (Heap.get?_push_size _ rfl) rfl ?_)
  rw [if_neg (by simp)]
  refine wpAny_bind (listUpdate_at (xs := #[]) (n := 0) (Heap.get?_push_size _ rfl) rfl ?_ (Nat.zero_le _) (by show (#[] ++ vs.toArray).size ≤ sizeLine + 1; simp only [Array.size_append, List.size_toArray, List.length_nil]; omega))
  refine wpAny_pure ?_
  show wpAny (model prog w) A (do
      let o ← load s.heap.objs.size
      match o.data with
      | .seq xs _ => pure xs.toList
      | _ => unsupported "internal:collect") Q E { s with heap := (s.heap.push (seqObj "list" #[] 0)).update s.heap.objs.size (Obj.mapSeq (· ++ vs.toArray)) }
  refine wpAny_bind (wpAny_load (get?_update_seq (Heap.get?_push_size _ rfl) _) ?_)
  show wpAny _ _ (pure ((#[] : Array Value) ++ vs.toArray).toList) Q E _
  rw [show ((#[] : Array Value) ++ vs.toArray).toList = vs by simp]
  exact wpAny_pure h
theorem mi_sorted_tuple {l : Addr} {vs : List Value} {ltv : Value → Value → Bool} {Q : Value → Shared → Prop} (O : Swo ltv) (hl : s.heap.IsTuple l vs.toArray) (hz : vs.length ≤ sizeLine)
    (hS : 2 ≤ vs.length → ∀ (h₁ : Heap) (a : Addr), h₁.get? a = some (seqObj "list" vs.toArray 0) → (∀ b o, s.heap.get? b = some o → b ≠ a ∧ h₁.get? b = some o) → SortableO prog w A.in1.in1 { s with heap := h₁ } a vs ltv)
    (h : ∀ out : List Value, Srtd ltv out → Stb ltv out vs → Q (.ref (s.heap.objs.size + 1)) { s with heap := sortedAll s.heap vs out.toArray }) :
    wpAny (model prog w) A (call (.builtin "sorted") [.ref l]) Q E s := by
  refine Calls.call_function_entry kind_sorted plain_sorted entry_sorted (args_sorted1 _) ?_
  unfold Builtin.«sorted»
  refine wpAny_bind (m := checkCount "sorted" 1 1 _) (wpAny_pure ?_)
  refine wpAny_bind (mi_collect_tuple hl ?_ hz)
  refine wpAny_bind (wpAny_newList ?_ hz)
  have hsz : ((s.heap.push (seqObj "list" #[] 0)).update s.heap.objs.size (Obj.mapSeq (· ++ vs.toArray))).objs.size = s.heap.objs.size + 1 := by
    rw [Heap.size_update, size_push']
  have hoL : (((s.heap.push (seqObj "list" #[] 0)).update s.heap.objs.size (Obj.mapSeq (· ++ vs.toArray))).push (seqObj "list" vs.toArray 0)).get? (s.heap.objs.size + 1) = some (seqObj "list" vs.toArray 0) := by
    rw [← hsz]; exact Heap.get?_push_size _ rfl
  have keep : ∀ b o, s.heap.get? b = some o → b ≠ s.heap.objs.size + 1 ∧ (((s.heap.push (seqObj "list" #[] 0)).update s.heap.objs.size (Obj.mapSeq (· ++ vs.toArray))).push (seqObj "list" vs.toArray 0)).get? b = some o := fun b o q => by
    have hlt : b < s.heap.objs.size := Heap.lt_size q
    refine ⟨Nat.ne_of_lt (Nat.lt_succ_of_lt hlt), Heap.get?_push_of_some _ ?_⟩
    rw [Heap.get?_update_ne _ _ _ _ (Nat.ne_of_lt hlt)]
    exact Heap.get?_push_of_some _ q
  show wpAny _ _ _ _ _ { s with heap := ((s.heap.push (seqObj "list" #[] 0)).update s.heap.objs.size (Obj.mapSeq (· ++ vs.toArray))).push (seqObj "list" vs.toArray 0) }
  rw [hsz]
  refine wpAny_bind (wpAny_holding (wpAny_call_entry slot_list_sort ⟨_, hoL, rfl⟩ entry_list_sort (list_sort_ord O hoL hz (fun h2 => hS h2 _ _ hoL keep) fun out hs hb => ⟨_, rfl, ?_⟩) (args_list_sort _)))
  exact wpAny_pure ⟨_, rfl, h out hs hb⟩
end
end SrtO
namespace PySem
open PyProof.Rows
section
variable {prog : Program} {w : World} {A : Around} {E : Value → Shared → Prop} {s : Shared} {l : Addr} {xs : Array (Int × Tok)}
theorem mi_sum_tuple {Q : Value → Shared → Prop} (hh : A.handled = none) (hl : s.heap.IsTuple l (intItems xs))
    (h : ∀ h' tk t', (∀ b o, s.heap.get? b = some o → h'.get? b = some o) → Q (.int (preSum (numAt xs) xs.size) t') { s with heap := h', toks := tk }) :
    wpAny (model prog w) A (call (.builtin "sum") [.ref l]) Q E s := by
  have hlt : l < s.heap.objs.size := by obtain ⟨_, e, _⟩ := hl; exact Heap.lt_size e
  refine call_sum_walkG (wpAny_pyIter_tuple hl ?_)
  have kp : ∀ b o, s.heap.get? b = some o → (s.heap.push { cls := .type "tuple_iterator", data := .fields #[.ref l, .int 0 0] }).get? b = some o := fun b o e => Heap.get?_push_of_some _ e
  refine ⟨_, _, _, _, _, _, numAt xs, rfl, Walks.tuple (A := A.in1) hh s.heap.objs.size l (Nat.ne_of_lt hlt) (intItems xs), ⟨⟨_, Heap.get?_push_size _ rfl, rfl, rfl⟩, hl.at (fun o e => kp l o e)⟩, ?_, (fun _ _ => intItems_at), fun h' tk t' hk => ?_⟩
  · intro b hb
    show b < (s.heap.push _).objs.size
    rw [Heap.size_push]
    rcases List.mem_cons.mp hb with rfl | hb
    · exact Nat.lt_succ_self _
    · rcases List.mem_cons.mp hb with rfl | hb
      · exact Nat.lt_succ_of_lt hlt
      · cases hb
  · have := h h' tk t' (fun b o e => hk b o (by
      intro hm
      rcases List.mem_cons.mp hm with rfl | hm
      · exact absurd (Heap.lt_size e) (Nat.lt_irrefl _)
      · cases hm) (kp b o e))
    simpa [intItems] using this
end
end PySem
/-! built-ins by values, isinstance, stores -/
namespace Mi
open PySem L2
open PyProof.Rows
open Evl (Ex ex_t ex_l ex_rd fresh_back)
/-! ### ints in order -/
def insI (n : Int) : List Int → List Int
  | [] => [n]
  | m :: ms => if n ≤ m then n :: m :: ms else m :: insI n ms
def sortI : List Int → List Int
  | [] => []
  | n :: ns => insI n (sortI ns)
theorem insI_perm (n : Int) : ∀ ms : List Int, (insI n ms).Perm (n :: ms)
  | [] => .refl _
  | m :: ms => by
    unfold insI
    split
    · exact .refl _
    · exact ((insI_perm n ms).cons m).trans (.swap n m ms)
theorem sortI_perm : ∀ ns : List Int, (sortI ns).Perm ns
  | [] => .refl _
  | n :: ns => (insI_perm n _).trans ((sortI_perm ns).cons n)
theorem insI_up (n : Int) : ∀ {ms : List Int}, ms.Pairwise (· ≤ ·) → (insI n ms).Pairwise (· ≤ ·)
  | [], _ => by simp [insI]
  | m :: ms, h => by
    unfold insI
    have h' := List.pairwise_cons.mp h
    split
    · rename_i hn
      refine List.pairwise_cons.mpr ⟨fun x hx => ?_, h⟩
      rcases List.mem_cons.mp hx with rfl | hx
      · exact hn
      · exact Int.le_trans hn (h'.1 x hx)
    · rename_i hn
      refine List.pairwise_cons.mpr ⟨fun x hx => ?_, insI_up n h'.2⟩
      rcases List.mem_cons.mp ((insI_perm n ms).mem_iff.mp hx) with rfl | hx
      · omega
      · exact h'.1 x hx
theorem sortI_up : ∀ ns : List Int, (sortI ns).Pairwise (· ≤ ·)
  | [] => .nil
  | n :: ns => insI_up n (sortI_up ns)
theorem sortI_of {a b : List Int} (hp : a.Perm b) (ha : a.Pairwise (· ≤ ·)) : a = sortI b := PySem.W.ksm_same (hp.trans (sortI_perm b).symm) ha (sortI_up b)
def intKeys : List Key → Option (List Int)
  | [] => some []
  | .inl i :: ks => (intKeys ks).map fun r => i :: r
  | .inr _ :: _ => none
theorem intKeys_inv : ∀ {ks : List Key} {ns : List Int}, intKeys ks = some ns → ks = ns.map Sum.inl
  | [], ns, h => by cases h; rfl
  | .inl i :: ks, ns, h => by
    simp only [intKeys] at h
    obtain ⟨r, hr, rfl⟩ := Option.map_eq_some_iff.mp h
    rw [intKeys_inv hr]; rfl
  | .inr _ :: _, ns, h => by simp [intKeys] at h
def dSorted : D → Option D
  | .dic ks _ => (intKeys ks).bind fun ns => if ns.length < 64 then some (.lst ((sortI ns).map D.int)) else none
  | d => (dInts d).map fun ns => .lst ((sortI ns).map D.int)
def rSortedT (K : PySem.W.Frag) : List V → Hp → VK → Prop := fun vs H Q => ∃ (a : Addr) (ns : List Int), vs = [V.ref a] ∧ SqT K H a (ns.map V.int) ∧
  ∀ (ns' : List Int) (p : Addr), ns'.Perm ns → ns'.Pairwise (· ≤ ·) → H p = none → Q (.ref p) (upd H p (.lst (ns'.map V.int)))
def rSortedDI : List V → Hp → VK → Prop := fun xs H Q => ∃ (a : Addr) (kvs : List (Key × V)) (ks : List Int), xs = [.ref a] ∧ Rd H a (.dK kvs) ∧ kvs.map (·.1) = ks.map Sum.inl ∧ ks.length < 64 ∧
    ∀ (ys : List Int) (p : Addr), ys.Perm ks → ys.Pairwise (· ≤ ·) → H p = none → Q (.ref p) (upd H p (.lst (ys.map V.int)))
def rSortedA (K : PySem.W.Frag) : List V → Hp → VK → Prop := fun xs H Q => rSortedI K xs H Q ∨ rSortedT K xs H Q ∨ rSortedDI xs H Q
def rSumT (K : PySem.W.Frag) : List V → Hp → VK → Prop := fun vs H Q => ∃ (a : Addr) (ns : List Int), vs = [V.ref a] ∧ SqT K H a (ns.map V.int) ∧ Q (.int ns.sum) H
def rSumA (K : PySem.W.Frag) : List V → Hp → VK → Prop := fun xs H Q => rSum K xs H Q ∨ rSumT K xs H Q
section
variable {X : Cx}
theorem cr_sortedT2 : CallR X (.builtin "sorted") (rSortedT X.K) := by
  intro pins s σ H vs us Q I r h
  obtain ⟨a, ns, rfl, hs, q⟩ := h
  obtain ⟨its, rv, hl, hz⟩ := I.tuple hs
  rw [Vals.ref1 r]
  have hi := rv.ints
  refine SrtO.mi_sorted_tuple SrtO.swo_int (show s.heap.IsTuple a its.toArray from hl) (by rw [← rv.length]; exact hz) (fun h2 h₁ a' _ _ => SrtO.ints_sortable hi h2) fun out h1 h2 => ?_
  obtain ⟨k1, k2, k3⟩ := SrtO.ints_out hi h1 h2
  obtain ⟨ep, he'⟩ := PyProof.Rows.sortedAll_at s.heap its out.toArray
  have hlen : ((out.map SrtO.iv).map V.int).length ≤ sizeLine := by
    rw [List.length_map, k2.length_eq]
    rw [List.length_map] at hz
    exact hz
  exact ⟨.ref _, upd H (s.heap.objs.size + 1) (.lst ((out.map SrtO.iv).map V.int)), I.laid (t' := s.toks) (fun _ _ => PyProof.Rows.sortedAll_old) (Nat.le_succ _) ⟨hlen, out, ep, vals_of_ints k1, he'⟩, rfl, q _ _ k2 k3 (I.hok.fresh (Nat.le_succ _))⟩
theorem cl_sorted (hc : X.calm = true) : CallR X (.builtin "sorted") (rSortedA X.K) := cr_sortedI.or (cr_sortedT2.or (call_sortedDI hc))
theorem cr_sumT (hc : X.calm = true) : CallR X (.builtin "sum") (rSumT X.K) := by
  intro pins s σ H vs us Q I r h
  obtain ⟨a, ns, rfl, hs, q⟩ := h
  obtain ⟨its, rv, hl, hz⟩ := I.tuple hs
  rw [Vals.ref1 r]
  have hi := rv.ints
  obtain ⟨xs, e⟩ := hi.allInts.items
  have hn : numsOf (intItems xs).toList = ns := by rw [← e]; exact hi.numsOf
  rw [nums_intItems] at hn
  have hl' : s.heap.IsTuple a (intItems xs) := by rw [← e]; exact hl
  refine PySem.mi_sum_tuple (I.ok.hd hc) hl' fun h' tk t' hk => ?_
  rw [preSum_eq, List.take_of_length_le (by simp), hn]
  exact ⟨.int ns.sum, H, I.kept hk, ⟨_, rfl⟩, q⟩
theorem cl_sum (hc : X.calm = true) : CallR X (.builtin "sum") (rSumA X.K) := (cr_sum hc).or (cr_sumT hc)
end
section
variable {T : Th} {Γ : Ctx} {md : Md} {te ta tb : TE} {tr : TA} {me ma mb : Option D} {ms : Option (List D)}
theorem ownN {p : Addr} {H : Hp} (ns : List Int) : ∀ F, OwnC T F (upd H p (.lst (ns.map V.int))) p (.lst (ns.map D.int)) := fun F => by
  simp only [OwnC]
  exact ⟨_, upd_same, Reps.of_ints ns⟩
theorem cN_sorted : ClN T (rSortedA T.K) (f1 dSorted) := fun H vs ds c r h Q q => by
  obtain ⟨d, e0, hd⟩ := f1_inv h
  subst e0
  obtain ⟨v, e0, rv⟩ := reps1 r
  subst e0
  have go : ∀ {ns : List Int}, dInts d = some ns → c = .lst ((sortI ns).map D.int) → rSortedA T.K [v] H Q := fun {ns} h1 h2 => by
    subst h2
    obtain ⟨p, rfl, hp⟩ := dInts_V rv h1
    rcases hp with hp | hp
    · exact .inl ⟨p, ns, rfl, hp, fun ns' p' a b z => by rw [sortI_of a b]; exact q p' _ z (ownN _)⟩
    · exact .inr (.inl ⟨p, ns, rfl, hp, fun ns' p' a b z => by rw [sortI_of a b]; exact q p' _ z (ownN _)⟩)
  have hd' : (∃ ks ds, d = .dic ks ds) ∨ (dInts d).map (fun ns => D.lst ((sortI ns).map D.int)) = some c := by
    cases d <;> first | exact .inl ⟨_, _, rfl⟩ | exact .inr hd
  rcases hd' with ⟨ks, ds, rfl⟩ | hd'
  · simp only [dSorted] at hd
    obtain ⟨ns, e1, e2⟩ := bind_inv hd
    split at e2
    · rename_i hl
      cases e2
      simp only [Rep] at rv
      obtain ⟨p, vs, rfl, hp, l, rr⟩ := rv
      refine .inr (.inr ⟨p, _, ns, rfl, .inl hp, ?_, hl, fun ys p' a b z => by rw [sortI_of a b]; exact q p' _ z (ownN _)⟩)
      rw [List.map_fst_zip (by omega)]
      exact intKeys_inv e1
    · cases e2
  · obtain ⟨ns, e1, e2⟩ := Option.map_eq_some_iff.mp hd'
    exact go e1 e2.symm
def dSum (d : D) : Option D := (dInts d).map fun ns => .int ns.sum
theorem cS_sum : ClS T (rSumA T.K) (f1 dSum) := fun H vs ds c r h Q q => by
  obtain ⟨d, e0, hd⟩ := f1_inv h
  subst e0
  obtain ⟨v, e0, rv⟩ := reps1 r
  subst e0
  obtain ⟨ns, e1, rfl⟩ := Option.map_eq_some_iff.mp (show (dInts d).map _ = some c from hd)
  obtain ⟨p, rfl, hp⟩ := dInts_V rv e1
  rcases hp with hp | hp
  · exact .inl ⟨p, ns, rfl, hp, q _ fun G => by simp only [Rep]⟩
  · exact .inr ⟨p, ns, rfl, hp, q _ fun G => by simp only [Rep]⟩
def dMax2 : D → D → Option D
  | .int i, .int j => some (.int (if j > i then j else i))
  | _, _ => none
def dMin2 : D → D → Option D
  | .int i, .int j => some (.int (if j < i then j else i))
  | _, _ => none
def rMax2 : List V → Hp → VK → Prop := fun xs H Q => ∃ i j, xs = [.int i, .int j] ∧ Q (.int (if j > i then j else i)) H
def rMin2 : List V → Hp → VK → Prop := fun xs H Q => ∃ i j, xs = [.int i, .int j] ∧ Q (.int (if j < i then j else i)) H
theorem cS_max2 : ClS T rMax2 (f2 dMax2) := fun H vs ds c r h Q q => by
  obtain ⟨d, e, e0, hd⟩ := f2_inv h
  subst e0
  obtain ⟨v, w, e0, rv, rw'⟩ := reps2 r
  subst e0
  clear r h
  cases d <;> cases e <;> simp only [dMax2] at hd <;> try (cases hd; done)
  cases hd
  simp only [Rep] at rv rw'
  subst rv rw'
  exact ⟨_, _, rfl, q _ fun G => by simp only [Rep]⟩
theorem cS_min2 : ClS T rMin2 (f2 dMin2) := fun H vs ds c r h Q q => by
  obtain ⟨d, e, e0, hd⟩ := f2_inv h
  subst e0
  obtain ⟨v, w, e0, rv, rw'⟩ := reps2 r
  subst e0
  clear r h
  cases d <;> cases e <;> simp only [dMin2] at hd <;> try (cases hd; done)
  cases hd
  simp only [Rep] at rv rw'
  subst rv rw'
  exact ⟨_, _, rfl, q _ fun G => by simp only [Rep]⟩
/-- the least, the greatest of a list of ints -/
def leastI : Int → List Int → Int
  | m, [] => m
  | m, n :: ns => leastI (if n < m then n else m) ns
def mostI : Int → List Int → Int
  | m, [] => m
  | m, n :: ns => mostI (if m < n then n else m) ns
theorem leastI_le : ∀ (ns : List Int) (m : Int), leastI m ns ≤ m ∧ (∀ n ∈ ns, leastI m ns ≤ n) ∧ (leastI m ns = m ∨ leastI m ns ∈ ns)
  | [], m => ⟨Int.le_refl _, by simp, .inl rfl⟩
  | n :: ns, m => by
    obtain ⟨a, b, c⟩ := leastI_le ns (if n < m then n else m)
    unfold leastI
    refine ⟨?_, ?_, ?_⟩
    · split at a <;> rename_i h <;> simp only [h, if_true, if_false] <;> omega
    · intro x hx
      rcases List.mem_cons.mp hx with rfl | hx
      · split at a <;> rename_i h <;> simp only [h, if_true, if_false] <;> omega
      · exact b x hx
    · rcases c with c | c
      · split at c <;> rename_i h <;> simp only [h, if_true, if_false]
        · exact .inr (by rw [c]; exact List.mem_cons_self ..)
        · exact .inl c
      · exact .inr (List.mem_cons_of_mem _ c)
theorem mostI_ge : ∀ (ns : List Int) (m : Int), m ≤ mostI m ns ∧ (∀ n ∈ ns, n ≤ mostI m ns) ∧ (mostI m ns = m ∨ mostI m ns ∈ ns)
  | [], m => ⟨Int.le_refl _, by simp, .inl rfl⟩
  | n :: ns, m => by
    obtain ⟨a, b, c⟩ := mostI_ge ns (if m < n then n else m)
    unfold mostI
    refine ⟨?_, ?_, ?_⟩
    · split at a <;> rename_i h <;> simp only [h, if_true, if_false] <;> omega
    · intro x hx
      rcases List.mem_cons.mp hx with rfl | hx
      · split at a <;> rename_i h <;> simp only [h, if_true, if_false] <;> omega
      · exact b x hx
    · rcases c with c | c
      · split at c <;> rename_i h <;> simp only [h, if_true, if_false]
        · exact .inr (by rw [c]; exact List.mem_cons_self ..)
        · exact .inl c
      · exact .inr (List.mem_cons_of_mem _ c)
def dMinL : D → Option D
  | .lst ds => (asInts ds).bind fun ns => match ns with | [] => none | n :: ns => some (.int (leastI n ns))
  | _ => none
def dMaxL : D → Option D
  | .lst ds => (asInts ds).bind fun ns => match ns with | [] => none | n :: ns => some (.int (mostI n ns))
  | _ => none
theorem cS_min : ClS T (rMin T.K) (f1 dMinL) := fun H vs ds c r h Q q => by
  obtain ⟨d, e0, hd⟩ := f1_inv h
  subst e0
  obtain ⟨v, e0, rv⟩ := reps1 r
  subst e0
  clear r h
  cases d <;> simp only [dMinL] at hd <;> try (cases hd; done)
  obtain ⟨ns, e1, e2⟩ := bind_inv hd
  cases ns with
  | nil => cases e2
  | cons n ns =>
    cases e2
    obtain ⟨p, vs, rfl, hp, rr⟩ := rep_lst_inv rv
    rw [asInts_inv e1] at rr
    rw [rr.ints] at hp
    refine ⟨p, n :: ns, rfl, SqL.of hp, by simp, fun m hm hle => ?_⟩
    obtain ⟨a, b, c⟩ := leastI_le ns n
    have e : m = leastI n ns := by
      have h1 : m ≤ leastI n ns := by
        rcases c with c | c
        · rw [c]; exact hle n (List.mem_cons_self ..)
        · exact hle _ (List.mem_cons_of_mem _ c)
      have h2 : leastI n ns ≤ m := by
        rcases List.mem_cons.mp hm with rfl | hm
        · exact a
        · exact b m hm
      omega
    rw [e]
    exact q _ fun G => by simp only [Rep]
theorem cS_max : ClS T (rMax T.K) (f1 dMaxL) := fun H vs ds c r h Q q => by
  obtain ⟨d, e0, hd⟩ := f1_inv h
  subst e0
  obtain ⟨v, e0, rv⟩ := reps1 r
  subst e0
  clear r h
  cases d <;> simp only [dMaxL] at hd <;> try (cases hd; done)
  obtain ⟨ns, e1, e2⟩ := bind_inv hd
  cases ns with
  | nil => cases e2
  | cons n ns =>
    cases e2
    obtain ⟨p, vs, rfl, hp, rr⟩ := rep_lst_inv rv
    rw [asInts_inv e1] at rr
    rw [rr.ints] at hp
    refine ⟨p, n :: ns, rfl, SqL.of hp, by simp, fun m hm hle => ?_⟩
    obtain ⟨a, b, c⟩ := mostI_ge ns n
    have e : m = mostI n ns := by
      have h1 : mostI n ns ≤ m := by
        rcases c with c | c
        · rw [c]; exact hle n (List.mem_cons_self ..)
        · exact hle _ (List.mem_cons_of_mem _ c)
      have h2 : m ≤ mostI n ns := by
        rcases List.mem_cons.mp hm with rfl | hm
        · exact a
        · exact b m hm
      omega
    rw [e]
    exact q _ fun G => by simp only [Rep]
def dAbs : D → Option D
  | .int i => some (.int (if i < 0 then -i else i))
  | _ => none
def rAbs : List V → Hp → VK → Prop := fun xs H Q => ∃ i, xs = [.int i] ∧ Q (.int (if i < 0 then -i else i)) H
theorem cS_abs : ClS T rAbs (f1 dAbs) := fun H vs ds c r h Q q => by
  obtain ⟨d, e0, hd⟩ := f1_inv h
  subst e0
  obtain ⟨v, e0, rv⟩ := reps1 r
  subst e0
  clear r h
  cases d <;> simp only [dAbs] at hd <;> try (cases hd; done)
  cases hd
  simp only [Rep] at rv; subst rv
  exact ⟨_, rfl, q _ fun G => by simp only [Rep]⟩
/-! tuple(v), list(v) -/
def dTuple : D → Option D
  | .lst ds => some (.tup ds)
  | .tup ds => some (.tup ds)
  | _ => none
def dList : D → Option D
  | .lst ds => some (.lst ds)
  | .tup ds => some (.lst ds)
  | _ => none
/-- the same where the parts need not be held -/
def dListS : D → Option D
  | .lst ds => if ds.all flat = true then some (.lst ds) else none
  | .tup ds => if ds.all flat = true then some (.lst ds) else none
  | .scr ns => some (.lst (ns.map D.int))
  | _ => none
def rTupOf (K : PySem.W.Frag) : List V → Hp → VK → Prop := fun xs H Q => ∃ p ys, xs = [.ref p] ∧ ((SqL K H p ys ∧ ∀ l, H l = none → Q (.ref l) (upd H l (.tup ys))) ∨ (SqT K H p ys ∧ Q (.ref p) H))
def rLstOf (K : PySem.W.Frag) : List V → Hp → VK → Prop := fun xs H Q => ∃ p ys, xs = [.ref p] ∧ (SqL K H p ys ∨ SqT K H p ys) ∧ ∀ l, H l = none → Q (.ref l) (upd H l (.lst ys))
theorem cM_tuple : ClM T (rTupOf T.K) (f1 dTuple) := fun Z md F H vs ds c hm ex r h Q q => by
  obtain ⟨d, e0, hd⟩ := f1_inv h
  subst e0
  obtain ⟨v, e0, rv⟩ := reps1 r
  subst e0
  clear r h
  cases d <;> simp only [dTuple] at hd <;> try (cases hd; done)
  · cases hd
    obtain ⟨p, vs, rfl, hp, rr⟩ := rep_lst_inv rv
    refine ⟨p, vs, rfl, .inl ⟨SqL.of (sel_in' hm ex _ _ hp), fun n hn => ?_⟩⟩
    obtain ⟨F2, g, e2⟩ := sel_new (Z := Z) hm ex hn (.tup vs)
    exact q _ F2 _ g (rep_tup e2 (rr.mono (sel_grow g)))
  · cases hd
    obtain ⟨p, vs, rfl, hp, rr⟩ := rep_tup_inv rv
    exact ⟨p, vs, rfl, .inr ⟨SqT.of (sel_in' hm ex _ _ hp), q _ F H (Grow.refl ex) rv⟩⟩
/-- tuple(v) of flat things -/
def dTupleS : D → Option D
  | .lst ds => if ds.all flat = true then some (.tup ds) else none
  | _ => none
theorem flat_reps {H G : Hp} : ∀ {ds : List D} {vs : List V}, ds.all flat = true → Reps T H ds vs → Reps T G ds vs
  | [], vs, h, r => by simp only [Reps] at r; subst r; exact Reps.nil
  | d :: ds, vs, h, r => by
    obtain ⟨v, r', rfl, s, t⟩ := r.uncons
    simp only [List.all_cons, Bool.and_eq_true] at h
    exact Reps.cons (flat_rep h.1 s) (flat_reps h.2 t)
theorem ev_tupleS (ha : Ev T .h ta Γ ma) (hm : md.fh = true := by rfl) : Ev T md (tCB (rTupOf T.K) (tCons ta tNil)) Γ (o1 dTupleS ma) := fun Z F H σ ok c hd Q q => by
  obtain ⟨x, e1, e2⟩ := o1_inv hd
  refine ha Z F H σ ok x e1 _ fun v F2 H2 g r => ?_
  cases x <;> simp only [dTupleS] at e2 <;> try (cases e2; done)
  split at e2
  · rename_i hf
    cases e2
    obtain ⟨p, vs, rfl, hp, rr⟩ := rep_lst_inv r
    refine ⟨p, vs, rfl, .inl ⟨SqL.of hp, fun n hn => ?_⟩⟩
    obtain ⟨F3, g3, e3⟩ := sel_new (Z := Z) hm g.i hn (.tup vs)
    exact q _ F3 _ (g.trans g3) (rep_tup e3 (flat_reps hf rr))
  · cases e2
theorem evo_list (ha : Ev T .f ta Γ ma) : EvO T (tCB (rLstOf T.K) (tCons ta tNil)) Γ (o1 dList ma) := fun Z F H σ ok c hd Q q => by
  obtain ⟨x, e1, e2⟩ := o1_inv hd
  refine ha Z F H σ ok x e1 _ fun v F2 H2 g r => ?_
  cases x <;> simp only [dList] at e2 <;> try (cases e2; done)
  all_goals
    cases e2
    first
      | (obtain ⟨p, vs, rfl, hp, rr⟩ := rep_lst_inv r
         refine ⟨p, vs, rfl, .inl (SqL.of (g.i _ _ hp)), fun n hn => ?_⟩
         exact q n F2 _ (g.trans (Grow.lay g.i hn _)) (none_of_ex g.h hn) (none_of_ex g.i hn) (by simp only [OwnC]; exact ⟨vs, upd_same, rr⟩))
      | (obtain ⟨p, vs, rfl, hp, rr⟩ := rep_tup_inv r
         refine ⟨p, vs, rfl, .inr (SqT.of (g.i _ _ hp)), fun n hn => ?_⟩
         exact q n F2 _ (g.trans (Grow.lay g.i hn _)) (none_of_ex g.h hn) (none_of_ex g.i hn) (by simp only [OwnC]; exact ⟨vs, upd_same, rr⟩))
theorem evo_listS (ha : Ev T .h ta Γ ma) : EvO T (tCB (rLstOf T.K) (tCons ta tNil)) Γ (o1 dListS ma) := fun Z F H σ ok c hd Q q => by
  obtain ⟨x, e1, e2⟩ := o1_inv hd
  refine ha Z F H σ ok x e1 _ fun v F2 H2 g r => ?_
  cases x <;> simp only [dListS] at e2 <;> try (cases e2; done)
  · split at e2
    · rename_i hf
      cases e2
      obtain ⟨p, vs, rfl, hp, rr⟩ := rep_lst_inv r
      refine ⟨p, vs, rfl, .inl (SqL.of hp), fun n hn => ?_⟩
      exact q n F2 _ (g.trans (Grow.lay g.i hn _)) (none_of_ex g.h hn) (none_of_ex g.i hn) (by simp only [OwnC]; exact ⟨vs, upd_same, flat_reps hf rr⟩)
    · cases e2
  · split at e2
    · rename_i hf
      cases e2
      obtain ⟨p, vs, rfl, hp, rr⟩ := rep_tup_inv r
      refine ⟨p, vs, rfl, .inr (SqT.of hp), fun n hn => ?_⟩
      exact q n F2 _ (g.trans (Grow.lay g.i hn _)) (none_of_ex g.h hn) (none_of_ex g.i hn) (by simp only [OwnC]; exact ⟨vs, upd_same, flat_reps hf rr⟩)
    · cases e2
  · cases e2
    simp only [Rep] at r
    obtain ⟨p, rfl, hp⟩ := r
    refine ⟨p, _, rfl, .inl hp, fun n hn => ?_⟩
    exact q n F2 _ (g.trans (Grow.lay g.i hn _)) (none_of_ex g.h hn) (none_of_ex g.i hn) (ownN _ _)
/-! tuple(range(..)), list(range(..)) -/
def EvR (T : Th) (te : L2.St → Hp → (Int → Int → Hp → Prop) → Prop) (Γ : Ctx) (m : Option (Int × Int)) : Prop := ∀ Z F H σ, Ok T Z Γ F H σ → ∀ c, m = some c → ∀ Q : Int → Int → Hp → Prop, (∀ F2 H2, Grow F F2 H H2 → Q c.1 c.2 H2) → te σ H Q
theorem evr_1 (h : Ev T .h ta Γ ma) : EvR T (tRg1 ta) Γ ((o1 dI ma).map fun n => (0, n)) := fun Z F H σ ok c hc Q q => by
  obtain ⟨n, hn, rfl⟩ := Option.map_eq_some_iff.mp hc
  obtain ⟨x, e1, e2⟩ := o1_inv hn
  cases x <;> simp only [dI] at e2 <;> try (cases e2; done)
  cases e2
  refine h Z F H σ ok _ e1 _ fun v F2 H2 g r => ?_
  simp only [Rep] at r
  exact ⟨_, r, q F2 H2 g⟩
theorem evr_2 (h : Ev T .h ta Γ ma) (h' : Ev T .h tb Γ mb) : EvR T (tRg2 ta tb) Γ (o2 (fun a b => some (a, b)) (o1 dI ma) (o1 dI mb)) := fun Z F H σ ok c hc Q q => by
  obtain ⟨i, j, hi, hj, e⟩ := o2_inv hc
  cases e
  obtain ⟨x, e1, e2⟩ := o1_inv hi
  obtain ⟨y, e3, e4⟩ := o1_inv hj
  cases x <;> simp only [dI] at e2 <;> try (cases e2; done)
  cases e2
  cases y <;> simp only [dI] at e4 <;> try (cases e4; done)
  cases e4
  refine h Z F H σ ok _ e1 _ fun v F2 H2 g r => h' Z F2 H2 σ (ok.grow g) _ e3 _ fun w F3 H3 g' r' => ?_
  simp only [Rep] at r r'
  exact ⟨_, _, r, r', q F3 H3 (g.trans g')⟩
end
end Mi
/-! isinstance, stores, comprehensions -/
namespace Mi
open PySem L2
open PyProof.Rows
open Evl (Ex ex_t ex_l ex_rd fresh_back)
section
variable {ω α β : Type} {T : Th} {Γ : Ctx} {md : Md} {te ta tb : TE} {tt : TT} {tr : TA} {me ma mb : Option D} {ms : Option (List D)} {P : Base → Ends → ω → Prop} {i j : Nat} {wi : TI} {g : TG}
def dRg (c : Int × Int) : Option (List D) := if (-(2 ^ 62) ≤ c.1 ∧ c.1 < 2 ^ 62) ∧ (-(2 ^ 62) ≤ c.2 ∧ c.2 < 2 ^ 62) ∧ (c.2 - c.1).toNat ≤ 16777216 then some (ranged c.1 c.2) else none
theorem ranged_V {H : Hp} (a b : Int) : Reps T H (ranged a b) (rgV a b) := by
  unfold ranged rgV
  generalize (b - a).toNat = n
  induction n with
  | zero => exact Reps.nil
  | succ n ih =>
    rw [List.range_succ, List.map_append, List.map_append]
    exact ih.app (Reps.one (by simp only [Rep]))
variable {tR : L2.St → Hp → (Int → Int → Hp → Prop) → Prop} {mr : Option (Int × Int)}
theorem ev_tupRg (h : EvR T tR Γ mr) (hm : md.fh = true := by rfl) : Ev T md (tTupRg tR) Γ ((o1 dRg mr).map D.tup) := fun Z F H σ ok d hd Q q => by
  obtain ⟨ds, e1, rfl⟩ := Option.map_eq_some_iff.mp hd
  obtain ⟨c, e2, e3⟩ := o1_inv e1
  refine h Z F H σ ok c e2 _ fun F2 H2 g => ?_
  unfold dRg at e3
  split at e3
  · rename_i hc
    cases e3
    refine ⟨⟨hc.1.1, hc.1.2, hc.2.1.1, hc.2.1.2, by have := hc.2.2; omega⟩, fun n hn => ?_⟩
    obtain ⟨F3, g3, e3⟩ := sel_new (Z := Z) hm g.i hn (.tup (rgV c.1 c.2))
    exact q _ F3 _ (g.trans g3) (rep_tup e3 (ranged_V _ _))
  · cases e3
theorem evo_lstRg (h : EvR T tR Γ mr) : EvO T (tLstRg tR) Γ ((o1 dRg mr).map D.lst) := fun Z F H σ ok d hd Q q => by
  obtain ⟨ds, e1, rfl⟩ := Option.map_eq_some_iff.mp hd
  obtain ⟨c, e2, e3⟩ := o1_inv e1
  refine h Z F H σ ok c e2 _ fun F2 H2 g => ?_
  unfold dRg at e3
  split at e3
  · rename_i hc
    cases e3
    refine ⟨⟨hc.1.1, hc.1.2, hc.2.1.1, hc.2.1.2, by have := hc.2.2; omega⟩, fun n hn => ?_⟩
    exact q n F2 _ (g.trans (Grow.lay g.i hn _)) (none_of_ex g.h hn) (none_of_ex g.i hn) (by simp only [OwnC]; exact ⟨_, upd_same, ranged_V _ _⟩)
  · cases e3
/-! ### isinstance -/
def tyN : D → Option String
  | .non => some "NoneType" | .bl _ => some "bool" | .int _ => some "int" | .str _ => some "str" | .lst _ => some "list" | .tup _ => some "tuple" | .dic _ _ => some "dict" | .dit _ _ => some "dict" | .obj _ _ _ => none | .scr _ => some "list"
def isB (a b : String) : Bool := a == b || (a == "bool" && b == "int")
theorem tyX_of {H : Hp} {d : D} {v : V} {a : String} (r : Rep T H d v) (h : tyN d = some a) : TyX T.K H v (.type a) := by
  cases d <;> simp only [tyN] at h <;> cases h
  · simp only [Rep] at r; subst r; exact .base .non
  · simp only [Rep] at r; subst r; exact .base (.bl _)
  · simp only [Rep] at r; subst r; exact .base (.int _)
  · simp only [Rep] at r; subst r; exact .base (.str _)
  · obtain ⟨p, vs, rfl, hp, rr⟩ := rep_lst_inv r; exact .base (.lst hp)
  · obtain ⟨p, vs, rfl, hp, rr⟩ := rep_tup_inv r; exact .base (.tup hp)
  · simp only [Rep] at r; obtain ⟨p, vs, rfl, hp, _⟩ := r; exact .base (.dK hp)
  · simp only [Rep] at r; obtain ⟨p, vs, rfl, hp, _⟩ := r; exact .base (.dT hp)
  · simp only [Rep] at r
    obtain ⟨p, rfl, hp⟩ := r
    rcases hp with (hp | ⟨o, hp⟩) | ⟨o, its, n, h1, h2, _⟩
    · exact .base (.lst hp)
    · exact .base (.frz hp)
    · exact .kList h1 h2
/-- the types that isinstance is asked of here -/
def known (b : String) : Bool := b == "int" || b == "bool" || b == "str" || b == "list" || b == "tuple" || b == "dict"
theorem kit_all {d : D} {a b : String} (h : tyN d = some a) (hb : known b = true) : PySem.W.kitOne T.K (.type a) (.type b) = some (isB a b) := by
  have ha : a = "NoneType" ∨ a = "bool" ∨ a = "int" ∨ a = "str" ∨ a = "list" ∨ a = "tuple" ∨ a = "dict" := by
    cases d <;> simp only [tyN] at h <;> cases h <;> simp
  have hb' : b = "int" ∨ b = "bool" ∨ b = "str" ∨ b = "list" ∨ b = "tuple" ∨ b = "dict" := by
    unfold known at hb
    simp only [Bool.or_eq_true, beq_iff_eq] at hb
    rcases hb with ((((h | h) | h) | h) | h) | h <;> simp [h]
  refine kit_ty ?_
  rcases ha with rfl | rfl | rfl | rfl | rfl | rfl | rfl <;> rcases hb' with rfl | rfl | rfl | rfl | rfl | rfl <;> decide +kernel
def dIsi (b : String) (d : D) : Option D := (tyN d).bind fun a => if known b = true then some (.bl (isB a b)) else none
def dIsi2 (b c : String) (d : D) : Option D := (tyN d).bind fun a => if known b = true ∧ known c = true then some (.bl (isB a b || isB a c)) else none
theorem ev_isi {n : String} (ha : Ev T .h ta Γ ma) : Ev T md (tCB (rIsi T.K) (tCons ta (tCons (tC (.ty n)) tNil))) Γ (o1 (dIsi n) ma) := fun Z F H σ ok c hd Q q => by
  obtain ⟨x, e1, e2⟩ := o1_inv hd
  obtain ⟨a, e3, e4⟩ := bind_inv (show (tyN x).bind _ = some c from e2)
  split at e4
  · rename_i hk
    cases e4
    refine ha Z F H σ ok x e1 _ fun v F2 H2 g r => ?_
    exact ⟨v, .ty n, _, _, _, rfl, .ty n, tyX_of r e3, kit_all e3 hk, q _ F2 H2 g (by simp only [Rep])⟩
  · cases e4
theorem ev_isi2 {n k : String} (ha : Ev T .h ta Γ ma) : Ev T md (tCB (rIsiT T.K) (tCons ta (tCons (tTup (tCons (tC (.ty n)) (tCons (tC (.ty k)) tNil))) tNil))) Γ (o1 (dIsi2 n k) ma) := fun Z F H σ ok c hd Q q => by
  obtain ⟨x, e1, e2⟩ := o1_inv hd
  obtain ⟨a, e3, e4⟩ := bind_inv (show (tyN x).bind _ = some c from e2)
  split at e4
  · rename_i hk
    cases e4
    refine ha Z F H σ ok x e1 _ fun v F2 H2 g r => ⟨by show 2 ≤ sizeLine; rw [line_eq]; decide, fun p hp => ?_⟩
    refine ⟨v, p, _, _, [.type n, .type k], (isB a n || isB a k), rfl, upd_same, .cons (.ty n) (.cons (.ty k) .nil), tyX_of (r.mono (Ex.new hp)) e3, ?_, q _ F2 _ (g.trans (Grow.lay g.i hp _)) (by simp only [Rep])⟩
    unfold PySem.W.kitAny
    rw [kit_all (T := T) e3 hk.1]
    cases h1 : isB a n with
    | true => rfl
    | false =>
      show PySem.W.kitAny T.K (.type a) [.type k] = _
      unfold PySem.W.kitAny
      rw [kit_all (T := T) e3 hk.2]
      cases h2 : isB a k <;> rfl
  · cases e4
/-- isinstance of an own class: what the written part says of it -/
structure ClsI (T : Th) (c : Str) : Prop where
  no : ∀ d a, tyN d = some a → PySem.W.kitOne T.K (.type a) (.ref (T.C c)) = some false
  cl : Cls T.K (T.C c)
  ha : PySem.W.findIn T.K (.ref (T.C c)) "__class__" = some (some (.builtin "object.__class__"))
  hn : PySem.W.specialIn T.K (.builtin "object.__class__") "__get__" = some (some (.builtin "getset_descriptor.__get__"))
  ht : PySem.W.takesIn T.K (.builtin "object.__class__") = some true
  hm : PySem.W.mroIn T.K (T.C c) (.type "object") = some true
def dIsiC (c : Str) (d : D) : Option D := match d with
  | .obj c' _ _ => if c' = c then some (.bl true) else none
  | d => (tyN d).map fun _ => .bl false
theorem ev_isiC {c : Str} (I : ClsI T c) (ha : Ev T .h ta Γ ma) : Ev T md (tCB (rIsi T.K) (tCons ta (tCons (tC (.ref (T.C c))) tNil))) Γ (o1 (dIsiC c) ma) := fun Z F H σ ok e hd Q q => by
  obtain ⟨x, e1, e2⟩ := o1_inv hd
  refine ha Z F H σ ok x e1 _ fun v F2 H2 g r => ?_
  have hx : (∃ ns ds, x = .obj c ns ds ∧ e = .bl true) ∨ ∃ a, tyN x = some a ∧ e = .bl false := by
    cases x <;> simp only [dIsiC, tyN] at e2 <;> first | (cases e2; exact .inr ⟨_, rfl, rfl⟩) | skip
    split at e2
    · rename_i h; subst h; cases e2; exact .inl ⟨_, _, rfl, rfl⟩
    · cases e2
  rcases hx with ⟨ns, ds, rfl, rfl⟩ | ⟨a, h1, rfl⟩
  · simp only [Rep] at r
    obtain ⟨p, dx, vs, rfl, hp, _⟩ := r
    refine ⟨_, .ref (T.C c), .ref (T.C c), .ref (T.C c), true, rfl, .own _, .base (.ins hp I.cl I.ha I.hn I.ht I.hm), ?_, q _ F2 H2 g (by simp only [Rep])⟩
    unfold PySem.W.kitOne
    rw [if_pos (by simp)]
  · exact ⟨v, .ref (T.C c), _, _, _, rfl, .own _, tyX_of r h1, I.no x a h1, q _ F2 H2 g (by simp only [Rep])⟩
/-! ### stores -/
def dApp : D → D → Option D
  | .lst ds, d => if ds.length < 16777216 then some (.lst (ds ++ [d])) else none
  | _, _ => none
@[simp] theorem dApp_lst (ds : List D) (d : D) : dApp (.lst ds) d = if ds.length < 16777216 then some (.lst (ds ++ [d])) else none := id rfl
/-- what an owned slot holds -/
def Slot.isOwnD : Slot → D → Prop
  | .own d, e => d = e
  | .mu d, e => d = e
  | _, _ => False
def Slot.put : Slot → D → Slot
  | .own _, e => .own e
  | .mu _, e => .mu e
  | s, _ => s
theorem own_slot {Z : Base} {F H : Hp} {σ : L2.St} {s : Slot} {d : D} (ok : Ok T Z Γ F H σ) (hs : Γ[i]? = some s) (ho : s.isOwnD d) : ∃ p, σ[i]? = some (some (.ref p)) ∧ F p = none ∧ OwnC T F H p d ∧
    ∀ d' o, OwnC T F (upd H p o) p d' → Ok T Z (Γ.set i (s.put d')) F (upd H p o) σ := by
  have h := ok.at' i s hs
  cases s <;> simp only [Slot.isOwnD] at ho
  · subst ho
    obtain ⟨p, a, b, c, e, f⟩ := h
    exact ⟨p, a, c, e, fun d' o hc => ok.chg hs rfl a (.inl ⟨rfl, _, rfl⟩) hc⟩
  · subst ho
    obtain ⟨p, a, a', b, c, e⟩ := h
    exact ⟨p, a, c, e, fun d' o hc => ok.chg hs rfl a (.inr ⟨rfl, _, rfl⟩) hc⟩
theorem tyV_lst {K : PySem.W.Frag} {H : Hp} {p : Addr} {xs : List V} (h : H p = some (.lst xs)) : tyV K "list" (.ref p) H := Or.inl ⟨rfl, _, Or.inl (Or.inl h)⟩
/-- xs.append(e) -/
theorem bp_app {s : Slot} {d : D} (hs : Γ[i]? = some s) (ho : s.isOwnD d) (he : Ev T .f te Γ me) : B T (tDrop (tBM T.K "list" rAppend (tVar i) (tCons te tNil))) Γ (me.bind fun e => dApp d e) (PP T fun d' => Γ.set i (s.put d')) := fun Z F H σ ok d' hd E p => by
  obtain ⟨e, e1, e2⟩ := bind_inv hd
  cases d <;> simp only [dApp] at e2 <;> try (cases e2; done)
  split at e2
  · rename_i hl
    cases e2
    obtain ⟨q, a, b, c, k⟩ := own_slot ok hs ho
    simp only [OwnC] at c
    obtain ⟨vs, c1, c2⟩ := c
    refine ⟨_, a, tyV_lst c1, he Z F H σ ok e e1 _ fun v F2 H2 g r => ?_⟩
    obtain ⟨q', a', b', c', k'⟩ := own_slot (ok.grow g) hs ho
    rw [a] at a'; cases a'
    simp only [OwnC] at c'
    obtain ⟨vs', c1', c2'⟩ := c'
    refine ⟨q, vs', v, rfl, rfl, c1', by rw [line_eq, ← c2'.len]; exact hl, p F2 _ σ (k' _ _ (by simp only [OwnC]; exact ⟨_, upd_same, c2'.app (Reps.one r)⟩))⟩
  · cases e2
/-- xs[i] = e, d[k] = e -/
def rDSet : V → V → V → Hp → (Hp → Prop) → Prop := fun o i v H Q => ∃ a H', o = .ref a ∧ DPut H a i v H' ∧ Q H'
def rSetA : V → V → V → Hp → (Hp → Prop) → Prop := fun o i v H Q => rSetL o i v H Q ∨ rDSet o i v H Q
theorem set_A {X : Cx} (hu : X.A.units + 64 < cLine) : PSet X rSetA := fun pins s σ H o i v ov iv u Q I ro ri rv h => by
  rcases h with h | ⟨a, H', rfl, g, q⟩
  · exact set_list pins s σ H o i v ov iv u Q I ro ri rv h
  · cases (show ov = Value.ref a from ro)
    exact d_setItem (by omega) I g ri rv fun s' I' => ⟨H', I', q⟩
def putKD {κ : Type} [DecidableEq κ] (ks : List κ) (ds : List D) (k : κ) (d : D) : List κ × List D :=
  match ks, ds with
  | a :: ks, e :: ds => if a = k then (a :: ks, d :: ds) else let r := putKD ks ds k d; (a :: r.1, e :: r.2)
  | _, _ => ([k], [d])
def dSet : D → D → D → Option D
  | .lst ds, .int i, e => (ixN ds.length i).map fun j => .lst (ds.set j e)
  | .dic ks ds, k, e => (keyOf k).bind fun k => if ks.length < 16777216 ∧ ks.length = ds.length ∧ ks.Nodup then some (.dic (putKD ks ds k e).1 (putKD ks ds k e).2) else none
  | .dit ks ds, .tup es, e => (keysOf es).bind fun k => if ks.length < 16777216 ∧ ks.length = ds.length ∧ ks.Nodup then some (.dit (putKD ks ds k e).1 (putKD ks ds k e).2) else none
  | _, _, _ => none
theorem putK_eq {κ : Type} [DecidableEq κ] {H : Hp} {k : κ} {d : D} {v : V} (r : Rep T H d v) : ∀ {ks : List κ} {ds : List D} {vs : List V}, ks.Nodup → ks.length = ds.length → Reps T H ds vs →
    ∃ vs', putK (ks.zip vs) k v = (putKD ks ds k d).1.zip vs' ∧ (putKD ks ds k d).1.length = vs'.length ∧ Reps T H (putKD ks ds k d).2 vs' ∧ ((putKD ks ds k d).1 = ks ∨ (k ∉ ks ∧ (putKD ks ds k d).1 = ks ++ [k]))
  | [], [], vs, hn, hl, rr => by
    simp only [Reps] at rr; subst rr
    exact ⟨[v], rfl, rfl, Reps.one r, .inr ⟨by simp, rfl⟩⟩
  | [], _ :: _, vs, hn, hl, rr => by cases hl
  | _ :: _, [], vs, hn, hl, rr => by cases hl
  | a :: ks, e :: ds, vs, hn, hl, rr => by
    obtain ⟨w, r', rfl, s, t⟩ := rr.uncons
    obtain ⟨hn1, hn2⟩ := List.nodup_cons.mp hn
    by_cases h : a = k
    · subst h
      have e1 : putKD (a :: ks) (e :: ds) a d = (a :: ks, d :: ds) := by simp [putKD]
      rw [e1]
      refine ⟨v :: r', ?_, by simpa [← t.len] using hl, Reps.cons r t, .inl rfl⟩
      have nz : ∀ x ∈ ks.zip r', ¬ x.1 = a := fun x hx q => hn1 (by rw [← q]; exact (List.of_mem_zip hx).1)
      unfold putK
      have hany : ((a :: ks).zip (w :: r')).any (fun kv => decide (kv.1 = a)) = true := by simp
      first
        | (rw [if_pos hany]
           show (List.map _ ((a, w) :: ks.zip r')) = _
           rw [List.map_cons]
           have hm : (ks.zip r').map (fun kv => if kv.1 = a then (kv.1, v) else kv) = ks.zip r' := by
             refine (List.map_congr_left fun x hx => ?_).trans (List.map_id _)
             rw [if_neg (nz x hx)]; rfl
           simp [hm])
        | skip
    · have ih := putK_eq (k := k) r hn2 (by simpa using hl) t
      obtain ⟨vs', i1, i2, i3, i4⟩ := ih
      have e1 : putKD (a :: ks) (e :: ds) k d = (a :: (putKD ks ds k d).1, e :: (putKD ks ds k d).2) := by simp [putKD, h]
      rw [e1]
      refine ⟨w :: vs', ?_, by simp [i2], Reps.cons s i3, ?_⟩
      · show putK ((a, w) :: ks.zip r') k v = (a, w) :: (putKD ks ds k d).1.zip vs'
        rw [← i1]
        unfold putK
        simp only [List.any_cons, h, decide_false, Bool.false_or, List.map_cons, if_false, List.cons_append]
        split <;> rfl
      · rcases i4 with i4 | ⟨i4, i5⟩
        · exact .inl (by rw [i4])
        · exact .inr ⟨by simp only [List.mem_cons, not_or]; exact ⟨fun q => h q.symm, i4⟩, by rw [i5]; rfl⟩
/-- xs[i] = e, d[k] = e, the owner a slot; the value is read first -/
theorem bp_put {s : Slot} {d : D} {ti : TE} {mi : Option D} (hs : Γ[i]? = some s) (ho : s.isOwnD d) (he : Ev T .f te Γ me) (hi : Ev T .f ti Γ mi) :
    B T (tAsg te (gSub (tVar i) ti rSetA)) Γ (me.bind fun e => mi.bind fun k => dSet d k e) (PP T fun d' => Γ.set i (s.put d')) := fun Z F H σ ok d' hd E p => by
  obtain ⟨e, e1, hd⟩ := bind_inv hd
  obtain ⟨k, e2, hd⟩ := bind_inv hd
  refine he Z F H σ ok e e1 _ fun v F2 H2 g r => ?_
  obtain ⟨q, a, _, _, _⟩ := own_slot ok hs ho
  refine ⟨_, a, hi Z F2 H2 σ (ok.grow g) k e2 _ fun w F3 H3 g3 r3 => ?_⟩
  have r := r.mono g3.f
  obtain ⟨q', a', b, c, kk⟩ := own_slot ((ok.grow g).grow g3) hs ho
  rw [a] at a'; cases a'
  cases d <;> simp only [dSet] at hd <;> try (cases hd; done)
  · cases k <;> simp only at hd <;> try (cases hd; done)
    obtain ⟨j, hj, rfl⟩ := Option.map_eq_some_iff.mp hd
    simp only [OwnC] at c
    obtain ⟨vs, c1, c2⟩ := c
    simp only [Rep] at r3; subst r3
    refine .inl ⟨q, vs, _, j, rfl, rfl, c1, by rw [← c2.len]; exact hj, p F3 _ σ (kk _ _ (by simp only [OwnC]; exact ⟨_, upd_same, c2.set j r⟩))⟩
  · obtain ⟨ky, hk, hd⟩ := bind_inv hd
    split at hd
    · rename_i hz
      cases hd
      have ew := keyOf_V r3 hk
      simp only [OwnC] at c
      obtain ⟨vs, c1, cl, c2⟩ := c
      obtain ⟨vs', z1, z2, z3, _⟩ := putK_eq r hz.2.2 hz.2.1 c2 (k := ky)
      refine .inr ⟨q, _, rfl, .inl ⟨_, ky, c1, ew, by rw [List.length_zip, cl, Nat.min_self, line_eq, ← cl]; exact hz.1, rfl⟩, p F3 _ σ (kk _ _ ?_)⟩
      simp only [OwnC]
      exact ⟨vs', by rw [upd_same, z1], z2, z3⟩
    · cases hd
  · cases k <;> simp only at hd <;> try (cases hd; done)
    rename_i es
    obtain ⟨ky, hk, hd⟩ := bind_inv hd
    split at hd
    · rename_i hz
      cases hd
      obtain ⟨pt, ws, rfl, hpt, rr⟩ := rep_tup_inv r3
      have ew := keysOf_V rr hk
      subst ew
      simp only [OwnC] at c
      obtain ⟨vs, c1, cl, c2⟩ := c
      obtain ⟨vs', z1, z2, z3, _⟩ := putK_eq r hz.2.2 hz.2.1 c2 (k := ky)
      refine .inr ⟨q, _, rfl, .inr ⟨_, ky, pt, c1, rfl, g3.i _ _ hpt, by rw [List.length_zip, cl, Nat.min_self, line_eq, ← cl]; exact hz.1, rfl⟩, p F3 _ σ (kk _ _ ?_)⟩
      simp only [OwnC]
      exact ⟨vs', by rw [upd_same, z1], z2, z3⟩
    · cases hd
/-- x = xs.pop() -/
def dPop : D → Option (D × D)
  | .lst ds => match ds.getLast? with
    | some d => some (d, .lst ds.dropLast)
    | none => none
  | _ => none
theorem bp_pop {s : Slot} {d : D} (hij : i ≠ j) (hs : Γ[i]? = some s) (ho : s.isOwnD d) : B T (tAsg (tBM0 T.K "list" rPop (tVar i)) (gName j)) Γ (dPop d) (PP T fun c => (Γ.set i (s.put c.2)).set j (.val c.1)) := fun Z F H σ ok c' hd E p => by
  cases d <;> simp only [dPop] at hd <;> try (cases hd; done)
  rename_i ds
  split at hd
  · rename_i dl hl
    cases hd
    obtain ⟨q, a, b, c, k⟩ := own_slot ok hs ho
    simp only [OwnC] at c
    obtain ⟨vs, c1, c2⟩ := c
    have hl' : ds[ds.length - 1]? = some dl := by rw [← List.getLast?_eq_getElem?]; exact hl
    obtain ⟨v, hv, rv⟩ := c2.get hl'
    rw [c2.len] at hv
    refine ⟨_, a, tyV_lst c1, q, vs, v, rfl, rfl, c1, hv, p F _ _ ?_⟩
    have ok2 := k (.lst ds.dropLast) (.lst vs.dropLast) (by
      simp only [OwnC]
      refine ⟨_, upd_same, ?_⟩
      rw [List.dropLast_eq_take, List.dropLast_eq_take, c2.len]
      exact c2.take _)
    exact ok2.setVal rv
  · cases hd
/-- xs.sort() of ints, xs.reverse() -/
def dSortL : D → Option D
  | .lst ds => (asInts ds).map fun ns => .lst ((sortI ns).map D.int)
  | _ => none
theorem bp_sort {s : Slot} {d : D} (hs : Γ[i]? = some s) (ho : s.isOwnD d) : B T (tDrop (tBM0 T.K "list" rSortI (tVar i))) Γ (dSortL d) (PP T fun d' => Γ.set i (s.put d')) := fun Z F H σ ok c' hd E p => by
  cases d <;> simp only [dSortL] at hd <;> try (cases hd; done)
  obtain ⟨ns, e1, rfl⟩ := Option.map_eq_some_iff.mp hd
  obtain ⟨q, a, b, c, k⟩ := own_slot ok hs ho
  simp only [OwnC] at c
  obtain ⟨vs, c1, c2⟩ := c
  rw [asInts_inv e1] at c2
  have hv := c2.ints
  subst hv
  refine ⟨_, a, tyV_lst c1, q, ns, rfl, rfl, c1, fun ns' h1 h2 => p F _ σ (k _ _ ?_)⟩
  rw [sortI_of h1 h2]
  simp only [OwnC]
  exact ⟨_, upd_same, Reps.of_ints _⟩
theorem reps_rev {H : Hp} : ∀ {ds : List D} {vs : List V}, Reps T H ds vs → Reps T H ds.reverse vs.reverse
  | [], vs, h => by simp only [Reps] at h; subst h; exact Reps.nil
  | d :: ds, vs, h => by
    obtain ⟨w, r, rfl, s, t⟩ := h.uncons
    rw [List.reverse_cons, List.reverse_cons]
    exact (reps_rev t).app (Reps.one s)
def dRevL : D → Option D
  | .lst ds => some (.lst ds.reverse)
  | _ => none
theorem bp_rev {s : Slot} {d : D} (hs : Γ[i]? = some s) (ho : s.isOwnD d) : B T (tDrop (tBM0 T.K "list" rReverse (tVar i))) Γ (dRevL d) (PP T fun d' => Γ.set i (s.put d')) := fun Z F H σ ok c' hd E p => by
  cases d <;> simp only [dRevL] at hd <;> try (cases hd; done)
  cases hd
  obtain ⟨q, a, b, c, k⟩ := own_slot ok hs ho
  simp only [OwnC] at c
  obtain ⟨vs, c1, c2⟩ := c
  exact ⟨_, a, tyV_lst c1, q, vs, rfl, rfl, c1, p F _ σ (k _ _ (by simp only [OwnC]; exact ⟨_, upd_same, reps_rev c2⟩))⟩
/-- {} -/
theorem evo_dict : EvO T tDNewK Γ (some (.dic [] [])) := fun Z F H σ ok d hd Q q => by
  cases hd
  exact fun n hn => q n F _ (Grow.lay ok.hv.f hn _) hn (none_of_ex ok.hv.f hn) (by simp only [OwnC]; exact ⟨[], upd_same, rfl, Reps.nil⟩)
theorem evo_dictT : EvO T tDNewT Γ (some (.dit [] [])) := fun Z F H σ ok d hd Q q => by
  cases hd
  exact fun n hn => q n F _ (Grow.lay ok.hv.f hn _) hn (none_of_ex ok.hv.f hn) (by simp only [OwnC]; exact ⟨[], upd_same, rfl, Reps.nil⟩)
/-- x += e, x a name that holds an int -/
def dAddI : D → D → Option D
  | .int a, .int b => some (.int (a + b))
  | _, _ => none
theorem bp_aug {f : Int → Int → Int} {h : D → D → Option D} {ma : Option D} (hh : ∀ d e c, h d e = some c → ∃ a b, d = .int a ∧ e = .int b ∧ c = .int (f a b)) (ha : Ev T .h (tVar i) Γ ma) (he : Ev T .h te Γ me) :
    B T (tAug i te (ipI f)) Γ (o2 h ma me) (PP T fun d => Γ.set i (.val d)) := fun Z F H σ ok d hd E p => by
  obtain ⟨x, y, e1, e2, e3⟩ := o2_inv hd
  obtain ⟨a, b, rfl, rfl, rfl⟩ := hh _ _ _ e3
  have h1 := ha Z F H σ ok _ e1 (fun v H' => v = .int a ∧ H' = H ∨ True) (fun v F2 H2 g r => .inr trivial)
  obtain ⟨v, hv, _⟩ := h1
  have h2 := ha Z F H σ ok _ e1 (fun v H' => v = .int a) (fun v F2 H2 g r => by simpa only [Rep] using r)
  obtain ⟨v', hv', hv2⟩ := h2
  subst hv2
  refine ⟨_, hv', he Z F H σ ok _ e2 _ fun w F2 H2 g r => ?_⟩
  simp only [Rep] at r
  subst r
  exact ⟨a, b, rfl, rfl, p F2 H2 _ ((ok.grow g).setVal (by simp only [Rep]))⟩
theorem bp_augAdd {ma : Option D} (ha : Ev T .h (tVar i) Γ ma) (he : Ev T .h te Γ me) : B T (tAug i te (ipI fun i j => i + j)) Γ (o2 dAddI ma me) (PP T fun d => Γ.set i (.val d)) :=
  bp_aug (fun d e c h => by cases d <;> cases e <;> simp only [dAddI] at h <;> first | (cases h; exact ⟨_, _, rfl, rfl, rfl⟩) | cases h) ha he
theorem bp_augSub {ma : Option D} (ha : Ev T .h (tVar i) Γ ma) (he : Ev T .h te Γ me) : B T (tAug i te (ipI fun i j => i - j)) Γ (o2 dSub ma me) (PP T fun d => Γ.set i (.val d)) :=
  bp_aug (fun d e c h => by cases d <;> cases e <;> simp only [dSub] at h <;> first | (cases h; exact ⟨_, _, rfl, rfl, rfl⟩) | cases h) ha he
/-- xs[i] += e -/
def getIx (K : PySem.W.Frag) : V → V → Hp → VK → Prop := rIxA K
end
end Mi
/-! comprehensions, xs[i] += e -/
namespace Mi
open PySem L2
open PyProof.Rows
open Evl (Ex ex_t ex_l ex_rd fresh_back)
/-- all that is owned is only read -/
def Slot.frz : Slot → Slot
  | .own d => .bor d
  | .mu d => .bor d
  | s => s
def frz (Γ : Ctx) : Ctx := Γ.map Slot.frz
def noAt (Γ : Ctx) (vs : List Nat) : Bool := vs.all fun v => match Γ[v]? with | some .no => true | none => true | _ => false
section
variable {T : Th} {Z : Base} {Γ : Ctx} {F H F' H' : Hp} {σ : L2.St} {vs : List Nat}
theorem noAt_at (h : noAt Γ vs = true) {i : Nat} {s : Slot} (e : Γ[i]? = some s) (hi : i ∈ vs) : s = .no := by
  have := List.all_eq_true.mp h i hi
  rw [e] at this
  cases s <;> simp at this; rfl
theorem Ok.frzd (ok : Ok T Z Γ F H σ) (hw : noAt Γ vs = true) : Ok T ⟨H, F, H, fun _ => 0⟩ (frz Γ) F H (wipe σ vs) := by
  have hget : ∀ (i : Nat) (s : Slot), (frz Γ)[i]? = some s → ∃ s', Γ[i]? = some s' ∧ s = s'.frz := fun i s e => by
    unfold frz at e
    rw [List.getElem?_map] at e
    obtain ⟨s', h1, h2⟩ := Option.map_eq_some_iff.mp e
    exact ⟨s', h1, h2.symm⟩
  refine ⟨⟨Ex.refl H, Ex.refl F, ok.hv.f, fun _ q => q, fun a q => .inl q⟩, by unfold frz; rw [List.length_map, wipe_length]; exact ok.len, fun i s e => ?_, fun i j p s t e1 o1 => ?_⟩
  · obtain ⟨s', h1, rfl⟩ := hget i s e
    by_cases hi : i ∈ vs
    · have := noAt_at hw h1 hi
      subst this
      trivial
    · rw [wipe_out hi]
      have old := ok.at' i s' h1
      cases s' <;> simp only [Slot.frz, SlotOk] at old ⊢
      · exact old
      · obtain ⟨v, a, b⟩ := old; exact ⟨v, a, b.mono ok.hv.b⟩
      · obtain ⟨p, a, b, c, d, _⟩ := old; exact ⟨_, a, d.rep ok.hv.f⟩
      · obtain ⟨p, a, a', b, c, d⟩ := old; exact ⟨_, a, d.rep ok.hv.f⟩
  · obtain ⟨s', h1, rfl⟩ := hget i s e1
    cases s' <;> cases o1
theorem Ok.frzs (ok : Ok T Z Γ F H σ) : Ok T ⟨H, F, H, fun _ => 0⟩ (frz Γ) F H σ := by
  have := ok.frzd (vs := []) rfl
  exact this
theorem frz_own {s : Slot} {i : Nat} (h : (frz Γ)[i]? = some s) : s.isOwn = false := by
  unfold frz at h
  rw [List.getElem?_map] at h
  obtain ⟨s', _, rfl⟩ := Option.map_eq_some_iff.mp h
  cases s' <;> rfl
theorem Ok.ofHv (ok : Ok T Z (frz Γ) F H σ) (hz : Z.F = F) (hv : Hv Z F' H') : Ok T Z (frz Γ) F' H' σ := by
  subst hz
  refine ⟨hv, ok.len, fun i s e => ?_, fun i j p s t e1 o1 => ?_⟩
  · have old := ok.at' i s e
    have no := frz_own e
    cases s <;> simp only [SlotOk, Slot.isOwn] at old no ⊢ <;> first | exact old | (cases no; done) | skip
    obtain ⟨v, a, b⟩ := old; exact ⟨v, a, b.mono hv.f0⟩
  · have no := frz_own e1
    rw [no] at o1; cases o1
end
/-- a target stores the block's own names alone -/
def Tin (g : TG) (vs : List Nat) : Prop := ∀ x σ0 σ H (Q Q' : L2.St → Hp → Prop), wipe σ vs = wipe σ0 vs → (∀ σ2 H2, wipe σ2 vs = wipe σ0 vs → Q σ2 H2 → Q' σ2 H2) → g x σ H Q → g x σ H Q'
def Tins (g : TGs) (vs : List Nat) : Prop := ∀ xs σ0 σ H (Q Q' : L2.St → Hp → Prop), wipe σ vs = wipe σ0 vs → (∀ σ2 H2, wipe σ2 vs = wipe σ0 vs → Q σ2 H2 → Q' σ2 H2) → g xs σ H Q → g xs σ H Q'
theorem wipe_set_out {σ : L2.St} {j : Nat} {x : Option V} : ∀ {vs : List Nat}, j ∉ vs → wipe (σ.set j x) vs = (wipe σ vs).set j x
  | [], _ => rfl
  | v :: vs, h => by
    have h1 : v ≠ j := fun e => h (by rw [e]; exact List.mem_cons_self)
    have h2 : j ∉ vs := fun m => h (List.mem_cons_of_mem _ m)
    unfold wipe
    rw [wipe_set_out h2, List.set_comm _ _ h1.symm]
theorem wipe_set {σ : L2.St} {j : Nat} {x : Option V} : ∀ {vs : List Nat}, j ∈ vs → wipe (σ.set j x) vs = wipe σ vs
  | [], h => by cases h
  | v :: vs, h => by
    unfold wipe
    by_cases h2 : j ∈ vs
    · rw [wipe_set h2]
    · rcases List.mem_cons.mp h with e | h
      · subst e
        rw [wipe_set_out h2, List.set_set]
      · exact absurd h h2
theorem tin_name {j : Nat} {vs : List Nat} (h : j ∈ vs) : Tin (gName j) vs := fun x σ0 σ H Q Q' e k q => k _ _ (by rw [wipe_set h]; exact e) q
theorem tins_nil {vs : List Nat} : Tins gNil vs := fun xs σ0 σ H Q Q' e k q => ⟨q.1, k _ _ e q.2⟩
theorem tins_cons {g : TG} {u : TGs} {vs : List Nat} (hg : Tin g vs) (hu : Tins u vs) : Tins (gCons g u) vs := fun xs σ0 σ H Q Q' e k q => by
  obtain ⟨v, r, rfl, q⟩ := q
  exact ⟨v, r, rfl, hg v σ0 σ H _ _ e (fun σ2 H2 e2 z => hu r σ0 σ2 H2 Q Q' e2 k z) q⟩
theorem tin_tup {K : PySem.W.Frag} {n : Nat} {u : TGs} {vs : List Nat} (hu : Tins u vs) : Tin (gTup K n u) vs := fun x σ0 σ H Q Q' e k q => by
  obtain ⟨a, xs, h1, h2, h3, q⟩ := q
  exact ⟨a, xs, h1, h2, h3, hu xs σ0 σ H Q Q' e k q⟩
/-- the element behind its tests, as a block -/
def tCE (tt : TT) (te : TE) : TS := fun E σ H => tt σ H fun b H3 => if b = true then te σ H3 E.rt else E.nx σ H3
abbrev PC (T : Th) : Base → Ends → Option D → Prop := fun Z E o => match o with
  | some d => ∀ v F H, Hv Z F H → Rep T F d v → E.rt v H
  | none => ∀ F H σ, Hv Z F H → E.nx σ H
def optC : Option D → List D → List D
  | some e, r => e :: r
  | none, r => r
@[simp] theorem optC_s (e : D) (r : List D) : optC (some e) r = e :: r := id rfl
@[simp] theorem optC_n (r : List D) : optC none r = r := id rfl
def compO {ι : Type} (f : ι → Option (Option D)) : List ι → Option (List D)
  | [] => some []
  | d :: ds => (f d).bind fun o => (compO f ds).map fun r => optC o r
theorem compO_cons {ι : Type} (f : ι → Option (Option D)) (d : ι) (ds : List ι) : compO f (d :: ds) = (f d).bind fun o => (compO f ds).map fun r => optC o r := rfl
@[simp] theorem compO_nil {ι : Type} (f : ι → Option (Option D)) : compO f [] = some [] := id rfl
def dComp {ι : Type} (f : ι → Option (Option D)) (ds : List ι) : Option D := if ds.length ≤ 16777216 then (compO f ds).map D.lst else none
section
variable {T : Th} {Γ : Ctx} {md ma mb : Md} {te : TE} {tt : TT} {me : Option D} {mc : Option Bool} {wi : TI} {g : TG} {vs : List Nat}
theorem ce_if (hc : EvT T tt Γ mc) (he : Ev T .f te Γ me) : B T (tCE tt te) Γ (mc.bind fun c => if c = true then me.map some else some none) (PC T) := fun Z F H σ ok o ho E p => by
  obtain ⟨c, e1, e2⟩ := bind_inv ho
  refine hc Z F H σ ok c e1 _ fun F2 H2 g => ?_
  cases c with
  | true =>
    obtain ⟨d, e3, rfl⟩ := Option.map_eq_some_iff.mp (show me.map some = some o from e2)
    exact he Z F2 H2 σ (ok.grow g) d e3 _ fun v F3 H3 g' r => p v F3 H3 ((ok.hv.grow g).grow g') r
  | false =>
    cases e2
    exact p F2 H2 σ (ok.hv.grow g)
theorem ce_all (he : Ev T .f te Γ me) : B T (tCE tYes te) Γ (me.map some) (PC T) := fun Z F H σ ok o ho E p => by
  obtain ⟨d, e3, rfl⟩ := Option.map_eq_some_iff.mp ho
  exact he Z F H σ ok d e3 _ fun v F3 H3 g' r => p v F3 H3 (ok.hv.grow g') r
theorem Ok.reb {F0 H0 F H : Hp} {σ : L2.St} (ok : Ok T ⟨H0, F0, H0, fun _ => 0⟩ (frz Γ) F0 H0 σ) (ef : Ex F0 F) (ei : Ex F H) (eh : Ex H0 H) : Ok T ⟨H, F, H, fun _ => 0⟩ (frz Γ) F H σ := by
  refine ⟨⟨Ex.refl H, Ex.refl F, ei, fun _ q => q, fun a q => .inl q⟩, ok.len, fun i s e => ?_, fun i j p s t e1 o1 => ?_⟩
  · have old := ok.at' i s e
    have no := frz_own e
    cases s <;> simp only [SlotOk, Slot.isOwn] at old no ⊢ <;> first | (cases no; done) | skip
    · obtain ⟨v, a, b⟩ := old; exact ⟨v, a, b.mono ef⟩
    · obtain ⟨v, a, b⟩ := old; exact ⟨v, a, b.mono eh⟩
  · have no := frz_own e1
    rw [no] at o1; cases o1
/-- the engine of both comprehensions -/
theorem comp_go {ι : Type} {f : ι → Option (Option D)} {J : It} {ds : List ι} {F0 H0 : Hp} {σ : L2.St} {Q : VK} (hg : Tin g vs)
    (ok : Ok T ⟨H0, F0, H0, fun _ => 0⟩ (frz Γ) F0 H0 (wipe σ vs)) {F1 H1 : Hp} (gr : Grow F0 F1 H0 H1) {L : Addr} (hL : H1 L = none)
    (go : ∀ i F H, i < ds.length → Ex F1 F → Ex F H → Ex H0 H → J.go i H) (stop : ∀ F H, Ex F1 F → Ex F H → Ex H0 H → J.stop ds.length H)
    (turn : ∀ (i : Nat) F H d, ds[i]? = some d → Ex F1 F → Ex F H → Ex H0 H → ∀ x H', J.yld i H x H' → ∃ F', Grow F F' H H' ∧ (∀ o, f d = some o → ∀ E' : Ends, PC T ⟨H', F', H', fun _ => 0⟩ E' o → ∀ Q' : L2.St → Hp → Prop, (∀ σ2 H2, tCE tt te E' σ2 H2 → Q' σ2 H2) → g x (wipe σ vs) H' Q'))
    (hz : ds.length ≤ 16777216) {total : List D} (ht : compO f ds = some total) (q : ∀ p F2 H2, Grow F0 F2 H0 H2 → H0 p = none → F2 p = none → OwnC T F2 H2 p (.lst total) → Q (.ref p) H2) :
    ∃ W : Nat → Nat → Hp → Prop, (∃ m, W 0 m (upd H1 L (.lst []))) ∧ ∀ i m H, W i m H →
      (J.stop i H ∧ Q (.ref L) H) ∨ (J.go i H ∧ ∃ Nx : Hp → Prop, (∀ H', Nx H' → ∃ m', m' < m ∧ W (i + 1) m' H') ∧ ∀ x H', J.yld i H x H' → g x (wipe σ vs) H' fun σ2 H2 => wipe σ2 vs = wipe σ vs ∧ tt σ2 H2 fun b H3 =>
        if b = true then te σ2 H3 fun y H4 => ∃ acc, H4 L = some (.lst acc) ∧ acc.length < sizeLine ∧ Nx (upd H4 L (.lst (acc ++ [y]))) else Nx H3) := by
  have hL0 : H0 L = none := none_of_ex gr.h hL
  have ww : wipe (wipe σ vs) vs = wipe σ vs := by
    have : ∀ (us : List Nat) (τ : L2.St), (∀ u ∈ us, u ∈ vs) → wipe (wipe τ us) vs = wipe τ vs := by
      intro us
      induction us with
      | nil => intro τ _; rfl
      | cons u us ih =>
        intro τ h
        show wipe ((wipe τ us).set u none) vs = _
        rw [wipe_set (h u (List.mem_cons_self ..)), ih τ fun x hx => h x (List.mem_cons_of_mem _ hx)]
    exact this vs σ fun _ h => h
  refine ⟨fun i m H => m = ds.length - i ∧ i ≤ ds.length ∧ ∃ F acc dacc rest, Ex F1 F ∧ Ex F H ∧ Ex H0 H ∧ (∀ a, F a ≠ none → F0 a ≠ none ∨ H0 a = none) ∧ H L = some (.lst acc) ∧ F L = none ∧ Reps T F dacc acc ∧ dacc.length ≤ i ∧ compO f (ds.drop i) = some rest ∧ total = dacc ++ rest,
    ⟨ds.length, by simp, Nat.zero_le _, F1, [], [], total, Ex.refl F1, gr.i.trans (Ex.new hL), gr.h.trans (Ex.new hL), gr.new, upd_same, none_of_ex gr.i hL, Reps.nil, Nat.le_refl _, by simpa using ht, by simp⟩, ?_⟩
  rintro i m H ⟨rfl, hi, F, acc, dacc, rest, e1, e2, e3, e4, e5, e6, e7, e8, e9, e10⟩
  by_cases hlt : i < ds.length
  · refine .inr ⟨go i F H hlt e1 e2 e3, fun H' => ∃ F' acc dacc rest, Ex F1 F' ∧ Ex F' H' ∧ Ex H0 H' ∧ (∀ a, F' a ≠ none → F0 a ≠ none ∨ H0 a = none) ∧ H' L = some (.lst acc) ∧ F' L = none ∧ Reps T F' dacc acc ∧ dacc.length ≤ i + 1 ∧ compO f (ds.drop (i + 1)) = some rest ∧ total = dacc ++ rest,
      fun H' h => ⟨ds.length - (i + 1), by omega, rfl, hlt, h⟩, fun x H' y => ?_⟩
    have hd : ds.drop i = ds[i] :: ds.drop (i + 1) := List.drop_eq_getElem_cons hlt
    rw [hd, compO_cons] at e9
    obtain ⟨o, f1, f2⟩ := bind_inv e9
    obtain ⟨rest', f3, rfl⟩ := Option.map_eq_some_iff.mp f2
    obtain ⟨F', gr', tn⟩ := turn i F H ds[i] (by simp [hlt]) e1 e2 e3 x H' y
    have hL' : H' L = some (.lst acc) := gr'.h _ _ e5
    have hF' : F' L = none := by
      cases q : F' L with
      | none => rfl
      | some u =>
        rcases gr'.new L (by rw [q]; simp) with z | z
        · exact absurd e6 z
        · rw [e5] at z; cases z
    have new' : ∀ a, F' a ≠ none → F0 a ≠ none ∨ H0 a = none := fun a h => by
      rcases gr'.new a h with z | z
      · exact e4 a z
      · exact .inr (none_of_ex e3 z)
    refine hg x σ (wipe σ vs) H' (fun σ2 H2 => tt σ2 H2 fun b H3 => if b = true then te σ2 H3 fun y H4 => ∃ acc, H4 L = some (.lst acc) ∧ acc.length < sizeLine ∧ (∃ F' acc' dacc rest, Ex F1 F' ∧ Ex F' (upd H4 L (.lst (acc ++ [y]))) ∧ Ex H0 (upd H4 L (.lst (acc ++ [y]))) ∧ (∀ a, F' a ≠ none → F0 a ≠ none ∨ H0 a = none) ∧ upd H4 L (.lst (acc ++ [y])) L = some (.lst acc') ∧ F' L = none ∧ Reps T F' dacc acc' ∧ dacc.length ≤ i + 1 ∧ compO f (ds.drop (i + 1)) = some rest ∧ total = dacc ++ rest)
        else ∃ F' acc dacc rest, Ex F1 F' ∧ Ex F' H3 ∧ Ex H0 H3 ∧ (∀ a, F' a ≠ none → F0 a ≠ none ∨ H0 a = none) ∧ H3 L = some (.lst acc) ∧ F' L = none ∧ Reps T F' dacc acc ∧ dacc.length ≤ i + 1 ∧ compO f (ds.drop (i + 1)) = some rest ∧ total = dacc ++ rest) _ ww (fun σ2 H2 z1 z2 => ⟨z1, z2⟩) ?_
    refine tn o f1 { nx := fun _ H3 => ∃ F' acc dacc rest, Ex F1 F' ∧ Ex F' H3 ∧ Ex H0 H3 ∧ (∀ a, F' a ≠ none → F0 a ≠ none ∨ H0 a = none) ∧ H3 L = some (.lst acc) ∧ F' L = none ∧ Reps T F' dacc acc ∧ dacc.length ≤ i + 1 ∧ compO f (ds.drop (i + 1)) = some rest ∧ total = dacc ++ rest, rt := fun y H4 => ∃ acc, H4 L = some (.lst acc) ∧ acc.length < sizeLine ∧ (∃ F' acc' dacc rest, Ex F1 F' ∧ Ex F' (upd H4 L (.lst (acc ++ [y]))) ∧ Ex H0 (upd H4 L (.lst (acc ++ [y]))) ∧ (∀ a, F' a ≠ none → F0 a ≠ none ∨ H0 a = none) ∧ upd H4 L (.lst (acc ++ [y])) L = some (.lst acc') ∧ F' L = none ∧ Reps T F' dacc acc' ∧ dacc.length ≤ i + 1 ∧ compO f (ds.drop (i + 1)) = some rest ∧ total = dacc ++ rest) } ?_ _ (fun σ2 H2 z => z)
    have e7' := e7.mono gr'.f
    have fin : ∀ {F4 H4 : Hp}, Hv ⟨H', F', H', fun _ => 0⟩ F4 H4 → Ex F1 F4 ∧ Ex F4 H4 ∧ Ex H0 H4 ∧ (∀ a, F4 a ≠ none → F0 a ≠ none ∨ H0 a = none) ∧ H4 L = some (.lst acc) ∧ F4 L = none := fun {F4 H4} hv => by
      refine ⟨(e1.trans gr'.f).trans hv.f0, hv.f, (e3.trans gr'.h).trans hv.b, fun a h => ?_, hv.b _ _ hL', ?_⟩
      · rcases hv.new a h with z | z
        · exact new' a z
        · exact .inr (none_of_ex (e3.trans gr'.h) z)
      · cases q : F4 L with
        | none => rfl
        | some u =>
          rcases hv.new L (by rw [q]; simp) with z | z
          · exact absurd hF' z
          · have z' : H' L = none := z
            rw [hL'] at z'; cases z'
    cases o with
    | none =>
      intro F4 H4 σ4 hv
      obtain ⟨k1, k2, k3, k4, k5, k6⟩ := fin hv
      exact ⟨F4, acc, dacc, rest', k1, k2, k3, k4, k5, k6, e7'.mono hv.f0, Nat.le_succ_of_le e8, f3, by rw [e10]; rfl⟩
    | some d =>
      intro v F4 H4 hv rv
      obtain ⟨k1, k2, k3, k4, k5, k6⟩ := fin hv
      refine ⟨acc, k5, by rw [line_eq, ← e7.len]; omega, F4, acc ++ [v], dacc ++ [d], rest', k1, fun a u h => ?_, fun a u h => ?_, k4, upd_same, k6, (e7'.mono hv.f0).app (Reps.one rv), by simp; exact e8, f3, by rw [e10]; simp⟩
      · rw [upd_ne (ne_of_none h k6)]; exact k2 a u h
      · rw [upd_ne (ne_of_none h hL0)]; exact k3 a u h
  · have e : i = ds.length := by omega
    subst e
    rw [List.drop_length] at e9
    cases e9
    refine .inl ⟨stop F H e1 e2 e3, q L F H ⟨gr.f.trans e1, e2, e3, e4⟩ hL0 e6 ?_⟩
    simp only [OwnC]
    exact ⟨acc, e5, by rw [e10]; simpa using e7⟩
theorem evo_comp {f : D → Option (Option D)} {mi : Option (List D)} (hw : noAt Γ vs = true) (hg : Tin g vs) (hi : EvI T wi (frz Γ) md mi) (hb : ∀ d, Bg T g (tCE tt te) (frz Γ) md d (f d) (PC T)) : EvO T (tLc wi g tt te vs) Γ (mi.bind fun ds => dComp f ds) := fun Z F H σ ok d hd Q q => by
  obtain ⟨ds, e1, e2⟩ := bind_inv hd
  unfold dComp at e2
  split at e2
  · rename_i hz
    obtain ⟨total, ht, rfl⟩ := Option.map_eq_some_iff.mp e2
    have okz := ok.frzd hw
    -- the source is read with the block's slots forgotten or not alike
    have oks : Ok T ⟨H, F, H, fun _ => 0⟩ (frz Γ) F H σ := ok.frzs
    refine hi ⟨H, F, H, fun _ => 0⟩ F H σ oks ds e1 _ fun J F1 H1 gr wk => ?_
    intro L hL
    exact comp_go hg okz gr hL wk.go wk.stop (fun i F3 H3 d hd e1 e2 e3 x H4 y => by
      have hi : i < ds.length := (List.getElem?_eq_some_iff.mp hd).1
      obtain ⟨F4, g4, r4⟩ := wk.yld i F3 H3 x H4 hi e1 e2 e3 y
      refine ⟨F4, g4, fun o ho E' pc Q' qq => ?_⟩
      have okr := okz.reb ((gr.f.trans e1).trans g4.f) g4.i (e3.trans g4.h)
      refine hb d ⟨H4, F4, H4, fun _ => 0⟩ F4 H4 _ x okr ?_ o ho E' pc Q' qq
      have r5 := r4 d hd
      cases md with
      | f => exact r5
      | b => exact Rep.mono (e3.trans g4.h) r5
      | h => exact r5) hz ht q
  · cases e2
theorem evo_comp2 {f : D × D → Option (Option D)} {mi : Option (List (D × D))} (hw : noAt Γ vs = true) (hg : Tin g vs) (hi : EvI2 T wi (frz Γ) ma mb mi) (hb : ∀ d e, Bg2 T g (tCE tt te) (frz Γ) ma mb d e (f (d, e)) (PC T)) : EvO T (tLc wi g tt te vs) Γ (mi.bind fun ds => dComp f ds) := fun Z F H σ ok d hd Q q => by
  obtain ⟨ds, e1, e2⟩ := bind_inv hd
  unfold dComp at e2
  split at e2
  · rename_i hz
    obtain ⟨total, ht, rfl⟩ := Option.map_eq_some_iff.mp e2
    have okz := ok.frzd hw
    have oks : Ok T ⟨H, F, H, fun _ => 0⟩ (frz Γ) F H σ := ok.frzs
    refine hi ⟨H, F, H, fun _ => 0⟩ F H σ oks ds e1 _ fun J F1 H1 gr wk => ?_
    intro L hL
    exact comp_go hg okz gr hL wk.go wk.stop (fun i F3 H3 d hd e1 e2 e3 x H4 y => by
      have hi : i < ds.length := (List.getElem?_eq_some_iff.mp hd).1
      obtain ⟨F4, g4, p, v, w, rfl, hq, r4⟩ := wk.yld i F3 H3 x H4 hi e1 e2 e3 y
      refine ⟨F4, g4, fun o ho E' pc Q' qq => ?_⟩
      have okr := okz.reb ((gr.f.trans e1).trans g4.f) g4.i (e3.trans g4.h)
      obtain ⟨r5, r6⟩ := r4 d hd
      refine hb d.1 d.2 ⟨H4, F4, H4, fun _ => 0⟩ F4 H4 _ p v w okr hq ?_ ?_ o ho E' pc Q' qq
      · cases ma with
        | f => exact r5
        | b => exact Rep.mono (e3.trans g4.h) r5
        | h => exact r5
      · cases mb with
        | f => exact r6
        | b => exact Rep.mono (e3.trans g4.h) r6
        | h => exact r6) hz ht q
  · cases e2
end
end Mi
/-! defs, their promises, their calls; instances -/
namespace Mi
open PySem L2
open PyProof.Rows
open Evl (Ex ex_t ex_l ex_rd fresh_back)
/-! ### the ends of a def's body -/
/-- a def that changes nothing: what it hands back -/
abbrev PD (T : Th) : Base → Ends → D → Prop := fun Z E d => ∀ v F H, RetOk T Z d [] v F H → E.rt v H
/-- the same where the body may run to its end -/
abbrev PN (T : Th) : Base → Ends → D → Prop := fun Z E d => PD T Z E d ∧ (d = .non → ∀ F H σ, Hv Z F H → E.nx σ H)
/-- a def that changes parameters: what they hold behind it -/
abbrev UR := D × List (Nat × D)
abbrev PU (T : Th) : Base → Ends → UR → Prop := fun Z E o => ∀ v F H, RetOk T Z o.1 o.2 v F H → E.rt v H
abbrev PV (T : Th) : Base → Ends → UR → Prop := fun Z E o => PU T Z E o ∧ (o.1 = .non → ∀ v F H σ, RetOk T Z o.1 o.2 v F H → E.nx σ H)
section
variable {ω α β γ : Type} {T : Th} {Γ Γ' : Ctx} {md : Md} {te ta tb : TE} {tc : TT} {t u v : TS} {me : Option D} {mc : Option Bool} {i j : Nat}
theorem RetOk.less {Z : Base} {d : D} {ms ms' : List (Nat × D)} {v : V} {F H : Hp} (r : RetOk T Z d ms v F H) (h : ∀ x ∈ ms', x ∈ ms) : RetOk T Z d ms' v F H := ⟨r.hv, r.rep, fun x hx => r.mus x (h x hx)⟩
theorem bd_ret (h : Ev T .f te Γ me) : B T (tRet te) Γ me (PD T) := fun Z F H σ ok d hd E p =>
  h Z F H σ ok d hd _ fun v F2 H2 g r => p v F2 H2 ⟨ok.hv.grow g, r, fun x hx => by cases hx⟩
theorem bd_retN : B T tRetN Γ (some .non) (PD T) := fun Z F H σ ok d hd E p => by
  cases hd
  exact p _ F H ⟨ok.hv, by simp only [Rep], fun x hx => by cases hx⟩
theorem bn_of {m : Option D} (h : B T t Γ m (PD T)) : B T t Γ m (PN T) := fun Z F H σ ok d hd E p => h Z F H σ ok d hd E p.1
theorem bn_end : B T tNext Γ (some .non) (PN T) := fun Z F H σ ok d hd E p => by
  cases hd
  exact p.2 rfl F H σ ok.hv
theorem bu_ret (h : Ev T .f te Γ me) {ms : List (Nat × D)} (hm : mus 0 Γ = ms := by rfl) : B T (tRet te) Γ (me.bind fun d => some (d, ms)) (PU T) := fun Z F H σ ok o ho E p => by
  subst hm
  obtain ⟨d, e1, e2⟩ := bind_inv ho
  cases e2
  refine h Z F H σ ok d e1 _ fun v F2 H2 g r => p v F2 H2 ⟨ok.hv.grow g, r, fun x hx => ?_⟩
  obtain ⟨_, q⟩ := mus_at hx
  obtain ⟨p', a, b, c, e, f⟩ := (ok.grow g).at' _ _ q
  simp only [Nat.sub_zero] at b
  rw [← b]
  exact ⟨e, f⟩
theorem bu_retN {ms : List (Nat × D)} (hm : mus 0 Γ = ms := by rfl) : B T tRetN Γ (some (.non, ms)) (PU T) := fun Z F H σ ok o ho E p => by
  subst hm
  cases ho
  refine p _ F H ⟨ok.hv, by simp only [Rep], fun x hx => ?_⟩
  obtain ⟨_, q⟩ := mus_at hx
  obtain ⟨p', a, b, c, e, f⟩ := ok.at' _ _ q
  simp only [Nat.sub_zero] at b
  rw [← b]
  exact ⟨e, f⟩
theorem bv_of {m : Option UR} (h : B T t Γ m (PU T)) : B T t Γ m (PV T) := fun Z F H σ ok d hd E p => h Z F H σ ok d hd E p.1
theorem bv_end {ms : List (Nat × D)} (hm : mus 0 Γ = ms := by rfl) : B T tNext Γ (some (.non, ms)) (PV T) := fun Z F H σ ok d hd E p => by
  subst hm
  cases hd
  refine p.2 rfl .non F H σ ⟨ok.hv, by simp only [Rep], fun x hx => ?_⟩
  obtain ⟨_, q⟩ := mus_at hx
  obtain ⟨p', a, b, c, e, f⟩ := ok.at' _ _ q
  simp only [Nat.sub_zero] at b
  rw [← b]
  exact ⟨e, f⟩
/-- if, the first branch hands back -/
theorem bd_ifx {m1 m2 : Option D} (hc : EvT T tc Γ mc) (ha : B T t Γ m1 (PD T)) (hb : B T (tSeq u v) Γ m2 (PD T)) : B T (tSeq (tIfS tc t u) v) Γ (mc.bind fun c => if c = true then m1 else m2) (PD T) := fun Z F H σ ok o ho E p => by
  obtain ⟨c, e1, e2⟩ := bind_inv ho
  refine hc Z F H σ ok c e1 _ fun F2 H2 g => ?_
  cases c with
  | true => exact ha Z F2 H2 σ (ok.grow g) o e2 { E with nx := v E } p
  | false => exact hb Z F2 H2 σ (ok.grow g) o e2 E p
theorem bd_ifx0 {m1 m2 : Option D} (hc : EvT T tc Γ mc) (ha : B T t Γ m1 (PD T)) (hb : B T v Γ m2 (PD T)) : B T (tSeq (tIfS tc t tNext) v) Γ (mc.bind fun c => if c = true then m1 else m2) (PD T) := bd_ifx hc ha hb
theorem bn_ifx {m1 m2 : Option D} (hc : EvT T tc Γ mc) (ha : B T t Γ m1 (PD T)) (hb : B T (tSeq u v) Γ m2 (PN T)) : B T (tSeq (tIfS tc t u) v) Γ (mc.bind fun c => if c = true then m1 else m2) (PN T) := fun Z F H σ ok o ho E p => by
  obtain ⟨c, e1, e2⟩ := bind_inv ho
  refine hc Z F H σ ok c e1 _ fun F2 H2 g => ?_
  cases c with
  | true => exact ha Z F2 H2 σ (ok.grow g) o e2 { E with nx := v E } p.1
  | false => exact hb Z F2 H2 σ (ok.grow g) o e2 E p
theorem bn_ifx0 {m1 m2 : Option D} (hc : EvT T tc Γ mc) (ha : B T t Γ m1 (PD T)) (hb : B T v Γ m2 (PN T)) : B T (tSeq (tIfS tc t tNext) v) Γ (mc.bind fun c => if c = true then m1 else m2) (PN T) := bn_ifx hc ha hb
theorem bu_ifx {m1 m2 : Option UR} (hc : EvT T tc Γ mc) (ha : B T t Γ m1 (PU T)) (hb : B T (tSeq u v) Γ m2 (PU T)) : B T (tSeq (tIfS tc t u) v) Γ (mc.bind fun c => if c = true then m1 else m2) (PU T) := fun Z F H σ ok o ho E p => by
  obtain ⟨c, e1, e2⟩ := bind_inv ho
  refine hc Z F H σ ok c e1 _ fun F2 H2 g => ?_
  cases c with
  | true => exact ha Z F2 H2 σ (ok.grow g) o e2 { E with nx := v E } p
  | false => exact hb Z F2 H2 σ (ok.grow g) o e2 E p
theorem bu_ifx0 {m1 m2 : Option UR} (hc : EvT T tc Γ mc) (ha : B T t Γ m1 (PU T)) (hb : B T v Γ m2 (PU T)) : B T (tSeq (tIfS tc t tNext) v) Γ (mc.bind fun c => if c = true then m1 else m2) (PU T) := bu_ifx hc ha hb
theorem bv_ifx {m1 m2 : Option UR} (hc : EvT T tc Γ mc) (ha : B T t Γ m1 (PU T)) (hb : B T (tSeq u v) Γ m2 (PV T)) : B T (tSeq (tIfS tc t u) v) Γ (mc.bind fun c => if c = true then m1 else m2) (PV T) := fun Z F H σ ok o ho E p => by
  obtain ⟨c, e1, e2⟩ := bind_inv ho
  refine hc Z F H σ ok c e1 _ fun F2 H2 g => ?_
  cases c with
  | true => exact ha Z F2 H2 σ (ok.grow g) o e2 { E with nx := v E } p.1
  | false => exact hb Z F2 H2 σ (ok.grow g) o e2 E p
theorem bv_ifx0 {m1 m2 : Option UR} (hc : EvT T tc Γ mc) (ha : B T t Γ m1 (PU T)) (hb : B T v Γ m2 (PV T)) : B T (tSeq (tIfS tc t tNext) v) Γ (mc.bind fun c => if c = true then m1 else m2) (PV T) := bv_ifx hc ha hb
/-- a loop that may hand back, then the rest -/
def Out.thnD (o : Out γ Empty) (k : γ → Option D) : Option D := match o with
  | .nx a => k a
  | .rt d _ => some d
@[simp] theorem Out.thnD_nx (a : γ) (k : γ → Option D) : Out.thnD (.nx a) k = k a := id rfl
@[simp] theorem Out.thnD_rt (d : D) (ms : List (Nat × D)) (k : γ → Option D) : Out.thnD (.rt d ms) k = some d := id rfl
def Out.thnU (o : Out γ Empty) (k : γ → Option UR) : Option UR := match o with
  | .nx a => k a
  | .rt d ms => some (d, ms)
@[simp] theorem Out.thnU_nx (a : γ) (k : γ → Option UR) : Out.thnU (.nx a) k = k a := id rfl
@[simp] theorem Out.thnU_rt (d : D) (ms : List (Nat × D)) (k : γ → Option UR) : Out.thnU (.rt d ms) k = some (d, ms) := id rfl
abbrev noL : Empty → Ctx := fun e => nomatch e
theorem bd_seqx {m1 : Option (Out γ Empty)} {Γ1 : γ → Ctx} {m2 : γ → Option D} (h1 : B T t Γ m1 (PT T Γ1 noL)) (h2 : ∀ a, B T u (Γ1 a) (m2 a) (PD T)) : B T (tSeq t u) Γ (m1.bind fun o => o.thnD m2) (PD T) := fun Z F H σ ok o ho E p => by
  obtain ⟨a, e1, e2⟩ := bind_inv ho
  refine h1 Z F H σ ok a e1 _ ?_
  cases a with
  | nx a => exact fun F2 H2 σ2 ok2 => h2 a Z F2 H2 σ2 ok2 o e2 E p
  | ct b => exact nomatch b
  | bk b => exact nomatch b
  | rt d ms => cases e2; exact fun v F2 H2 r => p v F2 H2 (r.less fun x hx => by cases hx)
theorem bn_seqx {m1 : Option (Out γ Empty)} {Γ1 : γ → Ctx} {m2 : γ → Option D} (h1 : B T t Γ m1 (PT T Γ1 noL)) (h2 : ∀ a, B T u (Γ1 a) (m2 a) (PN T)) : B T (tSeq t u) Γ (m1.bind fun o => o.thnD m2) (PN T) := fun Z F H σ ok o ho E p => by
  obtain ⟨a, e1, e2⟩ := bind_inv ho
  refine h1 Z F H σ ok a e1 _ ?_
  cases a with
  | nx a => exact fun F2 H2 σ2 ok2 => h2 a Z F2 H2 σ2 ok2 o e2 E p
  | ct b => exact nomatch b
  | bk b => exact nomatch b
  | rt d ms => cases e2; exact fun v F2 H2 r => p.1 v F2 H2 (r.less fun x hx => by cases hx)
theorem bu_seqx {m1 : Option (Out γ Empty)} {Γ1 : γ → Ctx} {m2 : γ → Option UR} (h1 : B T t Γ m1 (PT T Γ1 noL)) (h2 : ∀ a, B T u (Γ1 a) (m2 a) (PU T)) : B T (tSeq t u) Γ (m1.bind fun o => o.thnU m2) (PU T) := fun Z F H σ ok o ho E p => by
  obtain ⟨a, e1, e2⟩ := bind_inv ho
  refine h1 Z F H σ ok a e1 _ ?_
  cases a with
  | nx a => exact fun F2 H2 σ2 ok2 => h2 a Z F2 H2 σ2 ok2 o e2 E p
  | ct b => exact nomatch b
  | bk b => exact nomatch b
  | rt d ms => cases e2; exact p
theorem bv_seqx {m1 : Option (Out γ Empty)} {Γ1 : γ → Ctx} {m2 : γ → Option UR} (h1 : B T t Γ m1 (PT T Γ1 noL)) (h2 : ∀ a, B T u (Γ1 a) (m2 a) (PV T)) : B T (tSeq t u) Γ (m1.bind fun o => o.thnU m2) (PV T) := fun Z F H σ ok o ho E p => by
  obtain ⟨a, e1, e2⟩ := bind_inv ho
  refine h1 Z F H σ ok a e1 _ ?_
  cases a with
  | nx a => exact fun F2 H2 σ2 ok2 => h2 a Z F2 H2 σ2 ok2 o e2 E p
  | ct b => exact nomatch b
  | bk b => exact nomatch b
  | rt d ms => cases e2; exact p.1
/-- the last statement is such a loop (while True) -/
theorem bd_lastx {m1 : Option (Out γ Empty)} (h1 : B T t Γ m1 (PT T (fun _ : γ => [.bad]) noL)) : B T t Γ (m1.bind fun o => o.thnD fun _ => none) (PD T) := fun Z F H σ ok o ho E p => by
  obtain ⟨a, e1, e2⟩ := bind_inv ho
  refine h1 Z F H σ ok a e1 _ ?_
  cases a with
  | nx a => cases e2
  | ct b => exact nomatch b
  | bk b => exact nomatch b
  | rt d ms => cases e2; exact fun v F2 H2 r => p v F2 H2 (r.less fun x hx => by cases hx)
theorem bu_lastx {m1 : Option (Out γ Empty)} (h1 : B T t Γ m1 (PT T (fun _ : γ => [.bad]) noL)) : B T t Γ (m1.bind fun o => o.thnU fun _ => none) (PU T) := fun Z F H σ ok o ho E p => by
  obtain ⟨a, e1, e2⟩ := bind_inv ho
  refine h1 Z F H σ ok a e1 _ ?_
  cases a with
  | nx a => cases e2
  | ct b => exact nomatch b
  | bk b => exact nomatch b
  | rt d ms => cases e2; exact p
theorem bt_ret' {Γn : α → Ctx} {Γl : β → Ctx} (h : Ev T .f te Γ me) {ms : List (Nat × D)} (hm : mus 0 Γ = ms := by rfl) : B T (tRet te) Γ (me.bind fun d => some (.rt d ms)) (PT T Γn Γl) := by
  subst hm
  exact bt_ret h
theorem b_never {P : Base → Ends → ω → Prop} : B T tNever Γ none P := fun Z F H σ ok o ho => by cases ho
end
/-! ### promises -/
inductive PK where
  | f | h | u
def RepsK (T : Th) (Z : Base) (F H : Hp) : Nat → List PK → List D → List V → Prop
  | _, [], ds, vs => ds = [] ∧ vs = []
  | i, k :: ks, ds, vs => ∃ d ds' v vs', ds = d :: ds' ∧ vs = v :: vs' ∧ (match k with
      | .f => Rep T F d v
      | .h => Rep T Z.B d v
      | .u => v = .ref (Z.P i) ∧ Z.B (Z.P i) = none ∧ F (Z.P i) = none ∧ OwnC T F H (Z.P i) d) ∧ RepsK T Z F H (i + 1) ks ds' vs'
theorem RepsK.len {T : Th} {Z : Base} {F H : Hp} : ∀ {ks : List PK} {i : Nat} {ds : List D} {vs : List V}, RepsK T Z F H i ks ds vs → vs.length = ks.length ∧ ds.length = ks.length
  | [], _, _, _, ⟨a, b⟩ => by subst a b; exact ⟨rfl, rfl⟩
  | k :: ks, i, _, _, ⟨d, ds', v, vs', a, b, _, r⟩ => by subst a b; simp [RepsK.len r]
def spU (T : Th) (ks : List PK) (m : List D → Option UR) : Sp := fun vs H Q _ => ∃ (Z : Base) (F : Hp) (ds : List D), Z.F = F ∧ Z.H = H ∧ Hv Z F H ∧ RepsK T Z F H 0 ks ds vs ∧ (∀ i j, ks[i]? = some PK.u → ks[j]? = some PK.u → Z.P i = Z.P j → i = j) ∧
  ∃ o, m ds = some o ∧ ∀ v F2 H2, RetOk T Z o.1 o.2 v F2 H2 → Q v H2
/-- a def that changes nothing -/
def pur (f : List D → Option D) : List D → Option UR := fun ds => (f ds).map fun d => (d, [])
def ctx0 : List PK → List D → Ctx
  | .f :: ks, d :: ds => .val d :: ctx0 ks ds
  | .h :: ks, d :: ds => .bor d :: ctx0 ks ds
  | .u :: ks, d :: ds => .mu d :: ctx0 ks ds
  | _, _ => []
theorem ctx0_slot {T : Th} {Z : Base} {F H : Hp} : ∀ {ks : List PK} {n : Nat} {ds : List D} {vs : List V}, RepsK T Z F H n ks ds vs → ∀ (i : Nat) (s : Slot), (ctx0 ks ds)[i]? = some s → SlotOk T Z F H (n + i) (some vs[i]?) s
  | [], n, _, _, ⟨a, b⟩, i, s, e => by subst a b; simp [ctx0] at e
  | k :: ks, n, _, _, ⟨d, ds', v, vs', a, b, c, r⟩, i, s, e => by
    subst a b
    cases i with
    | zero =>
      cases k <;> simp only [ctx0, List.getElem?_cons_zero, Option.some.injEq] at e <;> subst e
      · exact ⟨v, rfl, c⟩
      · exact ⟨v, rfl, c⟩
      · obtain ⟨c1, c2, c3, c4⟩ := c
        exact ⟨_, by rw [c1]; rfl, rfl, c2, c3, c4⟩
    | succ i =>
      have e' : (ctx0 ks ds')[i]? = some s := by
        cases k <;> simpa [ctx0] using e
      have := ctx0_slot r i s e'
      have h1 : n + 1 + i = n + (i + 1) := by omega
      rw [h1] at this
      simpa using this
theorem ctx0_len : ∀ {ks : List PK} {ds : List D}, (ctx0 ks ds).length ≤ ds.length
  | [], ds => by simp [ctx0]
  | k :: ks, [] => by cases k <;> simp [ctx0]
  | k :: ks, d :: ds => by cases k <;> simp [ctx0, ctx0_len]
theorem ctx0_own : ∀ {ks : List PK} {ds : List D} {i : Nat} {s : Slot}, (ctx0 ks ds)[i]? = some s → s.isOwn = true → ks[i]? = some .u
  | [], ds, i, s, e, o => by simp [ctx0] at e
  | k :: ks, [], i, s, e, o => by cases k <;> simp [ctx0] at e
  | k :: ks, d :: ds, 0, s, e, o => by
    cases k <;> simp only [ctx0, List.getElem?_cons_zero, Option.some.injEq] at e <;> subst e <;> first | rfl | cases o
  | k :: ks, d :: ds, i + 1, s, e, o => by
    have e' : (ctx0 ks ds)[i]? = some s := by cases k <;> simpa [ctx0] using e
    simpa using ctx0_own e' o
theorem start_at {N : List Str} {vs : List V} {i : Nat} (h : i < vs.length) : (L2.start N vs)[i]? = some vs[i]? := by
  unfold L2.start
  rw [List.getElem?_append_left (by simpa using h), List.getElem?_map]
  simp [h]
theorem ok_start {T : Th} {Z : Base} {F H : Hp} {ks : List PK} {ds : List D} {vs : List V} {N : List Str} {Γ : Ctx} (hv : Hv Z F H) (r : RepsK T Z F H 0 ks ds vs) (sep : ∀ i j, ks[i]? = some PK.u → ks[j]? = some PK.u → Z.P i = Z.P j → i = j)
    (hN : ks.length ≤ N.length) (hΓ : Γ = ctx0 ks ds ++ List.replicate (N.length - ks.length) .no) : Ok T Z Γ F H (L2.start N vs) := by
  subst hΓ
  obtain ⟨lv, ld⟩ := r.len
  have lc : (ctx0 ks ds).length ≤ vs.length := by have := ctx0_len (ks := ks) (ds := ds); omega
  have split : ∀ {i : Nat} {s : Slot}, (ctx0 ks ds ++ List.replicate (N.length - ks.length) .no)[i]? = some s → (ctx0 ks ds)[i]? = some s ∨ s = .no := fun {i s} e => by
    by_cases hi : i < (ctx0 ks ds).length
    · rw [List.getElem?_append_left hi] at e; exact .inl e
    · rw [List.getElem?_append_right (by omega), List.getElem?_replicate] at e
      split at e
      · exact .inr (by simpa using e.symm)
      · cases e
  refine ⟨hv, ?_, fun i s e => ?_, fun i j p s t e1 o1 e2 o2 a b => ?_⟩
  · unfold L2.start
    simp only [List.length_append, List.length_replicate, List.length_map]
    omega
  · rcases split e with q | q
    · have hi : i < vs.length := by
        have := (List.getElem?_eq_some_iff.mp q).1
        omega
      rw [start_at hi]
      have := ctx0_slot r i s q
      simpa using this
    · subst q; trivial
  · have f : ∀ {i : Nat} {s : Slot} {p : Addr}, (ctx0 ks ds ++ List.replicate (N.length - ks.length) .no)[i]? = some s → s.isOwn = true → (L2.start N vs)[i]? = some (some (V.ref p)) → ks[i]? = some .u ∧ p = Z.P i := fun {i s p} e o a => by
      rcases split e with q | q
      · have hu := ctx0_own q o
        have hi : i < vs.length := by
          have := (List.getElem?_eq_some_iff.mp q).1
          omega
        have sl := ctx0_slot r i s q
        rw [start_at hi] at a
        refine ⟨hu, ?_⟩
        cases s <;> simp only [Slot.isOwn] at o <;> first | (cases o; done) | skip
        · -- an own slot stands in no start
          exfalso
          have : ∀ {ks : List PK} {ds : List D} {i : Nat} {d : D}, (ctx0 ks ds)[i]? = some (.own d) → False := by
            intro ks
            induction ks with
            | nil => intro ds i d e; simp [ctx0] at e
            | cons k ks ih =>
              intro ds i d e
              cases ds with
              | nil => cases k <;> simp [ctx0] at e
              | cons d0 ds =>
                cases i with
                | zero => cases k <;> simp [ctx0] at e
                | succ i => exact ih (ds := ds) (i := i) (d := d) (by cases k <;> simpa [ctx0] using e)
          exact this q
        · obtain ⟨p', z1, z2, _⟩ := sl
          simp only [Nat.zero_add] at z2
          rw [a] at z1
          cases z1
          exact z2
      · subst q; cases o
    obtain ⟨u1, p1⟩ := f e1 o1 a
    obtain ⟨u2, p2⟩ := f e2 o2 b
    exact sep i j u1 u2 (by rw [← p1, ← p2])
/-- a def keeps its promise -/
theorem fn_ok {P : Program} {w : World} {K : PySem.W.Frag} {mg : Str → Option Value} {base : Heap} {T : Th} {x qual : Str} {st : Stmt} {f : Addr} {fd : FuncData} {N ps : List Str} {k : Nat} {ks : List PK} {m : List D → Option UR} (F : Fun K x qual st f fd) (S : FnScope N ps (defScope st)) (hk : ks.length = ps.length) (hN : ks.length ≤ N.length)
    (hbody : ∀ (cdv : Value) (A : Around) (outer : List Env) (s : Shared) (H : Hp) (E : XK), Room k (A.deeper (envOfC qual (defScope st) s.heap.objs.size f cdv)) →
      ∃ t, PSs (cxOf CX0 P w K mg base N qual (defScope st) f cdv A outer s H E).nox (defBody st) t ∧ ∀ ds, ds.length = ks.length → B T t (ctx0 ks ds ++ List.replicate (N.length - ks.length) .no) (m ds) (PV T)) :
    FnOk P w K mg base CX0 (k + 1) f fd ps (spU T ks m) := by
  refine F.ok S (fun vs H Q E h => ?_) (fun cdv A outer s H vs Q E hr h => ?_)
  · obtain ⟨Z, F', ds, _, _, _, r, _⟩ := h
    rw [← hk]; exact r.len.1
  · obtain ⟨t, ht, hb⟩ := hbody cdv A outer s H E hr
    obtain ⟨Z, F', ds, _, _, hv, r, sep, o, ho, q⟩ := h
    refine ⟨t, ht, hb ds r.len.2 Z F' H _ (ok_start hv r sep hN rfl) o ho _ ⟨q, fun e v F2 H2 σ r => ?_⟩⟩
    show Q .non H2
    have rv := r.rep
    rw [e] at rv
    simp only [Rep] at rv
    subst rv
    exact q _ F2 H2 r
theorem bv_pur {T : Th} {t : TS} {Γ : Ctx} {m : Option D} (h : B T t Γ m (PN T)) : B T t Γ (m.map fun d => (d, [])) (PV T) := fun Z F H σ ok o ho E p => by
  obtain ⟨d, e1, rfl⟩ := Option.map_eq_some_iff.mp ho
  refine h Z F H σ ok d e1 E ⟨p.1, fun hd F2 H2 σ2 hv => ?_⟩
  subst hd
  exact p.2 rfl .non F2 H2 σ2 ⟨hv, by simp only [Rep], fun x hx => by cases hx⟩
/-! ### calls of defs that change nothing -/
def kMd : PK → Md
  | .f => .f
  | _ => .h
def noU (ks : List PK) : Bool := ks.all fun k => match k with | .u => false | _ => true
section
variable {T : Th} {Γ : Ctx} {md : Md} {ta : TA} {te : TE} {ks : List PK} {ms : Option (List D)} {f : List D → Option D} {me : Option D}
theorem repsK_of {F H : Hp} : ∀ {ks : List PK} {n : Nat} {ds : List D} {vs : List V} {Z : Base}, noU ks = true → RepsM T Z F H (ks.map kMd) ds vs → RepsK T ⟨H, F, H, fun _ => 0⟩ F H n ks ds vs
  | [], n, _, _, Z, _, ⟨a, b⟩ => ⟨a, b⟩
  | k :: ks, n, _, _, Z, h, ⟨d, ds', v, vs', a, b, c, r⟩ => by
    simp only [noU, List.all_cons, Bool.and_eq_true] at h
    refine ⟨d, ds', v, vs', a, b, ?_, repsK_of (Z := Z) (by simpa [noU] using h.2) r⟩
    cases k with
    | f => exact c
    | h => exact c
    | u => cases h.1
theorem noU_at {ks : List PK} (h : noU ks = true) {i : Nat} (e : ks[i]? = some PK.u) : False := by
  have := List.all_eq_true.mp h PK.u (List.mem_of_getElem? e)
  cases this
theorem sp_pur {F H : Hp} {Z : Base} {ds : List D} {vs : List V} {d : D} {Q : VK} {E : XK} (hu : noU ks = true) (ex : Ex F H) (r : RepsM T Z F H (ks.map kMd) ds vs) (hd : f ds = some d) (q : ∀ v F2 H2, Grow F F2 H H2 → Rep T F2 d v → Q v H2) :
    spU T ks (pur f) vs H Q E := by
  refine ⟨⟨H, F, H, fun _ => 0⟩, F, ds, rfl, rfl, ⟨Ex.refl H, Ex.refl F, ex, fun _ h => h, fun _ h => .inl h⟩, repsK_of hu r, fun i j h => (noU_at hu h).elim, (d, []), by unfold pur; rw [hd]; rfl, fun v F2 H2 ro => ?_⟩
  exact q v F2 H2 ⟨ro.hv.f0, ro.hv.f, ro.hv.b, ro.hv.new⟩ ro.rep
theorem ev_call {E : XK} (hu : noU ks = true) (ha : EvA T ta Γ (ks.map kMd) ms) (hm : md.fh = true := by rfl) : Ev T md (tCall (spU T ks (pur f)) [] E ta) Γ (ms.bind f) := fun Z F H σ ok d hd Q q => by
  obtain ⟨ds, e1, e2⟩ := bind_inv hd
  refine ha Z F H σ ok ds e1 _ fun vs F2 H2 g r => ?_
  rw [List.append_nil]
  exact sp_pur hu g.i r e2 fun v F3 H3 g3 rv => q v F3 H3 (g.trans g3) (rv.mono (sel_out g3.i hm))
/-- o.m(..), o an instance of the class c, m no field -/
def dSelf (c m : Str) (d : D) : Option D := match d with
  | .obj c' ns ds => if c' = c ∧ m ∉ ns then some d else none
  | _ => none
theorem lookup_zip_none {ns : List Str} {vs : List V} {m : Str} (h : m ∉ ns) : (ns.zip vs).lookup m = none := by
  induction ns generalizing vs with
  | nil => rfl
  | cons n ns ih =>
    cases vs with
    | nil => rfl
    | cons v vs =>
      simp only [List.mem_cons, not_or] at h
      have : (m == n) = false := by simpa using h.1
      simp [List.lookup, this, ih h.2]
theorem ev_meth {c m : Str} {E : XK} {k : PK} (hu : noU (k :: ks) = true) (ho : Ev T (kMd k) te Γ me) (ha : EvA T ta Γ (ks.map kMd) ms) (hm : md.fh = true := by rfl) :
    Ev T md (tMeth (T.C c) m (spU T (k :: ks) (pur f)) [] E te ta) Γ ((oCons (o1 (dSelf c m) me) ms).bind f) := fun Z F H σ ok d hd Q q => by
  obtain ⟨ds, e1, e2⟩ := bind_inv hd
  obtain ⟨o, r, e3, e4, e5⟩ := o2_inv e1
  cases e5
  obtain ⟨x, e6, e7⟩ := o1_inv e3
  refine ho Z F H σ ok x e6 _ fun v F2 H2 g rv => ?_
  cases x <;> simp only [dSelf] at e7 <;> try (cases e7; done)
  split at e7
  · rename_i hc
    cases e7
    obtain ⟨rfl, hn⟩ := hc
    have rh := rv.mono (sel_in g.i (ok.grow g).hv.b)
    simp only [Rep] at rh
    obtain ⟨p, dx, vs, rfl, hp, hl, rr⟩ := rh
    refine ⟨p, dx, _, rfl, hp, lookup_zip_none hn, ha Z F2 H2 σ (ok.grow g) r e4 _ fun ws F3 H3 g3 r3 => ?_⟩
    rw [List.append_nil]
    refine sp_pur (Z := Z) (ds := _ :: r) hu g3.i ?_ e2 fun v F4 H4 g4 rv => q v F4 H4 ((g.trans g3).trans g4) (rv.mono (sel_out g4.i hm))
    exact ⟨_, _, _, _, rfl, rfl, rv.mono (sel_grow g3), r3⟩
  · cases e7
/-- o.f -/
def dFld (c f : Str) (d : D) : Option D := match d with
  | .obj c' ns ds => if c' = c then look ns ds f else none
  | _ => none
theorem look_lookup {H : Hp} {k : Str} : ∀ {ks : List Str} {ds : List D} {vs : List V} {d : D}, Reps T H ds vs → look ks ds k = some d → ∃ v, (ks.zip vs).lookup k = some v ∧ Rep T H d v
  | [], ds, vs, d, r, h => by simp [look] at h
  | a :: ks, [], vs, d, r, h => by simp [look] at h
  | a :: ks, e :: ds, vs, d, r, h => by
    obtain ⟨v, r', rfl, s, t⟩ := r.uncons
    by_cases hk : a = k
    · subst hk
      have : look (a :: ks) (e :: ds) a = some e := by simp [look, List.find?_cons]
      rw [this] at h; cases h
      exact ⟨v, by simp [List.lookup], s⟩
    · have e1 : look (a :: ks) (e :: ds) k = look ks ds k := by simp [look, List.find?_cons, hk]
      rw [e1] at h
      obtain ⟨w, hw, rw'⟩ := look_lookup t h
      have hk' : (k == a) = false := by simpa using fun q => hk q.symm
      exact ⟨w, by simp [List.lookup, hk', hw], rw'⟩
theorem ev_fld {c n : Str} (hc : Cls T.K (T.C c)) (hn : NoAttr T.K (T.C c) n) (ho : Ev T md te Γ me) : Ev T md (tFld T.K te n) Γ (o1 (dFld c n) me) := fun Z F H σ ok d hd Q q => by
  obtain ⟨x, e1, e2⟩ := o1_inv hd
  refine ho Z F H σ ok x e1 _ fun v F2 H2 g rv => ?_
  cases x <;> simp only [dFld] at e2 <;> try (cases e2; done)
  split at e2
  · rename_i hcc
    subst hcc
    simp only [Rep] at rv
    obtain ⟨p, dx, vs, rfl, hp, hl, rr⟩ := rv
    obtain ⟨w, hw, rw'⟩ := look_lookup rr e2
    exact ⟨p, _, dx, _, w, rfl, sel_in g.i (ok.grow g).hv.b _ _ hp, hc, hn, hw, q w F2 H2 g rw'⟩
  · cases e2
end
end Mi
/-! instances made, fields stored, calls that change arguments, a law's end -/
namespace Mi
open PySem L2
open PyProof.Rows
open Evl (Ex ex_t ex_l ex_rd fresh_back)
section
variable {ω : Type} {T : Th} {Γ : Ctx} {md : Md} {ta : TA} {te ti : TE} {ks : List PK} {ms : Option (List D)} {me mi : Option D} {i j : Nat}
/-! ### o.f = e -/
theorem putF_eq {H : Hp} {k : Str} {d : D} {v : V} (r : Rep T H d v) : ∀ {ks : List Str} {ds : List D} {vs : List V}, ks.length = ds.length → Reps T H ds vs →
    ∃ vs', putF k v (ks.zip vs) = (putKD ks ds k d).1.zip vs' ∧ (putKD ks ds k d).1.length = vs'.length ∧ Reps T H (putKD ks ds k d).2 vs'
  | [], [], vs, hl, rr => by
    simp only [Reps] at rr; subst rr
    exact ⟨[v], rfl, rfl, Reps.one r⟩
  | [], _ :: _, vs, hl, rr => by cases hl
  | _ :: _, [], vs, hl, rr => by cases hl
  | a :: ks, e :: ds, vs, hl, rr => by
    obtain ⟨w, r', rfl, s, t⟩ := rr.uncons
    by_cases h : a = k
    · subst h
      have e1 : putKD (a :: ks) (e :: ds) a d = (a :: ks, d :: ds) := by simp [putKD]
      rw [e1]
      refine ⟨v :: r', ?_, by simpa [← t.len] using hl, Reps.cons r t⟩
      show (if a = a then (a, v) :: ks.zip r' else _) = _
      rw [if_pos rfl]; rfl
    · obtain ⟨vs', i1, i2, i3⟩ := putF_eq (k := k) r (by simpa using hl) t
      have e1 : putKD (a :: ks) (e :: ds) k d = (a :: (putKD ks ds k d).1, e :: (putKD ks ds k d).2) := by simp [putKD, h]
      rw [e1]
      refine ⟨w :: vs', ?_, by simp [i2], Reps.cons s i3⟩
      show (if a = k then (a, v) :: ks.zip r' else (a, w) :: putF k v (ks.zip r')) = _
      rw [if_neg h, i1]; rfl
def dSetF (c f : Str) (d e : D) : Option D := match d with
  | .obj c' ns ds => if c' = c ∧ ns.length = ds.length ∧ ns.length < 1000 then some (.obj c' (putKD ns ds f e).1 (putKD ns ds f e).2) else none
  | _ => none
theorem bp_fld {s : Slot} {d : D} {c f : Str} (hc : Cls T.K (T.C c)) (hn : NoAttr T.K (T.C c) f) (hs : Γ[i]? = some s) (ho : s.isOwnD d) (he : Ev T .f te Γ me) :
    B T (sFld T.K (tVar i) te f) Γ (me.bind fun e => dSetF c f d e) (PP T fun d' => Γ.set i (s.put d')) := fun Z F H σ ok d' hd E p => by
  obtain ⟨e, e1, e2⟩ := bind_inv hd
  refine he Z F H σ ok e e1 _ fun v F2 H2 g r => ?_
  obtain ⟨q, a, b, cc, k⟩ := own_slot (ok.grow g) hs ho
  refine ⟨_, a, ?_⟩
  cases d <;> simp only [dSetF] at e2 <;> try (cases e2; done)
  split at e2
  · rename_i hz
    cases e2
    obtain ⟨rfl, h1, h2⟩ := hz
    simp only [OwnC] at cc
    obtain ⟨dx, vs, c1, c2, c3⟩ := cc
    obtain ⟨vs', z1, z2, z3⟩ := putF_eq (k := f) r h1 c3
    refine ⟨q, _, dx, _, rfl, c1, hc, hn, by rw [List.length_zip, ← c2, Nat.min_self]; exact h2, p F2 _ σ (k _ _ ?_)⟩
    simp only [OwnC]
    exact ⟨dx, vs', by rw [upd_same, z1], z2, z3⟩
  · cases e2
/-! ### C(..) -/
def dMake (c : Str) (m : List D → Option UR) (ds : List D) : Option D := (m (.obj c [] [] :: ds)).bind fun o => match o with
  | (.non, [(0, d)]) => some d
  | _ => none
theorem evo_make {c : Str} {m : List D → Option UR} {E : XK} (hu : noU ks = true) (ha : EvA T ta Γ (ks.map kMd) ms) : EvO T (tMake (T.C c) (spU T (.u :: ks) m) [] E ta) Γ (ms.bind (dMake c m)) := fun Z F H σ ok d hd Q q => by
  obtain ⟨ds, e1, e2⟩ := bind_inv hd
  refine ha Z F H σ ok ds e1 _ fun vs F2 H2 g r => ?_
  intro x dx hx hdx hne
  rw [List.append_nil]
  obtain ⟨o, e3, e4⟩ := bind_inv (show (m (.obj c [] [] :: ds)).bind _ = some d from e2)
  split at e4
  · rename_i d'
    cases e4
    have hx1 : upd H2 dx (.own x) x = none := by rw [upd_ne hne.symm]; exact hx
    have eB : Ex H2 (upd H2 dx (.own x)) := Ex.new hdx
    have eH : Ex (upd H2 dx (.own x)) (upd (upd H2 dx (.own x)) x (.ins (T.C c) dx [])) := Ex.new hx1
    have hfx : F2 x = none := none_of_ex g.i hx
    refine ⟨⟨upd H2 dx (.own x), F2, upd (upd H2 dx (.own x)) x (.ins (T.C c) dx []), fun _ => x⟩, F2, _, rfl, rfl, ⟨eH, Ex.refl F2, g.i.trans (eB.trans eH), fun _ h => h, fun _ h => .inl h⟩, ?_, fun i j h1 h2 _ => ?_, _, e3, fun v F3 H3 ro => ?_⟩
    · refine ⟨_, ds, _, vs, rfl, rfl, ⟨rfl, hx1, hfx, ?_⟩, ?_⟩
      · simp only [OwnC]
        exact ⟨dx, [], by rw [upd_same]; rfl, rfl, Reps.nil⟩
      · -- the other arguments: read in the heap without the new instance
        have go : ∀ {ks : List PK} {n : Nat} {ds : List D} {vs : List V}, noU ks = true → RepsM T Z F2 H2 (ks.map kMd) ds vs → RepsK T ⟨upd H2 dx (.own x), F2, upd (upd H2 dx (.own x)) x (.ins (T.C c) dx []), fun _ => x⟩ F2 (upd (upd H2 dx (.own x)) x (.ins (T.C c) dx [])) n ks ds vs := by
          intro ks
          induction ks with
          | nil => intro n ds vs _ h; exact h
          | cons k ks ih =>
            intro n ds vs h r
            obtain ⟨d1, ds', v1, vs', a, b, c, r⟩ := r
            simp only [noU, List.all_cons, Bool.and_eq_true] at h
            refine ⟨d1, ds', v1, vs', a, b, ?_, ih (by simpa [noU] using h.2) r⟩
            cases k with
            | f => exact c
            | h => exact Rep.mono eB c
            | u => cases h.1
        exact go hu r
    · have z : ∀ {i : Nat}, (PK.u :: ks)[i]? = some PK.u → i = 0 := fun {i} h => by
        cases i with
        | zero => rfl
        | succ i => exact (noU_at hu (by simpa using h)).elim
      rw [z h1, z h2]
    · refine ⟨?_, ?_⟩
      · have := ro.rep; simpa only [Rep] using this
      · obtain ⟨m1, m2⟩ := ro.mus (0, d) (by simp)
        refine q x F3 H3 (g.trans ⟨ro.hv.f0, ro.hv.f, eB.trans ro.hv.b, fun a h => ?_⟩) (none_of_ex g.h hx) m1 m2
        rcases ro.hv.new a h with z | z
        · exact .inl z
        · exact .inr (none_of_ex (eB.trans eH) z)
  · cases e4
/-! ### f(.., xs, ..), xs changed -/
inductive AK where
  | f | hf | hb | ho (j : Nat) | u (i : Nat)
def AK.pk : AK → PK
  | .f => .f
  | .u _ => .u
  | _ => .h
def RepsA (T : Th) (Z : Base) (F H : Hp) (σ : L2.St) : List AK → List D → List V → Prop
  | [], ds, vs => ds = [] ∧ vs = []
  | a :: as, ds, vs => ∃ d ds' v vs', ds = d :: ds' ∧ vs = v :: vs' ∧ (match a with
      | .f => Rep T F d v
      | .hf => Rep T F d v
      | .hb => Rep T Z.B d v
      | .ho j => ∃ p, v = .ref p ∧ σ[j]? = some (some (.ref p)) ∧ OwnC T F H p d
      | .u i => ∃ p, v = .ref p ∧ σ[i]? = some (some (.ref p)) ∧ OwnC T F H p d) ∧ RepsA T Z F H σ as ds' vs'
theorem RepsA.grow {Z : Base} {F F2 H H2 : Hp} {σ : L2.St} (g : Grow F F2 H H2) : ∀ {as : List AK} {ds : List D} {vs : List V}, RepsA T Z F H σ as ds vs → RepsA T Z F2 H2 σ as ds vs
  | [], _, _, h => h
  | a :: as, _, _, ⟨d, ds', v, vs', h1, h2, h3, r⟩ => by
    refine ⟨d, ds', v, vs', h1, h2, ?_, RepsA.grow g r⟩
    cases a with
    | f => exact Rep.mono g.f h3
    | hf => exact Rep.mono g.f h3
    | hb => exact h3
    | ho j => obtain ⟨p, a, b, c⟩ := h3; exact ⟨p, a, b, c.grow g.f g.h⟩
    | u i => obtain ⟨p, a, b, c⟩ := h3; exact ⟨p, a, b, c.grow g.f g.h⟩
def EvK (T : Th) (ta : TA) (Γ : Ctx) (as : List AK) (m : Option (List D)) : Prop := ∀ Z F H σ, Ok T Z Γ F H σ → ∀ ds, m = some ds → ∀ Q : List V → Hp → Prop, (∀ vs F2 H2, Grow F F2 H H2 → RepsA T Z F2 H2 σ as ds vs → Q vs H2) → ta σ H Q
variable {as : List AK} {tr : TA}
theorem evk_nil : EvK T tNil Γ [] (some []) := fun Z F H σ ok ds hd Q q => by
  cases hd
  exact q [] F H (Grow.refl ok.hv.f) ⟨rfl, rfl⟩
theorem evk_f (h : Ev T .f te Γ me) (hr : EvK T tr Γ as ms) : EvK T (tCons te tr) Γ (.f :: as) (oCons me ms) := fun Z F H σ ok ds hd Q q => by
  obtain ⟨x, y, e1, e2, e3⟩ := o2_inv hd
  cases e3
  exact h Z F H σ ok x e1 _ fun v F2 H2 g r => hr Z F2 H2 σ (ok.grow g) y e2 _ fun vs F3 H3 g' r' => q (v :: vs) F3 H3 (g.trans g') ⟨x, y, v, vs, rfl, rfl, r.mono g'.f, r'⟩
theorem evk_hf (h : Ev T .f te Γ me) (hr : EvK T tr Γ as ms) : EvK T (tCons te tr) Γ (.hf :: as) (oCons me ms) := fun Z F H σ ok ds hd Q q => by
  obtain ⟨x, y, e1, e2, e3⟩ := o2_inv hd
  cases e3
  exact h Z F H σ ok x e1 _ fun v F2 H2 g r => hr Z F2 H2 σ (ok.grow g) y e2 _ fun vs F3 H3 g' r' => q (v :: vs) F3 H3 (g.trans g') ⟨x, y, v, vs, rfl, rfl, r.mono g'.f, r'⟩
theorem evk_hb (h : Ev T .b te Γ me) (hr : EvK T tr Γ as ms) : EvK T (tCons te tr) Γ (.hb :: as) (oCons me ms) := fun Z F H σ ok ds hd Q q => by
  obtain ⟨x, y, e1, e2, e3⟩ := o2_inv hd
  cases e3
  exact h Z F H σ ok x e1 _ fun v F2 H2 g r => hr Z F2 H2 σ (ok.grow g) y e2 _ fun vs F3 H3 g' r' => q (v :: vs) F3 H3 (g.trans g') ⟨x, y, v, vs, rfl, rfl, r, r'⟩
theorem evk_ho {s : Slot} {d : D} (hs : Γ[j]? = some s) (ho : s.isOwnD d) (hr : EvK T tr Γ as ms) : EvK T (tCons (tVar j) tr) Γ (.ho j :: as) (oCons (some d) ms) := fun Z F H σ ok ds hd Q q => by
  obtain ⟨x, y, e1, e2, e3⟩ := o2_inv hd
  cases e3
  cases e1
  obtain ⟨p, a, b, c, _⟩ := own_slot ok hs ho
  exact ⟨_, a, hr Z F H σ ok y e2 _ fun vs F3 H3 g' r' => q (_ :: vs) F3 H3 g' ⟨_, y, _, vs, rfl, rfl, ⟨p, rfl, a, c.grow g'.f g'.h⟩, r'⟩⟩
theorem evk_u {s : Slot} {d : D} (hs : Γ[i]? = some s) (ho : s.isOwnD d) (hr : EvK T tr Γ as ms) : EvK T (tCons (tVar i) tr) Γ (.u i :: as) (oCons (some d) ms) := fun Z F H σ ok ds hd Q q => by
  obtain ⟨x, y, e1, e2, e3⟩ := o2_inv hd
  cases e3
  cases e1
  obtain ⟨p, a, b, c, _⟩ := own_slot ok hs ho
  exact ⟨_, a, hr Z F H σ ok y e2 _ fun vs F3 H3 g' r' => q (_ :: vs) F3 H3 g' ⟨_, y, _, vs, rfl, rfl, ⟨p, rfl, a, c.grow g'.f g'.h⟩, r'⟩⟩
/-- which slots are changed: by the arguments' places -/
def usOf : Nat → List AK → List (Nat × Nat)
  | _, [] => []
  | n, .u i :: as => (n, i) :: usOf (n + 1) as
  | n, _ :: as => usOf (n + 1) as
def hosOf : List AK → List Nat
  | [] => []
  | .ho j :: as => j :: hosOf as
  | _ :: as => hosOf as
/-- what the k-th argument holds behind the call -/
def cU (o : UR) (k : Nat) : D := (o.2.lookup k).getD .non
def chkU (us : List (Nat × Nat)) (o : UR) : Option UR := if us.all fun u => (o.2.lookup u.1).isSome then some o else none
def updU (Γ : Ctx) (us : List (Nat × Nat)) (o : UR) : Ctx := us.foldl (fun Γ u => match Γ[u.2]? with
  | some s => Γ.set u.2 (s.put (cU o u.1))
  | none => Γ) Γ
def ownAt (Γ : Ctx) (i : Nat) : Bool := match Γ[i]? with
  | some s => s.isOwn
  | none => false
theorem Slot.put_own (s : Slot) (d : D) : (s.put d).isOwn = s.isOwn := by cases s <;> rfl
theorem updU_len {us : List (Nat × Nat)} {o : UR} : ∀ {Γ : Ctx}, (updU Γ us o).length = Γ.length := by
  induction us with
  | nil => intro Γ; rfl
  | cons u us ih =>
    intro Γ
    show (updU (match Γ[u.2]? with | some s => Γ.set u.2 (s.put (cU o u.1)) | none => Γ) us o).length = _
    rw [ih]
    split <;> simp
theorem updU_at {us : List (Nat × Nat)} {o : UR} : ∀ {Γ : Ctx} {i : Nat} {s : Slot}, (us.map (·.2)).Nodup → (updU Γ us o)[i]? = some s →
    (i ∉ us.map (·.2) ∧ Γ[i]? = some s) ∨ ∃ k s', (k, i) ∈ us ∧ Γ[i]? = some s' ∧ s = s'.put (cU o k) := by
  induction us with
  | nil => intro Γ i s _ h; exact .inl ⟨by simp, h⟩
  | cons u us ih =>
    intro Γ i s hn h
    simp only [List.map_cons, List.nodup_cons] at hn
    have h' : (updU (match Γ[u.2]? with | some s => Γ.set u.2 (s.put (cU o u.1)) | none => Γ) us o)[i]? = some s := h
    rcases ih hn.2 h' with ⟨a, b⟩ | ⟨k, s', a, b, c⟩
    · by_cases e : i = u.2
      · subst e
        cases q : Γ[u.2]? with
        | none => rw [q] at b; simp only at b; rw [q] at b; cases b
        | some s0 =>
          rw [q] at b
          simp only at b
          have hl : u.2 < Γ.length := (List.getElem?_eq_some_iff.mp q).1
          rw [List.getElem?_set_self hl] at b
          cases b
          exact .inr ⟨u.1, s0, by simp, rfl, rfl⟩
      · refine .inl ⟨by simp only [List.map_cons, List.mem_cons, not_or]; exact ⟨e, a⟩, ?_⟩
        cases q : Γ[u.2]? with
        | none => rw [q] at b; exact b
        | some s0 =>
          rw [q] at b
          simp only at b
          rw [List.getElem?_set_ne (Ne.symm e)] at b
          exact b
    · have e : i ≠ u.2 := fun e => hn.1 (by rw [← e]; exact List.mem_map.mpr ⟨(k, i), a, rfl⟩)
      refine .inr ⟨k, s', by simp [a], ?_, c⟩
      cases q : Γ[u.2]? with
      | none => rw [q] at b; exact b
      | some s0 =>
        rw [q] at b
        simp only at b
        rw [List.getElem?_set_ne (Ne.symm e)] at b
        exact b
/-- the heap without some addresses -/
noncomputable def less (H : Hp) (P : Addr → Prop) : Hp := open Classical in fun a => if P a then none else H a
theorem less_ex {H : Hp} {P : Addr → Prop} : Ex (less H P) H := fun a o h => by
  unfold less at h
  split at h
  · cases h
  · exact h
theorem less_of {G H : Hp} {P : Addr → Prop} (e : Ex G H) (h : ∀ a, P a → G a = none) : Ex G (less H P) := fun a o q => by
  unfold less
  split
  · rename_i hp; rw [h a hp] at q; cases q
  · exact e a o q
theorem less_no {H : Hp} {P : Addr → Prop} {a : Addr} (h : P a) : less H P a = none := by
  unfold less; rw [if_pos h]
theorem less_at {H : Hp} {P : Addr → Prop} {a : Addr} (h : ¬ P a) : less H P a = H a := by
  unfold less; rw [if_neg h]
/-- the engine: the call itself, then what is known behind it -/
theorem callU_go {m : List D → Option UR} {E : XK} (hu : ((usOf 0 as).map (·.2)).Nodup) (hh : ∀ j ∈ hosOf as, j ∉ (usOf 0 as).map (·.2)) (ho : ∀ j ∈ (usOf 0 as).map (·.2) ++ hosOf as, ownAt Γ j = true)
    (ha : EvK T ta Γ as ms) {Z : Base} {F H : Hp} {σ : L2.St} (ok : Ok T Z Γ F H σ) {o : UR} (hm : (ms.bind m).bind (chkU (usOf 0 as)) = some o) {Q : VK}
    (q : ∀ v F2 H2, Ok T Z (updU Γ (usOf 0 as) o) F2 H2 σ → Rep T F2 o.1 v → Q v H2) : tCall (spU T (as.map AK.pk) m) [] E ta σ H Q := by
  obtain ⟨o', h1, h2⟩ := bind_inv hm
  unfold chkU at h2
  split at h2
  · rename_i hall
    cases h2
    obtain ⟨ds, e1, e2⟩ := bind_inv h1
    refine ha Z F H σ ok ds e1 _ fun vs F2 H2 g r => ?_
    rw [List.append_nil]
    have ok2 := ok.grow g
    -- addresses of the changed ones
    let isU : Addr → Prop := fun a => ∃ u ∈ usOf 0 as, σ[u.2]? = some (some (.ref a))
    have adr : ∀ j, ownAt Γ j = true → ∃ s p d, Γ[j]? = some s ∧ s.isOwn = true ∧ σ[j]? = some (some (.ref p)) ∧ Z.B p = none ∧ F2 p = none ∧ OwnC T F2 H2 p d := fun j h => by
      unfold ownAt at h
      cases e : Γ[j]? with
      | none => rw [e] at h; cases h
      | some s =>
        rw [e] at h
        obtain ⟨p, d, a, b, c, k⟩ := (ok2.at' j s e).own_at h
        exact ⟨s, p, d, rfl, h, a, b, c, k⟩
    have uAdr : ∀ u ∈ usOf 0 as, ∃ s p d, Γ[u.2]? = some s ∧ s.isOwn = true ∧ σ[u.2]? = some (some (.ref p)) ∧ Z.B p = none ∧ F2 p = none ∧ OwnC T F2 H2 p d := fun u hu => adr u.2 (ho _ (List.mem_append_left _ (List.mem_map.mpr ⟨u, hu, rfl⟩)))
    have uB : ∀ a, isU a → Z.B a = none ∧ F2 a = none := fun a ⟨u, hu, e⟩ => by
      obtain ⟨s, p, d, _, _, a1, b, c, _⟩ := uAdr u hu
      rw [e] at a1; cases a1
      exact ⟨b, c⟩
    have notU : ∀ {j : Nat} {p : Addr} {s : Slot}, Γ[j]? = some s → s.isOwn = true → σ[j]? = some (some (.ref p)) → j ∉ (usOf 0 as).map (·.2) → ¬ isU p := fun {j p s} hs hso e hj ⟨u, hu', e'⟩ => by
      obtain ⟨s', p', d, q1, q2, q3, _⟩ := uAdr u hu'
      exact hj (by rw [ok2.sep j u.2 p s s' hs hso q1 q2 e e']; exact List.mem_map.mpr ⟨u, hu', rfl⟩)
    -- P: the address by the argument's place
    let Pa : Nat → Addr := fun n => match (usOf 0 as).find? fun u => u.1 == n with
      | some u => (match σ[u.2]? with | some (some (.ref p)) => p | _ => 0)
      | none => 0
    have firsts : ∀ {as : List AK} {n : Nat}, ((usOf n as).map (·.1)).Nodup ∧ ∀ u ∈ usOf n as, n ≤ u.1 := by
      intro as
      induction as with
      | nil => intro n; exact ⟨by simp [usOf], fun u h => by cases h⟩
      | cons a as ih =>
        intro n
        obtain ⟨i1, i2⟩ := ih (n := n + 1)
        cases a <;> simp only [usOf] <;> first | exact ⟨i1, fun u h => by have := i2 u h; omega⟩ | skip
        refine ⟨?_, fun u h => ?_⟩
        · simp only [List.map_cons, List.nodup_cons]
          refine ⟨fun hm => ?_, i1⟩
          obtain ⟨u, hu, e⟩ := List.mem_map.mp hm
          have := i2 u hu
          omega
        · rcases List.mem_cons.mp h with rfl | h
          · exact Nat.le_refl _
          · have := i2 u h; omega
    have findU : ∀ {l : List (Nat × Nat)} {u : Nat × Nat}, (l.map (·.1)).Nodup → u ∈ l → l.find? (fun x => x.1 == u.1) = some u := by
      intro l
      induction l with
      | nil => intro u _ h; cases h
      | cons x l ih =>
        intro u hn h
        simp only [List.map_cons, List.nodup_cons] at hn
        rcases List.mem_cons.mp h with rfl | h
        · simp [List.find?_cons]
        · have : x.1 ≠ u.1 := fun e => hn.1 (by rw [e]; exact List.mem_map.mpr ⟨u, h, rfl⟩)
          simp [List.find?_cons, this, ih hn.2 h]
    have PaU : ∀ u ∈ usOf 0 as, ∀ p, σ[u.2]? = some (some (.ref p)) → Pa u.1 = p := fun u hu' p e => by
      show (match (usOf 0 as).find? fun x => x.1 == u.1 with | some u => (match σ[u.2]? with | some (some (.ref p)) => p | _ => 0) | none => 0) = p
      rw [findU (firsts (as := as) (n := 0)).1 hu']
      simp only [e]
    have hvB : Ex Z.B (less H2 isU) := less_of ok2.hv.b fun a h => (uB a h).1
    have hvF : Ex F2 (less H2 isU) := less_of ok2.hv.f fun a h => (uB a h).2
    refine ⟨⟨less H2 isU, F2, H2, Pa⟩, F2, ds, rfl, rfl, ⟨less_ex, Ex.refl F2, ok2.hv.f, fun _ h => h, fun _ h => .inl h⟩, ?_, fun i j h1 h2 h3 => ?_, o, e2, fun v F3 H3 ro => ?_⟩
    · -- the arguments
      have go : ∀ {bs : List AK} {n : Nat} {ds : List D} {vs : List V}, (∀ u ∈ usOf n bs, u ∈ usOf 0 as) → (∀ j ∈ hosOf bs, j ∈ hosOf as) → RepsA T Z F2 H2 σ bs ds vs → RepsK T ⟨less H2 isU, F2, H2, Pa⟩ F2 H2 n (bs.map AK.pk) ds vs := by
        intro bs
        induction bs with
        | nil => intro n ds vs _ _ h; exact h
        | cons b bs ih =>
          intro n ds vs hs hj r
          obtain ⟨d, ds', v, vs', a1, a2, c, r⟩ := r
          have hs' : ∀ u ∈ usOf (n + 1) bs, u ∈ usOf 0 as := fun u h => hs u (by cases b <;> simp only [usOf] <;> first | exact h | exact List.mem_cons_of_mem _ h)
          have hj' : ∀ j ∈ hosOf bs, j ∈ hosOf as := fun j h => hj j (by cases b <;> simp only [hosOf] <;> first | exact h | exact List.mem_cons_of_mem _ h)
          refine ⟨d, ds', v, vs', a1, a2, ?_, ih hs' hj' r⟩
          cases b with
          | f => exact c
          | hf => exact Rep.mono hvF c
          | hb => exact Rep.mono hvB c
          | ho j =>
            obtain ⟨p, rfl, e, k⟩ := c
            have hjm : j ∈ hosOf as := hj j (by simp [hosOf])
            obtain ⟨s, p', d', q1, q2, q3, _⟩ := adr j (ho _ (List.mem_append_right _ hjm))
            have np := notU q1 q2 e (hh j hjm)
            obtain ⟨o', z1, z2⟩ := k.there
            exact z2 _ hvF (by show less H2 isU p = some o'; rw [less_at np]; exact z1)
          | u i =>
            obtain ⟨p, rfl, e, k⟩ := c
            have hum : (n, i) ∈ usOf 0 as := hs _ (by simp [usOf])
            have ep : Pa n = p := PaU (n, i) hum p e
            have hup : isU p := ⟨(n, i), hum, e⟩
            refine ⟨by show V.ref p = V.ref (Pa n); rw [ep], ?_, ?_, ?_⟩
            · show less H2 isU (Pa n) = none; rw [ep]; exact less_no hup
            · show F2 (Pa n) = none; rw [ep]; exact (uB p hup).2
            · show OwnC T F2 H2 (Pa n) d; rw [ep]; exact k
      exact go (fun u h => h) (fun j h => h) r
    · -- different places, different addresses
      have fu : ∀ {i : Nat}, (as.map AK.pk)[i]? = some PK.u → ∃ sl, (i, sl) ∈ usOf 0 as := by
        have : ∀ {bs : List AK} {n i : Nat}, (bs.map AK.pk)[i]? = some PK.u → ∃ sl, (n + i, sl) ∈ usOf n bs := by
          intro bs
          induction bs with
          | nil => intro n i h; simp at h
          | cons b bs ih =>
            intro n i h
            cases i with
            | zero =>
              cases b <;> simp only [List.map_cons, List.getElem?_cons_zero, AK.pk, Option.some.injEq] at h <;> first | (cases h; done) | skip
              exact ⟨_, by simp [usOf]; exact .inl rfl⟩
            | succ i =>
              obtain ⟨sl, hsl⟩ := ih (n := n + 1) (i := i) (by simpa using h)
              have e : n + 1 + i = n + (i + 1) := by omega
              rw [e] at hsl
              exact ⟨sl, by cases b <;> simp only [usOf] <;> first | exact hsl | exact List.mem_cons_of_mem _ hsl⟩
        intro i h
        have := this (n := 0) h
        simpa using this
      obtain ⟨s1, m1⟩ := fu h1
      obtain ⟨s2, m2⟩ := fu h2
      obtain ⟨t1, p1, d1, a1, a2, a3, _⟩ := uAdr _ m1
      obtain ⟨t2, p2, d2, b1, b2, b3, _⟩ := uAdr _ m2
      have x1 := PaU _ m1 p1 a3
      have x2 := PaU _ m2 p2 b3
      simp only at x1 x2
      have h3' : Pa i = Pa j := h3
      rw [x1, x2] at h3'
      subst h3'
      have es : s1 = s2 := ok2.sep _ _ p1 t1 t2 a1 a2 b1 b2 a3 b3
      subst es
      -- the same slot stands once
      have := hu
      have uniq : ∀ {l : List (Nat × Nat)} {x y : Nat × Nat}, (l.map (·.2)).Nodup → x ∈ l → y ∈ l → x.2 = y.2 → x = y := by
        intro l
        induction l with
        | nil => intro x y _ h; cases h
        | cons z l ih =>
          intro x y hn hx hy e
          simp only [List.map_cons, List.nodup_cons] at hn
          rcases List.mem_cons.mp hx with x1 | x1
          · rcases List.mem_cons.mp hy with y1 | y1
            · rw [x1, y1]
            · exact (hn.1 (List.mem_map.mpr ⟨y, y1, by rw [← e, x1]⟩)).elim
          · rcases List.mem_cons.mp hy with y1 | y1
            · exact (hn.1 (List.mem_map.mpr ⟨x, x1, by rw [e, y1]⟩)).elim
            · exact ih hn.2 x1 y1 e
      have := uniq hu m1 m2 rfl
      exact (Prod.mk.inj this).1
    · -- behind the call
      refine q v F3 H3 ?_ ro.rep
      have cont : ∀ u ∈ usOf 0 as, F3 (Pa u.1) = none ∧ OwnC T F3 H3 (Pa u.1) (cU o u.1) := fun u hu' => by
        have h := List.all_eq_true.mp hall u hu'
        obtain ⟨c, hc⟩ := Option.isSome_iff_exists.mp h
        have hmem : (u.1, c) ∈ o.2 := by
          have : ∀ {l : List (Nat × D)}, l.lookup u.1 = some c → (u.1, c) ∈ l := by
            intro l
            induction l with
            | nil => intro h; cases h
            | cons x l ih =>
              intro h
              obtain ⟨x1, x2⟩ := x
              by_cases e : u.1 = x1
              · have e' : (u.1 == x1) = true := by simp [e]
                rw [List.lookup, e'] at h
                cases h
                rw [e]; exact List.mem_cons_self ..
              · have e' : (u.1 == x1) = false := by simpa using e
                rw [List.lookup, e'] at h
                exact List.mem_cons_of_mem _ (ih h)
          exact this hc
        have := ro.mus _ hmem
        unfold cU
        rw [hc]
        exact this
      refine ⟨⟨hvB.trans ro.hv.b, ok2.hv.f0.trans ro.hv.f0, ro.hv.f, fun a h => ro.hv.dom a (ok2.hv.dom a h), fun a h => ?_⟩, by rw [updU_len]; exact ok2.len, fun i s e => ?_, fun i j p s t x1 o1 x2 o2 y1 y2 => ?_⟩
      · rcases ro.hv.new a h with z | z
        · exact ok2.hv.new a z
        · refine .inr ?_
          cases y : Z.H a with
          | none => rfl
          | some u => exact absurd z (ok2.hv.dom a (by rw [y]; simp))
      · rcases updU_at hu e with ⟨a, b⟩ | ⟨k, s', a, b, rfl⟩
        · have old := ok2.at' i s b
          cases s <;> simp only [SlotOk] at old ⊢
          · obtain ⟨v, c1, c2⟩ := old; exact ⟨v, c1, c2.mono ro.hv.f0⟩
          · exact old
          · obtain ⟨p, c1, c2, c3, c4, c5⟩ := old
            have np := notU b rfl c1 a
            obtain ⟨ob, z1, z2⟩ := c4.there
            have h3 : H3 p = some ob := ro.hv.b p ob (by show less H2 isU p = some ob; rw [less_at np]; exact z1)
            have f3 : F3 p = none := by
              cases y : F3 p with
              | none => rfl
              | some u =>
                rcases ro.hv.new p (by rw [y]; simp) with z | z
                · exact absurd c3 z
                · have z' : H2 p = none := z
                  rw [z1] at z'; cases z'
            exact ⟨p, c1, c2, f3, c4.same ro.hv.f0 z1 h3, c5⟩
          · obtain ⟨p, c1, c0, c2, c3, c4⟩ := old
            have np := notU b rfl c1 a
            obtain ⟨ob, z1, z2⟩ := c4.there
            have h3 : H3 p = some ob := ro.hv.b p ob (by show less H2 isU p = some ob; rw [less_at np]; exact z1)
            have f3 : F3 p = none := by
              cases y : F3 p with
              | none => rfl
              | some u =>
                rcases ro.hv.new p (by rw [y]; simp) with z | z
                · exact absurd c3 z
                · have z' : H2 p = none := z
                  rw [z1] at z'; cases z'
            exact ⟨p, c1, c0, c2, f3, c4.same ro.hv.f0 z1 h3⟩
        · obtain ⟨s0, p, d, q1, q2, q3, q4, q5, q6⟩ := uAdr _ a
          simp only at q1 q3
          rw [b] at q1; cases q1
          have pa := PaU _ a p q3
          obtain ⟨k1, k2⟩ := cont _ a
          rw [pa] at k1 k2
          have old := ok2.at' i s' b
          cases s' <;> simp only [Slot.isOwn] at q2 <;> first | (cases q2; done) | skip
          · obtain ⟨p', c1, c2, c3, c4, c5⟩ := old
            rw [q3] at c1; cases c1
            exact ⟨p, q3, c2, k1, k2, c5⟩
          · obtain ⟨p', c1, c0, c2, c3, c4⟩ := old
            rw [q3] at c1; cases c1
            exact ⟨p, q3, c0, c2, k1, k2⟩
      · have f : ∀ {i : Nat} {s : Slot}, (updU Γ (usOf 0 as) o)[i]? = some s → s.isOwn = true → ∃ s', Γ[i]? = some s' ∧ s'.isOwn = true := fun {i s} e w => by
          rcases updU_at hu e with ⟨_, b⟩ | ⟨k, s', _, b, rfl⟩
          · exact ⟨s, b, w⟩
          · exact ⟨s', b, by rw [Slot.put_own] at w; exact w⟩
        obtain ⟨s', q1, q2⟩ := f x1 o1
        obtain ⟨t', q3, q4⟩ := f x2 o2
        exact ok2.sep i j p s' t' q1 q2 q3 q4 y1 y2
  · cases h2
end
end Mi
/-! small things: chains, signs, calls by arity, the order of blocks -/
namespace Mi
open PySem L2
open PyProof.Rows
open Evl (Ex ex_t ex_l ex_rd fresh_back)
section
variable {ω α β : Type} {T : Th} {Γ : Ctx} {md : Md} {ta tb tc te : TE} {ma mb mc m : Option D} {r r' : R2} {f g : D → D → Option D} {t u v : TS} {P : Base → Ends → ω → Prop}
/-- a < b < c -/
def oChain (f g : D → D → Option D) (a b c : Option D) : Option D := a.bind fun x => b.bind fun y => (f x y).bind fun z => (tru z).bind fun k => if k = true then c.bind fun w => g y w else some (.bl false)
theorem ev_chain (hf : OpS T r f) (hg : OpS T r' g) (ha : Ev T .h ta Γ ma) (hb : Ev T .h tb Γ mb) (hc : Ev T .h tc Γ mc) : Ev T md (tChain r r' ta tb tc) Γ (oChain f g ma mb mc) := fun Z F H σ ok d hd Q q => by
  obtain ⟨x, e1, n1⟩ := bind_inv hd
  obtain ⟨y, e2, n2⟩ := bind_inv n1
  obtain ⟨z, e3, n3⟩ := bind_inv n2
  obtain ⟨k, e4, n4⟩ := bind_inv n3
  refine ha Z F H σ ok x e1 _ fun v F2 H2 g1 r1 => hb Z F2 H2 σ (ok.grow g1) y e2 _ fun w F3 H3 g2 r2 => ?_
  refine hf H3 v w x y z (r1.mono g2.h) r2 e3 _ fun z' hz => ?_
  have hzb := tru_inv e4
  subst hzb
  have := hz H3
  simp only [Rep] at this
  subst this
  refine ⟨k, rfl, ?_⟩
  cases k with
  | false =>
    cases n4
    exact q _ F3 H3 (g1.trans g2) (by simp only [Rep])
  | true =>
    simp only [if_true] at n4 ⊢
    obtain ⟨w', e5, e6⟩ := bind_inv n4
    refine hc Z F3 H3 σ ((ok.grow g1).grow g2) w' e5 _ fun u' F4 H4 g3 r3 => ?_
    exact hg H4 w u' y w' d (r2.mono g3.h) r3 e6 Q fun o ho => q o F4 H4 ((g1.trans g2).trans g3) (ho _)
theorem ev_neg (ha : Ev T .h ta Γ ma) : Ev T md (tUn (rU fun i => .int (-i)) ta) Γ (o1 dNeg ma) := fun Z F H σ ok d hd Q q => by
  obtain ⟨x, e1, e2⟩ := o1_inv hd
  refine ha Z F H σ ok x e1 _ fun v F2 H2 g r => ?_
  cases x <;> simp only [dNeg] at e2 <;> try (cases e2; done)
  cases e2
  simp only [Rep] at r
  exact ⟨_, r, q _ F2 H2 g (by simp only [Rep])⟩
theorem b_assoc {m : Option ω} (h : B T (tSeq t (tSeq u v)) Γ m P) : B T (tSeq (tSeq t u) v) Γ m P := h
theorem b_nextv {m : Option ω} (h : B T v Γ m P) : B T (tSeq tNext v) Γ m P := h
end
def f0 {α : Type} (f : Option α) : List D → Option α
  | [] => f
  | _ => none
def f3 {α : Type} (f : D → D → D → Option α) : List D → Option α
  | [a, b, c] => f a b c
  | _ => none
def f4 {α : Type} (f : D → D → D → D → Option α) : List D → Option α
  | [a, b, c, d] => f a b c d
  | _ => none
def f5 {α : Type} (f : D → D → D → D → D → Option α) : List D → Option α
  | [a, b, c, d, e] => f a b c d e
  | _ => none
def f6 {α : Type} (f : D → D → D → D → D → D → Option α) : List D → Option α
  | [a, b, c, d, e, g] => f a b c d e g
  | _ => none
def f7 {α : Type} (f : D → D → D → D → D → D → D → Option α) : List D → Option α
  | [a, b, c, d, e, g, h] => f a b c d e g h
  | _ => none
def f8 {α : Type} (f : D → D → D → D → D → D → D → D → Option α) : List D → Option α
  | [a, b, c, d, e, g, h, i] => f a b c d e g h i
  | _ => none

/-! ### what the rules of a name ask, a def that may be called, the law's end -/
section
variable {P : Program} {w : World} {K : PySem.W.Frag} {mg : Str → Option Value} {base : Heap} {X : Cx}
theorem pe_gint {x : Str} {n : Int} {pos : Pos} (hg : Gl X x) (hm : ∃ t, X.mg x = some (.int n t)) (hd : (x == ("__debug__" : Str)) = false := by decide) : PE X (.Name x pos) (tC (.int n)) := by
  obtain ⟨t, h⟩ := hm
  exact pe_glob hg h ⟨_, rfl⟩ hd
theorem pe_gstr {x : Str} {n : Str} {pos : Pos} (hg : Gl X x) (hm : ∃ t, X.mg x = some (.str n t)) (hd : (x == ("__debug__" : Str)) = false := by decide) : PE X (.Name x pos) (tC (.str n)) := by
  obtain ⟨t, h⟩ := hm
  exact pe_glob hg h ⟨_, rfl⟩ hd
/-- a def that may be called by its name -/
structure Cl (P : Program) (w : World) (K : PySem.W.Frag) (mg : Str → Option Value) (base : Heap) (k : Nat) (x : Str) (ps : List Str) (sp : Sp) : Prop where
  ex : ∃ f fd, FnOk P w K mg base CX0 k f fd ps sp ∧ mg x = some (.ref f) ∧ PySem.W.keepIn K (.ref f) = true ∧ Binds K fd ps []
theorem pe_cl {k j : Nat} {x : Str} {ps : List Str} {sp : Sp} {e : Expr} {es : List Expr} {t : TA} {p pos : Pos} (C : Cl X.prog X.w X.K X.mg X.base j x ps sp) (hr : Room k X.A) (hg : Gl X x) (ha : PA X (e :: es) t) (hjk : j ≤ k := by decide)
    (hd : (x == ("__debug__" : Str)) = false := by decide) (he : starEach (e :: es) X.env = (false, eval e X.env) :: starEach es X.env := by rfl) (hpl : (backTo pos (starEach es X.env)).any (·.1) = false := by rfl) : PE X (.Call (.Name x p) (e :: es) [] pos) (tCall sp [] (fun _ _ _ => False) t) := by
  obtain ⟨f, fd, F, hm, hk, hb⟩ := C.ex
  exact pe_call (F.mono hjk) hr hg hm hk hb .nil pass0 ha hd he hpl
def spTrue (K : PySem.W.Frag) : Sp := fun vs H Q _ => ∃ (a : Addr) (ns : List Int), vs = [.ref a] ∧ SqL K H a (ns.map V.int) ∧ ns.length ≤ 63 ∧ ∀ H', Q (.bl true) H'
theorem law_true {T : Th} {f : Addr} {fd : FuncData} {k : Nat} {m : D → Option D} {ps : List Str} (F : FnOk P w T.K mg base CX0 k f fd ps (spU T [.f] (pur (f1 m)))) (h : ∀ ns : List Int, ns.length ≤ 63 → m (.scr ns) = some (.bl true)) :
    FnOk P w T.K mg base CX0 k f fd ps (spTrue T.K) := F.imp fun vs H Q E hq => by
  obtain ⟨a, ns, hv, hs, hl, q⟩ := hq
  subst hv
  refine ⟨⟨H, H, H, fun _ => 0⟩, H, [.scr ns], rfl, rfl, ⟨Ex.refl _, Ex.refl _, Ex.refl _, fun _ h => h, fun _ h => .inl h⟩, ⟨_, _, _, _, rfl, rfl, ?_, rfl, rfl⟩, fun i j h1 => ?_, (.bl true, []), ?_, fun v F2 H2 r => ?_⟩
  · simp only [Rep]; exact ⟨a, rfl, hs⟩
  · cases i with
    | zero => simp at h1
    | succ i => simp at h1
  · show (m (.scr ns)).map (fun d => (d, [])) = _
    rw [h ns hl]; rfl
  · have := r.rep
    simp only [Rep] at this
    subst this
    exact q H2
end
theorem law_walk {l : PySem.W.OpenLaw} {q : Program} {loose : List Str} {XP : (Str → Option Value) → Heap → Prop} {YP : World → Heap → Prop} {d : DefRec} {K : Params → PySem.W.Frag} {k : Nat} (hn : l.most = some 63) (hdf : d.params.defaults = []) (hr : Room k callerA)
    (hY : ∀ (w : World) (h : Heap), YP w h → (K w.params).In h)
    (F : ∀ (w : World) (mg : Str → Option Value) (fa : Addr) (h : Heap), (K w.params).In h → h.Ns mainGlobals mg → mg d.name = some (.ref fa) →
      ∃ fd : FuncData, (∀ (s : Shared) (u : Value), BindsTo s fd ⟨[u], []⟩ [("script", u)]) ∧ ∀ base : Heap, (K w.params).In base → base.Ns mainGlobals mg → FnOk l.prog w (K w.params) mg base CX0 k fa fd ["script"] (spTrue (K w.params))) :
    PySem.W.WalkO q loose XP YP l.row.toRowW d [] (fun f vs => PySem.call f vs) :=
  L2.walk_of (n := 63) (k := k) (x := "script") (CX := fun _ => CX0) (sp := fun w => spTrue (K w.params)) hn (by decide) hdf hr hY F (fun _ _ a ns hl _ hS => ⟨a, ns, rfl, hS, hl, fun _ => rfl⟩) fun _ _ _ _ _ z => z
end Mi
/-! calls by arity -/
namespace Mi
instance : DecidableEq Md := fun a b => by cases a <;> cases b <;> first | exact isTrue rfl | exact isFalse (fun h => by cases h)
open PySem L2
abbrev c1 {α : Type} (f : D → Option α) (a : Option D) : Option α := o1 (f1 f) (oCons a (some []))
abbrev c2 {α : Type} (f : D → D → Option α) (a b : Option D) : Option α := o1 (f2 f) (oCons a (oCons b (some [])))
abbrev c3 {α : Type} (f : D → D → D → Option α) (a b c : Option D) : Option α := o1 (f3 f) (oCons a (oCons b (oCons c (some []))))
abbrev c4 {α : Type} (f : D → D → D → D → Option α) (a b c d : Option D) : Option α := o1 (f4 f) (oCons a (oCons b (oCons c (oCons d (some [])))))
abbrev c5 {α : Type} (f : D → D → D → D → D → Option α) (a b c d e : Option D) : Option α := o1 (f5 f) (oCons a (oCons b (oCons c (oCons d (oCons e (some []))))))
abbrev c6 {α : Type} (f : D → D → D → D → D → D → Option α) (a b c d e g : Option D) : Option α := o1 (f6 f) (oCons a (oCons b (oCons c (oCons d (oCons e (oCons g (some [])))))))
abbrev c7 {α : Type} (f : D → D → D → D → D → D → D → Option α) (a b c d e g h : Option D) : Option α := o1 (f7 f) (oCons a (oCons b (oCons c (oCons d (oCons e (oCons g (oCons h (some []))))))))
abbrev c8 {α : Type} (f : D → D → D → D → D → D → D → D → Option α) (a b c d e g h i : Option D) : Option α := o1 (f8 f) (oCons a (oCons b (oCons c (oCons d (oCons e (oCons g (oCons h (oCons i (some [])))))))))
@[simp] theorem c1_s {α : Type} (f : D → Option α) (a : D) : c1 f (some a) = f a := id rfl
@[simp] theorem c2_s {α : Type} (f : D → D → Option α) (a b : D) : c2 f (some a) (some b) = f a b := id rfl
@[simp] theorem c3_s {α : Type} (f : D → D → D → Option α) (a b c : D) : c3 f (some a) (some b) (some c) = f a b c := id rfl
@[simp] theorem c4_s {α : Type} (f : D → D → D → D → Option α) (a b c d : D) : c4 f (some a) (some b) (some c) (some d) = f a b c d := id rfl
@[simp] theorem c5_s {α : Type} (f : D → D → D → D → D → Option α) (a b c d e : D) : c5 f (some a) (some b) (some c) (some d) (some e) = f a b c d e := id rfl
@[simp] theorem c6_s {α : Type} (f : D → D → D → D → D → D → Option α) (a b c d e g : D) : c6 f (some a) (some b) (some c) (some d) (some e) (some g) = f a b c d e g := id rfl
@[simp] theorem c7_s {α : Type} (f : D → D → D → D → D → D → D → Option α) (a b c d e g h : D) : c7 f (some a) (some b) (some c) (some d) (some e) (some g) (some h) = f a b c d e g h := id rfl
@[simp] theorem c8_s {α : Type} (f : D → D → D → D → D → D → D → D → Option α) (a b c d e g h i : D) : c8 f (some a) (some b) (some c) (some d) (some e) (some g) (some h) (some i) = f a b c d e g h i := id rfl
section
variable {T : Th} {Γ Γ' : Ctx} {md : Md} {te : TE} {m : Option D} {ta : TA} {ks : List PK} {ms : Option (List D)} {f : List D → Option D}
theorem ev_le (h : Le Γ Γ') (he : Ev T md te Γ' m) : Ev T md te Γ m := fun Z F H σ ok => he Z F H σ (ok.le h)
theorem evo_le (h : Le Γ Γ') (he : EvO T te Γ' m) : EvO T te Γ m := fun Z F H σ ok => he Z F H σ (ok.le h)
theorem ev_callO {E : XK} (hu : noU ks = true) (ha : EvA T ta Γ (ks.map kMd) ms) (hm : md.fh = true := by rfl) : Ev T md (tCall (spU T ks (pur f)) [] E ta) Γ (o1 f ms) := ev_call hu ha hm
end
end Mi
/-! plain laws of the mirrors' parts -/
namespace Mi
open PySem L2
@[simp] theorem oCons_some (a : D) (l : List D) : oCons (some a) (some l) = some (a :: l) := id rfl
@[simp] theorem f1_s {α : Type} (f : D → Option α) (a : D) : f1 f [a] = f a := id rfl
@[simp] theorem f2_s {α : Type} (f : D → D → Option α) (a b : D) : f2 f [a, b] = f a b := id rfl
@[simp] theorem f3_s {α : Type} (f : D → D → D → Option α) (a b c : D) : f3 f [a, b, c] = f a b c := id rfl
@[simp] theorem f4_s {α : Type} (f : D → D → D → D → Option α) (a b c d : D) : f4 f [a, b, c, d] = f a b c d := id rfl
@[simp] theorem f5_s {α : Type} (f : D → D → D → D → D → Option α) (a b c d e : D) : f5 f [a, b, c, d, e] = f a b c d e := id rfl
@[simp] theorem f6_s {α : Type} (f : D → D → D → D → D → D → Option α) (a b c d e g : D) : f6 f [a, b, c, d, e, g] = f a b c d e g := id rfl
@[simp] theorem f7_s {α : Type} (f : D → D → D → D → D → D → D → Option α) (a b c d e g h : D) : f7 f [a, b, c, d, e, g, h] = f a b c d e g h := id rfl
@[simp] theorem f8_s {α : Type} (f : D → D → D → D → D → D → D → D → Option α) (a b c d e g h i : D) : f8 f [a, b, c, d, e, g, h, i] = f a b c d e g h i := id rfl
@[simp] theorem dAdd_ii (a b : Int) : dAdd (.int a) (.int b) = some (.int (a + b)) := id rfl
@[simp] theorem dAddI_ii (a b : Int) : dAddI (.int a) (.int b) = some (.int (a + b)) := id rfl
@[simp] theorem dSub_ii (a b : Int) : dSub (.int a) (.int b) = some (.int (a - b)) := id rfl
@[simp] theorem dNeg_i (a : Int) : dNeg (.int a) = some (.int (-a)) := id rfl
@[simp] theorem dInt_i (a : Int) : dInt (.int a) = some (.int a) := id rfl
@[simp] theorem dInt_b (b : Bool) : dInt (.bl b) = some (.int (if b then 1 else 0)) := id rfl
@[simp] theorem dLt_ii (a b : Int) : dLt (.int a) (.int b) = some (.bl (decide (a < b))) := id rfl
@[simp] theorem dLe_ii (a b : Int) : dLe (.int a) (.int b) = some (.bl (decide (a ≤ b))) := id rfl
@[simp] theorem dGt_ii (a b : Int) : dGt (.int a) (.int b) = some (.bl (decide (b < a))) := id rfl
@[simp] theorem dGe_ii (a b : Int) : dGe (.int a) (.int b) = some (.bl (decide (b ≤ a))) := id rfl
theorem dMod_ii {a b : Int} (h : 0 < b) : dMod (.int a) (.int b) = some (.int (a % b)) := if_pos h
theorem dDiv_ii {a b : Int} (h : 0 < b) (h2 : b < 1073741824) : dDiv (.int a) (.int b) = some (.int (a / b)) := if_pos ⟨h, h2⟩
theorem dMul_l {a b : Int} (h : smallI a) : dMul (.int a) (.int b) = some (.int (a * b)) := if_pos (.inl h)
theorem dMul_r {a b : Int} (h : smallI b) : dMul (.int a) (.int b) = some (.int (a * b)) := if_pos (.inr h)
theorem dPow_ii {a b : Int} (h : 0 ≤ b ∧ b ≤ 1000000 ∧ a.natAbs < 18446744073709551616) : dPow (.int a) (.int b) = some (.int (a ^ b.toNat)) := if_pos h
@[simp] theorem dLen_lst (ds : List D) : dLen (.lst ds) = some (.int ds.length) := id rfl
@[simp] theorem dLen_tup (ds : List D) : dLen (.tup ds) = some (.int ds.length) := id rfl
@[simp] theorem dLen_scr (ds : List Int) : dLen (.scr ds) = some (.int ds.length) := id rfl
@[simp] theorem dItems_lst (ds : List D) : dItems (.lst ds) = some ds := id rfl
@[simp] theorem dItems_tup (ds : List D) : dItems (.tup ds) = some ds := id rfl
@[simp] theorem dSeq_lst (ds : List D) : dSeq (.lst ds) = some ds := id rfl
@[simp] theorem dSeq_tup (ds : List D) : dSeq (.tup ds) = some ds := id rfl
theorem dLst_s {ds : List D} (h : ds.length ≤ 16777216) : dLst ds = some (.lst ds) := if_pos h
theorem dTup_s {ds : List D} (h : ds.length ≤ 16777216) : dTup ds = some (.tup ds) := if_pos h
theorem dApp_s {ds : List D} {d : D} (h : ds.length < 16777216) : dApp (.lst ds) d = some (.lst (ds ++ [d])) := if_pos h
@[simp] theorem oChain_s (f g : D → D → Option D) (x y : D) (c : Option D) : oChain f g (some x) (some y) c = (f x y).bind fun z => (tru z).bind fun k => if k = true then c.bind fun w => g y w else some (.bl false) := id rfl
@[simp] theorem chk_non : chk .non = some .non := id rfl
theorem atI_at {α : Type} {xs : List α} {j : Nat} (h : j < xs.length) : atI xs (j : Int) = some xs[j] := atI_nat (List.getElem?_eq_getElem h)
theorem atI_int {α : Type} {xs : List α} {i : Int} (h0 : 0 ≤ i) (h : i.toNat < xs.length) : atI xs i = some xs[i.toNat] := by
  have : i = (i.toNat : Int) := by omega
  conv => lhs; rw [this]
  exact atI_at h
@[simp] theorem atI_0 {α : Type} (x : α) (xs : List α) : atI (x :: xs) 0 = some x := atI_nat (j := 0) rfl
@[simp] theorem atI_1 {α : Type} (x y : α) (xs : List α) : atI (x :: y :: xs) 1 = some y := atI_nat (j := 1) rfl
@[simp] theorem atI_2 {α : Type} (x y z : α) (xs : List α) : atI (x :: y :: z :: xs) 2 = some z := atI_nat (j := 2) rfl
@[simp] theorem atI_3 {α : Type} (x y z a : α) (xs : List α) : atI (x :: y :: z :: a :: xs) 3 = some a := atI_nat (j := 3) rfl
@[simp] theorem atI_4 {α : Type} (x y z a b : α) (xs : List α) : atI (x :: y :: z :: a :: b :: xs) 4 = some b := atI_nat (j := 4) rfl
@[simp] theorem atI_5 {α : Type} (x y z a b c : α) (xs : List α) : atI (x :: y :: z :: a :: b :: c :: xs) 5 = some c := atI_nat (j := 5) rfl
@[simp] theorem atI_6 {α : Type} (x y z a b c d : α) (xs : List α) : atI (x :: y :: z :: a :: b :: c :: d :: xs) 6 = some d := atI_nat (j := 6) rfl
@[simp] theorem atI_7 {α : Type} (x y z a b c d e : α) (xs : List α) : atI (x :: y :: z :: a :: b :: c :: d :: e :: xs) 7 = some e := atI_nat (j := 7) rfl
@[simp] theorem atI_8 {α : Type} (x y z a b c d e f : α) (xs : List α) : atI (x :: y :: z :: a :: b :: c :: d :: e :: f :: xs) 8 = some f := atI_nat (j := 8) rfl
@[simp] theorem dIx_lst (ds : List D) (i : Int) : dIx (.lst ds) (.int i) = atI ds i := id rfl
@[simp] theorem dIx_tup (ds : List D) (i : Int) : dIx (.tup ds) (.int i) = atI ds i := id rfl
@[simp] theorem dIx_scr (ds : List Int) (i : Int) : dIx (.scr ds) (.int i) = (atI ds i).map D.int := id rfl
/-! loops -/
theorem foldO_inv {β ι : Type} {f : β → ι → Option β} (I : Nat → β → Prop) : ∀ (ds : List ι) (k : Nat) (b : β), I k b → (∀ i (h : i < ds.length) b, I (k + i) b → ∃ b', f b ds[i] = some b' ∧ I (k + i + 1) b') → ∃ b', foldO f ds b = some b' ∧ I (k + ds.length) b'
  | [], k, b, h, _ => ⟨b, rfl, h⟩
  | d :: ds, k, b, h, hs => by
    obtain ⟨b1, e1, i1⟩ := hs 0 (by simp) b h
    obtain ⟨b2, e2, i2⟩ := foldO_inv I ds (k + 1) b1 i1 fun i hi b hb => by
      have := hs (i + 1) (by simpa using hi) b (by rw [show k + (i + 1) = k + 1 + i by omega]; exact hb)
      rw [show k + (i + 1) + 1 = k + 1 + i + 1 by omega] at this
      simpa using this
    refine ⟨b2, ?_, by rw [show k + (d :: ds).length = k + 1 + ds.length by simp; omega]; exact i2⟩
    rw [foldO_cons]
    have e1' : f b d = some b1 := e1
    rw [e1']
    exact e2
theorem foldO_inv0 {β ι : Type} {f : β → ι → Option β} (I : Nat → β → Prop) (ds : List ι) (b : β) (h0 : I 0 b) (hs : ∀ i (h : i < ds.length) b, I i b → ∃ b', f b ds[i] = some b' ∧ I (i + 1) b') : ∃ b', foldO f ds b = some b' ∧ I ds.length b' := by
  obtain ⟨b', e, i⟩ := foldO_inv I ds 0 b h0 fun i h b hb => by
    have := hs i h b (by simpa using hb)
    simpa using this
  exact ⟨b', e, by simpa using i⟩
theorem ranged_len (a b : Int) : (ranged a b).length = (b - a).toNat := by simp [ranged]
theorem ranged_get {a b : Int} {i : Nat} (h : i < (ranged a b).length) : (ranged a b)[i] = .int (a + (i : Nat)) := by simp [ranged]
theorem dRange1_s {n : Int} (h : -(2 ^ 62) ≤ n ∧ n < 2 ^ 62) : dRange1 [.int n] = some (ranged 0 n) := if_pos h
theorem dRange2_s {a b : Int} (h : (-(2 ^ 62) ≤ a ∧ a < 2 ^ 62) ∧ -(2 ^ 62) ≤ b ∧ b < 2 ^ 62) : dRange2 [.int a, .int b] = some (ranged a b) := if_pos h
/-- a comprehension that keeps by p -/
theorem compO_filter {ι : Type} {f : ι → Option (Option D)} {p : ι → Bool} {g : ι → D} : ∀ {ds : List ι}, (∀ d ∈ ds, f d = some (if p d = true then some (g d) else none)) → compO f ds = some ((ds.filter p).map g)
  | [], _ => rfl
  | d :: ds, h => by
    rw [compO_cons, h d (by simp), compO_filter (ds := ds) fun e he => h e (by simp [he])]
    cases q : p d <;> simp [q, optC]
theorem compO_map {ι : Type} {f : ι → Option (Option D)} {g : ι → D} {ds : List ι} (h : ∀ d ∈ ds, f d = some (some (g d))) : compO f ds = some (ds.map g) := by
  rw [compO_filter (p := fun _ => true) (g := g) (by intro d hd; rw [h d hd]; rfl)]
  have : List.filter (fun _ => true) ds = ds := by
    rw [List.filter_eq_self]; intro a _; rfl
  rw [this]
theorem dComp_filter {ι : Type} {f : ι → Option (Option D)} {p : ι → Bool} {g : ι → D} {ds : List ι} (hl : ds.length ≤ 16777216) (h : ∀ d ∈ ds, f d = some (if p d = true then some (g d) else none)) : dComp f ds = some (.lst ((ds.filter p).map g)) := by
  unfold dComp; rw [if_pos hl, compO_filter h]; rfl
theorem dComp_map {ι : Type} {f : ι → Option (Option D)} {g : ι → D} {ds : List ι} (hl : ds.length ≤ 16777216) (h : ∀ d ∈ ds, f d = some (some (g d))) : dComp f ds = some (.lst (ds.map g)) := by
  unfold dComp; rw [if_pos hl, compO_map h]; rfl
/-- a loop that leaves at the first bad one -/
theorem loopO_all {β ι γ : Type} {f : β → ι → Option (Out β β)} {p : ι → Bool} {b : β} {r : D} : ∀ {ds : List ι}, (∀ d ∈ ds, f b d = some (if p d = true then .nx b else .rt r [])) → loopO (γ := γ) f ds b = some (if ds.all p = true then .nx b else .rt r [])
  | [], _ => rfl
  | d :: ds, h => by
    rw [loopO_cons, h d (by simp)]
    cases q : p d with
    | false => simp [q]
    | true =>
      simp only [if_true, Option.bind_some, List.all_cons, q, Bool.true_and]
      exact loopO_all fun e he => h e (by simp [he])
end Mi
/-! parts of what is owned, new lists of operations, objects that are made, methods -/
namespace Mi
open PySem L2
open PyProof.Rows
open Evl (Ex ex_t ex_l ex_rd fresh_back)
section
variable {ω : Type} {T : Th} {Γ : Ctx} {md : Md} {ta tb te : TE} {ma mb me : Option D} {i : Nat} {P : Base → Ends → ω → Prop}
/-- a field of an owned object: its parts may be kept -/
theorem ev_fldO {c n : Str} {s : Slot} {d : D} (hc : Cls T.K (T.C c)) (hn : NoAttr T.K (T.C c) n) (hs : Γ[i]? = some s) (ho : s.isOwnD d) (hm : md.fh = true := by rfl) : Ev T md (tFld T.K (tVar i) n) Γ (o1 (dFld c n) (some d)) := fun Z F H σ ok e hd Q q => by
  obtain ⟨x, e1, e2⟩ := o1_inv hd
  cases e1
  obtain ⟨p, a, b, cc, _⟩ := own_slot ok hs ho
  refine ⟨_, a, ?_⟩
  cases d <;> simp only [dFld] at e2 <;> try (cases e2; done)
  split at e2
  · rename_i hcc
    subst hcc
    simp only [OwnC] at cc
    obtain ⟨dx, vs, hp, hl, rr⟩ := cc
    obtain ⟨w, hw, rw'⟩ := look_lookup rr e2
    exact ⟨p, _, dx, _, w, rfl, hp, hc, hn, hw, q w F H (Grow.refl ok.hv.f) (rw'.mono (sel_out ok.hv.f hm))⟩
  · cases e2
/-- an item of an owned list -/
def dIxL : D → D → Option D
  | .lst ds, .int i => atI ds i
  | _, _ => none
theorem ev_ixO {s : Slot} {d : D} (hs : Γ[i]? = some s) (ho : s.isOwnD d) (hb : Ev T .h tb Γ mb) (hm : md.fh = true := by rfl) : Ev T md (tOp (rIxA T.K) (tVar i) tb) Γ (o2 dIxL (some d) mb) := fun Z F H σ ok e hd Q q => by
  obtain ⟨x, y, e1, e2, e3⟩ := o2_inv hd
  cases e1
  obtain ⟨p0, a0, _⟩ := own_slot ok hs ho
  refine ⟨_, a0, hb Z F H σ ok y e2 _ fun w F2 H2 g r => ?_⟩
  obtain ⟨p, a, b, cc, _⟩ := own_slot (ok.grow g) hs ho
  rw [a0] at a; cases a
  cases d <;> simp only [dIxL] at e3 <;> try (cases e3; done)
  cases y <;> simp only [dIxL] at e3 <;> try (cases e3; done)
  simp only [Rep] at r
  subst r
  simp only [OwnC] at cc
  obtain ⟨vs, hp, rr⟩ := cc
  obtain ⟨v, hv, rv⟩ := atI_reps rr e3
  exact .inl (.inl ⟨p0, vs, _, v, rfl, rfl, SqL.of hp, hv, q v F2 H2 g (rv.mono (sel_out g.i hm))⟩)
/-- xs * n, xs + ys: the new list -/
def dMulL : D → D → Option D
  | .lst xs, .int k => if -9223372036854775808 ≤ k ∧ k < 9223372036854775808 ∧ xs.length * k.toNat ≤ 16777216 then some (.lst (List.replicate k.toNat xs).flatten) else none
  | _, _ => none
def dAddL : D → D → Option D
  | .lst a, .lst b => if a.length + b.length ≤ 16777216 then some (.lst (a ++ b)) else none
  | _, _ => none
theorem evo_mulL (ha : Ev T .f ta Γ ma) (hb : Ev T .h tb Γ mb) : EvO T (tOp (rMulA T.K) ta tb) Γ (o2 dMulL ma mb) := fun Z F H σ ok d hd Q q => by
  obtain ⟨x, y, e1, e2, e3⟩ := o2_inv hd
  refine ha Z F H σ ok x e1 _ fun v F2 H2 g r => hb Z F2 H2 σ (ok.grow g) y e2 _ fun w F3 H3 g3 r3 => ?_
  cases x <;> simp only [dMulL] at e3 <;> try (cases e3; done)
  cases y <;> simp only [dMulL] at e3 <;> try (cases e3; done)
  split at e3
  · rename_i h
    cases e3
    obtain ⟨p, vs, rfl, hp, r1⟩ := rep_lst_inv r
    simp only [Rep] at r3
    subst r3
    have gg := g.trans g3
    refine .inr ⟨p, _, vs, rfl, rfl, g3.i _ _ (g3.f _ _ hp), by have := h.1; omega, by have := h.2.1; omega, by rw [line_eq, ← r1.len]; exact h.2.2, fun n hn => ?_⟩
    rename_i ds k
    have hn0 : H n = none := none_of_ex gg.h hn
    have hf : F3 n = none := none_of_ex gg.i hn
    refine q n F3 _ (gg.trans (Grow.lay gg.i hn _)) hn0 hf ?_
    simp only [OwnC]
    exact ⟨_, upd_same, reps_rep (r1.mono g3.f) _⟩
  · cases e3
theorem evo_addL (ha : Ev T .f ta Γ ma) (hb : Ev T .f tb Γ mb) : EvO T (tOp (rAddA T.K) ta tb) Γ (o2 dAddL ma mb) := fun Z F H σ ok d hd Q q => by
  obtain ⟨x, y, e1, e2, e3⟩ := o2_inv hd
  refine ha Z F H σ ok x e1 _ fun v F2 H2 g r => hb Z F2 H2 σ (ok.grow g) y e2 _ fun w F3 H3 g3 r3 => ?_
  cases x <;> simp only [dAddL] at e3 <;> try (cases e3; done)
  cases y <;> simp only [dAddL] at e3 <;> try (cases e3; done)
  split at e3
  · rename_i h
    cases e3
    obtain ⟨p, vs, rfl, hp, r1⟩ := rep_lst_inv r
    obtain ⟨p', vs', rfl, hp', r2⟩ := rep_lst_inv r3
    have gg := g.trans g3
    refine .inr (.inr (.inl ⟨p, p', vs, vs', rfl, rfl, g3.i _ _ (g3.f _ _ hp), g3.i _ _ hp', by rw [line_eq, ← r1.len, ← r2.len]; exact h, fun n hn => ?_⟩))
    have hn0 : H n = none := none_of_ex gg.h hn
    have hf : F3 n = none := none_of_ex gg.i hn
    refine q n F3 _ (gg.trans (Grow.lay gg.i hn _)) hn0 hf ?_
    simp only [OwnC]
    exact ⟨_, upd_same, (r1.mono g3.f).app r2⟩
  · cases e3
end
/-! ### what may be called: constructors, methods -/
section
variable {P : Program} {w : World} {K : PySem.W.Frag} {mg : Str → Option Value} {base : Heap} {X : Cx}
/-- a class that may be called: C its address -/
structure Cm (P : Program) (w : World) (K : PySem.W.Frag) (mg : Str → Option Value) (base : Heap) (k : Nat) (x : Str) (C : Addr) (ps : List Str) (sp : Sp) : Prop where
  ex : ∃ f fd, FnOk P w K mg base CX0 k f fd ps sp ∧ Mk K C f ∧ mg x = some (.ref C) ∧ Binds K fd ps []
theorem pe_cm {k j : Nat} {x : Str} {C : Addr} {ps : List Str} {sp : Sp} {e : Expr} {es : List Expr} {t : TA} {p pos : Pos} (c : Cm X.prog X.w X.K X.mg X.base j x C ps sp) (hr : Room k X.A) (hg : Gl X x) (ha : PA X (e :: es) t) (hjk : j + 1 ≤ k := by decide)
    (hd : (x == ("__debug__" : Str)) = false := by decide) (he : starEach (e :: es) X.env = (false, eval e X.env) :: starEach es X.env := by rfl) (hpl : (backTo pos (starEach es X.env)).any (·.1) = false := by rfl) : PE X (.Call (.Name x p) (e :: es) [] pos) (tMake C sp [] (fun _ _ _ => False) t) := by
  obtain ⟨f, fd, F, M, hm, hb⟩ := c.ex
  exact pe_make M F (hr.mono hjk) hg hm hb .nil pass0 ha hd he hpl
/-- a method -/
structure Ml (P : Program) (w : World) (K : PySem.W.Frag) (mg : Str → Option Value) (base : Heap) (k : Nat) (C : Addr) (m : Str) (ps : List Str) (sp : Sp) : Prop where
  ex : ∃ f fd, FnOk P w K mg base CX0 k f fd ps sp ∧ Meth K C m f ∧ Binds K fd ps []
theorem pe_ml {k j : Nat} {C : Addr} {m : Str} {ps : List Str} {sp : Sp} {o e : Expr} {es : List Expr} {ta : TE} {t : TA} {apos pos : Pos} {pl : Sem Bool} (he : PE X o ta) (c : Cls X.K C) (l : Ml X.prog X.w X.K X.mg X.base j C m ps sp) (hr : Room k X.A) (ha : PA X (e :: es) t) (hjk : j ≤ k := by decide)
    (hst : starEach (e :: es) X.env = (false, eval e X.env) :: starEach es X.env := by rfl) (hpl : (backTo pos (starEach es X.env)).any (·.1) = false := by rfl)
    (ht : eval (.Call (.Attribute o m apos) (e :: es) [] pos) X.env = (do
      let ov ← eval o X.env
      standAt apos.atName
      let (f, first) ← holding [ov] (getMethod ov m pl)
      callWith pos f first (backTo pos (starEach (e :: es) X.env)) (backToKw pos (keywordEach [] X.env))) := by rfl) : PE X (.Call (.Attribute o m apos) (e :: es) [] pos) (tMeth C m sp [] (fun _ _ _ => False) ta t) := by
  obtain ⟨f, fd, F, M, hb⟩ := l.ex
  exact pe_meth he c M (F.mono hjk) hr hb .nil pass0 ha hst hpl ht
theorem pe_ml0 {k j : Nat} {C : Addr} {m : Str} {ps : List Str} {sp : Sp} {o : Expr} {ta : TE} {apos pos : Pos} {pl : Sem Bool} (he : PE X o ta) (c : Cls X.K C) (l : Ml X.prog X.w X.K X.mg X.base j C m ps sp) (hr : Room k X.A) (hjk : j ≤ k := by decide)
    (ht : eval (.Call (.Attribute o m apos) [] [] pos) X.env = (do
      let ov ← eval o X.env
      standAt apos.atName
      let (f, first) ← holding [ov] (getMethod ov m pl)
      callWith pos f first (backTo pos (starEach [] X.env)) (backToKw pos (keywordEach [] X.env))) := by rfl) : PE X (.Call (.Attribute o m apos) [] [] pos) (tMeth C m sp [] (fun _ _ _ => False) ta tNil) := by
  obtain ⟨f, fd, F, M, hb⟩ := l.ex
  exact pe_meth0 he c M (F.mono hjk) hr hb .nil pass0 ht
end
end Mi
/-! lists of lists that are changed within -/
namespace Mi
open PySem L2
open PyProof.Rows
open Evl (Ex ex_t ex_l ex_rd fresh_back)
section
variable {X : Cx}
theorem get_list : PGet X (rIxL X.K) := by
  intro pins s σ H x y v u Q I rx ry h
  obtain ⟨p, xs, i, z, rfl, rfl, hq, he, q⟩ := h
  cases rx
  obtain ⟨t, rfl⟩ := ry
  obtain ⟨its, r, pl, hz⟩ := I.list hq
  obtain ⟨j, h1, h2, h3, h4, h5⟩ := atI_get he
  obtain ⟨w, ew, rw'⟩ := r.get h2
  have hl := r.length
  have hn := line63
  have fin : EP X pins σ Q w s := ⟨z, H, I, rw', q⟩
  by_cases h0 : 0 ≤ i
  · have hj : i.toNat = j := by
      rw [seqIndex_of h0 h5] at h1
      exact Option.some.inj h1
    exact wpAny_getItem_list (Q := fun r s' => EP X pins σ Q r s') pl.isList h0 (by omega) (by rw [hj]; simpa using ew) fin
  · have hj : (i + (its.toArray.size : Int)).toNat = j := by
      rw [seqIndex_neg (by omega) h4] at h1
      rw [List.size_toArray, ← hl]
      exact Option.some.inj h1
    exact wpAny_getItem_list_neg (Q := fun r s' => EP X pins σ Q r s') pl.isList (by omega) (by rw [List.size_toArray] <;> omega) (by omega) (by rw [hj]; simpa using ew) fin
theorem get_key (hu : X.A.units + 64 < cLine) : PGet X rKeyGet := by
  intro pins s σ H x y v u Q I rx ry h
  obtain ⟨a, z, rfl, g, q⟩ := h
  cases rx
  exact d_getItem (by omega) I g ry fun w' s' I' rw' => ⟨z, H, I', rw', q⟩
def rGetA (K : PySem.W.Frag) : V → V → Hp → VK → Prop := fun x y H Q => rIxL K x y H Q ∨ rKeyGet x y H Q
theorem get_A (hu : X.A.units + 64 < cLine) : PGet X (rGetA X.K) := by
  intro pins s σ H x y v u Q I rx ry h
  rcases h with h | h
  · exact get_list pins s σ H x y v u Q I rx ry h
  · exact get_key hu pins s σ H x y v u Q I rx ry h
end
section
variable {ω : Type} {T : Th} {Γ : Ctx} {md : Md} {ta tb te ti : TE} {ma mb me mi : Option D} {i : Nat} {P : Base → Ends → ω → Prop}
def dGetO : D → D → Option D
  | .lst ds, .int i => atI ds i
  | .dic ks ds, .int i => look ks ds (.inl i)
  | .dic ks ds, .str i => look ks ds (.inr i)
  | _, _ => none
theorem bp_augIt {f : Int → Int → Int} {h : D → D → Option D} {s : Slot} {d : D} (hh : ∀ d e c, h d e = some c → ∃ a b, d = .int a ∧ e = .int b ∧ c = .int (f a b)) (hs : Γ[i]? = some s) (ho : s.isOwnD d) (hi : Ev T .h ti Γ mi) (he : Ev T .h te Γ me) :
    B T (tAugS (tVar i) ti te (rGetA T.K) (ipI f) rSetA) Γ (mi.bind fun k => (dGetO d k).bind fun x => me.bind fun e => (h x e).bind fun z => dSet d k z) (PP T fun d' => Γ.set i (s.put d')) := fun Z F H σ ok d' hd E p => by
  obtain ⟨k, e1, n1⟩ := bind_inv hd
  obtain ⟨x, e2, n2⟩ := bind_inv n1
  obtain ⟨e, e3, n3⟩ := bind_inv n2
  obtain ⟨z, e4, n4⟩ := bind_inv n3
  obtain ⟨a, b, rfl, rfl, rfl⟩ := hh _ _ _ e4
  obtain ⟨p0, a0, _⟩ := own_slot ok hs ho
  refine ⟨_, a0, hi Z F H σ ok k e1 _ fun kv F2 H2 g r => ?_⟩
  obtain ⟨p1, a1, b1, cc, _⟩ := own_slot (ok.grow g) hs ho
  rw [a0] at a1; cases a1
  have hk : flat k = true := by
    cases d <;> cases k <;> simp only [dGetO] at e2 <;> first | rfl | (cases e2; done)
  have rest : ∀ Q : VK, Q (.int a) H2 → rGetA T.K (.ref p0) kv H2 Q := fun Q q => by
    cases d <;> simp only [dGetO] at e2 <;> try (cases e2; done)
    · cases k <;> simp only [dGetO] at e2 <;> try (cases e2; done)
      simp only [Rep] at r
      subst r
      simp only [OwnC] at cc
      obtain ⟨vs, hp, rr⟩ := cc
      obtain ⟨v, hv, rv⟩ := atI_reps rr e2
      simp only [Rep] at rv
      subst rv
      exact .inl ⟨p0, vs, _, _, rfl, rfl, SqL.of hp, hv, q⟩
    · have rd : Rep T H2 _ (.ref p0) := cc.rep g.i
      rename_i kk dd _x
      have hl : dLook (.dic kk dd) k = some (some (.int a)) := by
        cases k <;> simp only [dGetO] at e2 <;> first | (cases e2; done) | (simp only [dLook, keyOf, Option.map_some]; rw [e2])
      obtain ⟨ad, w', f1, f2, f3⟩ := dLook_V rd r hl
      rcases f3 with ⟨f4, _⟩ | ⟨c', v, f4, f5, f6⟩
      · exact absurd f4 (by simp)
      · have f4' := Option.some.inj f4
        subst f4'
        subst f5
        cases f1
        refine .inr ⟨p0, v, rfl, f2, ?_⟩
        have hv : v = .int a := by
          have := f6 H2 (Ex.refl _) rd
          simpa only [Rep] using this
        rw [hv]; exact q
  refine rest _ (he Z F2 H2 σ (ok.grow g) _ e3 _ fun w F3 H3 g3 r3 => ?_)
  simp only [Rep] at r3
  subst r3
  refine ⟨a, b, rfl, rfl, ?_⟩
  have kc : Ev T .f (fun _ H Q => Q kv H) Γ (some k) := fun Z' F' H' σ' ok' d'' hd' Q' q' => by
    cases hd'
    exact q' kv F' H' (Grow.refl ok'.hv.f) (flat_rep hk r)
  have put := bp_put (T := T) (i := i) hs ho (ev_int (Γ := Γ) (md := .f) (i := f a b)) kc Z F3 H3 σ ((ok.grow g).grow g3) d' (by simpa using n4) E p
  obtain ⟨v, hv, put⟩ := put
  rw [a0] at hv; cases hv
  exact put
end
end Mi
/-! a list of lists, all owned -/
namespace Mi
open PySem L2
open PyProof.Rows
open Evl (Ex ex_t ex_l ex_rd fresh_back)
def Fr (Z : Base) (F : Hp) (q : Addr) : Prop := Z.B q = none ∧ F q = none ∧ Z.H q = none
def noOwn (Γ : Ctx) : Bool := Γ.all fun s => !s.isOwn
theorem noOwn_at {Γ : Ctx} {i : Nat} {s : Slot} (h : noOwn Γ = true) (e : Γ[i]? = some s) : s.isOwn = false := by
  have := List.all_eq_true.mp h s (List.mem_of_getElem? e)
  simpa using this
section
variable {T : Th} {Z : Base} {Γ : Ctx} {F F2 H H2 : Hp} {σ : L2.St} {i : Nat} {dss : List (List D)}
theorem Ok.updF (ok : Ok T Z Γ F H σ) (hn : noOwn Γ = true) {q : Addr} (hq : Fr Z F q) (o : HO) : Ok T Z Γ F (upd H q o) σ := by
  have ne : ∀ {G : Hp} {a : Addr} {u : HO}, G q = none → G a = some u → a ≠ q := fun {G a u} h e z => by
    rw [z, h] at e; cases e
  refine ⟨⟨fun a u e => ?_, ok.hv.f0, fun a u e => ?_, fun a e => ?_, ok.hv.new⟩, ok.len, fun j s e => ?_, ok.sep⟩
  · rw [upd_ne (ne hq.1 e)]; exact ok.hv.b a u e
  · rw [upd_ne (ne hq.2.1 e)]; exact ok.hv.f a u e
  · by_cases z : a = q
    · subst z; rw [upd_same]; simp
    · rw [upd_ne z]; exact ok.hv.dom a e
  · have old := ok.at' j s e
    have no := noOwn_at hn e
    cases s <;> simp only [SlotOk, Slot.isOwn] at old no ⊢ <;> first | exact old | (cases no)
structure Nest (T : Th) (Z : Base) (F H : Hp) (σ : L2.St) (i : Nat) (dss : List (List D)) : Prop where
  ex : ∃ (p : Addr) (ps : List Addr), σ[i]? = some (some (.ref p)) ∧ H p = some (.lst (ps.map V.ref)) ∧ (p :: ps).Nodup ∧ (∀ q ∈ p :: ps, Fr Z F q) ∧ ps.length = dss.length ∧
    ∀ (k : Nat) (q : Addr), ps[k]? = some q → ∃ vs ds, dss[k]? = some ds ∧ H q = some (.lst vs) ∧ Reps T F ds vs
theorem Nest.grow (n : Nest T Z F H σ i dss) (g : Grow F F2 H H2) : Nest T Z F2 H2 σ i dss := by
  obtain ⟨p, ps, a, b, c, d, e, f⟩ := n.ex
  have fr : ∀ q u, Fr Z F q → H q = some u → Fr Z F2 q := fun q u h hu => by
    refine ⟨h.1, ?_, h.2.2⟩
    cases z : F2 q with
    | none => rfl
    | some w =>
      rcases g.new q (by rw [z]; simp) with y | y
      · exact absurd h.2.1 y
      · rw [hu] at y; cases y
  refine ⟨p, ps, a, g.h _ _ b, c, fun q hq => ?_, e, fun k q hk => ?_⟩
  · rcases List.mem_cons.mp hq with z | z
    · rw [z]; exact fr p _ (d p (by simp)) b
    · obtain ⟨k, hk⟩ := List.getElem?_of_mem z
      obtain ⟨vs, ds, _, h2, _⟩ := f k q hk
      exact fr q _ (d q hq) h2
  · obtain ⟨vs, ds, h1, h2, h3⟩ := f k q hk
    exact ⟨vs, ds, h1, g.h _ _ h2, h3.mono g.f⟩
theorem Nest.set (n : Nest T Z F H σ i dss) {j : Nat} (hj : j ≠ i) (x : Option V) : Nest T Z F H (σ.set j x) i dss := by
  obtain ⟨p, ps, a, r⟩ := n.ex
  exact ⟨p, ps, by rw [List.getElem?_set_ne hj]; exact a, r⟩
theorem reps_of {G : Hp} : ∀ {ps : List Addr} {dss : List (List D)}, ps.length = dss.length → (∀ (k : Nat) (q : Addr), ps[k]? = some q → ∃ ds, dss[k]? = some ds ∧ Rep T G (.lst ds) (.ref q)) → Reps T G (dss.map D.lst) (ps.map V.ref)
  | [], [], _, _ => Reps.nil
  | [], _ :: _, h, _ => by cases h
  | _ :: _, [], h, _ => by cases h
  | p :: ps, d :: dss, hl, h => by
    obtain ⟨ds, e, r⟩ := h 0 p rfl
    cases e
    exact Reps.cons r (reps_of (by simpa using hl) fun k q hk => h (k + 1) q (by simpa using hk))
theorem Nest.freeze (ok : Ok T Z Γ F H σ) (hn : noOwn Γ = true) (n : Nest T Z F H σ i dss) : ∃ F', Ok T Z (Γ.set i (.val (.lst (dss.map D.lst)))) F' H σ := by
  obtain ⟨p, ps, a, b, c, d, e, f⟩ := n.ex
  classical
  let F' : Hp := fun x => if x ∈ p :: ps then H x else F x
  have eF : Ex F F' := fun x u hx => by
    show (if x ∈ p :: ps then H x else F x) = some u
    rw [if_neg (fun hm => by have := (d x hm).2.1; rw [hx] at this; cases this)]
    exact hx
  have eH : Ex F' H := fun x u hx => by
    have hx' : (if x ∈ p :: ps then H x else F x) = some u := hx
    split at hx'
    · exact hx'
    · exact ok.hv.f x u hx'
  have at1 : ∀ x ∈ p :: ps, F' x = H x := fun x hx => if_pos hx
  refine ⟨F', ⟨⟨ok.hv.b, ok.hv.f0.trans eF, eH, ok.hv.dom, fun x hx => ?_⟩, by simpa using ok.len, fun j s hj => ?_, fun j k q s t h1 h2 => ?_⟩⟩
  · by_cases hm : x ∈ p :: ps
    · exact .inr (d x hm).2.2
    · have : F' x = F x := if_neg hm
      rw [this] at hx
      exact ok.hv.new x hx
  · by_cases hij : i = j
    · subst hij
      have hl : i < Γ.length := by
        have := (List.getElem?_eq_some_iff.mp hj).1
        simpa using this
      rw [List.getElem?_set_self hl] at hj; cases hj
      refine ⟨_, a, ?_⟩
      simp only [Rep]
      refine ⟨p, _, rfl, by rw [at1 p (by simp)]; exact b, reps_of e fun k q hk => ?_⟩
      obtain ⟨vs, ds, h1, h2, h3⟩ := f k q hk
      refine ⟨ds, h1, ?_⟩
      simp only [Rep]
      exact ⟨q, vs, rfl, by rw [at1 q (List.mem_cons_of_mem _ (List.mem_of_getElem? hk))]; exact h2, h3.mono eF⟩
    · rw [List.getElem?_set_ne hij] at hj
      have old := ok.at' j s hj
      have no := noOwn_at hn hj
      cases s <;> simp only [SlotOk, Slot.isOwn] at old no ⊢ <;> first | exact old | (cases no; done) | skip
      obtain ⟨v, h1, h2⟩ := old
      exact ⟨v, h1, h2.mono eF⟩
  · exfalso
    by_cases hij : i = j
    · subst hij
      have hl : i < Γ.length := by
        have := (List.getElem?_eq_some_iff.mp h1).1
        simpa using this
      rw [List.getElem?_set_self hl] at h1; cases h1
      cases h2
    · rw [List.getElem?_set_ne hij] at h1
      rw [noOwn_at hn h1] at h2; cases h2
/-- a store into the k-th list -/
theorem Nest.put (n : Nest T Z F H σ i dss) {p : Addr} {ps : List Addr} (hp : σ[i]? = some (some (.ref p))) (hps : H p = some (.lst (ps.map V.ref))) {k : Nat} {q : Addr} (hk : ps[k]? = some q) {ds : List D} {vs : List V} (r : Reps T F ds vs) :
    Fr Z F q ∧ Nest T Z F (upd H q (.lst vs)) σ i (dss.set k ds) := by
  obtain ⟨p', ps', a, b, c, d, e, f⟩ := n.ex
  rw [hp] at a; cases a
  rw [hps] at b
  have eps : ps = ps' := by
    have := (HO.lst.inj (Option.some.inj b))
    have inj : ∀ {as bs : List Addr}, as.map V.ref = bs.map V.ref → as = bs := by
      intro as
      induction as with
      | nil => intro bs h; cases bs <;> simp at h ⊢
      | cons x as ih => intro bs h; cases bs with
        | nil => simp at h
        | cons y bs => simp only [List.map_cons, List.cons.injEq, V.ref.injEq] at h; rw [h.1, ih h.2]
    exact inj this
  subst eps
  have hqm : q ∈ ps := List.mem_of_getElem? hk
  have hne : p ≠ q := fun z => by
    subst z
    exact (List.nodup_cons.mp c).1 hqm
  refine ⟨d q (List.mem_cons_of_mem _ hqm), p, ps, hp, by rw [upd_ne hne]; exact hps, c, d, by simpa using e, fun j q' hj => ?_⟩
  by_cases hjk : j = k
  · subst hjk
    rw [hk] at hj; cases hj
    have hl : j < dss.length := by rw [← e]; exact (List.getElem?_eq_some_iff.mp hk).1
    exact ⟨vs, ds, by rw [List.getElem?_set_self hl], upd_same, r⟩
  · have hqq : q' ≠ q := fun z => by
      subst z
      have hnd := (List.nodup_cons.mp c).2
      obtain ⟨l1, g1⟩ := List.getElem?_eq_some_iff.mp hj
      obtain ⟨l2, g2⟩ := List.getElem?_eq_some_iff.mp hk
      rcases Nat.lt_or_gt_of_ne hjk with w | w
      · exact List.pairwise_iff_getElem.mp hnd _ _ l1 l2 w (g1.trans g2.symm)
      · exact List.pairwise_iff_getElem.mp hnd _ _ l2 l1 w (g2.trans g1.symm)
    obtain ⟨vs', ds', h1, h2, h3⟩ := f j q' hj
    exact ⟨vs', ds', by rw [List.getElem?_set_ne (Ne.symm hjk)]; exact h1, by rw [upd_ne hqq]; exact h2, h3⟩
end
end Mi
/-! blocks that change a list of lists -/
namespace Mi
open PySem L2
open PyProof.Rows
open Evl (Ex ex_t ex_l ex_rd fresh_back)
def BN {ω : Type} (T : Th) (t : TS) (Γ : Ctx) (i : Nat) (dss : List (List D)) (m : Option ω) (P : Base → Ends → ω → Prop) : Prop := ∀ Z F H σ, Ok T Z Γ F H σ → Nest T Z F H σ i dss → ∀ o, m = some o → ∀ E : Ends, P Z E o → t E σ H
abbrev PPn {α : Type} (T : Th) (Γn : α → Ctx) (i : Nat) (Dn : α → List (List D)) : Base → Ends → α → Prop := fun Z E a => ∀ F H σ, Ok T Z (Γn a) F H σ → Nest T Z F H σ i (Dn a) → E.nx σ H
def dNest (dss : List (List D)) (a b c : D) : Option (List (List D)) := match a, b, c with
  | .int a, .int b, .int w => (ixN dss.length a).bind fun k => (dss[k]?).bind fun ds => (ixN ds.length b).bind fun j => (ds[j]?).bind fun x => match x with
    | .int x => some (dss.set k (ds.set j (.int (x + w))))
    | _ => none
  | _, _, _ => none
theorem dNest_inv {dss dss' : List (List D)} {a b c : D} (h : dNest dss a b c = some dss') : ∃ (a' b' w x : Int) (k j : Nat) (ds : List D), a = .int a' ∧ b = .int b' ∧ c = .int w ∧ ixN dss.length a' = some k ∧ dss[k]? = some ds ∧ ixN ds.length b' = some j ∧ ds[j]? = some (.int x) ∧ dss' = dss.set k (ds.set j (.int (x + w))) := by
  unfold dNest at h
  split at h
  · obtain ⟨k, f1, g1⟩ := bind_inv h
    obtain ⟨ds, f2, g2⟩ := bind_inv g1
    obtain ⟨j, f3, g3⟩ := bind_inv g2
    obtain ⟨x, f4, g4⟩ := bind_inv g3
    split at g4
    · cases g4
      exact ⟨_, _, _, _, k, j, ds, rfl, rfl, rfl, f1, f2, f3, f4, rfl⟩
    · cases g4
  · cases h
section
variable {ω : Type} {T : Th} {Γ Γ' : Ctx} {md : Md} {ta tb tc te : TE} {ma mb mc : Option D} {i j k l : Nat} {dss : List (List D)} {t u : TS} {P : Base → Ends → ω → Prop} {m : Option ω}
theorem bn_frz (hn : noOwn Γ = true) (hb : B T t (Γ.set i (.val (.lst (dss.map D.lst)))) m P) : BN T t Γ i dss m P := fun Z F H σ ok n o ho E p => by
  obtain ⟨F', ok'⟩ := n.freeze ok hn
  exact hb Z F' H σ ok' o ho E p
theorem bn_le (h : Le Γ Γ') (hb : BN T t Γ' i dss m P) : BN T t Γ i dss m P := fun Z F H σ ok => hb Z F H σ (ok.le h)
theorem bn_aug {mk : List (List D) → Option ω} (hn : noOwn Γ = true) (ha : Ev T .h ta Γ ma) (hb : Ev T .h tb Γ mb) (hc : Ev T .h tc Γ mc) (hu : ∀ dss', BN T u Γ i dss' (mk dss') P) :
    BN T (tSeq (tAugS (tOp (rIxA T.K) (tVar i) ta) tb tc (rGetA T.K) (ipI fun x y => x + y) rSetA) u) Γ i dss (ma.bind fun a => mb.bind fun b => mc.bind fun c => (dNest dss a b c).bind mk) P := fun Z F H σ ok n o ho E pp => by
  obtain ⟨a, e1, n1⟩ := bind_inv ho
  obtain ⟨b, e2, n2⟩ := bind_inv n1
  obtain ⟨c, e3, n3⟩ := bind_inv n2
  obtain ⟨dss', e4, e5⟩ := bind_inv n3
  obtain ⟨a, b, w, x, kk, jj, ds, rfl, rfl, rfl, f1, f2, f3, f4, rfl⟩ := dNest_inv e4
  obtain ⟨p0, _, a0, _⟩ := n.ex
  refine ⟨_, a0, ha Z F H σ ok _ e1 _ fun v F2 H2 gr2 r2 => ?_⟩
  simp only [Rep] at r2; subst r2
  have n2' := n.grow gr2
  obtain ⟨p, ps, b1, b2, b3, b4, b5, b6⟩ := n2'.ex
  rw [a0] at b1; cases b1
  have hkl : kk < ps.length := by rw [b5]; exact (List.getElem?_eq_some_iff.mp f2).1
  obtain ⟨q, hq⟩ : ∃ q, ps[kk]? = some q := ⟨ps[kk], List.getElem?_eq_getElem hkl⟩
  obtain ⟨vs, ds', c1, c2, c3⟩ := b6 kk q hq
  rw [f2] at c1; cases c1
  refine .inl (.inl ⟨p0, ps.map V.ref, a, .ref q, rfl, rfl, SqL.of b2, ?_, ?_⟩)
  · show (ixN (ps.map V.ref).length a).bind _ = _
    rw [List.length_map, b5, f1]
    simp [hq]
  refine hb Z F2 H2 σ (ok.grow gr2) _ e2 _ fun v F3 H3 gr3 r3 => ?_
  simp only [Rep] at r3; subst r3
  obtain ⟨v, hv, rv⟩ := atI_reps c3 (show atI ds b = some (.int x) by show (ixN ds.length b).bind _ = _; rw [f3]; exact f4)
  simp only [Rep] at rv; subst rv
  refine .inl ⟨q, vs, b, _, rfl, rfl, SqL.of (gr3.h _ _ c2), hv, ?_⟩
  refine hc Z F3 H3 σ ((ok.grow gr2).grow gr3) _ e3 _ fun v F4 H4 gr4 r4 => ?_
  simp only [Rep] at r4; subst r4
  have n4 := (n2'.grow gr3).grow gr4
  have ok4 := ((ok.grow gr2).grow gr3).grow gr4
  refine ⟨x, w, rfl, rfl, .inl ⟨q, vs, b, jj, rfl, rfl, gr4.h _ _ (gr3.h _ _ c2), by rw [← c3.len]; exact f3, ?_⟩⟩
  have rs : Reps T F4 (ds.set jj (.int (x + w))) (vs.set jj (.int (x + w))) := Reps.set jj ((c3.mono gr3.f).mono gr4.f) (d := .int (x + w)) (v := .int (x + w)) (by simp only [Rep])
  obtain ⟨fq, n5⟩ := n4.put a0 (gr4.h _ _ (gr3.h _ _ b2)) hq rs
  exact hu _ Z F4 _ σ (ok4.updF hn fq _) n5 o e5 E pp
theorem bnn_end {α : Type} {Γn : α → Ctx} {Dn : α → List (List D)} {a : α} (h : Le Γ (Γn a)) (hd : Dn a = dss) : BN T tNext Γ i dss (some a) (PPn T Γn i Dn) := fun Z F H σ ok n a' e E p => by
  cases e
  exact p F H σ (ok.le h) (by rw [hd]; exact n)
theorem bn_for3 {wi : TI} {a b c : Nat} {mi : Option (List D)} {f : List (List D) → D → D → D → Option (List (List D))} {mk : List (List D) → Option ω} {Γh : Ctx} (hi : EvI T wi Γ .f mi) (h0 : Le Γ Γh) (hai : a ≠ i) (hbi : b ≠ i) (hci : c ≠ i)
    (hb : ∀ dss x y z, BN T t (((Γh.set a (.val x)).set b (.val y)).set c (.val z)) i dss (f dss x y z) (PPn T (fun _ : List (List D) => Γh) i fun d => d)) (hu : ∀ dss', BN T u Γh i dss' (mk dss') P) :
    BN T (tSeq (tFor wi (gTup T.K 3 (gCons (gName a) (gCons (gName b) (gCons (gName c) gNil)))) t) u) Γ i dss ((mi.bind fun ds => foldO (fun dss d => un3 d (f dss)) ds dss).bind mk) P := fun Z F H σ ok n o ho E pp => by
  obtain ⟨fin, e1, e2⟩ := bind_inv ho
  obtain ⟨ds, e3, e4⟩ := bind_inv e1
  refine hi Z F H σ ok ds e3 _ fun J F2 H2 gr wk => ?_
  have ok2 := (ok.grow gr).le h0
  have n2 := n.grow gr
  refine ⟨fun k m σ H => m = ds.length - k ∧ k ≤ ds.length ∧ ∃ dss F, Ok T (Z.at F2) Γh F H σ ∧ Nest T Z F H σ i dss ∧ foldO (fun dss d => un3 d (f dss)) (ds.drop k) dss = some fin, ⟨ds.length, by simp, Nat.zero_le _, dss, F2, ok2.at0, n2, by simpa using e4⟩, ?_⟩
  rintro k m σ H ⟨rfl, hk, dss, F, okb, nb, hfold⟩
  by_cases hlt : k < ds.length
  · refine .inr ⟨wk.go k F H hlt okb.hv.f0 okb.hv.f okb.hv.b, fun σ' H' => ∃ dss' F', Ok T (Z.at F2) Γh F' H' σ' ∧ Nest T Z F' H' σ' i dss' ∧ foldO (fun dss d => un3 d (f dss)) (ds.drop (k + 1)) dss' = some fin,
      fun σ' H' ⟨dss', F', x1, x2, x3⟩ => ⟨ds.length - (k + 1), by omega, rfl, hlt, dss', F', x1, x2, x3⟩, fun x H' y => ?_⟩
    have hd : ds.drop k = ds[k] :: ds.drop (k + 1) := List.drop_eq_getElem_cons hlt
    rw [hd, foldO_cons] at hfold
    obtain ⟨dss1, y1, y2⟩ := bind_inv hfold
    obtain ⟨F3, g3, r3⟩ := wk.yld k F H x H' hlt okb.hv.f0 okb.hv.f okb.hv.b y
    have rx := r3 ds[k] (by simp [hlt])
    obtain ⟨d1, d2, d3, ed, y3⟩ := un3_inv y1
    rw [ed] at rx
    obtain ⟨q, vs, rfl, hq, rr⟩ := rep_tup_inv rx
    obtain ⟨va, s1, rfl, ra, rr⟩ := rr.uncons
    obtain ⟨vb, s2, rfl, rb, rr⟩ := rr.uncons
    obtain ⟨vc, s3, rfl, rc, rr⟩ := rr.uncons
    simp only [Reps] at rr; subst rr
    have ok3 := okb.grow g3
    refine ⟨q, _, rfl, SqT.of (ok3.hv.f _ _ hq), rfl, va, _, rfl, vb, _, rfl, vc, _, rfl, rfl, ?_⟩
    have ok4 := ((ok3.setVal (i := a) ra).setVal (i := b) rb).setVal (i := c) rc
    have n4 := (((nb.grow g3).set hai (some va)).set hbi (some vb)).set hci (some vc)
    exact hb dss d1 d2 d3 (Z.at F2) F3 H' _ ok4 ⟨n4.ex⟩ dss1 y3 _ fun F5 H5 σ5 ok5 n5 => ⟨dss1, F5, ok5, ⟨n5.ex⟩, y2⟩
  · have e : k = ds.length := by omega
    subst e
    rw [List.drop_length] at hfold
    cases hfold
    exact .inl ⟨wk.stop F H okb.hv.f0 okb.hv.f okb.hv.b, hu _ Z F H σ (okb.un (ok.grow gr).hv) nb o e2 E pp⟩
def dGrid : D → Option (List (List D))
  | .int n => if 0 ≤ n ∧ n ≤ 1000 then some (List.replicate n.toNat (List.replicate n.toNat (.int 0))) else none
  | _ => none
theorem reps_rep0 {G : Hp} : ∀ n : Nat, Reps T G (List.replicate n (D.int 0)) (List.replicate n (V.int 0))
  | 0 => Reps.nil
  | n + 1 => Reps.cons (by simp only [Rep]) (reps_rep0 n)
/-- [[0] * n for v in range(n)] -/
theorem bn_grid {r v : Nat} {d : D} {mk : List (List D) → Option ω} (hrv : v ≠ r) (hli : i < Γ.length) (hr : Γ[r]? = some (.val d)) (hu : ∀ dss', BN T u (Γ.set i .no) i dss' (mk dss') P) :
    B T (tSeq (tAsg (tLc (iRng1 (tCons (tVar r) tNil)) (gName v) tYes (tOp (rMulA T.K) (tLst (tCons (tC (.int 0)) tNil)) (tVar r)) [v]) (gName i)) u) Γ ((dGrid d).bind mk) P := fun Z F H σ ok o ho E pp => by
  obtain ⟨dss, e1, e2⟩ := bind_inv ho
  cases d <;> simp only [dGrid] at e1 <;> try (cases e1; done)
  rename_i n
  split at e1
  · rename_i hn
    cases e1
    obtain ⟨w, hw, rw0⟩ := ok.at' r _ hr
    simp only [Rep] at rw0; subst rw0
    refine ⟨_, hw, n, rfl, by omega, by omega, fun L hL => ?_⟩
    refine ⟨fun k m H' => m = n.toNat - k ∧ k ≤ n.toNat ∧ ∃ ps : List Addr, H' L = some (.lst (ps.map V.ref)) ∧ ps.length = k ∧ (L :: ps).Nodup ∧ Ex H H' ∧ ∀ q ∈ ps, H q = none ∧ H' q = some (.lst (List.replicate n.toNat (.int 0))),
      ⟨n.toNat, by simp, Nat.zero_le _, [], upd_same, rfl, by simp, Ex.new hL, fun q hq => by cases hq⟩, ?_⟩
    rintro k m H' ⟨rfl, hk, ps, a1, a2, a3, a4, a5⟩
    by_cases hlt : k < n.toNat
    · refine .inr ⟨hlt, fun H'' => ∃ ps : List Addr, H'' L = some (.lst (ps.map V.ref)) ∧ ps.length = k + 1 ∧ (L :: ps).Nodup ∧ Ex H H'' ∧ ∀ q ∈ ps, H q = none ∧ H'' q = some (.lst (List.replicate n.toNat (.int 0))),
        fun H'' h => ⟨n.toNat - (k + 1), by omega, rfl, hlt, h⟩, ?_⟩
      rintro x H'' ⟨rfl, rfl⟩
      refine ⟨by simp [wipe], ?_⟩
      simp only [tYes, if_true]
      refine ⟨by rw [line_eq]; decide, fun l hl => ?_⟩
      have hr2 : (((wipe σ [v]).set v (some (V.int (0 + (k : Int)))))[r]?) = some (some (.int n)) := by
        rw [List.getElem?_set_ne hrv]
        show ((σ.set v none)[r]?) = _
        rw [List.getElem?_set_ne hrv]; exact hw
      refine ⟨_, hr2, .inr ⟨l, n, [.int 0], rfl, rfl, upd_same, by omega, by omega, by rw [line_eq]; simp; omega, fun p hp => ?_⟩⟩
      have hLl : L ≠ l := fun z => by rw [z, hl] at a1; cases a1
      have hpl : p ≠ l := fun z => by rw [z, upd_same] at hp; cases hp
      have hp' : H'' p = none := by rw [upd_ne hpl] at hp; exact hp
      have hLp : L ≠ p := fun z => by rw [z, hp'] at a1; cases a1
      refine ⟨ps.map V.ref, by rw [upd_ne hLp, upd_ne hLl]; exact a1, by rw [List.length_map, line_eq]; omega, ps ++ [p], by rw [upd_same]; simp, by simp [a2], ?_, ?_, ?_⟩
      · have hps : p ∉ ps := fun z => by rw [(a5 p z).2] at hp'; cases hp'
        rw [List.nodup_cons] at a3 ⊢
        refine ⟨by simp; exact ⟨a3.1, hLp⟩, ?_⟩
        rw [List.nodup_append]
        exact ⟨a3.2, by simp, fun x hx y hy z => by simp at hy; subst hy; subst z; exact hps hx⟩
      · intro a o e
        have h1 := a4 a o e
        rw [upd_ne (ne_of_none e hL), upd_ne (fun z => by rw [z, hp'] at h1; cases h1), upd_ne (fun z => by rw [z, hl] at h1; cases h1)]
        exact h1
      · intro q hq
        rcases List.mem_append.mp hq with z | z
        · obtain ⟨b1, b2⟩ := a5 q z
          refine ⟨b1, ?_⟩
          rw [upd_ne (fun w => by subst w; exact (List.nodup_cons.mp a3).1 z), upd_ne (fun w => by rw [w, hp'] at b2; cases b2), upd_ne (fun w => by rw [w, hl] at b2; cases b2)]
          exact b2
        · simp at z
          subst z
          refine ⟨none_of_ex a4 hp', ?_⟩
          rw [upd_ne hLp.symm, upd_same, List.flatten_replicate_singleton]
    · have e : k = n.toNat := by omega
      subst e
      refine .inl ⟨Nat.le_refl _, ?_⟩
      have gr : Grow F F H H' := ⟨Ex.refl F, ok.hv.f.trans a4, a4, fun _ h => .inl h⟩
      have fr : ∀ q, H q = none → Fr Z F q := fun q hq => ⟨none_of_ex ok.hv.b hq, none_of_ex ok.hv.f hq, by
        cases z : Z.H q with
        | none => rfl
        | some u => exact absurd hq (ok.hv.dom q (by rw [z]; simp))⟩
      have ok2 := (ok.grow gr).set (i := i) (s := .no) (v := .ref L) trivial fun z => by cases z
      refine hu _ Z F H' _ ok2 ⟨L, ps, ?_, a1, a3, fun q hq => ?_, by rw [a2]; simp, fun j q hj => ?_⟩ o e2 E pp
      · exact List.getElem?_set_self (Nat.lt_of_lt_of_le hli ok.len)
      · rcases List.mem_cons.mp hq with z | z
        · rw [z]; exact fr L hL
        · exact fr q (a5 q z).1
      · have hjl : j < n.toNat := by rw [← a2]; exact (List.getElem?_eq_some_iff.mp hj).1
        refine ⟨_, List.replicate n.toNat (.int 0), by rw [List.getElem?_replicate]; simp [hjl], (a5 q (List.mem_of_getElem? hj)).2, reps_rep0 _⟩
  · cases e1
end
end Mi
namespace Mi
open PySem L2
theorem hh_add : ∀ d e c, dAddI d e = some c → ∃ a b, d = .int a ∧ e = .int b ∧ c = .int (a + b) := fun d e c h => by
  cases d <;> simp only [dAddI] at h <;> try (cases h; done)
  cases e <;> simp only [dAddI] at h <;> try (cases h; done)
  cases h
  exact ⟨_, _, rfl, rfl, rfl⟩
theorem hh_sub : ∀ d e c, dSub d e = some c → ∃ a b, d = .int a ∧ e = .int b ∧ c = .int (a - b) := fun d e c h => by
  cases d <;> simp only [dSub] at h <;> try (cases h; done)
  cases e <;> simp only [dSub] at h <;> try (cases h; done)
  cases h
  exact ⟨_, _, rfl, rfl, rfl⟩
open PySem.W in
theorem kit_cls_no {K : PySem.W.Frag} {C : Addr} {a : String} (h1 : isClsIn K C = true) (h2 : typeIn K (.ref C) = some (.type "type")) (h3 : ((fastBuiltinMro a).map fun l => l.all fun v => match v with | .ref _ => false | _ => true) = some true) : kitOne K (.type a) (.ref C) = some false := by
  unfold kitOne kitCls subIn
  have e1 : (clsIn K C).isSome = true := h1
  have e2 : ((Value.type a) == (.ref C)) = false := by rfl
  rw [e2]
  simp only [e1, h2, Bool.true_and, Bool.false_eq_true, if_false]
  rw [if_pos (by rfl)]
  cases q : fastBuiltinMro a with
  | none => rw [q] at h3; cases h3
  | some l =>
    rw [q] at h3
    simp only [Option.map_some, Option.some.injEq] at h3 ⊢
    have hall := List.all_eq_true.mp h3
    have : ¬ (l.contains (Value.ref C) = true) := fun hc => by
      obtain ⟨x, hx, hxe⟩ := List.any_eq_true.mp (by rw [List.contains_eq_any_beq] at hc; exact hc)
      have := hall x hx
      cases x <;> first | (cases hxe; done) | (cases this; done)
    simpa using this
theorem kit_ty_no {K : PySem.W.Frag} {C : Addr} (h1 : PySem.W.isClsIn K C = true) (h2 : PySem.W.typeIn K (.ref C) = some (.type "type")) (d : D) (a : String) (h : tyN d = some a) : PySem.W.kitOne K (.type a) (.ref C) = some false := by
  refine kit_cls_no h1 h2 ?_
  cases d <;> simp only [tyN, Option.some.injEq] at h <;> first | (cases h; done) | (subst h; decide +kernel)
end Mi
/-! a list of lists: rows by another name -/
namespace Mi
open PySem L2
open PyProof.Rows
open Evl (Ex ex_t ex_l ex_rd fresh_back)
section
variable {ω : Type} {T : Th} {Γ Γ' : Ctx} {md : Md} {ta tb tc te : TE} {ma mb mc : Option D} {i j k l : Nat} {dss : List (List D)} {t u : TS} {P : Base → Ends → ω → Prop} {m : Option ω}
theorem noOwn_set {Γ : Ctx} {j : Nat} {s : Slot} (h : noOwn Γ = true) (hs : s.isOwn = false) : noOwn (Γ.set j s) = true := by
  unfold noOwn at h ⊢
  rw [List.all_eq_true] at h ⊢
  intro x hx
  rcases List.mem_or_eq_of_mem_set hx with z | z
  · exact h x z
  · rw [z, hs]; rfl
/-- row = rows[a]; row[b] = row[b] + c -/
theorem bn_alias {mk : List (List D) → Option ω} (hn : noOwn Γ = true) (hji : j ≠ i) (hlj : j < Γ.length) (ha : Ev T .h ta Γ ma) (hb : Ev T .h tb (Γ.set j .no) mb) (hc : Ev T .h tc (Γ.set j .no) mc) (hu : ∀ dss', BN T u (Γ.set j .no) i dss' (mk dss') P) :
    BN T (tSeq (tAsg (tOp (rIxA T.K) (tVar i) ta) (gName j)) (tSeq (tAsg (tOp (rAddA T.K) (tOp (rIxA T.K) (tVar j) tb) tc) (gSub (tVar j) tb rSetA)) u)) Γ i dss (ma.bind fun a => mb.bind fun b => mc.bind fun c => (dNest dss a b c).bind mk) P := fun Z F H σ ok n o ho E pp => by
  obtain ⟨a, e1, n1⟩ := bind_inv ho
  obtain ⟨b, e2, n2⟩ := bind_inv n1
  obtain ⟨c, e3, n3⟩ := bind_inv n2
  obtain ⟨dss', e4, e5⟩ := bind_inv n3
  obtain ⟨a, b, w, x, kk, jj, ds, rfl, rfl, rfl, f1, f2, f3, f4, rfl⟩ := dNest_inv e4
  obtain ⟨p0, _, a0, _⟩ := n.ex
  refine ⟨_, a0, ha Z F H σ ok _ e1 _ fun v F2 H2 gr2 r2 => ?_⟩
  simp only [Rep] at r2; subst r2
  have n2' := n.grow gr2
  obtain ⟨p, ps, b1, b2, b3, b4, b5, b6⟩ := n2'.ex
  rw [a0] at b1; cases b1
  have hkl : kk < ps.length := by rw [b5]; exact (List.getElem?_eq_some_iff.mp f2).1
  obtain ⟨q, hq⟩ : ∃ q, ps[kk]? = some q := ⟨ps[kk], List.getElem?_eq_getElem hkl⟩
  obtain ⟨vs, ds', c1, c2, c3⟩ := b6 kk q hq
  rw [f2] at c1; cases c1
  refine .inl (.inl ⟨p0, ps.map V.ref, a, .ref q, rfl, rfl, SqL.of b2, ?_, ?_⟩)
  · show (ixN (ps.map V.ref).length a).bind _ = _
    rw [List.length_map, b5, f1]
    simp [hq]
  have ok2 := (ok.grow gr2).set (i := j) (s := .no) (v := .ref q) trivial fun z => by cases z
  have hjs : ((σ.set j (some (V.ref q)))[j]?) = some (some (.ref q)) := List.getElem?_set_self (Nat.lt_of_lt_of_le hlj ok.len)
  have n3' := n2'.set hji (some (.ref q))
  have his : ((σ.set j (some (V.ref q)))[i]?) = some (some (.ref p0)) := by rw [List.getElem?_set_ne hji]; exact a0
  refine ⟨_, hjs, hb Z F2 H2 _ ok2 _ e2 _ fun v F3 H3 gr3 r3 => ?_⟩
  simp only [Rep] at r3; subst r3
  obtain ⟨v, hv, rv⟩ := atI_reps c3 (show atI ds b = some (.int x) by show (ixN ds.length b).bind _ = _; rw [f3]; exact f4)
  simp only [Rep] at rv; subst rv
  refine .inl (.inl ⟨q, vs, b, _, rfl, rfl, SqL.of (gr3.h _ _ c2), hv, ?_⟩)
  refine hc Z F3 H3 _ (ok2.grow gr3) _ e3 _ fun v F4 H4 gr4 r4 => ?_
  simp only [Rep] at r4; subst r4
  refine .inl ⟨x, w, rfl, rfl, ?_⟩
  have ok4 := (ok2.grow gr3).grow gr4
  refine ⟨_, hjs, hb Z F4 H4 _ ok4 _ e2 _ fun v F5 H5 gr5 r5 => ?_⟩
  simp only [Rep] at r5; subst r5
  have n5 := ((n3'.grow gr3).grow gr4).grow gr5
  have ok5 := ok4.grow gr5
  refine .inl ⟨q, vs, b, jj, rfl, rfl, gr5.h _ _ (gr4.h _ _ (gr3.h _ _ c2)), by rw [← c3.len]; exact f3, ?_⟩
  have rs : Reps T F5 (ds.set jj (.int (x + w))) (vs.set jj (.int (x + w))) := Reps.set jj (((c3.mono gr3.f).mono gr4.f).mono gr5.f) (d := .int (x + w)) (v := .int (x + w)) (by simp only [Rep])
  obtain ⟨fq, n6⟩ := n5.put his (gr5.h _ _ (gr4.h _ _ (gr3.h _ _ b2))) hq rs
  exact hu _ Z F5 _ _ (ok5.updF (noOwn_set hn rfl) fq _) n6 o e5 E pp
/-- for v in ..: a block that changes the rows -/
theorem bn_for1 {wi : TI} {a : Nat} {mi : Option (List D)} {f : List (List D) → D → Option (List (List D))} {mk : List (List D) → Option ω} {Γh : Ctx} (hi : EvI T wi Γ .f mi) (h0 : Le Γ Γh) (hai : a ≠ i)
    (hb : ∀ dss x, BN T t (Γh.set a (.val x)) i dss (f dss x) (PPn T (fun _ : List (List D) => Γh) i fun d => d)) (hu : ∀ dss', BN T u Γh i dss' (mk dss') P) :
    BN T (tSeq (tFor wi (gName a) t) u) Γ i dss ((mi.bind fun ds => foldO f ds dss).bind mk) P := fun Z F H σ ok n o ho E pp => by
  obtain ⟨fin, e1, e2⟩ := bind_inv ho
  obtain ⟨ds, e3, e4⟩ := bind_inv e1
  refine hi Z F H σ ok ds e3 _ fun J F2 H2 gr wk => ?_
  have ok2 := (ok.grow gr).le h0
  have n2 := n.grow gr
  refine ⟨fun k m σ H => m = ds.length - k ∧ k ≤ ds.length ∧ ∃ dss F, Ok T (Z.at F2) Γh F H σ ∧ Nest T Z F H σ i dss ∧ foldO f (ds.drop k) dss = some fin, ⟨ds.length, by simp, Nat.zero_le _, dss, F2, ok2.at0, n2, by simpa using e4⟩, ?_⟩
  rintro k m σ H ⟨rfl, hk, dss, F, okb, nb, hfold⟩
  by_cases hlt : k < ds.length
  · refine .inr ⟨wk.go k F H hlt okb.hv.f0 okb.hv.f okb.hv.b, fun σ' H' => ∃ dss' F', Ok T (Z.at F2) Γh F' H' σ' ∧ Nest T Z F' H' σ' i dss' ∧ foldO f (ds.drop (k + 1)) dss' = some fin,
      fun σ' H' ⟨dss', F', x1, x2, x3⟩ => ⟨ds.length - (k + 1), by omega, rfl, hlt, dss', F', x1, x2, x3⟩, fun x H' y => ?_⟩
    have hd : ds.drop k = ds[k] :: ds.drop (k + 1) := List.drop_eq_getElem_cons hlt
    rw [hd, foldO_cons] at hfold
    obtain ⟨dss1, y1, y2⟩ := bind_inv hfold
    obtain ⟨F3, g3, r3⟩ := wk.yld k F H x H' hlt okb.hv.f0 okb.hv.f okb.hv.b y
    have rx := r3 ds[k] (by simp [hlt])
    have ok4 := (okb.grow g3).setVal (i := a) rx
    have n4 := (nb.grow g3).set hai (some x)
    exact hb dss ds[k] (Z.at F2) F3 H' _ ok4 ⟨n4.ex⟩ dss1 y1 _ fun F5 H5 σ5 ok5 n5 => ⟨dss1, F5, ok5, ⟨n5.ex⟩, y2⟩
  · have e : k = ds.length := by omega
    subst e
    rw [List.drop_length] at hfold
    cases hfold
    exact .inl ⟨wk.stop F H okb.hv.f0 okb.hv.f okb.hv.b, hu _ Z F H σ (okb.un (ok.grow gr).hv) nb o e2 E pp⟩
theorem fr_of {Z : Base} {F H : Hp} {σ : L2.St} (ok : Ok T Z Γ F H σ) {q : Addr} (hq : H q = none) : Fr Z F q := ⟨none_of_ex ok.hv.b hq, none_of_ex ok.hv.f hq, by
  cases z : Z.H q with
  | none => rfl
  | some u => exact absurd hq (ok.hv.dom q (by rw [z]; simp))⟩
/-- rows = [] -/
theorem bnn_start (hli : i < Γ.length) (hu : BN T u (Γ.set i .no) i [] m P) : B T (tSeq (tAsg (tLst tNil) (gName i)) u) Γ m P := fun Z F H σ ok o ho E pp => by
  refine ⟨by rw [line_eq]; decide, fun l hl => ?_⟩
  have g : Grow F F H (upd H l (.lst [])) := Grow.lay ok.hv.f hl _
  have ok2 := (ok.grow g).set (i := i) (s := .no) (v := .ref l) trivial fun z => by cases z
  refine hu Z F _ _ ok2 ⟨l, [], List.getElem?_set_self (Nat.lt_of_lt_of_le hli ok.len), upd_same, by simp, fun q hq => ?_, rfl, fun k q hk => by simp at hk⟩ o ho E pp
  simp at hq
  subst hq
  exact fr_of ok hl
def dAppN (dss : List (List D)) : D → Option (List (List D))
  | .lst ds => if dss.length < 16777216 then some (dss ++ [ds]) else none
  | _ => none
/-- rows.append(a new list) -/
theorem bn_app {me : Option D} {mk : List (List D) → Option ω} (hn : noOwn Γ = true) (he : EvO T te Γ me) (hu : ∀ dss', BN T u Γ i dss' (mk dss') P) :
    BN T (tSeq (tDrop (tBM T.K "list" rAppend (tVar i) (tCons te tNil))) u) Γ i dss (me.bind fun e => (dAppN dss e).bind mk) P := fun Z F H σ ok n o ho E pp => by
  obtain ⟨e, e1, n1⟩ := bind_inv ho
  obtain ⟨dss', e2, e3⟩ := bind_inv n1
  cases e <;> simp only [dAppN] at e2 <;> try (cases e2; done)
  rename_i ds
  split at e2
  · rename_i hl
    cases e2
    obtain ⟨p0, ps, a1, a2, a3, a4, a5, a6⟩ := n.ex
    refine ⟨_, a1, tyV_lst a2, he Z F H σ ok _ e1 _ fun q F2 H2 g hq hf hc => ?_⟩
    simp only [OwnC] at hc
    obtain ⟨vs, c1, c2⟩ := hc
    have n2 := n.grow g
    obtain ⟨p1, ps1, b1, b2, b3, b4, b5, b6⟩ := n2.ex
    rw [a1] at b1; cases b1
    have := g.h _ _ a2
    rw [b2] at this
    have ep : ps1.map V.ref = ps.map V.ref := HO.lst.inj (Option.some.inj this)
    have inj : ∀ {as bs : List Addr}, as.map V.ref = bs.map V.ref → as = bs := by
      intro as
      induction as with
      | nil => intro bs h; cases bs <;> simp at h ⊢
      | cons x as ih => intro bs h; cases bs with
        | nil => simp at h
        | cons y bs => simp only [List.map_cons, List.cons.injEq, V.ref.injEq] at h; rw [h.1, ih h.2]
    have ep := inj ep
    subst ep
    have ok2 := ok.grow g
    have qp0 : q ≠ p0 := fun z => by rw [z, a2] at hq; cases hq
    have qps : q ∉ ps1 := fun z => by
      obtain ⟨k, hk⟩ := List.getElem?_of_mem z
      obtain ⟨vs', ds', _, h2, _⟩ := a6 k q hk
      rw [hq] at h2; cases h2
    refine ⟨p0, ps1.map V.ref, .ref q, rfl, rfl, b2, by rw [List.length_map, line_eq, a5]; exact hl, ?_⟩
    refine hu _ Z F2 _ σ (ok2.updF hn (b4 p0 (by simp)) _) ⟨p0, ps1 ++ [q], a1, by rw [upd_same]; simp, ?_, fun x hx => ?_, by simp [a5], fun k x hk => ?_⟩ o e3 E pp
    · rw [List.nodup_cons] at a3 ⊢
      refine ⟨by simp; exact ⟨a3.1, qp0.symm⟩, ?_⟩
      rw [List.nodup_append]
      exact ⟨a3.2, by simp, fun x hx y hy z => by simp at hy; subst hy; subst z; exact qps hx⟩
    · rcases List.mem_cons.mp hx with z | z
      · rw [z]; exact b4 p0 (by simp)
      · rcases List.mem_append.mp z with y | y
        · exact b4 x (List.mem_cons_of_mem _ y)
        · simp at y
          subst y
          have f1 := fr_of ok hq
          exact ⟨f1.1, hf, f1.2.2⟩
    · by_cases hkl : k < ps1.length
      · rw [List.getElem?_append_left hkl] at hk
        obtain ⟨vs', ds', h1, h2, h3⟩ := b6 k x hk
        have xp0 : x ≠ p0 := fun z => by subst z; exact (List.nodup_cons.mp a3).1 (List.mem_of_getElem? hk)
        exact ⟨vs', ds', by rw [List.getElem?_append_left (by rw [← a5]; exact hkl)]; exact h1, by rw [upd_ne xp0]; exact h2, h3⟩
      · have hk2 : k < (ps1 ++ [q]).length := (List.getElem?_eq_some_iff.mp hk).1
        have hke : k = ps1.length := by simp at hk2; omega
        subst hke
        simp at hk
        subst hk
        exact ⟨vs, ds, by rw [a5]; simp, by rw [upd_ne qp0]; exact c1, c2⟩
  · cases e2
end
end Mi
/-! plain laws: evaluation -/
namespace Mi
open PySem L2
theorem bs {α β : Type} (a : α) (f : α → Option β) : (some a).bind f = f a := id rfl
theorem ms {α β : Type} (a : α) (f : α → β) : (some a).map f = some (f a) := id rfl
theorem ift {α : Type} (a b : α) : (if true = true then a else b) = a := id rfl
theorem iff' {α : Type} (a b : α) : (if false = true then a else b) = b := id rfl
@[simp] theorem dTup0 : dTup [] = some (.tup []) := if_pos (by simp)
@[simp] theorem dTup1 (a : D) : dTup [a] = some (.tup [a]) := if_pos (by simp)
@[simp] theorem dTup2 (a b : D) : dTup [a, b] = some (.tup [a, b]) := if_pos (by simp)
@[simp] theorem dTup3 (a b c : D) : dTup [a, b, c] = some (.tup [a, b, c]) := if_pos (by simp)
@[simp] theorem dTup4 (a b c d : D) : dTup [a, b, c, d] = some (.tup [a, b, c, d]) := if_pos (by simp)
@[simp] theorem dTup5 (a b c d e : D) : dTup [a, b, c, d, e] = some (.tup [a, b, c, d, e]) := if_pos (by simp)
@[simp] theorem dTup6 (a b c d e f : D) : dTup [a, b, c, d, e, f] = some (.tup [a, b, c, d, e, f]) := if_pos (by simp)
@[simp] theorem dLst0 : dLst [] = some (.lst []) := if_pos (by simp)
@[simp] theorem dLst1 (a : D) : dLst [a] = some (.lst [a]) := if_pos (by simp)
@[simp] theorem dLst2 (a b : D) : dLst [a, b] = some (.lst [a, b]) := if_pos (by simp)
@[simp] theorem dLst3 (a b c : D) : dLst [a, b, c] = some (.lst [a, b, c]) := if_pos (by simp)
@[simp] theorem dLst4 (a b c d : D) : dLst [a, b, c, d] = some (.lst [a, b, c, d]) := if_pos (by simp)
@[simp] theorem dLst5 (a b c d e : D) : dLst [a, b, c, d, e] = some (.lst [a, b, c, d, e]) := if_pos (by simp)
@[simp] theorem dLst6 (a b c d e f : D) : dLst [a, b, c, d, e, f] = some (.lst [a, b, c, d, e, f]) := if_pos (by simp)
@[simp] theorem dLst7 (a b c d e f g : D) : dLst [a, b, c, d, e, f, g] = some (.lst [a, b, c, d, e, f, g]) := if_pos (by simp)
@[simp] theorem dLst8 (a b c d e f g h : D) : dLst [a, b, c, d, e, f, g, h] = some (.lst [a, b, c, d, e, f, g, h]) := if_pos (by simp)
@[simp] theorem dLst9 (a b c d e f g h i : D) : dLst [a, b, c, d, e, f, g, h, i] = some (.lst [a, b, c, d, e, f, g, h, i]) := if_pos (by simp)
theorem dAdd_ll {a b : List D} (h : a.length + b.length ≤ 16777216) : dAdd (.lst a) (.lst b) = some (.lst (a ++ b)) := if_pos h
theorem dAdd_tt {a b : List D} (h : a.length + b.length ≤ 16777216) : dAdd (.tup a) (.tup b) = some (.tup (a ++ b)) := if_pos h
@[simp] theorem dAddL_ll' {a b : List D} (h : a.length + b.length ≤ 16777216) : dAddL (.lst a) (.lst b) = some (.lst (a ++ b)) := if_pos h
@[simp] theorem dTuple_l (ds : List D) : dTuple (.lst ds) = some (.tup ds) := id rfl
@[simp] theorem dTuple_t (ds : List D) : dTuple (.tup ds) = some (.tup ds) := id rfl
@[simp] theorem dList_l (ds : List D) : dList (.lst ds) = some (.lst ds) := id rfl
@[simp] theorem dList_t (ds : List D) : dList (.tup ds) = some (.lst ds) := id rfl
@[simp] theorem dI_i (i : Int) : dI (.int i) = some i := id rfl
@[simp] theorem dIs_bb (a b : Bool) : dIs (.bl a) (.bl b) = some (.bl (decide (a = b))) := id rfl
@[simp] theorem dIsNot_bb (a b : Bool) : dIsNot (.bl a) (.bl b) = some (.bl (!decide (a = b))) := id rfl
theorem mul2 (k : Int) : dMul (.int 2) (.int k) = some (.int (2 * k)) := dMul_l (by decide)
theorem mul3 (k : Int) : dMul (.int 3) (.int k) = some (.int (3 * k)) := dMul_l (by decide)
theorem mul4 (k : Int) : dMul (.int 4) (.int k) = some (.int (4 * k)) := dMul_l (by decide)
theorem mul5 (k : Int) : dMul (.int 5) (.int k) = some (.int (5 * k)) := dMul_l (by decide)
theorem mul6 (k : Int) : dMul (.int 6) (.int k) = some (.int (6 * k)) := dMul_l (by decide)
theorem mulS {a b : Int} (h : -1000000000 ≤ a ∧ a ≤ 1000000000) : dMul (.int a) (.int b) = some (.int (a * b)) := dMul_l (by unfold smallI; omega)
theorem mulSr {a b : Int} (h : -1000000000 ≤ b ∧ b ≤ 1000000000) : dMul (.int a) (.int b) = some (.int (a * b)) := dMul_r (by unfold smallI; omega)
/-! places -/
theorem ixm {α : Type} {f : α → D} {xs : List α} {i : Nat} {a : α} (h : xs[i]? = some a) : dIx (.lst (xs.map f)) (.int (i : Int)) = some (f a) := by
  rw [dIx_lst]; exact atI_nat (by rw [List.getElem?_map, h]; rfl)
theorem ixt {α : Type} {f : α → D} {xs : List α} {i : Nat} {a : α} (h : xs[i]? = some a) : dIx (.tup (xs.map f)) (.int (i : Int)) = some (f a) := by
  rw [dIx_tup]; exact atI_nat (by rw [List.getElem?_map, h]; rfl)
theorem ixl {xs : List D} {i : Nat} {a : D} (h : xs[i]? = some a) : dIx (.lst xs) (.int (i : Int)) = some a := by
  rw [dIx_lst]; exact atI_nat h
theorem ixtt {xs : List D} {i : Nat} {a : D} (h : xs[i]? = some a) : dIx (.tup xs) (.int (i : Int)) = some a := by
  rw [dIx_tup]; exact atI_nat h
theorem getD_some {α : Type} {xs : List α} {i : Nat} (d : α) (h : i < xs.length) : xs[i]? = some (xs.getD i d) := by
  simp [List.getD, h]
theorem ixmD {α : Type} {f : α → D} {xs : List α} {i : Nat} (d : α) (h : i < xs.length) : dIx (.lst (xs.map f)) (.int (i : Int)) = some (f (xs.getD i d)) := ixm (getD_some d h)
theorem ixtD {α : Type} {f : α → D} {xs : List α} {i : Nat} (d : α) (h : i < xs.length) : dIx (.tup (xs.map f)) (.int (i : Int)) = some (f (xs.getD i d)) := ixt (getD_some d h)
theorem ixzD {α : Type} {f : α → D} {xs : List α} {i : Int} (d : α) (h0 : 0 ≤ i) (h : i.toNat < xs.length) : dIx (.lst (xs.map f)) (.int i) = some (f (xs.getD i.toNat d)) := by
  have e : i = (i.toNat : Int) := by omega
  conv => lhs; rw [e]
  exact ixmD d h
/-- numbers from 0 -/
theorem ranged0 (n : Nat) : ranged 0 (n : Int) = (List.range n).map fun i => D.int (i : Nat) := by
  unfold ranged
  simp
theorem enumed_eq (ds : List D) : enumed ds = (List.range ds.length).map fun i => (D.int (i : Nat), ds.getD i .non) := by
  unfold enumed
  apply List.ext_getElem
  · simp
  · intro i h1 h2
    simp at h1
    simp [h1]
theorem loopO_idx {ι γ : Type} {f : Unit → ι → Option (Out Unit Unit)} {g : Nat → ι} {n : Nat} {p : Nat → Bool} {r : D} (h : ∀ i < n, f () (g i) = some (if p i = true then .nx () else .rt r [])) : loopO (γ := γ) f ((List.range n).map g) () = some (if (List.range n).all p = true then .nx () else .rt r []) := by
  have key : ∀ l : List Nat, (∀ i ∈ l, i < n) → loopO (γ := γ) f (l.map g) () = some (if l.all p = true then .nx () else .rt r []) := by
    intro l
    induction l with
    | nil => intro _; rfl
    | cons a l ih =>
      intro hl
      rw [List.map_cons, loopO_cons, h a (hl a (by simp))]
      cases q : p a with
      | false => simp [q]
      | true =>
        simp only [if_true, Option.bind_some, List.all_cons, q, Bool.true_and]
        exact ih fun i hi => hl i (by simp [hi])
  exact key _ fun i hi => List.mem_range.mp hi
/-- a loop that never leaves -/
theorem loopO_nx {ι γ : Type} {f : Unit → ι → Option (Out Unit Unit)} {ds : List ι} (h : ∀ d ∈ ds, f () d = some (.nx ())) : loopO (γ := γ) f ds () = some (.nx ()) := by
  rw [loopO_all (p := fun _ => true) (r := .non) (fun d hd => by rw [h d hd]; rfl)]
  simp
theorem loopO_nxI {ι γ : Type} {f : Unit → ι → Option (Out Unit Unit)} {g : Nat → ι} {n : Nat} (h : ∀ i < n, f () (g i) = some (.nx ())) : loopO (γ := γ) f ((List.range n).map g) () = some (.nx ()) := by
  refine loopO_nx fun d hd => ?_
  obtain ⟨i, hi, rfl⟩ := List.mem_map.mp hd
  exact h i (List.mem_range.mp hi)
/-- a loop that carries and may leave, by a fold -/
theorem loopO_foldP {β ι γ : Type} {f : β → ι → Option (Out β β)} {g : β → ι → β} : ∀ {ds : List ι} {b : β}, (∀ d ∈ ds, ∀ b, f b d = some (.nx (g b d))) → loopO (γ := γ) f ds b = some (.nx (ds.foldl g b))
  | [], _, _ => rfl
  | d :: ds, b, h => by
    rw [loopO_cons, h d (by simp) b]
    exact loopO_foldP fun e he => h e (by simp [he])
theorem foldO_fold {β ι : Type} {f : β → ι → Option β} {g : β → ι → β} : ∀ {ds : List ι} {b : β}, (∀ d ∈ ds, ∀ b, f b d = some (g b d)) → foldO f ds b = some (ds.foldl g b)
  | [], _, _ => rfl
  | d :: ds, b, h => by
    rw [foldO_cons]
    show (f b d).bind _ = _
    rw [h d (by simp) b]
    exact foldO_fold fun e he => h e (by simp [he])
/-! equality of data -/
theorem pys_ints (as : List Int) : pys (as.map D.int) = some (as.map PyData.int) := by
  induction as with
  | nil => rfl
  | cons a as ih => simp [pys, py, ih]
theorem lay_ints (as : List Int) : PyData.canLayAll0 (as.map PyData.int) = true := by
  induction as with
  | nil => rfl
  | cons a as ih => simp [PyData.canLayAll0, PyData.canLay0, ih]
theorem depth_ints (as : List Int) : PyData.depthAll (as.map PyData.int) ≤ 0 := by
  induction as with
  | nil => exact Nat.le_refl _
  | cons a as ih => simp only [List.map_cons, PyData.depthAll, PyData.depth]; omega
theorem eqv_ints : ∀ as bs : List Int, PyData.eqvAll (as.map PyData.int) (bs.map PyData.int) = decide (as = bs)
  | [], [] => by simp [PyData.eqvAll]
  | [], b :: bs => by simp [PyData.eqvAll]
  | a :: as, [] => by simp [PyData.eqvAll]
  | a :: as, b :: bs => by
    simp only [List.map_cons, PyData.eqvAll, PyData.eqv, eqv_ints as bs]
    by_cases h : a = b <;> simp [h]
theorem shaped_of {p : PyData} (h : p.canLay0 = true) (k : p.depth ≤ 64) : SeqAt.shaped p = true := by
  unfold SeqAt.shaped
  rw [h]
  simp
  omega
theorem dEq_of {d e : D} {p q : PyData} (hp : py d = some p) (hq : py e = some q) (sp : SeqAt.shaped p = true) (sq : SeqAt.shaped q = true) : dEq d e = some (.bl (PyData.eqv p q)) := by
  unfold dEq dEqB
  simp [hp, hq, sp, sq]
theorem dNe_of {d e : D} {p q : PyData} (hp : py d = some p) (hq : py e = some q) (sp : SeqAt.shaped p = true) (sq : SeqAt.shaped q = true) : dNe d e = some (.bl (!PyData.eqv p q)) := by
  unfold dNe dEqB
  simp [hp, hq, sp, sq]
theorem shl_ints (as : List Int) : SeqAt.shaped (.list (as.map PyData.int)) = true := shaped_of (by simp only [PyData.canLay0]; exact lay_ints as) (by simp only [PyData.depth]; have := depth_ints as; omega)
theorem sht_ints (as : List Int) : SeqAt.shaped (.tuple (as.map PyData.int)) = true := shaped_of (by simp only [PyData.canLay0]; exact lay_ints as) (by simp only [PyData.depth]; have := depth_ints as; omega)
theorem dEq_li (as bs : List Int) : dEq (.lst (as.map D.int)) (.lst (bs.map D.int)) = some (.bl (decide (as = bs))) := by
  rw [dEq_of (p := .list (as.map PyData.int)) (q := .list (bs.map PyData.int)) (by simp [py, pys_ints]) (by simp [py, pys_ints]) (shl_ints _) (shl_ints _)]
  simp only [PyData.eqv, eqv_ints]
theorem dNe_li (as bs : List Int) : dNe (.lst (as.map D.int)) (.lst (bs.map D.int)) = some (.bl (!decide (as = bs))) := by
  rw [dNe_of (p := .list (as.map PyData.int)) (q := .list (bs.map PyData.int)) (by simp [py, pys_ints]) (by simp [py, pys_ints]) (shl_ints _) (shl_ints _)]
  simp only [PyData.eqv, eqv_ints]
theorem dEq_ti (as bs : List Int) : dEq (.tup (as.map D.int)) (.tup (bs.map D.int)) = some (.bl (decide (as = bs))) := by
  rw [dEq_of (p := .tuple (as.map PyData.int)) (q := .tuple (bs.map PyData.int)) (by simp [py, pys_ints]) (by simp [py, pys_ints]) (sht_ints _) (sht_ints _)]
  simp only [PyData.eqv, eqv_ints]
theorem dEq_ss {a b : Str} (ha : PyData.strOk a = true) (hb : PyData.strOk b = true) : dEq (.str a) (.str b) = some (.bl (a == b)) := dEq_of (p := .str a) (q := .str b) rfl rfl (shaped_of (by simpa only [PyData.canLay0] using ha) (Nat.zero_le _)) (shaped_of (by simpa only [PyData.canLay0] using hb) (Nat.zero_le _))
theorem dNe_ss {a b : Str} (ha : PyData.strOk a = true) (hb : PyData.strOk b = true) : dNe (.str a) (.str b) = some (.bl (!(a == b))) := dNe_of (p := .str a) (q := .str b) rfl rfl (shaped_of (by simpa only [PyData.canLay0] using ha) (Nat.zero_le _)) (shaped_of (by simpa only [PyData.canLay0] using hb) (Nat.zero_le _))
theorem dSum_l (ns : List Int) : dSum (.lst (ns.map D.int)) = some (.int ns.sum) := by simp [dSum, dInts, asInts_map]
theorem dSum_t (ns : List Int) : dSum (.tup (ns.map D.int)) = some (.int ns.sum) := by simp [dSum, dInts, asInts_map]
/-! cuts -/
theorem cut_to {ds : List D} {k : Nat} (h : k ≤ ds.length) : cutD ds none (some (k : Int)) = ds.take k := by
  simp [cutD, HT.sIx_none, HT.sIx_nat, Nat.min_eq_left h]
theorem cut_from {ds : List D} {k : Nat} (h : k ≤ ds.length) : cutD ds (some (k : Int)) none = ds.drop k := by
  simp [cutD, HT.sIx_none, HT.sIx_nat, Nat.min_eq_left h]
  rw [List.take_of_length_le (by simp)]
@[simp] theorem dCut_l (ds : List D) (lo hi : Option Int) : dCut (.lst ds) lo hi = some (.lst (cutD ds lo hi)) := id rfl
@[simp] theorem dCut_t (ds : List D) (lo hi : Option Int) : dCut (.tup ds) lo hi = some (.tup (cutD ds lo hi)) := id rfl
/-! in -/
theorem dIn_ints {x : Int} {ns : List Int} : dIn (.int x) (.lst (ns.map D.int)) = some (.bl (decide (x ∈ ns))) := by
  have h1 : (ns.map D.int).all flat = true := by simp [flat]
  have h2 : (ns.map D.int).any (fun e => eqF e (.int x)) = decide (x ∈ ns) := by
    rw [List.any_map]
    rw [Bool.eq_iff_iff]
    simp [eqF]
  simp [dIn, dInB, flat, h1, h2]
theorem dIn_intsT {x : Int} {ns : List Int} : dIn (.int x) (.tup (ns.map D.int)) = some (.bl (decide (x ∈ ns))) := by
  have h1 : (ns.map D.int).all flat = true := by simp [flat]
  have h2 : (ns.map D.int).any (fun e => eqF e (.int x)) = decide (x ∈ ns) := by
    rw [List.any_map]
    rw [Bool.eq_iff_iff]
    simp [eqF]
  simp [dIn, dInB, flat, h1, h2]
theorem dNotIn_of {x y : D} {b : Bool} (h : dIn x y = some (.bl b)) : dNotIn x y = some (.bl !b) := by
  unfold dIn at h
  unfold dNotIn
  cases q : dInB x y with
  | none => rw [q] at h; cases h
  | some c =>
    rw [q] at h
    have : c = b := by simpa using h
    rw [this]; rfl
end Mi
namespace Mi
open PySem L2
/-- a loop that carries S i and leaves where p fails -/
theorem loopO_idxS {β ι γ : Type} {f : β → ι → Option (Out β β)} {g : Nat → ι} {n : Nat} {S : Nat → β} {p : Nat → Bool} {r : D} (h : ∀ i < n, (∀ j < i, p j = true) → f (S i) (g i) = some (if p i = true then .nx (S (i + 1)) else .rt r [])) : loopO (γ := γ) f ((List.range n).map g) (S 0) = some (if (List.range n).all p = true then .nx (S n) else .rt r []) := by
  have key : ∀ (m k : Nat), k + m = n → (∀ j < k, p j = true) → loopO (γ := γ) f ((List.range' k m).map g) (S k) = some (if (List.range' k m).all p = true then .nx (S n) else .rt r []) := by
    intro m
    induction m with
    | zero => intro k hk _; subst hk; rfl
    | succ m ih =>
      intro k hk hp
      rw [List.range'_succ, List.map_cons, loopO_cons, h k (by omega) hp]
      cases q : p k with
      | false => simp [q]
      | true =>
        simp only [if_true, Option.bind_some, List.all_cons, q, Bool.true_and]
        refine ih (k + 1) (by omega) fun j hj => ?_
        by_cases e : j = k
        · rw [e]; exact q
        · exact hp j (by omega)
  have := key n 0 (by omega) (fun j hj => by omega)
  rw [List.range_eq_range']
  exact this
theorem atI_prev {α : Type} {xs : List α} {k : Nat} (h : k < xs.length) : atI xs ((k : Int) - 1) = xs[if k = 0 then xs.length - 1 else k - 1]? := by
  by_cases hk : k = 0
  · subst hk
    unfold atI ixN
    rw [if_neg (by omega), if_pos (by omega)]
    simp only [Option.bind_some, if_true]
    congr 1
    omega
  · rw [if_neg hk]
    have e : (k : Int) - 1 = ((k - 1 : Nat) : Int) := by omega
    rw [e, atI_nat (j := k - 1) (List.getElem?_eq_getElem (by omega)), List.getElem?_eq_getElem (by omega)]
theorem look_keys {ks : List Nat} {k : Nat} {ds : List D} (h : ks.length = ds.length) : (look (ks.map fun (i : Nat) => (Sum.inl (i : Int) : Key)) ds (.inl (k : Int))).isSome = decide (k ∈ ks) := by
  induction ks generalizing ds with
  | nil => simp [look]
  | cons a ks ih =>
    cases ds with
    | nil => simp at h
    | cons d ds =>
      by_cases hk : a = k
      · subst hk; simp [look]
      · have e : (look ((a :: ks).map fun (i : Nat) => (Sum.inl (i : Int) : Key)) (d :: ds) (.inl (k : Int))) = look (ks.map fun (i : Nat) => (Sum.inl (i : Int) : Key)) ds (.inl (k : Int)) := by
          have : ¬ ((a : Int) = (k : Int)) := by omega
          simp [look, List.find?_cons, this]
        rw [e, ih (by simpa using h)]
        have : ¬ k = a := fun z => hk z.symm
        simp [this]
theorem dIn_keys {ks : List Nat} {k : Nat} {ds : List D} (h : ks.length = ds.length) : dIn (.int (k : Int)) (.dic (ks.map fun (i : Nat) => (Sum.inl (i : Int) : Key)) ds) = some (.bl (decide (k ∈ ks))) := by
  unfold dIn
  have : dInB (.int (k : Int)) (.dic (ks.map fun (i : Nat) => (Sum.inl (i : Int) : Key)) ds) = some (decide (k ∈ ks)) := by
    show ((some (Sum.inl (k : Int) : Key)).map (fun k => look (ks.map fun (i : Nat) => (Sum.inl (i : Int) : Key)) ds k)).map Option.isSome = _
    rw [ms, ms, look_keys h]
  rw [this]; rfl
theorem putKD_new {κ : Type} [DecidableEq κ] {ks : List κ} {ds : List D} {k : κ} {d : D} (h : ks.length = ds.length) (hk : k ∉ ks) : putKD ks ds k d = (ks ++ [k], ds ++ [d]) := by
  induction ks generalizing ds with
  | nil =>
    cases ds with
    | nil => rfl
    | cons e ds => simp at h
  | cons a ks ih =>
    cases ds with
    | nil => simp at h
    | cons e ds =>
      simp only [List.mem_cons, not_or] at hk
      have : ¬ a = k := fun z => hk.1 z.symm
      simp only [putKD, this, if_false]
      rw [ih (by simpa using h) hk.2]
      rfl
theorem keys_nodup {ks : List Nat} (h : ks.Nodup) : (ks.map fun (i : Nat) => (Sum.inl (i : Int) : Key)).Nodup := by
  unfold List.Nodup at *
  rw [List.pairwise_map]
  refine h.imp fun {a b} hab e => hab ?_
  have := Sum.inl.inj e
  omega
theorem dSet_keys {ks : List Nat} {k : Nat} {ds : List D} {d : D} (h : ks.length = ds.length) (hn : ks.Nodup) (hk : k ∉ ks) (hl : ks.length < 16777216) : dSet (.dic (ks.map fun (i : Nat) => (Sum.inl (i : Int) : Key)) ds) (.int (k : Int)) d = some (.dic ((ks ++ [k]).map fun (i : Nat) => (Sum.inl (i : Int) : Key)) (ds ++ [d])) := by
  unfold dSet keyOf
  simp only [bs]
  rw [if_pos ⟨by rw [List.length_map]; exact hl, by rw [List.length_map]; exact h, keys_nodup hn⟩]
  rw [putKD_new (by rw [List.length_map]; exact h) (by
    intro z
    obtain ⟨a, ha, e⟩ := List.mem_map.mp z
    have := Sum.inl.inj e
    have : a = k := by omega
    exact hk (this ▸ ha))]
  simp
end Mi
namespace Mi
open PySem L2
theorem dMul_rep {xs : List D} {n : Nat} (h : n ≤ 1000000000) (h2 : xs.length * n ≤ 16777216) : dMul (.lst xs) (.int (n : Int)) = some (.lst (List.replicate n xs).flatten) := by
  unfold dMul
  dsimp only
  rw [if_pos ⟨by omega, by omega, by rw [Int.toNat_natCast]; exact h2⟩, Int.toNat_natCast]
theorem dMulL_rep {xs : List D} {n : Nat} (h : n ≤ 1000000000) (h2 : xs.length * n ≤ 16777216) : dMulL (.lst xs) (.int (n : Int)) = some (.lst (List.replicate n xs).flatten) := by
  unfold dMulL
  dsimp only
  rw [if_pos ⟨by omega, by omega, by rw [Int.toNat_natCast]; exact h2⟩, Int.toNat_natCast]
theorem rep1 {α : Type} (f : α → D) (n : Nat) (a : α) : (List.replicate n [f a]).flatten = (List.replicate n a).map f := by
  rw [List.map_replicate, List.flatten_replicate_singleton]
end Mi
/-! what the defs compute -/
namespace Mi
open PySem L2
def m_law_draw_L1 (x_cell : D) (x_bounds : D) (x_b3 : D × D) (x_d5 : D) : Option (D × D) :=
  (((o1 tru (o2 dGe (some x_cell) (o2 dPow (some (.int 10)) (some (.int 18))))).bind fun c => if c = true then
  (((o2 dMod (c1 dInt (some x_b3.1)) (o2 dIx (some x_bounds) (some x_d5))).bind fun e => dApp x_b3.2 e).bind fun x_found7 =>
  ((o2 dDiv (some x_b3.1) (o2 dIx (some x_bounds) (some x_d5))).bind fun x_rest8 =>
  (some (x_rest8, x_found7))))
  else
  ((o2 dMod (c1 dInt (o2 dAdd (o2 dAdd (o2 dMul (o2 dMod (c1 dInt (some x_cell)) (some (.int 1000003))) (some (.int 48271))) (o2 dMul (some x_d5) (some (.int 69621)))) (some (.int 11)))) (some (.int 2147483647))).bind fun x_mixed9 =>
  ((o2 dMod (c1 dInt (o2 dAdd (o2 dMul (some x_mixed9) (some (.int 16807))) (some x_d5))) (some (.int 2147483647))).bind fun x_mixed10 =>
  (((o2 dMod (c1 dInt (o2 dDiv (some x_mixed10) (some (.int 7)))) (o2 dIx (some x_bounds) (some x_d5))).bind fun e => dApp x_b3.2 e).bind fun x_found11 =>
  (some (x_b3.1, x_found11)))))).bind fun (x_j6 : D × D) =>
  (some (x_j6.1, x_j6.2)))
def m_law_draw (x_cell x_bounds : D) : Option D :=
  ((o1 dLst (some [])).bind fun x_found1 =>
  ((o2 dSub (some x_cell) (o2 dPow (some (.int 10)) (some (.int 18)))).bind fun x_rest2 =>
  (((o1 dRange1 (oCons (c1 dLen (some x_bounds)) (some []))).bind fun ds => foldO (m_law_draw_L1 x_cell x_bounds) ds (x_rest2, x_found1)).bind fun (x_b3 : D × D) =>
  (some x_b3.2))))
def m_law_cell (x_script x_k : D) : Option D :=
  ((o1 tru (o2 dLt (some x_k) (c1 dLen (some x_script)))).bind fun c => if c = true then
  (o2 dIx (some x_script) (some x_k))
  else
  (some (.int 0)))
def m_law_ducts_L1 (x_rooms : D) (x_most : D) (x_b3 : D) (x_d5 : D) : Option (D) :=
  ((o2 dAdd (some x_b3) (o1 dLst (oCons (some (.int 840)) (oCons (o2 dMul (some (.int 2)) (o2 dSub (some x_rooms) (some (.int 1)))) (oCons (some x_most) (some [])))))).bind fun x_bounds6 =>
  (some x_bounds6))
def m_law_ducts_L2 (x_draws7 : D) (x_rooms : D) (x_joined : D) (x_b8 : D) (x_d10 : D) : Option (D) :=
  ((o2 dMod (c1 dInt (o2 dIx (some x_draws7) (o2 dMul (some (.int 3)) (some x_d10)))) (some x_rooms)).bind fun x_first11 =>
  ((o2 dMod (c1 dInt (o2 dAdd (o2 dAdd (some x_first11) (some (.int 1))) (o2 dDiv (o2 dIx (some x_draws7) (o2 dAdd (o2 dMul (some (.int 3)) (some x_d10)) (some (.int 1)))) (some (.int 2))))) (some x_rooms)).bind fun x_second12 =>
  (((o1 tru (o2 dLt (some x_d10) (some x_joined))).bind fun c => if c = true then
  ((o2 dAdd (some x_d10) (some (.int 1))).bind fun x_first14 =>
  ((o2 dMod (c1 dInt (o2 dIx (some x_draws7) (o2 dMul (some (.int 3)) (some x_d10)))) (o2 dAdd (some x_d10) (some (.int 1)))).bind fun x_second15 =>
  (((o1 tru (o2 dEq (o2 dMod (c1 dInt (o2 dIx (some x_draws7) (o2 dAdd (o2 dMul (some (.int 3)) (some x_d10)) (some (.int 1))))) (some (.int 2))) (some (.int 1)))).bind fun c => if c = true then
  ((some x_second15).bind fun x_first17 =>
  ((o2 dAdd (some x_d10) (some (.int 1))).bind fun x_second18 =>
  (some (x_first17, x_second18))))
  else
  (some (x_first14, x_second15))).bind fun (x_j16 : D × D) =>
  (some (x_j16.1, x_j16.2)))))
  else
  (some (x_first11, x_second12))).bind fun (x_j13 : D × D) =>
  (((o1 dTup (oCons (some x_j13.1) (oCons (some x_j13.2) (oCons (o2 dAdd (o2 dIx (some x_draws7) (o2 dAdd (o2 dMul (some (.int 3)) (some x_d10)) (some (.int 2)))) (some (.int 1))) (some []))))).bind fun e => dApp x_b8 e).bind fun x_ducts19 =>
  (some x_ducts19)))))
def m_law_ducts (x_cell x_rooms x_joined x_extra x_most : D) : Option D :=
  ((o1 dLst (some [])).bind fun x_ducts1 =>
  ((o1 tru (o2 dEq (some x_rooms) (some (.int 1)))).bind fun c => if c = true then
  (some x_ducts1)
  else
  ((o1 dLst (some [])).bind fun x_bounds2 =>
  (((o1 dRange1 (oCons (o2 dAdd (some x_joined) (some x_extra)) (some []))).bind fun ds => foldO (m_law_ducts_L1 x_rooms x_most) ds x_bounds2).bind fun (x_b3 : D) =>
  ((c2 m_law_draw (some x_cell) (some x_b3)).bind fun x_draws7 =>
  (((o1 dRange1 (oCons (o2 dAdd (some x_joined) (some x_extra)) (some []))).bind fun ds => foldO (m_law_ducts_L2 x_draws7 x_rooms x_joined) ds x_ducts1).bind fun (x_b8 : D) =>
  (some x_b8)))))))
def m_law_plan (x_script x_at x_most_rooms x_most_extra x_most_width : D) : Option D :=
  ((c2 m_law_draw (c2 m_law_cell (some x_script) (some x_at)) (o1 dLst (oCons (some x_most_rooms) (oCons (o2 dAdd (some x_most_extra) (some (.int 1))) (oCons (some (.int 4)) (some [])))))).bind fun x_head1 =>
  ((o2 dAdd (o2 dIx (some x_head1) (some (.int 0))) (some (.int 1))).bind fun x_rooms2 =>
  ((o2 dSub (some x_rooms2) (some (.int 1))).bind fun x_joined3 =>
  (((o1 tru (o2 dEq (o2 dIx (some x_head1) (some (.int 2))) (some (.int 3)))).bind fun c => if c = true then
  ((some (.int 0)).bind fun x_joined5 =>
  (some x_joined5))
  else
  (some x_joined3)).bind fun (x_j4 : D) =>
  (o1 dLst (oCons (some x_rooms2) (oCons (c5 m_law_ducts (c2 m_law_cell (some x_script) (o2 dAdd (some x_at) (some (.int 1)))) (some x_rooms2) (some x_j4) (o2 dIx (some x_head1) (some (.int 1))) (some x_most_width)) (some []))))))))
def m_require (x_holds x_name : D) : Option D :=
  ((oNot (o1 tru (some x_holds))).bind fun c => if c = true then
  none
  else
  (some .non))
def m_width_table_C1 (x_d1 : D) : Option (Option D) :=
  ((c1 dTuple (some x_d1)).map some)
def m_width_table_G (x_dss : List (List D)) (x y z : D) : Option (List (List D)) := (some x).bind fun a => (some y).bind fun b => (some z).bind fun c => (dNest x_dss a b c).bind fun d1 => (some y).bind fun a => (some x).bind fun b => (some z).bind fun c => (dNest d1 a b c).bind fun d2 => some d2
def m_width_table (x_rooms x_ducts : D) : Option D :=
  ((dGrid x_rooms).bind fun g => ((o1 dItems (some x_ducts)).bind fun ds => foldO (fun dss d => un3 d (m_width_table_G dss)) ds g).bind fun x_dss => (c1 dTuple ((o1 dItems (some (.lst (x_dss.map D.lst)))).bind fun ds => dComp m_width_table_C1 ds)))
def m_is_integer (x_value : D) : Option D :=
  (oAndV (o1 (dIsi "int") (some x_value)) (dBl (oNot (o1 tru (o1 (dIsi "bool") (some x_value))))))
def m_is_between (x_value x_least x_most : D) : Option D :=
  (oAndV (c1 m_is_integer (some x_value)) (oChain dLe dLe (some x_least) (some x_value) (some x_most)))
def m_is_table_L1 (x_least : D) (x_most : D) (x_b1 : Unit) (x_d3 : D) : Option (Out (Unit) (Unit)) :=
  ((oNot (o1 tru (c3 m_is_between (some x_d3) (some x_least) (some x_most)))).bind fun c => if c = true then
  ((some (.bl false)).bind fun d => some (.rt d []))
  else
  (some (.nx ())))
def m_is_table (x_value x_size x_least x_most : D) : Option D :=
  ((oOr (oNot (o1 tru (o1 (dIsi2 "list" "tuple") (some x_value)))) (o1 tru (o2 dNe (c1 dLen (some x_value)) (some x_size)))).bind fun c => if c = true then
  (some (.bl false))
  else
  (((o1 dItems (some x_value)).bind fun ds => loopO (m_is_table_L1 x_least x_most) ds ()).bind fun (o : Out (Unit) (Empty)) => o.thnD fun x_b1 =>
  (some (.bl true))))
def m_are_ducts_L1 (x_rooms : D) (x_b1 : Unit) (x_d3 : D) : Option (Out (Unit) (Unit)) :=
  ((oNot (o1 tru (c4 m_is_table (some x_d3) (some (.int 3)) (some (.int 0)) (some (.int 8))))).bind fun c => if c = true then
  ((some (.bl false)).bind fun d => some (.rt d []))
  else
  ((some x_d3).bind fun x_t4 =>
  (un3 x_t4 fun x_first5 x_second6 x_width7 => ((oOr (o1 tru (o2 dGe (some x_first5) (some x_rooms))) (oOr (o1 tru (o2 dGe (some x_second6) (some x_rooms))) (o1 tru (o2 dEq (some x_first5) (some x_second6))))).bind fun c => if c = true then
  ((some (.bl false)).bind fun d => some (.rt d []))
  else
  ((oNot (o1 tru (oChain dLe dLe (some (.int 1)) (some x_width7) (some (.int 6))))).bind fun c => if c = true then
  ((some (.bl false)).bind fun d => some (.rt d []))
  else
  (some (.nx ())))))))
def m_are_ducts (x_value x_rooms : D) : Option D :=
  ((oOr (oNot (o1 tru (o1 (dIsi2 "list" "tuple") (some x_value)))) (o1 tru (o2 dGt (c1 dLen (some x_value)) (some (.int 16))))).bind fun c => if c = true then
  (some (.bl false))
  else
  (((o1 dItems (some x_value)).bind fun ds => loopO (m_are_ducts_L1 x_rooms) ds ()).bind fun (o : Out (Unit) (Empty)) => o.thnD fun x_b1 =>
  (some (.bl true))))
def m_Building_init_C1 (x_d2 : D) : Option (Option D) :=
  ((c1 dTuple (some x_d2)).map some)
def m_Building_init (x_self x_rooms x_ducts : D) : Option UR :=
  ((c2 m_require (c3 m_is_between (some x_rooms) (some (.int 1)) (some (.int 8))) (some (.str "rooms"))).bind fun _ =>
  ((c2 m_require (c2 m_are_ducts (some x_ducts) (some x_rooms)) (some (.str "ducts"))).bind fun _ =>
  (((some x_rooms).bind fun e => dSetF "Building" "rooms" x_self e).bind fun x_self1 =>
  (((c1 dTuple ((o1 dItems (some x_ducts)).bind fun ds => dComp m_Building_init_C1 ds)).bind fun e => dSetF "Building" "ducts" x_self1 e).bind fun x_self3 =>
  (((c2 m_width_table (o1 (dFld "Building" "rooms") (some x_self3)) (o1 (dFld "Building" "ducts") (some x_self3))).bind fun e => dSetF "Building" "_widths" x_self3 e).bind fun x_self4 =>
  (some (.non, [(0, x_self4)])))))))
def m_law_numbers_C1 (x_least : D) (x_d2 : D) : Option (Option D) :=
  ((o2 dAdd (some x_least) (some x_d2)).map some)
def m_law_numbers (x_cell x_count x_least x_most : D) : Option D :=
  ((o2 dMul (o1 dLst (oCons (o2 dAdd (o2 dSub (some x_most) (some x_least)) (some (.int 1))) (some []))) (some x_count)).bind fun x_bounds1 =>
  ((o1 dItems (c2 m_law_draw (some x_cell) (some x_bounds1))).bind fun ds => dComp (m_law_numbers_C1 x_least) ds))
def m_law_held_L1 (x_pressures : D) (x_ducts : D) (x_draws1 : D) (x_b5 : D × D × D) (x_d7 : D) : Option (D × D × D) :=
  ((o2 dSub (o2 dIx (some x_pressures) (o2 dIx (o2 dIx (some x_ducts) (some x_d7)) (some (.int 1)))) (o2 dIx (some x_pressures) (o2 dIx (o2 dIx (some x_ducts) (some x_d7)) (some (.int 0))))).bind fun x_rise8 =>
  ((o2 dSub (o2 dIx (some x_draws1) (o2 dAdd (o2 dMul (some (.int 5)) (some x_d7)) (some (.int 2)))) (some (.int 6))).bind fun x_least9 =>
  ((o2 dIx (some x_draws1) (o2 dAdd (o2 dMul (some (.int 5)) (some x_d7)) (some (.int 3)))).bind fun x_span10 =>
  (((o1 dTup (oCons (some x_least9) (oCons (o2 dAdd (some x_least9) (some x_span10)) (some [])))).bind fun e => dApp x_b5.1 e).bind fun x_bounds11 =>
  (((o2 dIx (o1 dLst (oCons (some x_least9) (oCons (o2 dAdd (some x_least9) (some x_span10)) (oCons (o2 dAdd (some x_least9) (o2 dMod (c1 dInt (o2 dIx (some x_draws1) (o2 dAdd (o2 dMul (some (.int 5)) (some x_d7)) (some (.int 4))))) (o2 dAdd (some x_span10) (some (.int 1))))) (some []))))) (o2 dIx (some x_draws1) (o2 dMul (some (.int 5)) (some x_d7)))).bind fun e => dApp x_b5.2.1 e).bind fun x_stream12 =>
  (((o2 dAdd (some x_rise8) (o2 dMul (o2 dIx (o1 dLst (oCons (some (.int 1)) (oCons (o1 dNeg (some (.int 1))) (oCons (some (.int 0)) (some []))))) (o2 dIx (some x_draws1) (o2 dMul (some (.int 5)) (some x_d7)))) (o2 dIx (some x_draws1) (o2 dAdd (o2 dMul (some (.int 5)) (some x_d7)) (some (.int 1)))))).bind fun e => dApp x_b5.2.2 e).bind fun x_costs13 =>
  (some (x_bounds11, x_stream12, x_costs13))))))))
def m_law_held (x_script x_ducts x_pressures : D) : Option D :=
  ((c2 m_law_draw (c2 m_law_cell (some x_script) (some (.int 3))) (o2 dMul (o1 dLst (oCons (some (.int 3)) (oCons (some (.int 4)) (oCons (some (.int 13)) (oCons (some (.int 5)) (oCons (some (.int 5)) (some []))))))) (c1 dLen (some x_ducts)))).bind fun x_draws1 =>
  ((o1 dLst (some [])).bind fun x_bounds2 =>
  ((o1 dLst (some [])).bind fun x_stream3 =>
  ((o1 dLst (some [])).bind fun x_costs4 =>
  (((o1 dRange1 (oCons (c1 dLen (some x_ducts)) (some []))).bind fun ds => foldO (m_law_held_L1 x_pressures x_ducts x_draws1) ds (x_bounds2, x_stream3, x_costs4)).bind fun (x_b5 : D × D × D) =>
  (o1 dLst (oCons (some x_b5.1) (oCons (some x_b5.2.2) (oCons (some x_b5.2.1) (some []))))))))))
def m_law_with (x_values x_place x_value : D) : Option D :=
  (o2 dAdd (o2 dAdd (oCut (some x_values) (some none) ((o1 dI (some x_place)).map some)) (o1 dLst (oCons (some x_value) (some [])))) (oCut (some x_values) ((o1 dI (o2 dAdd (some x_place) (some (.int 1)))).map some) (some none)))
def m_law_ints_L1 (x_b1 : Unit) (x_d3 : D) : Option (Out (Unit) (Unit)) :=
  ((oOr (oNot (o1 tru (o1 (dIsi "int") (some x_d3)))) (o1 tru (o1 (dIsi "bool") (some x_d3)))).bind fun c => if c = true then
  ((some (.bl false)).bind fun d => some (.rt d []))
  else
  (some (.nx ())))
def m_law_ints (x_value x_size : D) : Option D :=
  ((oOr (oNot (o1 tru (o1 (dIsi "tuple") (some x_value)))) (o1 tru (o2 dNe (c1 dLen (some x_value)) (some x_size)))).bind fun c => if c = true then
  (some (.bl false))
  else
  (((o1 dItems (some x_value)).bind fun ds => loopO m_law_ints_L1 ds ()).bind fun (o : Out (Unit) (Empty)) => o.thnD fun x_b1 =>
  (some (.bl true))))
def m_law_ring_L1 (x_ducts : D) (x_stream : D) (x_bounds : D) (x_costs : D) (x_b4 : D × D × D) (x_d6 : D) : Option (Out (D × D × D) (D × D × D)) :=
  ((oOr (oNot (o1 tru (c2 m_law_ints (some x_d6) (some (.int 2))))) (oOr (o1 tru (o2 dLt (o2 dIx (some x_d6) (some (.int 0))) (some (.int 0)))) (oOr (o1 tru (o2 dGe (o2 dIx (some x_d6) (some (.int 0))) (c1 dLen (some x_ducts)))) (o1 tru (o2 dNotIn (o2 dIx (some x_d6) (some (.int 1))) (o1 dLst (oCons (some (.int 1)) (oCons (o1 dNeg (some (.int 1))) (some []))))))))).bind fun c => if c = true then
  ((some (.bl false)).bind fun d => some (.rt d []))
  else
  ((o2 dAdd (o2 dIx (some x_stream) (o2 dIx (some x_d6) (some (.int 0)))) (o2 dIx (some x_d6) (some (.int 1)))).bind fun x_number7 =>
  ((oOr (o1 tru (o2 dLt (some x_number7) (o2 dIx (o2 dIx (some x_bounds) (o2 dIx (some x_d6) (some (.int 0)))) (some (.int 0))))) (o1 tru (o2 dGt (some x_number7) (o2 dIx (o2 dIx (some x_bounds) (o2 dIx (some x_d6) (some (.int 0)))) (some (.int 1)))))).bind fun c => if c = true then
  ((some (.bl false)).bind fun d => some (.rt d []))
  else
  (((o2 dIx (o2 dIx (some x_ducts) (o2 dIx (some x_d6) (some (.int 0)))) (c1 dInt (o2 dEq (o2 dIx (some x_d6) (some (.int 1))) (o1 dNeg (some (.int 1)))))).bind fun e => dApp x_b4.2.1 e).bind fun x_tails8 =>
  (((o2 dIx (o2 dIx (some x_ducts) (o2 dIx (some x_d6) (some (.int 0)))) (c1 dInt (o2 dEq (o2 dIx (some x_d6) (some (.int 1))) (some (.int 1))))).bind fun e => dApp x_b4.2.2 e).bind fun x_heads9 =>
  ((o2 dAdd (some x_b4.1) (o2 dMul (o2 dIx (some x_d6) (some (.int 1))) (o2 dIx (some x_costs) (o2 dIx (some x_d6) (some (.int 0)))))).bind fun x_total10 =>
  (some (.nx (x_total10, x_tails8, x_heads9)))))))))
def m_law_ring_L2 (x_b4 : D × D × D) (x_b11 : Unit) (x_d13 : D) : Option (Out (Unit) (Unit)) :=
  ((oOr (o1 tru (o2 dNe (o2 dIx (some x_b4.2.2) (o2 dSub (some x_d13) (some (.int 1)))) (o2 dIx (some x_b4.2.1) (some x_d13)))) (o1 tru (o2 dIn (o2 dIx (some x_b4.2.1) (some x_d13)) (oCut (some x_b4.2.1) (some none) ((o1 dI (some x_d13)).map some))))).bind fun c => if c = true then
  ((some (.bl false)).bind fun d => some (.rt d []))
  else
  (some (.nx ())))
def m_law_ring (x_ducts x_bounds x_costs x_stream x_ring : D) : Option D :=
  ((oOr (oNot (o1 tru (o1 (dIsi "tuple") (some x_ring)))) (o1 tru (o2 dLt (c1 dLen (some x_ring)) (some (.int 2))))).bind fun c => if c = true then
  (some (.bl false))
  else
  ((o1 dLst (some [])).bind fun x_tails1 =>
  ((o1 dLst (some [])).bind fun x_heads2 =>
  ((some (.int 0)).bind fun x_total3 =>
  (((o1 dItems (some x_ring)).bind fun ds => loopO (m_law_ring_L1 x_ducts x_stream x_bounds x_costs) ds (x_total3, x_tails1, x_heads2)).bind fun (o : Out (D × D × D) (Empty)) => o.thnD fun x_b4 =>
  (((o1 dRange1 (oCons (c1 dLen (some x_ring)) (some []))).bind fun ds => loopO (m_law_ring_L2 x_b4) ds ()).bind fun (o : Out (Unit) (Empty)) => o.thnD fun x_b11 =>
  (o2 dLt (some x_b4.1) (some (.int 0)))))))))
def m_require_building (x_building : D) : Option D :=
  ((c2 m_require (o1 (dIsiC "Building") (some x_building)) (some (.str "building"))).bind fun _ =>
  (some .non))
def m_are_bounds_L1 (x_b1 : Unit) (x_d3 : D) : Option (Out (Unit) (Unit)) :=
  ((oOr (oNot (o1 tru (c4 m_is_table (some x_d3) (some (.int 2)) (o1 dNeg (some (.int 12))) (some (.int 12))))) (o1 tru (o2 dGt (o2 dIx (some x_d3) (some (.int 0))) (o2 dIx (some x_d3) (some (.int 1)))))).bind fun c => if c = true then
  ((some (.bl false)).bind fun d => some (.rt d []))
  else
  (some (.nx ())))
def m_are_bounds (x_building x_value : D) : Option D :=
  ((oOr (oNot (o1 tru (o1 (dIsi2 "list" "tuple") (some x_value)))) (o1 tru (o2 dNe (c1 dLen (some x_value)) (c1 dLen (o1 (dFld "Building" "ducts") (some x_building)))))).bind fun c => if c = true then
  (some (.bl false))
  else
  (((o1 dItems (some x_value)).bind fun ds => loopO m_are_bounds_L1 ds ()).bind fun (o : Out (Unit) (Empty)) => o.thnD fun x_b1 =>
  (some (.bl true))))
def m_require_bounds (x_building x_bounds : D) : Option D :=
  ((c2 m_require (c2 m_are_bounds (some x_building) (some x_bounds)) (some (.str "bounds"))).bind fun _ =>
  (some .non))
def m_require_costs (x_building x_costs : D) : Option D :=
  ((c2 m_require (c4 m_is_table (some x_costs) (c1 dLen (o1 (dFld "Building" "ducts") (some x_building))) (o1 dNeg (some (.int 9))) (some (.int 9))) (some (.str "costs"))).bind fun _ =>
  (some .non))
def m_fits_bounds_L1 (x_b1 : Unit) (de : D × D) : Option (Out (Unit) (Unit)) :=
  (un2 de.1 fun x_least8 x_most9 => ((oOr (oNot (o1 tru (c1 m_is_integer (some de.2)))) (oOr (o1 tru (o2 dLt (some de.2) (some x_least8))) (o1 tru (o2 dGt (some de.2) (some x_most9))))).bind fun c => if c = true then
  ((some (.bl false)).bind fun d => some (.rt d []))
  else
  (some (.nx ()))))
def m_fits_bounds (x_bounds x_value : D) : Option D :=
  ((oOr (oNot (o1 tru (o1 (dIsi2 "list" "tuple") (some x_value)))) (o1 tru (o2 dNe (c1 dLen (some x_value)) (c1 dLen (some x_bounds))))).bind fun c => if c = true then
  (some (.bl false))
  else
  (((o2 (fun x y => some (x.zip y)) (o1 dSeq (some x_bounds)) (o1 dSeq (some x_value))).bind fun ds => loopO m_fits_bounds_L1 ds ()).bind fun (o : Out (Unit) (Empty)) => o.thnD fun x_b1 =>
  (some (.bl true))))
def m_require_setting (x_building x_bounds x_costs x_stream : D) : Option D :=
  ((c1 m_require_building (some x_building)).bind fun _ =>
  ((c2 m_require_bounds (some x_building) (some x_bounds)).bind fun _ =>
  ((c2 m_require_costs (some x_building) (some x_costs)).bind fun _ =>
  ((c2 m_require (c2 m_fits_bounds (some x_bounds) (some x_stream)) (some (.str "stream"))).bind fun _ =>
  (some .non)))))
def m_is_paper (x_value x_kind x_size : D) : Option D :=
  ((oOr (oNot (o1 tru (o1 (dIsi "tuple") (some x_value)))) (o1 tru (o2 dNe (c1 dLen (some x_value)) (some x_size)))).bind fun c => if c = true then
  (some (.bl false))
  else
  (oAndV (o1 (dIsi "str") (o2 dIx (some x_value) (some (.int 0)))) (o2 dEq (o2 dIx (some x_value) (some (.int 0))) (some x_kind))))
def m_is_integer_table_L1 (x_b1 : Unit) (x_d3 : D) : Option (Out (Unit) (Unit)) :=
  ((oNot (o1 tru (c1 m_is_integer (some x_d3)))).bind fun c => if c = true then
  ((some (.bl false)).bind fun d => some (.rt d []))
  else
  (some (.nx ())))
def m_is_integer_table (x_value x_size : D) : Option D :=
  ((oOr (oNot (o1 tru (o1 (dIsi2 "list" "tuple") (some x_value)))) (o1 tru (o2 dNe (c1 dLen (some x_value)) (some x_size)))).bind fun c => if c = true then
  (some (.bl false))
  else
  (((o1 dItems (some x_value)).bind fun ds => loopO m_is_integer_table_L1 ds ()).bind fun (o : Out (Unit) (Empty)) => o.thnD fun x_b1 =>
  (some (.bl true))))
def m_is_integer_tuple (x_value x_size : D) : Option D :=
  (oAndV (o1 (dIsi "tuple") (some x_value)) (c2 m_is_integer_table (some x_value) (some x_size)))
def m_hold_L1 (x_value : D) (x_stream : D) (x_bounds : D) (x_costs : D) (x_b1 : Unit) (de : D × D) : Option (Out (Unit) (Unit)) :=
  (un3 de.2 fun x_first9 x_second10 x_width11 => ((o2 dSub (o2 dIx (some x_value) (some x_second10)) (o2 dIx (some x_value) (some x_first9))).bind fun x_rise12 =>
  ((oAnd (o1 tru (o2 dLt (o2 dIx (some x_stream) (some de.1)) (o2 dIx (o2 dIx (some x_bounds) (some de.1)) (some (.int 1))))) (o1 tru (o2 dLt (o2 dIx (some x_costs) (some de.1)) (some x_rise12)))).bind fun c => if c = true then
  ((some (.bl false)).bind fun d => some (.rt d []))
  else
  ((oAnd (o1 tru (o2 dGt (o2 dIx (some x_stream) (some de.1)) (o2 dIx (o2 dIx (some x_bounds) (some de.1)) (some (.int 0))))) (o1 tru (o2 dGt (o2 dIx (some x_costs) (some de.1)) (some x_rise12)))).bind fun c => if c = true then
  ((some (.bl false)).bind fun d => some (.rt d []))
  else
  (some (.nx ()))))))
def m_hold (x_building x_bounds x_costs x_stream x_value : D) : Option D :=
  ((oNot (o1 tru (c2 m_is_integer_tuple (some x_value) (o1 (dFld "Building" "rooms") (some x_building))))).bind fun c => if c = true then
  (some (.bl false))
  else
  ((((o1 dSeq (o1 (dFld "Building" "ducts") (some x_building))).map enumed).bind fun ds => loopO (m_hold_L1 x_value x_stream x_bounds x_costs) ds ()).bind fun (o : Out (Unit) (Empty)) => o.thnD fun x_b1 =>
  (some (.bl true))))
def m_step_ends (x_building x_step : D) : Option D :=
  ((o2 dIx (o1 (dFld "Building" "ducts") (some x_building)) (o2 dIx (some x_step) (some (.int 0)))).bind fun x_t1 =>
  (un3 x_t1 fun x_first2 x_second3 x_width4 => ((o1 tru (o2 dEq (o2 dIx (some x_step) (some (.int 1))) (some (.int 1)))).bind fun c => if c = true then
  (o1 dTup (oCons (some x_first2) (oCons (some x_second3) (some []))))
  else
  (o1 dTup (oCons (some x_second3) (oCons (some x_first2) (some [])))))))
def m_is_tuple (x_value x_size x_least x_most : D) : Option D :=
  (oAndV (o1 (dIsi "tuple") (some x_value)) (c4 m_is_table (some x_value) (some x_size) (some x_least) (some x_most)))
def m_is_open_step (x_building x_bounds x_stream x_value : D) : Option D :=
  ((oNot (o1 tru (c4 m_is_tuple (some x_value) (some (.int 2)) (o1 dNeg (some (.int 1))) (c1 dLen (o1 (dFld "Building" "ducts") (some x_building)))))).bind fun c => if c = true then
  (some (.bl false))
  else
  ((some x_value).bind fun x_t1 =>
  (un2 x_t1 fun x_duct2 x_sign3 => ((oNot (o1 tru (c3 m_is_between (some x_duct2) (some (.int 0)) (o2 dSub (c1 dLen (o1 (dFld "Building" "ducts") (some x_building))) (some (.int 1)))))).bind fun c => if c = true then
  (some (.bl false))
  else
  ((o1 tru (o2 dEq (some x_sign3) (some (.int 1)))).bind fun c => if c = true then
  (o2 dLt (o2 dIx (some x_stream) (some x_duct2)) (o2 dIx (o2 dIx (some x_bounds) (some x_duct2)) (some (.int 1))))
  else
  (oAndV (o2 dEq (some x_sign3) (o1 dNeg (some (.int 1)))) (o2 dGt (o2 dIx (some x_stream) (some x_duct2)) (o2 dIx (o2 dIx (some x_bounds) (some x_duct2)) (some (.int 0))))))))))
def m_is_cheaper_ring_L1 (x_building : D) (x_bounds : D) (x_stream : D) (x_b1 : Unit) (x_d3 : D) : Option (Out (Unit) (Unit)) :=
  ((oNot (o1 tru (c4 m_is_open_step (some x_building) (some x_bounds) (some x_stream) (some x_d3)))).bind fun c => if c = true then
  ((some (.bl false)).bind fun d => some (.rt d []))
  else
  (some (.nx ())))
def m_is_cheaper_ring_L2 (x_building : D) (x_value : D) (x_costs : D) (x_b6 : D × D) (de : D × D) : Option (Out (D × D) (D × D)) :=
  ((c2 m_step_ends (some x_building) (some de.2)).bind fun x_t11 =>
  (un2 x_t11 fun x_tail12 x_head13 => ((oOr (o1 tru (o2 dIn (some x_tail12) (some x_b6.2))) (o1 tru (o2 dNe (o2 dIx (c2 m_step_ends (some x_building) (o2 dIx (some x_value) (o2 dSub (some de.1) (some (.int 1))))) (some (.int 1))) (some x_tail12)))).bind fun c => if c = true then
  ((some (.bl false)).bind fun d => some (.rt d []))
  else
  (((some (.bl true)).bind fun e => (some x_tail12).bind fun k => dSet x_b6.2 k e).bind fun x_tails14 =>
  ((o2 dAddI (some x_b6.1) (o2 dMul (o2 dIx (some de.2) (some (.int 1))) (o2 dIx (some x_costs) (o2 dIx (some de.2) (some (.int 0)))))).bind fun x_told15 =>
  (some (.nx (x_told15, x_tails14))))))))
def m_is_cheaper_ring (x_building x_bounds x_costs x_stream x_value : D) : Option D :=
  ((oOr (oNot (o1 tru (o1 (dIsi "tuple") (some x_value)))) (o1 tru (o2 dLt (c1 dLen (some x_value)) (some (.int 2))))).bind fun c => if c = true then
  (some (.bl false))
  else
  (((o1 dItems (some x_value)).bind fun ds => loopO (m_is_cheaper_ring_L1 x_building x_bounds x_stream) ds ()).bind fun (o : Out (Unit) (Empty)) => o.thnD fun x_b1 =>
  ((some (.dic [] [])).bind fun x_tails4 =>
  ((some (.int 0)).bind fun x_told5 =>
  ((((o1 dSeq (some x_value)).map enumed).bind fun ds => loopO (m_is_cheaper_ring_L2 x_building x_value x_costs) ds (x_told5, x_tails4)).bind fun (o : Out (D × D) (Empty)) => o.thnD fun x_b6 =>
  (o2 dLt (some x_b6.1) (some (.int 0))))))))
def m_shows_price (x_building x_bounds x_costs x_stream x_paper : D) : Option D :=
  ((c4 m_require_setting (some x_building) (some x_bounds) (some x_costs) (some x_stream)).bind fun _ =>
  ((o1 tru (c3 m_is_paper (some x_paper) (some (.str "pressures")) (some (.int 2)))).bind fun c => if c = true then
  (c5 m_hold (some x_building) (some x_bounds) (some x_costs) (some x_stream) (o2 dIx (some x_paper) (some (.int 1))))
  else
  ((o1 tru (c3 m_is_paper (some x_paper) (some (.str "ring")) (some (.int 2)))).bind fun c => if c = true then
  (c5 m_is_cheaper_ring (some x_building) (some x_bounds) (some x_costs) (some x_stream) (o2 dIx (some x_paper) (some (.int 1))))
  else
  (some (.bl false)))))
def m_law_says (x_told x_due : D) : Option D :=
  (oAndV (o1 (dIsi "bool") (some x_told)) (o2 dEq (some x_told) (some x_due)))
def m_law_rings_C1 (x_ring3 : D) (x_d7 : D) : Option (Option D) :=
  ((o2 dAdd (oCut (some x_ring3) ((o1 dI (some x_d7)).map some) (some none)) (oCut (some x_ring3) (some none) ((o1 dI (some x_d7)).map some))).map some)
def m_law_rings_L2 (x_building1 : D) (x_bounds2 : D) (x_costs5 : D) (x_stream4 : D) (x_b8 : Unit) (x_d10 : D) : Option (Out (Unit) (Unit)) :=
  ((o1 tru (o2 dIsNot (c5 m_shows_price (some x_building1) (some x_bounds2) (some x_costs5) (some x_stream4) (o1 dTup (oCons (some (.str "ring")) (oCons (some x_d10) (some []))))) (some (.bl true)))).bind fun c => if c = true then
  ((some (.bl false)).bind fun d => some (.rt d []))
  else
  (some (.nx ())))
def m_law_rings_C3 (x_ring3 : D) (x_d12 : D) : Option (Option D) :=
  ((o1 dTup (oCons (o2 dIx (o2 dIx (some x_ring3) (o2 dSub (o2 dSub (c1 dLen (some x_ring3)) (some (.int 1))) (some x_d12))) (some (.int 0))) (oCons (o1 dNeg (o2 dIx (o2 dIx (some x_ring3) (o2 dSub (o2 dSub (c1 dLen (some x_ring3)) (some (.int 1))) (some x_d12))) (some (.int 1)))) (some [])))).map some)
def m_law_rings_L4 (x_building1 : D) (x_bounds2 : D) (x_costs5 : D) (x_stream4 : D) (x_b16 : Unit) (x_d18 : D) : Option (Out (Unit) (Unit)) :=
  ((o1 tru (o2 dIsNot (c5 m_shows_price (some x_building1) (some x_bounds2) (some x_costs5) (some x_stream4) (o1 dTup (oCons (some (.str "ring")) (oCons (some x_d18) (some []))))) (some (.bl false)))).bind fun c => if c = true then
  ((some (.bl false)).bind fun d => some (.rt d []))
  else
  (some (.nx ())))
def m_law_rings_L5 (x_plan : D) (x_bounds2 : D) (x_costs5 : D) (x_stream4 : D) (x_building1 : D) (x_b19 : Unit) (x_d21 : D) : Option (Out (Unit) (Unit)) :=
  ((c5 m_law_ring (o2 dIx (some x_plan) (some (.int 1))) (some x_bounds2) (some x_costs5) (some x_stream4) (some x_d21)).bind fun x_due22 =>
  ((oNot (o1 tru (c2 m_law_says (c5 m_shows_price (some x_building1) (some x_bounds2) (some x_costs5) (some x_stream4) (o1 dTup (oCons (some (.str "ring")) (oCons (some x_d21) (some []))))) (some x_due22)))).bind fun c => if c = true then
  ((some (.bl false)).bind fun d => some (.rt d []))
  else
  (some (.nx ()))))
def m_law_rings_L6 (x_stream4 : D) (x_ring3 : D) (x_building1 : D) (x_bounds2 : D) (x_costs5 : D) (x_b24 : Unit) (x_d26 : D) : Option (Out (Unit) (Unit)) :=
  ((c3 m_law_with (some x_stream4) (some x_d26) (o2 dMul (some (.int 2)) (o2 dIx (o2 dIx (some x_ring3) (some x_d26)) (some (.int 1))))).bind fun x_full27 =>
  ((c3 m_law_with (some x_stream4) (some x_d26) (o2 dIx (o2 dIx (some x_ring3) (some x_d26)) (some (.int 1)))).bind fun x_near28 =>
  ((o1 tru (o2 dIsNot (c5 m_shows_price (some x_building1) (some x_bounds2) (some x_costs5) (some x_full27) (o1 dTup (oCons (some (.str "ring")) (oCons (some x_ring3) (some []))))) (some (.bl false)))).bind fun c => if c = true then
  ((some (.bl false)).bind fun d => some (.rt d []))
  else
  ((o1 tru (o2 dIsNot (c5 m_shows_price (some x_building1) (some x_bounds2) (some x_costs5) (some x_near28) (o1 dTup (oCons (some (.str "ring")) (oCons (some x_ring3) (some []))))) (some (.bl true)))).bind fun c => if c = true then
  ((some (.bl false)).bind fun d => some (.rt d []))
  else
  (some (.nx ()))))))
def m_law_rings (x_script x_plan : D) : Option D :=
  (((oCons (o2 dIx (some x_plan) (some (.int 0))) (oCons (o2 dIx (some x_plan) (some (.int 1))) (some []))).bind (dMake "Building" (f3 m_Building_init))).bind fun x_building1 =>
  ((o2 dMul (o1 dLst (oCons (o1 dTup (oCons (o1 dNeg (some (.int 2))) (oCons (some (.int 2)) (some [])))) (some []))) (c1 dLen (o2 dIx (some x_plan) (some (.int 1))))).bind fun x_bounds2 =>
  ((o2 dIx (some x_plan) (some (.int 2))).bind fun x_ring3 =>
  ((o2 dIx (some x_plan) (some (.int 3))).bind fun x_stream4 =>
  ((o2 dIx (some x_plan) (some (.int 4))).bind fun x_costs5 =>
  (((o1 dRange1 (oCons (c1 dLen (some x_ring3)) (some []))).bind fun ds => dComp (m_law_rings_C1 x_ring3) ds).bind fun x_turned6 =>
  (((o1 dItems (some x_turned6)).bind fun ds => loopO (m_law_rings_L2 x_building1 x_bounds2 x_costs5 x_stream4) ds ()).bind fun (o : Out (Unit) (Empty)) => o.thnD fun x_b8 =>
  ((c1 dTuple ((o1 dRange1 (oCons (c1 dLen (some x_ring3)) (some []))).bind fun ds => dComp (m_law_rings_C3 x_ring3) ds)).bind fun x_back11 =>
  ((o1 dLst (oCons (o2 dAdd (some x_ring3) (some x_ring3)) (oCons (oCut (some x_ring3) ((o1 dI (some (.int 1))).map some) (some none)) (oCons (oCut (some x_ring3) (some none) ((o1 dI (some (.int 1))).map some)) (oCons (some x_back11) (oCons (o1 dList (some x_ring3)) (oCons (o2 dAdd (o1 dTup (oCons (o1 dList (o2 dIx (some x_ring3) (some (.int 0)))) (some []))) (oCut (some x_ring3) ((o1 dI (some (.int 1))).map some) (some none))) (oCons (o2 dAdd (o1 dTup (oCons (o1 dTup (oCons (some (.int 0)) (oCons (some (.int 0)) (some [])))) (some []))) (oCut (some x_ring3) ((o1 dI (some (.int 1))).map some) (some none))) (oCons (o1 dTup (some [])) (some [])))))))))).bind fun x_wrong13 =>
  ((o2 dAdd (some x_wrong13) (o1 dLst (oCons (o2 dAdd (o1 dTup (oCons (o1 dTup (oCons (some (.int 0)) (oCons (o2 dMul (some (.int 2)) (o2 dIx (o2 dIx (some x_ring3) (some (.int 0))) (some (.int 1)))) (some [])))) (some []))) (oCut (some x_ring3) ((o1 dI (some (.int 1))).map some) (some none))) (oCons (o2 dAdd (o1 dTup (oCons (o1 dTup (oCons (some (.int 0)) (oCons (o2 dIx (o2 dIx (some x_ring3) (some (.int 0))) (some (.int 1))) (oCons (some (.int 1)) (some []))))) (some []))) (oCut (some x_ring3) ((o1 dI (some (.int 1))).map some) (some none))) (oCons (o2 dAdd (o1 dTup (oCons (some (.int 0)) (some []))) (oCut (some x_ring3) ((o1 dI (some (.int 1))).map some) (some none))) (oCons (some .non) (some []))))))).bind fun x_wrong14 =>
  ((o2 dAdd (some x_wrong14) (o1 dLst (oCons (o2 dAdd (o1 dTup (oCons (o1 dTup (oCons (c1 dLen (o2 dIx (some x_plan) (some (.int 1)))) (oCons (some (.int 1)) (some [])))) (some []))) (oCut (some x_ring3) ((o1 dI (some (.int 1))).map some) (some none))) (oCons (o2 dAdd (o1 dTup (oCons (o1 dTup (oCons (o1 dNeg (some (.int 1))) (oCons (o2 dIx (o2 dIx (some x_ring3) (some (.int 0))) (some (.int 1))) (some [])))) (some []))) (oCut (some x_ring3) ((o1 dI (some (.int 1))).map some) (some none))) (oCons (o2 dAdd (o1 dTup (oCons (o1 dTup (oCons (some (.bl false)) (oCons (o2 dIx (o2 dIx (some x_ring3) (some (.int 0))) (some (.int 1))) (some [])))) (some []))) (oCut (some x_ring3) ((o1 dI (some (.int 1))).map some) (some none))) (some [])))))).bind fun x_wrong15 =>
  (((o1 dItems (some x_wrong15)).bind fun ds => loopO (m_law_rings_L4 x_building1 x_bounds2 x_costs5 x_stream4) ds ()).bind fun (o : Out (Unit) (Empty)) => o.thnD fun x_b16 =>
  (((o1 dItems (o1 dLst (oCons (o2 dAdd (o1 dTup (oCons (o2 dIx (some x_plan) (some (.int 5))) (some []))) (oCut (some x_ring3) ((o1 dI (some (.int 1))).map some) (some none))) (oCons (o2 dAdd (o1 dTup (oCons (o2 dIx (some x_ring3) (some (.int 1))) (oCons (o2 dIx (some x_ring3) (some (.int 0))) (some [])))) (oCut (some x_ring3) ((o1 dI (some (.int 2))).map some) (some none))) (oCons (o2 dAdd (some x_ring3) (o1 dTup (oCons (o2 dIx (some x_plan) (some (.int 5))) (oCons (o1 dTup (oCons (o2 dIx (o2 dIx (some x_plan) (some (.int 5))) (some (.int 0))) (oCons (o1 dNeg (o2 dIx (o2 dIx (some x_plan) (some (.int 5))) (some (.int 1)))) (some [])))) (some []))))) (some [])))))).bind fun ds => loopO (m_law_rings_L5 x_plan x_bounds2 x_costs5 x_stream4 x_building1) ds ()).bind fun (o : Out (Unit) (Empty)) => o.thnD fun x_b19 =>
  ((c3 m_law_with (some x_costs5) (some (.int 0)) (o2 dAdd (o2 dIx (some x_costs5) (some (.int 0))) (o2 dIx (o2 dIx (some x_ring3) (some (.int 0))) (some (.int 1))))).bind fun x_zero23 =>
  ((o1 tru (o2 dIsNot (c5 m_shows_price (some x_building1) (some x_bounds2) (some x_zero23) (some x_stream4) (o1 dTup (oCons (some (.str "ring")) (oCons (some x_ring3) (some []))))) (some (.bl false)))).bind fun c => if c = true then
  (some (.bl false))
  else
  (((o1 dRange1 (oCons (c1 dLen (some x_ring3)) (some []))).bind fun ds => loopO (m_law_rings_L6 x_stream4 x_ring3 x_building1 x_bounds2 x_costs5) ds ()).bind fun (o : Out (Unit) (Empty)) => o.thnD fun x_b24 =>
  (some (.bl true))))))))))))))))))
def m_law_holds_L1 (x_pressures : D) (x_ducts : D) (x_stream : D) (x_bounds : D) (x_costs : D) (x_b1 : Unit) (x_d3 : D) : Option (Out (Unit) (Unit)) :=
  ((o2 dSub (o2 dIx (some x_pressures) (o2 dIx (o2 dIx (some x_ducts) (some x_d3)) (some (.int 1)))) (o2 dIx (some x_pressures) (o2 dIx (o2 dIx (some x_ducts) (some x_d3)) (some (.int 0))))).bind fun x_rise4 =>
  ((oAnd (o1 tru (o2 dLt (o2 dIx (some x_stream) (some x_d3)) (o2 dIx (o2 dIx (some x_bounds) (some x_d3)) (some (.int 1))))) (o1 tru (o2 dLt (o2 dIx (some x_costs) (some x_d3)) (some x_rise4)))).bind fun c => if c = true then
  ((some (.bl false)).bind fun d => some (.rt d []))
  else
  ((oAnd (o1 tru (o2 dGt (o2 dIx (some x_stream) (some x_d3)) (o2 dIx (o2 dIx (some x_bounds) (some x_d3)) (some (.int 0))))) (o1 tru (o2 dGt (o2 dIx (some x_costs) (some x_d3)) (some x_rise4)))).bind fun c => if c = true then
  ((some (.bl false)).bind fun d => some (.rt d []))
  else
  (some (.nx ())))))
def m_law_holds (x_ducts x_bounds x_costs x_stream x_pressures : D) : Option D :=
  (((o1 dRange1 (oCons (c1 dLen (some x_ducts)) (some []))).bind fun ds => loopO (m_law_holds_L1 x_pressures x_ducts x_stream x_bounds x_costs) ds ()).bind fun (o : Out (Unit) (Empty)) => o.thnD fun x_b1 =>
  (some (.bl true)))
def m_law_pressed_C1 (x_d3 : D) : Option (Option D) :=
  ((o2 dSub (some x_d3) (o2 dPow (some (.int 10)) (some (.int 30)))).map some)
def m_law_pressed_L2 (x_building : D) (x_bounds : D) (x_costs : D) (x_stream : D) (x_b4 : Unit) (x_d6 : D) : Option (Out (Unit) (Unit)) :=
  ((o1 tru (o2 dIsNot (c5 m_shows_price (some x_building) (some x_bounds) (some x_costs) (some x_stream) (some x_d6)) (some (.bl true)))).bind fun c => if c = true then
  ((some (.bl false)).bind fun d => some (.rt d []))
  else
  (some (.nx ())))
def m_law_pressed_L3 (x_building : D) (x_bounds : D) (x_costs : D) (x_stream : D) (x_b11 : Unit) (x_d13 : D) : Option (Out (Unit) (Unit)) :=
  ((o1 tru (o2 dIsNot (c5 m_shows_price (some x_building) (some x_bounds) (some x_costs) (some x_stream) (some x_d13)) (some (.bl false)))).bind fun c => if c = true then
  ((some (.bl false)).bind fun d => some (.rt d []))
  else
  (some (.nx ())))
def m_law_pressed_L4 (x_costs : D) (x_d16 : D) (x_pressures : D) (x_ducts : D) (x_bounds : D) (x_stream : D) (x_building : D) (x_right1 : D) (x_b17 : Unit) (x_d19 : D) : Option (Out (Unit) (Unit)) :=
  ((c3 m_law_with (some x_costs) (some x_d16) (o2 dAdd (o2 dSub (o2 dIx (some x_pressures) (o2 dIx (o2 dIx (some x_ducts) (some x_d16)) (some (.int 1)))) (o2 dIx (some x_pressures) (o2 dIx (o2 dIx (some x_ducts) (some x_d16)) (some (.int 0))))) (some x_d19))).bind fun x_fresh20 =>
  ((c5 m_law_holds (some x_ducts) (some x_bounds) (some x_fresh20) (some x_stream) (some x_pressures)).bind fun x_due21 =>
  ((oNot (o1 tru (c2 m_law_says (c5 m_shows_price (some x_building) (some x_bounds) (some x_fresh20) (some x_stream) (some x_right1)) (some x_due21)))).bind fun c => if c = true then
  ((some (.bl false)).bind fun d => some (.rt d []))
  else
  (some (.nx ())))))
def m_law_pressed_L5 (x_costs : D) (x_pressures : D) (x_ducts : D) (x_bounds : D) (x_stream : D) (x_building : D) (x_right1 : D) (x_b14 : Unit) (x_d16 : D) : Option (Out (Unit) (Unit)) :=
  (((o1 dRange2 (oCons (o1 dNeg (some (.int 1))) (oCons (some (.int 2)) (some [])))).bind fun ds => loopO (m_law_pressed_L4 x_costs x_d16 x_pressures x_ducts x_bounds x_stream x_building x_right1) ds ()).bind fun (o : Out (Unit) (Unit)) => o.thn fun x_b17 =>
  (some (.nx ())))
def m_law_pressed_L6 (x_pressures : D) (x_d24 : D) (x_ducts : D) (x_bounds : D) (x_costs : D) (x_stream : D) (x_building : D) (x_b25 : Unit) (x_d27 : D) : Option (Out (Unit) (Unit)) :=
  ((c3 m_law_with (some x_pressures) (some x_d24) (o2 dAdd (o2 dIx (some x_pressures) (some x_d24)) (some x_d27))).bind fun x_fresh28 =>
  ((c5 m_law_holds (some x_ducts) (some x_bounds) (some x_costs) (some x_stream) (some x_fresh28)).bind fun x_due29 =>
  ((oNot (o1 tru (c2 m_law_says (c5 m_shows_price (some x_building) (some x_bounds) (some x_costs) (some x_stream) (o1 dTup (oCons (some (.str "pressures")) (oCons (c1 dTuple (some x_fresh28)) (some []))))) (some x_due29)))).bind fun c => if c = true then
  ((some (.bl false)).bind fun d => some (.rt d []))
  else
  (some (.nx ())))))
def m_law_pressed_L7 (x_pressures : D) (x_ducts : D) (x_bounds : D) (x_costs : D) (x_stream : D) (x_building : D) (x_b22 : Unit) (x_d24 : D) : Option (Out (Unit) (Unit)) :=
  (((o1 dItems (o1 dLst (oCons (o1 dNeg (some (.int 1))) (oCons (some (.int 1)) (some []))))).bind fun ds => loopO (m_law_pressed_L6 x_pressures x_d24 x_ducts x_bounds x_costs x_stream x_building) ds ()).bind fun (o : Out (Unit) (Unit)) => o.thn fun x_b25 =>
  (some (.nx ())))
def m_law_pressed (x_building x_ducts x_bounds x_costs x_stream x_pressures : D) : Option D :=
  ((o1 dTup (oCons (some (.str "pressures")) (oCons (c1 dTuple (some x_pressures)) (some [])))).bind fun x_right1 =>
  ((o1 dTup (oCons (some (.str "pressures")) (oCons (c1 dTuple ((o1 dItems (some x_pressures)).bind fun ds => dComp m_law_pressed_C1 ds)) (some [])))).bind fun x_lifted2 =>
  (((o1 dItems (o1 dLst (oCons (some x_right1) (oCons (some x_lifted2) (some []))))).bind fun ds => loopO (m_law_pressed_L2 x_building x_bounds x_costs x_stream) ds ()).bind fun (o : Out (Unit) (Empty)) => o.thnD fun x_b4 =>
  ((oCut (o2 dIx (some x_right1) (some (.int 1))) (some none) ((o1 dI (o2 dSub (c1 dLen (some x_pressures)) (some (.int 1)))).map some)).bind fun x_first7 =>
  ((o1 dLst (oCons (some .non) (oCons (some (.int 0)) (oCons (o1 dTup (some [])) (oCons (o1 dTup (oCons (some (.str "pressures")) (some []))) (oCons (o1 dList (some x_right1)) (oCons (o2 dAdd (some x_right1) (o1 dTup (oCons (some (.int 0)) (some [])))) (oCons (o1 dTup (oCons (some (.str "pressures")) (oCons (o1 dList (some x_pressures)) (some [])))) (oCons (o1 dTup (oCons (some (.str "ring")) (oCons (o2 dIx (some x_right1) (some (.int 1))) (some [])))) (some [])))))))))).bind fun x_wrong8 =>
  ((o2 dAdd (some x_wrong8) (o1 dLst (oCons (o1 dTup (oCons (some (.str "pressures")) (oCons (o2 dAdd (o2 dIx (some x_right1) (some (.int 1))) (o1 dTup (oCons (some (.int 0)) (some [])))) (some [])))) (oCons (o1 dTup (oCons (some (.str "pressures")) (oCons (some x_first7) (some [])))) (oCons (o1 dTup (oCons (some (.str "pressures")) (oCons (o2 dAdd (some x_first7) (o1 dTup (oCons (some .non) (some [])))) (some [])))) (some [])))))).bind fun x_wrong9 =>
  ((o2 dAdd (some x_wrong9) (o1 dLst (oCons (o1 dTup (oCons (some (.str "pressures")) (oCons (o2 dAdd (some x_first7) (o1 dTup (oCons (some (.bl true)) (some [])))) (some [])))) (oCons (o1 dTup (oCons (some (.str "cheapest")) (oCons (c1 dTuple (some x_stream)) (oCons (o2 dIx (some x_right1) (some (.int 1))) (some []))))) (oCons (o1 dTup (oCons (some (.str "ring")) (oCons (o1 dTup (some [])) (some [])))) (some [])))))).bind fun x_wrong10 =>
  (((o1 dItems (some x_wrong10)).bind fun ds => loopO (m_law_pressed_L3 x_building x_bounds x_costs x_stream) ds ()).bind fun (o : Out (Unit) (Empty)) => o.thnD fun x_b11 =>
  (((o1 dRange1 (oCons (c1 dLen (some x_ducts)) (some []))).bind fun ds => loopO (m_law_pressed_L5 x_costs x_pressures x_ducts x_bounds x_stream x_building x_right1) ds ()).bind fun (o : Out (Unit) (Empty)) => o.thnD fun x_b14 =>
  (((o1 dRange1 (oCons (c1 dLen (some x_pressures)) (some []))).bind fun ds => loopO (m_law_pressed_L7 x_pressures x_ducts x_bounds x_costs x_stream x_building) ds ()).bind fun (o : Out (Unit) (Empty)) => o.thnD fun x_b22 =>
  (some (.bl true))))))))))))
def m_law_gains_L1 (x_ducts : D) (x_stream : D) (x_b2 : D) (x_d4 : D) : Option (D) :=
  (((o2 dSub (o2 dIx (some x_b2) (o2 dIx (o2 dIx (some x_ducts) (some x_d4)) (some (.int 0)))) (o2 dIx (some x_stream) (some x_d4))).bind fun e => (o2 dIx (o2 dIx (some x_ducts) (some x_d4)) (some (.int 0))).bind fun k => dSet x_b2 k e).bind fun x_found5 =>
  (((o2 dAdd (o2 dIxL (some x_found5) (o2 dIx (o2 dIx (some x_ducts) (some x_d4)) (some (.int 1)))) (o2 dIx (some x_stream) (some x_d4))).bind fun e => (o2 dIx (o2 dIx (some x_ducts) (some x_d4)) (some (.int 1))).bind fun k => dSet x_found5 k e).bind fun x_found6 =>
  (some x_found6)))
def m_law_gains (x_rooms x_ducts x_stream : D) : Option D :=
  ((o2 dMulL (o1 dLst (oCons (some (.int 0)) (some []))) (some x_rooms)).bind fun x_found1 =>
  (((o1 dRange1 (oCons (c1 dLen (some x_ducts)) (some []))).bind fun ds => foldO (m_law_gains_L1 x_ducts x_stream) ds x_found1).bind fun (x_b2 : D) =>
  (some x_b2)))
def m_require_needs (x_building x_needs : D) : Option D :=
  ((c2 m_require (c4 m_is_table (some x_needs) (o1 (dFld "Building" "rooms") (some x_building)) (o1 dNeg (some (.int 200))) (some (.int 200))) (some (.str "needs"))).bind fun _ =>
  (some .non))
def m_range_of_gain_L1 (x_rooms : D) (x_b3 : D × D) (de : D × D) : Option (D × D) :=
  (un3 de.1 fun x_first13 x_second14 x_width15 => un2 de.2 fun x_low16 x_high17 => (((oAnd (o1 tru (o2 dIn (some x_second14) (some x_rooms))) (o1 tru (o2 dNotIn (some x_first13) (some x_rooms)))).bind fun c => if c = true then
  ((o2 dAddI (some x_b3.1) (some x_low16)).bind fun x_least19 =>
  ((o2 dAddI (some x_b3.2) (some x_high17)).bind fun x_most20 =>
  (some (x_least19, x_most20))))
  else
  (((oAnd (o1 tru (o2 dIn (some x_first13) (some x_rooms))) (o1 tru (o2 dNotIn (some x_second14) (some x_rooms)))).bind fun c => if c = true then
  ((o2 dSub (some x_b3.1) (some x_high17)).bind fun x_least22 =>
  ((o2 dSub (some x_b3.2) (some x_low16)).bind fun x_most23 =>
  (some (x_least22, x_most23))))
  else
  (some (x_b3.1, x_b3.2))).bind fun (x_j21 : D × D) =>
  (some (x_j21.1, x_j21.2)))).bind fun (x_j18 : D × D) =>
  (some (x_j18.1, x_j18.2))))
def m_range_of_gain (x_building x_bounds x_rooms : D) : Option D :=
  ((some (.int 0)).bind fun x_least1 =>
  ((some (.int 0)).bind fun x_most2 =>
  (((o2 (fun x y => some (x.zip y)) (o1 dSeq (o1 (dFld "Building" "ducts") (some x_building))) (o1 dSeq (some x_bounds))).bind fun ds => foldO (m_range_of_gain_L1 x_rooms) ds (x_least1, x_most2)).bind fun (x_b3 : D × D) =>
  (o1 dTup (oCons (some x_b3.1) (oCons (some x_b3.2) (some [])))))))
def m_are_places_L1 (x_count : D) (x_b2 : D) (x_d4 : D) : Option (Out (D) (D)) :=
  ((oOr (oNot (o1 tru (c3 m_is_between (some x_d4) (some (.int 0)) (o2 dSub (some x_count) (some (.int 1)))))) (o1 tru (o2 dIn (some x_d4) (some x_b2)))).bind fun c => if c = true then
  ((some (.bl false)).bind fun d => some (.rt d []))
  else
  (((some (.bl true)).bind fun e => (some x_d4).bind fun k => dSet x_b2 k e).bind fun x_seen5 =>
  (some (.nx x_seen5))))
def m_are_places (x_value x_count : D) : Option D :=
  ((oNot (o1 tru (o1 (dIsi2 "list" "tuple") (some x_value)))).bind fun c => if c = true then
  (some (.bl false))
  else
  ((some (.dic [] [])).bind fun x_seen1 =>
  (((o1 dItems (some x_value)).bind fun ds => loopO (m_are_places_L1 x_count) ds x_seen1).bind fun (o : Out (D) (Empty)) => o.thnD fun x_b2 =>
  (some (.bl true)))))
def m_is_place_set (x_value x_count : D) : Option D :=
  (oAndV (o1 (dIsi "tuple") (some x_value)) (oAndV (c2 m_are_places (some x_value) (some x_count)) (o2 dEq (o1 dList (some x_value)) (c1 dSorted (some x_value)))))
def m_is_room_set (x_value x_rooms : D) : Option D :=
  (oAndV (c2 m_is_place_set (some x_value) (some x_rooms)) (o2 dGt (c1 dLen (some x_value)) (some (.int 0))))
def m_is_refused_set_C1 (x_needs : D) (x_d5 : D) : Option (Option D) :=
  ((o2 dIx (some x_needs) (some x_d5)).map some)
def m_is_refused_set (x_building x_bounds x_needs x_paper : D) : Option D :=
  ((oAnd (oNot (o1 tru (c3 m_is_paper (some x_paper) (some (.str "starved")) (some (.int 2))))) (oNot (o1 tru (c3 m_is_paper (some x_paper) (some (.str "flooded")) (some (.int 2)))))).bind fun c => if c = true then
  (some (.bl false))
  else
  ((oNot (o1 tru (c2 m_is_room_set (o2 dIx (some x_paper) (some (.int 1))) (o1 (dFld "Building" "rooms") (some x_building))))).bind fun c => if c = true then
  (some (.bl false))
  else
  ((c3 m_range_of_gain (some x_building) (some x_bounds) (o2 dIx (some x_paper) (some (.int 1)))).bind fun x_t1 =>
  (un2 x_t1 fun x_least2 x_most3 => ((c1 dSum ((o1 dItems (o2 dIx (some x_paper) (some (.int 1)))).bind fun ds => dComp (m_is_refused_set_C1 x_needs) ds)).bind fun x_needed4 =>
  ((o1 tru (o2 dEq (o2 dIx (some x_paper) (some (.int 0))) (some (.str "starved")))).bind fun c => if c = true then
  (o2 dGt (some x_needed4) (some x_most3))
  else
  (o2 dLt (some x_needed4) (some x_least2))))))))
def m_gain_list_L1 (x_b2 : D) (de : D × D) : Option (D) :=
  (un3 de.1 fun x_first10 x_second11 x_width12 => (((some x_first10).bind fun k => (dGetO x_b2 k).bind fun x => (some de.2).bind fun e => (dSub x e).bind fun z => dSet x_b2 k z).bind fun x_found13 =>
  (((some x_second11).bind fun k => (dGetO x_found13 k).bind fun x => (some de.2).bind fun e => (dAddI x e).bind fun z => dSet x_found13 k z).bind fun x_found14 =>
  (some x_found14))))
def m_gain_list (x_building x_stream : D) : Option D :=
  ((o2 dMulL (o1 dLst (oCons (some (.int 0)) (some []))) (o1 (dFld "Building" "rooms") (some x_building))).bind fun x_found1 =>
  (((o2 (fun x y => some (x.zip y)) (o1 dSeq (o1 (dFld "Building" "ducts") (some x_building))) (o1 dSeq (some x_stream))).bind fun ds => foldO m_gain_list_L1 ds x_found1).bind fun (x_b2 : D) =>
  (some x_b2)))
def m_serves (x_building x_bounds x_needs x_value : D) : Option D :=
  ((oOr (oNot (o1 tru (o1 (dIsi "tuple") (some x_value)))) (oNot (o1 tru (c2 m_fits_bounds (some x_bounds) (some x_value))))).bind fun c => if c = true then
  (some (.bl false))
  else
  (o2 dEq (c2 m_gain_list (some x_building) (some x_value)) (o1 dList (some x_needs))))
def m_shows_cheapest (x_building x_bounds x_needs x_costs x_paper : D) : Option D :=
  ((c1 m_require_building (some x_building)).bind fun _ =>
  ((c2 m_require_bounds (some x_building) (some x_bounds)).bind fun _ =>
  ((c2 m_require_needs (some x_building) (some x_needs)).bind fun _ =>
  ((c2 m_require_costs (some x_building) (some x_costs)).bind fun _ =>
  ((o1 tru (c3 m_is_paper (some x_paper) (some (.str "cheapest")) (some (.int 3)))).bind fun c => if c = true then
  ((oNot (o1 tru (c4 m_serves (some x_building) (some x_bounds) (some x_needs) (o2 dIx (some x_paper) (some (.int 1)))))).bind fun c => if c = true then
  (some (.bl false))
  else
  (c5 m_hold (some x_building) (some x_bounds) (some x_costs) (o2 dIx (some x_paper) (some (.int 1))) (o2 dIx (some x_paper) (some (.int 2)))))
  else
  (c4 m_is_refused_set (some x_building) (some x_bounds) (some x_needs) (some x_paper)))))))
def m_law_cheap_L1 (x_building : D) (x_bounds : D) (x_needs2 : D) (x_costs : D) (x_b9 : Unit) (x_d11 : D) : Option (Out (Unit) (Unit)) :=
  ((o1 tru (o2 dIsNot (c5 m_shows_cheapest (some x_building) (some x_bounds) (some x_needs2) (some x_costs) (some x_d11)) (some (.bl false)))).bind fun c => if c = true then
  ((some (.bl false)).bind fun d => some (.rt d []))
  else
  (some (.nx ())))
def m_law_cheap (x_building x_ducts x_bounds x_costs x_stream x_pressures x_draws : D) : Option D :=
  ((c1 dLen (some x_pressures)).bind fun x_rooms1 =>
  ((c3 m_law_gains (some x_rooms1) (some x_ducts) (some x_stream)).bind fun x_needs2 =>
  ((o1 dTup (oCons (some (.str "cheapest")) (oCons (c1 dTuple (some x_stream)) (oCons (c1 dTuple (some x_pressures)) (some []))))).bind fun x_right3 =>
  ((o1 tru (o2 dIsNot (c5 m_shows_cheapest (some x_building) (some x_bounds) (some x_needs2) (some x_costs) (some x_right3)) (some (.bl true)))).bind fun c => if c = true then
  (some (.bl false))
  else
  ((o1 dLst (oCons (some .non) (oCons (o1 dTup (some [])) (oCons (o1 dList (some x_right3)) (oCons (o2 dAdd (some x_right3) (o1 dTup (oCons (some (.int 0)) (some [])))) (oCons (oCut (some x_right3) (some none) ((o1 dI (some (.int 2))).map some)) (oCons (o1 dTup (oCons (some (.str "pressures")) (oCons (o2 dIx (some x_right3) (some (.int 2))) (some [])))) (oCons (o1 dTup (oCons (some (.str "stream")) (oCons (o2 dIx (some x_right3) (some (.int 1))) (some [])))) (some []))))))))).bind fun x_wrong4 =>
  ((o2 dAdd (some x_wrong4) (o1 dLst (oCons (o1 dTup (oCons (some (.str "cheapest")) (oCons (o1 dList (some x_stream)) (oCons (o2 dIx (some x_right3) (some (.int 2))) (some []))))) (oCons (o1 dTup (oCons (some (.str "cheapest")) (oCons (o2 dIx (some x_right3) (some (.int 1))) (oCons (o1 dList (some x_pressures)) (some []))))) (some []))))).bind fun x_wrong5 =>
  ((o2 dAdd (some x_wrong5) (o1 dLst (oCons (o1 dTup (oCons (some (.str "cheapest")) (oCons (o2 dAdd (o2 dIx (some x_right3) (some (.int 1))) (o1 dTup (oCons (some (.int 0)) (some [])))) (oCons (o2 dIx (some x_right3) (some (.int 2))) (some []))))) (oCons (o1 dTup (oCons (some (.str "cheapest")) (oCons (o2 dIx (some x_right3) (some (.int 1))) (oCons (o2 dAdd (o2 dIx (some x_right3) (some (.int 2))) (o1 dTup (oCons (some (.int 0)) (some [])))) (some []))))) (some []))))).bind fun x_wrong6 =>
  ((o2 dAdd (some x_wrong6) (o1 dLst (oCons (o1 dTup (oCons (some (.str "cheapest")) (oCons (o2 dIx (some x_right3) (some (.int 1))) (oCons (o2 dAdd (oCut (o2 dIx (some x_right3) (some (.int 2))) (some none) ((o1 dI (o2 dSub (some x_rooms1) (some (.int 1)))).map some)) (o1 dTup (oCons (some (.bl false)) (some [])))) (some []))))) (oCons (o1 dTup (oCons (some (.str "starved")) (oCons ((o1 dRg ((o1 dI (some x_rooms1)).map fun n => (0, n))).map D.tup) (some [])))) (some []))))).bind fun x_wrong7 =>
  ((o2 dAdd (some x_wrong7) (o1 dLst (oCons (o1 dTup (oCons (some (.str "flooded")) (oCons ((o1 dRg ((o1 dI (some x_rooms1)).map fun n => (0, n))).map D.tup) (some [])))) (oCons (o2 dAdd (o1 dTup (oCons (some (.bl true)) (some []))) (oCut (some x_right3) ((o1 dI (some (.int 1))).map some) (some none))) (some []))))).bind fun x_wrong8 =>
  (((o1 dItems (some x_wrong8)).bind fun ds => loopO (m_law_cheap_L1 x_building x_bounds x_needs2 x_costs) ds ()).bind fun (o : Out (Unit) (Empty)) => o.thnD fun x_b9 =>
  ((c3 m_law_with (some x_needs2) (o2 dIx (some x_draws) (some (.int 0))) (o2 dAdd (o2 dIx (some x_needs2) (o2 dIx (some x_draws) (some (.int 0)))) (some (.int 1)))).bind fun x_other12 =>
  ((o1 tru (o2 dIsNot (c5 m_shows_cheapest (some x_building) (some x_bounds) (some x_other12) (some x_costs) (some x_right3)) (some (.bl false)))).bind fun c => if c = true then
  (some (.bl false))
  else
  ((o1 tru (o2 dIsNot (c5 m_shows_cheapest (some x_building) (some x_bounds) (some x_other12) (some x_costs) (o1 dTup (oCons (some (.str "starved")) (oCons ((o1 dRg ((o1 dI (some x_rooms1)).map fun n => (0, n))).map D.tup) (some []))))) (some (.bl true)))).bind fun c => if c = true then
  (some (.bl false))
  else
  ((c3 m_law_with (some x_pressures) (o2 dIx (some x_draws) (some (.int 0))) (o2 dAdd (o2 dIx (some x_pressures) (o2 dIx (some x_draws) (some (.int 0)))) (some (.int 1)))).bind fun x_fresh13 =>
  ((c5 m_law_holds (some x_ducts) (some x_bounds) (some x_costs) (some x_stream) (some x_fresh13)).bind fun x_due14 =>
  ((oNot (o1 tru (c2 m_law_says (c5 m_shows_cheapest (some x_building) (some x_bounds) (some x_needs2) (some x_costs) (o2 dAdd (oCut (some x_right3) (some none) ((o1 dI (some (.int 2))).map some)) (o1 dTup (oCons (c1 dTuple (some x_fresh13)) (some []))))) (some x_due14)))).bind fun c => if c = true then
  (some (.bl false))
  else
  ((o1 tru (o2 dEq (c1 dLen (some x_ducts)) (some (.int 0)))).bind fun c => if c = true then
  (some (.bl true))
  else
  ((o2 dMod (c1 dInt (o2 dIx (some x_draws) (some (.int 1)))) (c1 dLen (some x_ducts))).bind fun x_place15 =>
  ((c3 m_law_with (some x_stream) (some x_place15) (o2 dIx (o1 dLst (oCons (o2 dSub (o2 dIx (o2 dIx (some x_bounds) (some x_place15)) (some (.int 0))) (some (.int 1))) (oCons (o2 dAdd (o2 dIx (o2 dIx (some x_bounds) (some x_place15)) (some (.int 1))) (some (.int 1))) (some [])))) (o2 dIx (some x_draws) (some (.int 2))))).bind fun x_beyond16 =>
  ((o1 dTup (oCons (some (.str "cheapest")) (oCons (c1 dTuple (some x_beyond16)) (oCons (o2 dIx (some x_right3) (some (.int 2))) (some []))))).bind fun x_paper17 =>
  (o2 dIs (c5 m_shows_cheapest (some x_building) (some x_bounds) (c3 m_law_gains (some x_rooms1) (some x_ducts) (some x_beyond16)) (some x_costs) (some x_paper17)) (some (.bl false)))))))))))))))))))))))
def m_law_round_L1 (x_rooms2 : D) (x_head1 : D) (x_b5 : D × D) (x_d7 : D) : Option (D × D) :=
  ((o2 dIx (o1 dLst (oCons (o1 dTup (oCons (some x_d7) (oCons (o2 dMod (c1 dInt (o2 dAdd (some x_d7) (some (.int 1)))) (some x_rooms2)) (some [])))) (oCons (o1 dTup (oCons (o2 dMod (c1 dInt (o2 dAdd (some x_d7) (some (.int 1)))) (some x_rooms2)) (oCons (some x_d7) (some [])))) (some [])))) (o2 dIx (some x_head1) (o2 dAdd (some (.int 1)) (some x_d7)))).bind fun x_ends8 =>
  (((o2 dAdd (some x_ends8) (o1 dTup (oCons (some (.int 1)) (some [])))).bind fun e => dApp x_b5.2 e).bind fun x_ducts9 =>
  ((o2 dAdd (some x_b5.1) (o1 dTup (oCons (o1 dTup (oCons (some x_d7) (oCons (o2 dSub (some (.int 1)) (o2 dMul (some (.int 2)) (o2 dIx (some x_head1) (o2 dAdd (some (.int 1)) (some x_d7))))) (some [])))) (some [])))).bind fun x_ring10 =>
  (some (x_ring10, x_ducts9)))))
def m_law_round_C2 (x_draws12 : D) (x_d14 : D) : Option (Option D) :=
  ((o2 dSub (o2 dIx (some x_draws12) (o2 dMul (some (.int 2)) (some x_d14))) (some (.int 1))).map some)
def m_law_round_C3 (x_draws12 : D) (x_d16 : D) : Option (Option D) :=
  ((o2 dSub (o2 dIx (some x_draws12) (o2 dAdd (o2 dMul (some (.int 2)) (some x_d16)) (some (.int 1)))) (some (.int 2))).map some)
def m_law_round_C4 (x_b5 : D × D) (x_costs15 : D) (x_d18 : D) : Option (Option D) :=
  ((o1 chk (o2 dMul (o2 dIx (o2 dIx (some x_b5.1) (some x_d18)) (some (.int 1))) (o2 dIx (some x_costs15) (some x_d18)))).map some)
def m_law_round (x_script : D) : Option D :=
  ((c2 m_law_draw (c2 m_law_cell (some x_script) (some (.int 5))) (o1 dLst (oCons (some (.int 4)) (oCons (some (.int 2)) (oCons (some (.int 2)) (oCons (some (.int 2)) (oCons (some (.int 2)) (oCons (some (.int 2)) (oCons (some (.int 2)) (some [])))))))))).bind fun x_head1 =>
  ((o2 dAdd (o2 dIx (some x_head1) (some (.int 0))) (some (.int 2))).bind fun x_rooms2 =>
  ((o1 dLst (some [])).bind fun x_ducts3 =>
  ((o1 dTup (some [])).bind fun x_ring4 =>
  (((o1 dRange1 (oCons (some x_rooms2) (some []))).bind fun ds => foldO (m_law_round_L1 x_rooms2 x_head1) ds (x_ring4, x_ducts3)).bind fun (x_b5 : D × D) =>
  (((o2 dIx (o1 dLst (oCons (o1 dTup (oCons (some (.int 0)) (oCons (some (.int 1)) (oCons (some (.int 1)) (some []))))) (oCons (o1 dTup (oCons (some (.int 1)) (oCons (some (.int 0)) (oCons (some (.int 1)) (some []))))) (some [])))) (o2 dIx (some x_head1) (some (.int 6)))).bind fun e => dApp x_b5.2 e).bind fun x_ducts11 =>
  ((c2 m_law_draw (c2 m_law_cell (some x_script) (some (.int 6))) (o2 dAdd (o2 dMul (o1 dLst (oCons (some (.int 3)) (oCons (some (.int 5)) (some [])))) (o2 dAdd (some x_rooms2) (some (.int 1)))) (o1 dLst (oCons (some (.int 2)) (some []))))).bind fun x_draws12 =>
  (((o1 dRange1 (oCons (o2 dAdd (some x_rooms2) (some (.int 1))) (some []))).bind fun ds => dComp (m_law_round_C2 x_draws12) ds).bind fun x_stream13 =>
  (((o1 dRange1 (oCons (o2 dAdd (some x_rooms2) (some (.int 1))) (some []))).bind fun ds => dComp (m_law_round_C3 x_draws12) ds).bind fun x_costs15 =>
  ((c1 dSum ((o1 dRange2 (oCons (some (.int 1)) (oCons (some x_rooms2) (some [])))).bind fun ds => dComp (m_law_round_C4 x_b5 x_costs15) ds)).bind fun x_others17 =>
  (((o2 dMul (o2 dIx (o2 dIx (some x_b5.1) (some (.int 0))) (some (.int 1))) (o2 dSub (o1 dNeg (some (.int 1))) (some x_others17))).bind fun e => (some (.int 0)).bind fun k => dSet x_costs15 k e).bind fun x_costs19 =>
  (o1 dLst (oCons (some x_rooms2) (oCons (some x_ducts11) (oCons (some x_b5.1) (oCons (some x_stream13) (oCons (some x_costs19) (oCons (o1 dTup (oCons (some x_rooms2) (oCons (o2 dSub (some (.int 1)) (o2 dMul (some (.int 2)) (o2 dIx (some x_head1) (some (.int 6))))) (some [])))) (some [])))))))))))))))))))
def m_law (x_script : D) : Option D :=
  ((c5 m_law_plan (some x_script) (some (.int 0)) (some (.int 6)) (some (.int 5)) (some (.int 3))).bind fun x_plan1 =>
  ((o2 dIx (some x_plan1) (some (.int 0))).bind fun x_rooms2 =>
  (((oCons (some x_rooms2) (oCons (o2 dIx (some x_plan1) (some (.int 1))) (some []))).bind (dMake "Building" (f3 m_Building_init))).bind fun x_building3 =>
  ((c4 m_law_numbers (c2 m_law_cell (some x_script) (some (.int 2))) (some x_rooms2) (o1 dNeg (some (.int 3))) (some (.int 3))).bind fun x_pressures4 =>
  ((c3 m_law_held (some x_script) (o2 dIx (some x_plan1) (some (.int 1))) (some x_pressures4)).bind fun x_held5 =>
  ((c2 m_law_draw (c2 m_law_cell (some x_script) (some (.int 4))) (o1 dLst (oCons (some x_rooms2) (oCons (some (.int 16)) (oCons (some (.int 2)) (some [])))))).bind fun x_draws6 =>
  ((oNot (o1 tru (c6 m_law_pressed (some x_building3) (o2 dIx (some x_plan1) (some (.int 1))) (o2 dIx (some x_held5) (some (.int 0))) (o2 dIx (some x_held5) (some (.int 1))) (o2 dIx (some x_held5) (some (.int 2))) (some x_pressures4)))).bind fun c => if c = true then
  (some (.bl false))
  else
  ((oNot (o1 tru (c7 m_law_cheap (some x_building3) (o2 dIx (some x_plan1) (some (.int 1))) (o2 dIx (some x_held5) (some (.int 0))) (o2 dIx (some x_held5) (some (.int 1))) (o2 dIx (some x_held5) (some (.int 2))) (some x_pressures4) (some x_draws6)))).bind fun c => if c = true then
  (some (.bl false))
  else
  (c2 m_law_rings (some x_script) (c1 m_law_round (some x_script)))))))))))
end Mi
namespace Mi
open PySem L2
/-! cells and draws -/
def cell (ns : List Int) (k : Nat) : Int := ns.getD k 0
theorem cell_ok (ns : List Int) (k : Nat) : m_law_cell (.scr ns) (.int (k : Int)) = some (.int (cell ns k)) := by
  unfold m_law_cell cell
  by_cases h : k < ns.length
  · have h' : (k : Int) < (ns.length : Int) := by omega
    simp [h', atI_at h, h]
  · have h' : ¬ (k : Int) < (ns.length : Int) := by omega
    simp [h', h]
/-- numbers below their bounds -/
def Low : List Int → List Int → Prop
  | [], [] => True
  | x :: xs, b :: bs => (0 ≤ x ∧ x < b) ∧ Low xs bs
  | _, _ => False
theorem Low.len : ∀ {xs bs : List Int}, Low xs bs → xs.length = bs.length
  | [], [], _ => rfl
  | _ :: _, _ :: _, h => by simp [Low.len h.2]
theorem Low.snoc : ∀ {xs bs : List Int} {x b : Int}, Low xs bs → 0 ≤ x → x < b → Low (xs ++ [x]) (bs ++ [b])
  | [], [], x, b, _, h1, h2 => ⟨⟨h1, h2⟩, trivial⟩
  | _ :: _, _ :: _, x, b, h, h1, h2 => ⟨h.1, h.2.snoc h1 h2⟩
theorem p18 : (10 : Int) ^ 18 = 1000000000000000000 := by simp
theorem p40 : (10 : Int) ^ 40 = 10000000000000000000000000000000000000000 := by simp
theorem ten18 : dPow (.int 10) (.int 18) = some (.int 1000000000000000000) := by
  rw [dPow_ii ⟨by omega, by omega, by omega⟩, show (18 : Int).toNat = 18 from rfl, p18]
theorem ten40 : dPow (.int 10) (.int 40) = some (.int 10000000000000000000000000000000000000000) := by
  rw [dPow_ii ⟨by omega, by omega, by omega⟩, show (40 : Int).toNat = 40 from rfl, p40]
theorem dAdd_ss {a b : Str} (h : a.length + b.length ≤ 16777216) : dAdd (.str a) (.str b) = some (.str (a ++ b)) := if_pos h
theorem dIx_str {z : Str} (h : z.length ≤ 16777216) (i : Int) : dIx (.str z) (.int i) = (atI z.cps.toList i).map chr1 := if_pos h
theorem draw_ok (c : Int) (bs : List Int) (hb : ∀ b ∈ bs, 0 < b ∧ b < 1073741824) (hl : bs.length ≤ 100000) : ∃ xs : List Int, m_law_draw (.int c) (.lst (bs.map D.int)) = some (.lst (xs.map D.int)) ∧ Low xs bs := by
  have hr : dRange1 [.int ((bs.map D.int).length : Nat)] = some (ranged 0 (bs.length : Nat)) := by rw [dRange1_s (by rw [List.length_map]; omega), List.length_map]
  have hlen : (ranged 0 (bs.length : Nat)).length = bs.length := by rw [ranged_len]; omega
  obtain ⟨b', e, r, xs, hbx, hlow⟩ := foldO_inv0 (f := m_law_draw_L1 (.int c) (.lst (bs.map D.int)))
    (fun i b => ∃ (r : Int) (xs : List Int), b = (.int r, .lst (xs.map D.int)) ∧ Low xs (bs.take i))
    (ranged 0 (bs.length : Nat)) (.int (c - 1000000000000000000), .lst []) ⟨_, [], rfl, by simp [Low]⟩ (fun i hi b ⟨r, xs, hbx, hlow⟩ => by
      subst hbx
      rw [hlen] at hi
      have e0 : (ranged 0 (bs.length : Nat))[i]'(by rw [hlen]; exact hi) = .int (i : Int) := by rw [ranged_get]; simp
      have hib : dIx (.lst (bs.map D.int)) (.int (i : Int)) = some (.int bs[i]) := by
        rw [dIx_lst, atI_at (by simpa using hi)]; simp
      obtain ⟨p1, p2⟩ := hb bs[i] (List.getElem_mem hi)
      have hxl : (xs.map D.int).length < 16777216 := by
        have := hlow.len
        rw [List.length_map]
        simp at this
        omega
      have tk : bs.take (i + 1) = bs.take i ++ [bs[i]] := by rw [List.take_succ_eq_append_getElem hi]
      have low : ∀ z : Int, Low (xs ++ [z % bs[i]]) (bs.take (i + 1)) := fun z => by
        rw [tk]
        exact hlow.snoc (Int.emod_nonneg _ (by omega)) (Int.emod_lt_of_pos _ p1)
      rw [e0]
      unfold m_law_draw_L1
      by_cases hc : (1000000000000000000 : Int) ≤ c
      · refine ⟨_, ?_, r / bs[i], xs ++ [r % bs[i]], rfl, low r⟩
        simp [ten18, hc, hib, dMod_ii p1, dApp_s hxl, dDiv_ii p1 p2]
      · refine ⟨_, ?_, r, xs ++ [((((c % 1000003 * 48271 + (i : Int) * 69621 + 11) % 2147483647) * 16807 + (i : Int)) % 2147483647) / 7 % bs[i]], rfl, low _⟩
        simp only [o2_some, ten18, dGe_ii, hc, decide_false, o1_some, tru_bl, Option.bind_some, c1_s, dInt_i, hib]
        rw [if_neg (by decide)]
        rw [dMod_ii (by decide), o2_some, dMul_r (by decide), dMul_r (by decide)]
        simp only [o2_some, dAdd_ii, c1_s, dInt_i, Option.bind_some]
        rw [dMod_ii (by decide), Option.bind_some, dMul_r (by decide)]
        simp only [o2_some, dAdd_ii, c1_s, dInt_i, Option.bind_some]
        rw [dMod_ii (by decide), Option.bind_some, dDiv_ii (by decide) (by decide)]
        simp only [o2_some, dAdd_ii, c1_s, dInt_i, Option.bind_some]
        rw [dMod_ii p1, Option.bind_some, dApp_s hxl]
        simp)
  subst hbx
  rw [hlen, List.take_length] at hlow
  refine ⟨xs, ?_, hlow⟩
  unfold m_law_draw
  rw [List.length_map] at hr
  have h0 : dLst [] = some (.lst []) := dLst_s (Nat.zero_le _)
  simp only [o1_some, h0, Option.bind_some, o2_some, ten18, dSub_ii, c1_s, dLen_lst, oCons_some, List.length_map, hr, e]
/-! the table test, twice -/
/-- it has a type -/
def ty (d : D) : Bool := (tyN d).isSome
def okI (l m : Int) : D → Bool
  | .int i => decide (l ≤ i) && decide (i ≤ m)
  | _ => false
theorem isint_ok {d : D} (h : ty d = true) : m_is_integer d = some (.bl (match d with | .int _ => true | _ => false)) := by
  cases d <;> simp [ty, tyN] at h <;> simp [m_is_integer, dIsi, tyN, known, isB, dBl]
theorem between_ok {d : D} {l m : Int} (h : ty d = true) : m_is_between d (.int l) (.int m) = some (.bl (okI l m d)) := by
  unfold m_is_between
  simp only [c1_s, isint_ok h]
  cases d <;> simp [okI]
  rename_i i
  by_cases h1 : l ≤ i <;> simp [h1]
def asSeq : D → Option (List D)
  | .lst ds => some ds
  | .tup ds => some ds
  | .scr ns => some (ns.map D.int)
  | _ => none
def tabB (d : D) (s l m : Int) : Bool := match asSeq d with
  | some ds => decide ((ds.length : Int) = s) && ds.all (okI l m)
  | none => false
theorem eqI (a b : Int) : dEq (.int a) (.int b) = some (.bl (decide (a = b))) := id rfl
theorem neI (a b : Int) : dNe (.int a) (.int b) = some (.bl (!decide (a = b))) := id rfl
theorem eqBl (a b : Bool) : dEq (.bl a) (.bl b) = some (.bl (decide (a = b))) := by cases a <;> cases b <;> rfl
/-- what is equal to itself -/
def Self (k : Nat) (d : D) : Prop := ∃ p, py d = some p ∧ p.canLay0 = true ∧ p.depth ≤ k ∧ PyData.eqv p p = true
theorem self_int (k : Nat) (a : Int) : Self k (.int a) := ⟨.int a, rfl, rfl, Nat.zero_le _, by show decide (a = a) = true; simp⟩
theorem self_bl (k : Nat) (a : Bool) : Self k (.bl a) := ⟨.bool a, rfl, rfl, Nat.zero_le _, by cases a <;> rfl⟩
theorem self_non (k : Nat) : Self k .non := ⟨.none, rfl, rfl, Nat.zero_le _, rfl⟩
theorem selfs {k : Nat} : ∀ {ds : List D}, (∀ d ∈ ds, Self k d) → ∃ ps, pys ds = some ps ∧ PyData.canLayAll0 ps = true ∧ PyData.depthAll ps ≤ k ∧ PyData.eqvAll ps ps = true
  | [], _ => ⟨[], rfl, rfl, Nat.zero_le _, rfl⟩
  | d :: ds, h => by
    obtain ⟨p, a, b, c, e⟩ := h d (by simp)
    obtain ⟨ps, a2, b2, c2, e2⟩ := selfs (ds := ds) fun x hx => h x (by simp [hx])
    refine ⟨p :: ps, by simp [pys, a, a2], by simp [PyData.canLayAll0, b, b2], by simp only [PyData.depthAll]; omega, by simp [PyData.eqvAll, e, e2]⟩
theorem self_lst {k : Nat} {ds : List D} (h : ∀ d ∈ ds, Self k d) : Self (k + 1) (.lst ds) := by
  obtain ⟨ps, a, b, c, e⟩ := selfs h
  exact ⟨.list ps, by simp [py, a], by simp only [PyData.canLay0]; exact b, by simp only [PyData.depth]; omega, by simp only [PyData.eqv]; exact e⟩
theorem self_ne {k : Nat} {d : D} (h : Self k d) (hk : k ≤ 64) : dNe d d = some (.bl false) := by
  obtain ⟨p, a, b, c, e⟩ := h
  have hs : SeqAt.shaped p = true := by unfold SeqAt.shaped; rw [b]; simp; omega
  unfold dNe dEqB
  simp [a, hs, e]
theorem table_ok {d : D} {s l m : Int} (ht : ty d = true) (hd : ∀ ds, asSeq d = some ds → (∀ e ∈ ds, ty e = true) ∧ ds.length ≤ 16777216) : m_is_table d (.int s) (.int l) (.int m) = some (.bl (tabB d s l m)) := by
  have seq : ∀ ds, asSeq d = some ds → (∀ e ∈ ds, ty e = true) ∧ ds.length ≤ 16777216 → dItems d = some ds → dLen d = some (.int ds.length) → dIsi2 "list" "tuple" d = some (.bl true) → m_is_table d (.int s) (.int l) (.int m) = some (.bl (tabB d s l m)) := fun ds hds ⟨h1, h2⟩ hi hl hty => by
    unfold m_is_table tabB
    simp only [hty, hi, hl, hds, o1_some, tru_bl, oNot_s, Bool.not_true, oOr_f, c1_s, o2_some, neI, Option.bind_some]
    by_cases hs : (ds.length : Int) = s
    · simp only [hs, decide_true, Bool.not_true, Bool.true_and]
      rw [if_neg (by decide)]
      rw [loopO_all (p := okI l m) (r := .bl false) fun e he => ?_]
      · simp only [Option.bind_some]
        cases hq : ds.all (okI l m) <;> simp [Out.thnD]
      · unfold m_is_table_L1
        simp only [c3_s, between_ok (h1 e he), o1_some, tru_bl, oNot_s, Option.bind_some]
        cases okI l m e <;> simp
    · simp [hs]
  cases d with
  | lst ds => exact seq ds rfl (hd ds rfl) rfl rfl rfl
  | tup ds => exact seq ds rfl (hd ds rfl) rfl rfl rfl
  | scr ns => exact seq (ns.map D.int) rfl (hd _ rfl) rfl (by simp) rfl
  | _ => first | (simp [m_is_table, dIsi2, tyN, known, isB, tabB, asSeq]; done) | (simp [ty, tyN] at ht)
end Mi
namespace Mi
open PySem L2
theorem low_rep : ∀ {xs : List Int} {n : Nat} {b : Int}, Low xs (List.replicate n b) → ∀ x ∈ xs, 0 ≤ x ∧ x < b
  | [], _, _, _, x, hx => by cases hx
  | y :: ys, 0, b, h, x, hx => by cases h
  | y :: ys, n + 1, b, h, x, hx => by
    rw [List.replicate_succ] at h
    obtain ⟨h1, h2⟩ := h
    rcases List.mem_cons.mp hx with z | z
    · rw [z]; exact h1
    · exact low_rep h2 x z
theorem rep_ok {b n : Int} (h0 : 0 ≤ n) (hn : n ≤ 100000) : dMul (.lst [.int b]) (.int n) = some (.lst ((List.replicate n.toNat b).map D.int)) := by
  have : (List.replicate n.toNat [D.int b]).flatten = (List.replicate n.toNat b).map D.int := by
    rw [List.map_replicate, List.flatten_replicate_singleton]
  rw [← this]
  exact if_pos ⟨by omega, by omega, by simp; omega⟩
theorem numbers_ok (c n l m : Int) (h0 : 0 ≤ n) (hn : n ≤ 1000) (hlm : l ≤ m) (hm : m - l < 1000000) : ∃ xs : List Int, m_law_numbers (.int c) (.int n) (.int l) (.int m) = some (.lst (xs.map D.int)) ∧ xs.length = n.toNat ∧ ∀ x ∈ xs, l ≤ x ∧ x ≤ m := by
  obtain ⟨vs, hd, hl⟩ := draw_ok c (List.replicate n.toNat (m - l + 1)) (by intro b hb; rw [List.mem_replicate] at hb; omega) (by rw [List.length_replicate]; omega)
  have hvl : vs.length = n.toNat := by rw [hl.len, List.length_replicate]
  refine ⟨vs.map fun v => l + v, ?_, by rw [List.length_map, hvl], fun x hx => ?_⟩
  · unfold m_law_numbers
    have k3 : ∀ d : D, dLst [d] = some (.lst [d]) := fun d => dLst_s (by simp)
    have e1 : (o2 dMul (o1 dLst (oCons (o2 dAdd (o2 dSub (some (.int m)) (some (.int l))) (some (.int 1))) (some []))) (some (.int n))) = some (.lst ((List.replicate n.toNat (m - l + 1)).map D.int)) := by
      rw [o2_some, dSub_ii, o2_some, dAdd_ii, oCons_some, o1_some, k3, o2_some]
      exact rep_ok h0 (by omega)
    rw [e1, Option.bind_some, c2_s, hd, o1_some, dItems_lst, Option.bind_some]
    rw [dComp_map (g := fun d => match d with | .int v => .int (l + v) | _ => .non) (by rw [List.length_map]; omega)]
    · simp [List.map_map, Function.comp_def]
    · intro d hd
      obtain ⟨v, _, rfl⟩ := List.mem_map.mp hd
      unfold m_law_numbers_C1
      simp
  · obtain ⟨v, hv, rfl⟩ := List.mem_map.mp hx
    have := low_rep hl v hv
    omega
/-- a duct that a building takes -/
def DuctOk (n : Int) (d : D) : Prop := ∃ a b w : Int, d = .tup [.int a, .int b, .int w] ∧ 0 ≤ a ∧ a < n ∧ 0 ≤ b ∧ b < n ∧ a ≠ b ∧ 1 ≤ w ∧ w ≤ 6
theorem ducts_ok {ds : List D} {n : Int} (hn : n ≤ 8) (hl : ds.length ≤ 16) (h : ∀ d ∈ ds, DuctOk n d) : m_are_ducts (.lst ds) (.int n) = some (.bl true) := by
  unfold m_are_ducts
  have hty : dIsi2 "list" "tuple" (.lst ds) = some (.bl true) := rfl
  have hl' : ¬ (16 : Int) < (ds.length : Int) := by omega
  simp only [hty, o1_some, tru_bl, oNot_s, Bool.not_true, oOr_f, c1_s, dLen_lst, o2_some, dGt_ii, hl', decide_false, Option.bind_some, Bool.false_eq_true, if_false, dItems_lst]
  rw [loopO_all (p := fun _ => true) (r := .non) fun d hd => ?_]
  · simp [Out.thnD]
  · obtain ⟨a, b, w, rfl, h1, h2, h3, h4, h5, h6, h7⟩ := h d hd
    unfold m_are_ducts_L1
    have ht := table_ok (d := .tup [.int a, .int b, .int w]) (s := 3) (l := 0) (m := 8) rfl (fun es he => by
      simp [asSeq] at he; subst he
      exact ⟨fun e he => by simp at he; rcases he with z | z | z <;> subst z <;> rfl, by simp⟩)
    have hb : tabB (.tup [.int a, .int b, .int w]) 3 0 8 = true := by
      simp [tabB, asSeq, okI]; omega
    rw [hb] at ht
    have n1 : ¬ n ≤ a := by omega
    have n2 : ¬ n ≤ b := by omega
    simp only [c4_s, ht, o1_some, tru_bl, oNot_s, Bool.not_true, Option.bind_some, Bool.false_eq_true, if_false, un3_t, o2_some, dGe_ii, n1, n2, decide_false, oOr_f, eqI, h5, oChain_s, dLe_ii, h6, h7, decide_true, if_true]
end Mi
namespace Mi
open PySem L2
/-! tables of numbers -/
def up (G : List (List Int)) : List (List D) := G.map fun r => r.map D.int
def bump (G : List (List Int)) (a b : Nat) (w : Int) : List (List Int) := G.modify a fun r => r.modify b fun x => x + w
def Sq (n : Nat) (G : List (List Int)) : Prop := G.length = n ∧ ∀ r ∈ G, r.length = n
theorem Sq.bump {n : Nat} {G : List (List Int)} (h : Sq n G) (a b : Nat) (w : Int) : Sq n (bump G a b w) := by
  refine ⟨by simp [Mi.bump, h.1], fun r hr => ?_⟩
  obtain ⟨k, hk, hkr⟩ := List.getElem_of_mem hr
  unfold Mi.bump at hkr hk
  rw [List.getElem_modify] at hkr
  have hl : k < G.length := by simpa using hk
  split at hkr
  · rw [← hkr, List.length_modify]; exact h.2 _ (List.getElem_mem hl)
  · rw [← hkr]; exact h.2 _ (List.getElem_mem hl)
theorem ixN_nat {n a : Nat} (h : a < n) : ixN n (a : Int) = some a := by
  unfold ixN
  rw [if_pos (by omega), if_pos (by omega)]; simp
theorem nest_ok {n : Nat} {G : List (List Int)} (h : Sq n G) {a b : Nat} (ha : a < n) (hb : b < n) (w : Int) : dNest (up G) (.int (a : Int)) (.int (b : Int)) (.int w) = some (up (bump G a b w)) := by
  have hal : a < G.length := by rw [h.1]; exact ha
  have hrl : G[a].length = n := h.2 _ (List.getElem_mem hal)
  have hbl : b < G[a].length := by rw [hrl]; exact hb
  have e1 : (up G).length = n := by simp [up, h.1]
  have e2 : (up G)[a]? = some (G[a].map D.int) := by simp [up, hal]
  have e3 : (G[a].map D.int)[b]? = some (.int G[a][b]) := by simp [hbl]
  show (ixN (up G).length (a : Int)).bind _ = _
  rw [e1, ixN_nat ha, Option.bind_some, e2, Option.bind_some, List.length_map, hrl, ixN_nat hb, Option.bind_some, e3, Option.bind_some]
  show some _ = some _
  congr 1
  apply List.ext_getElem
  · simp [up, bump]
  · intro k h1 h2
    simp only [up, bump, List.getElem_set, List.getElem_map, List.getElem_modify]
    by_cases hk : a = k
    · subst hk
      simp only [if_true]
      apply List.ext_getElem
      · simp
      · intro j j1 j2
        simp only [List.getElem_set, List.getElem_map, List.getElem_modify]
        by_cases hj : b = j
        · subst hj; simp
        · simp [hj]
    · simp [hk]
def dct (x : Nat × Nat × Int) : D := .tup [.int (x.1 : Int), .int (x.2.1 : Int), .int x.2.2]
def step2 (G : List (List Int)) (x : Nat × Nat × Int) : List (List Int) := bump (bump G x.1 x.2.1 x.2.2) x.2.1 x.1 x.2.2
theorem fold_ok {n : Nat} : ∀ {xs : List (Nat × Nat × Int)} {G : List (List Int)}, Sq n G → (∀ x ∈ xs, x.1 < n ∧ x.2.1 < n) → foldO (fun dss d => un3 d (m_width_table_G dss)) (xs.map dct) (up G) = some (up (xs.foldl step2 G)) ∧ Sq n (xs.foldl step2 G)
  | [], G, h, _ => ⟨rfl, h⟩
  | x :: xs, G, h, hx => by
    obtain ⟨h1, h2⟩ := hx x (by simp)
    have q1 := nest_ok h h1 h2 x.2.2
    have s1 := h.bump x.1 x.2.1 x.2.2
    have q2 := nest_ok s1 h2 h1 x.2.2
    have s2 := s1.bump x.2.1 x.1 x.2.2
    obtain ⟨e, f⟩ := fold_ok (xs := xs) s2 fun y hy => hx y (by simp [hy])
    refine ⟨?_, f⟩
    rw [List.map_cons, foldO_cons]
    have e1 : un3 (dct x) (m_width_table_G (up G)) = some (up (step2 G x)) := by
      show m_width_table_G (up G) _ _ _ = _
      unfold m_width_table_G
      rw [Option.bind_some, Option.bind_some, Option.bind_some, q1, Option.bind_some, Option.bind_some, Option.bind_some, Option.bind_some, q2, Option.bind_some]
      rfl
    rw [e1, Option.bind_some]
    exact e
def wid (n : Nat) (xs : List (Nat × Nat × Int)) : List (List Int) := xs.foldl step2 (List.replicate n (List.replicate n 0))
theorem sq0 (n : Nat) : Sq n (List.replicate n (List.replicate n 0)) := ⟨by simp, fun r hr => by rw [(List.mem_replicate.mp hr).2]; simp⟩
theorem wid_sq {n : Nat} {xs : List (Nat × Nat × Int)} (hx : ∀ x ∈ xs, x.1 < n ∧ x.2.1 < n) : Sq n (wid n xs) := (fold_ok (sq0 n) hx).2
theorem width_ok {n : Nat} {xs : List (Nat × Nat × Int)} (hn : n ≤ 1000) (hx : ∀ x ∈ xs, x.1 < n ∧ x.2.1 < n) : m_width_table (.int (n : Int)) (.tup (xs.map dct)) = some (.tup ((wid n xs).map fun r => .tup (r.map D.int))) := by
  unfold m_width_table
  have g : dGrid (.int (n : Int)) = some (up (List.replicate n (List.replicate n 0))) := by
    show (if _ then _ else _) = _
    rw [if_pos ⟨by omega, by omega⟩]
    simp [up]
  obtain ⟨e, f⟩ := fold_ok (sq0 n) hx
  rw [g, Option.bind_some, o1_some, dItems_tup, Option.bind_some, e, Option.bind_some, o1_some, dItems_lst, Option.bind_some]
  rw [dComp_map (g := fun d => match d with | .lst r => .tup r | _ => .non) (by rw [List.length_map]; simp only [up, List.length_map]; have := f.1; omega)]
  · rw [c1_s]
    show some _ = some _
    simp [up, wid, List.map_map, Function.comp_def]
  · intro d hd
    obtain ⟨r, _, rfl⟩ := List.mem_map.mp hd
    rfl
def bld (n : Nat) (xs : List (Nat × Nat × Int)) : D := .obj "Building" ["rooms", "ducts", "_widths"] [.int (n : Int), .tup (xs.map dct), .tup ((wid n xs).map fun r => .tup (r.map D.int))]
theorem rd_ : ¬ (("rooms" : Str) = "ducts") := by decide +kernel
theorem rw_ : ¬ (("rooms" : Str) = "_widths") := by decide +kernel
theorem dw_ : ¬ (("ducts" : Str) = "_widths") := by decide +kernel
theorem dSetF_s {c f : Str} {ns : List Str} {ds : List D} {e : D} (h1 : ns.length = ds.length) (h2 : ns.length < 1000) : dSetF c f (.obj c ns ds) e = some (.obj c (putKD ns ds f e).1 (putKD ns ds f e).2) := if_pos ⟨rfl, h1, h2⟩
theorem dFld_s {c f : Str} {ns : List Str} {ds : List D} : dFld c f (.obj c ns ds) = look ns ds f := if_pos rfl
theorem set1 (a : D) : dSetF "Building" "rooms" (.obj "Building" [] []) a = some (.obj "Building" ["rooms"] [a]) := by
  rw [dSetF_s rfl (by decide)]
  rfl
theorem set2 (a b : D) : dSetF "Building" "ducts" (.obj "Building" ["rooms"] [a]) b = some (.obj "Building" ["rooms", "ducts"] [a, b]) := by
  rw [dSetF_s rfl (by decide)]
  simp [putKD, rd_]
theorem set3 (a b c : D) : dSetF "Building" "_widths" (.obj "Building" ["rooms", "ducts"] [a, b]) c = some (.obj "Building" ["rooms", "ducts", "_widths"] [a, b, c]) := by
  rw [dSetF_s rfl (by decide)]
  simp [putKD, rw_, dw_]
theorem fld1 (a : D) (ns : List Str) (ds : List D) : dFld "Building" "rooms" (.obj "Building" ("rooms" :: ns) (a :: ds)) = some a := by
  rw [dFld_s]
  simp [look]
theorem fld2 (a b : D) (ns : List Str) (ds : List D) : dFld "Building" "ducts" (.obj "Building" ("rooms" :: "ducts" :: ns) (a :: b :: ds)) = some b := by
  rw [dFld_s]
  simp [look, rd_]
theorem fld3 (a b c : D) : dFld "Building" "_widths" (.obj "Building" ["rooms", "ducts", "_widths"] [a, b, c]) = some c := by
  rw [dFld_s]
  simp [look, rw_, dw_]
def DOk (n : Nat) (x : Nat × Nat × Int) : Prop := x.1 < n ∧ x.2.1 < n ∧ x.1 ≠ x.2.1 ∧ 1 ≤ x.2.2 ∧ x.2.2 ≤ 6
theorem building_ok {n : Nat} {xs : List (Nat × Nat × Int)} (h1 : 1 ≤ n) (h8 : n ≤ 8) (hl : xs.length ≤ 16) (hx : ∀ x ∈ xs, DOk n x) : dMake "Building" (f3 m_Building_init) [.int (n : Int), .lst (xs.map dct)] = some (bld n xs) := by
  have hb : m_is_between (.int (n : Int)) (.int 1) (.int 8) = some (.bl true) := by
    rw [between_ok rfl]
    have : okI 1 8 (.int (n : Int)) = true := by simp [okI]; omega
    rw [this]
  have hd : m_are_ducts (.lst (xs.map dct)) (.int (n : Int)) = some (.bl true) := ducts_ok (by omega) (by rw [List.length_map]; exact hl) fun d hd => by
    obtain ⟨x, hm, rfl⟩ := List.mem_map.mp hd
    obtain ⟨a1, a2, a3, a4, a5⟩ := hx x hm
    exact ⟨_, _, _, rfl, by omega, by omega, by omega, by omega, by omega, a4, a5⟩
  have req : ∀ s : Str, m_require (.bl true) (.str s) = some .non := fun s => rfl
  have hc : dComp m_Building_init_C1 (xs.map dct) = some (.lst (xs.map dct)) := by
    rw [dComp_map (g := id) (by rw [List.length_map]; omega)]
    · simp
    · intro d hd
      obtain ⟨x, _, rfl⟩ := List.mem_map.mp hd
      rfl
  have hw := width_ok (n := n) (xs := xs) (by omega) fun x hm => ⟨(hx x hm).1, (hx x hm).2.1⟩
  have hi : m_Building_init (.obj "Building" [] []) (.int (n : Int)) (.lst (xs.map dct)) = some (.non, [(0, bld n xs)]) := by
    unfold m_Building_init
    rw [c3_s, hb, c2_s, req, Option.bind_some, c2_s, hd, c2_s, req, Option.bind_some, Option.bind_some, set1, Option.bind_some, o1_some, dItems_lst, Option.bind_some, hc, c1_s]
    rw [show dTuple (.lst (xs.map dct)) = some (.tup (xs.map dct)) from rfl, Option.bind_some, set2, Option.bind_some, o1_some, fld1, o1_some, fld2, c2_s, hw, Option.bind_some, set3, Option.bind_some]
    rfl
  unfold dMake
  rw [f3_s, hi, Option.bind_some]
  rfl
end Mi
namespace Mi
open PySem L2
/-! the bounds of the ducts' draws -/
def bnds (n m : Int) : Nat → List Int
  | 0 => []
  | k + 1 => bnds n m k ++ [840, 2 * (n - 1), m]
theorem bnds_len (n m : Int) : ∀ k, (bnds n m k).length = 3 * k
  | 0 => rfl
  | k + 1 => by simp [bnds, bnds_len n m k]; omega
theorem bnds_mem {n m : Int} (hn : 2 ≤ n ∧ n ≤ 1000) (hm : 1 ≤ m ∧ m ≤ 1000) : ∀ (k : Nat), ∀ b ∈ bnds n m k, 0 < b ∧ b < 1073741824
  | 0, b, hb => by cases hb
  | k + 1, b, hb => by
    rcases List.mem_append.mp hb with z | z
    · exact bnds_mem hn hm k b z
    · simp only [List.mem_cons, List.not_mem_nil, or_false] at z
      rcases z with z | z | z <;> subst z <;> omega
theorem bounds_ok (n m : Int) (k : Nat) (hk : k ≤ 1000) : foldO (m_law_ducts_L1 (.int n) (.int m)) (ranged 0 (k : Int)) (.lst []) = some (.lst ((bnds n m k).map D.int)) := by
  have hlen : (ranged 0 (k : Int)).length = k := by rw [ranged_len]; omega
  obtain ⟨b', e, hb⟩ := foldO_inv0 (f := m_law_ducts_L1 (.int n) (.int m)) (fun i b => b = .lst ((bnds n m i).map D.int)) (ranged 0 (k : Int)) (.lst []) rfl (fun i hi b hb => by
    subst hb
    rw [hlen] at hi
    refine ⟨_, ?_, rfl⟩
    unfold m_law_ducts_L1
    have k5 : ∀ d e f : D, dLst [d, e, f] = some (.lst [d, e, f]) := fun d e f => dLst_s (by simp)
    rw [o2_some, dSub_ii, o2_some, dMul_l (by decide), oCons_some, oCons_some, oCons_some, o1_some, k5, o2_some]
    have ad : dAdd (.lst ((bnds n m i).map D.int)) (.lst [.int 840, .int (2 * (n - 1)), .int m]) = some (.lst ((bnds n m (i + 1)).map D.int)) := by
      refine (if_pos ?_).trans ?_
      · rw [List.length_map, bnds_len]; simp; omega
      · simp [bnds]
    rw [ad, Option.bind_some])
  rw [e, hb, hlen]
theorem Low.at : ∀ {xs bs : List Int} (h : Low xs bs) (j : Nat) (b : Int), bs[j]? = some b → ∃ x, xs[j]? = some x ∧ 0 ≤ x ∧ x < b
  | [], [], _, j, b, hb => by simp at hb
  | x :: xs, c :: bs, h, 0, b, hb => by
    simp at hb; subst hb
    exact ⟨x, rfl, h.1.1, h.1.2⟩
  | x :: xs, c :: bs, h, j + 1, b, hb => by
    simpa using Low.at h.2 j b (by simpa using hb)
theorem bnds_at (n m : Int) : ∀ (k i : Nat), i < k → (bnds n m k)[3 * i]? = some 840 ∧ (bnds n m k)[3 * i + 1]? = some (2 * (n - 1)) ∧ (bnds n m k)[3 * i + 2]? = some m
  | 0, i, h => by omega
  | k + 1, i, h => by
    by_cases hi : i < k
    · obtain ⟨a, b, c⟩ := bnds_at n m k i hi
      have hl := bnds_len n m k
      unfold bnds
      rw [List.getElem?_append_left (by omega), List.getElem?_append_left (by omega), List.getElem?_append_left (by omega)]
      exact ⟨a, b, c⟩
    · have e : i = k := by omega
      subst e
      have hl := bnds_len n m i
      unfold bnds
      rw [List.getElem?_append_right (by omega), List.getElem?_append_right (by omega), List.getElem?_append_right (by omega), hl]
      refine ⟨?_, ?_, ?_⟩
      · rw [show 3 * i - 3 * i = 0 by omega]; rfl
      · rw [show 3 * i + 1 - 3 * i = 1 by omega]; rfl
      · rw [show 3 * i + 2 - 3 * i = 2 by omega]; rfl
theorem draws_at {xs : List Int} {n m : Int} {k i : Nat} (h : Low xs (bnds n m k)) (hi : i < k) : ∃ p q r : Int, dIx (.lst (xs.map D.int)) (.int (3 * (i : Int))) = some (.int p) ∧ dIx (.lst (xs.map D.int)) (.int (3 * (i : Int) + 1)) = some (.int q) ∧ dIx (.lst (xs.map D.int)) (.int (3 * (i : Int) + 2)) = some (.int r) ∧ (0 ≤ p ∧ p < 840) ∧ (0 ≤ q ∧ q < 2 * (n - 1)) ∧ 0 ≤ r ∧ r < m := by
  obtain ⟨a, b, c⟩ := bnds_at n m k i hi
  obtain ⟨p, p1, p2⟩ := h.at _ _ a
  obtain ⟨q, q1, q2⟩ := h.at _ _ b
  obtain ⟨r, r1, r2⟩ := h.at _ _ c
  have f : ∀ (j : Nat) (x : Int), xs[j]? = some x → dIx (.lst (xs.map D.int)) (.int (j : Int)) = some (.int x) := fun j x hx => by
    rw [dIx_lst]
    exact atI_nat (by simp [hx])
  refine ⟨p, q, r, ?_, ?_, ?_, p2, q2, r2⟩
  · exact f (3 * i) p p1
  · exact f (3 * i + 1) q q1
  · exact f (3 * i + 2) r r1
theorem mkduct (a b : Nat) (w : Int) : o1 dTup (oCons (some (.int (a : Int))) (oCons (some (.int (b : Int))) (oCons (some (.int w)) (some [])))) = some (dct (a, b, w)) := by
  rw [oCons_some, oCons_some, oCons_some, o1_some, dTup_s (by simp)]; rfl
theorem duct_step {xs : List Int} {N : Nat} {m : Int} {k i : Nat} {j : Int} {ds : List D} (hN : 2 ≤ N ∧ N ≤ 8) (hj : j ≤ (N : Int) - 1) (hm : m ≤ 6) (h : Low xs (bnds (N : Int) m k)) (hi : i < k) (hl : ds.length < 1000) (hik : i < 1000) :
    ∃ x : Nat × Nat × Int, m_law_ducts_L2 (.lst (xs.map D.int)) (.int (N : Int)) (.int j) (.lst ds) (.int (i : Int)) = some (.lst (ds ++ [dct x])) ∧ DOk N x := by
  obtain ⟨p, q, r, hp, hq, hr, ⟨p1, p2⟩, ⟨q1, q2⟩, r1, r2⟩ := draws_at h hi
  have np : (0 : Int) < (N : Int) := by omega
  have i1 : (0 : Int) < (i : Int) + 1 := by omega
  have e3 : dMul (.int 3) (.int (i : Int)) = some (.int (3 * (i : Int))) := dMul_l (by decide)
  have fin : ∀ (a b : Nat), DOk N (a, b, r + 1) → ∃ x : Nat × Nat × Int, ((o1 dTup (oCons (some (.int (a : Int))) (oCons (some (.int (b : Int))) (oCons (some (.int (r + 1))) (some []))))).bind fun e => dApp (.lst ds) e) = some (.lst (ds ++ [dct x])) ∧ DOk N x := fun a b hab => ⟨(a, b, r + 1), by rw [mkduct, Option.bind_some, dApp_s (by omega)], hab⟩
  have q3 : 0 ≤ q / 2 ∧ q / 2 < (N : Int) - 1 := ⟨by omega, by omega⟩
  unfold m_law_ducts_L2
  simp only [o2_some, e3, hp, c1_s, dInt_i, dMod_ii np, Option.bind_some, dAdd_ii, hq, hr, dDiv_ii (show (0:Int) < 2 by decide) (show (2:Int) < 1073741824 by decide), dLt_ii, o1_some, tru_bl, dMod_ii i1, dMod_ii (show (0:Int) < 2 by decide), eqI]
  obtain ⟨a, ha⟩ : ∃ a : Nat, p % ((i : Int) + 1) = (a : Int) := ⟨_, (Int.toNat_of_nonneg (Int.emod_nonneg _ (by omega))).symm⟩
  have ha1 : p % ((i : Int) + 1) < (i : Int) + 1 := Int.emod_lt_of_pos _ i1
  obtain ⟨f, hf⟩ : ∃ f : Nat, p % (N : Int) = (f : Int) := ⟨_, (Int.toNat_of_nonneg (Int.emod_nonneg _ (by omega))).symm⟩
  have hf1 : p % (N : Int) < (N : Int) := Int.emod_lt_of_pos _ np
  obtain ⟨g, hg⟩ : ∃ g : Nat, (p % (N : Int) + 1 + q / 2) % (N : Int) = (g : Int) := ⟨_, (Int.toNat_of_nonneg (Int.emod_nonneg _ (by omega))).symm⟩
  have hg1 : (p % (N : Int) + 1 + q / 2) % (N : Int) < (N : Int) := Int.emod_lt_of_pos _ np
  have hne : g ≠ f := fun e => by
    by_cases hlt : p % (N : Int) + 1 + q / 2 < (N : Int)
    · rw [Int.emod_eq_of_lt (by omega) hlt] at hg
      omega
    · have e2 : p % (N : Int) + 1 + q / 2 = (p % (N : Int) + 1 + q / 2 - N) + N := by omega
      rw [e2, Int.add_emod_right, Int.emod_eq_of_lt (by omega) (by omega)] at hg
      omega
  have hi1 : ((i : Int) + 1) = ((i + 1 : Nat) : Int) := by omega
  by_cases hij : (i : Int) < j
  · by_cases hq2 : q % 2 = 1
    · simp only [hij, hq2, decide_true, if_true, Option.bind_some, ha]
      simp only [hi1]
      obtain ⟨x, e1, e2⟩ := fin a (i + 1) ⟨by (try dsimp only); omega, by (try dsimp only); omega, by (try dsimp only); omega, by (try dsimp only); omega, by (try dsimp only); omega⟩
      exact ⟨x, by rw [e1, Option.bind_some], e2⟩
    · simp only [hij, hq2, decide_true, decide_false, if_true, Bool.false_eq_true, if_false, Option.bind_some, ha]
      simp only [hi1]
      obtain ⟨x, e1, e2⟩ := fin (i + 1) a ⟨by (try dsimp only); omega, by (try dsimp only); omega, by (try dsimp only); omega, by (try dsimp only); omega, by (try dsimp only); omega⟩
      exact ⟨x, by rw [e1, Option.bind_some], e2⟩
  · rw [hg, hf]
    simp only [hij, decide_false, Bool.false_eq_true, if_false, Option.bind_some]
    obtain ⟨x, e1, e2⟩ := fin f g ⟨by (try dsimp only); omega, by (try dsimp only); omega, by (try dsimp only); omega, by (try dsimp only); omega, by (try dsimp only); omega⟩
    exact ⟨x, by rw [e1, Option.bind_some], e2⟩
theorem law_ducts_ok (c : Int) {N j e : Nat} {m : Int} (hN : 1 ≤ N ∧ N ≤ 8) (hj : j ≤ N - 1) (he : e ≤ 100) (hm : 1 ≤ m ∧ m ≤ 6) : ∃ xs : List (Nat × Nat × Int), m_law_ducts (.int c) (.int (N : Int)) (.int (j : Int)) (.int (e : Int)) (.int m) = some (.lst (xs.map dct)) ∧ xs.length ≤ j + e ∧ ∀ x ∈ xs, DOk N x := by
  have k0 : dLst [] = some (.lst []) := dLst_s (Nat.zero_le _)
  unfold m_law_ducts
  rw [o1_some, k0, Option.bind_some, o2_some, eqI, o1_some, tru_bl, Option.bind_some]
  by_cases h1 : (N : Int) = 1
  · exact ⟨[], by rw [if_pos (by simp [h1])]; rfl, Nat.zero_le _, fun x hx => by cases hx⟩
  · have h2 : 2 ≤ N := by omega
    rw [if_neg (by simp [h1])]
    have hsum : (j : Int) + (e : Int) = ((j + e : Nat) : Int) := by omega
    have hr : dRange1 [.int ((j + e : Nat) : Int)] = some (ranged 0 ((j + e : Nat) : Int)) := dRange1_s (by omega)
    obtain ⟨ds, hd, hlow⟩ := draw_ok c (bnds (N : Int) m (j + e)) (bnds_mem (by omega) (by omega) _) (by rw [bnds_len]; omega)
    have hlen : (ranged 0 ((j + e : Nat) : Int)).length = j + e := by rw [ranged_len]; omega
    obtain ⟨b', e1, xs, hb, hxl, hx⟩ := foldO_inv0 (f := m_law_ducts_L2 (.lst (ds.map D.int)) (.int (N : Int)) (.int (j : Int))) (fun i b => ∃ xs : List (Nat × Nat × Int), b = .lst (xs.map dct) ∧ xs.length = i ∧ ∀ x ∈ xs, DOk N x) (ranged 0 ((j + e : Nat) : Int)) (.lst []) ⟨[], rfl, rfl, fun x hx => by cases hx⟩ (fun i hi b ⟨xs, hb, hxl, hx⟩ => by
      subst hb
      have e0 : (ranged 0 ((j + e : Nat) : Int))[i] = .int (i : Int) := by rw [ranged_get]; simp
      rw [hlen] at hi
      obtain ⟨x, s1, s2⟩ := duct_step (ds := xs.map dct) (j := (j : Int)) ⟨h2, hN.2⟩ (by omega) hm.2 hlow hi (by rw [List.length_map]; omega) (by omega)
      rw [e0]
      refine ⟨_, s1, xs ++ [x], by simp, by simp [hxl], fun y hy => ?_⟩
      rcases List.mem_append.mp hy with z | z
      · exact hx y z
      · simp at z; subst z; exact s2)
    refine ⟨xs, ?_, by rw [hxl, hlen]; exact Nat.le_refl _, hx⟩
    rw [Option.bind_some, o2_some, dAdd_ii, hsum, oCons_some, o1_some, hr, Option.bind_some, bounds_ok _ _ _ (by omega), Option.bind_some, c2_s, hd, Option.bind_some, Option.bind_some, e1, hb, Option.bind_some]
theorem plan_ok (ns : List Int) (t : Nat) {mr me : Nat} {mw : Int} (h1 : 1 ≤ mr ∧ mr ≤ 8) (h2 : me ≤ 100) (h3 : 1 ≤ mw ∧ mw ≤ 6) : ∃ (N : Nat) (xs : List (Nat × Nat × Int)), m_law_plan (.scr ns) (.int (t : Int)) (.int (mr : Int)) (.int (me : Int)) (.int mw) = some (.lst [.int (N : Int), .lst (xs.map dct)]) ∧ (1 ≤ N ∧ N ≤ mr) ∧ xs.length ≤ N - 1 + me ∧ ∀ x ∈ xs, DOk N x := by
  obtain ⟨hs, hd, hl⟩ := draw_ok (cell ns t) [(mr : Int), (me : Int) + 1, 4] (by intro b hb; simp at hb; rcases hb with z | z | z <;> subst z <;> omega) (by simp)
  match hs, hl with
  | [a, b, c], hl =>
  obtain ⟨⟨a0, a1⟩, ⟨b0, b1⟩, ⟨c0, c1'⟩, _⟩ := hl
  obtain ⟨A, rfl⟩ : ∃ A : Nat, a = (A : Int) := ⟨a.toNat, (Int.toNat_of_nonneg a0).symm⟩
  obtain ⟨B, rfl⟩ : ∃ B : Nat, b = (B : Int) := ⟨b.toNat, (Int.toNat_of_nonneg b0).symm⟩
  have hd' : m_law_draw (.int (cell ns t)) (.lst [.int (mr : Int), .int ((me : Int) + 1), .int 4]) = some (.lst [.int (A : Int), .int (B : Int), .int c]) := hd
  have k5 : ∀ d e f : D, dLst [d, e, f] = some (.lst [d, e, f]) := fun d e f => dLst_s (by simp)
  have k4 : ∀ d e : D, dLst [d, e] = some (.lst [d, e]) := fun d e => dLst_s (by simp)
  have cc := cell_ok ns (t + 1)
  have ct : ((t : Int) + 1) = ((t + 1 : Nat) : Int) := by omega
  have hA : (A : Int) + 1 = ((A + 1 : Nat) : Int) := by omega
  have hJ : ((A + 1 : Nat) : Int) - 1 = (A : Int) := by omega
  unfold m_law_plan
  rw [c2_s, cell_ok, o2_some, dAdd_ii, oCons_some, oCons_some, oCons_some, o1_some, k5, c2_s, hd', Option.bind_some, o2_some, dIx_lst, atI_0, o2_some, dAdd_ii, hA, Option.bind_some, o2_some, dSub_ii, hJ, Option.bind_some, o2_some, dIx_lst, atI_2, o2_some, eqI, o1_some, tru_bl, Option.bind_some]
  by_cases hc : c = 3
  · obtain ⟨xs, e1, e2, e3⟩ := law_ducts_ok (cell ns (t + 1)) (N := A + 1) (j := 0) (e := B) (m := mw) (by omega) (by omega) (by omega) h3
    refine ⟨A + 1, xs, ?_, by omega, by omega, e3⟩
    rw [if_pos (by simp [hc]), Option.bind_some, Option.bind_some, o2_some, dAdd_ii, ct, c2_s, cc, o2_some, dIx_lst, atI_1, c5_s]
    have e1' : m_law_ducts (.int (cell ns (t + 1))) (.int ((A + 1 : Nat) : Int)) (.int 0) (.int (B : Int)) (.int mw) = some (.lst (xs.map dct)) := e1
    rw [e1', oCons_some, oCons_some, o1_some, k4]
  · obtain ⟨xs, e1, e2, e3⟩ := law_ducts_ok (cell ns (t + 1)) (N := A + 1) (j := A) (e := B) (m := mw) (by omega) (by omega) (by omega) h3
    refine ⟨A + 1, xs, ?_, by omega, by omega, e3⟩
    rw [if_neg (by simp [hc]), Option.bind_some, o2_some, dAdd_ii, ct, c2_s, cc, o2_some, dIx_lst, atI_1, c5_s, e1, oCons_some, oCons_some, o1_some, k4]
end Mi
namespace Mi
open PySem L2
/-! papers -/
def isP (d : D) (k : Str) (n : Nat) : Bool := match d with
  | .tup (.str s :: r) => decide (r.length + 1 = n) && s == k
  | _ => false
/-- what is asked of a paper that is looked at -/
def okS : D → Bool
  | .str s => PyData.strOk s
  | d => ty d
def hd1 : D → Bool
  | .tup (x :: _) => okS x
  | d => ty d
theorem okS_ty {d : D} (h : okS d = true) : ty d = true := by cases d <;> first | exact h | rfl
def isT : D → Bool
  | .tup _ => true
  | _ => false
@[simp] theorem isT_tup (l : List D) : isT (.tup l) = true := id rfl
theorem isi_tup {d : D} (h : ty d = true) : dIsi "tuple" d = some (.bl (isT d)) := by
  cases d <;> simp [ty, tyN] at h <;> simp [dIsi, tyN, known, isB, isT]
theorem isi_str {d : D} (h : ty d = true) : dIsi "str" d = some (.bl (match d with | .str _ => true | _ => false)) := by
  cases d <;> simp [ty, tyN] at h <;> simp [dIsi, tyN, known, isB]
theorem isi_lt {d : D} (h : ty d = true) : dIsi2 "list" "tuple" d = some (.bl (match d with | .tup _ => true | .lst _ => true | .scr _ => true | _ => false)) := by
  cases d <;> simp [ty, tyN] at h <;> simp [dIsi2, tyN, known, isB]
theorem ty_tup (l : List D) : ty (.tup l) = true := id rfl
theorem ty_lst (l : List D) : ty (.lst l) = true := id rfl
theorem paper_ok {d : D} {k : Str} {n : Nat} (h : hd1 d = true) (hk : PyData.strOk k = true) (hn : 1 ≤ n) : m_is_paper d (.str k) (.int (n : Int)) = some (.bl (isP d k n)) := by
  have ht : ty d = true := by
    cases d <;> simp [hd1, ty, tyN] at h <;> rfl
  unfold m_is_paper
  rw [o1_some, isi_tup ht]
  cases d with
  | tup l =>
    simp only [isT_tup, o1_some, tru_bl, oNot_s, Bool.not_true, oOr_f, c1_s, dLen_tup, o2_some, neI]
    cases l with
    | nil =>
      have : ¬ ((([] : List D).length : Int) = (n : Int)) := by simp; omega
      simp only [this, decide_false, Bool.not_false, bs, if_true]
      simp [isP]
    | cons x r =>
      have hx : ty x = true := okS_ty h
      by_cases hl : r.length + 1 = n
      · have : (((x :: r).length : Int) = (n : Int)) := by simp; omega
        simp only [this, decide_true, Bool.not_true, bs, Bool.false_eq_true, if_false, dIx_tup, atI_0, o1_some, isi_str hx]
        cases x with
        | str s => simp [isP, dEq_ss (show PyData.strOk s = true from h) hk, hl]
        | _ => simp [isP]
      · have : ¬ (((x :: r).length : Int) = (n : Int)) := by simp; omega
        simp only [this, decide_false, Bool.not_false, bs, if_true]
        cases x <;> simp [isP, hl]
  | _ => simp [isP, isT]
/-! bounds, costs, a stream -/
def pr2 (x : Int × Int) : D := .tup [.int x.1, .int x.2]
def BdsOk (bs : List (Int × Int)) : Prop := ∀ b ∈ bs, -12 ≤ b.1 ∧ b.1 ≤ b.2 ∧ b.2 ≤ 12
theorem ty_pr2 (x : Int × Int) : ty (pr2 x) = true := id rfl
theorem areb_ok {n : Nat} {xs : List (Nat × Nat × Int)} {bo : List (Int × Int)} (hl : bo.length = xs.length) (hb : BdsOk bo) : m_are_bounds (bld n xs) (.lst (bo.map pr2)) = some (.bl true) := by
  unfold m_are_bounds
  have e : ((bo.map pr2).length : Int) = ((xs.map dct).length : Int) := by simp [hl]
  rw [o1_some, isi_lt (ty_lst _)]
  simp only [o1_some, tru_bl, oNot_s, Bool.not_true, oOr_f, c1_s, dLen_lst, bld, fld2, dLen_tup, o2_some, neI, e, decide_true, bs, Bool.false_eq_true, if_false, dItems_lst]
  rw [loopO_nx fun d hd => ?_]
  · simp only [bs, Out.thnD_nx]
  · obtain ⟨b, hm, rfl⟩ := List.mem_map.mp hd
    obtain ⟨h1, h2, h3⟩ := hb b hm
    unfold m_are_bounds_L1
    have ht := table_ok (d := pr2 b) (s := 2) (l := -12) (m := 12) rfl (fun es he => by
      simp [pr2, asSeq] at he; subst he
      exact ⟨fun e he => by simp at he; rcases he with z | z <;> subst z <;> rfl, by simp⟩)
    have hb : tabB (pr2 b) 2 (-12) 12 = true := by
      simp [tabB, pr2, asSeq, okI]; omega
    rw [hb] at ht
    have n1 : ¬ b.2 < b.1 := by omega
    simp only [pr2] at ht
    simp only [o1_some, dNeg_i, c4_s, ht, tru_bl, oNot_s, Bool.not_true, oOr_f, o2_some, pr2, dIx_tup, atI_0, atI_1, dGt_ii, n1, decide_false, bs, Bool.false_eq_true, if_false]
theorem req_t (s : Str) : m_require (.bl true) (.str s) = some .non := id rfl
theorem reqb_ok {n : Nat} {xs : List (Nat × Nat × Int)} : m_require_building (bld n xs) = some .non := by
  unfold m_require_building bld
  have : dIsiC "Building" (.obj "Building" ["rooms", "ducts", "_widths"] [.int (n : Int), .tup (xs.map dct), .tup ((wid n xs).map fun r => .tup (r.map D.int))]) = some (.bl true) := by
    unfold dIsiC
    exact if_pos rfl
  rw [o1_some, this, c2_s, req_t, bs]
theorem reqbo_ok {n : Nat} {xs : List (Nat × Nat × Int)} {bo : List (Int × Int)} (hl : bo.length = xs.length) (hb : BdsOk bo) : m_require_bounds (bld n xs) (.lst (bo.map pr2)) = some .non := by
  unfold m_require_bounds
  rw [c2_s, areb_ok hl hb, c2_s, req_t, bs]
theorem tab_ints {cs : List Int} {s : Nat} {l m : Int} (hl : cs.length = s) (hs : s ≤ 16777216) (h : ∀ c ∈ cs, l ≤ c ∧ c ≤ m) : m_is_table (.lst (cs.map D.int)) (.int (s : Int)) (.int l) (.int m) = some (.bl true) := by
  have ht := table_ok (d := .lst (cs.map D.int)) (s := (s : Int)) (l := l) (m := m) rfl (fun es he => by
    simp [asSeq] at he; subst he
    exact ⟨fun e he => by obtain ⟨c, _, rfl⟩ := List.mem_map.mp he; rfl, by simp; omega⟩)
  rw [ht]
  have : tabB (.lst (cs.map D.int)) (s : Int) l m = true := by
    simp only [tabB, asSeq, List.length_map, hl, decide_true, Bool.true_and, List.all_map, List.all_eq_true]
    intro c hc
    have := h c hc
    simp [okI, this]
  rw [this]
theorem reqco_ok {n : Nat} {xs : List (Nat × Nat × Int)} {cs : List Int} (hl : cs.length = xs.length) (hx : xs.length ≤ 1000) (h : ∀ c ∈ cs, -9 ≤ c ∧ c ≤ 9) : m_require_costs (bld n xs) (.lst (cs.map D.int)) = some .non := by
  unfold m_require_costs
  have e : c1 dLen (o1 (dFld "Building" "ducts") (some (bld n xs))) = some (.int (xs.length : Nat)) := by
    unfold bld
    rw [o1_some, fld2, c1_s, dLen_tup, List.length_map]
  rw [e, o1_some, dNeg_i, c4_s, tab_ints hl (by omega) h, c2_s, req_t, bs]
theorem reqne_ok {n : Nat} {xs : List (Nat × Nat × Int)} {cs : List Int} (hl : cs.length = n) (hx : n ≤ 1000) (h : ∀ c ∈ cs, -200 ≤ c ∧ c ≤ 200) : m_require_needs (bld n xs) (.lst (cs.map D.int)) = some .non := by
  unfold m_require_needs
  have e : o1 (dFld "Building" "rooms") (some (bld n xs)) = some (.int (n : Nat)) := by
    unfold bld
    rw [o1_some, fld1]
  rw [e, o1_some, dNeg_i, c4_s, tab_ints hl (by omega) h, c2_s, req_t, bs]
/-- within the bounds -/
def fitB (bo : List (Int × Int)) (ss : List Int) : Bool := decide (ss.length = bo.length) && (List.range bo.length).all fun j => decide ((bo.getD j (0, 0)).1 ≤ ss.getD j 0) && decide (ss.getD j 0 ≤ (bo.getD j (0, 0)).2)
theorem zip_idx {α β : Type} {f : α → D} {g : β → D} (a : α) (b : β) {as : List α} {bs' : List β} (h : as.length = bs'.length) : (as.map f).zip (bs'.map g) = (List.range as.length).map fun i => (f (as.getD i a), g (bs'.getD i b)) := by
  apply List.ext_getElem
  · simp [h]
  · intro i h1 h2
    simp at h1
    have h0 : i < as.length := by omega
    have h3 : i < bs'.length := by omega
    have e1 : as.getD i a = as[i] := by simp [List.getD, h0]
    have e2 : bs'.getD i b = bs'[i] := by simp [List.getD, h3]
    simp only [List.getElem_zip, List.getElem_map, List.getElem_range, e1, e2]
theorem fits_gen {bo : List (Int × Int)} {ss : List Int} {d : D} (hd : d = .lst (ss.map D.int) ∨ d = .tup (ss.map D.int)) : m_fits_bounds (.lst (bo.map pr2)) d = some (.bl (fitB bo ss)) := by
  have h1 : dIsi2 "list" "tuple" d = some (.bl true) := by rcases hd with h | h <;> subst h <;> rfl
  have h2 : dLen d = some (.int (ss.length : Nat)) := by rcases hd with h | h <;> subst h <;> simp
  have h3 : dSeq d = some (ss.map D.int) := by rcases hd with h | h <;> subst h <;> simp
  unfold m_fits_bounds fitB
  simp only [o1_some, h1, tru_bl, oNot_s, Bool.not_true, oOr_f, c1_s, h2, dLen_lst, o2_some, neI, bs, List.length_map, dSeq_lst, h3]
  by_cases hl : ss.length = bo.length
  · have e : ((ss.length : Int) = (bo.length : Int)) := by omega
    simp only [e, decide_true, Bool.not_true, Bool.false_eq_true, if_false, hl, Bool.true_and]
    rw [zip_idx (0, 0) 0 hl.symm]
    rw [loopO_idx (p := fun j => decide ((bo.getD j (0, 0)).1 ≤ ss.getD j 0) && decide (ss.getD j 0 ≤ (bo.getD j (0, 0)).2)) (r := .bl false) fun i hi => ?_]
    · simp only [bs]
      cases q : (List.range bo.length).all fun j => decide ((bo.getD j (0, 0)).1 ≤ ss.getD j 0) && decide (ss.getD j 0 ≤ (bo.getD j (0, 0)).2) <;> simp [Out.thnD]
    · unfold m_fits_bounds_L1
      have hi' : m_is_integer (.int (ss.getD i 0)) = some (.bl true) := by rw [isint_ok rfl]
      generalize ss.getD i 0 = s at hi' ⊢
      generalize bo.getD i (0, 0) = b
      show (oOr (oNot (o1 tru (c1 m_is_integer (some (.int s))))) (oOr (o1 tru (o2 dLt (some (.int s)) (some (.int b.1)))) (o1 tru (o2 dGt (some (.int s)) (some (.int b.2)))))).bind _ = _
      simp only [c1_s, hi', o1_some, tru_bl, oNot_s, Bool.not_true, oOr_f, o2_some, dLt_ii, dGt_ii]
      by_cases a1 : s < b.1
      · have : ¬ b.1 ≤ s := by omega
        simp [a1, this]
      · by_cases a2 : b.2 < s
        · have : ¬ s ≤ b.2 := by omega
          simp [a1, a2, this]
        · have e1 : b.1 ≤ s := by omega
          have e2 : s ≤ b.2 := by omega
          simp [a1, a2, e1, e2]
  · have e : ¬ ((ss.length : Int) = (bo.length : Int)) := by omega
    simp [e, hl]
/-- what a setting is -/
structure Setg (n : Nat) (xs : List (Nat × Nat × Int)) (bo : List (Int × Int)) (cs ss : List Int) : Prop where
  nx : xs.length ≤ 16
  lb : bo.length = xs.length
  bd : BdsOk bo
  lc : cs.length = xs.length
  co : ∀ c ∈ cs, -9 ≤ c ∧ c ≤ 9
  st : fitB bo ss = true
theorem reqs_ok {n : Nat} {xs : List (Nat × Nat × Int)} {bo : List (Int × Int)} {cs ss : List Int} (S : Setg n xs bo cs ss) : m_require_setting (bld n xs) (.lst (bo.map pr2)) (.lst (cs.map D.int)) (.lst (ss.map D.int)) = some .non := by
  unfold m_require_setting
  rw [c1_s, reqb_ok, bs, c2_s, reqbo_ok S.lb S.bd, bs, c2_s, reqco_ok S.lc (by have := S.nx; omega) S.co, bs, c2_s, fits_gen (.inl rfl), S.st, c2_s, req_t, bs]
/-! pressures -/
def riseJ (xs : List (Nat × Nat × Int)) (ps : List Int) (j : Nat) : Int := ps.getD (xs.getD j (0, 0, 0)).2.1 0 - ps.getD (xs.getD j (0, 0, 0)).1 0
def holdJ (xs : List (Nat × Nat × Int)) (bo : List (Int × Int)) (cs ss ps : List Int) (j : Nat) : Bool := !(decide (ss.getD j 0 < (bo.getD j (0, 0)).2) && decide (cs.getD j 0 < riseJ xs ps j)) && !(decide ((bo.getD j (0, 0)).1 < ss.getD j 0) && decide (riseJ xs ps j < cs.getD j 0))
theorem holdJ_eq (xs : List (Nat × Nat × Int)) (bo : List (Int × Int)) (cs ss ps : List Int) (j : Nat) : holdJ xs bo cs ss ps j = (!(decide (ss.getD j 0 < (bo.getD j (0, 0)).2) && decide (cs.getD j 0 < ps.getD (xs.getD j (0, 0, 0)).2.1 0 - ps.getD (xs.getD j (0, 0, 0)).1 0)) && !(decide ((bo.getD j (0, 0)).1 < ss.getD j 0) && decide (ps.getD (xs.getD j (0, 0, 0)).2.1 0 - ps.getD (xs.getD j (0, 0, 0)).1 0 < cs.getD j 0))) := id rfl
def holdB (xs : List (Nat × Nat × Int)) (bo : List (Int × Int)) (cs ss ps : List Int) : Bool := (List.range xs.length).all (holdJ xs bo cs ss ps)
theorem fit_len {bo : List (Int × Int)} {ss : List Int} (h : fitB bo ss = true) : ss.length = bo.length := by
  unfold fitB at h
  simp at h
  exact h.1
theorem intT_ok {ps : List Int} {n : Nat} : m_is_integer_tuple (.tup (ps.map D.int)) (.int (n : Int)) = some (.bl (decide (ps.length = n))) := by
  unfold m_is_integer_tuple
  rw [o1_some, isi_tup (ty_tup _)]
  simp only [isT_tup, oAndV_t, c2_s]
  unfold m_is_integer_table
  rw [o1_some, isi_lt (ty_tup _)]
  simp only [o1_some, tru_bl, oNot_s, Bool.not_true, oOr_f, c1_s, dLen_tup, o2_some, neI, bs, List.length_map, dItems_tup]
  by_cases hl : ps.length = n
  · have e : ((ps.length : Int) = (n : Int)) := by omega
    simp only [e, decide_true, Bool.not_true, Bool.false_eq_true, if_false, hl]
    rw [loopO_nx fun d hd => ?_]
    · simp only [bs, Out.thnD_nx]
    · obtain ⟨b, hm, rfl⟩ := List.mem_map.mp hd
      unfold m_is_integer_table_L1
      have hi' : m_is_integer (.int b) = some (.bl true) := by rw [isint_ok rfl]
      simp only [c1_s, hi', o1_some, tru_bl, oNot_s, Bool.not_true, bs, Bool.false_eq_true, if_false]
  · have e : ¬ ((ps.length : Int) = (n : Int)) := by omega
    simp [e, hl]
/-- no tuple of n integers -/
def notI : D → Bool
  | .int _ => false
  | _ => true
def notInts (n : Nat) : D → Bool
  | .tup l => decide (l.length ≠ n) || (l.all ty && l.any notI)
  | d => ty d
theorem intT_no {d : D} {n : Nat} (h : notInts n d = true) : m_is_integer_tuple d (.int (n : Int)) = some (.bl false) := by
  have ht : ty d = true := by cases d <;> simp [notInts, ty, tyN] at h <;> rfl
  unfold m_is_integer_tuple
  rw [o1_some, isi_tup ht]
  cases d with
  | tup l =>
    simp only [isT_tup, oAndV_t, c2_s]
    unfold m_is_integer_table
    rw [o1_some, isi_lt (ty_tup _)]
    simp only [o1_some, tru_bl, oNot_s, Bool.not_true, oOr_f, c1_s, dLen_tup, o2_some, neI, bs, dItems_tup]
    by_cases hl : l.length = n
    · have e : ((l.length : Int) = (n : Int)) := by omega
      simp only [e, decide_true, Bool.not_true, Bool.false_eq_true, if_false]
      simp only [notInts, hl, ne_eq, not_true, decide_false, Bool.false_or, Bool.and_eq_true, List.all_eq_true] at h
      rw [loopO_all (p := fun d => match d with | .int _ => true | _ => false) (r := .bl false) fun d hd => ?_]
      · have : (l.all fun d => match d with | .int _ => true | _ => false) = false := by
          obtain ⟨_, h2⟩ := h
          rw [List.any_eq_true] at h2
          obtain ⟨x, hx, hx2⟩ := h2
          rw [List.all_eq_false]
          exact ⟨x, hx, by cases x <;> simp_all [notI]⟩
        simp [this, bs, Out.thnD]
      · unfold m_is_integer_table_L1
        rw [c1_s, isint_ok (h.1 d hd)]
        cases d <;> simp
    · have e : ¬ ((l.length : Int) = (n : Int)) := by omega
      simp [e]
  | _ => simp [isT]
section
variable {n : Nat} {xs : List (Nat × Nat × Int)} {bo : List (Int × Int)} {cs ss ps : List Int}
theorem hold_no {d st : D} (h : notInts n d = true) : m_hold (bld n xs) (.lst (bo.map pr2)) (.lst (cs.map D.int)) st d = some (.bl false) := by
  unfold m_hold
  have e : o1 (dFld "Building" "rooms") (some (bld n xs)) = some (.int (n : Nat)) := by
    unfold bld
    rw [o1_some, fld1]
  rw [e, c2_s, intT_no h, o1_some, tru_bl, oNot_s, bs]
  rfl
theorem xin {α : Type} {xs : List α} {j : Nat} (d : α) (h : j < xs.length) : xs.getD j d ∈ xs := by
  simp [List.getD, h]
theorem hold_gen {st : D} (hx : ∀ x ∈ xs, DOk n x) (lb : bo.length = xs.length) (lc : cs.length = xs.length) (ls : ss.length = xs.length) (hst : st = .lst (ss.map D.int) ∨ st = .tup (ss.map D.int)) (lp : ps.length = n) : m_hold (bld n xs) (.lst (bo.map pr2)) (.lst (cs.map D.int)) st (.tup (ps.map D.int)) = some (.bl (holdB xs bo cs ss ps)) := by
  unfold m_hold
  have e : o1 (dFld "Building" "rooms") (some (bld n xs)) = some (.int (n : Nat)) := by
    unfold bld
    rw [o1_some, fld1]
  have e2 : o1 dSeq (o1 (dFld "Building" "ducts") (some (bld n xs))) = some (xs.map dct) := by
    unfold bld
    rw [o1_some, fld2, o1_some, dSeq_tup]
  have hs : ∀ j, j < xs.length → dIx st (.int (j : Int)) = some (.int (ss.getD j 0)) := fun j hj => by
    rcases hst with h | h <;> subst h
    · exact ixmD 0 (by omega)
    · exact ixtD 0 (by omega)
  rw [e, c2_s, intT_ok, lp, o1_some, tru_bl, oNot_s, bs, e2, ms, bs, enumed_eq, List.length_map]
  simp only [decide_true, Bool.not_true, Bool.false_eq_true, if_false]
  rw [loopO_idx (p := holdJ xs bo cs ss ps) (r := .bl false) fun j hj => ?_]
  · unfold holdB
    simp only [bs]
    cases q : (List.range xs.length).all (holdJ xs bo cs ss ps) <;> simp [Out.thnD]
  · unfold m_hold_L1
    have hd : (xs.map dct).getD j .non = dct (xs.getD j (0, 0, 0)) := by simp [List.getD, hj]
    obtain ⟨d1, d2, d3⟩ := hx _ (xin (0, 0, 0) hj)
    show un3 ((xs.map dct).getD j .non) _ = _
    rw [hd]
    have p1 := ixtD (f := D.int) (xs := ps) (i := (xs.getD j (0, 0, 0)).1) 0 (by omega)
    have p2 := ixtD (f := D.int) (xs := ps) (i := (xs.getD j (0, 0, 0)).2.1) 0 (by omega)
    have c1' := ixmD (f := D.int) (xs := cs) (i := j) 0 (by omega)
    have b1 := ixmD (f := pr2) (xs := bo) (i := j) (0, 0) (by omega)
    simp only [dct, un3, o2_some, p1, p2, dSub_ii, bs, hs j hj, b1, pr2, dIx_tup, atI_0, atI_1, dLt_ii, dGt_ii, c1', o1_some, tru_bl]
    rw [holdJ_eq]
    generalize decide (ss.getD j 0 < (bo.getD j (0, 0)).2) = q1
    generalize decide ((bo.getD j (0, 0)).1 < ss.getD j 0) = q2
    generalize decide (cs.getD j 0 < ps.getD (xs.getD j (0, 0, 0)).2.1 0 - ps.getD (xs.getD j (0, 0, 0)).1 0) = q3
    generalize decide (ps.getD (xs.getD j (0, 0, 0)).2.1 0 - ps.getD (xs.getD j (0, 0, 0)).1 0 < cs.getD j 0) = q4
    cases q1 <;> cases q2 <;> cases q3 <;> cases q4 <;> rfl
theorem lholds_ok (hx : ∀ x ∈ xs, DOk n x) (lb : bo.length = xs.length) (lc : cs.length = xs.length) (ls : ss.length = xs.length) (lp : ps.length = n) (hm : xs.length ≤ 1000) : m_law_holds (.lst (xs.map dct)) (.lst (bo.map pr2)) (.lst (cs.map D.int)) (.lst (ss.map D.int)) (.lst (ps.map D.int)) = some (.bl (holdB xs bo cs ss ps)) := by
  unfold m_law_holds
  rw [c1_s, dLen_lst, oCons_some, o1_some, dRange1_s (by rw [List.length_map]; omega), bs, List.length_map, ranged0]
  rw [loopO_idx (p := holdJ xs bo cs ss ps) (r := .bl false) fun j hj => ?_]
  · unfold holdB
    simp only [bs]
    cases q : (List.range xs.length).all (holdJ xs bo cs ss ps) <;> simp [Out.thnD]
  · unfold m_law_holds_L1
    obtain ⟨d1, d2, d3⟩ := hx _ (xin (0, 0, 0) hj)
    have x1 := ixmD (f := dct) (xs := xs) (i := j) (0, 0, 0) hj
    have p1 := ixmD (f := D.int) (xs := ps) (i := (xs.getD j (0, 0, 0)).1) 0 (by omega)
    have p2 := ixmD (f := D.int) (xs := ps) (i := (xs.getD j (0, 0, 0)).2.1) 0 (by omega)
    have c1' := ixmD (f := D.int) (xs := cs) (i := j) 0 (by omega)
    have s1' := ixmD (f := D.int) (xs := ss) (i := j) 0 (by omega)
    have b1 := ixmD (f := pr2) (xs := bo) (i := j) (0, 0) (by omega)
    simp only [o2_some, x1]
    simp only [dct, dIx_tup, atI_0, atI_1, o2_some, p1, p2, dSub_ii, bs, s1', b1, pr2, dLt_ii, dGt_ii, c1', o1_some, tru_bl]
    rw [holdJ_eq]
    generalize decide (ss.getD j 0 < (bo.getD j (0, 0)).2) = q1
    generalize decide ((bo.getD j (0, 0)).1 < ss.getD j 0) = q2
    generalize decide (cs.getD j 0 < ps.getD (xs.getD j (0, 0, 0)).2.1 0 - ps.getD (xs.getD j (0, 0, 0)).1 0) = q3
    generalize decide (ps.getD (xs.getD j (0, 0, 0)).2.1 0 - ps.getD (xs.getD j (0, 0, 0)).1 0 < cs.getD j 0) = q4
    cases q1 <;> cases q2 <;> cases q3 <;> cases q4 <;> rfl
end
end Mi
namespace Mi
open PySem L2
/-! steps -/
section
variable {n : Nat} {xs : List (Nat × Nat × Int)} {bo : List (Int × Int)} {cs ss ps : List Int}
def openI (xs : List (Nat × Nat × Int)) (bo : List (Int × Int)) (ss : List Int) (r : Int × Int) : Bool :=
  decide (0 ≤ r.1) && (decide (r.1 < (xs.length : Int)) && ((decide (r.2 = 1) && decide (ss.getD r.1.toNat 0 < (bo.getD r.1.toNat (0, 0)).2)) || (decide (r.2 = -1) && decide ((bo.getD r.1.toNat (0, 0)).1 < ss.getD r.1.toNat 0))))
def openD (xs : List (Nat × Nat × Int)) (bo : List (Int × Int)) (ss : List Int) : D → Bool
  | .tup [.int k, .int s] => openI xs bo ss (k, s)
  | _ => false
/-- typed, and its parts -/
def tyd : D → Bool
  | .tup l => l.all ty
  | .lst l => l.all ty
  | .scr _ => false
  | d => ty d
theorem dlen_bld : c1 dLen (o1 (dFld "Building" "ducts") (some (bld n xs))) = some (.int (xs.length : Nat)) := by
  unfold bld
  rw [o1_some, fld2, c1_s, dLen_tup, List.length_map]
theorem open_ok {d : D} (lb : bo.length = xs.length) (ls : ss.length = xs.length) (hx : xs.length ≤ 1000) (hd : tyd d = true) : m_is_open_step (bld n xs) (.lst (bo.map pr2)) (.lst (ss.map D.int)) d = some (.bl (openD xs bo ss d)) := by
  have ht : ty d = true := by cases d <;> first | rfl | exact hd | (simp [tyd] at hd)
  unfold m_is_open_step
  rw [dlen_bld, o1_some, dNeg_i, c4_s]
  have t0 : m_is_tuple d (.int 2) (.int (-1)) (.int (xs.length : Nat)) = some (.bl (isT d && tabB d 2 (-1) (xs.length : Int))) := by
    unfold m_is_tuple
    rw [o1_some, isi_tup ht]
    cases d with
    | tup l =>
      simp only [isT_tup, oAndV_t, c4_s, Bool.true_and]
      by_cases hl : l.length ≤ 16777216
      · rw [table_ok rfl (fun es he => by
          simp [asSeq] at he; subst he
          exact ⟨fun e he => by simp only [tyd, List.all_eq_true] at hd; exact hd e he, hl⟩)]
      · unfold m_is_table tabB
        have e : ¬ ((l.length : Int) = 2) := by omega
        simp [dIsi2, tyN, known, isB, neI, e, asSeq]
    | _ => simp [isT]
  rw [t0, o1_some, tru_bl, oNot_s, bs]
  by_cases hq : (isT d && tabB d 2 (-1) (xs.length : Int)) = true
  · rw [hq]
    rw [Bool.and_eq_true] at hq
    obtain ⟨q1, q2⟩ := hq
    cases d with
    | tup l =>
      simp only [tabB, asSeq, Bool.and_eq_true, decide_eq_true_eq] at q2
      obtain ⟨q2, q3⟩ := q2
      match l, q2, q3 with
      | [a, b], _, q3 =>
        simp only [List.all_cons, List.all_nil, Bool.and_true, Bool.and_eq_true] at q3
        obtain ⟨ka, sb⟩ := q3
        cases a with
        | int k =>
          cases b with
          | int s =>
            simp only [okI, Bool.and_eq_true, decide_eq_true_eq] at ka sb
            simp only [Bool.not_true, Bool.false_eq_true, if_false, un2, bs, o2_some, dSub_ii, c3_s, between_ok (show ty (.int k) = true from rfl), o1_some, tru_bl, oNot_s, eqI, dNeg_i]
            by_cases hk : 0 ≤ k ∧ k < (xs.length : Int)
            · have e1 : okI 0 ((xs.length : Int) - 1) (.int k) = true := by simp [okI]; omega
              have s1 := ixzD (f := D.int) (xs := ss) (i := k) 0 hk.1 (by omega)
              have b1 := ixzD (f := pr2) (xs := bo) (i := k) (0, 0) hk.1 (by omega)
              simp only [e1, Bool.not_true, Bool.false_eq_true, if_false, s1, b1, o2_some, pr2, dIx_tup, atI_0, atI_1, dLt_ii, dGt_ii]
              simp only [openD, openI, hk.1, hk.2, decide_true, Bool.true_and]
              by_cases h1 : s = 1
              · subst h1; simp
              · by_cases h2 : s = -1
                · subst h2; simp
                · simp [h1, h2]
            · have e1 : okI 0 ((xs.length : Int) - 1) (.int k) = false := by simp [okI]; omega
              simp only [e1, Bool.not_false, if_true]
              have : openD xs bo ss (.tup [.int k, .int s]) = false := by
                simp only [openD, openI]
                by_cases h0 : 0 ≤ k
                · have : ¬ k < (xs.length : Int) := fun z => hk ⟨h0, z⟩
                  simp [this]
                · simp [h0]
              rw [this]
          | _ => simp [okI] at sb
        | _ => simp [okI] at ka
    | _ => simp [isT] at q1
  · have hq' : (isT d && tabB d 2 (-1) (xs.length : Int)) = false := by simpa using hq
    rw [hq']
    simp only [Bool.not_false, if_true]
    have : openD xs bo ss d = false := by
      cases hh : openD xs bo ss d with
      | false => rfl
      | true =>
        exfalso
        unfold openD at hh
        split at hh
        · rename_i k s
          apply hq
          simp only [openI, Bool.and_eq_true, decide_eq_true_eq, Bool.or_eq_true] at hh
          obtain ⟨h1, h2, h3⟩ := hh
          simp only [isT_tup, tabB, asSeq, Bool.true_and, List.length_cons, List.length_nil, List.all_cons, List.all_nil, okI, Bool.and_true, Bool.and_eq_true, decide_eq_true_eq]
          refine ⟨by omega, ⟨by omega, by omega⟩, ?_⟩
          rcases h3 with h3 | h3 <;> (obtain ⟨h3, _⟩ := h3; omega)
        · cases hh
    rw [this]
/-! the ends of a step -/
def tlI (xs : List (Nat × Nat × Int)) (r : Int × Int) : Nat := if r.2 = 1 then (xs.getD r.1.toNat (0, 0, 0)).1 else (xs.getD r.1.toNat (0, 0, 0)).2.1
def hdI (xs : List (Nat × Nat × Int)) (r : Int × Int) : Nat := if r.2 = 1 then (xs.getD r.1.toNat (0, 0, 0)).2.1 else (xs.getD r.1.toNat (0, 0, 0)).1
theorem ends_ok {r : Int × Int} (h0 : 0 ≤ r.1) (h1 : r.1 < (xs.length : Int)) : m_step_ends (bld n xs) (pr2 r) = some (.tup [.int (tlI xs r : Nat), .int (hdI xs r : Nat)]) := by
  unfold m_step_ends
  have e : o1 (dFld "Building" "ducts") (some (bld n xs)) = some (.tup (xs.map dct)) := by
    unfold bld
    rw [o1_some, fld2]
  have x1 : dIx (.tup (xs.map dct)) (.int r.1) = some (dct (xs.getD r.1.toNat (0, 0, 0))) := by
    have e : r.1 = (r.1.toNat : Int) := by omega
    conv => lhs; rw [e]
    exact ixtD _ (by omega)
  rw [e]
  simp only [pr2, o2_some, dIx_tup, atI_0, atI_1]
  rw [dIx_tup] at x1
  rw [x1]
  simp only [bs, dct, un3, o2_some, eqI, o1_some, tru_bl, oCons_some, dTup2]
  by_cases h : r.2 = 1 <;> simp [h, tlI, hdI]
/-- which step is the one before -/
def prv (rs : List (Int × Int)) (k : Nat) : Int × Int := rs.getD (if k = 0 then rs.length - 1 else k - 1) (0, 0)
def chkJ (xs : List (Nat × Nat × Int)) (rs : List (Int × Int)) (k : Nat) : Bool := decide (hdI xs (prv rs k) = tlI xs (rs.getD k (0, 0))) && !decide (tlI xs (rs.getD k (0, 0)) ∈ (rs.take k).map (tlI xs))
def costR (cs : List Int) (rs : List (Int × Int)) : Int := (rs.map fun r => r.2 * cs.getD r.1.toNat 0).sum
def ringB (xs : List (Nat × Nat × Int)) (bo : List (Int × Int)) (cs ss : List Int) (rs : List (Int × Int)) : Bool :=
  decide (2 ≤ rs.length) && (rs.all (openI xs bo ss) && ((List.range rs.length).all (chkJ xs rs) && decide (costR cs rs < 0)))
theorem costR_take (cs : List Int) (rs : List (Int × Int)) (i : Nat) (h : i < rs.length) : costR cs (rs.take (i + 1)) = costR cs (rs.take i) + (rs.getD i (0, 0)).2 * cs.getD (rs.getD i (0, 0)).1.toNat 0 := by
  have : rs.getD i (0, 0) = rs[i] := by simp [List.getD, h]
  rw [this, List.take_succ_eq_append_getElem h]
  simp only [costR, List.map_append, List.sum_append, List.map_cons, List.map_nil, List.sum_cons, List.sum_nil, Int.add_zero]
theorem take_map_succ {α β : Type} (f : α → β) (rs : List α) (d : α) (i : Nat) (h : i < rs.length) : (rs.take (i + 1)).map f = (rs.take i).map f ++ [f (rs.getD i d)] := by
  have : rs.getD i d = rs[i] := by simp [List.getD, h]
  rw [this, List.take_succ_eq_append_getElem h]
  simp only [List.map_append, List.map_cons, List.map_nil]
theorem nodup_of_chk {rs : List (Int × Int)} : ∀ {i : Nat}, i ≤ rs.length → (∀ j < i, chkJ xs rs j = true) → ((rs.take i).map (tlI xs)).Nodup
  | 0, _, _ => by simp
  | i + 1, hi, h => by
    rw [take_map_succ (tlI xs) rs (0, 0) i (by omega)]
    have ih := nodup_of_chk (i := i) (by omega) fun j hj => h j (by omega)
    have := h i (by omega)
    simp only [chkJ, Bool.and_eq_true, Bool.not_eq_true', decide_eq_false_iff_not] at this
    rw [List.nodup_append]
    refine ⟨ih, by simp, fun a ha b hb => ?_⟩
    simp at hb
    subst hb
    exact fun e => this.2 (e ▸ ha)
theorem ring2_ok {rs : List (Int × Int)} (ho : ∀ r ∈ rs, openI xs bo ss r = true) (lc : cs.length = xs.length) (hl : rs.length ≤ 1000) (h2 : 0 < rs.length) (hcs : ∀ c ∈ cs, -9 ≤ c ∧ c ≤ 9) :
    loopO (γ := Empty) (m_is_cheaper_ring_L2 (bld n xs) (.tup (rs.map pr2)) (.lst (cs.map D.int))) (enumed (rs.map pr2)) (.int 0, .dic [] []) = some (if (List.range rs.length).all (chkJ xs rs) = true then .nx (.int (costR cs rs), .dic ((rs.map (tlI xs)).map fun (i : Nat) => (Sum.inl (i : Int) : Key)) (List.replicate rs.length (.bl true))) else .rt (.bl false) []) := by
  rw [enumed_eq, List.length_map]
  have oo : ∀ i, i < rs.length → 0 ≤ (rs.getD i (0, 0)).1 ∧ (rs.getD i (0, 0)).1 < (xs.length : Int) ∧ ((rs.getD i (0, 0)).2 = 1 ∨ (rs.getD i (0, 0)).2 = -1) := fun i hi => by
    have := ho _ (xin (0, 0) hi)
    simp only [openI, Bool.and_eq_true, decide_eq_true_eq, Bool.or_eq_true] at this
    obtain ⟨a, b, c⟩ := this
    exact ⟨a, b, c.elim (fun c => .inl c.1) fun c => .inr c.1⟩
  have key := loopO_idxS (γ := Empty) (f := m_is_cheaper_ring_L2 (bld n xs) (.tup (rs.map pr2)) (.lst (cs.map D.int))) (g := fun i => (D.int (i : Nat), (rs.map pr2).getD i .non)) (n := rs.length) (r := .bl false)
    (S := fun i => (D.int (costR cs (rs.take i)), D.dic (((rs.take i).map (tlI xs)).map fun (i : Nat) => (Sum.inl (i : Int) : Key)) (List.replicate i (.bl true)))) (p := chkJ xs rs) (fun i hi hp => by
      have hd : (rs.map pr2).getD i .non = pr2 (rs.getD i (0, 0)) := by simp [List.getD, hi]
      obtain ⟨o1', o2', o3'⟩ := oo i hi
      have pv : dIx (.tup (rs.map pr2)) (.int ((i : Int) - 1)) = some (pr2 (prv rs i)) := by
        rw [dIx_tup, atI_prev (by rw [List.length_map]; exact hi), List.length_map, List.getElem?_map]
        unfold prv
        have hlt : (if i = 0 then rs.length - 1 else i - 1) < rs.length := by split <;> omega
        rw [getD_some (0, 0) hlt]; rfl
      have pb : 0 ≤ (prv rs i).1 ∧ (prv rs i).1 < (xs.length : Int) := by
        have hlt : (if i = 0 then rs.length - 1 else i - 1) < rs.length := by split <;> omega
        have := oo _ hlt
        exact ⟨this.1, this.2.1⟩
      have ck : (((rs.take i).map (tlI xs))).length = (List.replicate i (D.bl true)).length := by simp; omega
      unfold m_is_cheaper_ring_L2
      simp only [hd]
      rw [c2_s, ends_ok o1' o2', bs]
      simp only [un2, o2_some, dIn_keys ck, dSub_ii, pv, c2_s, ends_ok pb.1 pb.2, dIx_tup, atI_1, neI, o1_some, tru_bl]
      have hdec : decide (((hdI xs (prv rs i) : Nat) : Int) = ((tlI xs (rs.getD i (0, 0)) : Nat) : Int)) = decide (hdI xs (prv rs i) = tlI xs (rs.getD i (0, 0))) := by
        by_cases z : hdI xs (prv rs i) = tlI xs (rs.getD i (0, 0))
        · simp [z]
        · have : ¬ ((hdI xs (prv rs i) : Nat) : Int) = ((tlI xs (rs.getD i (0, 0)) : Nat) : Int) := by omega
          rw [decide_eq_false this, decide_eq_false z]
      rw [hdec]
      by_cases m1 : tlI xs (rs.getD i (0, 0)) ∈ (rs.take i).map (tlI xs)
      · have cf : chkJ xs rs i = false := by
          unfold chkJ
          rw [decide_eq_true m1]
          simp
        rw [decide_eq_true m1, oOr_t, bs, bs, cf]
        rfl
      · rw [decide_eq_false m1, oOr_f]
        by_cases m2 : hdI xs (prv rs i) = tlI xs (rs.getD i (0, 0))
        · have cf : chkJ xs rs i = true := by
            unfold chkJ
            rw [decide_eq_true m2, decide_eq_false m1]
            rfl
          have c1' : dIx (.lst (cs.map D.int)) (.int (rs.getD i (0, 0)).1) = some (.int (cs.getD (rs.getD i (0, 0)).1.toNat 0)) := ixzD 0 o1' (by omega)
          have ml : dMul (.int (rs.getD i (0, 0)).2) (.int (cs.getD (rs.getD i (0, 0)).1.toNat 0)) = some (.int ((rs.getD i (0, 0)).2 * cs.getD (rs.getD i (0, 0)).1.toNat 0)) := mulS (by omega)
          have ds := dSet_keys (d := .bl true) ck (nodup_of_chk (by omega) hp) m1 (by simp; omega)
          rw [cf, decide_eq_true m2]
          simp only [Bool.not_true, bs, Bool.false_eq_true, if_false, if_true, ds, pr2, dIx_tup, atI_0, atI_1, o2_some]
          rw [c1', o2_some, ml, o2_some, dAddI_ii, bs]
          rw [← take_map_succ (tlI xs) rs (0, 0) i hi, ← costR_take cs rs i hi, ← List.replicate_succ']
        · have cf : chkJ xs rs i = false := by
            unfold chkJ
            rw [decide_eq_false m2]
            rfl
          rw [cf, decide_eq_false m2]
          rfl)
  simp only [List.take_zero, List.take_length] at key
  exact key
theorem ring_gen {rs : List (Int × Int)} (lb : bo.length = xs.length) (ls : ss.length = xs.length) (lc : cs.length = xs.length) (hx : xs.length ≤ 1000) (hl : rs.length ≤ 1000) (hcs : ∀ c ∈ cs, -9 ≤ c ∧ c ≤ 9) : m_is_cheaper_ring (bld n xs) (.lst (bo.map pr2)) (.lst (cs.map D.int)) (.lst (ss.map D.int)) (.tup (rs.map pr2)) = some (.bl (ringB xs bo cs ss rs)) := by
  unfold m_is_cheaper_ring
  rw [o1_some, isi_tup (ty_tup _)]
  simp only [isT_tup, o1_some, tru_bl, oNot_s, Bool.not_true, oOr_f, c1_s, dLen_tup, o2_some, dLt_ii, List.length_map, bs, dItems_tup, dSeq_tup, ms]
  by_cases h2 : 2 ≤ rs.length
  · have e : ¬ ((rs.length : Int) < 2) := by omega
    simp only [e, decide_false, Bool.false_eq_true, if_false]
    rw [loopO_all (p := openD xs bo ss) (r := .bl false) fun d hd => ?_]
    · have ea : (rs.map pr2).all (openD xs bo ss) = rs.all (openI xs bo ss) := by rw [List.all_map]; rfl
      rw [ea]
      unfold ringB
      rw [decide_eq_true h2, Bool.true_and]
      cases ho : rs.all (openI xs bo ss) with
      | false => rfl
      | true =>
        rw [List.all_eq_true] at ho
        simp only [if_true, bs, Out.thnD_nx]
        rw [ring2_ok ho lc hl (by omega) hcs, bs]
        cases hc : (List.range rs.length).all (chkJ xs rs) with
        | false => rfl
        | true => simp only [if_true, Out.thnD_nx, o2_some, dLt_ii, Bool.true_and]
    · obtain ⟨r, hr, rfl⟩ := List.mem_map.mp hd
      unfold m_is_cheaper_ring_L1
      rw [c4_s, open_ok lb ls hx rfl, o1_some, tru_bl, oNot_s, bs]
      cases openD xs bo ss (pr2 r) <;> rfl
  · have e : ((rs.length : Int) < 2) := by omega
    simp [e, ringB, h2]
/-- a ring that is no ring: not a tuple, too short, or a step of it is none -/
def badR (xs : List (Nat × Nat × Int)) (bo : List (Int × Int)) (ss : List Int) : D → Bool
  | .tup l => decide (l.length < 2) || (l.all tyd && !l.all (openD xs bo ss))
  | d => ty d
theorem ring_no {d : D} {co : D} (lb : bo.length = xs.length) (ls : ss.length = xs.length) (hx : xs.length ≤ 1000) (h : badR xs bo ss d = true) : m_is_cheaper_ring (bld n xs) (.lst (bo.map pr2)) co (.lst (ss.map D.int)) d = some (.bl false) := by
  have ht : ty d = true := by cases d <;> simp [badR, ty, tyN] at h <;> rfl
  unfold m_is_cheaper_ring
  rw [o1_some, isi_tup ht]
  cases d with
  | tup l =>
    simp only [isT_tup, o1_some, tru_bl, oNot_s, Bool.not_true, oOr_f, c1_s, dLen_tup, o2_some, dLt_ii, bs, dItems_tup, dSeq_tup, ms]
    by_cases h2 : l.length < 2
    · have e : ((l.length : Int) < 2) := by omega
      simp [e]
    · have e : ¬ ((l.length : Int) < 2) := by omega
      simp only [badR, h2, decide_false, Bool.false_or, Bool.and_eq_true, Bool.not_eq_true', List.all_eq_true] at h
      simp only [e, decide_false, Bool.false_eq_true, if_false]
      rw [loopO_all (p := openD xs bo ss) (r := .bl false) fun d hd => ?_]
      · rw [h.2]; rfl
      · unfold m_is_cheaper_ring_L1
        rw [c4_s, open_ok lb ls hx (h.1 d hd), o1_some, tru_bl, oNot_s, bs]
        cases openD xs bo ss d <;> rfl
  | _ => simp [isT]
end
end Mi
namespace Mi
open PySem L2
theorem with_ok {α : Type} {f : α → D} {xs : List α} {k : Nat} {v : α} (h : k < xs.length) (hl : xs.length ≤ 100000) : m_law_with (.lst (xs.map f)) (.int (k : Int)) (f v) = some (.lst ((xs.set k v).map f)) := by
  unfold m_law_with
  have e : (k : Int) + 1 = ((k + 1 : Nat) : Int) := by omega
  rw [o1_some, dI_i, ms, oCut_s, dCut_l, cut_to (by rw [List.length_map]; omega), oCons_some, o1_some, dLst1, o2_some, dAdd_ll (by simp; omega), o2_some, dAdd_ii, o1_some, dI_i, ms, oCut_s, dCut_l, e, cut_from (by rw [List.length_map]; omega), o2_some, dAdd_ll (by simp; omega)]
  rw [List.set_eq_take_append_cons_drop, if_pos h]
  simp
theorem says_ok (a b : Bool) : m_law_says (.bl a) (.bl b) = some (.bl (decide (a = b))) := by
  unfold m_law_says
  have : dIsi "bool" (.bl a) = some (.bl true) := id rfl
  rw [o1_some, this, oAndV_t, o2_some, eqBl]
theorem says_t (a : Bool) : m_law_says (.bl a) (.bl a) = some (.bl true) := by rw [says_ok]; simp
section
variable {n : Nat} {xs : List (Nat × Nat × Int)} {bo : List (Int × Int)} {cs ss ps : List Int}
theorem kP : PyData.strOk "pressures" = true := by decide +kernel
theorem kR : PyData.strOk "ring" = true := by decide +kernel
theorem kC : PyData.strOk "cheapest" = true := by decide +kernel
theorem kS : PyData.strOk "stream" = true := by decide +kernel
theorem kSt : PyData.strOk "starved" = true := by decide +kernel
theorem kFl : PyData.strOk "flooded" = true := by decide +kernel
theorem isP2 (k j : Str) (v : D) : isP (.tup [.str k, v]) j 2 = (k == j) := by simp [isP]
theorem price_gen {p : D} (S : Setg n xs bo cs ss) (hp : hd1 p = true) : m_shows_price (bld n xs) (.lst (bo.map pr2)) (.lst (cs.map D.int)) (.lst (ss.map D.int)) p = if isP p "pressures" 2 = true then o2 dIx (some p) (some (.int 1)) |>.bind fun v => m_hold (bld n xs) (.lst (bo.map pr2)) (.lst (cs.map D.int)) (.lst (ss.map D.int)) v else if isP p "ring" 2 = true then o2 dIx (some p) (some (.int 1)) |>.bind fun v => m_is_cheaper_ring (bld n xs) (.lst (bo.map pr2)) (.lst (cs.map D.int)) (.lst (ss.map D.int)) v else some (.bl false) := by
  unfold m_shows_price
  have q1 := paper_ok (d := p) (k := "pressures") (n := 2) hp kP (by decide)
  have q2 := paper_ok (d := p) (k := "ring") (n := 2) hp kR (by decide)
  rw [c4_s, reqs_ok S, bs, c3_s]
  simp only [Int.cast_ofNat_Int] at q1 q2
  rw [q1, o1_some, tru_bl, bs, c3_s, q2, o1_some, tru_bl, bs]
  cases isP p "pressures" 2 with
  | true =>
    simp only [if_true]
    cases (o2 dIx (some p) (some (.int 1))) <;> rfl
  | false =>
    simp only [Bool.false_eq_true, if_false]
    cases isP p "ring" 2 with
    | true =>
      simp only [if_true]
      cases (o2 dIx (some p) (some (.int 1))) <;> rfl
    | false => rfl
theorem hdP (v : D) : hd1 (.tup [.str "pressures", v]) = true := kP
theorem hdR (v : D) : hd1 (.tup [.str "ring", v]) = true := kR
theorem price_p (S : Setg n xs bo cs ss) (hx : ∀ x ∈ xs, DOk n x) (lp : ps.length = n) : m_shows_price (bld n xs) (.lst (bo.map pr2)) (.lst (cs.map D.int)) (.lst (ss.map D.int)) (.tup [.str "pressures", .tup (ps.map D.int)]) = some (.bl (holdB xs bo cs ss ps)) := by
  rw [price_gen S (hdP _), isP2, if_pos (by decide +kernel), o2_some, dIx_tup, atI_1, bs, hold_gen hx S.lb S.lc ((fit_len S.st).trans S.lb) (.inl rfl) lp]
theorem price_pn {v : D} (S : Setg n xs bo cs ss) (h : notInts n v = true) : m_shows_price (bld n xs) (.lst (bo.map pr2)) (.lst (cs.map D.int)) (.lst (ss.map D.int)) (.tup [.str "pressures", v]) = some (.bl false) := by
  rw [price_gen S (hdP _), isP2, if_pos (by decide +kernel), o2_some, dIx_tup, atI_1, bs, hold_no h]
theorem rp_ne : (("ring" : Str) == "pressures") = false := by decide +kernel
theorem price_rn {v : D} (S : Setg n xs bo cs ss) (h : badR xs bo ss v = true) : m_shows_price (bld n xs) (.lst (bo.map pr2)) (.lst (cs.map D.int)) (.lst (ss.map D.int)) (.tup [.str "ring", v]) = some (.bl false) := by
  rw [price_gen S (hdR _), isP2, if_neg (by rw [rp_ne]; decide), isP2, if_pos (by decide +kernel), o2_some, dIx_tup, atI_1, bs, ring_no S.lb ((fit_len S.st).trans S.lb) (by have := S.nx; omega) h]
theorem price_r {rs : List (Int × Int)} (S : Setg n xs bo cs ss) (hl : rs.length ≤ 1000) : m_shows_price (bld n xs) (.lst (bo.map pr2)) (.lst (cs.map D.int)) (.lst (ss.map D.int)) (.tup [.str "ring", .tup (rs.map pr2)]) = some (.bl (ringB xs bo cs ss rs)) := by
  rw [price_gen S (hdR _), isP2, if_neg (by rw [rp_ne]; decide), isP2, if_pos (by decide +kernel), o2_some, dIx_tup, atI_1, bs, ring_gen S.lb ((fit_len S.st).trans S.lb) S.lc (by have := S.nx; omega) hl S.co]
theorem price_no {p : D} (S : Setg n xs bo cs ss) (hp : hd1 p = true) (h1 : isP p "pressures" 2 = false) (h2 : isP p "ring" 2 = false) : m_shows_price (bld n xs) (.lst (bo.map pr2)) (.lst (cs.map D.int)) (.lst (ss.map D.int)) p = some (.bl false) := by
  rw [price_gen S hp, h1, h2]
  rfl
end
/-! what is held -/
def pat5 : Nat → List Int
  | 0 => []
  | k + 1 => [3, 4, 13, 5, 5] ++ pat5 k
theorem pat5_len : ∀ k, (pat5 k).length = 5 * k
  | 0 => rfl
  | k + 1 => by simp [pat5, pat5_len k]; omega
theorem pat5_mem : ∀ (k : Nat), ∀ b ∈ pat5 k, 0 < b ∧ b < 1073741824
  | 0, b, hb => by cases hb
  | k + 1, b, hb => by
    rcases List.mem_append.mp hb with z | z
    · simp at z
      rcases z with z | z | z | z <;> subst z <;> omega
    · exact pat5_mem k b z
theorem pat5_at : ∀ (k i j : Nat), i < k → j < 5 → (pat5 k)[5 * i + j]? = [(3 : Int), 4, 13, 5, 5][j]?
  | 0, i, j, h, _ => by omega
  | k + 1, 0, j, _, hj => by
    unfold pat5
    rw [List.getElem?_append_left (by simp; omega)]
    simp
  | k + 1, i + 1, j, h, hj => by
    unfold pat5
    rw [List.getElem?_append_right (by simp; omega)]
    have e : 5 * (i + 1) + j - [(3 : Int), 4, 13, 5, 5].length = 5 * i + j := by simp; omega
    rw [e]
    exact pat5_at k i j (by omega) hj
theorem pat5_rep (k : Nat) : (List.replicate k ([3, 4, 13, 5, 5] : List Int)).flatten = pat5 k := by
  induction k with
  | zero => rfl
  | succ k ih => rw [List.replicate_succ, List.flatten_cons, ih]; rfl
structure HeldJ (xs : List (Nat × Nat × Int)) (ps : List Int) (j : Nat) (b : Int × Int) (s c : Int) : Prop where
  lo : -6 ≤ b.1
  hi : b.2 ≤ 10
  sp : b.1 ≤ s ∧ s ≤ b.2
  cc : -9 ≤ c ∧ c ≤ 9
  h1 : s < b.2 → riseJ xs ps j ≤ c
  h2 : b.1 < s → c ≤ riseJ xs ps j
/-- lists as they grow -/
theorem getD_app_lt {α : Type} (l : List α) (a d : α) {j : Nat} (h : j < l.length) : (l ++ [a]).getD j d = l.getD j d := by
  simp [List.getD, List.getElem?_append_left h]
theorem getD_app_eq {α : Type} (l : List α) (a d : α) : (l ++ [a]).getD l.length d = a := by simp [List.getD]
theorem held_ok (ns : List Int) {n : Nat} {xs : List (Nat × Nat × Int)} {ps : List Int} (hx : ∀ x ∈ xs, DOk n x) (hm : xs.length ≤ 100) (lp : ps.length = n) (hp : ∀ p ∈ ps, -3 ≤ p ∧ p ≤ 3) :
    ∃ (bo : List (Int × Int)) (cs ss : List Int), m_law_held (.scr ns) (.lst (xs.map dct)) (.lst (ps.map D.int)) = some (.lst [.lst (bo.map pr2), .lst (cs.map D.int), .lst (ss.map D.int)]) ∧ bo.length = xs.length ∧ cs.length = xs.length ∧ ss.length = xs.length ∧ ∀ j, j < xs.length → HeldJ xs ps j (bo.getD j (0, 0)) (ss.getD j 0) (cs.getD j 0) := by
  obtain ⟨vs, hd, hl⟩ := draw_ok (cell ns 3) (pat5 xs.length) (pat5_mem _) (by rw [pat5_len]; omega)
  have dr : ∀ i j : Nat, i < xs.length → j < 5 → ∀ b : Int, [(3 : Int), 4, 13, 5, 5][j]? = some b → ∃ v : Int, dIx (.lst (vs.map D.int)) (.int ((5 * i + j : Nat) : Int)) = some (.int v) ∧ 0 ≤ v ∧ v < b := fun i j hi hj b hb => by
    obtain ⟨x, e1, e2, e3⟩ := hl.at (5 * i + j) b (by rw [pat5_at _ _ _ hi hj, hb])
    exact ⟨x, ixm e1, e2, e3⟩
  have rep : dMul (.lst [.int 3, .int 4, .int 13, .int 5, .int 5]) (.int (xs.length : Nat)) = some (.lst ((pat5 xs.length).map D.int)) := by
    rw [dMul_rep (by omega) (by simp; omega), ← pat5_rep, List.map_flatten, List.map_replicate]
    rfl
  unfold m_law_held
  have cc := cell_ok ns 3
  simp only [Int.cast_ofNat_Int] at cc
  rw [c2_s, cc, oCons_some, oCons_some, oCons_some, oCons_some, oCons_some, o1_some, dLst5, c1_s, dLen_lst, List.length_map, o2_some, rep, c2_s, hd, bs, o1_some, dLst0, bs, bs, bs, oCons_some, o1_some, dRange1_s (by omega), bs]
  have hlen : (ranged 0 (xs.length : Int)).length = xs.length := by rw [ranged_len]; omega
  obtain ⟨b', e1, bo, ss, cs, hb, l1, l2, l3, hh⟩ := foldO_inv0 (f := m_law_held_L1 (.lst (ps.map D.int)) (.lst (xs.map dct)) (.lst (vs.map D.int))) (fun i b => ∃ (bo : List (Int × Int)) (ss cs : List Int), b = (.lst (bo.map pr2), .lst (ss.map D.int), .lst (cs.map D.int)) ∧ bo.length = i ∧ ss.length = i ∧ cs.length = i ∧ ∀ j, j < i → HeldJ xs ps j (bo.getD j (0, 0)) (ss.getD j 0) (cs.getD j 0)) (ranged 0 (xs.length : Int)) (.lst [], .lst [], .lst []) ⟨[], [], [], rfl, rfl, rfl, rfl, fun j hj => by omega⟩ (fun i hi b ⟨bo, ss, cs, hb, l1, l2, l3, hh⟩ => by
    subst hb
    have e0 : (ranged 0 (xs.length : Int))[i] = .int (i : Int) := by rw [ranged_get]; simp
    rw [hlen] at hi
    obtain ⟨p, p1, p2, p3⟩ := dr i 0 hi (by decide) 3 rfl
    obtain ⟨q, q1, q2, q3⟩ := dr i 1 hi (by decide) 4 rfl
    obtain ⟨r, r1, r2, r3⟩ := dr i 2 hi (by decide) 13 rfl
    obtain ⟨t, t1, t2, t3⟩ := dr i 3 hi (by decide) 5 rfl
    obtain ⟨u, u1, u2, u3⟩ := dr i 4 hi (by decide) 5 rfl
    have c0 : ((5 * i + 0 : Nat) : Int) = 5 * (i : Int) := by omega
    have c1 : ((5 * i + 1 : Nat) : Int) = 5 * (i : Int) + 1 := by omega
    have c2 : ((5 * i + 2 : Nat) : Int) = 5 * (i : Int) + 2 := by omega
    have c3 : ((5 * i + 3 : Nat) : Int) = 5 * (i : Int) + 3 := by omega
    have c4 : ((5 * i + 4 : Nat) : Int) = 5 * (i : Int) + 4 := by omega
    rw [c0] at p1
    rw [c1] at q1
    rw [c2] at r1
    rw [c3] at t1
    rw [c4] at u1
    obtain ⟨d1, d2, d3⟩ := hx _ (xin (0, 0, 0) hi)
    have x1 := ixmD (f := dct) (xs := xs) (i := i) (0, 0, 0) hi
    have p1' := ixmD (f := D.int) (xs := ps) (i := (xs.getD i (0, 0, 0)).1) 0 (by omega)
    have p2' := ixmD (f := D.int) (xs := ps) (i := (xs.getD i (0, 0, 0)).2.1) 0 (by omega)
    have b1 := hp _ (xin (xs := ps) 0 (show (xs.getD i (0, 0, 0)).1 < ps.length by omega))
    have b2 := hp _ (xin (xs := ps) 0 (show (xs.getD i (0, 0, 0)).2.1 < ps.length by omega))
    have rj : ps.getD (xs.getD i (0, 0, 0)).2.1 0 - ps.getD (xs.getD i (0, 0, 0)).1 0 = riseJ xs ps i := rfl
    have rb : -6 ≤ riseJ xs ps i ∧ riseJ xs ps i ≤ 6 := by rw [← rj]; omega
    have bl : (bo.map pr2).length < 16777216 := by rw [List.length_map]; omega
    have sl : (ss.map D.int).length < 16777216 := by rw [List.length_map]; omega
    have cl : (cs.map D.int).length < 16777216 := by rw [List.length_map]; omega
    have fin : ∀ (s c : Int), HeldJ xs ps i (r - 6, r - 6 + t) s c → ∃ b', some (D.lst (bo.map pr2 ++ [.tup [.int (r - 6), .int (r - 6 + t)]]), D.lst (ss.map D.int ++ [.int s]), D.lst (cs.map D.int ++ [.int c])) = some b' ∧ ∃ (bo : List (Int × Int)) (ss cs : List Int), b' = (.lst (bo.map pr2), .lst (ss.map D.int), .lst (cs.map D.int)) ∧ bo.length = i + 1 ∧ ss.length = i + 1 ∧ cs.length = i + 1 ∧ ∀ j, j < i + 1 → HeldJ xs ps j (bo.getD j (0, 0)) (ss.getD j 0) (cs.getD j 0) := fun s c hJ => by
      refine ⟨_, rfl, bo ++ [(r - 6, r - 6 + t)], ss ++ [s], cs ++ [c], by simp [pr2], by simp [l1], by simp [l2], by simp [l3], fun j hj => ?_⟩
      by_cases hji : j < i
      · rw [getD_app_lt _ _ _ (by omega), getD_app_lt _ _ _ (by omega), getD_app_lt _ _ _ (by omega)]
        exact hh j hji
      · have : j = i := by omega
        subst this
        have g1 := getD_app_eq bo (r - 6, r - 6 + t) (0, 0)
        have g2 := getD_app_eq ss s 0
        have g3 := getD_app_eq cs c 0
        rw [l1] at g1
        rw [l2] at g2
        rw [l3] at g3
        rw [g1, g2, g3]
        exact hJ
    rw [e0]
    unfold m_law_held_L1
    simp only [o2_some, x1]
    simp only [dct, dIx_tup, atI_0, atI_1, o2_some, p1', p2', dSub_ii, bs, mul5, dAdd_ii, r1, t1, rj, oCons_some, o1_some, dTup2, dApp_s bl, p1, u1, q1, c1_s, dInt_i, dMod_ii (show 0 < t + 1 by omega), dLst3, dNeg_i]
    have u4 : 0 ≤ u % (t + 1) := Int.emod_nonneg _ (by omega)
    have u5 : u % (t + 1) < t + 1 := Int.emod_lt_of_pos _ (by omega)
    have hp3 : p = 0 ∨ p = 1 ∨ p = 2 := by omega
    rcases hp3 with hp3 | hp3 | hp3
    · subst hp3
      simp only [dIx_lst, atI_0, bs, dApp_s sl, o2_some, mulS (show -1000000000 ≤ (1 : Int) ∧ (1 : Int) ≤ 1000000000 by decide), dAdd_ii, dApp_s cl]
      exact fin _ _ ⟨by (try dsimp only); omega, by (try dsimp only); omega, by (try dsimp only); omega, by omega, fun _ => by omega, fun h => by (try dsimp only at h); omega⟩
    · subst hp3
      simp only [dIx_lst, atI_1, bs, dApp_s sl, o2_some, mulS (show -1000000000 ≤ (-1 : Int) ∧ (-1 : Int) ≤ 1000000000 by decide), dAdd_ii, dApp_s cl]
      exact fin _ _ ⟨by (try dsimp only); omega, by (try dsimp only); omega, by (try dsimp only); omega, by omega, fun h => by (try dsimp only at h); omega, fun h => by omega⟩
    · subst hp3
      simp only [dIx_lst, atI_2, bs, dApp_s sl, o2_some, mulS (show -1000000000 ≤ (0 : Int) ∧ (0 : Int) ≤ 1000000000 by decide), dAdd_ii, dApp_s cl]
      exact fin _ _ ⟨by (try dsimp only); omega, by (try dsimp only); omega, by (try dsimp only); omega, by omega, fun h => by omega, fun h => by omega⟩)
  refine ⟨bo, cs, ss, ?_, by rw [l1, hlen], by rw [l3, hlen], by rw [l2, hlen], fun j hj => hh j (by rw [hlen]; exact hj)⟩
  rw [e1, hb, bs, oCons_some, oCons_some, oCons_some, o1_some, dLst3]
end Mi
namespace Mi
open PySem L2
/-- what the law draws: a building, what is held -/
structure Hyp (n : Nat) (xs : List (Nat × Nat × Int)) (bo : List (Int × Int)) (cs ss ps : List Int) : Prop where
  n1 : 1 ≤ n
  n8 : n ≤ 8
  nx : xs.length ≤ 16
  hx : ∀ x ∈ xs, DOk n x
  lp : ps.length = n
  lb : bo.length = xs.length
  lc : cs.length = xs.length
  ls : ss.length = xs.length
  hh : ∀ j, j < xs.length → HeldJ xs ps j (bo.getD j (0, 0)) (ss.getD j 0) (cs.getD j 0)
  rb : ∀ j, j < xs.length → -6 ≤ riseJ xs ps j ∧ riseJ xs ps j ≤ 6
theorem mem_getD {α : Type} {l : List α} {a : α} (d : α) (h : a ∈ l) : ∃ j, j < l.length ∧ l.getD j d = a := by
  obtain ⟨j, hj, e⟩ := List.getElem_of_mem h
  exact ⟨j, hj, by simp [List.getD, hj, e]⟩
section
variable {n : Nat} {xs : List (Nat × Nat × Int)} {bo : List (Int × Int)} {cs ss ps : List Int}
theorem Hyp.fit (h : Hyp n xs bo cs ss ps) : fitB bo ss = true := by
  unfold fitB
  rw [decide_eq_true (h.ls.trans h.lb.symm), Bool.true_and, List.all_eq_true]
  intro j hj
  have := (h.hh j (by rw [← h.lb]; exact List.mem_range.mp hj)).sp
  simp [-List.getD_eq_getElem?_getD, this.1, this.2]
theorem Hyp.bd (h : Hyp n xs bo cs ss ps) : BdsOk bo := fun b hb => by
  obtain ⟨j, hj, e⟩ := mem_getD (0, 0) hb
  have := h.hh j (by rw [← h.lb]; exact hj)
  rw [e] at this
  have h1 := this.lo
  have h2 := this.hi
  have h3 := this.sp
  omega
theorem Hyp.co (h : Hyp n xs bo cs ss ps) : ∀ c ∈ cs, -9 ≤ c ∧ c ≤ 9 := fun c hc => by
  obtain ⟨j, hj, e⟩ := mem_getD 0 hc
  have := h.hh j (by rw [← h.lc]; exact hj)
  rw [e] at this
  exact this.cc
theorem Hyp.S (h : Hyp n xs bo cs ss ps) : Setg n xs bo cs ss := ⟨h.nx, h.lb, h.bd, h.lc, h.co, h.fit⟩
theorem Hyp.held (h : Hyp n xs bo cs ss ps) : holdB xs bo cs ss ps = true := by
  unfold holdB
  rw [List.all_eq_true]
  intro j hj
  have q := h.hh j (List.mem_range.mp hj)
  unfold holdJ
  by_cases a1 : ss.getD j 0 < (bo.getD j (0, 0)).2
  · have e1 : ¬ cs.getD j 0 < riseJ xs ps j := by have := q.h1 a1; omega
    by_cases a2 : (bo.getD j (0, 0)).1 < ss.getD j 0
    · have e2 : ¬ riseJ xs ps j < cs.getD j 0 := by have := q.h2 a2; omega
      rw [decide_eq_false e1, decide_eq_false e2]
      simp
    · rw [decide_eq_false e1, decide_eq_false a2]
      simp
  · rw [decide_eq_false a1]
    by_cases a2 : (bo.getD j (0, 0)).1 < ss.getD j 0
    · have e2 : ¬ riseJ xs ps j < cs.getD j 0 := by have := q.h2 a2; omega
      rw [decide_eq_false e2]
      simp
    · rw [decide_eq_false a2]
      simp
theorem getD_map {α β : Type} (f : α → β) (l : List α) (j : Nat) (d : α) (e : β) (h : j < l.length) : (l.map f).getD j e = f (l.getD j d) := by
  simp [List.getD, h]
theorem hold_lift (hx : ∀ x ∈ xs, DOk n x) (lp : ps.length = n) (L : Int) : holdB xs bo cs ss (ps.map fun p => p - L) = holdB xs bo cs ss ps := by
  unfold holdB
  rw [Bool.eq_iff_iff, List.all_eq_true, List.all_eq_true]
  have : ∀ j, j ∈ List.range xs.length → holdJ xs bo cs ss (ps.map fun p => p - L) j = holdJ xs bo cs ss ps j := fun j hj => by
    obtain ⟨d1, d2, d3⟩ := hx _ (xin (0, 0, 0) (List.mem_range.mp hj))
    have e : riseJ xs (ps.map fun p => p - L) j = riseJ xs ps j := by
      unfold riseJ
      rw [getD_map _ _ _ 0 _ (by omega), getD_map _ _ _ 0 _ (by omega)]
      omega
    unfold holdJ
    rw [e]
  exact ⟨fun h j hj => by rw [← this j hj]; exact h j hj, fun h j hj => by rw [this j hj]; exact h j hj⟩
theorem all_ty_ints (l : List Int) : (l.map D.int).all ty = true := by
  rw [List.all_eq_true]
  intro d hd
  obtain ⟨i, _, rfl⟩ := List.mem_map.mp hd
  rfl
theorem all_tyd_ints (l : List Int) : (l.map D.int).all tyd = true := by
  rw [List.all_eq_true]
  intro d hd
  obtain ⟨i, _, rfl⟩ := List.mem_map.mp hd
  rfl
theorem bad_ints (l : List Int) : badR xs bo ss (.tup (l.map D.int)) = true := by
  unfold badR
  cases l with
  | nil => simp
  | cons a l =>
    dsimp only
    rw [all_tyd_ints]
    simp [openD]
theorem notInts_app {l : List Int} {d : D} (ht : ty d = true) (hd : ∀ i, d ≠ .int i) : notInts n (.tup (l.map D.int ++ [d])) = true := by
  unfold notInts
  have h1 : (l.map D.int ++ [d]).all ty = true := by rw [List.all_append, all_ty_ints]; simp [ht]
  have h2 : (l.map D.int ++ [d]).any notI = true := by
    rw [List.any_append]
    have : notI d = true := by
      cases d with
      | int i => exact absurd rfl (hd i)
      | _ => rfl
    simp [this]
  dsimp only
  rw [h1, h2]
  simp
theorem notInts_len {l : List D} (h : l.length ≠ n) : notInts n (.tup l) = true := by
  unfold notInts
  simp [h]
theorem cp_ne : (("cheapest" : Str) == "pressures") = false := by decide +kernel
theorem hdC (l : List D) : hd1 (.tup (.str "cheapest" :: l)) = true := kC
/-- fresh costs -/
theorem Setg.fresh (S : Setg n xs bo cs ss) {k : Nat} {v : Int} (hv : -9 ≤ v ∧ v ≤ 9) : Setg n xs bo (cs.set k v) ss :=
  ⟨S.nx, S.lb, S.bd, by rw [List.length_set]; exact S.lc, fun c hc => by
    rcases List.mem_or_eq_of_mem_set hc with z | z
    · exact S.co c z
    · rw [z]; exact hv, S.st⟩
theorem L3_ok {b bo' co st : D} {d : D} (h : m_shows_price b bo' co st d = some (.bl false)) : m_law_pressed_L3 b bo' co st () d = some (.nx ()) := by
  unfold m_law_pressed_L3
  rw [c5_s, h, o2_some, dIsNot_bb, o1_some, tru_bl, bs]
  rfl
theorem L2_ok {b bo' co st : D} {d : D} (h : m_shows_price b bo' co st d = some (.bl true)) : m_law_pressed_L2 b bo' co st () d = some (.nx ()) := by
  unfold m_law_pressed_L2
  rw [c5_s, h, o2_some, dIsNot_bb, o1_some, tru_bl, bs]
  rfl
theorem ranged_m12 : ranged (-1) 2 = [.int (-1), .int 0, .int 1] := by
  show (List.range 3).map _ = _
  rfl
theorem pressed_ok (h : Hyp n xs bo cs ss ps) : m_law_pressed (bld n xs) (.lst (xs.map dct)) (.lst (bo.map pr2)) (.lst (cs.map D.int)) (.lst (ss.map D.int)) (.lst (ps.map D.int)) = some (.bl true) := by
  have S := h.S
  have n1 := h.n1
  have n8 := h.n8
  have lp := h.lp
  obtain ⟨L, hL⟩ : ∃ L : Int, dPow (.int 10) (.int 30) = some (.int L) := ⟨_, dPow_ii ⟨by omega, by omega, by omega⟩⟩
  unfold m_law_pressed
  have e1 : dComp m_law_pressed_C1 (ps.map D.int) = some (.lst ((ps.map fun p => p - L).map D.int)) := by
    rw [dComp_map (g := fun d => match d with | .int v => .int (v - L) | _ => .non) (by rw [List.length_map]; omega)]
    · simp [List.map_map, Function.comp_def]
    · intro d hd
      obtain ⟨v, _, rfl⟩ := List.mem_map.mp hd
      unfold m_law_pressed_C1
      rw [o2_some, hL, o2_some, dSub_ii, ms]
  rw [c1_s, dTuple_l, oCons_some, oCons_some, o1_some, dTup2, bs, o1_some, dItems_lst, bs, e1, c1_s, dTuple_l, oCons_some, oCons_some, o1_some, dTup2, bs, oCons_some, oCons_some, o1_some, dLst2, o1_some, dItems_lst, bs]
  rw [loopO_nx fun d hd => ?_]
  · have cf : (n : Int) - 1 = ((n - 1 : Nat) : Int) := by omega
    have hP : ∀ d : D, dAdd (.tup (ps.map D.int)) (.tup [d]) = some (.tup (ps.map D.int ++ [d])) := fun d => dAdd_tt (by simp; omega)
    have hF : ∀ d : D, dAdd (.tup ((ps.map D.int).take (n - 1))) (.tup [d]) = some (.tup ((ps.map D.int).take (n - 1) ++ [d])) := fun d => dAdd_tt (by simp; omega)
    simp only [bs, Out.thnD_nx, o2_some, dIx_tup, atI_1, c1_s, dLen_lst, List.length_map, lp, dSub_ii, cf, o1_some, dI_i, ms, oCut_s, dCut_t]
    rw [cut_to (by rw [List.length_map]; omega)]
    simp only [bs, oCons_some, o1_some, dTup0, dTup1, dTup2, dTup3, dList_l, dList_t, dTuple_l, hP, hF, dLst8, dLst3, o2_some]
    rw [dAdd_tt (by simp)]
    simp only [oCons_some, o1_some, dTup0, dTup1, dTup2, dTup3, dLst8, dLst3, o2_some, bs]
    rw [dAdd_ll (by simp), bs, dAdd_ll (by simp), bs, dItems_lst, bs]
    rw [loopO_nx fun d hd => ?_]
    · simp only [bs, Out.thnD_nx]
      have lx : (xs.length : Int) < 100 := by have := S.nx; omega
      rw [dRange1_s (by omega), bs, ranged0]
      rw [loopO_nxI fun j hj => ?_]
      · simp only [bs, Out.thnD_nx]
        rw [dRange1_s (by omega), bs, ranged0]
        rw [loopO_nxI fun a ha => ?_]
        · simp only [bs, Out.thnD_nx]
        · -- one pressure more or less
          unfold m_law_pressed_L7
          rw [o1_some, dNeg_i, oCons_some, oCons_some, o1_some, dLst2, o1_some, dItems_lst, bs]
          rw [loopO_nx fun d hd => ?_]
          · rfl
          · have : ∃ m : Int, d = .int m := by
              simp only [List.mem_cons, List.not_mem_nil, or_false] at hd
              rcases hd with z | z <;> exact ⟨_, z⟩
            obtain ⟨m, rfl⟩ := this
            unfold m_law_pressed_L6
            rw [o2_some, ixmD 0 (by omega), o2_some, dAdd_ii, c3_s, with_ok (by omega) (by omega), bs, c5_s]
            rw [lholds_ok h.hx h.lb h.lc h.ls (by rw [List.length_set]; exact lp) (by omega), bs, c1_s, dTuple_l, oCons_some, oCons_some, o1_some, dTup2, c5_s, price_p S h.hx (by rw [List.length_set]; exact lp), c2_s, says_t]
            rfl
      · -- one cost anew
        unfold m_law_pressed_L5
        rw [o1_some, dNeg_i, oCons_some, oCons_some, o1_some, dRange2_s (by omega), bs, ranged_m12]
        rw [loopO_nx fun d hd => ?_]
        · rfl
        · have : ∃ m : Int, d = .int m ∧ -1 ≤ m ∧ m ≤ 1 := by
            simp only [List.mem_cons, List.not_mem_nil, or_false] at hd
            rcases hd with z | z | z <;> exact ⟨_, z, by decide, by decide⟩
          obtain ⟨m, rfl, m1, m2⟩ := this
          obtain ⟨d1, d2, d3⟩ := h.hx _ (xin (0, 0, 0) hj)
          have x1 := ixmD (f := dct) (xs := xs) (i := j) (0, 0, 0) hj
          have p1' := ixmD (f := D.int) (xs := ps) (i := (xs.getD j (0, 0, 0)).1) 0 (by omega)
          have p2' := ixmD (f := D.int) (xs := ps) (i := (xs.getD j (0, 0, 0)).2.1) 0 (by omega)
          unfold m_law_pressed_L4
          simp only [o2_some, x1]
          simp only [dct, dIx_tup, atI_0, atI_1, o2_some, p1', p2', dSub_ii, dAdd_ii]
          have hJ := h.hh j hj
          have rb : -6 ≤ riseJ xs ps j ∧ riseJ xs ps j ≤ 6 := h.rb j hj
          have rj : ps.getD (xs.getD j (0, 0, 0)).2.1 0 - ps.getD (xs.getD j (0, 0, 0)).1 0 = riseJ xs ps j := rfl
          rw [rj]
          have S2 := S.fresh (k := j) (v := riseJ xs ps j + m) (by omega)
          have wk := with_ok (f := D.int) (xs := cs) (k := j) (v := riseJ xs ps j + m) (by rw [h.lc]; exact hj) (by rw [h.lc]; omega)
          rw [c3_s, wk, bs, c5_s, lholds_ok h.hx h.lb (by rw [List.length_set]; exact h.lc) h.ls lp (by omega), bs, c5_s, price_p S2 h.hx lp, c2_s, says_t]
          rfl
    · apply L3_ok
      simp only [List.mem_append, List.mem_cons, List.not_mem_nil, or_false] at hd
      have lt : ((ps.map D.int).take (n - 1)).length ≠ n := by simp; omega
      have tk : (ps.map D.int).take (n - 1) = (ps.take (n - 1)).map D.int := by rw [List.map_take]
      rcases hd with ((z | z | z | z | z | z | z | z) | z | z | z) | z | z | z <;> subst z
      · exact price_no S rfl rfl rfl
      · exact price_no S rfl rfl rfl
      · exact price_no S rfl rfl rfl
      · exact price_no S kP (by simp [isP]) (by simp [isP])
      · exact price_no S rfl rfl rfl
      · exact price_no S kP (by simp [isP]) (by simp [isP])
      · exact price_pn S rfl
      · exact price_rn S (bad_ints ps)
      · exact price_pn S (notInts_len (by simp; omega))
      · exact price_pn S (notInts_len lt)
      · rw [tk]; exact price_pn S (notInts_app rfl (by simp))
      · rw [tk]; exact price_pn S (notInts_app rfl (by simp))
      · exact price_no S (hdC _) (by simp [isP]) (by simp [isP])
      · exact price_rn S (bad_ints [])
  · apply L2_ok
    simp only [List.mem_cons, List.not_mem_nil, or_false] at hd
    rcases hd with z | z <;> subst z
    · rw [price_p S h.hx lp, h.held]
    · rw [price_p S h.hx (by rw [List.length_map]; exact lp), hold_lift h.hx lp, h.held]
end
end Mi
namespace Mi
open PySem L2
/-! gains -/
def gst (G : List Int) (x : (Nat × Nat × Int) × Int) : List Int :=
  let G1 := G.set x.1.1 (G.getD x.1.1 0 - x.2)
  G1.set x.1.2.1 (G1.getD x.1.2.1 0 + x.2)
def gains (n : Nat) (xs : List (Nat × Nat × Int)) (ss : List Int) : List Int := (xs.zip ss).foldl gst (List.replicate n 0)
theorem gst_len (G : List Int) (x : (Nat × Nat × Int) × Int) : (gst G x).length = G.length := by simp [gst]
theorem getD_set_ne (G : List Int) {i j : Nat} (v : Int) (h : i ≠ j) : (G.set i v).getD j 0 = G.getD j 0 := by
  simp [List.getD, List.getElem?_set_ne h]
theorem getD_set_eq (G : List Int) {i : Nat} (v : Int) (h : i < G.length) : (G.set i v).getD i 0 = v := by
  simp [List.getD, h]
theorem sum_set (G : List Int) {i : Nat} (v : Int) (h : i < G.length) : (G.set i v).sum = G.sum - G.getD i 0 + v := by
  induction G generalizing i with
  | nil => simp at h
  | cons a G ih =>
    cases i with
    | zero => simp [List.set]; omega
    | succ i =>
      have := ih (i := i) (by simpa using h)
      simp only [List.set_cons_succ, List.sum_cons, List.getD_cons_succ]
      omega
theorem gst_sum (G : List Int) (x : (Nat × Nat × Int) × Int) (h1 : x.1.1 < G.length) (h2 : x.1.2.1 < G.length) : (gst G x).sum = G.sum := by
  unfold gst
  dsimp only
  rw [sum_set _ _ (by rw [List.length_set]; exact h2), sum_set _ _ h1]
  omega
theorem mem_set_or {G : List Int} {i : Nat} {v a : Int} (h : a ∈ G.set i v) : a ∈ G ∨ a = v := List.mem_or_eq_of_mem_set h
theorem gst_bd (G : List Int) (x : (Nat × Nat × Int) × Int) {B b : Int} (h1 : x.1.1 < G.length) (h2 : x.1.2.1 < G.length) (hne : x.1.1 ≠ x.1.2.1) (hB : ∀ a ∈ G, -B ≤ a ∧ a ≤ B) (hb : -b ≤ x.2 ∧ x.2 ≤ b) (h0 : 0 ≤ b) : ∀ a ∈ gst G x, -(B + b) ≤ a ∧ a ≤ B + b := by
  intro a ha
  unfold gst at ha
  dsimp only at ha
  have g1 := hB _ (xin (xs := G) 0 h1)
  have g2 := hB _ (xin (xs := G) 0 h2)
  rcases mem_set_or ha with z | z
  · rcases mem_set_or z with y | y
    · have := hB a y; omega
    · omega
  · rw [getD_set_ne _ _ hne] at z
    omega
theorem fold_bd {n : Nat} {b : Int} (h0 : 0 ≤ b) : ∀ {zs : List ((Nat × Nat × Int) × Int)} {G : List Int} {B : Int}, G.length = n → (∀ z ∈ zs, (z.1.1 < n ∧ z.1.2.1 < n ∧ z.1.1 ≠ z.1.2.1) ∧ -b ≤ z.2 ∧ z.2 ≤ b) → (∀ a ∈ G, -B ≤ a ∧ a ≤ B) → (zs.foldl gst G).length = n ∧ (zs.foldl gst G).sum = G.sum ∧ ∀ a ∈ zs.foldl gst G, -(B + zs.length * b) ≤ a ∧ a ≤ B + zs.length * b
  | [], G, B, hl, _, hB => ⟨hl, rfl, fun a ha => by have := hB a ha; simp; omega⟩
  | z :: zs, G, B, hl, hz, hB => by
    obtain ⟨⟨z1, z2, z3⟩, z4⟩ := hz z (by simp)
    obtain ⟨a1, a2, a3⟩ := fold_bd h0 (zs := zs) (G := gst G z) (B := B + b) (by rw [gst_len, hl]) (fun y hy => hz y (by simp [hy])) (gst_bd G z (by omega) (by omega) z3 hB z4 h0)
    refine ⟨a1, by rw [List.foldl_cons, a2, gst_sum G z (by omega) (by omega)], fun a ha => ?_⟩
    have := a3 a ha
    have e : ((zs.length + 1 : Nat) : Int) * b = (zs.length : Int) * b + b := by rw [Int.natCast_add, Int.add_mul]; simp
    rw [List.length_cons, e]
    omega
section
variable {n : Nat} {xs : List (Nat × Nat × Int)} {bo : List (Int × Int)} {cs ss ps ns : List Int}
theorem gains_facts (hx : ∀ x ∈ xs, DOk n x) (hm : xs.length ≤ 16) (ls : ss.length = xs.length) (hs : ∀ s ∈ ss, -11 ≤ s ∧ s ≤ 11) : (gains n xs ss).length = n ∧ (gains n xs ss).sum = 0 ∧ ∀ a ∈ gains n xs ss, -176 ≤ a ∧ a ≤ 176 := by
  obtain ⟨a1, a2, a3⟩ := fold_bd (n := n) (b := 11) (by decide) (zs := xs.zip ss) (G := List.replicate n 0) (B := 0) (by simp) (fun z hz => by
    have z1 := hx _ (List.of_mem_zip hz).1
    exact ⟨⟨z1.1, z1.2.1, z1.2.2.1⟩, hs _ (List.of_mem_zip hz).2⟩) (fun a ha => by rw [(List.mem_replicate.mp ha).2]; simp)
  refine ⟨a1, by rw [gains, a2]; simp, fun a ha => ?_⟩
  have := a3 a ha
  have hz : (xs.zip ss).length ≤ 16 := by rw [List.length_zip]; omega
  omega
theorem dSet_i {G : List Int} {i : Nat} {v : Int} (h : i < G.length) : dSet (.lst (G.map D.int)) (.int (i : Int)) (.int v) = some (.lst ((G.set i v).map D.int)) := by
  unfold dSet
  dsimp only
  rw [List.length_map, ixN_nat h, ms]
  simp
theorem dIxL_eq (l : List D) (i : D) : dIxL (.lst l) i = match i with | .int i => atI l i | _ => none := by cases i <;> rfl
theorem ixL {G : List Int} {i : Nat} (h : i < G.length) : dIxL (.lst (G.map D.int)) (.int (i : Int)) = some (.int (G.getD i 0)) := by
  have := ixmD (f := D.int) (xs := G) (i := i) 0 h
  rw [dIx_lst] at this
  exact this
theorem dGetO_i {G : List Int} {i : Nat} (h : i < G.length) : dGetO (.lst (G.map D.int)) (.int (i : Int)) = some (.int (G.getD i 0)) := by
  have := ixmD (f := D.int) (xs := G) (i := i) 0 h
  rw [dIx_lst] at this
  exact this
theorem take_zip_succ {α β : Type} (as : List α) (bs' : List β) (a : α) (b : β) (i : Nat) (h1 : i < as.length) (h2 : i < bs'.length) : (as.zip bs').take (i + 1) = (as.zip bs').take i ++ [(as.getD i a, bs'.getD i b)] := by
  have hz : i < (as.zip bs').length := by rw [List.length_zip]; omega
  rw [List.take_succ_eq_append_getElem hz]
  simp [List.getD, h1, h2]
theorem lgains_ok (hx : ∀ x ∈ xs, DOk n x) (hm : xs.length ≤ 1000) (hn : n ≤ 1000) (ls : ss.length = xs.length) : m_law_gains (.int (n : Int)) (.lst (xs.map dct)) (.lst (ss.map D.int)) = some (.lst ((gains n xs ss).map D.int)) := by
  unfold m_law_gains
  rw [oCons_some, o1_some, dLst1, o2_some, dMulL_rep (by omega) (by simp; omega), rep1, bs, c1_s, dLen_lst, oCons_some, o1_some, List.length_map, dRange1_s (by omega), bs]
  have hlen : (ranged 0 (xs.length : Int)).length = xs.length := by rw [ranged_len]; omega
  obtain ⟨b', e1, hb, _⟩ := foldO_inv0 (f := m_law_gains_L1 (.lst (xs.map dct)) (.lst (ss.map D.int))) (fun i b => b = .lst ((((xs.zip ss).take i).foldl gst (List.replicate n 0)).map D.int) ∧ (((xs.zip ss).take i).foldl gst (List.replicate n 0)).length = n) (ranged 0 (xs.length : Int)) (.lst ((List.replicate n 0).map D.int)) ⟨rfl, by simp⟩ (fun i hi b ⟨hb, hl⟩ => by
    subst hb
    have e0 : (ranged 0 (xs.length : Int))[i] = .int (i : Int) := by rw [ranged_get]; simp
    rw [hlen] at hi
    rw [e0, take_zip_succ xs ss (0, 0, 0) 0 i hi (by omega), List.foldl_append, List.foldl_cons, List.foldl_nil]
    generalize hG : ((xs.zip ss).take i).foldl gst (List.replicate n 0) = G at *
    obtain ⟨d1, d2, d3⟩ := hx _ (xin (0, 0, 0) hi)
    have x1 := ixmD (f := dct) (xs := xs) (i := i) (0, 0, 0) hi
    have s1 := ixmD (f := D.int) (xs := ss) (i := i) 0 (by omega)
    have g1 := ixmD (f := D.int) (xs := G) (i := (xs.getD i (0, 0, 0)).1) 0 (by omega)
    refine ⟨_, ?_, rfl, by rw [gst_len]; exact hl⟩
    unfold m_law_gains_L1 gst
    simp only [o2_some, x1, s1]
    simp only [dct, dIx_tup, atI_0, atI_1, o2_some, g1, dSub_ii, bs]
    rw [dSet_i (by omega)]
    simp only [bs]
    rw [ixL (by rw [List.length_set]; omega)]
    simp only [o2_some, dAdd_ii, bs]
    rw [dSet_i (by rw [List.length_set]; omega)]
    rfl)
  rw [e1, hb, bs, hlen, List.take_of_length_le (by rw [List.length_zip]; omega)]
  rfl
theorem glist_ok {st : D} (hx : ∀ x ∈ xs, DOk n x) (hn : n ≤ 1000) (ls : ss.length = xs.length) (hst : dSeq st = some (ss.map D.int)) : m_gain_list (bld n xs) st = some (.lst ((gains n xs ss).map D.int)) := by
  unfold m_gain_list
  have er : o1 (dFld "Building" "rooms") (some (bld n xs)) = some (.int (n : Nat)) := by
    unfold bld
    rw [o1_some, fld1]
  have e2 : o1 dSeq (o1 (dFld "Building" "ducts") (some (bld n xs))) = some (xs.map dct) := by
    unfold bld
    rw [o1_some, fld2, o1_some, dSeq_tup]
  rw [er, e2, oCons_some, o1_some, dLst1, o2_some, dMulL_rep (by omega) (by simp; omega), rep1, bs, o1_some, hst, o2_some, bs]
  obtain ⟨b', e1, hb, _⟩ := foldO_inv0 (f := m_gain_list_L1) (fun i b => b = .lst ((((xs.zip ss).take i).foldl gst (List.replicate n 0)).map D.int) ∧ (((xs.zip ss).take i).foldl gst (List.replicate n 0)).length = n) ((xs.map dct).zip (ss.map D.int)) (.lst ((List.replicate n 0).map D.int)) ⟨rfl, by simp⟩ (fun i hi b ⟨hb, hl⟩ => by
    subst hb
    rw [List.length_zip, List.length_map, List.length_map] at hi
    have hi1 : i < xs.length := by omega
    have hi2 : i < ss.length := by omega
    have e0 : ((xs.map dct).zip (ss.map D.int))[i]'(by rw [List.length_zip, List.length_map, List.length_map]; exact hi) = (dct (xs.getD i (0, 0, 0)), .int (ss.getD i 0)) := by simp [List.getD, hi1, hi2]
    rw [e0, take_zip_succ xs ss (0, 0, 0) 0 i hi1 hi2, List.foldl_append, List.foldl_cons, List.foldl_nil]
    generalize hG : ((xs.zip ss).take i).foldl gst (List.replicate n 0) = G at *
    obtain ⟨d1, d2, d3⟩ := hx _ (xin (0, 0, 0) hi1)
    refine ⟨_, ?_, rfl, by rw [gst_len]; exact hl⟩
    unfold m_gain_list_L1 gst
    simp only [dct, un3, bs]
    rw [dGetO_i (by omega), bs, dSub_ii, bs, dSet_i (by omega), bs, dGetO_i (by rw [List.length_set]; omega), bs, dAddI_ii, bs, dSet_i (by rw [List.length_set]; omega)]
    rfl)
  rw [e1, hb, bs, List.length_zip, List.length_map, List.length_map, List.take_of_length_le (by rw [List.length_zip]; omega)]
  rfl
/-! a stream that serves -/
theorem serves_t (hx : ∀ x ∈ xs, DOk n x) (hn : n ≤ 1000) (lb : bo.length = xs.length) : m_serves (bld n xs) (.lst (bo.map pr2)) (.lst (ns.map D.int)) (.tup (ss.map D.int)) = some (.bl (fitB bo ss && decide (gains n xs ss = ns))) := by
  unfold m_serves
  rw [o1_some, isi_tup (ty_tup _), o1_some, tru_bl, oNot_s, c2_s, fits_gen (.inr rfl), o1_some, tru_bl, oNot_s, isT_tup, Bool.not_true, oOr_f, bs]
  cases q : fitB bo ss with
  | false => rfl
  | true =>
    have lf := fit_len q
    simp only [Bool.not_true, Bool.false_eq_true, if_false, Bool.true_and]
    rw [c2_s, glist_ok hx hn (lf.trans lb) (dSeq_tup _), o1_some, dList_l, o2_some, dEq_li]
theorem serves_l {l : List D} : m_serves (bld n xs) (.lst (bo.map pr2)) (.lst (ns.map D.int)) (.lst l) = some (.bl false) := by
  unfold m_serves
  rw [o1_some, isi_tup (ty_lst _), o1_some, tru_bl, oNot_s]
  rfl
/-! sets of rooms -/
theorem places_all {ks : List Nat} {c : Nat} (h : ∀ k ∈ ks, k < c) (hn : ks.Nodup) (hl : ks.length < 16777216) : m_are_places (.tup (ks.map fun (k : Nat) => D.int (k : Int))) (.int (c : Int)) = some (.bl true) := by
  unfold m_are_places
  rw [o1_some, isi_lt (ty_tup _), o1_some, tru_bl, oNot_s, bs]
  simp only [Bool.not_true, Bool.false_eq_true, if_false, bs, o1_some, dItems_tup]
  have hr : ks.map (fun (k : Nat) => D.int (k : Int)) = (List.range ks.length).map fun i => D.int (ks.getD i 0 : Nat) := by
    apply List.ext_getElem
    · simp
    · intro i h1 h2
      simp at h1
      simp [List.getD, h1]
  have key := loopO_idxS (γ := Empty) (f := m_are_places_L1 (.int (c : Int))) (g := fun i => D.int (ks.getD i 0 : Nat)) (n := ks.length) (r := .bl false) (p := fun _ => true)
    (S := fun i => D.dic ((ks.take i).map fun (i : Nat) => (Sum.inl (i : Int) : Key)) (List.replicate i (.bl true))) (fun i hi _ => by
      have hk := h _ (xin 0 hi)
      have ck : (ks.take i).length = (List.replicate i (D.bl true)).length := by simp; omega
      have hm : ks.getD i 0 ∉ ks.take i := fun z => by
        have e : ks.getD i 0 = ks[i] := by simp [List.getD, hi]
        rw [e] at z
        obtain ⟨j, hj, e2⟩ := List.getElem_of_mem z
        rw [List.length_take] at hj
        rw [List.getElem_take] at e2
        have := (List.getElem_inj (xs := ks) (h₀ := by omega) (h₁ := hi) hn).mp e2
        omega
      have b1 : okI 0 ((c : Int) - 1) (.int (ks.getD i 0 : Nat)) = true := by
        simp only [okI, Bool.and_eq_true, decide_eq_true_eq]
        omega
      have st : ks.take (i + 1) = ks.take i ++ [ks.getD i 0] := by
        have e : ks.getD i 0 = ks[i] := by simp [List.getD, hi]
        rw [e, List.take_succ_eq_append_getElem hi]
      unfold m_are_places_L1
      rw [o2_some, dSub_ii, c3_s, between_ok rfl, b1, o1_some, tru_bl, oNot_s, Bool.not_true, oOr_f, o2_some, dIn_keys ck, decide_eq_false hm, o1_some, tru_bl, bs, bs]
      simp only [Bool.false_eq_true, if_false, bs]
      rw [dSet_keys ck (hn.sublist (List.take_sublist _ _)) hm (by simp; omega), bs, ← st, ← List.replicate_succ']
      rfl)
  rw [List.take_zero, List.map_nil] at key
  rw [← hr, show (D.dic [] (List.replicate 0 (D.bl true))) = D.dic [] [] from rfl] at key
  rw [key, bs]
  simp
theorem up_sort {ks : List Int} (h : ks.Pairwise (· ≤ ·)) : sortI ks = ks := (sortI_of (List.Perm.refl ks) h).symm
theorem rooms_all (hn : 1 ≤ n) (h8 : n ≤ 1000) : m_is_room_set (.tup ((List.range n).map fun (k : Nat) => D.int (k : Int))) (.int (n : Int)) = some (.bl true) := by
  unfold m_is_room_set m_is_place_set
  have pl := places_all (ks := List.range n) (c := n) (fun k hk => List.mem_range.mp hk) List.nodup_range (by simp; omega)
  have ei : (List.range n).map (fun (k : Nat) => D.int (k : Int)) = ((List.range n).map fun (k : Nat) => (k : Int)).map D.int := by simp [Function.comp_def]
  have so : dSorted (.tup ((List.range n).map fun (k : Nat) => D.int (k : Int))) = some (.lst ((List.range n).map fun (k : Nat) => D.int (k : Int))) := by
    rw [ei]
    show (dInts (.tup (((List.range n).map fun (k : Nat) => (k : Int)).map D.int))).map _ = _
    unfold dInts
    dsimp only
    rw [asInts_map, ms, up_sort]
    rw [List.pairwise_map]
    exact List.pairwise_lt_range.imp fun {a b} h => by omega
  have l0 : ¬ ((((List.range n).map fun (k : Nat) => D.int (k : Int)).length : Int) ≤ 0) := by simp; omega
  rw [c2_s, o1_some, isi_tup (ty_tup _), isT_tup, oAndV_t, c2_s, pl, oAndV_t, c1_s, so, o1_some, dList_t, o2_some, ei, dEq_li, decide_eq_true rfl, oAndV_t, c1_s, dLen_tup, o2_some, dGt_ii]
  simp
  omega
theorem rof_all (hx : ∀ x ∈ xs, DOk n x) (lb : bo.length = xs.length) : m_range_of_gain (bld n xs) (.lst (bo.map pr2)) (.tup ((List.range n).map fun (k : Nat) => D.int (k : Int))) = some (.tup [.int 0, .int 0]) := by
  unfold m_range_of_gain
  have e2 : o1 dSeq (o1 (dFld "Building" "ducts") (some (bld n xs))) = some (xs.map dct) := by
    unfold bld
    rw [o1_some, fld2, o1_some, dSeq_tup]
  have ei : (List.range n).map (fun (k : Nat) => D.int (k : Int)) = ((List.range n).map fun (k : Nat) => (k : Int)).map D.int := by simp [Function.comp_def]
  have inn : ∀ k : Nat, k < n → dIn (.int (k : Int)) (.tup ((List.range n).map fun (k : Nat) => D.int (k : Int))) = some (.bl true) := fun k hk => by
    rw [ei, dIn_intsT, decide_eq_true (List.mem_map.mpr ⟨k, List.mem_range.mpr hk, rfl⟩)]
  rw [bs, bs, e2, o1_some, dSeq_lst, o2_some, bs]
  rw [foldO_fold (g := fun b _ => b) (b := (D.int 0, D.int 0)) (f := m_range_of_gain_L1 (.tup ((List.range n).map fun (k : Nat) => D.int (k : Int)))) (fun de hd b => ?_)]
  · have : ∀ l : List (D × D), l.foldl (fun (b : D × D) _ => b) (D.int 0, D.int 0) = (D.int 0, D.int 0) := by
      intro l
      induction l with
      | nil => rfl
      | cons a l ih => exact ih
    rw [this, bs, oCons_some, oCons_some, o1_some, dTup2]
  · obtain ⟨m1, m2⟩ := List.of_mem_zip hd
    obtain ⟨x, hxm, e1⟩ := List.mem_map.mp m1
    obtain ⟨y, _, e3⟩ := List.mem_map.mp m2
    obtain ⟨d1, d2, d3⟩ := hx x hxm
    unfold m_range_of_gain_L1
    rw [← e1, ← e3]
    simp only [dct, un3, pr2, un2, o2_some, inn _ d1, inn _ d2, dNotIn_of (inn _ d1), dNotIn_of (inn _ d2), o1_some, tru_bl, oAnd_t, Bool.not_true, bs, Bool.false_eq_true, if_false]
theorem refused_all (k : Str) (hk : k = "starved" ∨ k = "flooded") (hn : 1 ≤ n) (h8 : n ≤ 1000) (hx : ∀ x ∈ xs, DOk n x) (lb : bo.length = xs.length) (ln : ns.length = n) : m_is_refused_set (bld n xs) (.lst (bo.map pr2)) (.lst (ns.map D.int)) (.tup [.str k, .tup ((List.range n).map fun (k : Nat) => D.int (k : Int))]) = some (.bl (if k == "starved" then decide (0 < ns.sum) else decide (ns.sum < 0))) := by
  have sk : PyData.strOk k = true := by rcases hk with h | h <;> subst h <;> decide +kernel
  have hd : hd1 (.tup [.str k, .tup ((List.range n).map fun (k : Nat) => D.int (k : Int))]) = true := sk
  have q1 := paper_ok (d := .tup [.str k, .tup ((List.range n).map fun (k : Nat) => D.int (k : Int))]) (k := "starved") (n := 2) hd kSt (by decide)
  have q2 := paper_ok (d := .tup [.str k, .tup ((List.range n).map fun (k : Nat) => D.int (k : Int))]) (k := "flooded") (n := 2) hd kFl (by decide)
  simp only [Int.cast_ofNat_Int, isP2] at q1 q2
  have er : o1 (dFld "Building" "rooms") (some (bld n xs)) = some (.int (n : Nat)) := by
    unfold bld
    rw [o1_some, fld1]
  unfold m_is_refused_set
  rw [c3_s, q1, c3_s, q2, o1_some, tru_bl, o1_some, tru_bl, oNot_s, oNot_s]
  have hq : oAnd (some (!(k == ("starved" : Str)))) (some (!(k == ("flooded" : Str)))) = some false := by
    rcases hk with h | h <;> subst h <;> decide +kernel
  have cm : dComp (m_is_refused_set_C1 (.lst (ns.map D.int))) ((List.range n).map fun (k : Nat) => D.int (k : Int)) = some (.lst (ns.map D.int)) := by
    have cg : ∀ d ∈ (List.range n).map fun (k : Nat) => D.int (k : Int), m_is_refused_set_C1 (.lst (ns.map D.int)) d = some (some (match d with | .int i => .int (ns.getD i.toNat 0) | _ => .non)) := fun d hd => by
      obtain ⟨i, hi, rfl⟩ := List.mem_map.mp hd
      unfold m_is_refused_set_C1
      rw [o2_some, ixmD 0 (by rw [ln]; exact List.mem_range.mp hi), ms]
      simp
    rw [dComp_map (by simp; omega) cg, List.map_map]
    congr 2
    apply List.ext_getElem
    · simp [ln]
    · intro i h1 h2
      simp at h1 h2
      simp [List.getD, h2]
  rw [hq, bs]
  simp only [Bool.false_eq_true, if_false, o2_some, dIx_tup, atI_0, atI_1]
  rw [er, c2_s, rooms_all hn h8, o1_some, tru_bl, oNot_s, bs]
  simp only [Bool.not_true, Bool.false_eq_true, if_false]
  rw [c3_s, rof_all hx lb, bs]
  simp only [un2]
  rw [o1_some, dItems_tup, bs, cm, c1_s, dSum_l, bs, dEq_ss sk kSt, o1_some, tru_bl, bs]
  simp only [o2_some, dGt_ii, dLt_ii]
  cases k == ("starved" : Str) <;> rfl
end
end Mi
namespace Mi
open PySem L2
section
variable {n : Nat} {xs : List (Nat × Nat × Int)} {bo : List (Int × Int)} {cs ss ps ns : List Int}
theorem hdSt (v : D) : hd1 (.tup [.str "starved", v]) = true := kSt
theorem hdFl (v : D) : hd1 (.tup [.str "flooded", v]) = true := kFl
theorem hdS (v : D) : hd1 (.tup [.str "stream", v]) = true := kS
theorem cs_ne : (("cheapest" : Str) == "starved") = false := by decide +kernel
theorem cf_ne : (("cheapest" : Str) == "flooded") = false := by decide +kernel
theorem ps_ne : (("pressures" : Str) == "starved") = false := by decide +kernel
theorem pf_ne : (("pressures" : Str) == "flooded") = false := by decide +kernel
theorem ss_ne : (("stream" : Str) == "starved") = false := by decide +kernel
theorem sf_ne : (("stream" : Str) == "flooded") = false := by decide +kernel
theorem fs_ne : (("flooded" : Str) == "starved") = false := by decide +kernel
theorem st_eq : (("starved" : Str) == "starved") = true := by decide +kernel
/-- the parts of a setting for a cheapest paper -/
structure Setn (n : Nat) (xs : List (Nat × Nat × Int)) (bo : List (Int × Int)) (cs ns : List Int) : Prop where
  n1 : 1 ≤ n
  n8 : n ≤ 8
  nx : xs.length ≤ 16
  hx : ∀ x ∈ xs, DOk n x
  lb : bo.length = xs.length
  bd : BdsOk bo
  lc : cs.length = xs.length
  co : ∀ c ∈ cs, -9 ≤ c ∧ c ≤ 9
  ln : ns.length = n
  nb : ∀ c ∈ ns, -200 ≤ c ∧ c ≤ 200
theorem isP3 (k j : Str) (v w : D) : isP (.tup [.str k, v, w]) j 3 = (k == j) := by simp [isP]
theorem refused_no {p : D} (hp : hd1 p = true) (h1 : isP p "starved" 2 = false) (h2 : isP p "flooded" 2 = false) {b bo' ns' : D} : m_is_refused_set b bo' ns' p = some (.bl false) := by
  have q1 := paper_ok (d := p) (k := "starved") (n := 2) hp kSt (by decide)
  have q2 := paper_ok (d := p) (k := "flooded") (n := 2) hp kFl (by decide)
  simp only [Int.cast_ofNat_Int, h1, h2] at q1 q2
  unfold m_is_refused_set
  rw [c3_s, q1, c3_s, q2]
  rfl
theorem chp_t {v w : D} (S : Setn n xs bo cs ns) : m_shows_cheapest (bld n xs) (.lst (bo.map pr2)) (.lst (ns.map D.int)) (.lst (cs.map D.int)) (.tup [.str "cheapest", v, w]) = ((oNot (o1 tru (m_serves (bld n xs) (.lst (bo.map pr2)) (.lst (ns.map D.int)) v))).bind fun c => if c = true then some (.bl false) else m_hold (bld n xs) (.lst (bo.map pr2)) (.lst (cs.map D.int)) v w) := by
  have q1 := paper_ok (d := .tup [.str "cheapest", v, w]) (k := "cheapest") (n := 3) kC kC (by decide)
  simp only [Int.cast_ofNat_Int, isP3] at q1
  unfold m_shows_cheapest
  rw [c1_s, reqb_ok, bs, c2_s, reqbo_ok S.lb S.bd, bs, c2_s, reqne_ok S.ln (by have := S.n8; omega) S.nb, bs, c2_s, reqco_ok S.lc (by have := S.nx; omega) S.co, bs, c3_s, q1, o1_some, tru_bl, bs]
  have : ((("cheapest" : Str) == "cheapest") = true) := by decide +kernel
  rw [if_pos this]
  simp only [o2_some, dIx_tup, atI_1, atI_2, c4_s, c5_s]
theorem chp_no {p : D} (S : Setn n xs bo cs ns) (hp : hd1 p = true) (h : isP p "cheapest" 3 = false) : m_shows_cheapest (bld n xs) (.lst (bo.map pr2)) (.lst (ns.map D.int)) (.lst (cs.map D.int)) p = m_is_refused_set (bld n xs) (.lst (bo.map pr2)) (.lst (ns.map D.int)) p := by
  have q1 := paper_ok (d := p) (k := "cheapest") (n := 3) hp kC (by decide)
  simp only [Int.cast_ofNat_Int, h] at q1
  unfold m_shows_cheapest
  rw [c1_s, reqb_ok, bs, c2_s, reqbo_ok S.lb S.bd, bs, c2_s, reqne_ok S.ln (by have := S.n8; omega) S.nb, bs, c2_s, reqco_ok S.lc (by have := S.nx; omega) S.co, bs, c3_s, q1, o1_some, tru_bl, bs]
  simp only [Bool.false_eq_true, if_false, c4_s]
theorem chp_tt {w : D} (S : Setn n xs bo cs ns) : m_shows_cheapest (bld n xs) (.lst (bo.map pr2)) (.lst (ns.map D.int)) (.lst (cs.map D.int)) (.tup [.str "cheapest", .tup (ss.map D.int), w]) = if (fitB bo ss && decide (gains n xs ss = ns)) = true then m_hold (bld n xs) (.lst (bo.map pr2)) (.lst (cs.map D.int)) (.tup (ss.map D.int)) w else some (.bl false) := by
  rw [chp_t S, serves_t S.hx (by have := S.n8; omega) S.lb, o1_some, tru_bl, oNot_s, bs]
  cases (fitB bo ss && decide (gains n xs ss = ns)) <;> simp
theorem chp_f {w : D} (S : Setn n xs bo cs ns) (h : fitB bo ss = false) : m_shows_cheapest (bld n xs) (.lst (bo.map pr2)) (.lst (ns.map D.int)) (.lst (cs.map D.int)) (.tup [.str "cheapest", .tup (ss.map D.int), w]) = some (.bl false) := by
  rw [chp_tt S, h]
  simp
theorem chp_l {l : List D} {w : D} (S : Setn n xs bo cs ns) : m_shows_cheapest (bld n xs) (.lst (bo.map pr2)) (.lst (ns.map D.int)) (.lst (cs.map D.int)) (.tup [.str "cheapest", .lst l, w]) = some (.bl false) := by
  rw [chp_t S, serves_l, o1_some, tru_bl, oNot_s, bs]
  rfl
theorem cL1_ok {b bo' co st : D} {d : D} (h : m_shows_cheapest b bo' co st d = some (.bl false)) : m_law_cheap_L1 b bo' co st () d = some (.nx ()) := by
  unfold m_law_cheap_L1
  rw [c5_s, h, o2_some, dIsNot_bb, o1_some, tru_bl, bs]
  rfl
theorem fit_app (h : fitB bo ss = true) (a : Int) : fitB bo (ss ++ [a]) = false := by
  have := fit_len h
  unfold fitB
  have e : ¬ (ss ++ [a]).length = bo.length := by simp; omega
  rw [decide_eq_false e]
  rfl
theorem fit_out {k : Nat} {v : Int} (hk : k < bo.length) (hv : v < (bo.getD k (0, 0)).1 ∨ (bo.getD k (0, 0)).2 < v) (hl : k < ss.length) : fitB bo (ss.set k v) = false := by
  unfold fitB
  by_cases e : (ss.set k v).length = bo.length
  · rw [decide_eq_true e, Bool.true_and, List.all_eq_false]
    refine ⟨k, List.mem_range.mpr hk, ?_⟩
    rw [getD_set_eq _ _ hl]
    simp only [Bool.and_eq_true, decide_eq_true_eq]
    omega
  · rw [decide_eq_false e]
    rfl
theorem Hyp.sbd (h : Hyp n xs bo cs ss ps) : ∀ s ∈ ss, -11 ≤ s ∧ s ≤ 11 := fun s hs => by
  obtain ⟨j, hj, e⟩ := mem_getD 0 hs
  have := h.hh j (by rw [← h.ls]; exact hj)
  rw [e] at this
  have h1 := this.lo
  have h2 := this.hi
  have h3 := this.sp
  omega
theorem Hyp.Sn (h : Hyp n xs bo cs ss ps) (ln : ns.length = n) (nb : ∀ c ∈ ns, -200 ≤ c ∧ c ≤ 200) : Setn n xs bo cs ns := ⟨h.n1, h.n8, h.nx, h.hx, h.lb, h.bd, h.lc, h.co, ln, nb⟩
theorem dRg_n (h : n ≤ 1000) : dRg (0, (n : Int)) = some ((List.range n).map fun (k : Nat) => D.int (k : Int)) := by
  rw [← ranged0]
  exact if_pos ⟨by dsimp only; omega, by dsimp only; omega, by dsimp only; omega⟩
theorem cheap_ok (h : Hyp n xs bo cs ss ps) {a b c : Nat} (ha : a < n) (hc : c < 2) : m_law_cheap (bld n xs) (.lst (xs.map dct)) (.lst (bo.map pr2)) (.lst (cs.map D.int)) (.lst (ss.map D.int)) (.lst (ps.map D.int)) (.lst [.int (a : Int), .int (b : Int), .int (c : Int)]) = some (.bl true) := by
  have n1 := h.n1
  have n8 := h.n8
  have nx := h.nx
  have lp := h.lp
  have ls := h.ls
  obtain ⟨g1, g2, g3⟩ := gains_facts h.hx nx ls h.sbd
  have Sn := h.Sn (ns := gains n xs ss) g1 (fun c hc => by have := g3 c hc; omega)
  have g4 : ∀ x ∈ (gains n xs ss).set a ((gains n xs ss).getD a 0 + 1), -200 ≤ x ∧ x ≤ 200 := fun x hx => by
    rcases mem_set_or hx with z | z
    · have := g3 x z; omega
    · have := g3 _ (xin (xs := gains n xs ss) (j := a) 0 (by omega)); omega
  have So := h.Sn (ns := (gains n xs ss).set a ((gains n xs ss).getD a 0 + 1)) (by rw [List.length_set]; exact g1) g4
  have cf : (n : Int) - 1 = ((n - 1 : Nat) : Int) := by omega
  have rt : ∀ w : D, m_shows_cheapest (bld n xs) (.lst (bo.map pr2)) (.lst ((gains n xs ss).map D.int)) (.lst (cs.map D.int)) (.tup [.str "cheapest", .tup (ss.map D.int), w]) = m_hold (bld n xs) (.lst (bo.map pr2)) (.lst (cs.map D.int)) (.tup (ss.map D.int)) w := fun w => by
    rw [chp_tt Sn, h.fit, decide_eq_true rfl]
    rfl
  unfold m_law_cheap
  rw [c1_s, dLen_lst, List.length_map, lp, bs, c3_s, lgains_ok h.hx (by omega) (by omega) ls, bs, c1_s, dTuple_l, c1_s, dTuple_l, oCons_some, oCons_some, oCons_some, o1_some, dTup3, bs, c5_s, rt, hold_gen h.hx h.lb h.lc ls (.inr rfl) lp, h.held, o2_some, dIsNot_bb, o1_some, tru_bl, bs]
  have hP : ∀ d : D, dAdd (.tup (ps.map D.int)) (.tup [d]) = some (.tup (ps.map D.int ++ [d])) := fun d => dAdd_tt (by simp; omega)
  have hS : ∀ d : D, dAdd (.tup (ss.map D.int)) (.tup [d]) = some (.tup (ss.map D.int ++ [d])) := fun d => dAdd_tt (by simp; omega)
  have hF : ∀ d : D, dAdd (.tup ((ps.map D.int).take (n - 1))) (.tup [d]) = some (.tup ((ps.map D.int).take (n - 1) ++ [d])) := fun d => dAdd_tt (by simp; omega)
  have hR : dAdd (.tup [.str "cheapest", .tup (ss.map D.int), .tup (ps.map D.int)]) (.tup [.int 0]) = some (.tup [.str "cheapest", .tup (ss.map D.int), .tup (ps.map D.int), .int 0]) := dAdd_tt (by simp)
  have hT : ∀ d : D, dAdd (.tup [.str "cheapest", .tup (ss.map D.int)]) (.tup [d]) = some (.tup [.str "cheapest", .tup (ss.map D.int), d]) := fun d => dAdd_tt (by simp)
  have hB : dAdd (.tup [.bl true]) (.tup [.tup (ss.map D.int), .tup (ps.map D.int)]) = some (.tup [.bl true, .tup (ss.map D.int), .tup (ps.map D.int)]) := dAdd_tt (by simp)
  have c2t : cutD [.str "cheapest", .tup (ss.map D.int), .tup (ps.map D.int)] none (some 2) = [.str "cheapest", .tup (ss.map D.int)] := by
    have := cut_to (ds := [.str "cheapest", .tup (ss.map D.int), .tup (ps.map D.int)]) (k := 2) (by simp)
    exact this
  have c1f : cutD [.str "cheapest", .tup (ss.map D.int), .tup (ps.map D.int)] (some 1) none = [.tup (ss.map D.int), .tup (ps.map D.int)] := by
    have := cut_from (ds := [.str "cheapest", .tup (ss.map D.int), .tup (ps.map D.int)]) (k := 1) (by simp)
    exact this
  have cP : cutD (ps.map D.int) none (some ((n - 1 : Nat) : Int)) = (ps.map D.int).take (n - 1) := cut_to (by rw [List.length_map]; omega)
  simp only [decide_true, Bool.not_true, Bool.false_eq_true, if_false, oCons_some, o1_some, dTup0, dTup1, dTup2, dTup3, dList_l, dList_t, dTuple_l, o2_some, dIx_tup, atI_0, atI_1, atI_2, dI_i, ms, oCut_s, dCut_t, hP, hS, hF, hR, hT, hB, c2t, c1f, cP, dSub_ii, cf, dLst7, dLst2, bs]
  rw [dRg_n (by omega)]
  simp only [ms, oCons_some, o1_some, dTup2, dLst2, o2_some, bs]
  rw [dAdd_ll (by simp), bs, dAdd_ll (by simp), bs, dAdd_ll (by simp), bs, dAdd_ll (by simp), bs, dItems_lst, bs]
  rw [loopO_nx fun d hd => ?_]
  · have hb : dIx (.lst [.int (a : Int), .int (b : Int), .int (c : Int)]) (.int 0) = some (.int (a : Int)) := by simp
    have wk := with_ok (f := D.int) (xs := gains n xs ss) (k := a) (v := (gains n xs ss).getD a 0 + 1) (by omega) (by omega)
    have wp := with_ok (f := D.int) (xs := ps) (k := a) (v := ps.getD a 0 + 1) (by omega) (by omega)
    have gx := ixmD (f := D.int) (xs := gains n xs ss) (i := a) 0 (by omega)
    have px := ixmD (f := D.int) (xs := ps) (i := a) 0 (by omega)
    have ne : ¬ gains n xs ss = (gains n xs ss).set a ((gains n xs ss).getD a 0 + 1) := fun z => by
      have e1 : (gains n xs ss).getD a 0 = ((gains n xs ss).set a ((gains n xs ss).getD a 0 + 1)).getD a 0 := congrArg (fun l => l.getD a 0) z
      rw [getD_set_eq _ _ (by omega)] at e1
      omega
    rw [bs, Out.thnD_nx, hb, o2_some, gx, o2_some, dAdd_ii, c3_s, wk, bs, c5_s, chp_tt So, decide_eq_false ne, Bool.and_false]
    simp only [Bool.false_eq_true, if_false]
    rw [o2_some, dIsNot_bb, o1_some, tru_bl, bs]
    simp only [decide_true, Bool.not_true, Bool.false_eq_true, if_false]
    rw [c5_s, chp_no So (hdSt _) (by simp [isP]), refused_all _ (.inl rfl) n1 (by omega) h.hx h.lb So.ln]
    have sm : 0 < ((gains n xs ss).set a ((gains n xs ss).getD a 0 + 1)).sum := by
      rw [sum_set _ _ (by omega), g2]
      omega
    rw [decide_eq_true sm]
    have : ((("starved" : Str) == "starved") = true) := by decide +kernel
    simp only [this, if_true]
    rw [o2_some, dIsNot_bb, o1_some, tru_bl, bs]
    simp only [decide_true, Bool.not_true, Bool.false_eq_true, if_false]
    rw [o2_some, px, o2_some, dAdd_ii, c3_s, wp, bs, c5_s, lholds_ok h.hx h.lb h.lc ls (by rw [List.length_set]; exact lp) (by omega), bs, c1_s, dTuple_l, oCons_some, o1_some, dTup1, o2_some, hT, c5_s, rt, hold_gen h.hx h.lb h.lc ls (.inr rfl) (by rw [List.length_set]; exact lp), c2_s, says_t, o1_some, tru_bl, oNot_s, bs]
    simp only [Bool.not_true, Bool.false_eq_true, if_false]
    rw [c1_s, dLen_lst, List.length_map, o2_some, eqI, o1_some, tru_bl, bs]
    by_cases hm : xs.length = 0
    · have : ((xs.length : Int) = 0) := by omega
      rw [decide_eq_true this]
      rfl
    · have : ¬ ((xs.length : Int) = 0) := by omega
      rw [decide_eq_false this]
      have hb1 : dIx (.lst [.int (a : Int), .int (b : Int), .int (c : Int)]) (.int 1) = some (.int (b : Int)) := by simp
      have hb2 : dIx (.lst [.int (a : Int), .int (b : Int), .int (c : Int)]) (.int 2) = some (.int (c : Int)) := by simp
      have md : (b : Int) % (xs.length : Int) = ((b % xs.length : Nat) : Int) := by omega
      have hk : b % xs.length < xs.length := Nat.mod_lt _ (by omega)
      have bx := ixmD (f := pr2) (xs := bo) (i := b % xs.length) (0, 0) (by rw [h.lb]; exact hk)
      have hJ := h.hh _ hk
      have lo := hJ.lo
      have hi := hJ.hi
      have sp := hJ.sp
      simp only [Bool.false_eq_true, if_false]
      rw [hb1, c1_s, dInt_i, o2_some, dMod_ii (by omega), bs, md]
      simp only [o2_some, bx]
      simp only [pr2, dIx_tup, atI_0, atI_1, o2_some, dSub_ii, dAdd_ii, oCons_some, o1_some, dLst2]
      rw [hb2]
      have fin : ∀ v : Int, (-11 ≤ v ∧ v ≤ 11) → (v < (bo.getD (b % xs.length) (0, 0)).1 ∨ (bo.getD (b % xs.length) (0, 0)).2 < v) → ((c3 m_law_with (some (.lst (ss.map D.int))) (some (.int ((b % xs.length : Nat) : Int))) (some (.int v))).bind fun x_beyond16 => (o1 dTup (oCons (some (.str "cheapest")) (oCons (c1 dTuple (some x_beyond16)) (oCons (some (.tup (ps.map D.int))) (some []))))).bind fun x_paper17 => (o2 dIs (c5 m_shows_cheapest (some (bld n xs)) (some (.lst (bo.map pr2))) (c3 m_law_gains (some (.int (n : Int))) (some (.lst (xs.map dct))) (some x_beyond16)) (some (.lst (cs.map D.int))) (some x_paper17)) (some (.bl false)))) = some (.bl true) := fun v hv ho => by
        have ls2 : (ss.set (b % xs.length) v).length = xs.length := by rw [List.length_set]; exact ls
        obtain ⟨q1, q2, q3⟩ := gains_facts h.hx nx ls2 (fun s hs => by
          rcases mem_set_or hs with z | z
          · exact h.sbd s z
          · omega)
        have S3 := h.Sn (ns := gains n xs (ss.set (b % xs.length) v)) q1 (fun c hc => by have := q3 c hc; omega)
        rw [c3_s, with_ok (by omega) (by omega), bs, c1_s, dTuple_l, oCons_some, oCons_some, oCons_some, o1_some, dTup3, bs, c3_s, lgains_ok h.hx (by omega) (by omega) ls2, c5_s, chp_f S3 (fit_out (by rw [h.lb]; exact hk) ho (by omega)), o2_some, dIs_bb]
        rfl
      have hc2 : c = 0 ∨ c = 1 := by omega
      rcases hc2 with z | z
      · subst z
        simp only [o2_some, Int.cast_ofNat_Int, dIx_lst, atI_0]
        exact fin _ (by omega) (.inl (by omega))
      · subst z
        simp only [o2_some, Int.cast_ofNat_Int, dIx_lst, atI_1]
        exact fin _ (by omega) (.inr (by omega))
  · apply cL1_ok
    simp only [List.mem_append, List.mem_cons, List.not_mem_nil, or_false] at hd
    have lt : ((ps.map D.int).take (n - 1)).length ≠ n := by simp; omega
    have tk : (ps.map D.int).take (n - 1) = (ps.take (n - 1)).map D.int := by rw [List.map_take]
    have s0 : ¬ 0 < (gains n xs ss).sum := by rw [g2]; decide
    have s1 : ¬ (gains n xs ss).sum < 0 := by rw [g2]; decide
    have ap : ss.map D.int ++ [D.int 0] = (ss ++ [0]).map D.int := by simp
    rcases hd with ((((z | z | z | z | z | z | z) | z | z) | z | z) | z | z) | z | z <;> subst z
    · rw [chp_no Sn rfl rfl, refused_no rfl rfl rfl]
    · rw [chp_no Sn rfl rfl, refused_no rfl rfl rfl]
    · rw [chp_no Sn rfl rfl, refused_no rfl rfl rfl]
    · rw [chp_no Sn (hdC _) (by simp [isP]), refused_no (hdC _) (by simp [isP]) (by simp [isP])]
    · rw [chp_no Sn (hdC _) (by simp [isP]), refused_no (hdC _) (by rw [isP2]; exact cs_ne) (by rw [isP2]; exact cf_ne)]
    · rw [chp_no Sn (hdP _) (by simp [isP]), refused_no (hdP _) (by rw [isP2]; exact ps_ne) (by rw [isP2]; exact pf_ne)]
    · rw [chp_no Sn (hdS _) (by simp [isP]), refused_no (hdS _) (by rw [isP2]; exact ss_ne) (by rw [isP2]; exact sf_ne)]
    · exact chp_l Sn
    · rw [rt, hold_no rfl]
    · rw [ap]; exact chp_f Sn (fit_app h.fit 0)
    · rw [rt, hold_no (notInts_len (by simp; omega))]
    · rw [tk, rt, hold_no (notInts_app rfl (by simp))]
    · rw [chp_no Sn (hdSt _) (by simp [isP]), refused_all _ (.inl rfl) n1 (by omega) h.hx h.lb Sn.ln, st_eq, decide_eq_false s0]
      rfl
    · rw [chp_no Sn (hdFl _) (by simp [isP]), refused_all _ (.inr rfl) n1 (by omega) h.hx h.lb Sn.ln, fs_ne, decide_eq_false s1]
      rfl
    · rw [chp_no Sn rfl rfl, refused_no rfl rfl rfl]
end
end Mi
namespace Mi
open PySem L2
section
variable {n : Nat} {xs : List (Nat × Nat × Int)} {bo : List (Int × Int)} {cs ss ps ns : List Int} {rs : List (Int × Int)}
theorem lints2 (r : Int × Int) : m_law_ints (pr2 r) (.int 2) = some (.bl true) := by
  unfold m_law_ints
  have h1 : ∀ i : Int, dIsi "int" (.int i) = some (.bl true) := fun i => id rfl
  have h2 : ∀ i : Int, dIsi "bool" (.int i) = some (.bl false) := fun i => id rfl
  rw [o1_some, isi_tup (ty_pr2 r)]
  simp only [pr2, isT_tup, o1_some, tru_bl, oNot_s, Bool.not_true, oOr_f, c1_s, dLen_tup, o2_some, neI, List.length_cons, List.length_nil, bs, dItems_tup]
  rw [loopO_nx fun d hd => ?_]
  · rfl
  · have : ∃ i : Int, d = .int i := by
      simp only [List.mem_cons, List.not_mem_nil, or_false] at hd
      rcases hd with z | z <;> exact ⟨_, z⟩
    obtain ⟨i, rfl⟩ := this
    unfold m_law_ints_L1
    simp only [o1_some, h1, h2, tru_bl, oNot_s, Bool.not_true, oOr_f, bs, Bool.false_eq_true, if_false]
theorem fit_at (h : fitB bo ss = true) {j : Nat} (hj : j < bo.length) : (bo.getD j (0, 0)).1 ≤ ss.getD j 0 ∧ ss.getD j 0 ≤ (bo.getD j (0, 0)).2 := by
  unfold fitB at h
  rw [Bool.and_eq_true, List.all_eq_true] at h
  have := h.2 j (List.mem_range.mpr hj)
  rw [Bool.and_eq_true, decide_eq_true_eq, decide_eq_true_eq] at this
  exact this
theorem lring_ok (hf : fitB bo ss = true) (lb : bo.length = xs.length) (lc : cs.length = xs.length) (hx : xs.length ≤ 1000) (hl : rs.length ≤ 1000) : m_law_ring (.lst (xs.map dct)) (.lst (bo.map pr2)) (.lst (cs.map D.int)) (.lst (ss.map D.int)) (.tup (rs.map pr2)) = some (.bl (ringB xs bo cs ss rs)) := by
  have ls := (fit_len hf).trans lb
  unfold m_law_ring
  rw [o1_some, isi_tup (ty_tup _)]
  simp only [isT_tup, o1_some, tru_bl, oNot_s, Bool.not_true, oOr_f, c1_s, dLen_tup, o2_some, dLt_ii, List.length_map, bs, dItems_tup]
  by_cases h2 : 2 ≤ rs.length
  · have e : ¬ ((rs.length : Int) < 2) := by omega
    simp only [e, decide_false, Bool.false_eq_true, if_false, dLst0, bs]
    have hr : rs.map pr2 = (List.range rs.length).map fun i => pr2 (rs.getD i (0, 0)) := by
      apply List.ext_getElem
      · simp
      · intro i h1 h2
        simp at h1
        simp [List.getD, h1]
    have k1 := loopO_idxS (γ := Empty) (f := m_law_ring_L1 (.lst (xs.map dct)) (.lst (ss.map D.int)) (.lst (bo.map pr2)) (.lst (cs.map D.int))) (g := fun i => pr2 (rs.getD i (0, 0))) (n := rs.length) (r := .bl false)
      (S := fun i => (D.int (costR cs (rs.take i)), D.lst ((rs.take i).map fun r => D.int (tlI xs r : Nat)), D.lst ((rs.take i).map fun r => D.int (hdI xs r : Nat)))) (p := fun i => openI xs bo ss (rs.getD i (0, 0))) (fun i hi _ => by
        rw [costR_take cs rs i hi, take_map_succ _ rs (0, 0) i hi, take_map_succ _ rs (0, 0) i hi]
        have l1 : ((rs.take i).map fun r => D.int (tlI xs r : Nat)).length < 16777216 := by simp; omega
        have l2 : ((rs.take i).map fun r => D.int (hdI xs r : Nat)).length < 16777216 := by simp; omega
        generalize rs.getD i (0, 0) = r
        unfold m_law_ring_L1
        have dn : ∀ s : Int, dNotIn (.int s) (.lst [.int 1, .int (-1)]) = some (.bl !decide (s = 1 ∨ s = -1)) := fun s => by
          have := dIn_ints (x := s) (ns := [1, -1])
          rw [show ([1, -1] : List Int).map D.int = [.int 1, .int (-1)] from rfl] at this
          rw [dNotIn_of this]
          simp
        rw [c2_s, lints2]
        simp only [pr2, o1_some, tru_bl, oNot_s, Bool.not_true, oOr_f, o2_some, dIx_tup, atI_0, atI_1, dLt_ii, dGe_ii, c1_s, dLen_lst, List.length_map, dNeg_i, oCons_some, dLst2, dn]
        by_cases a0 : r.1 < 0
        · have : openI xs bo ss r = false := by unfold openI; rw [decide_eq_false (by omega)]; rfl
          rw [decide_eq_true a0, this]
          rfl
        · rw [decide_eq_false a0, oOr_f]
          by_cases a1 : (xs.length : Int) ≤ r.1
          · have : openI xs bo ss r = false := by unfold openI; rw [decide_eq_false (show ¬ r.1 < (xs.length : Int) by omega), Bool.false_and, Bool.and_false]
            rw [decide_eq_true a1, this]
            rfl
          · rw [decide_eq_false a1, oOr_f]
            have s1 := ixzD (f := D.int) (xs := ss) (i := r.1) 0 (by omega) (by omega)
            have b1 := ixzD (f := pr2) (xs := bo) (i := r.1) (0, 0) (by omega) (by omega)
            have c1' := ixzD (f := D.int) (xs := cs) (i := r.1) 0 (by omega) (by omega)
            have x1 := ixzD (f := dct) (xs := xs) (i := r.1) (0, 0, 0) (by omega) (by omega)
            obtain ⟨f1, f2⟩ := fit_at hf (j := r.1.toNat) (by omega)
            by_cases a2 : r.2 = 1 ∨ r.2 = -1
            · have ml := mulS (a := r.2) (b := cs.getD r.1.toNat 0) (by omega)
              rw [decide_eq_true a2]
              simp only [Bool.not_true, bs, Bool.false_eq_true, if_false, s1, b1, o2_some, dAdd_ii, pr2, dIx_tup, atI_0, atI_1, dLt_ii, dGt_ii, o1_some, tru_bl, x1, c1', eqI, c1_s, dInt_b, ml]
              have oe : openI xs bo ss r = (!decide (ss.getD r.1.toNat 0 + r.2 < (bo.getD r.1.toNat (0, 0)).1) && !decide ((bo.getD r.1.toNat (0, 0)).2 < ss.getD r.1.toNat 0 + r.2)) := by
                unfold openI
                rw [decide_eq_true (show 0 ≤ r.1 by omega), decide_eq_true (show r.1 < (xs.length : Int) by omega), Bool.true_and, Bool.true_and]
                rcases a2 with z | z
                · rw [z]
                  rw [decide_eq_false (show ¬ (ss.getD r.1.toNat 0 + 1 < (bo.getD r.1.toNat (0, 0)).1) by omega)]
                  by_cases y : ss.getD r.1.toNat 0 < (bo.getD r.1.toNat (0, 0)).2
                  · rw [decide_eq_true y, decide_eq_false (show ¬ (bo.getD r.1.toNat (0, 0)).2 < ss.getD r.1.toNat 0 + 1 by omega)]; rfl
                  · rw [decide_eq_false y, decide_eq_true (show (bo.getD r.1.toNat (0, 0)).2 < ss.getD r.1.toNat 0 + 1 by omega)]; rfl
                · rw [z]
                  rw [decide_eq_false (show ¬ ((bo.getD r.1.toNat (0, 0)).2 < ss.getD r.1.toNat 0 + -1) by omega)]
                  by_cases y : (bo.getD r.1.toNat (0, 0)).1 < ss.getD r.1.toNat 0
                  · rw [decide_eq_true y, decide_eq_false (show ¬ ss.getD r.1.toNat 0 + -1 < (bo.getD r.1.toNat (0, 0)).1 by omega)]; rfl
                  · rw [decide_eq_false y, decide_eq_true (show ss.getD r.1.toNat 0 + -1 < (bo.getD r.1.toNat (0, 0)).1 by omega)]; rfl
              rw [oe]
              cases decide (ss.getD r.1.toNat 0 + r.2 < (bo.getD r.1.toNat (0, 0)).1) with
              | true => rfl
              | false =>
                rw [oOr_f]
                cases decide ((bo.getD r.1.toNat (0, 0)).2 < ss.getD r.1.toNat 0 + r.2) with
                | true => rfl
                | false =>
                  simp only [bs, Bool.false_eq_true, if_false]
                  rcases a2 with z | z
                  · have t1 : tlI xs r = (xs.getD r.1.toNat (0, 0, 0)).1 := by unfold tlI; rw [if_pos z]
                    have t2 : hdI xs r = (xs.getD r.1.toNat (0, 0, 0)).2.1 := by unfold hdI; rw [if_pos z]
                    rw [t1, t2, z]
                    simp only [show decide ((1 : Int) = -1) = false from rfl, show decide ((1 : Int) = 1) = true from rfl, Bool.false_eq_true, if_false, if_true, dct, dIx_tup, atI_0, atI_1, bs, dApp_s l1, dApp_s l2, Int.one_mul]
                    rfl
                  · have t1 : tlI xs r = (xs.getD r.1.toNat (0, 0, 0)).2.1 := by unfold tlI; rw [if_neg (by omega)]
                    have t2 : hdI xs r = (xs.getD r.1.toNat (0, 0, 0)).1 := by unfold hdI; rw [if_neg (by omega)]
                    rw [t1, t2, z]
                    simp only [show decide ((-1 : Int) = -1) = true from rfl, show decide ((-1 : Int) = 1) = false from rfl, Bool.false_eq_true, if_false, if_true, dct, dIx_tup, atI_0, atI_1, bs, dApp_s l1, dApp_s l2]
                    rfl
            · have : openI xs bo ss r = false := by
                unfold openI
                rw [decide_eq_false (fun z => a2 (.inl z)), decide_eq_false (fun z => a2 (.inr z))]
                simp
              rw [decide_eq_false a2, this]
              rfl)
    rw [← hr, List.take_length, List.take_zero] at k1
    simp only [List.map_nil] at k1
    rw [show costR cs [] = 0 from rfl] at k1
    rw [k1, bs]
    have oa : (List.range rs.length).all (fun i => openI xs bo ss (rs.getD i (0, 0))) = rs.all (openI xs bo ss) := by
      rw [Bool.eq_iff_iff, List.all_eq_true, List.all_eq_true]
      refine ⟨fun h x hx => ?_, fun h i hi => h _ (xin _ (List.mem_range.mp hi))⟩
      obtain ⟨j, hj, e⟩ := mem_getD (0, 0) hx
      rw [← e]
      exact h j (List.mem_range.mpr hj)
    rw [oa]
    unfold ringB
    rw [decide_eq_true h2, Bool.true_and]
    cases rs.all (openI xs bo ss) with
    | false => rfl
    | true =>
      simp only [if_true, Out.thnD_nx, Bool.true_and, oCons_some, o1_some]
      rw [dRange1_s (by omega), bs, ranged0]
      rw [loopO_idx (p := chkJ xs rs) (r := .bl false) fun k hk => ?_]
      · rw [bs]
        cases (List.range rs.length).all (chkJ xs rs) with
        | false => rfl
        | true => simp only [if_true, Out.thnD_nx, Bool.true_and, dLt_ii]
      · unfold m_law_ring_L2
        have hp : dIx (.lst (rs.map fun r => D.int (hdI xs r : Nat))) (.int ((k : Int) - 1)) = some (.int (hdI xs (prv rs k) : Nat)) := by
          rw [dIx_lst, atI_prev (by rw [List.length_map]; exact hk), List.length_map, List.getElem?_map]
          unfold prv
          have hlt : (if k = 0 then rs.length - 1 else k - 1) < rs.length := by split <;> omega
          rw [getD_some (0, 0) hlt]; rfl
        have ht := ixmD (f := fun r => D.int (tlI xs r : Nat)) (xs := rs) (i := k) (0, 0) hk
        have tm : (rs.map fun r => D.int (tlI xs r : Nat)).take k = ((rs.take k).map fun r => ((tlI xs r : Nat) : Int)).map D.int := by
          rw [← List.map_take, List.map_map]; rfl
        have hin : dIn (.int (tlI xs (rs.getD k (0, 0)) : Nat)) (.lst (((rs.take k).map fun r => ((tlI xs r : Nat) : Int)).map D.int)) = some (.bl (decide (tlI xs (rs.getD k (0, 0)) ∈ (rs.take k).map (tlI xs)))) := by
          rw [dIn_ints]
          congr 3
          apply propext
          rw [List.mem_map, List.mem_map]
          constructor
          · rintro ⟨a, b, c⟩; exact ⟨a, b, by omega⟩
          · rintro ⟨a, b, c⟩; exact ⟨a, b, by omega⟩
        have hdec : decide (((hdI xs (prv rs k) : Nat) : Int) = ((tlI xs (rs.getD k (0, 0)) : Nat) : Int)) = decide (hdI xs (prv rs k) = tlI xs (rs.getD k (0, 0))) := by
          by_cases z : hdI xs (prv rs k) = tlI xs (rs.getD k (0, 0))
          · rw [decide_eq_true z, z, decide_eq_true rfl]
          · rw [decide_eq_false z, decide_eq_false (by omega)]
        simp only [o2_some, dSub_ii, hp, ht, neI, hdec, o1_some, dI_i, ms, oCut_s, dCut_l, tru_bl]
        rw [cut_to (by rw [List.length_map]; omega), tm, hin, o1_some, tru_bl]
        unfold chkJ
        cases decide (hdI xs (prv rs k) = tlI xs (rs.getD k (0, 0))) <;> cases decide (tlI xs (rs.getD k (0, 0)) ∈ (rs.take k).map (tlI xs)) <;> rfl
  · have e : ((rs.length : Int) < 2) := by omega
    simp [e, ringB, h2]
/-- by the ends alone -/
def chkP (zs : List (Nat × Nat)) : Bool := (List.range zs.length).all fun k => decide ((zs.getD (if k = 0 then zs.length - 1 else k - 1) (0, 0)).2 = (zs.getD k (0, 0)).1) && !decide ((zs.getD k (0, 0)).1 ∈ (zs.take k).map Prod.fst)
theorem chk_ends : (List.range rs.length).all (chkJ xs rs) = chkP (rs.map fun r => (tlI xs r, hdI xs r)) := by
  unfold chkP
  rw [List.length_map, Bool.eq_iff_iff, List.all_eq_true, List.all_eq_true]
  have : ∀ k, k < rs.length → chkJ xs rs k = (decide (((rs.map fun r => (tlI xs r, hdI xs r)).getD (if k = 0 then rs.length - 1 else k - 1) (0, 0)).2 = ((rs.map fun r => (tlI xs r, hdI xs r)).getD k (0, 0)).1) && !decide (((rs.map fun r => (tlI xs r, hdI xs r)).getD k (0, 0)).1 ∈ ((rs.map fun r => (tlI xs r, hdI xs r)).take k).map Prod.fst)) := fun k hk => by
    have hlt : (if k = 0 then rs.length - 1 else k - 1) < rs.length := by split <;> omega
    rw [getD_map _ _ _ (0, 0) _ hlt, getD_map _ _ _ (0, 0) _ hk, ← List.map_take, List.map_map]
    rfl
  exact ⟨fun h k hk => by rw [← this k (List.mem_range.mp hk)]; exact h k hk, fun h k hk => by rw [this k (List.mem_range.mp hk)]; exact h k hk⟩
theorem ringB_eq : ringB xs bo cs ss rs = (decide (2 ≤ rs.length) && (rs.all (openI xs bo ss) && (chkP (rs.map fun r => (tlI xs r, hdI xs r)) && decide (costR cs rs < 0)))) := by
  unfold ringB
  rw [chk_ends]
theorem costR_app (a b : List (Int × Int)) : costR cs (a ++ b) = costR cs a + costR cs b := by
  unfold costR
  rw [List.map_append, List.sum_append]
end
end Mi
namespace Mi
open PySem L2
/-! the ring that is drawn -/
def rsOf (σ : Nat → Int) (i : Nat) : List (Int × Int) := (List.range i).map fun (k : Nat) => ((k : Int), σ k)
def xsOf (R : Nat) (σ : Nat → Int) (i : Nat) : List (Nat × Nat × Int) := (List.range i).map fun k => if σ k = 1 then (k, (k + 1) % R, 1) else ((k + 1) % R, k, 1)
structure RingH (R : Nat) (xs : List (Nat × Nat × Int)) (ss cs : List Int) (σ : Nat → Int) (τ : Int) : Prop where
  r2 : 2 ≤ R
  r5 : R ≤ 5
  lx : xs.length = R + 1
  hx : ∀ x ∈ xs, DOk R x
  sg : ∀ k, k < R → σ k = 1 ∨ σ k = -1
  tt : τ = 1 ∨ τ = -1
  xk : ∀ k, k < R → xs.getD k (0, 0, 0) = if σ k = 1 then (k, (k + 1) % R, 1) else ((k + 1) % R, k, 1)
  ls : ss.length = R + 1
  hs : ∀ s ∈ ss, -1 ≤ s ∧ s ≤ 1
  lc : cs.length = R + 1
  hc : ∀ c ∈ cs, -9 ≤ c ∧ c ≤ 9
  c0 : -9 ≤ cs.getD 0 0 + σ 0 ∧ cs.getD 0 0 + σ 0 ≤ 9
  co : costR cs (rsOf σ R) = -1
theorem sum_bd {b : Int} : ∀ {l : List Int}, (∀ x ∈ l, -b ≤ x ∧ x ≤ b) → -(b * l.length) ≤ l.sum ∧ l.sum ≤ b * l.length
  | [], _ => by simp
  | a :: l, h => by
    have h1 := h a (by simp)
    have h2 := sum_bd (l := l) fun x hx => h x (by simp [hx])
    have e : b * ((a :: l).length : Int) = b * (l.length : Int) + b := by
      rw [List.length_cons, Int.natCast_add, Int.mul_add]; simp
    rw [e, List.sum_cons]
    omega
def pat2 : Nat → List Int
  | 0 => []
  | k + 1 => [3, 5] ++ pat2 k
theorem pat2_len : ∀ k, (pat2 k).length = 2 * k
  | 0 => rfl
  | k + 1 => by simp [pat2, pat2_len k]; omega
theorem pat2_mem : ∀ (k : Nat), ∀ b ∈ pat2 k, 0 < b ∧ b < 1073741824
  | 0, b, hb => by cases hb
  | k + 1, b, hb => by
    rcases List.mem_append.mp hb with z | z
    · simp at z
      rcases z with z | z <;> subst z <;> omega
    · exact pat2_mem k b z
theorem pat2_at : ∀ (k i j : Nat), i < k → j < 2 → (pat2 k)[2 * i + j]? = [(3 : Int), 5][j]?
  | 0, i, j, h, _ => by omega
  | k + 1, 0, j, _, hj => by
    unfold pat2
    rw [List.getElem?_append_left (by simp; omega)]
    simp
  | k + 1, i + 1, j, h, hj => by
    unfold pat2
    rw [List.getElem?_append_right (by simp; omega)]
    have e : 2 * (i + 1) + j - [(3 : Int), 5].length = 2 * i + j := by simp; omega
    rw [e]
    exact pat2_at k i j (by omega) hj
theorem pat2_rep (k : Nat) : (List.replicate k ([3, 5] : List Int)).flatten = pat2 k := by
  induction k with
  | zero => rfl
  | succ k ih => rw [List.replicate_succ, List.flatten_cons, ih]; rfl
theorem rsOf_len (σ : Nat → Int) (i : Nat) : (rsOf σ i).length = i := by simp [rsOf]
theorem rsOf_at (σ : Nat → Int) {i k : Nat} (h : k < i) : (rsOf σ i).getD k (0, 0) = ((k : Int), σ k) := by simp [rsOf, List.getD, h]
theorem round_ok (ns : List Int) : ∃ (R : Nat) (xs : List (Nat × Nat × Int)) (ss cs : List Int) (σ : Nat → Int) (τ : Int), m_law_round (.scr ns) = some (.lst [.int (R : Int), .lst (xs.map dct), .tup ((rsOf σ R).map pr2), .lst (ss.map D.int), .lst (cs.map D.int), .tup [.int (R : Int), .int τ]]) ∧ RingH R xs ss cs σ τ := by
  obtain ⟨H, hd, hl⟩ := draw_ok (cell ns 5) [4, 2, 2, 2, 2, 2, 2] (by intro b hb; simp at hb; rcases hb with z | z <;> subst z <;> omega) (by simp)
  have dr : ∀ (j : Nat) (b : Int), [(4 : Int), 2, 2, 2, 2, 2, 2][j]? = some b → dIx (.lst (H.map D.int)) (.int (j : Int)) = some (.int (H.getD j 0)) ∧ 0 ≤ H.getD j 0 ∧ H.getD j 0 < b := fun j b hb => by
    obtain ⟨x, e1, e2, e3⟩ := hl.at j b hb
    have e : H.getD j 0 = x := by simp [List.getD, e1]
    rw [e]
    exact ⟨ixm e1, e2, e3⟩
  obtain ⟨a1, a2, a3⟩ := dr 0 4 rfl
  obtain ⟨b1, b2, b3⟩ := dr 6 2 rfl
  have hb : ∀ k, k < 6 → dIx (.lst (H.map D.int)) (.int ((k + 1 : Nat) : Int)) = some (.int (H.getD (k + 1) 0)) ∧ 0 ≤ H.getD (k + 1) 0 ∧ H.getD (k + 1) 0 < 2 := fun k hk => dr (k + 1) 2 (by
    have : k = 0 ∨ k = 1 ∨ k = 2 ∨ k = 3 ∨ k = 4 ∨ k = 5 := by omega
    rcases this with z | z | z | z | z | z <;> subst z <;> rfl)
  obtain ⟨A, hA⟩ : ∃ A : Nat, H.getD 0 0 = (A : Int) := ⟨_, (Int.toNat_of_nonneg a2).symm⟩
  rw [hA] at a1 a3
  obtain ⟨R, hR⟩ : ∃ R : Nat, R = A + 2 := ⟨_, rfl⟩
  have hR2 : (A : Int) + 2 = (R : Int) := by omega
  obtain ⟨σ, hσ⟩ : ∃ σ : Nat → Int, ∀ k, σ k = 1 - 2 * H.getD (k + 1) 0 := ⟨fun k => 1 - 2 * H.getD (k + 1) 0, fun _ => rfl⟩
  have sg : ∀ k, k < 6 → σ k = 1 ∨ σ k = -1 := fun k hk => by
    have := hb k hk
    rw [hσ]
    omega
  obtain ⟨vs, vd, vl⟩ := draw_ok (cell ns 6) (pat2 (R + 1) ++ [2]) (fun b hb => by
    rcases List.mem_append.mp hb with z | z
    · exact pat2_mem _ b z
    · simp at z; subst z; omega) (by simp [pat2_len]; omega)
  have dv : ∀ i j : Nat, i < R + 1 → j < 2 → ∀ b : Int, [(3 : Int), 5][j]? = some b → dIx (.lst (vs.map D.int)) (.int ((2 * i + j : Nat) : Int)) = some (.int (vs.getD (2 * i + j) 0)) ∧ 0 ≤ vs.getD (2 * i + j) 0 ∧ vs.getD (2 * i + j) 0 < b := fun i j hi hj b hb => by
    obtain ⟨x, e1, e2, e3⟩ := vl.at (2 * i + j) b (by rw [List.getElem?_append_left (by rw [pat2_len]; omega), pat2_at _ _ _ hi hj, hb])
    have e : vs.getD (2 * i + j) 0 = x := by simp [List.getD, e1]
    rw [e]
    exact ⟨ixm e1, e2, e3⟩
  obtain ⟨ss, hss⟩ : ∃ ss : List Int, ss = (List.range (R + 1)).map fun k => vs.getD (2 * k + 0) 0 - 1 := ⟨_, rfl⟩
  obtain ⟨c', hcs⟩ : ∃ c' : List Int, c' = (List.range (R + 1)).map fun k => vs.getD (2 * k + 1) 0 - 2 := ⟨_, rfl⟩
  have lss : ss.length = R + 1 := by rw [hss]; simp
  have lcs : c'.length = R + 1 := by rw [hcs]; simp
  have bss : ∀ s ∈ ss, -1 ≤ s ∧ s ≤ 1 := fun s hs => by
    rw [hss] at hs
    obtain ⟨k, hk, rfl⟩ := List.mem_map.mp hs
    have := dv k 0 (List.mem_range.mp hk) (by decide) 3 rfl
    omega
  have bcs : ∀ c ∈ c', -2 ≤ c ∧ c ≤ 2 := fun s hs => by
    rw [hcs] at hs
    obtain ⟨k, hk, rfl⟩ := List.mem_map.mp hs
    have := dv k 1 (List.mem_range.mp hk) (by decide) 5 rfl
    omega
  obtain ⟨ot, hot⟩ : ∃ ot : Int, ot = ((List.range (R - 1)).map fun i => σ (i + 1) * c'.getD (i + 1) 0).sum := ⟨_, rfl⟩
  have bot : -8 ≤ ot ∧ ot ≤ 8 := by
    have := sum_bd (b := 2) (l := (List.range (R - 1)).map fun i => σ (i + 1) * c'.getD (i + 1) 0) (fun x hx => by
      obtain ⟨i, hi, rfl⟩ := List.mem_map.mp hx
      have hi := List.mem_range.mp hi
      have hc := bcs _ (xin (xs := c') (j := i + 1) 0 (by omega))
      rcases sg (i + 1) (by omega) with z | z <;> rw [z] <;> omega)
    rw [← hot] at this
    simp at this
    omega
  obtain ⟨τ, hτ⟩ : ∃ τ : Int, τ = 1 - 2 * H.getD 6 0 := ⟨_, rfl⟩
  have τs : τ = 1 ∨ τ = -1 := by omega
  obtain ⟨xs, hxs⟩ : ∃ xs : List (Nat × Nat × Int), xs = xsOf R σ R ++ [if τ = 1 then (0, 1, 1) else (1, 0, 1)] := ⟨_, rfl⟩
  have xlen : (xsOf R σ R).length = R := by simp [xsOf]
  have md : ∀ k : Nat, k < R → (k + 1) % R < R ∧ (k + 1) % R ≠ k := fun k hk => by
    by_cases e : k + 1 = R
    · rw [e, Nat.mod_self]; omega
    · rw [Nat.mod_eq_of_lt (by omega)]; omega
  refine ⟨R, xs, ss, c'.set 0 (σ 0 * (-1 - ot)), σ, τ, ?_, ?_⟩
  · unfold m_law_round
    have cc := cell_ok ns 5
    have cc6 := cell_ok ns 6
    simp only [Int.cast_ofNat_Int] at cc cc6
    have hd' : m_law_draw (.int (cell ns 5)) (.lst [.int 4, .int 2, .int 2, .int 2, .int 2, .int 2, .int 2]) = some (.lst (H.map D.int)) := hd
    have a1' : dIx (.lst (H.map D.int)) (.int 0) = some (.int (A : Int)) := a1
    have b1' : dIx (.lst (H.map D.int)) (.int 6) = some (.int (H.getD 6 0)) := b1
    rw [c2_s, cc]
    simp only [oCons_some, o1_some, dLst7]
    rw [c2_s, hd', bs, o2_some, a1', o2_some, dAdd_ii, hR2, bs, dLst0, bs, dTup0, bs, dRange1_s (by omega), bs]
    have hlen : (ranged 0 (R : Int)).length = R := by rw [ranged_len]; omega
    obtain ⟨b', e1, hb'⟩ := foldO_inv0 (f := m_law_round_L1 (.int (R : Int)) (.lst (H.map D.int))) (fun i b => b = (.tup ((rsOf σ i).map pr2), .lst ((xsOf R σ i).map dct))) (ranged 0 (R : Int)) (.tup [], .lst []) rfl (fun i hi b hbb => by
      subst hbb
      have e0 : (ranged 0 (R : Int))[i] = .int (i : Int) := by rw [ranged_get]; simp
      rw [hlen] at hi
      obtain ⟨h1, h2, h3⟩ := hb i (by omega)
      have em : ((i : Int) + 1) % (R : Int) = (((i + 1) % R : Nat) : Int) := by
        rw [Int.natCast_emod]; rfl
      have ea : (1 : Int) + (i : Int) = ((i + 1 : Nat) : Int) := by omega
      have l1 : ((xsOf R σ i).map dct).length < 16777216 := by simp [xsOf]; omega
      have xa : xsOf R σ (i + 1) = xsOf R σ i ++ [if σ i = 1 then (i, (i + 1) % R, 1) else ((i + 1) % R, i, 1)] := by simp [xsOf, List.range_succ]
      have ra : rsOf σ (i + 1) = rsOf σ i ++ [((i : Int), σ i)] := by simp [rsOf, List.range_succ]
      refine ⟨_, ?_, rfl⟩
      rw [e0, xa, ra]
      unfold m_law_round_L1
      simp only [c1_s, o2_some, dAdd_ii, dInt_i, dMod_ii (show (0 : Int) < (R : Int) by omega), em, ea, h1, oCons_some, o1_some, dTup2, dLst2]
      have hv : H.getD (i + 1) 0 = 0 ∨ H.getD (i + 1) 0 = 1 := by omega
      have tA : ∀ l : List D, l.length ≤ 1000 → ∀ d : D, dAdd (.tup l) (.tup [d]) = some (.tup (l ++ [d])) := fun l hl d => dAdd_tt (by simp; omega)
      have rl : ((rsOf σ i).map pr2).length ≤ 1000 := by simp [rsOf]; omega
      rcases hv with z | z
      · have s1 : σ i = 1 := by rw [hσ, z]; rfl
        rw [z, s1]
        simp only [dIx_lst, atI_0, bs, o1_some, dTup1, o2_some, tA _ (show [D.int (i : Int), D.int (((i + 1) % R : Nat) : Int)].length ≤ 1000 by simp), dApp_s l1, mul2, dSub_ii, tA _ rl, dTup2]
        simp [dct, pr2, tA _ rl]
      · have s1 : σ i = -1 := by rw [hσ, z]; rfl
        rw [z, s1]
        simp only [dIx_lst, atI_1, bs, o1_some, dTup1, o2_some, tA _ (show [D.int (((i + 1) % R : Nat) : Int), D.int (i : Int)].length ≤ 1000 by simp), dApp_s l1, mul2, dSub_ii, tA _ rl, dTup2]
        simp [dct, pr2, tA _ rl])
    rw [hlen] at hb'
    rw [e1, hb', bs]
    have l2 : ((xsOf R σ R).map dct).length < 16777216 := by simp [xsOf]; omega
    have hr1 : (R : Int) + 1 = ((R + 1 : Nat) : Int) := by omega
    have rep : dMul (.lst [.int 3, .int 5]) (.int ((R + 1 : Nat) : Int)) = some (.lst ((pat2 (R + 1)).map D.int)) := by
      rw [dMul_rep (by omega) (by simp; omega), ← pat2_rep, List.map_flatten, List.map_replicate]
      rfl
    have ad : dAdd (.lst ((pat2 (R + 1)).map D.int)) (.lst [.int 2]) = some (.lst ((pat2 (R + 1) ++ [2]).map D.int)) := by
      rw [dAdd_ll (by simp [pat2_len]; omega)]
      simp
    have cS : dComp (m_law_round_C2 (.lst (vs.map D.int))) (ranged 0 ((R + 1 : Nat) : Int)) = some (.lst (ss.map D.int)) := by
      rw [ranged0]
      have cg : ∀ d ∈ (List.range (R + 1)).map fun i => D.int (i : Nat), m_law_round_C2 (.lst (vs.map D.int)) d = some (some (match d with | .int i => .int (vs.getD (2 * i.toNat + 0) 0 - 1) | _ => .non)) := fun d hd => by
        obtain ⟨k, hk, rfl⟩ := List.mem_map.mp hd
        have q := (dv k 0 (List.mem_range.mp hk) (by decide) 3 rfl).1
        have e : ((2 * k + 0 : Nat) : Int) = 2 * (k : Int) := by omega
        rw [e] at q
        unfold m_law_round_C2
        rw [o2_some, mul2, o2_some, q, o2_some, dSub_ii, ms]
        simp
      rw [dComp_map (by simp; omega) cg, List.map_map, hss, List.map_map]
      rfl
    have cC : dComp (m_law_round_C3 (.lst (vs.map D.int))) (ranged 0 ((R + 1 : Nat) : Int)) = some (.lst (c'.map D.int)) := by
      rw [ranged0]
      have cg : ∀ d ∈ (List.range (R + 1)).map fun i => D.int (i : Nat), m_law_round_C3 (.lst (vs.map D.int)) d = some (some (match d with | .int i => .int (vs.getD (2 * i.toNat + 1) 0 - 2) | _ => .non)) := fun d hd => by
        obtain ⟨k, hk, rfl⟩ := List.mem_map.mp hd
        have q := (dv k 1 (List.mem_range.mp hk) (by decide) 5 rfl).1
        have e : ((2 * k + 1 : Nat) : Int) = 2 * (k : Int) + 1 := by omega
        rw [e] at q
        unfold m_law_round_C3
        rw [o2_some, mul2, o2_some, dAdd_ii, o2_some, q, o2_some, dSub_ii, ms]
        simp
      rw [dComp_map (by simp; omega) cg, List.map_map, hcs, List.map_map]
      rfl
    have cO : dComp (m_law_round_C4 (.tup ((rsOf σ R).map pr2), .lst ((xsOf R σ R).map dct)) (.lst (c'.map D.int))) (ranged 1 (R : Int)) = some (.lst (((List.range (R - 1)).map fun i => σ (i + 1) * c'.getD (i + 1) 0).map D.int)) := by
      have er : ranged 1 (R : Int) = (List.range (R - 1)).map fun i => D.int ((i + 1 : Nat) : Int) := by
        unfold ranged
        have : ((R : Int) - 1).toNat = R - 1 := by omega
        simp only [this]
        apply List.map_congr_left
        intro i _
        have : (1 : Int) + (i : Int) = ((i + 1 : Nat) : Int) := by omega
        rw [this]
      rw [er]
      have cg : ∀ d ∈ (List.range (R - 1)).map fun i => D.int ((i + 1 : Nat) : Int), m_law_round_C4 (.tup ((rsOf σ R).map pr2), .lst ((xsOf R σ R).map dct)) (.lst (c'.map D.int)) d = some (some (match d with | .int i => .int (σ i.toNat * c'.getD i.toNat 0) | _ => .non)) := fun d hd => by
        obtain ⟨k, hk, rfl⟩ := List.mem_map.mp hd
        have hk := List.mem_range.mp hk
        have q1 := ixtD (f := pr2) (xs := rsOf σ R) (i := k + 1) (0, 0) (by rw [rsOf_len]; omega)
        rw [rsOf_at σ (by omega)] at q1
        have q2 := ixmD (f := D.int) (xs := c') (i := k + 1) 0 (by omega)
        have sb := sg (k + 1) (by omega)
        unfold m_law_round_C4
        simp only [o2_some, q1, q2]
        simp only [pr2, dIx_tup, atI_1, o2_some, mulS (show -1000000000 ≤ σ (k + 1) ∧ σ (k + 1) ≤ 1000000000 by omega), o1_some, chk_int, ms]
        simp
      rw [dComp_map (by simp; omega) cg, List.map_map, List.map_map]
      rfl
    have du : dIx (.lst [.tup [.int 0, .int 1, .int 1], .tup [.int 1, .int 0, .int 1]]) (.int (H.getD 6 0)) = some (dct (if τ = 1 then (0, 1, 1) else (1, 0, 1))) := by
      have : H.getD 6 0 = 0 ∨ H.getD 6 0 = 1 := by omega
      rcases this with z | z
      · rw [if_pos (by omega), z]; simp [dct]
      · rw [if_neg (by omega), z]; simp [dct]
    simp only [oCons_some, o1_some, dTup3, dLst2, dLst1, o2_some, b1', du, bs, dApp_s l2, dAdd_ii, hr1, rep, ad]
    rw [c2_s, cc6, c2_s, vd, bs, dRange1_s (by omega), bs, cS, bs, bs, cC, bs, dRange2_s (by omega), bs, cO, c1_s, dSum_l, bs, ← hot]
    have q0 := ixtD (f := pr2) (xs := rsOf σ R) (i := 0) (0, 0) (by rw [rsOf_len]; omega)
    rw [rsOf_at σ (by omega)] at q0
    have q0' : dIx (.tup ((rsOf σ R).map pr2)) (.int 0) = some (pr2 ((0 : Nat), σ 0)) := q0
    have s0 := sg 0 (by omega)
    have st := dSet_i (G := c') (i := 0) (v := σ 0 * (-1 - ot)) (by omega)
    rw [show ((0 : Nat) : Int) = 0 from rfl] at st
    simp only [q0', pr2, dIx_tup, atI_1, dNeg_i, o2_some, dSub_ii, mulS (show -1000000000 ≤ σ 0 ∧ σ 0 ≤ 1000000000 by omega), bs, st, mul2, dTup2]
    rw [← hτ]
    have xe : (xsOf R σ R).map dct ++ [dct (if τ = 1 then (0, 1, 1) else (1, 0, 1))] = xs.map dct := by rw [hxs]; simp
    rw [xe]
    simp [dLst6]
  · have xk : ∀ k, k < R → xs.getD k (0, 0, 0) = if σ k = 1 then (k, (k + 1) % R, 1) else ((k + 1) % R, k, 1) := fun k hk => by
      rw [hxs]
      simp only [List.getD, List.getElem?_append_left (show k < (xsOf R σ R).length by omega)]
      simp [xsOf, hk]
    refine ⟨by omega, by omega, by rw [hxs]; simp [xsOf], fun x hx => ?_, fun k hk => sg k (by omega), τs, xk, lss, bss, by rw [List.length_set]; exact lcs, fun c hc => ?_, ?_, ?_⟩
    · rw [hxs] at hx
      rcases List.mem_append.mp hx with z | z
      · obtain ⟨k, hk, rfl⟩ := List.mem_map.mp z
        have hk := List.mem_range.mp hk
        have := md k hk
        split
        · exact ⟨hk, this.1, fun e => this.2 e.symm, by dsimp only; decide, by dsimp only; decide⟩
        · exact ⟨this.1, hk, this.2, by dsimp only; decide, by dsimp only; decide⟩
      · simp only [List.mem_cons, List.not_mem_nil, or_false] at z
        subst z
        split
        · exact ⟨by (try dsimp only); omega, by (try dsimp only); omega, by decide, by decide, by decide⟩
        · exact ⟨by (try dsimp only); omega, by (try dsimp only); omega, by decide, by decide, by decide⟩
    · rcases mem_set_or hc with z | z
      · have := bcs c z; omega
      · rw [z]
        rcases sg 0 (by omega) with y | y <;> rw [y] <;> omega
    · rw [getD_set_eq _ _ (by omega)]
      rcases sg 0 (by omega) with y | y <;> rw [y] <;> omega
    · have eR : R = (R - 1) + 1 := by omega
      unfold costR rsOf
      rw [List.map_map]
      conv => lhs; rw [eR, List.range_succ_eq_map]
      rw [List.map_cons, List.sum_cons, List.map_map]
      have e2 : ((List.range (R - 1)).map (((fun (r : Int × Int) => r.2 * (c'.set 0 (σ 0 * (-1 - ot))).getD r.1.toNat 0) ∘ fun (k : Nat) => ((k : Int), σ k)) ∘ Nat.succ)) = (List.range (R - 1)).map fun i => σ (i + 1) * c'.getD (i + 1) 0 := by
        apply List.map_congr_left
        intro i _
        show σ (i + 1) * (c'.set 0 (σ 0 * (-1 - ot))).getD ((i + 1 : Nat) : Int).toNat 0 = _
        rw [Int.toNat_natCast, getD_set_ne _ _ (by omega)]
      rw [e2, ← hot]
      show σ 0 * (c'.set 0 (σ 0 * (-1 - ot))).getD ((0 : Nat) : Int).toNat 0 + ot = -1
      rw [Int.toNat_natCast, getD_set_eq _ _ (by omega)]
      rcases sg 0 (by omega) with y | y <;> rw [y] <;> omega
end Mi
namespace Mi
open PySem L2
/-- the ring's ends -/
def En (R : Nat) : List (Nat × Nat) := (List.range R).map fun k => (k, (k + 1) % R)
theorem en_rot : ∀ R, 2 ≤ R → R ≤ 5 → ∀ k, k < R → chkP ((En R).drop k ++ (En R).take k) = true := by
  intro R h2 h5
  have : R = 2 ∨ R = 3 ∨ R = 4 ∨ R = 5 := by omega
  rcases this with z | z | z | z <;> subst z <;> decide +kernel
theorem en_twice : ∀ R, 2 ≤ R → R ≤ 5 → chkP (En R ++ En R) = false := by
  intro R h2 h5
  have : R = 2 ∨ R = 3 ∨ R = 4 ∨ R = 5 := by omega
  rcases this with z | z | z | z <;> subst z <;> decide +kernel
theorem en_drop : ∀ R, 3 ≤ R → R ≤ 5 → chkP ((En R).drop 1) = false := by
  intro R h2 h5
  have : R = 3 ∨ R = 4 ∨ R = 5 := by omega
  rcases this with z | z | z <;> subst z <;> decide +kernel
section
variable {R : Nat} {xs : List (Nat × Nat × Int)} {ss cs : List Int} {σ : Nat → Int} {τ : Int}
def bo2 (R : Nat) : List (Int × Int) := List.replicate (R + 1) (-2, 2)
theorem bo2_at {R j : Nat} (h : j < R + 1) : (bo2 R).getD j (0, 0) = (-2, 2) := by simp [bo2, List.getD, h]
theorem RingH.tl (h : RingH R xs ss cs σ τ) {k : Nat} (hk : k < R) : tlI xs ((k : Int), σ k) = k := by
  unfold tlI
  dsimp only
  rw [Int.toNat_natCast, h.xk k hk]
  rcases h.sg k hk with z | z
  · rw [if_pos z, if_pos z]
  · rw [if_neg (by omega), if_neg (by omega)]
theorem RingH.hd (h : RingH R xs ss cs σ τ) {k : Nat} (hk : k < R) : hdI xs ((k : Int), σ k) = (k + 1) % R := by
  unfold hdI
  dsimp only
  rw [Int.toNat_natCast, h.xk k hk]
  rcases h.sg k hk with z | z
  · rw [if_pos z, if_pos z]
  · rw [if_neg (by omega), if_neg (by omega)]
theorem RingH.ends (h : RingH R xs ss cs σ τ) : (rsOf σ R).map (fun r => (tlI xs r, hdI xs r)) = En R := by
  unfold rsOf En
  rw [List.map_map]
  apply List.map_congr_left
  intro k hk
  have hk := List.mem_range.mp hk
  show (tlI xs ((k : Int), σ k), hdI xs ((k : Int), σ k)) = _
  rw [h.tl hk, h.hd hk]
theorem fit2 {st : List Int} (hl : st.length = R + 1) (hb : ∀ s ∈ st, -2 ≤ s ∧ s ≤ 2) : fitB (bo2 R) st = true := by
  unfold fitB
  have hlb : (bo2 R).length = R + 1 := by simp [bo2]
  rw [decide_eq_true (by rw [hlb]; exact hl), Bool.true_and, List.all_eq_true]
  intro j hj
  have hj := List.mem_range.mp hj
  rw [hlb] at hj
  rw [bo2_at hj]
  have := hb _ (xin (xs := st) (j := j) 0 (by omega))
  rw [decide_eq_true this.1, decide_eq_true this.2]
  rfl
theorem RingH.S (h : RingH R xs ss cs σ τ) {st : List Int} (hl : st.length = R + 1) (hb : ∀ s ∈ st, -2 ≤ s ∧ s ≤ 2) {c' : List Int} (lc : c'.length = R + 1) (hc : ∀ c ∈ c', -9 ≤ c ∧ c ≤ 9) : Setg R xs (bo2 R) c' st :=
  ⟨by rw [h.lx]; have := h.r5; omega, by rw [h.lx]; simp [bo2], fun b hb => by rw [(List.mem_replicate.mp hb).2]; decide, by rw [h.lx]; exact lc, hc, fit2 hl hb⟩
theorem open_in (h : RingH R xs ss cs σ τ) {st : List Int} {k : Nat} (hk : k < R) {s : Int} (hs : s = 1 ∨ s = -1) (h1 : -1 ≤ st.getD k 0 ∧ st.getD k 0 ≤ 1) : openI xs (bo2 R) st ((k : Int), s) = true := by
  unfold openI
  dsimp only
  rw [Int.toNat_natCast, bo2_at (by omega), decide_eq_true (by omega), decide_eq_true (show (k : Int) < (xs.length : Int) by rw [h.lx]; omega), Bool.true_and, Bool.true_and]
  dsimp only
  rcases hs with z | z
  · rw [z, decide_eq_true (show st.getD k 0 < 2 by omega)]; rfl
  · rw [z, decide_eq_true (show -2 < st.getD k 0 by omega)]; simp
theorem RingH.opens (h : RingH R xs ss cs σ τ) {st : List Int} (h1 : ∀ k, k < R → -1 ≤ st.getD k 0 ∧ st.getD k 0 ≤ 1) : ∀ r ∈ rsOf σ R, openI xs (bo2 R) st r = true := fun r hr => by
  obtain ⟨k, hk, rfl⟩ := List.mem_map.mp hr
  have hk := List.mem_range.mp hk
  exact open_in h hk (h.sg k hk) (h1 k hk)
theorem RingH.ss1 (h : RingH R xs ss cs σ τ) : ∀ k, k < R → -1 ≤ ss.getD k 0 ∧ ss.getD k 0 ≤ 1 := fun k hk => h.hs _ (xin 0 (by rw [h.ls]; omega))
theorem cost_rot (h : RingH R xs ss cs σ τ) (k : Nat) : costR cs ((rsOf σ R).drop k ++ (rsOf σ R).take k) = -1 := by
  rw [costR_app, Int.add_comm, ← costR_app, List.take_append_drop]
  exact h.co
theorem ring_rot (h : RingH R xs ss cs σ τ) {st : List Int} (h1 : ∀ k, k < R → -1 ≤ st.getD k 0 ∧ st.getD k 0 ≤ 1) {k : Nat} (hk : k < R) : ringB xs (bo2 R) cs st ((rsOf σ R).drop k ++ (rsOf σ R).take k) = true := by
  rw [ringB_eq, List.map_append, List.map_drop, List.map_take, h.ends, en_rot R h.r2 h.r5 k hk, cost_rot h]
  have e1 : 2 ≤ ((rsOf σ R).drop k ++ (rsOf σ R).take k).length := by
    rw [List.length_append, List.length_drop, List.length_take, rsOf_len]
    have := h.r2
    omega
  have e2 : ((rsOf σ R).drop k ++ (rsOf σ R).take k).all (openI xs (bo2 R) st) = true := by
    rw [List.all_eq_true]
    intro r hr
    rcases List.mem_append.mp hr with z | z
    · exact h.opens h1 r (List.mem_of_mem_drop z)
    · exact h.opens h1 r (List.mem_of_mem_take z)
  rw [decide_eq_true e1, e2]
  rfl
theorem ring_ok (h : RingH R xs ss cs σ τ) {st : List Int} (h1 : ∀ k, k < R → -1 ≤ st.getD k 0 ∧ st.getD k 0 ≤ 1) : ringB xs (bo2 R) cs st (rsOf σ R) = true := by
  have := ring_rot h h1 (k := 0) (by have := h.r2; omega)
  simpa using this
theorem ring_twice (h : RingH R xs ss cs σ τ) {st : List Int} : ringB xs (bo2 R) cs st (rsOf σ R ++ rsOf σ R) = false := by
  rw [ringB_eq, List.map_append, h.ends, en_twice R h.r2 h.r5]
  simp
theorem ring_drop (h : RingH R xs ss cs σ τ) {st : List Int} : ringB xs (bo2 R) cs st ((rsOf σ R).drop 1) = false := by
  by_cases hR : R = 2
  · unfold ringB
    have e1 : ¬ 2 ≤ ((rsOf σ R).drop 1).length := by
      rw [List.length_drop, rsOf_len]; omega
    rw [decide_eq_false e1]
    rfl
  · rw [ringB_eq, List.map_drop, h.ends, en_drop R (by have := h.r2; omega) h.r5]
    simp
def backOf (σ : Nat → Int) (R : Nat) : List (Int × Int) := (List.range R).map fun k => (((R - 1 - k : Nat) : Int), -σ (R - 1 - k))
theorem back_rev (σ : Nat → Int) (R : Nat) : backOf σ R = (rsOf σ R).reverse.map fun r => (r.1, -r.2) := by
  apply List.ext_getElem
  · simp [backOf, rsOf]
  · intro i h1 h2
    simp [backOf] at h1
    simp [backOf, rsOf]
theorem ring_back (h : RingH R xs ss cs σ τ) {st : List Int} : ringB xs (bo2 R) cs st (backOf σ R) = false := by
  have hc : costR cs (backOf σ R) = 1 := by
    rw [back_rev]
    unfold costR
    rw [List.map_map, List.map_reverse, List.sum_reverse]
    have e : (rsOf σ R).map ((fun (r : Int × Int) => r.2 * cs.getD r.1.toNat 0) ∘ fun r => (r.1, -r.2)) = ((rsOf σ R).map fun r => r.2 * cs.getD r.1.toNat 0).map fun x => -x := by
      rw [List.map_map]
      apply List.map_congr_left
      intro r _
      show -r.2 * cs.getD r.1.toNat 0 = -(r.2 * cs.getD r.1.toNat 0)
      rw [Int.neg_mul]
    rw [e]
    have hn : ∀ l : List Int, (l.map fun x => -x).sum = -l.sum := by
      intro l
      induction l with
      | nil => rfl
      | cons a l ih => rw [List.map_cons, List.sum_cons, List.sum_cons, ih]; omega
    rw [hn]
    have := h.co
    unfold costR at this
    rw [this]
    rfl
  unfold ringB
  rw [hc]
  simp
theorem badHead {d : D} {l : List (Int × Int)} (ht : tyd d = true) (ho : openD xs (bo2 R) ss d = false) : badR xs (bo2 R) ss (.tup (d :: l.map pr2)) = true := by
  unfold badR
  dsimp only
  have e1 : (d :: l.map pr2).all tyd = true := by
    rw [List.all_cons, ht, Bool.true_and, List.all_eq_true]
    intro x hx
    obtain ⟨r, _, rfl⟩ := List.mem_map.mp hx
    rfl
  rw [e1, List.all_cons, ho]
  simp
theorem rL2_ok {b bo' co st d : D} (h : m_shows_price b bo' co st (.tup [.str "ring", d]) = some (.bl true)) : m_law_rings_L2 b bo' co st () d = some (.nx ()) := by
  unfold m_law_rings_L2
  rw [oCons_some, oCons_some, o1_some, dTup2, c5_s, h, o2_some, dIsNot_bb, o1_some, tru_bl, bs]
  rfl
theorem rL4_ok {b bo' co st d : D} (h : m_shows_price b bo' co st (.tup [.str "ring", d]) = some (.bl false)) : m_law_rings_L4 b bo' co st () d = some (.nx ()) := by
  unfold m_law_rings_L4
  rw [oCons_some, oCons_some, o1_some, dTup2, c5_s, h, o2_some, dIsNot_bb, o1_some, tru_bl, bs]
  rfl
theorem rings_ok (ns : List Int) (h : RingH R xs ss cs σ τ) : m_law_rings (.scr ns) (.lst [.int (R : Int), .lst (xs.map dct), .tup ((rsOf σ R).map pr2), .lst (ss.map D.int), .lst (cs.map D.int), .tup [.int (R : Int), .int τ]]) = some (.bl true) := by
  have r2 := h.r2
  have r5 := h.r5
  have S := h.S h.ls (fun s hs => by have := h.hs s hs; omega) h.lc h.hc
  have lr : ((rsOf σ R).map pr2).length = R := by rw [List.length_map, rsOf_len]
  have bb := building_ok (n := R) (xs := xs) (by omega) (by omega) (by rw [h.lx]; omega) h.hx
  have rep : dMul (.lst [.tup [.int (-2), .int 2]]) (.int (xs.length : Nat)) = some (.lst ((bo2 R).map pr2)) := by
    rw [dMul_rep (by rw [h.lx]; omega) (by rw [h.lx]; simp; omega), h.lx]
    exact congrArg (fun l => some (D.lst l)) (rep1 pr2 (R + 1) (-2, 2))
  unfold m_law_rings
  simp only [o2_some, dIx_lst, atI_0, atI_1, atI_2, atI_3, atI_4, atI_5]
  rw [oCons_some, oCons_some, bs, bb, bs, o1_some, dNeg_i]
  simp only [oCons_some, o1_some, dTup2, dLst1, c1_s, dLen_lst, dLen_tup, List.length_map, o2_some, rep, bs, rsOf_len]
  have lx : xs.length = R + 1 := h.lx
  rw [dRange1_s (by omega), bs, ranged0]
  -- turned
  have ct : dComp (m_law_rings_C1 (.tup ((rsOf σ R).map pr2))) ((List.range R).map fun i => D.int (i : Nat)) = some (.lst ((List.range R).map fun k => D.tup (((rsOf σ R).drop k ++ (rsOf σ R).take k).map pr2))) := by
    have cg : ∀ d ∈ (List.range R).map fun i => D.int (i : Nat), m_law_rings_C1 (.tup ((rsOf σ R).map pr2)) d = some (some (match d with | .int i => D.tup (((rsOf σ R).drop i.toNat ++ (rsOf σ R).take i.toNat).map pr2) | _ => .non)) := fun d hd => by
      obtain ⟨k, hk, rfl⟩ := List.mem_map.mp hd
      have hk := List.mem_range.mp hk
      unfold m_law_rings_C1
      rw [o1_some, dI_i, ms, oCut_s, dCut_t, oCut_s, dCut_t, cut_from (by omega), cut_to (by omega), o2_some, dAdd_tt (by rw [List.length_drop, List.length_take, lr]; omega), ms]
      simp
    rw [dComp_map (by simp; omega) cg, List.map_map]
    rfl
  rw [ct, bs, dItems_lst, bs]
  rw [loopO_nxI fun k hk => rL2_ok (by rw [price_r S (by simp [rsOf_len]; omega), ring_rot h h.ss1 hk])]
  rw [bs, Out.thnD_nx]
  -- backward
  have cb : dComp (m_law_rings_C3 (.tup ((rsOf σ R).map pr2))) ((List.range R).map fun i => D.int (i : Nat)) = some (.lst ((backOf σ R).map pr2)) := by
    have cg : ∀ d ∈ (List.range R).map fun i => D.int (i : Nat), m_law_rings_C3 (.tup ((rsOf σ R).map pr2)) d = some (some (match d with | .int i => pr2 (((R - 1 - i.toNat : Nat) : Int), -σ (R - 1 - i.toNat)) | _ => .non)) := fun d hd => by
      obtain ⟨k, hk, rfl⟩ := List.mem_map.mp hd
      have hk := List.mem_range.mp hk
      have e : (R : Int) - 1 - (k : Int) = ((R - 1 - k : Nat) : Int) := by omega
      have q := ixtD (f := pr2) (xs := rsOf σ R) (i := R - 1 - k) (0, 0) (by rw [rsOf_len]; omega)
      rw [rsOf_at σ (by omega)] at q
      unfold m_law_rings_C3
      rw [c1_s, dLen_tup, lr, o2_some, dSub_ii, o2_some, dSub_ii, e, o2_some, q]
      simp only [pr2, o2_some, dIx_tup, atI_0, atI_1, o1_some, dNeg_i, oCons_some, dTup2, ms]
      simp
    rw [dComp_map (by simp; omega) cg, List.map_map]
    unfold backOf
    rw [List.map_map]
    rfl
  rw [bs, cb, c1_s, dTuple_l, bs]
  -- wrong ones
  have r0 := ixtD (f := pr2) (xs := rsOf σ R) (i := 0) (0, 0) (by rw [rsOf_len]; omega)
  rw [rsOf_at σ (by omega)] at r0
  have r0' : dIx (.tup ((rsOf σ R).map pr2)) (.int 0) = some (pr2 (0, σ 0)) := r0
  have r1 := ixtD (f := pr2) (xs := rsOf σ R) (i := 1) (0, 0) (by rw [rsOf_len]; omega)
  rw [rsOf_at σ (by omega)] at r1
  have r1' : dIx (.tup ((rsOf σ R).map pr2)) (.int 1) = some (pr2 (1, σ 1)) := r1
  have k1 : cutD ((rsOf σ R).map pr2) (some 1) none = ((rsOf σ R).drop 1).map pr2 := by
    have := cut_from (ds := (rsOf σ R).map pr2) (k := 1) (by omega)
    rw [List.map_drop]
    exact this
  have k2 : cutD ((rsOf σ R).map pr2) (some 2) none = ((rsOf σ R).drop 2).map pr2 := by
    have := cut_from (ds := (rsOf σ R).map pr2) (k := 2) (by omega)
    rw [List.map_drop]
    exact this
  have k3 : cutD ((rsOf σ R).map pr2) none (some 1) = ((rsOf σ R).take 1).map pr2 := by
    have := cut_to (ds := (rsOf σ R).map pr2) (k := 1) (by omega)
    rw [List.map_take]
    exact this
  have l1 : (((rsOf σ R).drop 1).map pr2).length ≤ 5 := by rw [List.length_map, List.length_drop, rsOf_len]; omega
  have l2 : (((rsOf σ R).drop 2).map pr2).length ≤ 5 := by rw [List.length_map, List.length_drop, rsOf_len]; omega
  have tA : ∀ d : D, dAdd (.tup [d]) (.tup (((rsOf σ R).drop 1).map pr2)) = some (.tup (d :: ((rsOf σ R).drop 1).map pr2)) := fun d => dAdd_tt (by simp only [List.length_cons, List.length_nil]; omega)
  have tB : ∀ d e : D, dAdd (.tup [d, e]) (.tup (((rsOf σ R).drop 2).map pr2)) = some (.tup (d :: e :: ((rsOf σ R).drop 2).map pr2)) := fun d e => dAdd_tt (by simp only [List.length_cons, List.length_nil]; omega)
  have tC : ∀ l : List D, l.length ≤ 5 → dAdd (.tup ((rsOf σ R).map pr2)) (.tup l) = some (.tup ((rsOf σ R).map pr2 ++ l)) := fun l hl => dAdd_tt (by omega)
  have sb := h.sg 0 (by omega)
  simp only [tC _ (show ((rsOf σ R).map pr2).length ≤ 5 by omega), ms, dI_i, oCut_s, dCut_t, k1, k2, k3, dList_t, r0', r1', oCons_some, o1_some, dTup0, dTup1, dTup2, dTup3, tA, tB, dLst8, dLst4, dLst3, dNeg_i, bs]
  have pI : dIx (pr2 (0, σ 0)) (.int 1) = some (.int (σ 0)) := by simp [pr2]
  have pL : dList (pr2 (0, σ 0)) = some (.lst [.int 0, .int (σ 0)]) := id rfl
  simp only [pI, pL, mul2, oCons_some, o1_some, dTup0, dTup1, dTup2, dTup3, tA, tB, dLst8, dLst4, dLst3, o2_some, bs]
  rw [dAdd_ll (by simp), bs, dAdd_ll (by simp), bs, dItems_lst, bs]
  rw [loopO_nx fun d hd => ?_]
  · rw [bs, Out.thnD_nx]
    have t5 : (.tup [.int (R : Int), .int τ] : D) = pr2 ((R : Int), τ) := id rfl
    have f0 : dIx (.tup [.int (R : Int), .int τ]) (.int 0) = some (.int (R : Int)) := by simp
    have f1 : dIx (.tup [.int (R : Int), .int τ]) (.int 1) = some (.int τ) := by simp
    simp only [f0, f1, o1_some, dNeg_i, oCons_some, dTup2, o2_some, tC _ (show [D.tup [D.int (R : Int), D.int τ], D.tup [D.int (R : Int), D.int (-τ)]].length ≤ 5 by simp), dLst3, dItems_lst, bs]
    rw [loopO_nx fun d hd => ?_]
    · rw [bs, Out.thnD_nx]
      have c0 := ixmD (f := D.int) (xs := cs) (i := 0) 0 (by rw [h.lc]; omega)
      have c0' : dIx (.lst (cs.map D.int)) (.int 0) = some (.int (cs.getD 0 0)) := c0
      have wk := with_ok (f := D.int) (xs := cs) (k := 0) (v := cs.getD 0 0 + σ 0) (by rw [h.lc]; omega) (by rw [h.lc]; omega)
      have wk' : m_law_with (.lst (cs.map D.int)) (.int 0) (.int (cs.getD 0 0 + σ 0)) = some (.lst ((cs.set 0 (cs.getD 0 0 + σ 0)).map D.int)) := wk
      have S2 := S.fresh (k := 0) (v := cs.getD 0 0 + σ 0) h.c0
      have cz : costR (cs.set 0 (cs.getD 0 0 + σ 0)) (rsOf σ R) = 0 := by
        have hco := h.co
        have eR : R = (R - 1) + 1 := by omega
        unfold costR rsOf at hco ⊢
        rw [List.map_map] at hco ⊢
        rw [eR, List.range_succ_eq_map, List.map_cons, List.sum_cons, List.map_map] at hco ⊢
        have e2 : ((List.range (R - 1)).map (((fun (r : Int × Int) => r.2 * (cs.set 0 (cs.getD 0 0 + σ 0)).getD r.1.toNat 0) ∘ fun (k : Nat) => ((k : Int), σ k)) ∘ Nat.succ)) = ((List.range (R - 1)).map (((fun (r : Int × Int) => r.2 * cs.getD r.1.toNat 0) ∘ fun (k : Nat) => ((k : Int), σ k)) ∘ Nat.succ)) := by
          apply List.map_congr_left
          intro i _
          show σ (i + 1) * (cs.set 0 (cs.getD 0 0 + σ 0)).getD ((i + 1 : Nat) : Int).toNat 0 = σ (i + 1) * cs.getD ((i + 1 : Nat) : Int).toNat 0
          rw [Int.toNat_natCast, getD_set_ne _ _ (by omega)]
        rw [e2]
        have h0 : ((fun (r : Int × Int) => r.2 * (cs.set 0 (cs.getD 0 0 + σ 0)).getD r.1.toNat 0) ∘ fun (k : Nat) => ((k : Int), σ k)) 0 = σ 0 * (cs.getD 0 0 + σ 0) := by
          show σ 0 * (cs.set 0 (cs.getD 0 0 + σ 0)).getD ((0 : Nat) : Int).toNat 0 = _
          rw [Int.toNat_natCast, getD_set_eq _ _ (by rw [h.lc]; omega)]
        have h1 : ((fun (r : Int × Int) => r.2 * cs.getD r.1.toNat 0) ∘ fun (k : Nat) => ((k : Int), σ k)) 0 = σ 0 * cs.getD 0 0 := id rfl
        rw [h0]
        rw [h1] at hco
        rcases sb with y | y <;> rw [y] at hco ⊢ <;> omega
      have rf : ringB xs (bo2 R) (cs.set 0 (cs.getD 0 0 + σ 0)) ss (rsOf σ R) = false := by
        unfold ringB
        rw [cz]
        simp
      simp only [c0', pI, o2_some, dAdd_ii, c3_s, wk', bs, c5_s, price_r S2 (show (rsOf σ R).length ≤ 1000 by rw [rsOf_len]; omega), rf, dIsNot_bb, o1_some, tru_bl, decide_true, Bool.not_true, Bool.false_eq_true, if_false]
      rw [loopO_nxI fun k hk => ?_]
      · rfl
      · have rk := ixtD (f := pr2) (xs := rsOf σ R) (i := k) (0, 0) (by rw [rsOf_len]; omega)
        rw [rsOf_at σ hk] at rk
        have sk := h.sg k hk
        have pk : dIx (pr2 ((k : Int), σ k)) (.int 1) = some (.int (σ k)) := by simp [pr2]
        have w1 := with_ok (f := D.int) (xs := ss) (k := k) (v := 2 * σ k) (by rw [h.ls]; omega) (by rw [h.ls]; omega)
        have w2 := with_ok (f := D.int) (xs := ss) (k := k) (v := σ k) (by rw [h.ls]; omega) (by rw [h.ls]; omega)
        have S3 := h.S (st := ss.set k (2 * σ k)) (by rw [List.length_set]; exact h.ls) (fun s hs => by
          rcases mem_set_or hs with z | z
          · have := h.hs s z; omega
          · omega) h.lc h.hc
        have S4 := h.S (st := ss.set k (σ k)) (by rw [List.length_set]; exact h.ls) (fun s hs => by
          rcases mem_set_or hs with z | z
          · have := h.hs s z; omega
          · omega) h.lc h.hc
        have q1 : ringB xs (bo2 R) cs (ss.set k (2 * σ k)) (rsOf σ R) = false := by
          unfold ringB
          have : (rsOf σ R).all (openI xs (bo2 R) (ss.set k (2 * σ k))) = false := by
            rw [List.all_eq_false]
            refine ⟨((k : Int), σ k), List.mem_map.mpr ⟨k, List.mem_range.mpr hk, rfl⟩, ?_⟩
            unfold openI
            dsimp only
            rw [Int.toNat_natCast, bo2_at (by omega), getD_set_eq _ _ (by rw [h.ls]; omega)]
            rcases sk with y | y <;> rw [y] <;> simp
          rw [this]
          simp
        have q2 : ringB xs (bo2 R) cs (ss.set k (σ k)) (rsOf σ R) = true := ring_ok h fun j hj => by
          have : ∀ s ∈ ss.set k (σ k), -1 ≤ s ∧ s ≤ 1 := fun s hs => by
            rcases mem_set_or hs with z | z
            · exact h.hs s z
            · omega
          exact this _ (xin 0 (by rw [List.length_set, h.ls]; omega))
        unfold m_law_rings_L6
        simp only [rk, pk, o2_some, mul2, c3_s, w1, w2, bs, oCons_some, o1_some, dTup2, c5_s, price_r S3 (show (rsOf σ R).length ≤ 1000 by rw [rsOf_len]; omega), price_r S4 (show (rsOf σ R).length ≤ 1000 by rw [rsOf_len]; omega), q1, q2, dIsNot_bb, tru_bl, decide_true, Bool.not_true, Bool.false_eq_true, if_false]
    · -- due
      have due : ∀ L : List (Int × Int), L.length ≤ 100 → m_law_rings_L5 (.lst [.int (R : Int), .lst (xs.map dct), .tup ((rsOf σ R).map pr2), .lst (ss.map D.int), .lst (cs.map D.int), .tup [.int (R : Int), .int τ]]) (.lst ((bo2 R).map pr2)) (.lst (cs.map D.int)) (.lst (ss.map D.int)) (bld R xs) () (.tup (L.map pr2)) = some (.nx ()) := fun L hL => by
        unfold m_law_rings_L5
        rw [o2_some, dIx_lst, atI_1, c5_s, lring_ok S.st S.lb S.lc (by omega) (by omega), bs, oCons_some, oCons_some, o1_some, dTup2, c5_s, price_r S (by omega), c2_s, says_t, o1_some, tru_bl, oNot_s, bs]
        rfl
      simp only [List.mem_cons, List.not_mem_nil, or_false] at hd
      rcases hd with z | z | z <;> subst z
      · exact due (((R : Int), τ) :: (rsOf σ R).drop 1) (by rw [List.length_cons, List.length_drop, rsOf_len]; omega)
      · exact due ((1, σ 1) :: (0, σ 0) :: (rsOf σ R).drop 2) (by rw [List.length_cons, List.length_cons, List.length_drop, rsOf_len]; omega)
      · have e : (rsOf σ R).map pr2 ++ [D.tup [D.int (R : Int), D.int τ], D.tup [D.int (R : Int), D.int (-τ)]] = (rsOf σ R ++ [((R : Int), τ), ((R : Int), -τ)]).map pr2 := by simp [pr2]
        rw [e]
        exact due _ (by rw [List.length_append, rsOf_len]; simp; omega)
  · apply rL4_ok
    simp only [List.mem_append, List.mem_cons, List.not_mem_nil, or_false] at hd
    have nb : ∀ {d : D}, tyd d = true → openD xs (bo2 R) ss d = false → m_shows_price (bld R xs) (.lst ((bo2 R).map pr2)) (.lst (cs.map D.int)) (.lst (ss.map D.int)) (.tup [.str "ring", .tup (d :: ((rsOf σ R).drop 1).map pr2)]) = some (.bl false) := fun ht ho => price_rn S (badHead ht ho)
    have op : ∀ k s : Int, (k < 0 ∨ (xs.length : Int) ≤ k ∨ (s ≠ 1 ∧ s ≠ -1)) → openD xs (bo2 R) ss (.tup [.int k, .int s]) = false := fun k s hh => by
      show openI xs (bo2 R) ss (k, s) = false
      unfold openI
      dsimp only
      rcases hh with z | z | ⟨z, y⟩
      · rw [decide_eq_false (show ¬ 0 ≤ k by omega)]; rfl
      · rw [decide_eq_false (show ¬ k < (xs.length : Int) by omega)]; simp
      · rw [decide_eq_false z, decide_eq_false y]; simp
    rcases hd with ((z | z | z | z | z | z | z | z) | z | z | z | z) | z | z | z <;> subst z
    · rw [← List.map_append, price_r S (by simp [rsOf_len]; omega), ring_twice h]
    · rw [price_r S (by simp [rsOf_len]; omega), ring_drop h]
    · rw [price_r S (by simp [rsOf_len]; omega)]
      unfold ringB
      have e1 : ¬ 2 ≤ ((rsOf σ R).take 1).length := by rw [List.length_take, rsOf_len]; omega
      rw [decide_eq_false e1]
      rfl
    · rw [price_r S (by simp [backOf]; omega), ring_back h]
    · exact price_rn S rfl
    · exact nb rfl rfl
    · exact nb rfl (op _ _ (.inr (.inr ⟨by decide, by decide⟩)))
    · exact price_rn S rfl
    · exact nb rfl (op _ _ (.inr (.inr ⟨by omega, by omega⟩)))
    · exact nb rfl rfl
    · exact nb rfl rfl
    · exact price_rn S rfl
    · exact nb rfl (op _ _ (.inr (.inl (by omega))))
    · exact nb rfl (op _ _ (.inl (by decide)))
    · exact nb rfl rfl
end
end Mi
namespace Mi
open PySem L2
theorem law_holds (ns : List Int) (h : ns.length ≤ 63) : m_law (.scr ns) = some (.bl true) := by
  obtain ⟨N, xs, hp, ⟨hn1, hn6⟩, hxl, hx⟩ := plan_ok ns 0 (mr := 6) (me := 5) (mw := 3) (by omega) (by omega) (by omega)
  have hp' : m_law_plan (.scr ns) (.int 0) (.int 6) (.int 5) (.int 3) = some (.lst [.int (N : Int), .lst (xs.map dct)]) := hp
  have bb := building_ok (n := N) (xs := xs) hn1 (by omega) (by omega) hx
  obtain ⟨ps, hps, lps, bps⟩ := numbers_ok (cell ns 2) (N : Int) (-3) 3 (by omega) (by omega) (by omega) (by omega)
  rw [Int.toNat_natCast] at lps
  obtain ⟨bo, cs, ss, hh, l1, l2, l3, hJ⟩ := held_ok ns hx (by omega) lps bps
  have rb : ∀ j, j < xs.length → -6 ≤ riseJ xs ps j ∧ riseJ xs ps j ≤ 6 := fun j hj => by
    obtain ⟨d1, d2, d3⟩ := hx _ (xin (0, 0, 0) hj)
    have b1 := bps _ (xin (xs := ps) 0 (show (xs.getD j (0, 0, 0)).1 < ps.length by omega))
    have b2 := bps _ (xin (xs := ps) 0 (show (xs.getD j (0, 0, 0)).2.1 < ps.length by omega))
    unfold riseJ
    omega
  have H : Hyp N xs bo cs ss ps := ⟨hn1, by omega, by omega, hx, lps, l1, l2, l3, hJ, rb⟩
  obtain ⟨ds, hd, hl⟩ := draw_ok (cell ns 4) [(N : Int), 16, 2] (by intro b hb; simp at hb; rcases hb with z | z | z <;> subst z <;> omega) (by simp)
  match ds, hl with
  | [a, b, c], hl =>
  obtain ⟨⟨a0, a1⟩, ⟨b0, b1⟩, ⟨c0, c1'⟩, _⟩ := hl
  obtain ⟨A, rfl⟩ : ∃ A : Nat, a = (A : Int) := ⟨a.toNat, (Int.toNat_of_nonneg a0).symm⟩
  obtain ⟨B, rfl⟩ : ∃ B : Nat, b = (B : Int) := ⟨b.toNat, (Int.toNat_of_nonneg b0).symm⟩
  obtain ⟨C, rfl⟩ : ∃ C : Nat, c = (C : Int) := ⟨c.toNat, (Int.toNat_of_nonneg c0).symm⟩
  have hd' : m_law_draw (.int (cell ns 4)) (.lst [.int (N : Int), .int 16, .int 2]) = some (.lst [.int (A : Int), .int (B : Int), .int (C : Int)]) := hd
  have pr := pressed_ok H
  have ch := cheap_ok H (a := A) (b := B) (c := C) (by omega) (by omega)
  obtain ⟨R, xs2, ss2, cs2, σ, τ, hr, RH⟩ := round_ok ns
  have rg := rings_ok ns RH
  have c2' := cell_ok ns 2
  have c4' := cell_ok ns 4
  simp only [Int.cast_ofNat_Int] at c2' c4'
  unfold m_law
  rw [c5_s, hp', bs, o2_some, dIx_lst, atI_0, bs, o2_some, dIx_lst, atI_1, oCons_some, oCons_some, bs, bb, bs, c2_s, c2', o1_some, dNeg_i, c4_s, hps, bs, c3_s, hh, bs, c2_s, c4', oCons_some, oCons_some, oCons_some, o1_some, dLst3, c2_s, hd', bs]
  simp only [o2_some, dIx_lst, atI_0, atI_1, atI_2, c6_s, pr, c7_s, ch, o1_some, tru_bl, oNot_s, Bool.not_true, bs, Bool.false_eq_true, if_false, c1_s, hr, c2_s, rg]
end Mi
/-! the walks -/
namespace Mi
open PySem L2
open PyProof.Rows
theorem b0_bool : bootBuiltins "bool" = some (.type "bool") := by decide +kernel
theorem b0_enumerate : bootBuiltins "enumerate" = some (.type "enumerate") := by decide +kernel
theorem b0_int : bootBuiltins "int" = some (.type "int") := by decide +kernel
theorem b0_isinstance : bootBuiltins "isinstance" = some (.builtin "isinstance") := by decide +kernel
theorem b0_len : bootBuiltins "len" = some (.builtin "len") := by decide +kernel
theorem b0_list : bootBuiltins "list" = some (.type "list") := by decide +kernel
theorem b0_range : bootBuiltins "range" = some (.type "range") := by decide +kernel
theorem b0_sorted : bootBuiltins "sorted" = some (.builtin "sorted") := by decide +kernel
theorem b0_str : bootBuiltins "str" = some (.type "str") := by decide +kernel
theorem b0_sum : bootBuiltins "sum" = some (.builtin "sum") := by decide +kernel
theorem b0_tuple : bootBuiltins "tuple" = some (.type "tuple") := by decide +kernel
theorem b0_zip : bootBuiltins "zip" = some (.type "zip") := by decide +kernel
def top (i : Nat) : Stmt := PySem.Challenge.pw_warmhold_k83_judge_of_prices.main.body.getD i (.Pass ⟨0, 0, 0, 0⟩)
structure Txt (K : PySem.W.Frag) (mg : Str → Option Value) (C : Str → Addr) : Prop where
  b_bool : mg "bool" = none
  b_enumerate : mg "enumerate" = none
  b_int : mg "int" = none
  b_isinstance : mg "isinstance" = none
  b_len : mg "len" = none
  b_list : mg "list" = none
  b_range : mg "range" = none
  b_sorted : mg "sorted" = none
  b_str : mg "str" = none
  b_sum : mg "sum" = none
  b_tuple : mg "tuple" = none
  b_zip : mg "zip" = none
  g_MOST_COST : ∃ t, mg "MOST_COST" = some (.int 9 t)
  g_MOST_DUCTS : ∃ t, mg "MOST_DUCTS" = some (.int 16 t)
  g_MOST_FLOW : ∃ t, mg "MOST_FLOW" = some (.int 12 t)
  g_MOST_ROOMS : ∃ t, mg "MOST_ROOMS" = some (.int 8 t)
  g_MOST_UNITS : ∃ t, mg "MOST_UNITS" = some (.int 200 t)
  g_MOST_WIDTH : ∃ t, mg "MOST_WIDTH" = some (.int 6 t)
  cl_Building : Cls K (C "Building")
  mc_Building : mg "Building" = some (.ref (C "Building"))
  na_Building__widths : NoAttr K (C "Building") "_widths"
  na_Building_ducts : NoAttr K (C "Building") "ducts"
  na_Building_rooms : NoAttr K (C "Building") "rooms"
  ii_Building : ClsI ⟨K, C⟩ "Building"
section
variable {P : Program} {w : World} {K : PySem.W.Frag} {mg : Str → Option Value} {base : Heap} {C : Str → Addr}
abbrev s_law_draw : Stmt := top 47
abbrev N_law_draw : List Str := ["cell", "bounds", "found", "rest", "place", "mixed"]
theorem sc_law_draw : FnScope N_law_draw ["cell", "bounds"] (defScope s_law_draw) := ⟨rfl, rfl, rfl, by decide +kernel, rfl, by decide +kernel, by decide +kernel⟩
theorem ok_law_draw {f : Addr} {fd : FuncData} (F : Fun K "_law_draw" "_law_draw" s_law_draw f fd) (TX : Txt K mg C) : FnOk P w K mg base CX0 1 f fd ["cell", "bounds"] (spU ⟨K, C⟩ [.f, .f] (pur (f2 m_law_draw))) := by
  have nd := sc_law_draw.nd
  refine fn_ok (T := ⟨K, C⟩) F sc_law_draw rfl (by decide) (fun cdv A outer s H E hr => ?_)
  have hu := hr.units
  refine ⟨_, (pss_cons (ps_set (i := 2) nd rfl (Or.inl rfl) (pe_lst pa_nil))
  (pss_cons (ps_set (i := 3) nd rfl (Or.inl rfl) (pe_op op_sub (pv 0) (pe_op op_pow pe_int pe_int)))
  (pss_cons (ps_for PassesOwn.never rfl (pi_range1 rfl TX.b_range (pa_cons (pe_callB cl_len rfl TX.b_len b0_len (pa_cons (pv 1) pa_nil)) pa_nil)) (pg_name (i := 4) nd rfl (Or.inl rfl))
  (pss_cons (ps_if (pt_cmpR op_ge (pv 0) (pe_op op_pow pe_int pe_int) (nomark _))
  (pss_cons (ps_expr (pe_bm PySem.F.plainAttrs_list PySem.F.slot_list_append PySem.F.type_list_append mt_append (pv 2) (pa_cons (pe_op op_mod (pe_callTy call_int1 rfl TX.b_int b0_int (pa_cons (pv 3) pa_nil)) (pe_ix (ix_A hu) (pv 1) (pv 4) (fun _ _ => rfl))) pa_nil)))
  (pss_cons (ps_set (i := 3) nd rfl (Or.inl rfl) (pe_op op_fdiv (pv 3) (pe_ix (ix_A hu) (pv 1) (pv 4) (fun _ _ => rfl))))
  pss_nil))
  (pss_cons (ps_set (i := 5) nd rfl (Or.inl rfl) (pe_op op_mod (pe_callTy call_int1 rfl TX.b_int b0_int (pa_cons (pe_op op_addA (pe_op op_addA (pe_op op_mulA (pe_op op_mod (pe_callTy call_int1 rfl TX.b_int b0_int (pa_cons (pv 0) pa_nil)) pe_int) pe_int) (pe_op op_mulA (pv 4) pe_int)) pe_int) pa_nil)) pe_int))
  (pss_cons (ps_set (i := 5) nd rfl (Or.inl rfl) (pe_op op_mod (pe_callTy call_int1 rfl TX.b_int b0_int (pa_cons (pe_op op_addA (pe_op op_mulA (pv 5) pe_int) (pv 4)) pa_nil)) pe_int))
  (pss_cons (ps_expr (pe_bm PySem.F.plainAttrs_list PySem.F.slot_list_append PySem.F.type_list_append mt_append (pv 2) (pa_cons (pe_op op_mod (pe_callTy call_int1 rfl TX.b_int b0_int (pa_cons (pe_op op_fdiv (pv 5) pe_int) pa_nil)) (pe_ix (ix_A hu) (pv 1) (pv 4) (fun _ _ => rfl))) pa_nil)))
  pss_nil))))
  pss_nil))
  (pss_one (ps_ret (pv 2)))))), fun ds hds => ?_⟩
  match ds, hds with
  | [x_cell, x_bounds], _ =>
    refine bv_pur ?_
    show B _ _ _ (m_law_draw x_cell x_bounds) _
    unfold m_law_draw
    exact (bn_of (b_seq (bp_setO (i := 2) (evo_lst evl_nil)) fun x_found1 =>
  (b_seq (bp_set (i := 3) (ev_opS opS_sub (ev_val rfl) (ev_opS opS_pow ev_int ev_int))) fun x_rest2 =>
  (b_seq (bp_for (md := .f) (Γl := fun (x_b3 : D × D) => [.val x_cell, .val x_bounds, .own x_b3.2, .val x_b3.1, .no, .no]) (evi_range1 (evl_cons (ev_clS cS_len (evl_cons (ev_val rfl) evl_nil)) evl_nil)) (.keep (.keep (.keep (.keep (.skip (.skip .nil)))))) (fun x_b3 x_d5 =>
  (bg_name (b_seq (Γ1 := fun (x_j6 : D × D) => [.val x_cell, .val x_bounds, .own x_j6.2, .val x_j6.1, .val x_d5, .no]) (b_if (evt_test (ev_opS opS_ge (ev_val rfl) (ev_opS opS_pow ev_int ev_int)))
  (b_seq (bp_app (i := 2) rfl rfl (ev_opS opS_mod (ev_clS cS_int (evl_cons (ev_val rfl) evl_nil)) (ev_opP opP_ix (ev_val rfl) (ev_val rfl)))) fun x_found7 =>
  (b_seq (bp_set (i := 3) (ev_opS opS_div (ev_val rfl) (ev_opP opP_ix (ev_val rfl) (ev_val rfl)))) fun x_rest8 =>
  (bp_end (.keep (.keep (.keep (.keep (.keep (.skip .nil)))))))))
  (b_seq (bp_set (i := 5) (ev_opS opS_mod (ev_clS cS_int (evl_cons (ev_opM opM_add (ev_opM opM_add (ev_opM opM_mul (ev_opS opS_mod (ev_clS cS_int (evl_cons (ev_val rfl) evl_nil)) ev_int) ev_int) (ev_opM opM_mul (ev_val rfl) ev_int)) ev_int) evl_nil)) ev_int)) fun x_mixed9 =>
  (b_seq (bp_set (i := 5) (ev_opS opS_mod (ev_clS cS_int (evl_cons (ev_opM opM_add (ev_opM opM_mul (ev_val rfl) ev_int) (ev_val rfl)) evl_nil)) ev_int)) fun x_mixed10 =>
  (b_seq (bp_app (i := 2) rfl rfl (ev_opS opS_mod (ev_clS cS_int (evl_cons (ev_opS opS_div (ev_val rfl) ev_int) evl_nil)) (ev_opP opP_ix (ev_val rfl) (ev_val rfl)))) fun x_found11 =>
  (bp_end (.keep (.keep (.keep (.keep (.keep (.skip .nil))))))))))) fun x_j6 =>
  (bp_end (.keep (.keep (.keep (.keep (.skip (.skip .nil))))))))))) fun x_b3 =>
  (b_freeze 2 rfl (bd_ret (ev_val rfl)))))))

abbrev s_law_cell : Stmt := top 46
abbrev N_law_cell : List Str := ["script", "k"]
theorem sc_law_cell : FnScope N_law_cell ["script", "k"] (defScope s_law_cell) := ⟨rfl, rfl, rfl, by decide +kernel, rfl, by decide +kernel, by decide +kernel⟩
theorem ok_law_cell {f : Addr} {fd : FuncData} (F : Fun K "_law_cell" "_law_cell" s_law_cell f fd) (TX : Txt K mg C) : FnOk P w K mg base CX0 1 f fd ["script", "k"] (spU ⟨K, C⟩ [.f, .f] (pur (f2 m_law_cell))) := by
  have nd := sc_law_cell.nd
  refine fn_ok (T := ⟨K, C⟩) F sc_law_cell rfl (by decide) (fun cdv A outer s H E hr => ?_)
  have hu := hr.units
  refine ⟨_, (pss_cons (ps_if (pt_cmpR op_lt (pv 1) (pe_callB cl_len rfl TX.b_len b0_len (pa_cons (pv 0) pa_nil)) (nomark _))
  (pss_one (ps_ret (pe_ix (ix_A hu) (pv 0) (pv 1) (fun _ _ => rfl))))
  pss_nil)
  (pss_one (ps_ret pe_int))), fun ds hds => ?_⟩
  match ds, hds with
  | [x_script, x_k], _ =>
    refine bv_pur ?_
    show B _ _ _ (m_law_cell x_script x_k) _
    unfold m_law_cell
    exact (bn_of (bd_ifx0 (evt_test (ev_opS opS_lt (ev_val rfl) (ev_clS cS_len (evl_cons (ev_val rfl) evl_nil))))
  (bd_ret (ev_opP opP_ix (ev_val rfl) (ev_val rfl)))
  (bd_ret ev_int)))

abbrev s_law_ducts : Stmt := top 48
abbrev N_law_ducts : List Str := ["cell", "rooms", "joined", "extra", "most", "ducts", "bounds", "k", "draws", "first", "second"]
theorem sc_law_ducts : FnScope N_law_ducts ["cell", "rooms", "joined", "extra", "most"] (defScope s_law_ducts) := ⟨rfl, rfl, rfl, by decide +kernel, rfl, by decide +kernel, by decide +kernel⟩
theorem ok_law_ducts {f : Addr} {fd : FuncData} (F : Fun K "_law_ducts" "_law_ducts" s_law_ducts f fd) (TX : Txt K mg C) (C_law_draw : Cl P w K mg base 1 "_law_draw" ["cell", "bounds"] (spU ⟨K, C⟩ [.f, .f] (pur (f2 m_law_draw)))) : FnOk P w K mg base CX0 2 f fd ["cell", "rooms", "joined", "extra", "most"] (spU ⟨K, C⟩ [.f, .f, .f, .f, .f] (pur (f5 m_law_ducts))) := by
  have nd := sc_law_ducts.nd
  refine fn_ok (T := ⟨K, C⟩) F sc_law_ducts rfl (by decide) (fun cdv A outer s H E hr => ?_)
  have hu := hr.units
  refine ⟨_, (pss_cons (ps_set (i := 5) nd rfl (Or.inl rfl) (pe_lst pa_nil))
  (pss_cons (ps_if (pt_cmpR (op_eqD hu) (pv 1) pe_int (nomark _))
  (pss_one (ps_ret (pv 5)))
  pss_nil)
  (pss_cons (ps_set (i := 6) nd rfl (Or.inl rfl) (pe_lst pa_nil))
  (pss_cons (ps_for PassesOwn.never rfl (pi_range1 rfl TX.b_range (pa_cons (pe_op op_addA (pv 2) (pv 3)) pa_nil)) (pg_name (i := 7) nd rfl (Or.inl rfl))
  (pss_cons (ps_set (i := 6) nd rfl (Or.inl rfl) (pe_op op_addA (pv 6) (pe_lst (pa_cons pe_int (pa_cons (pe_op op_mulA pe_int (pe_op op_sub (pv 1) pe_int)) (pa_cons (pv 4) pa_nil))))))
  pss_nil))
  (pss_cons (ps_set (i := 8) nd rfl (Or.inl rfl) (pe_cl C_law_draw hr rfl (pa_cons (pv 0) (pa_cons (pv 6) pa_nil))))
  (pss_cons (ps_for PassesOwn.never rfl (pi_range1 rfl TX.b_range (pa_cons (pe_op op_addA (pv 2) (pv 3)) pa_nil)) (pg_name (i := 7) nd rfl (Or.inl rfl))
  (pss_cons (ps_set (i := 9) nd rfl (Or.inl rfl) (pe_op op_mod (pe_callTy call_int1 rfl TX.b_int b0_int (pa_cons (pe_ix (ix_A hu) (pv 8) (pe_op op_mulA pe_int (pv 7)) (fun _ _ => rfl)) pa_nil)) (pv 1)))
  (pss_cons (ps_set (i := 10) nd rfl (Or.inl rfl) (pe_op op_mod (pe_callTy call_int1 rfl TX.b_int b0_int (pa_cons (pe_op op_addA (pe_op op_addA (pv 9) pe_int) (pe_op op_fdiv (pe_ix (ix_A hu) (pv 8) (pe_op op_addA (pe_op op_mulA pe_int (pv 7)) pe_int) (fun _ _ => rfl)) pe_int)) pa_nil)) (pv 1)))
  (pss_cons (ps_if (pt_cmpR op_lt (pv 7) (pv 2) (nomark _))
  (pss_cons (ps_set (i := 9) nd rfl (Or.inl rfl) (pe_op op_addA (pv 7) pe_int))
  (pss_cons (ps_set (i := 10) nd rfl (Or.inl rfl) (pe_op op_mod (pe_callTy call_int1 rfl TX.b_int b0_int (pa_cons (pe_ix (ix_A hu) (pv 8) (pe_op op_mulA pe_int (pv 7)) (fun _ _ => rfl)) pa_nil)) (pe_op op_addA (pv 7) pe_int)))
  (pss_cons (ps_if (pt_cmpR (op_eqD hu) (pe_op op_mod (pe_callTy call_int1 rfl TX.b_int b0_int (pa_cons (pe_ix (ix_A hu) (pv 8) (pe_op op_addA (pe_op op_mulA pe_int (pv 7)) pe_int) (fun _ _ => rfl)) pa_nil)) pe_int) pe_int (nomark _))
  (pss_cons (ps_set (i := 9) nd rfl (Or.inl rfl) (pv 10))
  (pss_cons (ps_set (i := 10) nd rfl (Or.inl rfl) (pe_op op_addA (pv 7) pe_int))
  pss_nil))
  pss_nil)
  pss_nil)))
  pss_nil)
  (pss_cons (ps_expr (pe_bm PySem.F.plainAttrs_list PySem.F.slot_list_append PySem.F.type_list_append mt_append (pv 5) (pa_cons (pe_tup (pa_cons (pv 9) (pa_cons (pv 10) (pa_cons (pe_op op_addA (pe_ix (ix_A hu) (pv 8) (pe_op op_addA (pe_op op_mulA pe_int (pv 7)) pe_int) (fun _ _ => rfl)) pe_int) pa_nil)))) pa_nil)))
  pss_nil)))))
  (pss_one (ps_ret (pv 5))))))))), fun ds hds => ?_⟩
  match ds, hds with
  | [x_cell, x_rooms, x_joined, x_extra, x_most], _ =>
    refine bv_pur ?_
    show B _ _ _ (m_law_ducts x_cell x_rooms x_joined x_extra x_most) _
    unfold m_law_ducts
    exact (bn_of (b_seq (bp_setO (i := 5) (evo_lst evl_nil)) fun x_ducts1 =>
  (bd_ifx0 (evt_test (ev_opS opS_eq (ev_val rfl) ev_int))
  (b_freeze 5 rfl (bd_ret (ev_val rfl)))
  (b_seq (bp_set (i := 6) (ev_new (evo_lst evl_nil))) fun x_bounds2 =>
  (b_seq (bp_for (md := .f) (Γl := fun (x_b3 : D) => [.val x_cell, .val x_rooms, .val x_joined, .val x_extra, .val x_most, .own x_ducts1, .val x_b3, .no, .no, .no, .no]) (evi_range1 (evl_cons (ev_opM opM_add (ev_val rfl) (ev_val rfl)) evl_nil)) (.keep (.keep (.keep (.keep (.keep (.keep (.keep (.skip (.skip (.skip (.skip .nil))))))))))) (fun x_b3 x_d5 =>
  (bg_name (b_seq (bp_set (i := 6) (ev_opM opM_add (ev_val rfl) (ev_new (evo_lst (evl_cons ev_int (evl_cons (ev_opM opM_mul ev_int (ev_opS opS_sub (ev_val rfl) ev_int)) (evl_cons (ev_val rfl) evl_nil))))))) fun x_bounds6 =>
  (bp_end (.keep (.keep (.keep (.keep (.keep (.keep (.keep (.skip (.skip (.skip (.skip .nil)))))))))))))))) fun x_b3 =>
  (b_seq (bp_set (i := 8) (ev_callO rfl (eva_cons (ev_val rfl) (eva_cons (ev_val rfl) eva_nil)))) fun x_draws7 =>
  (b_seq (bp_for (md := .f) (Γl := fun (x_b8 : D) => [.val x_cell, .val x_rooms, .val x_joined, .val x_extra, .val x_most, .own x_b8, .val x_b3, .no, .val x_draws7, .no, .no]) (evi_range1 (evl_cons (ev_opM opM_add (ev_val rfl) (ev_val rfl)) evl_nil)) (.keep (.keep (.keep (.keep (.keep (.keep (.keep (.skip (.keep (.skip (.skip .nil))))))))))) (fun x_b8 x_d10 =>
  (bg_name (b_seq (bp_set (i := 9) (ev_opS opS_mod (ev_clS cS_int (evl_cons (ev_opP opP_ix (ev_val rfl) (ev_opM opM_mul ev_int (ev_val rfl))) evl_nil)) (ev_val rfl))) fun x_first11 =>
  (b_seq (bp_set (i := 10) (ev_opS opS_mod (ev_clS cS_int (evl_cons (ev_opM opM_add (ev_opM opM_add (ev_val rfl) ev_int) (ev_opS opS_div (ev_opP opP_ix (ev_val rfl) (ev_opM opM_add (ev_opM opM_mul ev_int (ev_val rfl)) ev_int)) ev_int)) evl_nil)) (ev_val rfl))) fun x_second12 =>
  (b_seq (Γ1 := fun (x_j13 : D × D) => [.val x_cell, .val x_rooms, .val x_joined, .val x_extra, .val x_most, .own x_b8, .val x_b3, .val x_d10, .val x_draws7, .val x_j13.1, .val x_j13.2]) (b_if (evt_test (ev_opS opS_lt (ev_val rfl) (ev_val rfl)))
  (b_seq (bp_set (i := 9) (ev_opM opM_add (ev_val rfl) ev_int)) fun x_first14 =>
  (b_seq (bp_set (i := 10) (ev_opS opS_mod (ev_clS cS_int (evl_cons (ev_opP opP_ix (ev_val rfl) (ev_opM opM_mul ev_int (ev_val rfl))) evl_nil)) (ev_opM opM_add (ev_val rfl) ev_int))) fun x_second15 =>
  (b_seq (Γ1 := fun (x_j16 : D × D) => [.val x_cell, .val x_rooms, .val x_joined, .val x_extra, .val x_most, .own x_b8, .val x_b3, .val x_d10, .val x_draws7, .val x_j16.1, .val x_j16.2]) (b_if (evt_test (ev_opS opS_eq (ev_opS opS_mod (ev_clS cS_int (evl_cons (ev_opP opP_ix (ev_val rfl) (ev_opM opM_add (ev_opM opM_mul ev_int (ev_val rfl)) ev_int)) evl_nil)) ev_int) ev_int))
  (b_seq (bp_set (i := 9) (ev_val rfl)) fun x_first17 =>
  (b_seq (bp_set (i := 10) (ev_opM opM_add (ev_val rfl) ev_int)) fun x_second18 =>
  (bp_end (.keep (.keep (.keep (.keep (.keep (.keep (.keep (.keep (.keep (.keep (.keep .nil))))))))))))))
  (bp_end (.keep (.keep (.keep (.keep (.keep (.keep (.keep (.keep (.keep (.keep (.keep .nil))))))))))))) fun x_j16 =>
  (bp_end (.keep (.keep (.keep (.keep (.keep (.keep (.keep (.keep (.keep (.keep (.keep .nil)))))))))))))))
  (bp_end (.keep (.keep (.keep (.keep (.keep (.keep (.keep (.keep (.keep (.keep (.keep .nil))))))))))))) fun x_j13 =>
  (b_seq (bp_app (i := 5) rfl rfl (ev_tup (evl_cons (ev_val rfl) (evl_cons (ev_val rfl) (evl_cons (ev_opM opM_add (ev_opP opP_ix (ev_val rfl) (ev_opM opM_add (ev_opM opM_mul ev_int (ev_val rfl)) ev_int)) ev_int) evl_nil))))) fun x_ducts19 =>
  (bp_end (.keep (.keep (.keep (.keep (.keep (.keep (.keep (.skip (.keep (.skip (.skip .nil))))))))))))))))))) fun x_b8 =>
  (b_freeze 5 rfl (bd_ret (ev_val rfl))))))))))

abbrev s_law_plan : Stmt := top 49
abbrev N_law_plan : List Str := ["script", "at", "most_rooms", "most_extra", "most_width", "head", "rooms", "joined"]
theorem sc_law_plan : FnScope N_law_plan ["script", "at", "most_rooms", "most_extra", "most_width"] (defScope s_law_plan) := ⟨rfl, rfl, rfl, by decide +kernel, rfl, by decide +kernel, by decide +kernel⟩
theorem ok_law_plan {f : Addr} {fd : FuncData} (F : Fun K "_law_plan" "_law_plan" s_law_plan f fd) (TX : Txt K mg C) (C_law_draw : Cl P w K mg base 1 "_law_draw" ["cell", "bounds"] (spU ⟨K, C⟩ [.f, .f] (pur (f2 m_law_draw)))) (C_law_cell : Cl P w K mg base 1 "_law_cell" ["script", "k"] (spU ⟨K, C⟩ [.f, .f] (pur (f2 m_law_cell)))) (C_law_ducts : Cl P w K mg base 2 "_law_ducts" ["cell", "rooms", "joined", "extra", "most"] (spU ⟨K, C⟩ [.f, .f, .f, .f, .f] (pur (f5 m_law_ducts)))) : FnOk P w K mg base CX0 3 f fd ["script", "at", "most_rooms", "most_extra", "most_width"] (spU ⟨K, C⟩ [.f, .f, .f, .f, .f] (pur (f5 m_law_plan))) := by
  have nd := sc_law_plan.nd
  refine fn_ok (T := ⟨K, C⟩) F sc_law_plan rfl (by decide) (fun cdv A outer s H E hr => ?_)
  have hu := hr.units
  refine ⟨_, (pss_cons (ps_set (i := 5) nd rfl (Or.inl rfl) (pe_cl C_law_draw hr rfl (pa_cons (pe_cl C_law_cell hr rfl (pa_cons (pv 0) (pa_cons (pv 1) pa_nil))) (pa_cons (pe_lst (pa_cons (pv 2) (pa_cons (pe_op op_addA (pv 3) pe_int) (pa_cons pe_int pa_nil)))) pa_nil))))
  (pss_cons (ps_set (i := 6) nd rfl (Or.inl rfl) (pe_op op_addA (pe_ix (ix_A hu) (pv 5) pe_int (fun _ _ => rfl)) pe_int))
  (pss_cons (ps_set (i := 7) nd rfl (Or.inl rfl) (pe_op op_sub (pv 6) pe_int))
  (pss_cons (ps_if (pt_cmpR (op_eqD hu) (pe_ix (ix_A hu) (pv 5) pe_int (fun _ _ => rfl)) pe_int (nomark _))
  (pss_cons (ps_set (i := 7) nd rfl (Or.inl rfl) pe_int)
  pss_nil)
  pss_nil)
  (pss_one (ps_ret (pe_lst (pa_cons (pv 6) (pa_cons (pe_cl C_law_ducts hr rfl (pa_cons (pe_cl C_law_cell hr rfl (pa_cons (pv 0) (pa_cons (pe_op op_addA (pv 1) pe_int) pa_nil))) (pa_cons (pv 6) (pa_cons (pv 7) (pa_cons (pe_ix (ix_A hu) (pv 5) pe_int (fun _ _ => rfl)) (pa_cons (pv 4) pa_nil)))))) pa_nil))))))))), fun ds hds => ?_⟩
  match ds, hds with
  | [x_script, x_at, x_most_rooms, x_most_extra, x_most_width], _ =>
    refine bv_pur ?_
    show B _ _ _ (m_law_plan x_script x_at x_most_rooms x_most_extra x_most_width) _
    unfold m_law_plan
    exact (bn_of (b_seq (bp_set (i := 5) (ev_callO rfl (eva_cons (ev_callO rfl (eva_cons (ev_val rfl) (eva_cons (ev_val rfl) eva_nil))) (eva_cons (ev_new (evo_lst (evl_cons (ev_val rfl) (evl_cons (ev_opM opM_add (ev_val rfl) ev_int) (evl_cons ev_int evl_nil))))) eva_nil)))) fun x_head1 =>
  (b_seq (bp_set (i := 6) (ev_opM opM_add (ev_opP opP_ix (ev_val rfl) ev_int) ev_int)) fun x_rooms2 =>
  (b_seq (bp_set (i := 7) (ev_opS opS_sub (ev_val rfl) ev_int)) fun x_joined3 =>
  (b_seq (Γ1 := fun (x_j4 : D) => [.val x_script, .val x_at, .val x_most_rooms, .val x_most_extra, .val x_most_width, .val x_head1, .val x_rooms2, .val x_j4]) (b_if (evt_test (ev_opS opS_eq (ev_opP opP_ix (ev_val rfl) ev_int) ev_int))
  (b_seq (bp_set (i := 7) ev_int) fun x_joined5 =>
  (bp_end (.keep (.keep (.keep (.keep (.keep (.keep (.keep (.keep .nil))))))))))
  (bp_end (.keep (.keep (.keep (.keep (.keep (.keep (.keep (.keep .nil)))))))))) fun x_j4 =>
  (bd_ret (ev_new (evo_lst (evl_cons (ev_val rfl) (evl_cons (ev_callO rfl (eva_cons (ev_callO rfl (eva_cons (ev_val rfl) (eva_cons (ev_opM opM_add (ev_val rfl) ev_int) eva_nil))) (eva_cons (ev_val rfl) (eva_cons (ev_val rfl) (eva_cons (ev_opP opP_ix (ev_val rfl) ev_int) (eva_cons (ev_val rfl) eva_nil)))))) evl_nil))))))))))

abbrev s_require : Stmt := top 11
abbrev N_require : List Str := ["holds", "name"]
theorem sc_require : FnScope N_require ["holds", "name"] (defScope s_require) := ⟨rfl, rfl, rfl, by decide +kernel, rfl, by decide +kernel, by decide +kernel⟩
theorem ok_require {f : Addr} {fd : FuncData} (F : Fun K "require" "require" s_require f fd) (TX : Txt K mg C) : FnOk P w K mg base CX0 1 f fd ["holds", "name"] (spU ⟨K, C⟩ [.f, .f] (pur (f2 m_require))) := by
  have nd := sc_require.nd
  refine fn_ok (T := ⟨K, C⟩) F sc_require rfl (by decide) (fun cdv A outer s H E hr => ?_)
  have hu := hr.units
  refine ⟨_, (pss_cons (ps_if (pt_not (pt_val (pv 0)))
  (pss_one ps_never)
  pss_nil)
  pss_nil), fun ds hds => ?_⟩
  match ds, hds with
  | [x_holds, x_name], _ =>
    refine bv_pur ?_
    show B _ _ _ (m_require x_holds x_name) _
    unfold m_require
    exact (bn_ifx0 (evt_not (evt_B (ev_val rfl)))
  b_never
  bn_end)

abbrev s_width_table : Stmt := top 24
abbrev N_width_table : List Str := ["rooms", "ducts", "rows", "first", "second", "width", "room", "row"]
theorem sc_width_table : FnScope N_width_table ["rooms", "ducts"] (defScope s_width_table) := ⟨rfl, rfl, rfl, by decide +kernel, rfl, by decide +kernel, by decide +kernel⟩
theorem ok_width_table {f : Addr} {fd : FuncData} (F : Fun K "width_table" "width_table" s_width_table f fd) (TX : Txt K mg C) : FnOk P w K mg base CX0 1 f fd ["rooms", "ducts"] (spU ⟨K, C⟩ [.f, .f] (pur (f2 m_width_table))) := by
  have nd := sc_width_table.nd
  refine fn_ok (T := ⟨K, C⟩) F sc_width_table rfl (by decide) (fun cdv A outer s H E hr => ?_)
  have hu := hr.units
  refine ⟨_, (pss_cons (ps_setLc (i := 2) (own := [("room", 6)]) (g := (gName 6)) (tt := tYes) (te := (tOp (rMulA K) (tLst (tCons (tC (.int 0)) tNil)) (tVar 0))) rfl nd rfl rfl (sw_true rfl rfl rfl (by decide +kernel)) (pi_range1 rfl TX.b_range (pa_cons (pv 0) pa_nil)) (blkOk_by (own := [("room", 6)]) (N := N_width_table) (sc := defScope s_width_table) (by decide +kernel)) (fun _ _ _ _ _ => (pg_name (i := 6) nd rfl (Or.inl rfl))) (fun _ _ _ _ _ => pts_nil) (fun _ _ _ _ _ => (pe_op op_mulA (pe_lst (pa_cons pe_int pa_nil)) (pv 0))))
  (pss_cons (ps_for PassesOwn.never rfl (pi_seqK (pv 1)) (pg_tup rfl (pgs_cons (pg_name (i := 3) nd rfl (Or.inl rfl)) (pgs_cons (pg_name (i := 4) nd rfl (Or.inl rfl)) (pgs_cons (pg_name (i := 5) nd rfl (Or.inl rfl)) pgs_nil))))
  (pss_cons (ps_augS (pe_ix (ix_A hu) (pv 2) (pv 3) (fun _ _ => rfl)) (pv 4) (get_A hu) (pv 5) ip_add (set_A hu))
  (pss_cons (ps_augS (pe_ix (ix_A hu) (pv 2) (pv 4) (fun _ _ => rfl)) (pv 3) (get_A hu) (pv 5) ip_add (set_A hu))
  pss_nil)))
  (pss_one (ps_ret (pe_callTy call_tuple_of rfl TX.b_tuple b0_tuple (pa_cons (pe_lc (own := [("row", 7)]) (g := (gName 7)) (tt := tYes) (te := (tCB (rTupOf K) (tCons (tVar 7) tNil))) rfl nd (pi_seqK (pv 2)) (blkOk_by (own := [("row", 7)]) (N := N_width_table) (sc := defScope s_width_table) (by decide +kernel)) (fun _ _ _ _ _ => (pg_name (i := 7) nd rfl (Or.inl rfl))) (fun _ _ _ _ _ => pts_nil) (fun _ _ _ _ _ => (pe_callTy call_tuple_of rfl TX.b_tuple b0_tuple (pa_cons (pv 7) pa_nil)))) pa_nil)))))), fun ds hds => ?_⟩
  match ds, hds with
  | [x_rooms, x_ducts], _ =>
    refine bv_pur ?_
    show B _ _ _ (m_width_table x_rooms x_ducts) _
    unfold m_width_table
    exact (bn_of (bn_grid (i := 2) (r := 0) (v := 6) (by decide) (by simp [ctx0]) rfl fun _ => bn_for3 (a := 3) (b := 4) (c := 5) (Γh := [.val x_rooms, .val x_ducts, .no, .no, .no, .no, .no, .no]) (evi_seq (ev_val (i := 1) rfl)) (.keep (.keep (.skip (.skip (.skip (.skip (.skip (.skip .nil)))))))) (by decide) (by decide) (by decide) (fun _ _ _ _ => (bn_aug rfl (ev_val (i := 3) rfl) (ev_val (i := 4) rfl) (ev_val (i := 5) rfl) fun _ => (bn_aug rfl (ev_val (i := 4) rfl) (ev_val (i := 3) rfl) (ev_val (i := 5) rfl) fun _ => (bnn_end (.keep (.keep (.skip (.skip (.skip (.skip (.skip (.skip .nil)))))))) rfl)))) fun x_dss => bn_frz rfl (bd_ret (ev_clM cM_tuple (evl_cons (ev_new (evo_comp (md := .f) rfl (tin_name (by decide)) (evi_seq (ev_val rfl)) (fun x_d1 => (bg_name (ce_all (ev_clM cM_tuple (evl_cons (ev_val rfl) evl_nil))))))) evl_nil)))))

abbrev s_is_integer : Stmt := top 12
abbrev N_is_integer : List Str := ["value"]
theorem sc_is_integer : FnScope N_is_integer ["value"] (defScope s_is_integer) := ⟨rfl, rfl, rfl, by decide +kernel, rfl, by decide +kernel, by decide +kernel⟩
theorem ok_is_integer {f : Addr} {fd : FuncData} (F : Fun K "is_integer" "is_integer" s_is_integer f fd) (TX : Txt K mg C) : FnOk P w K mg base CX0 1 f fd ["value"] (spU ⟨K, C⟩ [.f] (pur (f1 m_is_integer))) := by
  have nd := sc_is_integer.nd
  refine fn_ok (T := ⟨K, C⟩) F sc_is_integer rfl (by decide) (fun cdv A outer s H E hr => ?_)
  have hu := hr.units
  refine ⟨_, (pss_one (ps_ret (pe_and (pe_callB call_isi rfl TX.b_isinstance b0_isinstance (pa_cons (pv 0) (pa_cons (pe_bltn (v := .ty "int") rfl TX.b_int b0_int rfl) pa_nil))) (pe_one (pe_not (pe_callB call_isi rfl TX.b_isinstance b0_isinstance (pa_cons (pv 0) (pa_cons (pe_bltn (v := .ty "bool") rfl TX.b_bool b0_bool rfl) pa_nil)))))))), fun ds hds => ?_⟩
  match ds, hds with
  | [x_value], _ =>
    refine bv_pur ?_
    show B _ _ _ (m_is_integer x_value) _
    unfold m_is_integer
    exact (bn_of (bd_ret (ev_andV (ev_isi (ev_val rfl)) (ev_notV (ev_isi (ev_val rfl))))))

abbrev s_is_between : Stmt := top 13
abbrev N_is_between : List Str := ["value", "least", "most"]
theorem sc_is_between : FnScope N_is_between ["value", "least", "most"] (defScope s_is_between) := ⟨rfl, rfl, rfl, by decide +kernel, rfl, by decide +kernel, by decide +kernel⟩
theorem ok_is_between {f : Addr} {fd : FuncData} (F : Fun K "is_between" "is_between" s_is_between f fd) (TX : Txt K mg C) (C_is_integer : Cl P w K mg base 1 "is_integer" ["value"] (spU ⟨K, C⟩ [.f] (pur (f1 m_is_integer)))) : FnOk P w K mg base CX0 2 f fd ["value", "least", "most"] (spU ⟨K, C⟩ [.f, .f, .f] (pur (f3 m_is_between))) := by
  have nd := sc_is_between.nd
  refine fn_ok (T := ⟨K, C⟩) F sc_is_between rfl (by decide) (fun cdv A outer s H E hr => ?_)
  have hu := hr.units
  refine ⟨_, (pss_one (ps_ret (pe_and (pe_cl C_is_integer hr rfl (pa_cons (pv 0) pa_nil)) (pe_one (pe_chain op_le op_le (pv 1) (pv 0) (pv 2)))))), fun ds hds => ?_⟩
  match ds, hds with
  | [x_value, x_least, x_most], _ =>
    refine bv_pur ?_
    show B _ _ _ (m_is_between x_value x_least x_most) _
    unfold m_is_between
    exact (bn_of (bd_ret (ev_andV (ev_callO rfl (eva_cons (ev_val rfl) eva_nil)) (ev_chain opS_le opS_le (ev_val rfl) (ev_val rfl) (ev_val rfl)))))

abbrev s_is_table : Stmt := top 14
abbrev N_is_table : List Str := ["value", "size", "least", "most", "entry"]
theorem sc_is_table : FnScope N_is_table ["value", "size", "least", "most"] (defScope s_is_table) := ⟨rfl, rfl, rfl, by decide +kernel, rfl, by decide +kernel, by decide +kernel⟩
theorem ok_is_table {f : Addr} {fd : FuncData} (F : Fun K "is_table" "is_table" s_is_table f fd) (TX : Txt K mg C) (C_is_between : Cl P w K mg base 2 "is_between" ["value", "least", "most"] (spU ⟨K, C⟩ [.f, .f, .f] (pur (f3 m_is_between)))) : FnOk P w K mg base CX0 3 f fd ["value", "size", "least", "most"] (spU ⟨K, C⟩ [.f, .f, .f, .f] (pur (f4 m_is_table))) := by
  have nd := sc_is_table.nd
  refine fn_ok (T := ⟨K, C⟩) F sc_is_table rfl (by decide) (fun cdv A outer s H E hr => ?_)
  have hu := hr.units
  refine ⟨_, (pss_cons (ps_if (PW.pt (pw_or (pt_not (pt_val (pe_callB call_isiT rfl TX.b_isinstance b0_isinstance (pa_cons (pv 0) (pa_cons (pe_tup (pa_cons (pe_bltn (v := .ty "list") rfl TX.b_list b0_list rfl) (pa_cons (pe_bltn (v := .ty "tuple") rfl TX.b_tuple b0_tuple rfl) pa_nil))) pa_nil))))) (pw_or1 (pt_cmpR (op_neD hu) (pe_callB cl_len rfl TX.b_len b0_len (pa_cons (pv 0) pa_nil)) (pv 1) (nomark _)))))
  (pss_one (ps_ret pe_bl))
  pss_nil)
  (pss_cons (ps_for PassesOwn.never rfl (pi_seqK (pv 0)) (pg_name (i := 4) nd rfl (Or.inl rfl))
  (pss_cons (ps_if (pt_not (pt_val (pe_cl C_is_between hr rfl (pa_cons (pv 4) (pa_cons (pv 2) (pa_cons (pv 3) pa_nil))))))
  (pss_one (ps_ret pe_bl))
  pss_nil)
  pss_nil))
  (pss_one (ps_ret pe_bl)))), fun ds hds => ?_⟩
  match ds, hds with
  | [x_value, x_size, x_least, x_most], _ =>
    refine bv_pur ?_
    show B _ _ _ (m_is_table x_value x_size x_least x_most) _
    unfold m_is_table
    exact (bn_of (bd_ifx0 (evt_or (evt_not (evt_B (ev_isi2 (ev_val rfl)))) (evt_test (ev_opS opS_ne (ev_clS cS_len (evl_cons (ev_val rfl) evl_nil)) (ev_val rfl))))
  (bd_ret ev_bl)
  (bd_seqx (bt_for (md := .f) (Γl := fun (x_b1 : Unit) => [.val x_value, .val x_size, .val x_least, .val x_most, .no]) (evi_seq (ev_val rfl)) (.keep (.keep (.keep (.keep (.skip .nil))))) (fun x_b1 x_d3 =>
  (bg_name (b_ifx0 (evt_not (evt_B (ev_callO rfl (eva_cons (ev_val rfl) (eva_cons (ev_val rfl) (eva_cons (ev_val rfl) eva_nil))))))
  (bt_ret' ev_bl)
  (bt_end (.keep (.keep (.keep (.keep (.skip .nil)))))))))) fun x_b1 =>
  (bd_ret ev_bl))))

abbrev s_are_ducts : Stmt := top 23
abbrev N_are_ducts : List Str := ["value", "rooms", "duct", "first", "second", "width"]
theorem sc_are_ducts : FnScope N_are_ducts ["value", "rooms"] (defScope s_are_ducts) := ⟨rfl, rfl, rfl, by decide +kernel, rfl, by decide +kernel, by decide +kernel⟩
theorem ok_are_ducts {f : Addr} {fd : FuncData} (F : Fun K "are_ducts" "are_ducts" s_are_ducts f fd) (TX : Txt K mg C) (C_is_table : Cl P w K mg base 3 "is_table" ["value", "size", "least", "most"] (spU ⟨K, C⟩ [.f, .f, .f, .f] (pur (f4 m_is_table)))) : FnOk P w K mg base CX0 4 f fd ["value", "rooms"] (spU ⟨K, C⟩ [.f, .f] (pur (f2 m_are_ducts))) := by
  have nd := sc_are_ducts.nd
  refine fn_ok (T := ⟨K, C⟩) F sc_are_ducts rfl (by decide) (fun cdv A outer s H E hr => ?_)
  have hu := hr.units
  refine ⟨_, (pss_cons (ps_if (PW.pt (pw_or (pt_not (pt_val (pe_callB call_isiT rfl TX.b_isinstance b0_isinstance (pa_cons (pv 0) (pa_cons (pe_tup (pa_cons (pe_bltn (v := .ty "list") rfl TX.b_list b0_list rfl) (pa_cons (pe_bltn (v := .ty "tuple") rfl TX.b_tuple b0_tuple rfl) pa_nil))) pa_nil))))) (pw_or1 (pt_cmpR op_gt (pe_callB cl_len rfl TX.b_len b0_len (pa_cons (pv 0) pa_nil)) (pe_gint rfl TX.g_MOST_DUCTS) (nomark _)))))
  (pss_one (ps_ret pe_bl))
  pss_nil)
  (pss_cons (ps_for PassesOwn.never rfl (pi_seqK (pv 0)) (pg_name (i := 2) nd rfl (Or.inl rfl))
  (pss_cons (ps_if (pt_not (pt_val (pe_cl C_is_table hr rfl (pa_cons (pv 2) (pa_cons pe_int (pa_cons pe_int (pa_cons (pe_gint rfl TX.g_MOST_ROOMS) pa_nil)))))))
  (pss_one (ps_ret pe_bl))
  pss_nil)
  (pss_cons (ps_asg (pv 2) (pg_tup rfl (pgs_cons (pg_name (i := 3) nd rfl (Or.inl rfl)) (pgs_cons (pg_name (i := 4) nd rfl (Or.inl rfl)) (pgs_cons (pg_name (i := 5) nd rfl (Or.inl rfl)) pgs_nil)))))
  (pss_cons (ps_if (PW.pt (pw_or (pt_cmpR op_ge (pv 3) (pv 1) (nomark _)) (pw_or (pt_cmpR op_ge (pv 4) (pv 1) (nomark _)) (pw_or1 (pt_cmpR (op_eqD hu) (pv 3) (pv 4) (nomark _))))))
  (pss_one (ps_ret pe_bl))
  pss_nil)
  (pss_cons (ps_if (pt_not (pt_chain op_le op_le pe_int (pv 5) (pe_gint rfl TX.g_MOST_WIDTH)))
  (pss_one (ps_ret pe_bl))
  pss_nil)
  pss_nil)))))
  (pss_one (ps_ret pe_bl)))), fun ds hds => ?_⟩
  match ds, hds with
  | [x_value, x_rooms], _ =>
    refine bv_pur ?_
    show B _ _ _ (m_are_ducts x_value x_rooms) _
    unfold m_are_ducts
    exact (bn_of (bd_ifx0 (evt_or (evt_not (evt_B (ev_isi2 (ev_val rfl)))) (evt_test (ev_opS opS_gt (ev_clS cS_len (evl_cons (ev_val rfl) evl_nil)) ev_int)))
  (bd_ret ev_bl)
  (bd_seqx (bt_for (md := .f) (Γl := fun (x_b1 : Unit) => [.val x_value, .val x_rooms, .no, .no, .no, .no]) (evi_seq (ev_val rfl)) (.keep (.keep (.skip (.skip (.skip (.skip .nil)))))) (fun x_b1 x_d3 =>
  (bg_name (b_ifx0 (evt_not (evt_B (ev_callO rfl (eva_cons (ev_val rfl) (eva_cons ev_int (eva_cons ev_int (eva_cons ev_int eva_nil)))))))
  (bt_ret' ev_bl)
  (b_unp (md := .f) (ev_val rfl) fun x_t4 =>
  (bg_tup3 fun x_first5 x_second6 x_width7 => (b_ifx0 (evt_or (evt_test (ev_opS opS_ge (ev_val rfl) (ev_val rfl))) (evt_or (evt_test (ev_opS opS_ge (ev_val rfl) (ev_val rfl))) (evt_test (ev_opS opS_eq (ev_val rfl) (ev_val rfl)))))
  (bt_ret' ev_bl)
  (b_ifx0 (evt_not (evt_test (ev_chain opS_le opS_le ev_int (ev_val rfl) ev_int)))
  (bt_ret' ev_bl)
  (bt_end (.keep (.keep (.skip (.skip (.skip (.skip .nil))))))))))))))) fun x_b1 =>
  (bd_ret ev_bl))))

abbrev s_Building_init : Stmt := inClass (top 25) 0
abbrev N_Building_init : List Str := ["self", "rooms", "ducts", "duct"]
theorem sc_Building_init : FnScope N_Building_init ["self", "rooms", "ducts"] (defScope s_Building_init) := ⟨rfl, rfl, rfl, by decide +kernel, rfl, by decide +kernel, by decide +kernel⟩
theorem ok_Building_init {f : Addr} {fd : FuncData} (F : Fun K "__init__" "Building.__init__" s_Building_init f fd) (TX : Txt K mg C) (C_require : Cl P w K mg base 1 "require" ["holds", "name"] (spU ⟨K, C⟩ [.f, .f] (pur (f2 m_require)))) (C_width_table : Cl P w K mg base 1 "width_table" ["rooms", "ducts"] (spU ⟨K, C⟩ [.f, .f] (pur (f2 m_width_table)))) (C_is_between : Cl P w K mg base 2 "is_between" ["value", "least", "most"] (spU ⟨K, C⟩ [.f, .f, .f] (pur (f3 m_is_between)))) (C_are_ducts : Cl P w K mg base 4 "are_ducts" ["value", "rooms"] (spU ⟨K, C⟩ [.f, .f] (pur (f2 m_are_ducts)))) : FnOk P w K mg base CX0 5 f fd ["self", "rooms", "ducts"] (spU ⟨K, C⟩ [.u, .f, .f] (f3 m_Building_init)) := by
  have nd := sc_Building_init.nd
  refine fn_ok (T := ⟨K, C⟩) F sc_Building_init rfl (by decide) (fun cdv A outer s H E hr => ?_)
  have hu := hr.units
  refine ⟨_, (pss_cons (ps_expr (pe_cl C_require hr rfl (pa_cons (pe_cl C_is_between hr rfl (pa_cons (pv 1) (pa_cons pe_int (pa_cons (pe_gint rfl TX.g_MOST_ROOMS) pa_nil)))) (pa_cons pe_str pa_nil))))
  (pss_cons (ps_expr (pe_cl C_require hr rfl (pa_cons (pe_cl C_are_ducts hr rfl (pa_cons (pv 2) (pa_cons (pv 1) pa_nil))) (pa_cons pe_str pa_nil))))
  (pss_cons (ps_fld (pv 0) (pv 1) rfl)
  (pss_cons (ps_fld (pv 0) (pe_callTy call_tuple_of rfl TX.b_tuple b0_tuple (pa_cons (pe_lc (own := [("duct", 3)]) (g := (gName 3)) (tt := tYes) (te := (tCB (rTupOf K) (tCons (tVar 3) tNil))) rfl nd (pi_seqK (pv 2)) (blkOk_by (own := [("duct", 3)]) (N := N_Building_init) (sc := defScope s_Building_init) (by decide +kernel)) (fun _ _ _ _ _ => (pg_name (i := 3) nd rfl (Or.inl rfl))) (fun _ _ _ _ _ => pts_nil) (fun _ _ _ _ _ => (pe_callTy call_tuple_of rfl TX.b_tuple b0_tuple (pa_cons (pv 3) pa_nil)))) pa_nil)) rfl)
  (pss_cons (ps_fld (pv 0) (pe_cl C_width_table hr rfl (pa_cons (pe_fld (pv 0) rfl) (pa_cons (pe_fld (pv 0) rfl) pa_nil))) rfl)
  pss_nil))))), fun ds hds => ?_⟩
  match ds, hds with
  | [x_self, x_rooms, x_ducts], _ =>
    skip
    show B _ _ _ (m_Building_init x_self x_rooms x_ducts) _
    unfold m_Building_init
    exact (b_seq (bp_drop (md := .h) (ev_callO rfl (eva_cons (ev_callO rfl (eva_cons (ev_val rfl) (eva_cons ev_int (eva_cons ev_int eva_nil)))) (eva_cons ev_str eva_nil)))) fun _ =>
  (b_seq (bp_drop (md := .h) (ev_callO rfl (eva_cons (ev_callO rfl (eva_cons (ev_val rfl) (eva_cons (ev_val rfl) eva_nil))) (eva_cons ev_str eva_nil)))) fun _ =>
  (b_seq (bp_fld (i := 0) TX.cl_Building TX.na_Building_rooms rfl rfl (ev_val rfl)) fun x_self1 =>
  (b_seq (bp_fld (i := 0) TX.cl_Building TX.na_Building_ducts rfl rfl (ev_clM cM_tuple (evl_cons (ev_new (evo_comp (md := .f) rfl (tin_name (by decide)) (evi_seq (ev_val rfl)) (fun x_d2 => (bg_name (ce_all (ev_clM cM_tuple (evl_cons (ev_val rfl) evl_nil))))))) evl_nil))) fun x_self3 =>
  (b_seq (bp_fld (i := 0) TX.cl_Building TX.na_Building__widths rfl rfl (ev_callO rfl (eva_cons (ev_fldO TX.cl_Building TX.na_Building_rooms rfl rfl) (eva_cons (ev_fldO TX.cl_Building TX.na_Building_ducts rfl rfl) eva_nil)))) fun x_self4 =>
  bv_end)))))

abbrev s_law_numbers : Stmt := top 50
abbrev N_law_numbers : List Str := ["cell", "count", "least", "most", "bounds", "number"]
theorem sc_law_numbers : FnScope N_law_numbers ["cell", "count", "least", "most"] (defScope s_law_numbers) := ⟨rfl, rfl, rfl, by decide +kernel, rfl, by decide +kernel, by decide +kernel⟩
theorem ok_law_numbers {f : Addr} {fd : FuncData} (F : Fun K "_law_numbers" "_law_numbers" s_law_numbers f fd) (TX : Txt K mg C) (C_law_draw : Cl P w K mg base 1 "_law_draw" ["cell", "bounds"] (spU ⟨K, C⟩ [.f, .f] (pur (f2 m_law_draw)))) : FnOk P w K mg base CX0 2 f fd ["cell", "count", "least", "most"] (spU ⟨K, C⟩ [.f, .f, .f, .f] (pur (f4 m_law_numbers))) := by
  have nd := sc_law_numbers.nd
  refine fn_ok (T := ⟨K, C⟩) F sc_law_numbers rfl (by decide) (fun cdv A outer s H E hr => ?_)
  have hu := hr.units
  refine ⟨_, (pss_cons (ps_set (i := 4) nd rfl (Or.inl rfl) (pe_op op_mulA (pe_lst (pa_cons (pe_op op_addA (pe_op op_sub (pv 3) (pv 2)) pe_int) pa_nil)) (pv 1)))
  (pss_one (ps_ret (pe_lc (own := [("number", 5)]) (g := (gName 5)) (tt := tYes) (te := (tOp (rAddA K) (tVar 2) (tVar 5))) rfl nd (pi_seqK (pe_cl C_law_draw hr rfl (pa_cons (pv 0) (pa_cons (pv 4) pa_nil)))) (blkOk_by (own := [("number", 5)]) (N := N_law_numbers) (sc := defScope s_law_numbers) (by decide +kernel)) (fun _ _ _ _ _ => (pg_name (i := 5) nd rfl (Or.inl rfl))) (fun _ _ _ _ _ => pts_nil) (fun _ _ _ _ _ => (pe_op op_addA (pv 2) (pv 5))))))), fun ds hds => ?_⟩
  match ds, hds with
  | [x_cell, x_count, x_least, x_most], _ =>
    refine bv_pur ?_
    show B _ _ _ (m_law_numbers x_cell x_count x_least x_most) _
    unfold m_law_numbers
    exact (bn_of (b_seq (bp_set (i := 4) (ev_opM opM_mul (ev_new (evo_lst (evl_cons (ev_opM opM_add (ev_opS opS_sub (ev_val rfl) (ev_val rfl)) ev_int) evl_nil))) (ev_val rfl))) fun x_bounds1 =>
  (bd_ret (ev_new (evo_comp (md := .f) rfl (tin_name (by decide)) (evi_seq (ev_callO rfl (eva_cons (ev_val rfl) (eva_cons (ev_val rfl) eva_nil)))) (fun x_d2 => (bg_name (ce_all (ev_opM opM_add (ev_val rfl) (ev_val rfl))))))))))

abbrev s_law_held : Stmt := top 56
abbrev N_law_held : List Str := ["script", "ducts", "pressures", "draws", "bounds", "stream", "costs", "k", "rise", "least", "span"]
theorem sc_law_held : FnScope N_law_held ["script", "ducts", "pressures"] (defScope s_law_held) := ⟨rfl, rfl, rfl, by decide +kernel, rfl, by decide +kernel, by decide +kernel⟩
theorem ok_law_held {f : Addr} {fd : FuncData} (F : Fun K "_law_held" "_law_held" s_law_held f fd) (TX : Txt K mg C) (C_law_draw : Cl P w K mg base 1 "_law_draw" ["cell", "bounds"] (spU ⟨K, C⟩ [.f, .f] (pur (f2 m_law_draw)))) (C_law_cell : Cl P w K mg base 1 "_law_cell" ["script", "k"] (spU ⟨K, C⟩ [.f, .f] (pur (f2 m_law_cell)))) : FnOk P w K mg base CX0 2 f fd ["script", "ducts", "pressures"] (spU ⟨K, C⟩ [.f, .f, .f] (pur (f3 m_law_held))) := by
  have nd := sc_law_held.nd
  refine fn_ok (T := ⟨K, C⟩) F sc_law_held rfl (by decide) (fun cdv A outer s H E hr => ?_)
  have hu := hr.units
  refine ⟨_, (pss_cons (ps_set (i := 3) nd rfl (Or.inl rfl) (pe_cl C_law_draw hr rfl (pa_cons (pe_cl C_law_cell hr rfl (pa_cons (pv 0) (pa_cons pe_int pa_nil))) (pa_cons (pe_op op_mulA (pe_lst (pa_cons pe_int (pa_cons pe_int (pa_cons pe_int (pa_cons pe_int (pa_cons pe_int pa_nil)))))) (pe_callB cl_len rfl TX.b_len b0_len (pa_cons (pv 1) pa_nil))) pa_nil))))
  (pss_cons (ps_set (i := 4) nd rfl (Or.inl rfl) (pe_lst pa_nil))
  (pss_cons (ps_set (i := 5) nd rfl (Or.inl rfl) (pe_lst pa_nil))
  (pss_cons (ps_set (i := 6) nd rfl (Or.inl rfl) (pe_lst pa_nil))
  (pss_cons (ps_for PassesOwn.never rfl (pi_range1 rfl TX.b_range (pa_cons (pe_callB cl_len rfl TX.b_len b0_len (pa_cons (pv 1) pa_nil)) pa_nil)) (pg_name (i := 7) nd rfl (Or.inl rfl))
  (pss_cons (ps_set (i := 8) nd rfl (Or.inl rfl) (pe_op op_sub (pe_ix (ix_A hu) (pv 2) (pe_ix (ix_A hu) (pe_ix (ix_A hu) (pv 1) (pv 7) (fun _ _ => rfl)) pe_int (fun _ _ => rfl)) (fun _ _ => rfl)) (pe_ix (ix_A hu) (pv 2) (pe_ix (ix_A hu) (pe_ix (ix_A hu) (pv 1) (pv 7) (fun _ _ => rfl)) pe_int (fun _ _ => rfl)) (fun _ _ => rfl))))
  (pss_cons (ps_set (i := 9) nd rfl (Or.inl rfl) (pe_op op_sub (pe_ix (ix_A hu) (pv 3) (pe_op op_addA (pe_op op_mulA pe_int (pv 7)) pe_int) (fun _ _ => rfl)) pe_int))
  (pss_cons (ps_set (i := 10) nd rfl (Or.inl rfl) (pe_ix (ix_A hu) (pv 3) (pe_op op_addA (pe_op op_mulA pe_int (pv 7)) pe_int) (fun _ _ => rfl)))
  (pss_cons (ps_expr (pe_bm PySem.F.plainAttrs_list PySem.F.slot_list_append PySem.F.type_list_append mt_append (pv 4) (pa_cons (pe_tup (pa_cons (pv 9) (pa_cons (pe_op op_addA (pv 9) (pv 10)) pa_nil))) pa_nil)))
  (pss_cons (ps_expr (pe_bm PySem.F.plainAttrs_list PySem.F.slot_list_append PySem.F.type_list_append mt_append (pv 5) (pa_cons (pe_ix (ix_A hu) (pe_lst (pa_cons (pv 9) (pa_cons (pe_op op_addA (pv 9) (pv 10)) (pa_cons (pe_op op_addA (pv 9) (pe_op op_mod (pe_callTy call_int1 rfl TX.b_int b0_int (pa_cons (pe_ix (ix_A hu) (pv 3) (pe_op op_addA (pe_op op_mulA pe_int (pv 7)) pe_int) (fun _ _ => rfl)) pa_nil)) (pe_op op_addA (pv 10) pe_int))) pa_nil)))) (pe_ix (ix_A hu) (pv 3) (pe_op op_mulA pe_int (pv 7)) (fun _ _ => rfl)) (fun _ _ => rfl)) pa_nil)))
  (pss_cons (ps_expr (pe_bm PySem.F.plainAttrs_list PySem.F.slot_list_append PySem.F.type_list_append mt_append (pv 6) (pa_cons (pe_op op_addA (pv 8) (pe_op op_mulA (pe_ix (ix_A hu) (pe_lst (pa_cons pe_int (pa_cons (pe_un un_neg pe_int) (pa_cons pe_int pa_nil)))) (pe_ix (ix_A hu) (pv 3) (pe_op op_mulA pe_int (pv 7)) (fun _ _ => rfl)) (fun _ _ => rfl)) (pe_ix (ix_A hu) (pv 3) (pe_op op_addA (pe_op op_mulA pe_int (pv 7)) pe_int) (fun _ _ => rfl)))) pa_nil)))
  pss_nil)))))))
  (pss_one (ps_ret (pe_lst (pa_cons (pv 4) (pa_cons (pv 6) (pa_cons (pv 5) pa_nil))))))))))), fun ds hds => ?_⟩
  match ds, hds with
  | [x_script, x_ducts, x_pressures], _ =>
    refine bv_pur ?_
    show B _ _ _ (m_law_held x_script x_ducts x_pressures) _
    unfold m_law_held
    exact (bn_of (b_seq (bp_set (i := 3) (ev_callO rfl (eva_cons (ev_callO rfl (eva_cons (ev_val rfl) (eva_cons ev_int eva_nil))) (eva_cons (ev_opM opM_mul (ev_new (evo_lst (evl_cons ev_int (evl_cons ev_int (evl_cons ev_int (evl_cons ev_int (evl_cons ev_int evl_nil))))))) (ev_clS cS_len (evl_cons (ev_val rfl) evl_nil))) eva_nil)))) fun x_draws1 =>
  (b_seq (bp_setO (i := 4) (evo_lst evl_nil)) fun x_bounds2 =>
  (b_seq (bp_setO (i := 5) (evo_lst evl_nil)) fun x_stream3 =>
  (b_seq (bp_setO (i := 6) (evo_lst evl_nil)) fun x_costs4 =>
  (b_seq (bp_for (md := .f) (Γl := fun (x_b5 : D × D × D) => [.val x_script, .val x_ducts, .val x_pressures, .val x_draws1, .own x_b5.1, .own x_b5.2.1, .own x_b5.2.2, .no, .no, .no, .no]) (evi_range1 (evl_cons (ev_clS cS_len (evl_cons (ev_val rfl) evl_nil)) evl_nil)) (.keep (.keep (.keep (.keep (.keep (.keep (.keep (.skip (.skip (.skip (.skip .nil))))))))))) (fun x_b5 x_d7 =>
  (bg_name (b_seq (bp_set (i := 8) (ev_opS opS_sub (ev_opP opP_ix (ev_val rfl) (ev_opP opP_ix (ev_opP opP_ix (ev_val rfl) (ev_val rfl)) ev_int)) (ev_opP opP_ix (ev_val rfl) (ev_opP opP_ix (ev_opP opP_ix (ev_val rfl) (ev_val rfl)) ev_int)))) fun x_rise8 =>
  (b_seq (bp_set (i := 9) (ev_opS opS_sub (ev_opP opP_ix (ev_val rfl) (ev_opM opM_add (ev_opM opM_mul ev_int (ev_val rfl)) ev_int)) ev_int)) fun x_least9 =>
  (b_seq (bp_set (i := 10) (ev_opP opP_ix (ev_val rfl) (ev_opM opM_add (ev_opM opM_mul ev_int (ev_val rfl)) ev_int))) fun x_span10 =>
  (b_seq (bp_app (i := 4) rfl rfl (ev_tup (evl_cons (ev_val rfl) (evl_cons (ev_opM opM_add (ev_val rfl) (ev_val rfl)) evl_nil)))) fun x_bounds11 =>
  (b_seq (bp_app (i := 5) rfl rfl (ev_opP opP_ix (ev_new (evo_lst (evl_cons (ev_val rfl) (evl_cons (ev_opM opM_add (ev_val rfl) (ev_val rfl)) (evl_cons (ev_opM opM_add (ev_val rfl) (ev_opS opS_mod (ev_clS cS_int (evl_cons (ev_opP opP_ix (ev_val rfl) (ev_opM opM_add (ev_opM opM_mul ev_int (ev_val rfl)) ev_int)) evl_nil)) (ev_opM opM_add (ev_val rfl) ev_int))) evl_nil))))) (ev_opP opP_ix (ev_val rfl) (ev_opM opM_mul ev_int (ev_val rfl))))) fun x_stream12 =>
  (b_seq (bp_app (i := 6) rfl rfl (ev_opM opM_add (ev_val rfl) (ev_opM opM_mul (ev_opP opP_ix (ev_new (evo_lst (evl_cons ev_int (evl_cons (ev_neg ev_int) (evl_cons ev_int evl_nil))))) (ev_opP opP_ix (ev_val rfl) (ev_opM opM_mul ev_int (ev_val rfl)))) (ev_opP opP_ix (ev_val rfl) (ev_opM opM_add (ev_opM opM_mul ev_int (ev_val rfl)) ev_int))))) fun x_costs13 =>
  (bp_end (.keep (.keep (.keep (.keep (.keep (.keep (.keep (.skip (.skip (.skip (.skip .nil))))))))))))))))))))) fun x_b5 =>
  (b_freeze 4 rfl (b_freeze 6 rfl (b_freeze 5 rfl (bd_ret (ev_new (evo_lst (evl_cons (ev_val rfl) (evl_cons (ev_val rfl) (evl_cons (ev_val rfl) evl_nil)))))))))))))))

abbrev s_law_with : Stmt := top 57
abbrev N_law_with : List Str := ["values", "place", "value"]
theorem sc_law_with : FnScope N_law_with ["values", "place", "value"] (defScope s_law_with) := ⟨rfl, rfl, rfl, by decide +kernel, rfl, by decide +kernel, by decide +kernel⟩
theorem ok_law_with {f : Addr} {fd : FuncData} (F : Fun K "_law_with" "_law_with" s_law_with f fd) (TX : Txt K mg C) : FnOk P w K mg base CX0 1 f fd ["values", "place", "value"] (spU ⟨K, C⟩ [.f, .f, .f] (pur (f3 m_law_with))) := by
  have nd := sc_law_with.nd
  refine fn_ok (T := ⟨K, C⟩) F sc_law_with rfl (by decide) (fun cdv A outer s H E hr => ?_)
  have hu := hr.units
  refine ⟨_, (pss_one (ps_ret (pe_op op_addA (pe_op op_addA (pe_slice sl_all (pv 0) po_none (po_some (pv 1))) (pe_lst (pa_cons (pv 2) pa_nil))) (pe_slice sl_all (pv 0) (po_some (pe_op op_addA (pv 1) pe_int)) po_none)))), fun ds hds => ?_⟩
  match ds, hds with
  | [x_values, x_place, x_value], _ =>
    refine bv_pur ?_
    show B _ _ _ (m_law_with x_values x_place x_value) _
    unfold m_law_with
    exact (bn_of (bd_ret (ev_opM opM_add (ev_opM opM_add (ev_cut (ev_val rfl) evp_none (evp_some (ev_val rfl))) (ev_new (evo_lst (evl_cons (ev_val rfl) evl_nil)))) (ev_cut (ev_val rfl) (evp_some (ev_opM opM_add (ev_val rfl) ev_int)) evp_none))))

abbrev s_law_ints : Stmt := top 51
abbrev N_law_ints : List Str := ["value", "size", "entry"]
theorem sc_law_ints : FnScope N_law_ints ["value", "size"] (defScope s_law_ints) := ⟨rfl, rfl, rfl, by decide +kernel, rfl, by decide +kernel, by decide +kernel⟩
theorem ok_law_ints {f : Addr} {fd : FuncData} (F : Fun K "_law_ints" "_law_ints" s_law_ints f fd) (TX : Txt K mg C) : FnOk P w K mg base CX0 1 f fd ["value", "size"] (spU ⟨K, C⟩ [.f, .f] (pur (f2 m_law_ints))) := by
  have nd := sc_law_ints.nd
  refine fn_ok (T := ⟨K, C⟩) F sc_law_ints rfl (by decide) (fun cdv A outer s H E hr => ?_)
  have hu := hr.units
  refine ⟨_, (pss_cons (ps_if (PW.pt (pw_or (pt_not (pt_val (pe_callB call_isi rfl TX.b_isinstance b0_isinstance (pa_cons (pv 0) (pa_cons (pe_bltn (v := .ty "tuple") rfl TX.b_tuple b0_tuple rfl) pa_nil))))) (pw_or1 (pt_cmpR (op_neD hu) (pe_callB cl_len rfl TX.b_len b0_len (pa_cons (pv 0) pa_nil)) (pv 1) (nomark _)))))
  (pss_one (ps_ret pe_bl))
  pss_nil)
  (pss_cons (ps_for PassesOwn.never rfl (pi_seqK (pv 0)) (pg_name (i := 2) nd rfl (Or.inl rfl))
  (pss_cons (ps_if (PW.pt (pw_or (pt_not (pt_val (pe_callB call_isi rfl TX.b_isinstance b0_isinstance (pa_cons (pv 2) (pa_cons (pe_bltn (v := .ty "int") rfl TX.b_int b0_int rfl) pa_nil))))) (pw_or1 (pt_val (pe_callB call_isi rfl TX.b_isinstance b0_isinstance (pa_cons (pv 2) (pa_cons (pe_bltn (v := .ty "bool") rfl TX.b_bool b0_bool rfl) pa_nil)))))))
  (pss_one (ps_ret pe_bl))
  pss_nil)
  pss_nil))
  (pss_one (ps_ret pe_bl)))), fun ds hds => ?_⟩
  match ds, hds with
  | [x_value, x_size], _ =>
    refine bv_pur ?_
    show B _ _ _ (m_law_ints x_value x_size) _
    unfold m_law_ints
    exact (bn_of (bd_ifx0 (evt_or (evt_not (evt_B (ev_isi (ev_val rfl)))) (evt_test (ev_opS opS_ne (ev_clS cS_len (evl_cons (ev_val rfl) evl_nil)) (ev_val rfl))))
  (bd_ret ev_bl)
  (bd_seqx (bt_for (md := .f) (Γl := fun (x_b1 : Unit) => [.val x_value, .val x_size, .no]) (evi_seq (ev_val rfl)) (.keep (.keep (.skip .nil))) (fun x_b1 x_d3 =>
  (bg_name (b_ifx0 (evt_or (evt_not (evt_B (ev_isi (ev_val rfl)))) (evt_B (ev_isi (ev_val rfl))))
  (bt_ret' ev_bl)
  (bt_end (.keep (.keep (.skip .nil)))))))) fun x_b1 =>
  (bd_ret ev_bl))))

abbrev s_law_ring : Stmt := top 54
abbrev N_law_ring : List Str := ["ducts", "bounds", "costs", "stream", "ring", "tails", "heads", "total", "step", "number", "k"]
theorem sc_law_ring : FnScope N_law_ring ["ducts", "bounds", "costs", "stream", "ring"] (defScope s_law_ring) := ⟨rfl, rfl, rfl, by decide +kernel, rfl, by decide +kernel, by decide +kernel⟩
theorem ok_law_ring {f : Addr} {fd : FuncData} (F : Fun K "_law_ring" "_law_ring" s_law_ring f fd) (TX : Txt K mg C) (C_law_ints : Cl P w K mg base 1 "_law_ints" ["value", "size"] (spU ⟨K, C⟩ [.f, .f] (pur (f2 m_law_ints)))) : FnOk P w K mg base CX0 2 f fd ["ducts", "bounds", "costs", "stream", "ring"] (spU ⟨K, C⟩ [.f, .f, .f, .f, .f] (pur (f5 m_law_ring))) := by
  have nd := sc_law_ring.nd
  refine fn_ok (T := ⟨K, C⟩) F sc_law_ring rfl (by decide) (fun cdv A outer s H E hr => ?_)
  have hu := hr.units
  refine ⟨_, (pss_cons (ps_if (PW.pt (pw_or (pt_not (pt_val (pe_callB call_isi rfl TX.b_isinstance b0_isinstance (pa_cons (pv 4) (pa_cons (pe_bltn (v := .ty "tuple") rfl TX.b_tuple b0_tuple rfl) pa_nil))))) (pw_or1 (pt_cmpR op_lt (pe_callB cl_len rfl TX.b_len b0_len (pa_cons (pv 4) pa_nil)) pe_int (nomark _)))))
  (pss_one (ps_ret pe_bl))
  pss_nil)
  (pss_cons (ps_set (i := 5) nd rfl (Or.inl rfl) (pe_lst pa_nil))
  (pss_cons (ps_set (i := 6) nd rfl (Or.inl rfl) (pe_lst pa_nil))
  (pss_cons (ps_set (i := 7) nd rfl (Or.inl rfl) pe_int)
  (pss_cons (ps_for PassesOwn.never rfl (pi_seqK (pv 4)) (pg_name (i := 8) nd rfl (Or.inl rfl))
  (pss_cons (ps_if (PW.pt (pw_or (pt_not (pt_val (pe_cl C_law_ints hr rfl (pa_cons (pv 8) (pa_cons pe_int pa_nil))))) (pw_or (pt_cmpR op_lt (pe_ix (ix_A hu) (pv 8) pe_int (fun _ _ => rfl)) pe_int (nomark _)) (pw_or (pt_cmpR op_ge (pe_ix (ix_A hu) (pv 8) pe_int (fun _ _ => rfl)) (pe_callB cl_len rfl TX.b_len b0_len (pa_cons (pv 0) pa_nil)) (nomark _)) (pw_or1 (pt_cmpR (op_notInA hu) (pe_ix (ix_A hu) (pv 8) pe_int (fun _ _ => rfl)) (pe_lst (pa_cons pe_int (pa_cons (pe_un un_neg pe_int) pa_nil))) (by rfl)))))))
  (pss_one (ps_ret pe_bl))
  pss_nil)
  (pss_cons (ps_set (i := 9) nd rfl (Or.inl rfl) (pe_op op_addA (pe_ix (ix_A hu) (pv 3) (pe_ix (ix_A hu) (pv 8) pe_int (fun _ _ => rfl)) (fun _ _ => rfl)) (pe_ix (ix_A hu) (pv 8) pe_int (fun _ _ => rfl))))
  (pss_cons (ps_if (PW.pt (pw_or (pt_cmpR op_lt (pv 9) (pe_ix (ix_A hu) (pe_ix (ix_A hu) (pv 1) (pe_ix (ix_A hu) (pv 8) pe_int (fun _ _ => rfl)) (fun _ _ => rfl)) pe_int (fun _ _ => rfl)) (nomark _)) (pw_or1 (pt_cmpR op_gt (pv 9) (pe_ix (ix_A hu) (pe_ix (ix_A hu) (pv 1) (pe_ix (ix_A hu) (pv 8) pe_int (fun _ _ => rfl)) (fun _ _ => rfl)) pe_int (fun _ _ => rfl)) (nomark _)))))
  (pss_one (ps_ret pe_bl))
  pss_nil)
  (pss_cons (ps_expr (pe_bm PySem.F.plainAttrs_list PySem.F.slot_list_append PySem.F.type_list_append mt_append (pv 5) (pa_cons (pe_ix (ix_A hu) (pe_ix (ix_A hu) (pv 0) (pe_ix (ix_A hu) (pv 8) pe_int (fun _ _ => rfl)) (fun _ _ => rfl)) (pe_callTy call_int1 rfl TX.b_int b0_int (pa_cons (pe_cmpR (op_eqD hu) (pe_ix (ix_A hu) (pv 8) pe_int (fun _ _ => rfl)) (pe_un un_neg pe_int) (nomark _)) pa_nil)) (fun _ _ => rfl)) pa_nil)))
  (pss_cons (ps_expr (pe_bm PySem.F.plainAttrs_list PySem.F.slot_list_append PySem.F.type_list_append mt_append (pv 6) (pa_cons (pe_ix (ix_A hu) (pe_ix (ix_A hu) (pv 0) (pe_ix (ix_A hu) (pv 8) pe_int (fun _ _ => rfl)) (fun _ _ => rfl)) (pe_callTy call_int1 rfl TX.b_int b0_int (pa_cons (pe_cmpR (op_eqD hu) (pe_ix (ix_A hu) (pv 8) pe_int (fun _ _ => rfl)) pe_int (nomark _)) pa_nil)) (fun _ _ => rfl)) pa_nil)))
  (pss_cons (ps_set (i := 7) nd rfl (Or.inl rfl) (pe_op op_addA (pv 7) (pe_op op_mulA (pe_ix (ix_A hu) (pv 8) pe_int (fun _ _ => rfl)) (pe_ix (ix_A hu) (pv 2) (pe_ix (ix_A hu) (pv 8) pe_int (fun _ _ => rfl)) (fun _ _ => rfl)))))
  pss_nil)))))))
  (pss_cons (ps_for PassesOwn.never rfl (pi_range1 rfl TX.b_range (pa_cons (pe_callB cl_len rfl TX.b_len b0_len (pa_cons (pv 4) pa_nil)) pa_nil)) (pg_name (i := 10) nd rfl (Or.inl rfl))
  (pss_cons (ps_if (PW.pt (pw_or (pt_cmpR (op_neD hu) (pe_ix (ix_A hu) (pv 6) (pe_op op_sub (pv 10) pe_int) (fun _ _ => rfl)) (pe_ix (ix_A hu) (pv 5) (pv 10) (fun _ _ => rfl)) (nomark _)) (pw_or1 (pt_cmpR (op_inA hu) (pe_ix (ix_A hu) (pv 5) (pv 10) (fun _ _ => rfl)) (pe_slice sl_all (pv 5) po_none (po_some (pv 10))) (by rfl)))))
  (pss_one (ps_ret pe_bl))
  pss_nil)
  pss_nil))
  (pss_one (ps_ret (pe_cmpR op_lt (pv 7) pe_int (nomark _)))))))))), fun ds hds => ?_⟩
  match ds, hds with
  | [x_ducts, x_bounds, x_costs, x_stream, x_ring], _ =>
    refine bv_pur ?_
    show B _ _ _ (m_law_ring x_ducts x_bounds x_costs x_stream x_ring) _
    unfold m_law_ring
    exact (bn_of (bd_ifx0 (evt_or (evt_not (evt_B (ev_isi (ev_val rfl)))) (evt_test (ev_opS opS_lt (ev_clS cS_len (evl_cons (ev_val rfl) evl_nil)) ev_int)))
  (bd_ret ev_bl)
  (b_seq (bp_setO (i := 5) (evo_lst evl_nil)) fun x_tails1 =>
  (b_seq (bp_setO (i := 6) (evo_lst evl_nil)) fun x_heads2 =>
  (b_seq (bp_set (i := 7) ev_int) fun x_total3 =>
  (bd_seqx (bt_for (md := .f) (Γl := fun (x_b4 : D × D × D) => [.val x_ducts, .val x_bounds, .val x_costs, .val x_stream, .val x_ring, .own x_b4.2.1, .own x_b4.2.2, .val x_b4.1, .no, .no, .no]) (evi_seq (ev_val rfl)) (.keep (.keep (.keep (.keep (.keep (.keep (.keep (.keep (.skip (.skip (.skip .nil))))))))))) (fun x_b4 x_d6 =>
  (bg_name (b_ifx0 (evt_or (evt_not (evt_B (ev_callO rfl (eva_cons (ev_val rfl) (eva_cons ev_int eva_nil))))) (evt_or (evt_test (ev_opS opS_lt (ev_opP opP_ix (ev_val rfl) ev_int) ev_int)) (evt_or (evt_test (ev_opS opS_ge (ev_opP opP_ix (ev_val rfl) ev_int) (ev_clS cS_len (evl_cons (ev_val rfl) evl_nil)))) (evt_test (ev_opS opS_notIn (ev_opP opP_ix (ev_val rfl) ev_int) (ev_lstH (evl_cons ev_int (evl_cons (ev_neg ev_int) evl_nil))))))))
  (bt_ret' ev_bl)
  (b_seq (bp_set (i := 9) (ev_opM opM_add (ev_opP opP_ix (ev_val rfl) (ev_opP opP_ix (ev_val rfl) ev_int)) (ev_opP opP_ix (ev_val rfl) ev_int))) fun x_number7 =>
  (b_ifx0 (evt_or (evt_test (ev_opS opS_lt (ev_val rfl) (ev_opP opP_ix (ev_opP opP_ix (ev_val rfl) (ev_opP opP_ix (ev_val rfl) ev_int)) ev_int))) (evt_test (ev_opS opS_gt (ev_val rfl) (ev_opP opP_ix (ev_opP opP_ix (ev_val rfl) (ev_opP opP_ix (ev_val rfl) ev_int)) ev_int))))
  (bt_ret' ev_bl)
  (b_seq (bp_app (i := 5) rfl rfl (ev_opP opP_ix (ev_opP opP_ix (ev_val rfl) (ev_opP opP_ix (ev_val rfl) ev_int)) (ev_clS cS_int (evl_cons (ev_opS opS_eq (ev_opP opP_ix (ev_val rfl) ev_int) (ev_neg ev_int)) evl_nil)))) fun x_tails8 =>
  (b_seq (bp_app (i := 6) rfl rfl (ev_opP opP_ix (ev_opP opP_ix (ev_val rfl) (ev_opP opP_ix (ev_val rfl) ev_int)) (ev_clS cS_int (evl_cons (ev_opS opS_eq (ev_opP opP_ix (ev_val rfl) ev_int) ev_int) evl_nil)))) fun x_heads9 =>
  (b_seq (bp_set (i := 7) (ev_opM opM_add (ev_val rfl) (ev_opM opM_mul (ev_opP opP_ix (ev_val rfl) ev_int) (ev_opP opP_ix (ev_val rfl) (ev_opP opP_ix (ev_val rfl) ev_int))))) fun x_total10 =>
  (bt_end (.keep (.keep (.keep (.keep (.keep (.keep (.keep (.keep (.skip (.skip (.skip .nil))))))))))))))))))))) fun x_b4 =>
  (bd_seqx (bt_for (md := .f) (Γl := fun (x_b11 : Unit) => [.val x_ducts, .val x_bounds, .val x_costs, .val x_stream, .val x_ring, .own x_b4.2.1, .own x_b4.2.2, .val x_b4.1, .no, .no, .no]) (evi_range1 (evl_cons (ev_clS cS_len (evl_cons (ev_val rfl) evl_nil)) evl_nil)) (.keep (.keep (.keep (.keep (.keep (.keep (.keep (.keep (.skip (.skip (.skip .nil))))))))))) (fun x_b11 x_d13 =>
  (bg_name (b_ifx0 (evt_or (evt_test (ev_opS opS_ne (ev_opP opP_ix (ev_own rfl) (ev_opS opS_sub (ev_val rfl) ev_int)) (ev_opP opP_ix (ev_own rfl) (ev_val rfl)))) (evt_test (ev_opS opS_in (ev_opP opP_ix (ev_own rfl) (ev_val rfl)) (ev_cut (ev_own rfl) evp_none (evp_some (ev_val rfl))))))
  (bt_ret' ev_bl)
  (bt_end (.keep (.keep (.keep (.keep (.keep (.keep (.keep (.keep (.skip (.skip (.skip .nil)))))))))))))))) fun x_b11 =>
  (bd_ret (ev_opS opS_lt (ev_val rfl) ev_int)))))))))

abbrev s_require_building : Stmt := top 26
abbrev N_require_building : List Str := ["building"]
theorem sc_require_building : FnScope N_require_building ["building"] (defScope s_require_building) := ⟨rfl, rfl, rfl, by decide +kernel, rfl, by decide +kernel, by decide +kernel⟩
theorem ok_require_building {f : Addr} {fd : FuncData} (F : Fun K "require_building" "require_building" s_require_building f fd) (TX : Txt K mg C) (C_require : Cl P w K mg base 1 "require" ["holds", "name"] (spU ⟨K, C⟩ [.f, .f] (pur (f2 m_require)))) : FnOk P w K mg base CX0 2 f fd ["building"] (spU ⟨K, C⟩ [.f] (pur (f1 m_require_building))) := by
  have nd := sc_require_building.nd
  refine fn_ok (T := ⟨K, C⟩) F sc_require_building rfl (by decide) (fun cdv A outer s H E hr => ?_)
  have hu := hr.units
  refine ⟨_, (pss_cons (ps_expr (pe_cl C_require hr rfl (pa_cons (pe_callB call_isi rfl TX.b_isinstance b0_isinstance (pa_cons (pv 0) (pa_cons (pe_glob (v := .ref (C "Building")) rfl TX.mc_Building rfl) pa_nil))) (pa_cons pe_str pa_nil))))
  pss_nil), fun ds hds => ?_⟩
  match ds, hds with
  | [x_building], _ =>
    refine bv_pur ?_
    show B _ _ _ (m_require_building x_building) _
    unfold m_require_building
    exact (b_seq (bp_drop (md := .h) (ev_callO rfl (eva_cons (ev_isiC (T := ⟨K, C⟩) TX.ii_Building (ev_val rfl)) (eva_cons ev_str eva_nil)))) fun _ =>
  bn_end)

abbrev s_are_bounds : Stmt := top 28
abbrev N_are_bounds : List Str := ["building", "value", "pair"]
theorem sc_are_bounds : FnScope N_are_bounds ["building", "value"] (defScope s_are_bounds) := ⟨rfl, rfl, rfl, by decide +kernel, rfl, by decide +kernel, by decide +kernel⟩
theorem ok_are_bounds {f : Addr} {fd : FuncData} (F : Fun K "are_bounds" "are_bounds" s_are_bounds f fd) (TX : Txt K mg C) (C_is_table : Cl P w K mg base 3 "is_table" ["value", "size", "least", "most"] (spU ⟨K, C⟩ [.f, .f, .f, .f] (pur (f4 m_is_table)))) : FnOk P w K mg base CX0 4 f fd ["building", "value"] (spU ⟨K, C⟩ [.f, .f] (pur (f2 m_are_bounds))) := by
  have nd := sc_are_bounds.nd
  refine fn_ok (T := ⟨K, C⟩) F sc_are_bounds rfl (by decide) (fun cdv A outer s H E hr => ?_)
  have hu := hr.units
  refine ⟨_, (pss_cons (ps_if (PW.pt (pw_or (pt_not (pt_val (pe_callB call_isiT rfl TX.b_isinstance b0_isinstance (pa_cons (pv 1) (pa_cons (pe_tup (pa_cons (pe_bltn (v := .ty "list") rfl TX.b_list b0_list rfl) (pa_cons (pe_bltn (v := .ty "tuple") rfl TX.b_tuple b0_tuple rfl) pa_nil))) pa_nil))))) (pw_or1 (pt_cmpR (op_neD hu) (pe_callB cl_len rfl TX.b_len b0_len (pa_cons (pv 1) pa_nil)) (pe_callB cl_len rfl TX.b_len b0_len (pa_cons (pe_fld (pv 0) rfl) pa_nil)) (nomark _)))))
  (pss_one (ps_ret pe_bl))
  pss_nil)
  (pss_cons (ps_for PassesOwn.never rfl (pi_seqK (pv 1)) (pg_name (i := 2) nd rfl (Or.inl rfl))
  (pss_cons (ps_if (PW.pt (pw_or (pt_not (pt_val (pe_cl C_is_table hr rfl (pa_cons (pv 2) (pa_cons pe_int (pa_cons (pe_un un_neg (pe_gint rfl TX.g_MOST_FLOW)) (pa_cons (pe_gint rfl TX.g_MOST_FLOW) pa_nil))))))) (pw_or1 (pt_cmpR op_gt (pe_ix (ix_A hu) (pv 2) pe_int (fun _ _ => rfl)) (pe_ix (ix_A hu) (pv 2) pe_int (fun _ _ => rfl)) (nomark _)))))
  (pss_one (ps_ret pe_bl))
  pss_nil)
  pss_nil))
  (pss_one (ps_ret pe_bl)))), fun ds hds => ?_⟩
  match ds, hds with
  | [x_building, x_value], _ =>
    refine bv_pur ?_
    show B _ _ _ (m_are_bounds x_building x_value) _
    unfold m_are_bounds
    exact (bn_of (bd_ifx0 (evt_or (evt_not (evt_B (ev_isi2 (ev_val rfl)))) (evt_test (ev_opS opS_ne (ev_clS cS_len (evl_cons (ev_val rfl) evl_nil)) (ev_clS cS_len (evl_cons (ev_fld TX.cl_Building TX.na_Building_ducts (ev_val rfl)) evl_nil)))))
  (bd_ret ev_bl)
  (bd_seqx (bt_for (md := .f) (Γl := fun (x_b1 : Unit) => [.val x_building, .val x_value, .no]) (evi_seq (ev_val rfl)) (.keep (.keep (.skip .nil))) (fun x_b1 x_d3 =>
  (bg_name (b_ifx0 (evt_or (evt_not (evt_B (ev_callO rfl (eva_cons (ev_val rfl) (eva_cons ev_int (eva_cons (ev_neg ev_int) (eva_cons ev_int eva_nil))))))) (evt_test (ev_opS opS_gt (ev_opP opP_ix (ev_val rfl) ev_int) (ev_opP opP_ix (ev_val rfl) ev_int))))
  (bt_ret' ev_bl)
  (bt_end (.keep (.keep (.skip .nil)))))))) fun x_b1 =>
  (bd_ret ev_bl))))

abbrev s_require_bounds : Stmt := top 31
abbrev N_require_bounds : List Str := ["building", "bounds"]
theorem sc_require_bounds : FnScope N_require_bounds ["building", "bounds"] (defScope s_require_bounds) := ⟨rfl, rfl, rfl, by decide +kernel, rfl, by decide +kernel, by decide +kernel⟩
theorem ok_require_bounds {f : Addr} {fd : FuncData} (F : Fun K "require_bounds" "require_bounds" s_require_bounds f fd) (TX : Txt K mg C) (C_require : Cl P w K mg base 1 "require" ["holds", "name"] (spU ⟨K, C⟩ [.f, .f] (pur (f2 m_require)))) (C_are_bounds : Cl P w K mg base 4 "are_bounds" ["building", "value"] (spU ⟨K, C⟩ [.f, .f] (pur (f2 m_are_bounds)))) : FnOk P w K mg base CX0 5 f fd ["building", "bounds"] (spU ⟨K, C⟩ [.f, .f] (pur (f2 m_require_bounds))) := by
  have nd := sc_require_bounds.nd
  refine fn_ok (T := ⟨K, C⟩) F sc_require_bounds rfl (by decide) (fun cdv A outer s H E hr => ?_)
  have hu := hr.units
  refine ⟨_, (pss_cons (ps_expr (pe_cl C_require hr rfl (pa_cons (pe_cl C_are_bounds hr rfl (pa_cons (pv 0) (pa_cons (pv 1) pa_nil))) (pa_cons pe_str pa_nil))))
  pss_nil), fun ds hds => ?_⟩
  match ds, hds with
  | [x_building, x_bounds], _ =>
    refine bv_pur ?_
    show B _ _ _ (m_require_bounds x_building x_bounds) _
    unfold m_require_bounds
    exact (b_seq (bp_drop (md := .h) (ev_callO rfl (eva_cons (ev_callO rfl (eva_cons (ev_val rfl) (eva_cons (ev_val rfl) eva_nil))) (eva_cons ev_str eva_nil)))) fun _ =>
  bn_end)

abbrev s_require_costs : Stmt := top 37
abbrev N_require_costs : List Str := ["building", "costs"]
theorem sc_require_costs : FnScope N_require_costs ["building", "costs"] (defScope s_require_costs) := ⟨rfl, rfl, rfl, by decide +kernel, rfl, by decide +kernel, by decide +kernel⟩
theorem ok_require_costs {f : Addr} {fd : FuncData} (F : Fun K "require_costs" "require_costs" s_require_costs f fd) (TX : Txt K mg C) (C_require : Cl P w K mg base 1 "require" ["holds", "name"] (spU ⟨K, C⟩ [.f, .f] (pur (f2 m_require)))) (C_is_table : Cl P w K mg base 3 "is_table" ["value", "size", "least", "most"] (spU ⟨K, C⟩ [.f, .f, .f, .f] (pur (f4 m_is_table)))) : FnOk P w K mg base CX0 4 f fd ["building", "costs"] (spU ⟨K, C⟩ [.f, .f] (pur (f2 m_require_costs))) := by
  have nd := sc_require_costs.nd
  refine fn_ok (T := ⟨K, C⟩) F sc_require_costs rfl (by decide) (fun cdv A outer s H E hr => ?_)
  have hu := hr.units
  refine ⟨_, (pss_cons (ps_expr (pe_cl C_require hr rfl (pa_cons (pe_cl C_is_table hr rfl (pa_cons (pv 1) (pa_cons (pe_callB cl_len rfl TX.b_len b0_len (pa_cons (pe_fld (pv 0) rfl) pa_nil)) (pa_cons (pe_un un_neg (pe_gint rfl TX.g_MOST_COST)) (pa_cons (pe_gint rfl TX.g_MOST_COST) pa_nil))))) (pa_cons pe_str pa_nil))))
  pss_nil), fun ds hds => ?_⟩
  match ds, hds with
  | [x_building, x_costs], _ =>
    refine bv_pur ?_
    show B _ _ _ (m_require_costs x_building x_costs) _
    unfold m_require_costs
    exact (b_seq (bp_drop (md := .h) (ev_callO rfl (eva_cons (ev_callO rfl (eva_cons (ev_val rfl) (eva_cons (ev_clS cS_len (evl_cons (ev_fld TX.cl_Building TX.na_Building_ducts (ev_val rfl)) evl_nil)) (eva_cons (ev_neg ev_int) (eva_cons ev_int eva_nil))))) (eva_cons ev_str eva_nil)))) fun _ =>
  bn_end)

abbrev s_fits_bounds : Stmt := top 29
abbrev N_fits_bounds : List Str := ["bounds", "value", "least", "most", "number"]
theorem sc_fits_bounds : FnScope N_fits_bounds ["bounds", "value"] (defScope s_fits_bounds) := ⟨rfl, rfl, rfl, by decide +kernel, rfl, by decide +kernel, by decide +kernel⟩
theorem ok_fits_bounds {f : Addr} {fd : FuncData} (F : Fun K "fits_bounds" "fits_bounds" s_fits_bounds f fd) (TX : Txt K mg C) (C_is_integer : Cl P w K mg base 1 "is_integer" ["value"] (spU ⟨K, C⟩ [.f] (pur (f1 m_is_integer)))) : FnOk P w K mg base CX0 2 f fd ["bounds", "value"] (spU ⟨K, C⟩ [.f, .f] (pur (f2 m_fits_bounds))) := by
  have nd := sc_fits_bounds.nd
  refine fn_ok (T := ⟨K, C⟩) F sc_fits_bounds rfl (by decide) (fun cdv A outer s H E hr => ?_)
  have hu := hr.units
  refine ⟨_, (pss_cons (ps_if (PW.pt (pw_or (pt_not (pt_val (pe_callB call_isiT rfl TX.b_isinstance b0_isinstance (pa_cons (pv 1) (pa_cons (pe_tup (pa_cons (pe_bltn (v := .ty "list") rfl TX.b_list b0_list rfl) (pa_cons (pe_bltn (v := .ty "tuple") rfl TX.b_tuple b0_tuple rfl) pa_nil))) pa_nil))))) (pw_or1 (pt_cmpR (op_neD hu) (pe_callB cl_len rfl TX.b_len b0_len (pa_cons (pv 1) pa_nil)) (pe_callB cl_len rfl TX.b_len b0_len (pa_cons (pv 0) pa_nil)) (nomark _)))))
  (pss_one (ps_ret pe_bl))
  pss_nil)
  (pss_cons (ps_for PassesOwn.never rfl (pi_zipK rfl TX.b_zip (pa_cons (pv 0) (pa_cons (pv 1) pa_nil))) (pg_tup rfl (pgs_cons (pg_tup rfl (pgs_cons (pg_name (i := 2) nd rfl (Or.inl rfl)) (pgs_cons (pg_name (i := 3) nd rfl (Or.inl rfl)) pgs_nil))) (pgs_cons (pg_name (i := 4) nd rfl (Or.inl rfl)) pgs_nil)))
  (pss_cons (ps_if (PW.pt (pw_or (pt_not (pt_val (pe_cl C_is_integer hr rfl (pa_cons (pv 4) pa_nil)))) (pw_or (pt_cmpR op_lt (pv 4) (pv 2) (nomark _)) (pw_or1 (pt_cmpR op_gt (pv 4) (pv 3) (nomark _))))))
  (pss_one (ps_ret pe_bl))
  pss_nil)
  pss_nil))
  (pss_one (ps_ret pe_bl)))), fun ds hds => ?_⟩
  match ds, hds with
  | [x_bounds, x_value], _ =>
    refine bv_pur ?_
    show B _ _ _ (m_fits_bounds x_bounds x_value) _
    unfold m_fits_bounds
    exact (bn_of (bd_ifx0 (evt_or (evt_not (evt_B (ev_isi2 (ev_val rfl)))) (evt_test (ev_opS opS_ne (ev_clS cS_len (evl_cons (ev_val rfl) evl_nil)) (ev_clS cS_len (evl_cons (ev_val rfl) evl_nil)))))
  (bd_ret ev_bl)
  (bd_seqx (bt_for2 (ma := .f) (mb := .f) (Γl := fun (x_b1 : Unit) => [.val x_bounds, .val x_value, .no, .no, .no]) (evi_zip (ev_val rfl) (ev_val rfl)) (.keep (.keep (.skip (.skip (.skip .nil))))) (fun x_b1 x_d6 x_e7 =>
  (bg2_2n fun x_least8 x_most9 => (b_ifx0 (evt_or (evt_not (evt_B (ev_callO rfl (eva_cons (ev_val rfl) eva_nil)))) (evt_or (evt_test (ev_opS opS_lt (ev_val rfl) (ev_val rfl))) (evt_test (ev_opS opS_gt (ev_val rfl) (ev_val rfl)))))
  (bt_ret' ev_bl)
  (bt_end (.keep (.keep (.skip (.skip (.skip .nil)))))))))) fun x_b1 =>
  (bd_ret ev_bl))))

abbrev s_require_setting : Stmt := top 38
abbrev N_require_setting : List Str := ["building", "bounds", "costs", "stream"]
theorem sc_require_setting : FnScope N_require_setting ["building", "bounds", "costs", "stream"] (defScope s_require_setting) := ⟨rfl, rfl, rfl, by decide +kernel, rfl, by decide +kernel, by decide +kernel⟩
theorem ok_require_setting {f : Addr} {fd : FuncData} (F : Fun K "require_setting" "require_setting" s_require_setting f fd) (TX : Txt K mg C) (C_require : Cl P w K mg base 1 "require" ["holds", "name"] (spU ⟨K, C⟩ [.f, .f] (pur (f2 m_require)))) (C_require_building : Cl P w K mg base 2 "require_building" ["building"] (spU ⟨K, C⟩ [.f] (pur (f1 m_require_building)))) (C_require_bounds : Cl P w K mg base 5 "require_bounds" ["building", "bounds"] (spU ⟨K, C⟩ [.f, .f] (pur (f2 m_require_bounds)))) (C_require_costs : Cl P w K mg base 4 "require_costs" ["building", "costs"] (spU ⟨K, C⟩ [.f, .f] (pur (f2 m_require_costs)))) (C_fits_bounds : Cl P w K mg base 2 "fits_bounds" ["bounds", "value"] (spU ⟨K, C⟩ [.f, .f] (pur (f2 m_fits_bounds)))) : FnOk P w K mg base CX0 6 f fd ["building", "bounds", "costs", "stream"] (spU ⟨K, C⟩ [.f, .f, .f, .f] (pur (f4 m_require_setting))) := by
  have nd := sc_require_setting.nd
  refine fn_ok (T := ⟨K, C⟩) F sc_require_setting rfl (by decide) (fun cdv A outer s H E hr => ?_)
  have hu := hr.units
  refine ⟨_, (pss_cons (ps_expr (pe_cl C_require_building hr rfl (pa_cons (pv 0) pa_nil)))
  (pss_cons (ps_expr (pe_cl C_require_bounds hr rfl (pa_cons (pv 0) (pa_cons (pv 1) pa_nil))))
  (pss_cons (ps_expr (pe_cl C_require_costs hr rfl (pa_cons (pv 0) (pa_cons (pv 2) pa_nil))))
  (pss_cons (ps_expr (pe_cl C_require hr rfl (pa_cons (pe_cl C_fits_bounds hr rfl (pa_cons (pv 1) (pa_cons (pv 3) pa_nil))) (pa_cons pe_str pa_nil))))
  pss_nil)))), fun ds hds => ?_⟩
  match ds, hds with
  | [x_building, x_bounds, x_costs, x_stream], _ =>
    refine bv_pur ?_
    show B _ _ _ (m_require_setting x_building x_bounds x_costs x_stream) _
    unfold m_require_setting
    exact (b_seq (bp_drop (md := .h) (ev_callO rfl (eva_cons (ev_val rfl) eva_nil))) fun _ =>
  (b_seq (bp_drop (md := .h) (ev_callO rfl (eva_cons (ev_val rfl) (eva_cons (ev_val rfl) eva_nil)))) fun _ =>
  (b_seq (bp_drop (md := .h) (ev_callO rfl (eva_cons (ev_val rfl) (eva_cons (ev_val rfl) eva_nil)))) fun _ =>
  (b_seq (bp_drop (md := .h) (ev_callO rfl (eva_cons (ev_callO rfl (eva_cons (ev_val rfl) (eva_cons (ev_val rfl) eva_nil))) (eva_cons ev_str eva_nil)))) fun _ =>
  bn_end))))

abbrev s_is_paper : Stmt := top 21
abbrev N_is_paper : List Str := ["value", "kind", "size"]
theorem sc_is_paper : FnScope N_is_paper ["value", "kind", "size"] (defScope s_is_paper) := ⟨rfl, rfl, rfl, by decide +kernel, rfl, by decide +kernel, by decide +kernel⟩
theorem ok_is_paper {f : Addr} {fd : FuncData} (F : Fun K "is_paper" "is_paper" s_is_paper f fd) (TX : Txt K mg C) : FnOk P w K mg base CX0 1 f fd ["value", "kind", "size"] (spU ⟨K, C⟩ [.f, .f, .f] (pur (f3 m_is_paper))) := by
  have nd := sc_is_paper.nd
  refine fn_ok (T := ⟨K, C⟩) F sc_is_paper rfl (by decide) (fun cdv A outer s H E hr => ?_)
  have hu := hr.units
  refine ⟨_, (pss_cons (ps_if (PW.pt (pw_or (pt_not (pt_val (pe_callB call_isi rfl TX.b_isinstance b0_isinstance (pa_cons (pv 0) (pa_cons (pe_bltn (v := .ty "tuple") rfl TX.b_tuple b0_tuple rfl) pa_nil))))) (pw_or1 (pt_cmpR (op_neD hu) (pe_callB cl_len rfl TX.b_len b0_len (pa_cons (pv 0) pa_nil)) (pv 2) (nomark _)))))
  (pss_one (ps_ret pe_bl))
  pss_nil)
  (pss_one (ps_ret (pe_and (pe_callB call_isi rfl TX.b_isinstance b0_isinstance (pa_cons (pe_ix (ix_A hu) (pv 0) pe_int (fun _ _ => rfl)) (pa_cons (pe_bltn (v := .ty "str") rfl TX.b_str b0_str rfl) pa_nil))) (pe_one (pe_cmpR (op_eqD hu) (pe_ix (ix_A hu) (pv 0) pe_int (fun _ _ => rfl)) (pv 1) (nomark _))))))), fun ds hds => ?_⟩
  match ds, hds with
  | [x_value, x_kind, x_size], _ =>
    refine bv_pur ?_
    show B _ _ _ (m_is_paper x_value x_kind x_size) _
    unfold m_is_paper
    exact (bn_of (bd_ifx0 (evt_or (evt_not (evt_B (ev_isi (ev_val rfl)))) (evt_test (ev_opS opS_ne (ev_clS cS_len (evl_cons (ev_val rfl) evl_nil)) (ev_val rfl))))
  (bd_ret ev_bl)
  (bd_ret (ev_andV (ev_isi (ev_opP opP_ix (ev_val rfl) ev_int)) (ev_opS opS_eq (ev_opP opP_ix (ev_val rfl) ev_int) (ev_val rfl))))))

abbrev s_is_integer_table : Stmt := top 15
abbrev N_is_integer_table : List Str := ["value", "size", "entry"]
theorem sc_is_integer_table : FnScope N_is_integer_table ["value", "size"] (defScope s_is_integer_table) := ⟨rfl, rfl, rfl, by decide +kernel, rfl, by decide +kernel, by decide +kernel⟩
theorem ok_is_integer_table {f : Addr} {fd : FuncData} (F : Fun K "is_integer_table" "is_integer_table" s_is_integer_table f fd) (TX : Txt K mg C) (C_is_integer : Cl P w K mg base 1 "is_integer" ["value"] (spU ⟨K, C⟩ [.f] (pur (f1 m_is_integer)))) : FnOk P w K mg base CX0 2 f fd ["value", "size"] (spU ⟨K, C⟩ [.f, .f] (pur (f2 m_is_integer_table))) := by
  have nd := sc_is_integer_table.nd
  refine fn_ok (T := ⟨K, C⟩) F sc_is_integer_table rfl (by decide) (fun cdv A outer s H E hr => ?_)
  have hu := hr.units
  refine ⟨_, (pss_cons (ps_if (PW.pt (pw_or (pt_not (pt_val (pe_callB call_isiT rfl TX.b_isinstance b0_isinstance (pa_cons (pv 0) (pa_cons (pe_tup (pa_cons (pe_bltn (v := .ty "list") rfl TX.b_list b0_list rfl) (pa_cons (pe_bltn (v := .ty "tuple") rfl TX.b_tuple b0_tuple rfl) pa_nil))) pa_nil))))) (pw_or1 (pt_cmpR (op_neD hu) (pe_callB cl_len rfl TX.b_len b0_len (pa_cons (pv 0) pa_nil)) (pv 1) (nomark _)))))
  (pss_one (ps_ret pe_bl))
  pss_nil)
  (pss_cons (ps_for PassesOwn.never rfl (pi_seqK (pv 0)) (pg_name (i := 2) nd rfl (Or.inl rfl))
  (pss_cons (ps_if (pt_not (pt_val (pe_cl C_is_integer hr rfl (pa_cons (pv 2) pa_nil))))
  (pss_one (ps_ret pe_bl))
  pss_nil)
  pss_nil))
  (pss_one (ps_ret pe_bl)))), fun ds hds => ?_⟩
  match ds, hds with
  | [x_value, x_size], _ =>
    refine bv_pur ?_
    show B _ _ _ (m_is_integer_table x_value x_size) _
    unfold m_is_integer_table
    exact (bn_of (bd_ifx0 (evt_or (evt_not (evt_B (ev_isi2 (ev_val rfl)))) (evt_test (ev_opS opS_ne (ev_clS cS_len (evl_cons (ev_val rfl) evl_nil)) (ev_val rfl))))
  (bd_ret ev_bl)
  (bd_seqx (bt_for (md := .f) (Γl := fun (x_b1 : Unit) => [.val x_value, .val x_size, .no]) (evi_seq (ev_val rfl)) (.keep (.keep (.skip .nil))) (fun x_b1 x_d3 =>
  (bg_name (b_ifx0 (evt_not (evt_B (ev_callO rfl (eva_cons (ev_val rfl) eva_nil))))
  (bt_ret' ev_bl)
  (bt_end (.keep (.keep (.skip .nil)))))))) fun x_b1 =>
  (bd_ret ev_bl))))

abbrev s_is_integer_tuple : Stmt := top 17
abbrev N_is_integer_tuple : List Str := ["value", "size"]
theorem sc_is_integer_tuple : FnScope N_is_integer_tuple ["value", "size"] (defScope s_is_integer_tuple) := ⟨rfl, rfl, rfl, by decide +kernel, rfl, by decide +kernel, by decide +kernel⟩
theorem ok_is_integer_tuple {f : Addr} {fd : FuncData} (F : Fun K "is_integer_tuple" "is_integer_tuple" s_is_integer_tuple f fd) (TX : Txt K mg C) (C_is_integer_table : Cl P w K mg base 2 "is_integer_table" ["value", "size"] (spU ⟨K, C⟩ [.f, .f] (pur (f2 m_is_integer_table)))) : FnOk P w K mg base CX0 3 f fd ["value", "size"] (spU ⟨K, C⟩ [.f, .f] (pur (f2 m_is_integer_tuple))) := by
  have nd := sc_is_integer_tuple.nd
  refine fn_ok (T := ⟨K, C⟩) F sc_is_integer_tuple rfl (by decide) (fun cdv A outer s H E hr => ?_)
  have hu := hr.units
  refine ⟨_, (pss_one (ps_ret (pe_and (pe_callB call_isi rfl TX.b_isinstance b0_isinstance (pa_cons (pv 0) (pa_cons (pe_bltn (v := .ty "tuple") rfl TX.b_tuple b0_tuple rfl) pa_nil))) (pe_one (pe_cl C_is_integer_table hr rfl (pa_cons (pv 0) (pa_cons (pv 1) pa_nil))))))), fun ds hds => ?_⟩
  match ds, hds with
  | [x_value, x_size], _ =>
    refine bv_pur ?_
    show B _ _ _ (m_is_integer_tuple x_value x_size) _
    unfold m_is_integer_tuple
    exact (bn_of (bd_ret (ev_andV (ev_isi (ev_val rfl)) (ev_callO rfl (eva_cons (ev_val rfl) (eva_cons (ev_val rfl) eva_nil))))))

abbrev s_hold : Stmt := top 39
abbrev N_hold : List Str := ["building", "bounds", "costs", "stream", "value", "duct", "first", "second", "width", "rise"]
theorem sc_hold : FnScope N_hold ["building", "bounds", "costs", "stream", "value"] (defScope s_hold) := ⟨rfl, rfl, rfl, by decide +kernel, rfl, by decide +kernel, by decide +kernel⟩
theorem ok_hold {f : Addr} {fd : FuncData} (F : Fun K "hold" "hold" s_hold f fd) (TX : Txt K mg C) (C_is_integer_tuple : Cl P w K mg base 3 "is_integer_tuple" ["value", "size"] (spU ⟨K, C⟩ [.f, .f] (pur (f2 m_is_integer_tuple)))) : FnOk P w K mg base CX0 4 f fd ["building", "bounds", "costs", "stream", "value"] (spU ⟨K, C⟩ [.f, .f, .f, .f, .f] (pur (f5 m_hold))) := by
  have nd := sc_hold.nd
  refine fn_ok (T := ⟨K, C⟩) F sc_hold rfl (by decide) (fun cdv A outer s H E hr => ?_)
  have hu := hr.units
  refine ⟨_, (pss_cons (ps_if (pt_not (pt_val (pe_cl C_is_integer_tuple hr rfl (pa_cons (pv 4) (pa_cons (pe_fld (pv 0) rfl) pa_nil)))))
  (pss_one (ps_ret pe_bl))
  pss_nil)
  (pss_cons (ps_for PassesOwn.never rfl (pi_enumK rfl TX.b_enumerate (pa_cons (pe_fld (pv 0) rfl) pa_nil)) (pg_tup rfl (pgs_cons (pg_name (i := 5) nd rfl (Or.inl rfl)) (pgs_cons (pg_tup rfl (pgs_cons (pg_name (i := 6) nd rfl (Or.inl rfl)) (pgs_cons (pg_name (i := 7) nd rfl (Or.inl rfl)) (pgs_cons (pg_name (i := 8) nd rfl (Or.inl rfl)) pgs_nil)))) pgs_nil)))
  (pss_cons (ps_set (i := 9) nd rfl (Or.inl rfl) (pe_op op_sub (pe_ix (ix_A hu) (pv 4) (pv 7) (fun _ _ => rfl)) (pe_ix (ix_A hu) (pv 4) (pv 6) (fun _ _ => rfl))))
  (pss_cons (ps_if (PW.pt (pw_and (pt_cmpR op_lt (pe_ix (ix_A hu) (pv 3) (pv 5) (fun _ _ => rfl)) (pe_ix (ix_A hu) (pe_ix (ix_A hu) (pv 1) (pv 5) (fun _ _ => rfl)) pe_int (fun _ _ => rfl)) (nomark _)) (pw_and1 (pt_cmpR op_lt (pe_ix (ix_A hu) (pv 2) (pv 5) (fun _ _ => rfl)) (pv 9) (nomark _)))))
  (pss_one (ps_ret pe_bl))
  pss_nil)
  (pss_cons (ps_if (PW.pt (pw_and (pt_cmpR op_gt (pe_ix (ix_A hu) (pv 3) (pv 5) (fun _ _ => rfl)) (pe_ix (ix_A hu) (pe_ix (ix_A hu) (pv 1) (pv 5) (fun _ _ => rfl)) pe_int (fun _ _ => rfl)) (nomark _)) (pw_and1 (pt_cmpR op_gt (pe_ix (ix_A hu) (pv 2) (pv 5) (fun _ _ => rfl)) (pv 9) (nomark _)))))
  (pss_one (ps_ret pe_bl))
  pss_nil)
  pss_nil))))
  (pss_one (ps_ret pe_bl)))), fun ds hds => ?_⟩
  match ds, hds with
  | [x_building, x_bounds, x_costs, x_stream, x_value], _ =>
    refine bv_pur ?_
    show B _ _ _ (m_hold x_building x_bounds x_costs x_stream x_value) _
    unfold m_hold
    exact (bn_of (bd_ifx0 (evt_not (evt_B (ev_callO rfl (eva_cons (ev_val rfl) (eva_cons (ev_fld TX.cl_Building TX.na_Building_rooms (ev_val rfl)) eva_nil)))))
  (bd_ret ev_bl)
  (bd_seqx (bt_for2 (ma := .f) (mb := .f) (Γl := fun (x_b1 : Unit) => [.val x_building, .val x_bounds, .val x_costs, .val x_stream, .val x_value, .no, .no, .no, .no, .no]) (evi_enum (ev_fld TX.cl_Building TX.na_Building_ducts (ev_val rfl))) (.keep (.keep (.keep (.keep (.keep (.skip (.skip (.skip (.skip (.skip .nil)))))))))) (fun x_b1 x_d7 x_e8 =>
  (bg2_np (bg_tup3 fun x_first9 x_second10 x_width11 => (b_seq (bp_set (i := 9) (ev_opS opS_sub (ev_opP opP_ix (ev_val rfl) (ev_val rfl)) (ev_opP opP_ix (ev_val rfl) (ev_val rfl)))) fun x_rise12 =>
  (b_ifx0 (evt_and (evt_test (ev_opS opS_lt (ev_opP opP_ix (ev_val rfl) (ev_val rfl)) (ev_opP opP_ix (ev_opP opP_ix (ev_val rfl) (ev_val rfl)) ev_int))) (evt_test (ev_opS opS_lt (ev_opP opP_ix (ev_val rfl) (ev_val rfl)) (ev_val rfl))))
  (bt_ret' ev_bl)
  (b_ifx0 (evt_and (evt_test (ev_opS opS_gt (ev_opP opP_ix (ev_val rfl) (ev_val rfl)) (ev_opP opP_ix (ev_opP opP_ix (ev_val rfl) (ev_val rfl)) ev_int))) (evt_test (ev_opS opS_gt (ev_opP opP_ix (ev_val rfl) (ev_val rfl)) (ev_val rfl))))
  (bt_ret' ev_bl)
  (bt_end (.keep (.keep (.keep (.keep (.keep (.skip (.skip (.skip (.skip (.skip .nil)))))))))))))))))) fun x_b1 =>
  (bd_ret ev_bl))))

abbrev s_step_ends : Stmt := top 40
abbrev N_step_ends : List Str := ["building", "step", "first", "second", "width"]
theorem sc_step_ends : FnScope N_step_ends ["building", "step"] (defScope s_step_ends) := ⟨rfl, rfl, rfl, by decide +kernel, rfl, by decide +kernel, by decide +kernel⟩
theorem ok_step_ends {f : Addr} {fd : FuncData} (F : Fun K "step_ends" "step_ends" s_step_ends f fd) (TX : Txt K mg C) : FnOk P w K mg base CX0 1 f fd ["building", "step"] (spU ⟨K, C⟩ [.f, .f] (pur (f2 m_step_ends))) := by
  have nd := sc_step_ends.nd
  refine fn_ok (T := ⟨K, C⟩) F sc_step_ends rfl (by decide) (fun cdv A outer s H E hr => ?_)
  have hu := hr.units
  refine ⟨_, (pss_cons (ps_asg (pe_ix (ix_A hu) (pe_fld (pv 0) rfl) (pe_ix (ix_A hu) (pv 1) pe_int (fun _ _ => rfl)) (fun _ _ => rfl)) (pg_tup rfl (pgs_cons (pg_name (i := 2) nd rfl (Or.inl rfl)) (pgs_cons (pg_name (i := 3) nd rfl (Or.inl rfl)) (pgs_cons (pg_name (i := 4) nd rfl (Or.inl rfl)) pgs_nil)))))
  (pss_cons (ps_if (pt_cmpR (op_eqD hu) (pe_ix (ix_A hu) (pv 1) pe_int (fun _ _ => rfl)) pe_int (nomark _))
  (pss_one (ps_ret (pe_tup (pa_cons (pv 2) (pa_cons (pv 3) pa_nil)))))
  pss_nil)
  (pss_one (ps_ret (pe_tup (pa_cons (pv 3) (pa_cons (pv 2) pa_nil))))))), fun ds hds => ?_⟩
  match ds, hds with
  | [x_building, x_step], _ =>
    refine bv_pur ?_
    show B _ _ _ (m_step_ends x_building x_step) _
    unfold m_step_ends
    exact (bn_of (b_unp (md := .f) (ev_opP opP_ix (ev_fld TX.cl_Building TX.na_Building_ducts (ev_val rfl)) (ev_opP opP_ix (ev_val rfl) ev_int)) fun x_t1 =>
  (bg_tup3 fun x_first2 x_second3 x_width4 => (bd_ifx0 (evt_test (ev_opS opS_eq (ev_opP opP_ix (ev_val rfl) ev_int) ev_int))
  (bd_ret (ev_tup (evl_cons (ev_val rfl) (evl_cons (ev_val rfl) evl_nil))))
  (bd_ret (ev_tup (evl_cons (ev_val rfl) (evl_cons (ev_val rfl) evl_nil))))))))

abbrev s_is_tuple : Stmt := top 16
abbrev N_is_tuple : List Str := ["value", "size", "least", "most"]
theorem sc_is_tuple : FnScope N_is_tuple ["value", "size", "least", "most"] (defScope s_is_tuple) := ⟨rfl, rfl, rfl, by decide +kernel, rfl, by decide +kernel, by decide +kernel⟩
theorem ok_is_tuple {f : Addr} {fd : FuncData} (F : Fun K "is_tuple" "is_tuple" s_is_tuple f fd) (TX : Txt K mg C) (C_is_table : Cl P w K mg base 3 "is_table" ["value", "size", "least", "most"] (spU ⟨K, C⟩ [.f, .f, .f, .f] (pur (f4 m_is_table)))) : FnOk P w K mg base CX0 4 f fd ["value", "size", "least", "most"] (spU ⟨K, C⟩ [.f, .f, .f, .f] (pur (f4 m_is_tuple))) := by
  have nd := sc_is_tuple.nd
  refine fn_ok (T := ⟨K, C⟩) F sc_is_tuple rfl (by decide) (fun cdv A outer s H E hr => ?_)
  have hu := hr.units
  refine ⟨_, (pss_one (ps_ret (pe_and (pe_callB call_isi rfl TX.b_isinstance b0_isinstance (pa_cons (pv 0) (pa_cons (pe_bltn (v := .ty "tuple") rfl TX.b_tuple b0_tuple rfl) pa_nil))) (pe_one (pe_cl C_is_table hr rfl (pa_cons (pv 0) (pa_cons (pv 1) (pa_cons (pv 2) (pa_cons (pv 3) pa_nil))))))))), fun ds hds => ?_⟩
  match ds, hds with
  | [x_value, x_size, x_least, x_most], _ =>
    refine bv_pur ?_
    show B _ _ _ (m_is_tuple x_value x_size x_least x_most) _
    unfold m_is_tuple
    exact (bn_of (bd_ret (ev_andV (ev_isi (ev_val rfl)) (ev_callO rfl (eva_cons (ev_val rfl) (eva_cons (ev_val rfl) (eva_cons (ev_val rfl) (eva_cons (ev_val rfl) eva_nil))))))))

abbrev s_is_open_step : Stmt := top 41
abbrev N_is_open_step : List Str := ["building", "bounds", "stream", "value", "duct", "sign"]
theorem sc_is_open_step : FnScope N_is_open_step ["building", "bounds", "stream", "value"] (defScope s_is_open_step) := ⟨rfl, rfl, rfl, by decide +kernel, rfl, by decide +kernel, by decide +kernel⟩
theorem ok_is_open_step {f : Addr} {fd : FuncData} (F : Fun K "is_open_step" "is_open_step" s_is_open_step f fd) (TX : Txt K mg C) (C_is_between : Cl P w K mg base 2 "is_between" ["value", "least", "most"] (spU ⟨K, C⟩ [.f, .f, .f] (pur (f3 m_is_between)))) (C_is_tuple : Cl P w K mg base 4 "is_tuple" ["value", "size", "least", "most"] (spU ⟨K, C⟩ [.f, .f, .f, .f] (pur (f4 m_is_tuple)))) : FnOk P w K mg base CX0 5 f fd ["building", "bounds", "stream", "value"] (spU ⟨K, C⟩ [.f, .f, .f, .f] (pur (f4 m_is_open_step))) := by
  have nd := sc_is_open_step.nd
  refine fn_ok (T := ⟨K, C⟩) F sc_is_open_step rfl (by decide) (fun cdv A outer s H E hr => ?_)
  have hu := hr.units
  refine ⟨_, (pss_cons (ps_if (pt_not (pt_val (pe_cl C_is_tuple hr rfl (pa_cons (pv 3) (pa_cons pe_int (pa_cons (pe_un un_neg pe_int) (pa_cons (pe_callB cl_len rfl TX.b_len b0_len (pa_cons (pe_fld (pv 0) rfl) pa_nil)) pa_nil)))))))
  (pss_one (ps_ret pe_bl))
  pss_nil)
  (pss_cons (ps_asg (pv 3) (pg_tup rfl (pgs_cons (pg_name (i := 4) nd rfl (Or.inl rfl)) (pgs_cons (pg_name (i := 5) nd rfl (Or.inl rfl)) pgs_nil))))
  (pss_cons (ps_if (pt_not (pt_val (pe_cl C_is_between hr rfl (pa_cons (pv 4) (pa_cons pe_int (pa_cons (pe_op op_sub (pe_callB cl_len rfl TX.b_len b0_len (pa_cons (pe_fld (pv 0) rfl) pa_nil)) pe_int) pa_nil))))))
  (pss_one (ps_ret pe_bl))
  pss_nil)
  (pss_cons (ps_if (pt_cmpR (op_eqD hu) (pv 5) pe_int (nomark _))
  (pss_one (ps_ret (pe_cmpR op_lt (pe_ix (ix_A hu) (pv 2) (pv 4) (fun _ _ => rfl)) (pe_ix (ix_A hu) (pe_ix (ix_A hu) (pv 1) (pv 4) (fun _ _ => rfl)) pe_int (fun _ _ => rfl)) (nomark _))))
  pss_nil)
  (pss_one (ps_ret (pe_and (pe_cmpR (op_eqD hu) (pv 5) (pe_un un_neg pe_int) (nomark _)) (pe_one (pe_cmpR op_gt (pe_ix (ix_A hu) (pv 2) (pv 4) (fun _ _ => rfl)) (pe_ix (ix_A hu) (pe_ix (ix_A hu) (pv 1) (pv 4) (fun _ _ => rfl)) pe_int (fun _ _ => rfl)) (nomark _)))))))))), fun ds hds => ?_⟩
  match ds, hds with
  | [x_building, x_bounds, x_stream, x_value], _ =>
    refine bv_pur ?_
    show B _ _ _ (m_is_open_step x_building x_bounds x_stream x_value) _
    unfold m_is_open_step
    exact (bn_of (bd_ifx0 (evt_not (evt_B (ev_callO rfl (eva_cons (ev_val rfl) (eva_cons ev_int (eva_cons (ev_neg ev_int) (eva_cons (ev_clS cS_len (evl_cons (ev_fld TX.cl_Building TX.na_Building_ducts (ev_val rfl)) evl_nil)) eva_nil)))))))
  (bd_ret ev_bl)
  (b_unp (md := .f) (ev_val rfl) fun x_t1 =>
  (bg_tup2 fun x_duct2 x_sign3 => (bd_ifx0 (evt_not (evt_B (ev_callO rfl (eva_cons (ev_val rfl) (eva_cons ev_int (eva_cons (ev_opS opS_sub (ev_clS cS_len (evl_cons (ev_fld TX.cl_Building TX.na_Building_ducts (ev_val rfl)) evl_nil)) ev_int) eva_nil))))))
  (bd_ret ev_bl)
  (bd_ifx0 (evt_test (ev_opS opS_eq (ev_val rfl) ev_int))
  (bd_ret (ev_opS opS_lt (ev_opP opP_ix (ev_val rfl) (ev_val rfl)) (ev_opP opP_ix (ev_opP opP_ix (ev_val rfl) (ev_val rfl)) ev_int)))
  (bd_ret (ev_andV (ev_opS opS_eq (ev_val rfl) (ev_neg ev_int)) (ev_opS opS_gt (ev_opP opP_ix (ev_val rfl) (ev_val rfl)) (ev_opP opP_ix (ev_opP opP_ix (ev_val rfl) (ev_val rfl)) ev_int))))))))))

abbrev s_is_cheaper_ring : Stmt := top 42
abbrev N_is_cheaper_ring : List Str := ["building", "bounds", "costs", "stream", "value", "step", "tails", "told", "place", "tail", "head"]
theorem sc_is_cheaper_ring : FnScope N_is_cheaper_ring ["building", "bounds", "costs", "stream", "value"] (defScope s_is_cheaper_ring) := ⟨rfl, rfl, rfl, by decide +kernel, rfl, by decide +kernel, by decide +kernel⟩
theorem ok_is_cheaper_ring {f : Addr} {fd : FuncData} (F : Fun K "is_cheaper_ring" "is_cheaper_ring" s_is_cheaper_ring f fd) (TX : Txt K mg C) (C_step_ends : Cl P w K mg base 1 "step_ends" ["building", "step"] (spU ⟨K, C⟩ [.f, .f] (pur (f2 m_step_ends)))) (C_is_open_step : Cl P w K mg base 5 "is_open_step" ["building", "bounds", "stream", "value"] (spU ⟨K, C⟩ [.f, .f, .f, .f] (pur (f4 m_is_open_step)))) : FnOk P w K mg base CX0 6 f fd ["building", "bounds", "costs", "stream", "value"] (spU ⟨K, C⟩ [.f, .f, .f, .f, .f] (pur (f5 m_is_cheaper_ring))) := by
  have nd := sc_is_cheaper_ring.nd
  refine fn_ok (T := ⟨K, C⟩) F sc_is_cheaper_ring rfl (by decide) (fun cdv A outer s H E hr => ?_)
  have hu := hr.units
  refine ⟨_, (pss_cons (ps_if (PW.pt (pw_or (pt_not (pt_val (pe_callB call_isi rfl TX.b_isinstance b0_isinstance (pa_cons (pv 4) (pa_cons (pe_bltn (v := .ty "tuple") rfl TX.b_tuple b0_tuple rfl) pa_nil))))) (pw_or1 (pt_cmpR op_lt (pe_callB cl_len rfl TX.b_len b0_len (pa_cons (pv 4) pa_nil)) pe_int (nomark _)))))
  (pss_one (ps_ret pe_bl))
  pss_nil)
  (pss_cons (ps_for PassesOwn.never rfl (pi_seqK (pv 4)) (pg_name (i := 5) nd rfl (Or.inl rfl))
  (pss_cons (ps_if (pt_not (pt_val (pe_cl C_is_open_step hr rfl (pa_cons (pv 0) (pa_cons (pv 1) (pa_cons (pv 3) (pa_cons (pv 5) pa_nil)))))))
  (pss_one (ps_ret pe_bl))
  pss_nil)
  pss_nil))
  (pss_cons (ps_set (i := 6) nd rfl (Or.inl rfl) pe_dnewK)
  (pss_cons (ps_set (i := 7) nd rfl (Or.inl rfl) pe_int)
  (pss_cons (ps_for PassesOwn.never rfl (pi_enumK rfl TX.b_enumerate (pa_cons (pv 4) pa_nil)) (pg_tup rfl (pgs_cons (pg_name (i := 8) nd rfl (Or.inl rfl)) (pgs_cons (pg_name (i := 5) nd rfl (Or.inl rfl)) pgs_nil)))
  (pss_cons (ps_asg (pe_cl C_step_ends hr rfl (pa_cons (pv 0) (pa_cons (pv 5) pa_nil))) (pg_tup rfl (pgs_cons (pg_name (i := 9) nd rfl (Or.inl rfl)) (pgs_cons (pg_name (i := 10) nd rfl (Or.inl rfl)) pgs_nil))))
  (pss_cons (ps_if (PW.pt (pw_or (pt_cmpR (op_inA hu) (pv 9) (pv 6) (by rfl)) (pw_or1 (pt_cmpR (op_neD hu) (pe_ix (ix_A hu) (pe_cl C_step_ends hr rfl (pa_cons (pv 0) (pa_cons (pe_ix (ix_A hu) (pv 4) (pe_op op_sub (pv 8) pe_int) (fun _ _ => rfl)) pa_nil))) pe_int (fun _ _ => rfl)) (pv 9) (nomark _)))))
  (pss_one (ps_ret pe_bl))
  pss_nil)
  (pss_cons (ps_asg pe_bl (pg_sub (pv 6) (pv 9) (set_A hu)))
  (pss_cons (ps_aug (i := 7) nd rfl (Or.inl rfl) (pe_op op_mulA (pe_ix (ix_A hu) (pv 5) pe_int (fun _ _ => rfl)) (pe_ix (ix_A hu) (pv 2) (pe_ix (ix_A hu) (pv 5) pe_int (fun _ _ => rfl)) (fun _ _ => rfl))) ip_add)
  pss_nil)))))
  (pss_one (ps_ret (pe_cmpR op_lt (pv 7) pe_int (nomark _))))))))), fun ds hds => ?_⟩
  match ds, hds with
  | [x_building, x_bounds, x_costs, x_stream, x_value], _ =>
    refine bv_pur ?_
    show B _ _ _ (m_is_cheaper_ring x_building x_bounds x_costs x_stream x_value) _
    unfold m_is_cheaper_ring
    exact (bn_of (bd_ifx0 (evt_or (evt_not (evt_B (ev_isi (ev_val rfl)))) (evt_test (ev_opS opS_lt (ev_clS cS_len (evl_cons (ev_val rfl) evl_nil)) ev_int)))
  (bd_ret ev_bl)
  (bd_seqx (bt_for (md := .f) (Γl := fun (x_b1 : Unit) => [.val x_building, .val x_bounds, .val x_costs, .val x_stream, .val x_value, .no, .no, .no, .no, .no, .no]) (evi_seq (ev_val rfl)) (.keep (.keep (.keep (.keep (.keep (.skip (.skip (.skip (.skip (.skip (.skip .nil))))))))))) (fun x_b1 x_d3 =>
  (bg_name (b_ifx0 (evt_not (evt_B (ev_callO rfl (eva_cons (ev_val rfl) (eva_cons (ev_val rfl) (eva_cons (ev_val rfl) (eva_cons (ev_val rfl) eva_nil)))))))
  (bt_ret' ev_bl)
  (bt_end (.keep (.keep (.keep (.keep (.keep (.skip (.skip (.skip (.skip (.skip (.skip .nil)))))))))))))))) fun x_b1 =>
  (b_seq (bp_setO (i := 6) evo_dict) fun x_tails4 =>
  (b_seq (bp_set (i := 7) ev_int) fun x_told5 =>
  (bd_seqx (bt_for2 (ma := .f) (mb := .f) (Γl := fun (x_b6 : D × D) => [.val x_building, .val x_bounds, .val x_costs, .val x_stream, .val x_value, .no, .own x_b6.2, .val x_b6.1, .no, .no, .no]) (evi_enum (ev_val rfl)) (.keep (.keep (.keep (.keep (.keep (.skip (.keep (.keep (.skip (.skip (.skip .nil))))))))))) (fun x_b6 x_d9 x_e10 =>
  (bg2_nn (b_unp (md := .f) (ev_callO rfl (eva_cons (ev_val rfl) (eva_cons (ev_val rfl) eva_nil))) fun x_t11 =>
  (bg_tup2 fun x_tail12 x_head13 => (b_ifx0 (evt_or (evt_test (ev_opS opS_in (ev_val rfl) (ev_own rfl))) (evt_test (ev_opS opS_ne (ev_opP opP_ix (ev_callO rfl (eva_cons (ev_val rfl) (eva_cons (ev_opP opP_ix (ev_val rfl) (ev_opS opS_sub (ev_val rfl) ev_int)) eva_nil))) ev_int) (ev_val rfl))))
  (bt_ret' ev_bl)
  (b_seq (bp_put (i := 6) rfl rfl ev_bl (ev_val rfl)) fun x_tails14 =>
  (b_seq (bp_augAdd (i := 7) (ev_val rfl) (ev_opM opM_mul (ev_opP opP_ix (ev_val rfl) ev_int) (ev_opP opP_ix (ev_val rfl) (ev_opP opP_ix (ev_val rfl) ev_int)))) fun x_told15 =>
  (bt_end (.keep (.keep (.keep (.keep (.keep (.skip (.keep (.keep (.skip (.skip (.skip .nil)))))))))))))))))))) fun x_b6 =>
  (bd_ret (ev_opS opS_lt (ev_val rfl) ev_int))))))))

abbrev s_shows_price : Stmt := top 43
abbrev N_shows_price : List Str := ["building", "bounds", "costs", "stream", "paper"]
theorem sc_shows_price : FnScope N_shows_price ["building", "bounds", "costs", "stream", "paper"] (defScope s_shows_price) := ⟨rfl, rfl, rfl, by decide +kernel, rfl, by decide +kernel, by decide +kernel⟩
theorem ok_shows_price {f : Addr} {fd : FuncData} (F : Fun K "shows_price" "shows_price" s_shows_price f fd) (TX : Txt K mg C) (C_require_setting : Cl P w K mg base 6 "require_setting" ["building", "bounds", "costs", "stream"] (spU ⟨K, C⟩ [.f, .f, .f, .f] (pur (f4 m_require_setting)))) (C_is_paper : Cl P w K mg base 1 "is_paper" ["value", "kind", "size"] (spU ⟨K, C⟩ [.f, .f, .f] (pur (f3 m_is_paper)))) (C_hold : Cl P w K mg base 4 "hold" ["building", "bounds", "costs", "stream", "value"] (spU ⟨K, C⟩ [.f, .f, .f, .f, .f] (pur (f5 m_hold)))) (C_is_cheaper_ring : Cl P w K mg base 6 "is_cheaper_ring" ["building", "bounds", "costs", "stream", "value"] (spU ⟨K, C⟩ [.f, .f, .f, .f, .f] (pur (f5 m_is_cheaper_ring)))) : FnOk P w K mg base CX0 7 f fd ["building", "bounds", "costs", "stream", "paper"] (spU ⟨K, C⟩ [.f, .f, .f, .f, .f] (pur (f5 m_shows_price))) := by
  have nd := sc_shows_price.nd
  refine fn_ok (T := ⟨K, C⟩) F sc_shows_price rfl (by decide) (fun cdv A outer s H E hr => ?_)
  have hu := hr.units
  refine ⟨_, (pss_cons (ps_expr (pe_cl C_require_setting hr rfl (pa_cons (pv 0) (pa_cons (pv 1) (pa_cons (pv 2) (pa_cons (pv 3) pa_nil))))))
  (pss_cons (ps_if (pt_val (pe_cl C_is_paper hr rfl (pa_cons (pv 4) (pa_cons pe_str (pa_cons pe_int pa_nil)))))
  (pss_one (ps_ret (pe_cl C_hold hr rfl (pa_cons (pv 0) (pa_cons (pv 1) (pa_cons (pv 2) (pa_cons (pv 3) (pa_cons (pe_ix (ix_A hu) (pv 4) pe_int (fun _ _ => rfl)) pa_nil))))))))
  pss_nil)
  (pss_cons (ps_if (pt_val (pe_cl C_is_paper hr rfl (pa_cons (pv 4) (pa_cons pe_str (pa_cons pe_int pa_nil)))))
  (pss_one (ps_ret (pe_cl C_is_cheaper_ring hr rfl (pa_cons (pv 0) (pa_cons (pv 1) (pa_cons (pv 2) (pa_cons (pv 3) (pa_cons (pe_ix (ix_A hu) (pv 4) pe_int (fun _ _ => rfl)) pa_nil))))))))
  pss_nil)
  (pss_one (ps_ret pe_bl))))), fun ds hds => ?_⟩
  match ds, hds with
  | [x_building, x_bounds, x_costs, x_stream, x_paper], _ =>
    refine bv_pur ?_
    show B _ _ _ (m_shows_price x_building x_bounds x_costs x_stream x_paper) _
    unfold m_shows_price
    exact (bn_of (b_seq (bp_drop (md := .h) (ev_callO rfl (eva_cons (ev_val rfl) (eva_cons (ev_val rfl) (eva_cons (ev_val rfl) (eva_cons (ev_val rfl) eva_nil)))))) fun _ =>
  (bd_ifx0 (evt_B (ev_callO rfl (eva_cons (ev_val rfl) (eva_cons ev_str (eva_cons ev_int eva_nil)))))
  (bd_ret (ev_callO rfl (eva_cons (ev_val rfl) (eva_cons (ev_val rfl) (eva_cons (ev_val rfl) (eva_cons (ev_val rfl) (eva_cons (ev_opP opP_ix (ev_val rfl) ev_int) eva_nil)))))))
  (bd_ifx0 (evt_B (ev_callO rfl (eva_cons (ev_val rfl) (eva_cons ev_str (eva_cons ev_int eva_nil)))))
  (bd_ret (ev_callO rfl (eva_cons (ev_val rfl) (eva_cons (ev_val rfl) (eva_cons (ev_val rfl) (eva_cons (ev_val rfl) (eva_cons (ev_opP opP_ix (ev_val rfl) ev_int) eva_nil)))))))
  (bd_ret ev_bl)))))

abbrev s_law_says : Stmt := top 55
abbrev N_law_says : List Str := ["told", "due"]
theorem sc_law_says : FnScope N_law_says ["told", "due"] (defScope s_law_says) := ⟨rfl, rfl, rfl, by decide +kernel, rfl, by decide +kernel, by decide +kernel⟩
theorem ok_law_says {f : Addr} {fd : FuncData} (F : Fun K "_law_says" "_law_says" s_law_says f fd) (TX : Txt K mg C) : FnOk P w K mg base CX0 1 f fd ["told", "due"] (spU ⟨K, C⟩ [.f, .f] (pur (f2 m_law_says))) := by
  have nd := sc_law_says.nd
  refine fn_ok (T := ⟨K, C⟩) F sc_law_says rfl (by decide) (fun cdv A outer s H E hr => ?_)
  have hu := hr.units
  refine ⟨_, (pss_one (ps_ret (pe_and (pe_callB call_isi rfl TX.b_isinstance b0_isinstance (pa_cons (pv 0) (pa_cons (pe_bltn (v := .ty "bool") rfl TX.b_bool b0_bool rfl) pa_nil))) (pe_one (pe_cmpR (op_eqD hu) (pv 0) (pv 1) (nomark _)))))), fun ds hds => ?_⟩
  match ds, hds with
  | [x_told, x_due], _ =>
    refine bv_pur ?_
    show B _ _ _ (m_law_says x_told x_due) _
    unfold m_law_says
    exact (bn_of (bd_ret (ev_andV (ev_isi (ev_val rfl)) (ev_opS opS_eq (ev_val rfl) (ev_val rfl)))))

abbrev s_law_rings : Stmt := top 61
abbrev N_law_rings : List Str := ["script", "plan", "building", "bounds", "ring", "stream", "costs", "turned", "one", "back", "wrong", "due", "zero", "k", "full", "near"]
theorem sc_law_rings : FnScope N_law_rings ["script", "plan"] (defScope s_law_rings) := ⟨rfl, rfl, rfl, by decide +kernel, rfl, by decide +kernel, by decide +kernel⟩
theorem ok_law_rings {f : Addr} {fd : FuncData} (F : Fun K "_law_rings" "_law_rings" s_law_rings f fd) (TX : Txt K mg C) (C_Building_init : Cm P w K mg base 5 "Building" (C "Building") ["self", "rooms", "ducts"] (spU ⟨K, C⟩ [.u, .f, .f] (f3 m_Building_init))) (C_law_with : Cl P w K mg base 1 "_law_with" ["values", "place", "value"] (spU ⟨K, C⟩ [.f, .f, .f] (pur (f3 m_law_with)))) (C_law_ring : Cl P w K mg base 2 "_law_ring" ["ducts", "bounds", "costs", "stream", "ring"] (spU ⟨K, C⟩ [.f, .f, .f, .f, .f] (pur (f5 m_law_ring)))) (C_shows_price : Cl P w K mg base 7 "shows_price" ["building", "bounds", "costs", "stream", "paper"] (spU ⟨K, C⟩ [.f, .f, .f, .f, .f] (pur (f5 m_shows_price)))) (C_law_says : Cl P w K mg base 1 "_law_says" ["told", "due"] (spU ⟨K, C⟩ [.f, .f] (pur (f2 m_law_says)))) : FnOk P w K mg base CX0 8 f fd ["script", "plan"] (spU ⟨K, C⟩ [.f, .f] (pur (f2 m_law_rings))) := by
  have nd := sc_law_rings.nd
  refine fn_ok (T := ⟨K, C⟩) F sc_law_rings rfl (by decide) (fun cdv A outer s H E hr => ?_)
  have hu := hr.units
  refine ⟨_, (pss_cons (ps_set (i := 2) nd rfl (Or.inl rfl) (pe_cm C_Building_init hr rfl (pa_cons (pe_ix (ix_A hu) (pv 1) pe_int (fun _ _ => rfl)) (pa_cons (pe_ix (ix_A hu) (pv 1) pe_int (fun _ _ => rfl)) pa_nil))))
  (pss_cons (ps_set (i := 3) nd rfl (Or.inl rfl) (pe_op op_mulA (pe_lst (pa_cons (pe_tup (pa_cons (pe_un un_neg pe_int) (pa_cons pe_int pa_nil))) pa_nil)) (pe_callB cl_len rfl TX.b_len b0_len (pa_cons (pe_ix (ix_A hu) (pv 1) pe_int (fun _ _ => rfl)) pa_nil))))
  (pss_cons (ps_set (i := 4) nd rfl (Or.inr rfl) (pe_ix (ix_A hu) (pv 1) pe_int (fun _ _ => rfl)))
  (pss_cons (ps_set (i := 5) nd rfl (Or.inl rfl) (pe_ix (ix_A hu) (pv 1) pe_int (fun _ _ => rfl)))
  (pss_cons (ps_set (i := 6) nd rfl (Or.inl rfl) (pe_ix (ix_A hu) (pv 1) pe_int (fun _ _ => rfl)))
  (pss_cons (ps_setLc (i := 7) (own := [("k", 13)]) (g := (gName 13)) (tt := tYes) (te := (tOp (rAddA K) (tSl (rSlAll K) (tVar 4) (tPart (tVar 13)) tNoPart) (tSl (rSlAll K) (tVar 4) tNoPart (tPart (tVar 13))))) rfl nd rfl rfl (sw_true rfl rfl rfl (by decide +kernel)) (pi_range1 rfl TX.b_range (pa_cons (pe_callB cl_len rfl TX.b_len b0_len (pa_cons (pv 4) pa_nil)) pa_nil)) (blkOk_by (own := [("k", 13)]) (N := N_law_rings) (sc := defScope s_law_rings) (by decide +kernel)) (fun _ _ _ _ _ => (pg_name (i := 13) nd rfl (Or.inl rfl))) (fun _ _ _ _ _ => pts_nil) (fun _ _ _ _ _ => (pe_op op_addA (pe_slice sl_all (pv 4) (po_some (pv 13)) po_none) (pe_slice sl_all (pv 4) po_none (po_some (pv 13))))))
  (pss_cons (ps_for PassesOwn.never rfl (pi_seqK (pv 7)) (pg_name (i := 8) nd rfl (Or.inl rfl))
  (pss_cons (ps_if (pt_cmpR op_isNotA (pe_cl C_shows_price hr rfl (pa_cons (pv 2) (pa_cons (pv 3) (pa_cons (pv 6) (pa_cons (pv 5) (pa_cons (pe_tup (pa_cons pe_str (pa_cons (pv 8) pa_nil))) pa_nil)))))) pe_bl (nomark _))
  (pss_one (ps_ret pe_bl))
  pss_nil)
  pss_nil))
  (pss_cons (ps_set (i := 9) nd rfl (Or.inl rfl) (pe_callTy call_tuple_of rfl TX.b_tuple b0_tuple (pa_cons (pe_lc (own := [("k", 13)]) (g := (gName 13)) (tt := tYes) (te := (tTup (tCons (tOp (rIxA K) (tOp (rIxA K) (tVar 4) (tOp (rI0 fun i j => .int (i - j)) (tOp (rI0 fun i j => .int (i - j)) (tCB (rLen K) (tCons (tVar 4) tNil)) (tC (.int 1))) (tVar 13))) (tC (.int 0))) (tCons (tUn (rU fun i => .int (-i)) (tOp (rIxA K) (tOp (rIxA K) (tVar 4) (tOp (rI0 fun i j => .int (i - j)) (tOp (rI0 fun i j => .int (i - j)) (tCB (rLen K) (tCons (tVar 4) tNil)) (tC (.int 1))) (tVar 13))) (tC (.int 1)))) tNil)))) rfl nd (pi_range1 rfl TX.b_range (pa_cons (pe_callB cl_len rfl TX.b_len b0_len (pa_cons (pv 4) pa_nil)) pa_nil)) (blkOk_by (own := [("k", 13)]) (N := N_law_rings) (sc := defScope s_law_rings) (by decide +kernel)) (fun _ _ _ _ _ => (pg_name (i := 13) nd rfl (Or.inl rfl))) (fun _ _ _ _ _ => pts_nil) (fun _ _ _ _ _ => (pe_tup (pa_cons (pe_ix (ix_A hu) (pe_ix (ix_A hu) (pv 4) (pe_op op_sub (pe_op op_sub (pe_callB cl_len rfl TX.b_len b0_len (pa_cons (pv 4) pa_nil)) pe_int) (pv 13)) (fun _ _ => rfl)) pe_int (fun _ _ => rfl)) (pa_cons (pe_un un_neg (pe_ix (ix_A hu) (pe_ix (ix_A hu) (pv 4) (pe_op op_sub (pe_op op_sub (pe_callB cl_len rfl TX.b_len b0_len (pa_cons (pv 4) pa_nil)) pe_int) (pv 13)) (fun _ _ => rfl)) pe_int (fun _ _ => rfl))) pa_nil))))) pa_nil)))
  (pss_cons (ps_set (i := 10) nd rfl (Or.inl rfl) (pe_lst (pa_cons (pe_op op_addA (pv 4) (pv 4)) (pa_cons (pe_slice sl_all (pv 4) (po_some pe_int) po_none) (pa_cons (pe_slice sl_all (pv 4) po_none (po_some pe_int)) (pa_cons (pv 9) (pa_cons (pe_callTy call_list_of rfl TX.b_list b0_list (pa_cons (pv 4) pa_nil)) (pa_cons (pe_op op_addA (pe_tup (pa_cons (pe_callTy call_list_of rfl TX.b_list b0_list (pa_cons (pe_ix (ix_A hu) (pv 4) pe_int (fun _ _ => rfl)) pa_nil)) pa_nil)) (pe_slice sl_all (pv 4) (po_some pe_int) po_none)) (pa_cons (pe_op op_addA (pe_tup (pa_cons (pe_tup (pa_cons pe_int (pa_cons pe_int pa_nil))) pa_nil)) (pe_slice sl_all (pv 4) (po_some pe_int) po_none)) (pa_cons (pe_tup pa_nil) pa_nil))))))))))
  (pss_cons (ps_set (i := 10) nd rfl (Or.inl rfl) (pe_op op_addA (pv 10) (pe_lst (pa_cons (pe_op op_addA (pe_tup (pa_cons (pe_tup (pa_cons pe_int (pa_cons (pe_op op_mulA pe_int (pe_ix (ix_A hu) (pe_ix (ix_A hu) (pv 4) pe_int (fun _ _ => rfl)) pe_int (fun _ _ => rfl))) pa_nil))) pa_nil)) (pe_slice sl_all (pv 4) (po_some pe_int) po_none)) (pa_cons (pe_op op_addA (pe_tup (pa_cons (pe_tup (pa_cons pe_int (pa_cons (pe_ix (ix_A hu) (pe_ix (ix_A hu) (pv 4) pe_int (fun _ _ => rfl)) pe_int (fun _ _ => rfl)) (pa_cons pe_int pa_nil)))) pa_nil)) (pe_slice sl_all (pv 4) (po_some pe_int) po_none)) (pa_cons (pe_op op_addA (pe_tup (pa_cons pe_int pa_nil)) (pe_slice sl_all (pv 4) (po_some pe_int) po_none)) (pa_cons pe_non pa_nil)))))))
  (pss_cons (ps_set (i := 10) nd rfl (Or.inl rfl) (pe_op op_addA (pv 10) (pe_lst (pa_cons (pe_op op_addA (pe_tup (pa_cons (pe_tup (pa_cons (pe_callB cl_len rfl TX.b_len b0_len (pa_cons (pe_ix (ix_A hu) (pv 1) pe_int (fun _ _ => rfl)) pa_nil)) (pa_cons pe_int pa_nil))) pa_nil)) (pe_slice sl_all (pv 4) (po_some pe_int) po_none)) (pa_cons (pe_op op_addA (pe_tup (pa_cons (pe_tup (pa_cons (pe_un un_neg pe_int) (pa_cons (pe_ix (ix_A hu) (pe_ix (ix_A hu) (pv 4) pe_int (fun _ _ => rfl)) pe_int (fun _ _ => rfl)) pa_nil))) pa_nil)) (pe_slice sl_all (pv 4) (po_some pe_int) po_none)) (pa_cons (pe_op op_addA (pe_tup (pa_cons (pe_tup (pa_cons pe_bl (pa_cons (pe_ix (ix_A hu) (pe_ix (ix_A hu) (pv 4) pe_int (fun _ _ => rfl)) pe_int (fun _ _ => rfl)) pa_nil))) pa_nil)) (pe_slice sl_all (pv 4) (po_some pe_int) po_none)) pa_nil))))))
  (pss_cons (ps_for PassesOwn.never rfl (pi_seqK (pv 10)) (pg_name (i := 8) nd rfl (Or.inl rfl))
  (pss_cons (ps_if (pt_cmpR op_isNotA (pe_cl C_shows_price hr rfl (pa_cons (pv 2) (pa_cons (pv 3) (pa_cons (pv 6) (pa_cons (pv 5) (pa_cons (pe_tup (pa_cons pe_str (pa_cons (pv 8) pa_nil))) pa_nil)))))) pe_bl (nomark _))
  (pss_one (ps_ret pe_bl))
  pss_nil)
  pss_nil))
  (pss_cons (ps_for PassesOwn.never rfl (pi_seqK (pe_lst (pa_cons (pe_op op_addA (pe_tup (pa_cons (pe_ix (ix_A hu) (pv 1) pe_int (fun _ _ => rfl)) pa_nil)) (pe_slice sl_all (pv 4) (po_some pe_int) po_none)) (pa_cons (pe_op op_addA (pe_tup (pa_cons (pe_ix (ix_A hu) (pv 4) pe_int (fun _ _ => rfl)) (pa_cons (pe_ix (ix_A hu) (pv 4) pe_int (fun _ _ => rfl)) pa_nil))) (pe_slice sl_all (pv 4) (po_some pe_int) po_none)) (pa_cons (pe_op op_addA (pv 4) (pe_tup (pa_cons (pe_ix (ix_A hu) (pv 1) pe_int (fun _ _ => rfl)) (pa_cons (pe_tup (pa_cons (pe_ix (ix_A hu) (pe_ix (ix_A hu) (pv 1) pe_int (fun _ _ => rfl)) pe_int (fun _ _ => rfl)) (pa_cons (pe_un un_neg (pe_ix (ix_A hu) (pe_ix (ix_A hu) (pv 1) pe_int (fun _ _ => rfl)) pe_int (fun _ _ => rfl))) pa_nil))) pa_nil)))) pa_nil))))) (pg_name (i := 8) nd rfl (Or.inl rfl))
  (pss_cons (ps_set (i := 11) nd rfl (Or.inl rfl) (pe_cl C_law_ring hr rfl (pa_cons (pe_ix (ix_A hu) (pv 1) pe_int (fun _ _ => rfl)) (pa_cons (pv 3) (pa_cons (pv 6) (pa_cons (pv 5) (pa_cons (pv 8) pa_nil)))))))
  (pss_cons (ps_if (pt_not (pt_val (pe_cl C_law_says hr rfl (pa_cons (pe_cl C_shows_price hr rfl (pa_cons (pv 2) (pa_cons (pv 3) (pa_cons (pv 6) (pa_cons (pv 5) (pa_cons (pe_tup (pa_cons pe_str (pa_cons (pv 8) pa_nil))) pa_nil)))))) (pa_cons (pv 11) pa_nil)))))
  (pss_one (ps_ret pe_bl))
  pss_nil)
  pss_nil)))
  (pss_cons (ps_set (i := 12) nd rfl (Or.inl rfl) (pe_cl C_law_with hr rfl (pa_cons (pv 6) (pa_cons pe_int (pa_cons (pe_op op_addA (pe_ix (ix_A hu) (pv 6) pe_int (fun _ _ => rfl)) (pe_ix (ix_A hu) (pe_ix (ix_A hu) (pv 4) pe_int (fun _ _ => rfl)) pe_int (fun _ _ => rfl))) pa_nil)))))
  (pss_cons (ps_if (pt_cmpR op_isNotA (pe_cl C_shows_price hr rfl (pa_cons (pv 2) (pa_cons (pv 3) (pa_cons (pv 12) (pa_cons (pv 5) (pa_cons (pe_tup (pa_cons pe_str (pa_cons (pv 4) pa_nil))) pa_nil)))))) pe_bl (nomark _))
  (pss_one (ps_ret pe_bl))
  pss_nil)
  (pss_cons (ps_for PassesOwn.never rfl (pi_range1 rfl TX.b_range (pa_cons (pe_callB cl_len rfl TX.b_len b0_len (pa_cons (pv 4) pa_nil)) pa_nil)) (pg_name (i := 13) nd rfl (Or.inl rfl))
  (pss_cons (ps_set (i := 14) nd rfl (Or.inl rfl) (pe_cl C_law_with hr rfl (pa_cons (pv 5) (pa_cons (pv 13) (pa_cons (pe_op op_mulA pe_int (pe_ix (ix_A hu) (pe_ix (ix_A hu) (pv 4) (pv 13) (fun _ _ => rfl)) pe_int (fun _ _ => rfl))) pa_nil)))))
  (pss_cons (ps_set (i := 15) nd rfl (Or.inl rfl) (pe_cl C_law_with hr rfl (pa_cons (pv 5) (pa_cons (pv 13) (pa_cons (pe_ix (ix_A hu) (pe_ix (ix_A hu) (pv 4) (pv 13) (fun _ _ => rfl)) pe_int (fun _ _ => rfl)) pa_nil)))))
  (pss_cons (ps_if (pt_cmpR op_isNotA (pe_cl C_shows_price hr rfl (pa_cons (pv 2) (pa_cons (pv 3) (pa_cons (pv 6) (pa_cons (pv 14) (pa_cons (pe_tup (pa_cons pe_str (pa_cons (pv 4) pa_nil))) pa_nil)))))) pe_bl (nomark _))
  (pss_one (ps_ret pe_bl))
  pss_nil)
  (pss_cons (ps_if (pt_cmpR op_isNotA (pe_cl C_shows_price hr rfl (pa_cons (pv 2) (pa_cons (pv 3) (pa_cons (pv 6) (pa_cons (pv 15) (pa_cons (pe_tup (pa_cons pe_str (pa_cons (pv 4) pa_nil))) pa_nil)))))) pe_bl (nomark _))
  (pss_one (ps_ret pe_bl))
  pss_nil)
  pss_nil)))))
  (pss_one (ps_ret pe_bl)))))))))))))))))), fun ds hds => ?_⟩
  match ds, hds with
  | [x_script, x_plan], _ =>
    refine bv_pur ?_
    show B _ _ _ (m_law_rings x_script x_plan) _
    unfold m_law_rings
    exact (bn_of (b_seq (bp_set (i := 2) (ev_new (evo_make (T := ⟨K, C⟩) rfl (eva_cons (ev_opP opP_ix (ev_val rfl) ev_int) (eva_cons (ev_opP opP_ix (ev_val rfl) ev_int) eva_nil))))) fun x_building1 =>
  (b_seq (bp_set (i := 3) (ev_opM opM_mul (ev_new (evo_lst (evl_cons (ev_tup (evl_cons (ev_neg ev_int) (evl_cons ev_int evl_nil))) evl_nil))) (ev_clS cS_len (evl_cons (ev_opP opP_ix (ev_val rfl) ev_int) evl_nil)))) fun x_bounds2 =>
  (b_seq (bp_set (i := 4) (ev_opP opP_ix (ev_val rfl) ev_int)) fun x_ring3 =>
  (b_seq (bp_set (i := 5) (ev_opP opP_ix (ev_val rfl) ev_int)) fun x_stream4 =>
  (b_seq (bp_set (i := 6) (ev_opP opP_ix (ev_val rfl) ev_int)) fun x_costs5 =>
  (b_seq (bp_set (i := 7) (ev_new (evo_comp (md := .f) rfl (tin_name (by decide)) (evi_range1 (evl_cons (ev_clS cS_len (evl_cons (ev_val rfl) evl_nil)) evl_nil)) (fun x_d7 => (bg_name (ce_all (ev_opM opM_add (ev_cut (ev_val rfl) (evp_some (ev_val rfl)) evp_none) (ev_cut (ev_val rfl) evp_none (evp_some (ev_val rfl)))))))))) fun x_turned6 =>
  (bd_seqx (bt_for (md := .f) (Γl := fun (x_b8 : Unit) => [.val x_script, .val x_plan, .val x_building1, .val x_bounds2, .val x_ring3, .val x_stream4, .val x_costs5, .val x_turned6, .no, .no, .no, .no, .no, .no, .no, .no]) (evi_seq (ev_val rfl)) (.keep (.keep (.keep (.keep (.keep (.keep (.keep (.keep (.skip (.skip (.skip (.skip (.skip (.skip (.skip (.skip .nil)))))))))))))))) (fun x_b8 x_d10 =>
  (bg_name (b_ifx0 (evt_test (ev_opS opS_isNot (ev_callO rfl (eva_cons (ev_val rfl) (eva_cons (ev_val rfl) (eva_cons (ev_val rfl) (eva_cons (ev_val rfl) (eva_cons (ev_tup (evl_cons ev_str (evl_cons (ev_val rfl) evl_nil))) eva_nil)))))) ev_bl))
  (bt_ret' ev_bl)
  (bt_end (.keep (.keep (.keep (.keep (.keep (.keep (.keep (.keep (.skip (.skip (.skip (.skip (.skip (.skip (.skip (.skip .nil))))))))))))))))))))) fun x_b8 =>
  (b_seq (bp_set (i := 9) (ev_clM cM_tuple (evl_cons (ev_new (evo_comp (md := .f) rfl (tin_name (by decide)) (evi_range1 (evl_cons (ev_clS cS_len (evl_cons (ev_val rfl) evl_nil)) evl_nil)) (fun x_d12 => (bg_name (ce_all (ev_tup (evl_cons (ev_opP opP_ix (ev_opP opP_ix (ev_val rfl) (ev_opS opS_sub (ev_opS opS_sub (ev_clS cS_len (evl_cons (ev_val rfl) evl_nil)) ev_int) (ev_val rfl))) ev_int) (evl_cons (ev_neg (ev_opP opP_ix (ev_opP opP_ix (ev_val rfl) (ev_opS opS_sub (ev_opS opS_sub (ev_clS cS_len (evl_cons (ev_val rfl) evl_nil)) ev_int) (ev_val rfl))) ev_int)) evl_nil)))))))) evl_nil))) fun x_back11 =>
  (b_seq (bp_set (i := 10) (ev_new (evo_lst (evl_cons (ev_opM opM_add (ev_val rfl) (ev_val rfl)) (evl_cons (ev_cut (ev_val rfl) (evp_some ev_int) evp_none) (evl_cons (ev_cut (ev_val rfl) evp_none (evp_some ev_int)) (evl_cons (ev_val rfl) (evl_cons (ev_new (evo_list (ev_val rfl))) (evl_cons (ev_opM opM_add (ev_tup (evl_cons (ev_new (evo_list (ev_opP opP_ix (ev_val rfl) ev_int))) evl_nil)) (ev_cut (ev_val rfl) (evp_some ev_int) evp_none)) (evl_cons (ev_opM opM_add (ev_tup (evl_cons (ev_tup (evl_cons ev_int (evl_cons ev_int evl_nil))) evl_nil)) (ev_cut (ev_val rfl) (evp_some ev_int) evp_none)) (evl_cons (ev_tup evl_nil) evl_nil))))))))))) fun x_wrong13 =>
  (b_seq (bp_set (i := 10) (ev_opM opM_add (ev_val rfl) (ev_new (evo_lst (evl_cons (ev_opM opM_add (ev_tup (evl_cons (ev_tup (evl_cons ev_int (evl_cons (ev_opM opM_mul ev_int (ev_opP opP_ix (ev_opP opP_ix (ev_val rfl) ev_int) ev_int)) evl_nil))) evl_nil)) (ev_cut (ev_val rfl) (evp_some ev_int) evp_none)) (evl_cons (ev_opM opM_add (ev_tup (evl_cons (ev_tup (evl_cons ev_int (evl_cons (ev_opP opP_ix (ev_opP opP_ix (ev_val rfl) ev_int) ev_int) (evl_cons ev_int evl_nil)))) evl_nil)) (ev_cut (ev_val rfl) (evp_some ev_int) evp_none)) (evl_cons (ev_opM opM_add (ev_tup (evl_cons ev_int evl_nil)) (ev_cut (ev_val rfl) (evp_some ev_int) evp_none)) (evl_cons ev_non evl_nil)))))))) fun x_wrong14 =>
  (b_seq (bp_set (i := 10) (ev_opM opM_add (ev_val rfl) (ev_new (evo_lst (evl_cons (ev_opM opM_add (ev_tup (evl_cons (ev_tup (evl_cons (ev_clS cS_len (evl_cons (ev_opP opP_ix (ev_val rfl) ev_int) evl_nil)) (evl_cons ev_int evl_nil))) evl_nil)) (ev_cut (ev_val rfl) (evp_some ev_int) evp_none)) (evl_cons (ev_opM opM_add (ev_tup (evl_cons (ev_tup (evl_cons (ev_neg ev_int) (evl_cons (ev_opP opP_ix (ev_opP opP_ix (ev_val rfl) ev_int) ev_int) evl_nil))) evl_nil)) (ev_cut (ev_val rfl) (evp_some ev_int) evp_none)) (evl_cons (ev_opM opM_add (ev_tup (evl_cons (ev_tup (evl_cons ev_bl (evl_cons (ev_opP opP_ix (ev_opP opP_ix (ev_val rfl) ev_int) ev_int) evl_nil))) evl_nil)) (ev_cut (ev_val rfl) (evp_some ev_int) evp_none)) evl_nil))))))) fun x_wrong15 =>
  (bd_seqx (bt_for (md := .f) (Γl := fun (x_b16 : Unit) => [.val x_script, .val x_plan, .val x_building1, .val x_bounds2, .val x_ring3, .val x_stream4, .val x_costs5, .val x_turned6, .no, .val x_back11, .val x_wrong15, .no, .no, .no, .no, .no]) (evi_seq (ev_val rfl)) (.keep (.keep (.keep (.keep (.keep (.keep (.keep (.keep (.skip (.keep (.keep (.skip (.skip (.skip (.skip (.skip .nil)))))))))))))))) (fun x_b16 x_d18 =>
  (bg_name (b_ifx0 (evt_test (ev_opS opS_isNot (ev_callO rfl (eva_cons (ev_val rfl) (eva_cons (ev_val rfl) (eva_cons (ev_val rfl) (eva_cons (ev_val rfl) (eva_cons (ev_tup (evl_cons ev_str (evl_cons (ev_val rfl) evl_nil))) eva_nil)))))) ev_bl))
  (bt_ret' ev_bl)
  (bt_end (.keep (.keep (.keep (.keep (.keep (.keep (.keep (.keep (.skip (.keep (.keep (.skip (.skip (.skip (.skip (.skip .nil))))))))))))))))))))) fun x_b16 =>
  (bd_seqx (bt_for (md := .f) (Γl := fun (x_b19 : Unit) => [.val x_script, .val x_plan, .val x_building1, .val x_bounds2, .val x_ring3, .val x_stream4, .val x_costs5, .val x_turned6, .no, .val x_back11, .val x_wrong15, .no, .no, .no, .no, .no]) (evi_seq (ev_new (evo_lst (evl_cons (ev_opM opM_add (ev_tup (evl_cons (ev_opP opP_ix (ev_val rfl) ev_int) evl_nil)) (ev_cut (ev_val rfl) (evp_some ev_int) evp_none)) (evl_cons (ev_opM opM_add (ev_tup (evl_cons (ev_opP opP_ix (ev_val rfl) ev_int) (evl_cons (ev_opP opP_ix (ev_val rfl) ev_int) evl_nil))) (ev_cut (ev_val rfl) (evp_some ev_int) evp_none)) (evl_cons (ev_opM opM_add (ev_val rfl) (ev_tup (evl_cons (ev_opP opP_ix (ev_val rfl) ev_int) (evl_cons (ev_tup (evl_cons (ev_opP opP_ix (ev_opP opP_ix (ev_val rfl) ev_int) ev_int) (evl_cons (ev_neg (ev_opP opP_ix (ev_opP opP_ix (ev_val rfl) ev_int) ev_int)) evl_nil))) evl_nil)))) evl_nil)))))) (.keep (.keep (.keep (.keep (.keep (.keep (.keep (.keep (.skip (.keep (.keep (.skip (.skip (.skip (.skip (.skip .nil)))))))))))))))) (fun x_b19 x_d21 =>
  (bg_name (b_seq (bp_set (i := 11) (ev_callO rfl (eva_cons (ev_opP opP_ix (ev_val rfl) ev_int) (eva_cons (ev_val rfl) (eva_cons (ev_val rfl) (eva_cons (ev_val rfl) (eva_cons (ev_val rfl) eva_nil))))))) fun x_due22 =>
  (b_ifx0 (evt_not (evt_B (ev_callO rfl (eva_cons (ev_callO rfl (eva_cons (ev_val rfl) (eva_cons (ev_val rfl) (eva_cons (ev_val rfl) (eva_cons (ev_val rfl) (eva_cons (ev_tup (evl_cons ev_str (evl_cons (ev_val rfl) evl_nil))) eva_nil)))))) (eva_cons (ev_val rfl) eva_nil)))))
  (bt_ret' ev_bl)
  (bt_end (.keep (.keep (.keep (.keep (.keep (.keep (.keep (.keep (.skip (.keep (.keep (.skip (.skip (.skip (.skip (.skip .nil)))))))))))))))))))))) fun x_b19 =>
  (b_seq (bp_set (i := 12) (ev_callO rfl (eva_cons (ev_val rfl) (eva_cons ev_int (eva_cons (ev_opM opM_add (ev_opP opP_ix (ev_val rfl) ev_int) (ev_opP opP_ix (ev_opP opP_ix (ev_val rfl) ev_int) ev_int)) eva_nil))))) fun x_zero23 =>
  (bd_ifx0 (evt_test (ev_opS opS_isNot (ev_callO rfl (eva_cons (ev_val rfl) (eva_cons (ev_val rfl) (eva_cons (ev_val rfl) (eva_cons (ev_val rfl) (eva_cons (ev_tup (evl_cons ev_str (evl_cons (ev_val rfl) evl_nil))) eva_nil)))))) ev_bl))
  (bd_ret ev_bl)
  (bd_seqx (bt_for (md := .f) (Γl := fun (x_b24 : Unit) => [.val x_script, .val x_plan, .val x_building1, .val x_bounds2, .val x_ring3, .val x_stream4, .val x_costs5, .val x_turned6, .no, .val x_back11, .val x_wrong15, .no, .val x_zero23, .no, .no, .no]) (evi_range1 (evl_cons (ev_clS cS_len (evl_cons (ev_val rfl) evl_nil)) evl_nil)) (.keep (.keep (.keep (.keep (.keep (.keep (.keep (.keep (.skip (.keep (.keep (.skip (.keep (.skip (.skip (.skip .nil)))))))))))))))) (fun x_b24 x_d26 =>
  (bg_name (b_seq (bp_set (i := 14) (ev_callO rfl (eva_cons (ev_val rfl) (eva_cons (ev_val rfl) (eva_cons (ev_opM opM_mul ev_int (ev_opP opP_ix (ev_opP opP_ix (ev_val rfl) (ev_val rfl)) ev_int)) eva_nil))))) fun x_full27 =>
  (b_seq (bp_set (i := 15) (ev_callO rfl (eva_cons (ev_val rfl) (eva_cons (ev_val rfl) (eva_cons (ev_opP opP_ix (ev_opP opP_ix (ev_val rfl) (ev_val rfl)) ev_int) eva_nil))))) fun x_near28 =>
  (b_ifx0 (evt_test (ev_opS opS_isNot (ev_callO rfl (eva_cons (ev_val rfl) (eva_cons (ev_val rfl) (eva_cons (ev_val rfl) (eva_cons (ev_val rfl) (eva_cons (ev_tup (evl_cons ev_str (evl_cons (ev_val rfl) evl_nil))) eva_nil)))))) ev_bl))
  (bt_ret' ev_bl)
  (b_ifx0 (evt_test (ev_opS opS_isNot (ev_callO rfl (eva_cons (ev_val rfl) (eva_cons (ev_val rfl) (eva_cons (ev_val rfl) (eva_cons (ev_val rfl) (eva_cons (ev_tup (evl_cons ev_str (evl_cons (ev_val rfl) evl_nil))) eva_nil)))))) ev_bl))
  (bt_ret' ev_bl)
  (bt_end (.keep (.keep (.keep (.keep (.keep (.keep (.keep (.keep (.skip (.keep (.keep (.skip (.keep (.skip (.skip (.skip .nil)))))))))))))))))))))))) fun x_b24 =>
  (bd_ret ev_bl))))))))))))))))))

abbrev s_law_holds : Stmt := top 53
abbrev N_law_holds : List Str := ["ducts", "bounds", "costs", "stream", "pressures", "k", "rise"]
theorem sc_law_holds : FnScope N_law_holds ["ducts", "bounds", "costs", "stream", "pressures"] (defScope s_law_holds) := ⟨rfl, rfl, rfl, by decide +kernel, rfl, by decide +kernel, by decide +kernel⟩
theorem ok_law_holds {f : Addr} {fd : FuncData} (F : Fun K "_law_holds" "_law_holds" s_law_holds f fd) (TX : Txt K mg C) : FnOk P w K mg base CX0 1 f fd ["ducts", "bounds", "costs", "stream", "pressures"] (spU ⟨K, C⟩ [.f, .f, .f, .f, .f] (pur (f5 m_law_holds))) := by
  have nd := sc_law_holds.nd
  refine fn_ok (T := ⟨K, C⟩) F sc_law_holds rfl (by decide) (fun cdv A outer s H E hr => ?_)
  have hu := hr.units
  refine ⟨_, (pss_cons (ps_for PassesOwn.never rfl (pi_range1 rfl TX.b_range (pa_cons (pe_callB cl_len rfl TX.b_len b0_len (pa_cons (pv 0) pa_nil)) pa_nil)) (pg_name (i := 5) nd rfl (Or.inl rfl))
  (pss_cons (ps_set (i := 6) nd rfl (Or.inl rfl) (pe_op op_sub (pe_ix (ix_A hu) (pv 4) (pe_ix (ix_A hu) (pe_ix (ix_A hu) (pv 0) (pv 5) (fun _ _ => rfl)) pe_int (fun _ _ => rfl)) (fun _ _ => rfl)) (pe_ix (ix_A hu) (pv 4) (pe_ix (ix_A hu) (pe_ix (ix_A hu) (pv 0) (pv 5) (fun _ _ => rfl)) pe_int (fun _ _ => rfl)) (fun _ _ => rfl))))
  (pss_cons (ps_if (PW.pt (pw_and (pt_cmpR op_lt (pe_ix (ix_A hu) (pv 3) (pv 5) (fun _ _ => rfl)) (pe_ix (ix_A hu) (pe_ix (ix_A hu) (pv 1) (pv 5) (fun _ _ => rfl)) pe_int (fun _ _ => rfl)) (nomark _)) (pw_and1 (pt_cmpR op_lt (pe_ix (ix_A hu) (pv 2) (pv 5) (fun _ _ => rfl)) (pv 6) (nomark _)))))
  (pss_one (ps_ret pe_bl))
  pss_nil)
  (pss_cons (ps_if (PW.pt (pw_and (pt_cmpR op_gt (pe_ix (ix_A hu) (pv 3) (pv 5) (fun _ _ => rfl)) (pe_ix (ix_A hu) (pe_ix (ix_A hu) (pv 1) (pv 5) (fun _ _ => rfl)) pe_int (fun _ _ => rfl)) (nomark _)) (pw_and1 (pt_cmpR op_gt (pe_ix (ix_A hu) (pv 2) (pv 5) (fun _ _ => rfl)) (pv 6) (nomark _)))))
  (pss_one (ps_ret pe_bl))
  pss_nil)
  pss_nil))))
  (pss_one (ps_ret pe_bl))), fun ds hds => ?_⟩
  match ds, hds with
  | [x_ducts, x_bounds, x_costs, x_stream, x_pressures], _ =>
    refine bv_pur ?_
    show B _ _ _ (m_law_holds x_ducts x_bounds x_costs x_stream x_pressures) _
    unfold m_law_holds
    exact (bn_of (bd_seqx (bt_for (md := .f) (Γl := fun (x_b1 : Unit) => [.val x_ducts, .val x_bounds, .val x_costs, .val x_stream, .val x_pressures, .no, .no]) (evi_range1 (evl_cons (ev_clS cS_len (evl_cons (ev_val rfl) evl_nil)) evl_nil)) (.keep (.keep (.keep (.keep (.keep (.skip (.skip .nil))))))) (fun x_b1 x_d3 =>
  (bg_name (b_seq (bp_set (i := 6) (ev_opS opS_sub (ev_opP opP_ix (ev_val rfl) (ev_opP opP_ix (ev_opP opP_ix (ev_val rfl) (ev_val rfl)) ev_int)) (ev_opP opP_ix (ev_val rfl) (ev_opP opP_ix (ev_opP opP_ix (ev_val rfl) (ev_val rfl)) ev_int)))) fun x_rise4 =>
  (b_ifx0 (evt_and (evt_test (ev_opS opS_lt (ev_opP opP_ix (ev_val rfl) (ev_val rfl)) (ev_opP opP_ix (ev_opP opP_ix (ev_val rfl) (ev_val rfl)) ev_int))) (evt_test (ev_opS opS_lt (ev_opP opP_ix (ev_val rfl) (ev_val rfl)) (ev_val rfl))))
  (bt_ret' ev_bl)
  (b_ifx0 (evt_and (evt_test (ev_opS opS_gt (ev_opP opP_ix (ev_val rfl) (ev_val rfl)) (ev_opP opP_ix (ev_opP opP_ix (ev_val rfl) (ev_val rfl)) ev_int))) (evt_test (ev_opS opS_gt (ev_opP opP_ix (ev_val rfl) (ev_val rfl)) (ev_val rfl))))
  (bt_ret' ev_bl)
  (bt_end (.keep (.keep (.keep (.keep (.keep (.skip (.skip .nil)))))))))))))) fun x_b1 =>
  (bd_ret ev_bl)))

abbrev s_law_pressed : Stmt := top 58
abbrev N_law_pressed : List Str := ["building", "ducts", "bounds", "costs", "stream", "pressures", "right", "lifted", "paper", "first", "wrong", "k", "more", "fresh", "due", "a", "number"]
theorem sc_law_pressed : FnScope N_law_pressed ["building", "ducts", "bounds", "costs", "stream", "pressures"] (defScope s_law_pressed) := ⟨rfl, rfl, rfl, by decide +kernel, rfl, by decide +kernel, by decide +kernel⟩
theorem ok_law_pressed {f : Addr} {fd : FuncData} (F : Fun K "_law_pressed" "_law_pressed" s_law_pressed f fd) (TX : Txt K mg C) (C_law_with : Cl P w K mg base 1 "_law_with" ["values", "place", "value"] (spU ⟨K, C⟩ [.f, .f, .f] (pur (f3 m_law_with)))) (C_shows_price : Cl P w K mg base 7 "shows_price" ["building", "bounds", "costs", "stream", "paper"] (spU ⟨K, C⟩ [.f, .f, .f, .f, .f] (pur (f5 m_shows_price)))) (C_law_says : Cl P w K mg base 1 "_law_says" ["told", "due"] (spU ⟨K, C⟩ [.f, .f] (pur (f2 m_law_says)))) (C_law_holds : Cl P w K mg base 1 "_law_holds" ["ducts", "bounds", "costs", "stream", "pressures"] (spU ⟨K, C⟩ [.f, .f, .f, .f, .f] (pur (f5 m_law_holds)))) : FnOk P w K mg base CX0 8 f fd ["building", "ducts", "bounds", "costs", "stream", "pressures"] (spU ⟨K, C⟩ [.f, .f, .f, .f, .f, .f] (pur (f6 m_law_pressed))) := by
  have nd := sc_law_pressed.nd
  refine fn_ok (T := ⟨K, C⟩) F sc_law_pressed rfl (by decide) (fun cdv A outer s H E hr => ?_)
  have hu := hr.units
  refine ⟨_, (pss_cons (ps_set (i := 6) nd rfl (Or.inl rfl) (pe_tup (pa_cons pe_str (pa_cons (pe_callTy call_tuple_of rfl TX.b_tuple b0_tuple (pa_cons (pv 5) pa_nil)) pa_nil))))
  (pss_cons (ps_set (i := 7) nd rfl (Or.inl rfl) (pe_tup (pa_cons pe_str (pa_cons (pe_callTy call_tuple_of rfl TX.b_tuple b0_tuple (pa_cons (pe_lc (own := [("number", 16)]) (g := (gName 16)) (tt := tYes) (te := (tOp (rI0 fun i j => .int (i - j)) (tVar 16) (tOp (rI CPow fun i j => .int (i ^ j.toNat)) (tC (.int 10)) (tC (.int 30))))) rfl nd (pi_seqK (pv 5)) (blkOk_by (own := [("number", 16)]) (N := N_law_pressed) (sc := defScope s_law_pressed) (by decide +kernel)) (fun _ _ _ _ _ => (pg_name (i := 16) nd rfl (Or.inl rfl))) (fun _ _ _ _ _ => pts_nil) (fun _ _ _ _ _ => (pe_op op_sub (pv 16) (pe_op op_pow pe_int pe_int)))) pa_nil)) pa_nil))))
  (pss_cons (ps_for PassesOwn.never rfl (pi_seqK (pe_lst (pa_cons (pv 6) (pa_cons (pv 7) pa_nil)))) (pg_name (i := 8) nd rfl (Or.inl rfl))
  (pss_cons (ps_if (pt_cmpR op_isNotA (pe_cl C_shows_price hr rfl (pa_cons (pv 0) (pa_cons (pv 2) (pa_cons (pv 3) (pa_cons (pv 4) (pa_cons (pv 8) pa_nil)))))) pe_bl (nomark _))
  (pss_one (ps_ret pe_bl))
  pss_nil)
  pss_nil))
  (pss_cons (ps_set (i := 9) nd rfl (Or.inl rfl) (pe_slice sl_all (pe_ix (ix_A hu) (pv 6) pe_int (fun _ _ => rfl)) po_none (po_some (pe_op op_sub (pe_callB cl_len rfl TX.b_len b0_len (pa_cons (pv 5) pa_nil)) pe_int))))
  (pss_cons (ps_set (i := 10) nd rfl (Or.inl rfl) (pe_lst (pa_cons pe_non (pa_cons pe_int (pa_cons (pe_tup pa_nil) (pa_cons (pe_tup (pa_cons pe_str pa_nil)) (pa_cons (pe_callTy call_list_of rfl TX.b_list b0_list (pa_cons (pv 6) pa_nil)) (pa_cons (pe_op op_addA (pv 6) (pe_tup (pa_cons pe_int pa_nil))) (pa_cons (pe_tup (pa_cons pe_str (pa_cons (pe_callTy call_list_of rfl TX.b_list b0_list (pa_cons (pv 5) pa_nil)) pa_nil))) (pa_cons (pe_tup (pa_cons pe_str (pa_cons (pe_ix (ix_A hu) (pv 6) pe_int (fun _ _ => rfl)) pa_nil))) pa_nil))))))))))
  (pss_cons (ps_set (i := 10) nd rfl (Or.inl rfl) (pe_op op_addA (pv 10) (pe_lst (pa_cons (pe_tup (pa_cons pe_str (pa_cons (pe_op op_addA (pe_ix (ix_A hu) (pv 6) pe_int (fun _ _ => rfl)) (pe_tup (pa_cons pe_int pa_nil))) pa_nil))) (pa_cons (pe_tup (pa_cons pe_str (pa_cons (pv 9) pa_nil))) (pa_cons (pe_tup (pa_cons pe_str (pa_cons (pe_op op_addA (pv 9) (pe_tup (pa_cons pe_non pa_nil))) pa_nil))) pa_nil))))))
  (pss_cons (ps_set (i := 10) nd rfl (Or.inl rfl) (pe_op op_addA (pv 10) (pe_lst (pa_cons (pe_tup (pa_cons pe_str (pa_cons (pe_op op_addA (pv 9) (pe_tup (pa_cons pe_bl pa_nil))) pa_nil))) (pa_cons (pe_tup (pa_cons pe_str (pa_cons (pe_callTy call_tuple_of rfl TX.b_tuple b0_tuple (pa_cons (pv 4) pa_nil)) (pa_cons (pe_ix (ix_A hu) (pv 6) pe_int (fun _ _ => rfl)) pa_nil)))) (pa_cons (pe_tup (pa_cons pe_str (pa_cons (pe_tup pa_nil) pa_nil))) pa_nil))))))
  (pss_cons (ps_for PassesOwn.never rfl (pi_seqK (pv 10)) (pg_name (i := 8) nd rfl (Or.inl rfl))
  (pss_cons (ps_if (pt_cmpR op_isNotA (pe_cl C_shows_price hr rfl (pa_cons (pv 0) (pa_cons (pv 2) (pa_cons (pv 3) (pa_cons (pv 4) (pa_cons (pv 8) pa_nil)))))) pe_bl (nomark _))
  (pss_one (ps_ret pe_bl))
  pss_nil)
  pss_nil))
  (pss_cons (ps_for PassesOwn.never rfl (pi_range1 rfl TX.b_range (pa_cons (pe_callB cl_len rfl TX.b_len b0_len (pa_cons (pv 1) pa_nil)) pa_nil)) (pg_name (i := 11) nd rfl (Or.inl rfl))
  (pss_cons (ps_for PassesOwn.never rfl (pi_range2 rfl TX.b_range (pa_cons (pe_un un_neg pe_int) (pa_cons pe_int pa_nil))) (pg_name (i := 12) nd rfl (Or.inl rfl))
  (pss_cons (ps_set (i := 13) nd rfl (Or.inl rfl) (pe_cl C_law_with hr rfl (pa_cons (pv 3) (pa_cons (pv 11) (pa_cons (pe_op op_addA (pe_op op_sub (pe_ix (ix_A hu) (pv 5) (pe_ix (ix_A hu) (pe_ix (ix_A hu) (pv 1) (pv 11) (fun _ _ => rfl)) pe_int (fun _ _ => rfl)) (fun _ _ => rfl)) (pe_ix (ix_A hu) (pv 5) (pe_ix (ix_A hu) (pe_ix (ix_A hu) (pv 1) (pv 11) (fun _ _ => rfl)) pe_int (fun _ _ => rfl)) (fun _ _ => rfl))) (pv 12)) pa_nil)))))
  (pss_cons (ps_set (i := 14) nd rfl (Or.inl rfl) (pe_cl C_law_holds hr rfl (pa_cons (pv 1) (pa_cons (pv 2) (pa_cons (pv 13) (pa_cons (pv 4) (pa_cons (pv 5) pa_nil)))))))
  (pss_cons (ps_if (pt_not (pt_val (pe_cl C_law_says hr rfl (pa_cons (pe_cl C_shows_price hr rfl (pa_cons (pv 0) (pa_cons (pv 2) (pa_cons (pv 13) (pa_cons (pv 4) (pa_cons (pv 6) pa_nil)))))) (pa_cons (pv 14) pa_nil)))))
  (pss_one (ps_ret pe_bl))
  pss_nil)
  pss_nil))))
  pss_nil))
  (pss_cons (ps_for PassesOwn.never rfl (pi_range1 rfl TX.b_range (pa_cons (pe_callB cl_len rfl TX.b_len b0_len (pa_cons (pv 5) pa_nil)) pa_nil)) (pg_name (i := 15) nd rfl (Or.inl rfl))
  (pss_cons (ps_for PassesOwn.never rfl (pi_seqK (pe_lst (pa_cons (pe_un un_neg pe_int) (pa_cons pe_int pa_nil)))) (pg_name (i := 12) nd rfl (Or.inl rfl))
  (pss_cons (ps_set (i := 13) nd rfl (Or.inl rfl) (pe_cl C_law_with hr rfl (pa_cons (pv 5) (pa_cons (pv 15) (pa_cons (pe_op op_addA (pe_ix (ix_A hu) (pv 5) (pv 15) (fun _ _ => rfl)) (pv 12)) pa_nil)))))
  (pss_cons (ps_set (i := 14) nd rfl (Or.inl rfl) (pe_cl C_law_holds hr rfl (pa_cons (pv 1) (pa_cons (pv 2) (pa_cons (pv 3) (pa_cons (pv 4) (pa_cons (pv 13) pa_nil)))))))
  (pss_cons (ps_if (pt_not (pt_val (pe_cl C_law_says hr rfl (pa_cons (pe_cl C_shows_price hr rfl (pa_cons (pv 0) (pa_cons (pv 2) (pa_cons (pv 3) (pa_cons (pv 4) (pa_cons (pe_tup (pa_cons pe_str (pa_cons (pe_callTy call_tuple_of rfl TX.b_tuple b0_tuple (pa_cons (pv 13) pa_nil)) pa_nil))) pa_nil)))))) (pa_cons (pv 14) pa_nil)))))
  (pss_one (ps_ret pe_bl))
  pss_nil)
  pss_nil))))
  pss_nil))
  (pss_one (ps_ret pe_bl)))))))))))), fun ds hds => ?_⟩
  match ds, hds with
  | [x_building, x_ducts, x_bounds, x_costs, x_stream, x_pressures], _ =>
    refine bv_pur ?_
    show B _ _ _ (m_law_pressed x_building x_ducts x_bounds x_costs x_stream x_pressures) _
    unfold m_law_pressed
    exact (bn_of (b_seq (bp_set (i := 6) (ev_tup (evl_cons ev_str (evl_cons (ev_clM cM_tuple (evl_cons (ev_val rfl) evl_nil)) evl_nil)))) fun x_right1 =>
  (b_seq (bp_set (i := 7) (ev_tup (evl_cons ev_str (evl_cons (ev_clM cM_tuple (evl_cons (ev_new (evo_comp (md := .f) rfl (tin_name (by decide)) (evi_seq (ev_val rfl)) (fun x_d3 => (bg_name (ce_all (ev_opS opS_sub (ev_val rfl) (ev_opS opS_pow ev_int ev_int))))))) evl_nil)) evl_nil)))) fun x_lifted2 =>
  (bd_seqx (bt_for (md := .f) (Γl := fun (x_b4 : Unit) => [.val x_building, .val x_ducts, .val x_bounds, .val x_costs, .val x_stream, .val x_pressures, .val x_right1, .val x_lifted2, .no, .no, .no, .no, .no, .no, .no, .no, .no]) (evi_seq (ev_new (evo_lst (evl_cons (ev_val rfl) (evl_cons (ev_val rfl) evl_nil))))) (.keep (.keep (.keep (.keep (.keep (.keep (.keep (.keep (.skip (.skip (.skip (.skip (.skip (.skip (.skip (.skip (.skip .nil))))))))))))))))) (fun x_b4 x_d6 =>
  (bg_name (b_ifx0 (evt_test (ev_opS opS_isNot (ev_callO rfl (eva_cons (ev_val rfl) (eva_cons (ev_val rfl) (eva_cons (ev_val rfl) (eva_cons (ev_val rfl) (eva_cons (ev_val rfl) eva_nil)))))) ev_bl))
  (bt_ret' ev_bl)
  (bt_end (.keep (.keep (.keep (.keep (.keep (.keep (.keep (.keep (.skip (.skip (.skip (.skip (.skip (.skip (.skip (.skip (.skip .nil)))))))))))))))))))))) fun x_b4 =>
  (b_seq (bp_set (i := 9) (ev_cut (ev_opP opP_ix (ev_val rfl) ev_int) evp_none (evp_some (ev_opS opS_sub (ev_clS cS_len (evl_cons (ev_val rfl) evl_nil)) ev_int)))) fun x_first7 =>
  (b_seq (bp_set (i := 10) (ev_new (evo_lst (evl_cons ev_non (evl_cons ev_int (evl_cons (ev_tup evl_nil) (evl_cons (ev_tup (evl_cons ev_str evl_nil)) (evl_cons (ev_new (evo_list (ev_val rfl))) (evl_cons (ev_opM opM_add (ev_val rfl) (ev_tup (evl_cons ev_int evl_nil))) (evl_cons (ev_tup (evl_cons ev_str (evl_cons (ev_new (evo_list (ev_val rfl))) evl_nil))) (evl_cons (ev_tup (evl_cons ev_str (evl_cons (ev_opP opP_ix (ev_val rfl) ev_int) evl_nil))) evl_nil))))))))))) fun x_wrong8 =>
  (b_seq (bp_set (i := 10) (ev_opM opM_add (ev_val rfl) (ev_new (evo_lst (evl_cons (ev_tup (evl_cons ev_str (evl_cons (ev_opM opM_add (ev_opP opP_ix (ev_val rfl) ev_int) (ev_tup (evl_cons ev_int evl_nil))) evl_nil))) (evl_cons (ev_tup (evl_cons ev_str (evl_cons (ev_val rfl) evl_nil))) (evl_cons (ev_tup (evl_cons ev_str (evl_cons (ev_opM opM_add (ev_val rfl) (ev_tup (evl_cons ev_non evl_nil))) evl_nil))) evl_nil))))))) fun x_wrong9 =>
  (b_seq (bp_set (i := 10) (ev_opM opM_add (ev_val rfl) (ev_new (evo_lst (evl_cons (ev_tup (evl_cons ev_str (evl_cons (ev_opM opM_add (ev_val rfl) (ev_tup (evl_cons ev_bl evl_nil))) evl_nil))) (evl_cons (ev_tup (evl_cons ev_str (evl_cons (ev_clM cM_tuple (evl_cons (ev_val rfl) evl_nil)) (evl_cons (ev_opP opP_ix (ev_val rfl) ev_int) evl_nil)))) (evl_cons (ev_tup (evl_cons ev_str (evl_cons (ev_tup evl_nil) evl_nil))) evl_nil))))))) fun x_wrong10 =>
  (bd_seqx (bt_for (md := .f) (Γl := fun (x_b11 : Unit) => [.val x_building, .val x_ducts, .val x_bounds, .val x_costs, .val x_stream, .val x_pressures, .val x_right1, .val x_lifted2, .no, .val x_first7, .val x_wrong10, .no, .no, .no, .no, .no, .no]) (evi_seq (ev_val rfl)) (.keep (.keep (.keep (.keep (.keep (.keep (.keep (.keep (.skip (.keep (.keep (.skip (.skip (.skip (.skip (.skip (.skip .nil))))))))))))))))) (fun x_b11 x_d13 =>
  (bg_name (b_ifx0 (evt_test (ev_opS opS_isNot (ev_callO rfl (eva_cons (ev_val rfl) (eva_cons (ev_val rfl) (eva_cons (ev_val rfl) (eva_cons (ev_val rfl) (eva_cons (ev_val rfl) eva_nil)))))) ev_bl))
  (bt_ret' ev_bl)
  (bt_end (.keep (.keep (.keep (.keep (.keep (.keep (.keep (.keep (.skip (.keep (.keep (.skip (.skip (.skip (.skip (.skip (.skip .nil)))))))))))))))))))))) fun x_b11 =>
  (bd_seqx (bt_for (md := .f) (Γl := fun (x_b14 : Unit) => [.val x_building, .val x_ducts, .val x_bounds, .val x_costs, .val x_stream, .val x_pressures, .val x_right1, .val x_lifted2, .no, .val x_first7, .val x_wrong10, .no, .no, .no, .no, .no, .no]) (evi_range1 (evl_cons (ev_clS cS_len (evl_cons (ev_val rfl) evl_nil)) evl_nil)) (.keep (.keep (.keep (.keep (.keep (.keep (.keep (.keep (.skip (.keep (.keep (.skip (.skip (.skip (.skip (.skip (.skip .nil))))))))))))))))) (fun x_b14 x_d16 =>
  (bg_name (b_seqx (bt_for (md := .f) (Γl := fun (x_b17 : Unit) => [.val x_building, .val x_ducts, .val x_bounds, .val x_costs, .val x_stream, .val x_pressures, .val x_right1, .val x_lifted2, .no, .val x_first7, .val x_wrong10, .val x_d16, .no, .no, .no, .no, .no]) (evi_range2 (evl_cons (ev_neg ev_int) (evl_cons ev_int evl_nil))) (.keep (.keep (.keep (.keep (.keep (.keep (.keep (.keep (.skip (.keep (.keep (.keep (.skip (.skip (.skip (.skip (.skip .nil))))))))))))))))) (fun x_b17 x_d19 =>
  (bg_name (b_seq (bp_set (i := 13) (ev_callO rfl (eva_cons (ev_val rfl) (eva_cons (ev_val rfl) (eva_cons (ev_opM opM_add (ev_opS opS_sub (ev_opP opP_ix (ev_val rfl) (ev_opP opP_ix (ev_opP opP_ix (ev_val rfl) (ev_val rfl)) ev_int)) (ev_opP opP_ix (ev_val rfl) (ev_opP opP_ix (ev_opP opP_ix (ev_val rfl) (ev_val rfl)) ev_int))) (ev_val rfl)) eva_nil))))) fun x_fresh20 =>
  (b_seq (bp_set (i := 14) (ev_callO rfl (eva_cons (ev_val rfl) (eva_cons (ev_val rfl) (eva_cons (ev_val rfl) (eva_cons (ev_val rfl) (eva_cons (ev_val rfl) eva_nil))))))) fun x_due21 =>
  (b_ifx0 (evt_not (evt_B (ev_callO rfl (eva_cons (ev_callO rfl (eva_cons (ev_val rfl) (eva_cons (ev_val rfl) (eva_cons (ev_val rfl) (eva_cons (ev_val rfl) (eva_cons (ev_val rfl) eva_nil)))))) (eva_cons (ev_val rfl) eva_nil)))))
  (bt_ret' ev_bl)
  (bt_end (.keep (.keep (.keep (.keep (.keep (.keep (.keep (.keep (.skip (.keep (.keep (.keep (.skip (.skip (.skip (.skip (.skip .nil)))))))))))))))))))))))) fun x_b17 =>
  (bt_end (.keep (.keep (.keep (.keep (.keep (.keep (.keep (.keep (.skip (.keep (.keep (.skip (.skip (.skip (.skip (.skip (.skip .nil)))))))))))))))))))))) fun x_b14 =>
  (bd_seqx (bt_for (md := .f) (Γl := fun (x_b22 : Unit) => [.val x_building, .val x_ducts, .val x_bounds, .val x_costs, .val x_stream, .val x_pressures, .val x_right1, .val x_lifted2, .no, .val x_first7, .val x_wrong10, .no, .no, .no, .no, .no, .no]) (evi_range1 (evl_cons (ev_clS cS_len (evl_cons (ev_val rfl) evl_nil)) evl_nil)) (.keep (.keep (.keep (.keep (.keep (.keep (.keep (.keep (.skip (.keep (.keep (.skip (.skip (.skip (.skip (.skip (.skip .nil))))))))))))))))) (fun x_b22 x_d24 =>
  (bg_name (b_seqx (bt_for (md := .f) (Γl := fun (x_b25 : Unit) => [.val x_building, .val x_ducts, .val x_bounds, .val x_costs, .val x_stream, .val x_pressures, .val x_right1, .val x_lifted2, .no, .val x_first7, .val x_wrong10, .no, .no, .no, .no, .val x_d24, .no]) (evi_seq (ev_new (evo_lst (evl_cons (ev_neg ev_int) (evl_cons ev_int evl_nil))))) (.keep (.keep (.keep (.keep (.keep (.keep (.keep (.keep (.skip (.keep (.keep (.skip (.skip (.skip (.skip (.keep (.skip .nil))))))))))))))))) (fun x_b25 x_d27 =>
  (bg_name (b_seq (bp_set (i := 13) (ev_callO rfl (eva_cons (ev_val rfl) (eva_cons (ev_val rfl) (eva_cons (ev_opM opM_add (ev_opP opP_ix (ev_val rfl) (ev_val rfl)) (ev_val rfl)) eva_nil))))) fun x_fresh28 =>
  (b_seq (bp_set (i := 14) (ev_callO rfl (eva_cons (ev_val rfl) (eva_cons (ev_val rfl) (eva_cons (ev_val rfl) (eva_cons (ev_val rfl) (eva_cons (ev_val rfl) eva_nil))))))) fun x_due29 =>
  (b_ifx0 (evt_not (evt_B (ev_callO rfl (eva_cons (ev_callO rfl (eva_cons (ev_val rfl) (eva_cons (ev_val rfl) (eva_cons (ev_val rfl) (eva_cons (ev_val rfl) (eva_cons (ev_tup (evl_cons ev_str (evl_cons (ev_clM cM_tuple (evl_cons (ev_val rfl) evl_nil)) evl_nil))) eva_nil)))))) (eva_cons (ev_val rfl) eva_nil)))))
  (bt_ret' ev_bl)
  (bt_end (.keep (.keep (.keep (.keep (.keep (.keep (.keep (.keep (.skip (.keep (.keep (.skip (.skip (.skip (.skip (.keep (.skip .nil)))))))))))))))))))))))) fun x_b25 =>
  (bt_end (.keep (.keep (.keep (.keep (.keep (.keep (.keep (.keep (.skip (.keep (.keep (.skip (.skip (.skip (.skip (.skip (.skip .nil)))))))))))))))))))))) fun x_b22 =>
  (bd_ret ev_bl))))))))))))

abbrev s_law_gains : Stmt := top 52
abbrev N_law_gains : List Str := ["rooms", "ducts", "stream", "found", "k"]
theorem sc_law_gains : FnScope N_law_gains ["rooms", "ducts", "stream"] (defScope s_law_gains) := ⟨rfl, rfl, rfl, by decide +kernel, rfl, by decide +kernel, by decide +kernel⟩
theorem ok_law_gains {f : Addr} {fd : FuncData} (F : Fun K "_law_gains" "_law_gains" s_law_gains f fd) (TX : Txt K mg C) : FnOk P w K mg base CX0 1 f fd ["rooms", "ducts", "stream"] (spU ⟨K, C⟩ [.f, .f, .f] (pur (f3 m_law_gains))) := by
  have nd := sc_law_gains.nd
  refine fn_ok (T := ⟨K, C⟩) F sc_law_gains rfl (by decide) (fun cdv A outer s H E hr => ?_)
  have hu := hr.units
  refine ⟨_, (pss_cons (ps_set (i := 3) nd rfl (Or.inl rfl) (pe_op op_mulA (pe_lst (pa_cons pe_int pa_nil)) (pv 0)))
  (pss_cons (ps_for PassesOwn.never rfl (pi_range1 rfl TX.b_range (pa_cons (pe_callB cl_len rfl TX.b_len b0_len (pa_cons (pv 1) pa_nil)) pa_nil)) (pg_name (i := 4) nd rfl (Or.inl rfl))
  (pss_cons (ps_asg (pe_op op_sub (pe_ix (ix_A hu) (pv 3) (pe_ix (ix_A hu) (pe_ix (ix_A hu) (pv 1) (pv 4) (fun _ _ => rfl)) pe_int (fun _ _ => rfl)) (fun _ _ => rfl)) (pe_ix (ix_A hu) (pv 2) (pv 4) (fun _ _ => rfl))) (pg_sub (pv 3) (pe_ix (ix_A hu) (pe_ix (ix_A hu) (pv 1) (pv 4) (fun _ _ => rfl)) pe_int (fun _ _ => rfl)) (set_A hu)))
  (pss_cons (ps_asg (pe_op op_addA (pe_ix (ix_A hu) (pv 3) (pe_ix (ix_A hu) (pe_ix (ix_A hu) (pv 1) (pv 4) (fun _ _ => rfl)) pe_int (fun _ _ => rfl)) (fun _ _ => rfl)) (pe_ix (ix_A hu) (pv 2) (pv 4) (fun _ _ => rfl))) (pg_sub (pv 3) (pe_ix (ix_A hu) (pe_ix (ix_A hu) (pv 1) (pv 4) (fun _ _ => rfl)) pe_int (fun _ _ => rfl)) (set_A hu)))
  pss_nil)))
  (pss_one (ps_ret (pv 3))))), fun ds hds => ?_⟩
  match ds, hds with
  | [x_rooms, x_ducts, x_stream], _ =>
    refine bv_pur ?_
    show B _ _ _ (m_law_gains x_rooms x_ducts x_stream) _
    unfold m_law_gains
    exact (bn_of (b_seq (bp_setO (i := 3) (evo_mulL (ev_new (evo_lst (evl_cons ev_int evl_nil))) (ev_val rfl))) fun x_found1 =>
  (b_seq (bp_for (md := .f) (Γl := fun (x_b2 : D) => [.val x_rooms, .val x_ducts, .val x_stream, .own x_b2, .no]) (evi_range1 (evl_cons (ev_clS cS_len (evl_cons (ev_val rfl) evl_nil)) evl_nil)) (.keep (.keep (.keep (.keep (.skip .nil))))) (fun x_b2 x_d4 =>
  (bg_name (b_seq (bp_put (i := 3) rfl rfl (ev_opS opS_sub (ev_opP opP_ix (ev_own rfl) (ev_opP opP_ix (ev_opP opP_ix (ev_val rfl) (ev_val rfl)) ev_int)) (ev_opP opP_ix (ev_val rfl) (ev_val rfl))) (ev_opP opP_ix (ev_opP opP_ix (ev_val rfl) (ev_val rfl)) ev_int)) fun x_found5 =>
  (b_seq (bp_put (i := 3) rfl rfl (ev_opM opM_add (ev_ixO rfl rfl (ev_opP opP_ix (ev_opP opP_ix (ev_val rfl) (ev_val rfl)) ev_int)) (ev_opP opP_ix (ev_val rfl) (ev_val rfl))) (ev_opP opP_ix (ev_opP opP_ix (ev_val rfl) (ev_val rfl)) ev_int)) fun x_found6 =>
  (bp_end (.keep (.keep (.keep (.keep (.skip .nil))))))))))) fun x_b2 =>
  (b_freeze 3 rfl (bd_ret (ev_val rfl))))))

abbrev s_require_needs : Stmt := top 32
abbrev N_require_needs : List Str := ["building", "needs"]
theorem sc_require_needs : FnScope N_require_needs ["building", "needs"] (defScope s_require_needs) := ⟨rfl, rfl, rfl, by decide +kernel, rfl, by decide +kernel, by decide +kernel⟩
theorem ok_require_needs {f : Addr} {fd : FuncData} (F : Fun K "require_needs" "require_needs" s_require_needs f fd) (TX : Txt K mg C) (C_require : Cl P w K mg base 1 "require" ["holds", "name"] (spU ⟨K, C⟩ [.f, .f] (pur (f2 m_require)))) (C_is_table : Cl P w K mg base 3 "is_table" ["value", "size", "least", "most"] (spU ⟨K, C⟩ [.f, .f, .f, .f] (pur (f4 m_is_table)))) : FnOk P w K mg base CX0 4 f fd ["building", "needs"] (spU ⟨K, C⟩ [.f, .f] (pur (f2 m_require_needs))) := by
  have nd := sc_require_needs.nd
  refine fn_ok (T := ⟨K, C⟩) F sc_require_needs rfl (by decide) (fun cdv A outer s H E hr => ?_)
  have hu := hr.units
  refine ⟨_, (pss_cons (ps_expr (pe_cl C_require hr rfl (pa_cons (pe_cl C_is_table hr rfl (pa_cons (pv 1) (pa_cons (pe_fld (pv 0) rfl) (pa_cons (pe_un un_neg (pe_gint rfl TX.g_MOST_UNITS)) (pa_cons (pe_gint rfl TX.g_MOST_UNITS) pa_nil))))) (pa_cons pe_str pa_nil))))
  pss_nil), fun ds hds => ?_⟩
  match ds, hds with
  | [x_building, x_needs], _ =>
    refine bv_pur ?_
    show B _ _ _ (m_require_needs x_building x_needs) _
    unfold m_require_needs
    exact (b_seq (bp_drop (md := .h) (ev_callO rfl (eva_cons (ev_callO rfl (eva_cons (ev_val rfl) (eva_cons (ev_fld TX.cl_Building TX.na_Building_rooms (ev_val rfl)) (eva_cons (ev_neg ev_int) (eva_cons ev_int eva_nil))))) (eva_cons ev_str eva_nil)))) fun _ =>
  bn_end)

abbrev s_range_of_gain : Stmt := top 34
abbrev N_range_of_gain : List Str := ["building", "bounds", "rooms", "least", "most", "first", "second", "width", "low", "high"]
theorem sc_range_of_gain : FnScope N_range_of_gain ["building", "bounds", "rooms"] (defScope s_range_of_gain) := ⟨rfl, rfl, rfl, by decide +kernel, rfl, by decide +kernel, by decide +kernel⟩
theorem ok_range_of_gain {f : Addr} {fd : FuncData} (F : Fun K "range_of_gain" "range_of_gain" s_range_of_gain f fd) (TX : Txt K mg C) : FnOk P w K mg base CX0 1 f fd ["building", "bounds", "rooms"] (spU ⟨K, C⟩ [.f, .f, .f] (pur (f3 m_range_of_gain))) := by
  have nd := sc_range_of_gain.nd
  refine fn_ok (T := ⟨K, C⟩) F sc_range_of_gain rfl (by decide) (fun cdv A outer s H E hr => ?_)
  have hu := hr.units
  refine ⟨_, (pss_cons (ps_set (i := 3) nd rfl (Or.inl rfl) pe_int)
  (pss_cons (ps_set (i := 4) nd rfl (Or.inl rfl) pe_int)
  (pss_cons (ps_for PassesOwn.never rfl (pi_zipK rfl TX.b_zip (pa_cons (pe_fld (pv 0) rfl) (pa_cons (pv 1) pa_nil))) (pg_tup rfl (pgs_cons (pg_tup rfl (pgs_cons (pg_name (i := 5) nd rfl (Or.inl rfl)) (pgs_cons (pg_name (i := 6) nd rfl (Or.inl rfl)) (pgs_cons (pg_name (i := 7) nd rfl (Or.inl rfl)) pgs_nil)))) (pgs_cons (pg_tup rfl (pgs_cons (pg_name (i := 8) nd rfl (Or.inl rfl)) (pgs_cons (pg_name (i := 9) nd rfl (Or.inl rfl)) pgs_nil))) pgs_nil)))
  (pss_cons (ps_if (PW.pt (pw_and (pt_cmpR (op_inA hu) (pv 6) (pv 2) (by rfl)) (pw_and1 (pt_cmpR (op_notInA hu) (pv 5) (pv 2) (by rfl)))))
  (pss_cons (ps_aug (i := 3) nd rfl (Or.inl rfl) (pv 8) ip_add)
  (pss_cons (ps_aug (i := 4) nd rfl (Or.inl rfl) (pv 9) ip_add)
  pss_nil))
  (pss_cons (ps_if (PW.pt (pw_and (pt_cmpR (op_inA hu) (pv 5) (pv 2) (by rfl)) (pw_and1 (pt_cmpR (op_notInA hu) (pv 6) (pv 2) (by rfl)))))
  (pss_cons (ps_aug (i := 3) nd rfl (Or.inl rfl) (pv 9) ip_sub)
  (pss_cons (ps_aug (i := 4) nd rfl (Or.inl rfl) (pv 8) ip_sub)
  pss_nil))
  pss_nil)
  pss_nil))
  pss_nil))
  (pss_one (ps_ret (pe_tup (pa_cons (pv 3) (pa_cons (pv 4) pa_nil)))))))), fun ds hds => ?_⟩
  match ds, hds with
  | [x_building, x_bounds, x_rooms], _ =>
    refine bv_pur ?_
    show B _ _ _ (m_range_of_gain x_building x_bounds x_rooms) _
    unfold m_range_of_gain
    exact (bn_of (b_seq (bp_set (i := 3) ev_int) fun x_least1 =>
  (b_seq (bp_set (i := 4) ev_int) fun x_most2 =>
  (b_seq (bp_for2 (ma := .f) (mb := .f) (Γl := fun (x_b3 : D × D) => [.val x_building, .val x_bounds, .val x_rooms, .val x_b3.1, .val x_b3.2, .no, .no, .no, .no, .no]) (evi_zip (ev_fld TX.cl_Building TX.na_Building_ducts (ev_val rfl)) (ev_val rfl)) (.keep (.keep (.keep (.keep (.keep (.skip (.skip (.skip (.skip (.skip .nil)))))))))) (fun x_b3 x_d11 x_e12 =>
  (bg2_32 fun x_first13 x_second14 x_width15 x_low16 x_high17 => (b_seq (Γ1 := fun (x_j18 : D × D) => [.val x_building, .val x_bounds, .val x_rooms, .val x_j18.1, .val x_j18.2, .val x_first13, .val x_second14, .val x_width15, .val x_low16, .val x_high17]) (b_if (evt_and (evt_test (ev_opS opS_in (ev_val rfl) (ev_val rfl))) (evt_test (ev_opS opS_notIn (ev_val rfl) (ev_val rfl))))
  (b_seq (bp_augAdd (i := 3) (ev_val rfl) (ev_val rfl)) fun x_least19 =>
  (b_seq (bp_augAdd (i := 4) (ev_val rfl) (ev_val rfl)) fun x_most20 =>
  (bp_end (.keep (.keep (.keep (.keep (.keep (.keep (.keep (.keep (.keep (.keep .nil)))))))))))))
  (b_seq (Γ1 := fun (x_j21 : D × D) => [.val x_building, .val x_bounds, .val x_rooms, .val x_j21.1, .val x_j21.2, .val x_first13, .val x_second14, .val x_width15, .val x_low16, .val x_high17]) (b_if (evt_and (evt_test (ev_opS opS_in (ev_val rfl) (ev_val rfl))) (evt_test (ev_opS opS_notIn (ev_val rfl) (ev_val rfl))))
  (b_seq (bp_augSub (i := 3) (ev_val rfl) (ev_val rfl)) fun x_least22 =>
  (b_seq (bp_augSub (i := 4) (ev_val rfl) (ev_val rfl)) fun x_most23 =>
  (bp_end (.keep (.keep (.keep (.keep (.keep (.keep (.keep (.keep (.keep (.keep .nil)))))))))))))
  (bp_end (.keep (.keep (.keep (.keep (.keep (.keep (.keep (.keep (.keep (.keep .nil)))))))))))) fun x_j21 =>
  (bp_end (.keep (.keep (.keep (.keep (.keep (.keep (.keep (.keep (.keep (.keep .nil))))))))))))) fun x_j18 =>
  (bp_end (.keep (.keep (.keep (.keep (.keep (.skip (.skip (.skip (.skip (.skip .nil))))))))))))))) fun x_b3 =>
  (bd_ret (ev_tup (evl_cons (ev_val rfl) (evl_cons (ev_val rfl) evl_nil))))))))

abbrev s_are_places : Stmt := top 18
abbrev N_are_places : List Str := ["value", "count", "seen", "entry"]
theorem sc_are_places : FnScope N_are_places ["value", "count"] (defScope s_are_places) := ⟨rfl, rfl, rfl, by decide +kernel, rfl, by decide +kernel, by decide +kernel⟩
theorem ok_are_places {f : Addr} {fd : FuncData} (F : Fun K "are_places" "are_places" s_are_places f fd) (TX : Txt K mg C) (C_is_between : Cl P w K mg base 2 "is_between" ["value", "least", "most"] (spU ⟨K, C⟩ [.f, .f, .f] (pur (f3 m_is_between)))) : FnOk P w K mg base CX0 3 f fd ["value", "count"] (spU ⟨K, C⟩ [.f, .f] (pur (f2 m_are_places))) := by
  have nd := sc_are_places.nd
  refine fn_ok (T := ⟨K, C⟩) F sc_are_places rfl (by decide) (fun cdv A outer s H E hr => ?_)
  have hu := hr.units
  refine ⟨_, (pss_cons (ps_if (pt_not (pt_val (pe_callB call_isiT rfl TX.b_isinstance b0_isinstance (pa_cons (pv 0) (pa_cons (pe_tup (pa_cons (pe_bltn (v := .ty "list") rfl TX.b_list b0_list rfl) (pa_cons (pe_bltn (v := .ty "tuple") rfl TX.b_tuple b0_tuple rfl) pa_nil))) pa_nil)))))
  (pss_one (ps_ret pe_bl))
  pss_nil)
  (pss_cons (ps_set (i := 2) nd rfl (Or.inl rfl) pe_dnewK)
  (pss_cons (ps_for PassesOwn.never rfl (pi_seqK (pv 0)) (pg_name (i := 3) nd rfl (Or.inl rfl))
  (pss_cons (ps_if (PW.pt (pw_or (pt_not (pt_val (pe_cl C_is_between hr rfl (pa_cons (pv 3) (pa_cons pe_int (pa_cons (pe_op op_sub (pv 1) pe_int) pa_nil)))))) (pw_or1 (pt_cmpR (op_inA hu) (pv 3) (pv 2) (by rfl)))))
  (pss_one (ps_ret pe_bl))
  pss_nil)
  (pss_cons (ps_asg pe_bl (pg_sub (pv 2) (pv 3) (set_A hu)))
  pss_nil)))
  (pss_one (ps_ret pe_bl))))), fun ds hds => ?_⟩
  match ds, hds with
  | [x_value, x_count], _ =>
    refine bv_pur ?_
    show B _ _ _ (m_are_places x_value x_count) _
    unfold m_are_places
    exact (bn_of (bd_ifx0 (evt_not (evt_B (ev_isi2 (ev_val rfl))))
  (bd_ret ev_bl)
  (b_seq (bp_setO (i := 2) evo_dict) fun x_seen1 =>
  (bd_seqx (bt_for (md := .f) (Γl := fun (x_b2 : D) => [.val x_value, .val x_count, .own x_b2, .no]) (evi_seq (ev_val rfl)) (.keep (.keep (.keep (.skip .nil)))) (fun x_b2 x_d4 =>
  (bg_name (b_ifx0 (evt_or (evt_not (evt_B (ev_callO rfl (eva_cons (ev_val rfl) (eva_cons ev_int (eva_cons (ev_opS opS_sub (ev_val rfl) ev_int) eva_nil)))))) (evt_test (ev_opS opS_in (ev_val rfl) (ev_own rfl))))
  (bt_ret' ev_bl)
  (b_seq (bp_put (i := 2) rfl rfl ev_bl (ev_val rfl)) fun x_seen5 =>
  (bt_end (.keep (.keep (.keep (.skip .nil)))))))))) fun x_b2 =>
  (bd_ret ev_bl)))))

abbrev s_is_place_set : Stmt := top 19
abbrev N_is_place_set : List Str := ["value", "count"]
theorem sc_is_place_set : FnScope N_is_place_set ["value", "count"] (defScope s_is_place_set) := ⟨rfl, rfl, rfl, by decide +kernel, rfl, by decide +kernel, by decide +kernel⟩
theorem ok_is_place_set {f : Addr} {fd : FuncData} (F : Fun K "is_place_set" "is_place_set" s_is_place_set f fd) (TX : Txt K mg C) (C_are_places : Cl P w K mg base 3 "are_places" ["value", "count"] (spU ⟨K, C⟩ [.f, .f] (pur (f2 m_are_places)))) : FnOk P w K mg base CX0 4 f fd ["value", "count"] (spU ⟨K, C⟩ [.f, .f] (pur (f2 m_is_place_set))) := by
  have nd := sc_is_place_set.nd
  refine fn_ok (T := ⟨K, C⟩) F sc_is_place_set rfl (by decide) (fun cdv A outer s H E hr => ?_)
  have hu := hr.units
  refine ⟨_, (pss_one (ps_ret (pe_and (pe_callB call_isi rfl TX.b_isinstance b0_isinstance (pa_cons (pv 0) (pa_cons (pe_bltn (v := .ty "tuple") rfl TX.b_tuple b0_tuple rfl) pa_nil))) (pe_and (pe_cl C_are_places hr rfl (pa_cons (pv 0) (pa_cons (pv 1) pa_nil))) (pe_one (pe_cmpR (op_eqD hu) (pe_callTy call_list_of rfl TX.b_list b0_list (pa_cons (pv 0) pa_nil)) (pe_callB (cl_sorted rfl) rfl TX.b_sorted b0_sorted (pa_cons (pv 0) pa_nil)) (nomark _))))))), fun ds hds => ?_⟩
  match ds, hds with
  | [x_value, x_count], _ =>
    refine bv_pur ?_
    show B _ _ _ (m_is_place_set x_value x_count) _
    unfold m_is_place_set
    exact (bn_of (bd_ret (ev_andV (ev_isi (ev_val rfl)) (ev_andV (ev_callO rfl (eva_cons (ev_val rfl) (eva_cons (ev_val rfl) eva_nil))) (ev_opS opS_eq (ev_new (evo_list (ev_val rfl))) (ev_new (evo_clN cN_sorted (evl_cons (ev_val rfl) evl_nil))))))))

abbrev s_is_room_set : Stmt := top 20
abbrev N_is_room_set : List Str := ["value", "rooms"]
theorem sc_is_room_set : FnScope N_is_room_set ["value", "rooms"] (defScope s_is_room_set) := ⟨rfl, rfl, rfl, by decide +kernel, rfl, by decide +kernel, by decide +kernel⟩
theorem ok_is_room_set {f : Addr} {fd : FuncData} (F : Fun K "is_room_set" "is_room_set" s_is_room_set f fd) (TX : Txt K mg C) (C_is_place_set : Cl P w K mg base 4 "is_place_set" ["value", "count"] (spU ⟨K, C⟩ [.f, .f] (pur (f2 m_is_place_set)))) : FnOk P w K mg base CX0 5 f fd ["value", "rooms"] (spU ⟨K, C⟩ [.f, .f] (pur (f2 m_is_room_set))) := by
  have nd := sc_is_room_set.nd
  refine fn_ok (T := ⟨K, C⟩) F sc_is_room_set rfl (by decide) (fun cdv A outer s H E hr => ?_)
  have hu := hr.units
  refine ⟨_, (pss_one (ps_ret (pe_and (pe_cl C_is_place_set hr rfl (pa_cons (pv 0) (pa_cons (pv 1) pa_nil))) (pe_one (pe_cmpR op_gt (pe_callB cl_len rfl TX.b_len b0_len (pa_cons (pv 0) pa_nil)) pe_int (nomark _)))))), fun ds hds => ?_⟩
  match ds, hds with
  | [x_value, x_rooms], _ =>
    refine bv_pur ?_
    show B _ _ _ (m_is_room_set x_value x_rooms) _
    unfold m_is_room_set
    exact (bn_of (bd_ret (ev_andV (ev_callO rfl (eva_cons (ev_val rfl) (eva_cons (ev_val rfl) eva_nil))) (ev_opS opS_gt (ev_clS cS_len (evl_cons (ev_val rfl) evl_nil)) ev_int))))

abbrev s_is_refused_set : Stmt := top 35
abbrev N_is_refused_set : List Str := ["building", "bounds", "needs", "paper", "least", "most", "needed", "room"]
theorem sc_is_refused_set : FnScope N_is_refused_set ["building", "bounds", "needs", "paper"] (defScope s_is_refused_set) := ⟨rfl, rfl, rfl, by decide +kernel, rfl, by decide +kernel, by decide +kernel⟩
theorem ok_is_refused_set {f : Addr} {fd : FuncData} (F : Fun K "is_refused_set" "is_refused_set" s_is_refused_set f fd) (TX : Txt K mg C) (C_is_paper : Cl P w K mg base 1 "is_paper" ["value", "kind", "size"] (spU ⟨K, C⟩ [.f, .f, .f] (pur (f3 m_is_paper)))) (C_range_of_gain : Cl P w K mg base 1 "range_of_gain" ["building", "bounds", "rooms"] (spU ⟨K, C⟩ [.f, .f, .f] (pur (f3 m_range_of_gain)))) (C_is_room_set : Cl P w K mg base 5 "is_room_set" ["value", "rooms"] (spU ⟨K, C⟩ [.f, .f] (pur (f2 m_is_room_set)))) : FnOk P w K mg base CX0 6 f fd ["building", "bounds", "needs", "paper"] (spU ⟨K, C⟩ [.f, .f, .f, .f] (pur (f4 m_is_refused_set))) := by
  have nd := sc_is_refused_set.nd
  refine fn_ok (T := ⟨K, C⟩) F sc_is_refused_set rfl (by decide) (fun cdv A outer s H E hr => ?_)
  have hu := hr.units
  refine ⟨_, (pss_cons (ps_if (PW.pt (pw_and (pt_not (pt_val (pe_cl C_is_paper hr rfl (pa_cons (pv 3) (pa_cons pe_str (pa_cons pe_int pa_nil)))))) (pw_and1 (pt_not (pt_val (pe_cl C_is_paper hr rfl (pa_cons (pv 3) (pa_cons pe_str (pa_cons pe_int pa_nil)))))))))
  (pss_one (ps_ret pe_bl))
  pss_nil)
  (pss_cons (ps_if (pt_not (pt_val (pe_cl C_is_room_set hr rfl (pa_cons (pe_ix (ix_A hu) (pv 3) pe_int (fun _ _ => rfl)) (pa_cons (pe_fld (pv 0) rfl) pa_nil)))))
  (pss_one (ps_ret pe_bl))
  pss_nil)
  (pss_cons (ps_asg (pe_cl C_range_of_gain hr rfl (pa_cons (pv 0) (pa_cons (pv 1) (pa_cons (pe_ix (ix_A hu) (pv 3) pe_int (fun _ _ => rfl)) pa_nil)))) (pg_tup rfl (pgs_cons (pg_name (i := 4) nd rfl (Or.inl rfl)) (pgs_cons (pg_name (i := 5) nd rfl (Or.inl rfl)) pgs_nil))))
  (pss_cons (ps_set (i := 6) nd rfl (Or.inl rfl) (pe_callB (cl_sum rfl) rfl TX.b_sum b0_sum (pa_cons (pe_lc (own := [("room", 7)]) (g := (gName 7)) (tt := tYes) (te := (tOp (rIxA K) (tVar 2) (tVar 7))) rfl nd (pi_seqK (pe_ix (ix_A hu) (pv 3) pe_int (fun _ _ => rfl))) (blkOk_by (own := [("room", 7)]) (N := N_is_refused_set) (sc := defScope s_is_refused_set) (by decide +kernel)) (fun _ _ _ _ _ => (pg_name (i := 7) nd rfl (Or.inl rfl))) (fun _ _ _ _ _ => pts_nil) (fun _ _ _ _ _ => (pe_ix (ix_A hu) (pv 2) (pv 7) (fun _ _ => rfl)))) pa_nil)))
  (pss_cons (ps_if (pt_cmpR (op_eqD hu) (pe_ix (ix_A hu) (pv 3) pe_int (fun _ _ => rfl)) pe_str (nomark _))
  (pss_one (ps_ret (pe_cmpR op_gt (pv 6) (pv 5) (nomark _))))
  pss_nil)
  (pss_one (ps_ret (pe_cmpR op_lt (pv 6) (pv 4) (nomark _))))))))), fun ds hds => ?_⟩
  match ds, hds with
  | [x_building, x_bounds, x_needs, x_paper], _ =>
    refine bv_pur ?_
    show B _ _ _ (m_is_refused_set x_building x_bounds x_needs x_paper) _
    unfold m_is_refused_set
    exact (bn_of (bd_ifx0 (evt_and (evt_not (evt_B (ev_callO rfl (eva_cons (ev_val rfl) (eva_cons ev_str (eva_cons ev_int eva_nil)))))) (evt_not (evt_B (ev_callO rfl (eva_cons (ev_val rfl) (eva_cons ev_str (eva_cons ev_int eva_nil)))))))
  (bd_ret ev_bl)
  (bd_ifx0 (evt_not (evt_B (ev_callO rfl (eva_cons (ev_opP opP_ix (ev_val rfl) ev_int) (eva_cons (ev_fld TX.cl_Building TX.na_Building_rooms (ev_val rfl)) eva_nil)))))
  (bd_ret ev_bl)
  (b_unp (md := .f) (ev_callO rfl (eva_cons (ev_val rfl) (eva_cons (ev_val rfl) (eva_cons (ev_opP opP_ix (ev_val rfl) ev_int) eva_nil)))) fun x_t1 =>
  (bg_tup2 fun x_least2 x_most3 => (b_seq (bp_set (i := 6) (ev_clS cS_sum (evl_cons (ev_new (evo_comp (md := .f) rfl (tin_name (by decide)) (evi_seq (ev_opP opP_ix (ev_val rfl) ev_int)) (fun x_d5 => (bg_name (ce_all (ev_opP opP_ix (ev_val rfl) (ev_val rfl))))))) evl_nil))) fun x_needed4 =>
  (bd_ifx0 (evt_test (ev_opS opS_eq (ev_opP opP_ix (ev_val rfl) ev_int) ev_str))
  (bd_ret (ev_opS opS_gt (ev_val rfl) (ev_val rfl)))
  (bd_ret (ev_opS opS_lt (ev_val rfl) (ev_val rfl))))))))))

abbrev s_gain_list : Stmt := top 30
abbrev N_gain_list : List Str := ["building", "stream", "found", "first", "second", "width", "number"]
theorem sc_gain_list : FnScope N_gain_list ["building", "stream"] (defScope s_gain_list) := ⟨rfl, rfl, rfl, by decide +kernel, rfl, by decide +kernel, by decide +kernel⟩
theorem ok_gain_list {f : Addr} {fd : FuncData} (F : Fun K "gain_list" "gain_list" s_gain_list f fd) (TX : Txt K mg C) : FnOk P w K mg base CX0 1 f fd ["building", "stream"] (spU ⟨K, C⟩ [.f, .f] (pur (f2 m_gain_list))) := by
  have nd := sc_gain_list.nd
  refine fn_ok (T := ⟨K, C⟩) F sc_gain_list rfl (by decide) (fun cdv A outer s H E hr => ?_)
  have hu := hr.units
  refine ⟨_, (pss_cons (ps_set (i := 2) nd rfl (Or.inl rfl) (pe_op op_mulA (pe_lst (pa_cons pe_int pa_nil)) (pe_fld (pv 0) rfl)))
  (pss_cons (ps_for PassesOwn.never rfl (pi_zipK rfl TX.b_zip (pa_cons (pe_fld (pv 0) rfl) (pa_cons (pv 1) pa_nil))) (pg_tup rfl (pgs_cons (pg_tup rfl (pgs_cons (pg_name (i := 3) nd rfl (Or.inl rfl)) (pgs_cons (pg_name (i := 4) nd rfl (Or.inl rfl)) (pgs_cons (pg_name (i := 5) nd rfl (Or.inl rfl)) pgs_nil)))) (pgs_cons (pg_name (i := 6) nd rfl (Or.inl rfl)) pgs_nil)))
  (pss_cons (ps_augS (pv 2) (pv 3) (get_A hu) (pv 6) ip_sub (set_A hu))
  (pss_cons (ps_augS (pv 2) (pv 4) (get_A hu) (pv 6) ip_add (set_A hu))
  pss_nil)))
  (pss_one (ps_ret (pv 2))))), fun ds hds => ?_⟩
  match ds, hds with
  | [x_building, x_stream], _ =>
    refine bv_pur ?_
    show B _ _ _ (m_gain_list x_building x_stream) _
    unfold m_gain_list
    exact (bn_of (b_seq (bp_setO (i := 2) (evo_mulL (ev_new (evo_lst (evl_cons ev_int evl_nil))) (ev_fld TX.cl_Building TX.na_Building_rooms (ev_val rfl)))) fun x_found1 =>
  (b_seq (bp_for2 (ma := .f) (mb := .f) (Γl := fun (x_b2 : D) => [.val x_building, .val x_stream, .own x_b2, .no, .no, .no, .no]) (evi_zip (ev_fld TX.cl_Building TX.na_Building_ducts (ev_val rfl)) (ev_val rfl)) (.keep (.keep (.keep (.skip (.skip (.skip (.skip .nil))))))) (fun x_b2 x_d8 x_e9 =>
  (bg2_3n fun x_first10 x_second11 x_width12 => (b_seq (bp_augIt (i := 2) (f := fun i j => i - j) (h := dSub) hh_sub rfl rfl (ev_val rfl) (ev_val rfl)) fun x_found13 =>
  (b_seq (bp_augIt (i := 2) (f := fun i j => i + j) (h := dAddI) hh_add rfl rfl (ev_val rfl) (ev_val rfl)) fun x_found14 =>
  (bp_end (.keep (.keep (.keep (.skip (.skip (.skip (.skip .nil))))))))))))) fun x_b2 =>
  (b_freeze 2 rfl (bd_ret (ev_val rfl))))))

abbrev s_serves : Stmt := top 33
abbrev N_serves : List Str := ["building", "bounds", "needs", "value"]
theorem sc_serves : FnScope N_serves ["building", "bounds", "needs", "value"] (defScope s_serves) := ⟨rfl, rfl, rfl, by decide +kernel, rfl, by decide +kernel, by decide +kernel⟩
theorem ok_serves {f : Addr} {fd : FuncData} (F : Fun K "serves" "serves" s_serves f fd) (TX : Txt K mg C) (C_fits_bounds : Cl P w K mg base 2 "fits_bounds" ["bounds", "value"] (spU ⟨K, C⟩ [.f, .f] (pur (f2 m_fits_bounds)))) (C_gain_list : Cl P w K mg base 1 "gain_list" ["building", "stream"] (spU ⟨K, C⟩ [.f, .f] (pur (f2 m_gain_list)))) : FnOk P w K mg base CX0 3 f fd ["building", "bounds", "needs", "value"] (spU ⟨K, C⟩ [.f, .f, .f, .f] (pur (f4 m_serves))) := by
  have nd := sc_serves.nd
  refine fn_ok (T := ⟨K, C⟩) F sc_serves rfl (by decide) (fun cdv A outer s H E hr => ?_)
  have hu := hr.units
  refine ⟨_, (pss_cons (ps_if (PW.pt (pw_or (pt_not (pt_val (pe_callB call_isi rfl TX.b_isinstance b0_isinstance (pa_cons (pv 3) (pa_cons (pe_bltn (v := .ty "tuple") rfl TX.b_tuple b0_tuple rfl) pa_nil))))) (pw_or1 (pt_not (pt_val (pe_cl C_fits_bounds hr rfl (pa_cons (pv 1) (pa_cons (pv 3) pa_nil))))))))
  (pss_one (ps_ret pe_bl))
  pss_nil)
  (pss_one (ps_ret (pe_cmpR (op_eqD hu) (pe_cl C_gain_list hr rfl (pa_cons (pv 0) (pa_cons (pv 3) pa_nil))) (pe_callTy call_list_of rfl TX.b_list b0_list (pa_cons (pv 2) pa_nil)) (nomark _))))), fun ds hds => ?_⟩
  match ds, hds with
  | [x_building, x_bounds, x_needs, x_value], _ =>
    refine bv_pur ?_
    show B _ _ _ (m_serves x_building x_bounds x_needs x_value) _
    unfold m_serves
    exact (bn_of (bd_ifx0 (evt_or (evt_not (evt_B (ev_isi (ev_val rfl)))) (evt_not (evt_B (ev_callO rfl (eva_cons (ev_val rfl) (eva_cons (ev_val rfl) eva_nil))))))
  (bd_ret ev_bl)
  (bd_ret (ev_opS opS_eq (ev_callO rfl (eva_cons (ev_val rfl) (eva_cons (ev_val rfl) eva_nil))) (ev_new (evo_list (ev_val rfl)))))))

abbrev s_shows_cheapest : Stmt := top 44
abbrev N_shows_cheapest : List Str := ["building", "bounds", "needs", "costs", "paper"]
theorem sc_shows_cheapest : FnScope N_shows_cheapest ["building", "bounds", "needs", "costs", "paper"] (defScope s_shows_cheapest) := ⟨rfl, rfl, rfl, by decide +kernel, rfl, by decide +kernel, by decide +kernel⟩
theorem ok_shows_cheapest {f : Addr} {fd : FuncData} (F : Fun K "shows_cheapest" "shows_cheapest" s_shows_cheapest f fd) (TX : Txt K mg C) (C_require_building : Cl P w K mg base 2 "require_building" ["building"] (spU ⟨K, C⟩ [.f] (pur (f1 m_require_building)))) (C_require_bounds : Cl P w K mg base 5 "require_bounds" ["building", "bounds"] (spU ⟨K, C⟩ [.f, .f] (pur (f2 m_require_bounds)))) (C_require_costs : Cl P w K mg base 4 "require_costs" ["building", "costs"] (spU ⟨K, C⟩ [.f, .f] (pur (f2 m_require_costs)))) (C_is_paper : Cl P w K mg base 1 "is_paper" ["value", "kind", "size"] (spU ⟨K, C⟩ [.f, .f, .f] (pur (f3 m_is_paper)))) (C_hold : Cl P w K mg base 4 "hold" ["building", "bounds", "costs", "stream", "value"] (spU ⟨K, C⟩ [.f, .f, .f, .f, .f] (pur (f5 m_hold)))) (C_require_needs : Cl P w K mg base 4 "require_needs" ["building", "needs"] (spU ⟨K, C⟩ [.f, .f] (pur (f2 m_require_needs)))) (C_is_refused_set : Cl P w K mg base 6 "is_refused_set" ["building", "bounds", "needs", "paper"] (spU ⟨K, C⟩ [.f, .f, .f, .f] (pur (f4 m_is_refused_set)))) (C_serves : Cl P w K mg base 3 "serves" ["building", "bounds", "needs", "value"] (spU ⟨K, C⟩ [.f, .f, .f, .f] (pur (f4 m_serves)))) : FnOk P w K mg base CX0 7 f fd ["building", "bounds", "needs", "costs", "paper"] (spU ⟨K, C⟩ [.f, .f, .f, .f, .f] (pur (f5 m_shows_cheapest))) := by
  have nd := sc_shows_cheapest.nd
  refine fn_ok (T := ⟨K, C⟩) F sc_shows_cheapest rfl (by decide) (fun cdv A outer s H E hr => ?_)
  have hu := hr.units
  refine ⟨_, (pss_cons (ps_expr (pe_cl C_require_building hr rfl (pa_cons (pv 0) pa_nil)))
  (pss_cons (ps_expr (pe_cl C_require_bounds hr rfl (pa_cons (pv 0) (pa_cons (pv 1) pa_nil))))
  (pss_cons (ps_expr (pe_cl C_require_needs hr rfl (pa_cons (pv 0) (pa_cons (pv 2) pa_nil))))
  (pss_cons (ps_expr (pe_cl C_require_costs hr rfl (pa_cons (pv 0) (pa_cons (pv 3) pa_nil))))
  (pss_cons (ps_if (pt_val (pe_cl C_is_paper hr rfl (pa_cons (pv 4) (pa_cons pe_str (pa_cons pe_int pa_nil)))))
  (pss_cons (ps_if (pt_not (pt_val (pe_cl C_serves hr rfl (pa_cons (pv 0) (pa_cons (pv 1) (pa_cons (pv 2) (pa_cons (pe_ix (ix_A hu) (pv 4) pe_int (fun _ _ => rfl)) pa_nil)))))))
  (pss_one (ps_ret pe_bl))
  pss_nil)
  (pss_one (ps_ret (pe_cl C_hold hr rfl (pa_cons (pv 0) (pa_cons (pv 1) (pa_cons (pv 3) (pa_cons (pe_ix (ix_A hu) (pv 4) pe_int (fun _ _ => rfl)) (pa_cons (pe_ix (ix_A hu) (pv 4) pe_int (fun _ _ => rfl)) pa_nil)))))))))
  pss_nil)
  (pss_one (ps_ret (pe_cl C_is_refused_set hr rfl (pa_cons (pv 0) (pa_cons (pv 1) (pa_cons (pv 2) (pa_cons (pv 4) pa_nil)))))))))))), fun ds hds => ?_⟩
  match ds, hds with
  | [x_building, x_bounds, x_needs, x_costs, x_paper], _ =>
    refine bv_pur ?_
    show B _ _ _ (m_shows_cheapest x_building x_bounds x_needs x_costs x_paper) _
    unfold m_shows_cheapest
    exact (bn_of (b_seq (bp_drop (md := .h) (ev_callO rfl (eva_cons (ev_val rfl) eva_nil))) fun _ =>
  (b_seq (bp_drop (md := .h) (ev_callO rfl (eva_cons (ev_val rfl) (eva_cons (ev_val rfl) eva_nil)))) fun _ =>
  (b_seq (bp_drop (md := .h) (ev_callO rfl (eva_cons (ev_val rfl) (eva_cons (ev_val rfl) eva_nil)))) fun _ =>
  (b_seq (bp_drop (md := .h) (ev_callO rfl (eva_cons (ev_val rfl) (eva_cons (ev_val rfl) eva_nil)))) fun _ =>
  (bd_ifx0 (evt_B (ev_callO rfl (eva_cons (ev_val rfl) (eva_cons ev_str (eva_cons ev_int eva_nil)))))
  (bd_ifx0 (evt_not (evt_B (ev_callO rfl (eva_cons (ev_val rfl) (eva_cons (ev_val rfl) (eva_cons (ev_val rfl) (eva_cons (ev_opP opP_ix (ev_val rfl) ev_int) eva_nil)))))))
  (bd_ret ev_bl)
  (bd_ret (ev_callO rfl (eva_cons (ev_val rfl) (eva_cons (ev_val rfl) (eva_cons (ev_val rfl) (eva_cons (ev_opP opP_ix (ev_val rfl) ev_int) (eva_cons (ev_opP opP_ix (ev_val rfl) ev_int) eva_nil))))))))
  (bd_ret (ev_callO rfl (eva_cons (ev_val rfl) (eva_cons (ev_val rfl) (eva_cons (ev_val rfl) (eva_cons (ev_val rfl) eva_nil))))))))))))

abbrev s_law_cheap : Stmt := top 59
abbrev N_law_cheap : List Str := ["building", "ducts", "bounds", "costs", "stream", "pressures", "draws", "rooms", "needs", "right", "wrong", "paper", "other", "fresh", "due", "place", "beyond"]
theorem sc_law_cheap : FnScope N_law_cheap ["building", "ducts", "bounds", "costs", "stream", "pressures", "draws"] (defScope s_law_cheap) := ⟨rfl, rfl, rfl, by decide +kernel, rfl, by decide +kernel, by decide +kernel⟩
theorem ok_law_cheap {f : Addr} {fd : FuncData} (F : Fun K "_law_cheap" "_law_cheap" s_law_cheap f fd) (TX : Txt K mg C) (C_law_with : Cl P w K mg base 1 "_law_with" ["values", "place", "value"] (spU ⟨K, C⟩ [.f, .f, .f] (pur (f3 m_law_with)))) (C_law_says : Cl P w K mg base 1 "_law_says" ["told", "due"] (spU ⟨K, C⟩ [.f, .f] (pur (f2 m_law_says)))) (C_law_holds : Cl P w K mg base 1 "_law_holds" ["ducts", "bounds", "costs", "stream", "pressures"] (spU ⟨K, C⟩ [.f, .f, .f, .f, .f] (pur (f5 m_law_holds)))) (C_law_gains : Cl P w K mg base 1 "_law_gains" ["rooms", "ducts", "stream"] (spU ⟨K, C⟩ [.f, .f, .f] (pur (f3 m_law_gains)))) (C_shows_cheapest : Cl P w K mg base 7 "shows_cheapest" ["building", "bounds", "needs", "costs", "paper"] (spU ⟨K, C⟩ [.f, .f, .f, .f, .f] (pur (f5 m_shows_cheapest)))) : FnOk P w K mg base CX0 8 f fd ["building", "ducts", "bounds", "costs", "stream", "pressures", "draws"] (spU ⟨K, C⟩ [.f, .f, .f, .f, .f, .f, .f] (pur (f7 m_law_cheap))) := by
  have nd := sc_law_cheap.nd
  refine fn_ok (T := ⟨K, C⟩) F sc_law_cheap rfl (by decide) (fun cdv A outer s H E hr => ?_)
  have hu := hr.units
  refine ⟨_, (pss_cons (ps_set (i := 7) nd rfl (Or.inl rfl) (pe_callB cl_len rfl TX.b_len b0_len (pa_cons (pv 5) pa_nil)))
  (pss_cons (ps_set (i := 8) nd rfl (Or.inl rfl) (pe_cl C_law_gains hr rfl (pa_cons (pv 7) (pa_cons (pv 1) (pa_cons (pv 4) pa_nil)))))
  (pss_cons (ps_set (i := 9) nd rfl (Or.inl rfl) (pe_tup (pa_cons pe_str (pa_cons (pe_callTy call_tuple_of rfl TX.b_tuple b0_tuple (pa_cons (pv 4) pa_nil)) (pa_cons (pe_callTy call_tuple_of rfl TX.b_tuple b0_tuple (pa_cons (pv 5) pa_nil)) pa_nil)))))
  (pss_cons (ps_if (pt_cmpR op_isNotA (pe_cl C_shows_cheapest hr rfl (pa_cons (pv 0) (pa_cons (pv 2) (pa_cons (pv 8) (pa_cons (pv 3) (pa_cons (pv 9) pa_nil)))))) pe_bl (nomark _))
  (pss_one (ps_ret pe_bl))
  pss_nil)
  (pss_cons (ps_set (i := 10) nd rfl (Or.inl rfl) (pe_lst (pa_cons pe_non (pa_cons (pe_tup pa_nil) (pa_cons (pe_callTy call_list_of rfl TX.b_list b0_list (pa_cons (pv 9) pa_nil)) (pa_cons (pe_op op_addA (pv 9) (pe_tup (pa_cons pe_int pa_nil))) (pa_cons (pe_slice sl_all (pv 9) po_none (po_some pe_int)) (pa_cons (pe_tup (pa_cons pe_str (pa_cons (pe_ix (ix_A hu) (pv 9) pe_int (fun _ _ => rfl)) pa_nil))) (pa_cons (pe_tup (pa_cons pe_str (pa_cons (pe_ix (ix_A hu) (pv 9) pe_int (fun _ _ => rfl)) pa_nil))) pa_nil)))))))))
  (pss_cons (ps_set (i := 10) nd rfl (Or.inl rfl) (pe_op op_addA (pv 10) (pe_lst (pa_cons (pe_tup (pa_cons pe_str (pa_cons (pe_callTy call_list_of rfl TX.b_list b0_list (pa_cons (pv 4) pa_nil)) (pa_cons (pe_ix (ix_A hu) (pv 9) pe_int (fun _ _ => rfl)) pa_nil)))) (pa_cons (pe_tup (pa_cons pe_str (pa_cons (pe_ix (ix_A hu) (pv 9) pe_int (fun _ _ => rfl)) (pa_cons (pe_callTy call_list_of rfl TX.b_list b0_list (pa_cons (pv 5) pa_nil)) pa_nil)))) pa_nil)))))
  (pss_cons (ps_set (i := 10) nd rfl (Or.inl rfl) (pe_op op_addA (pv 10) (pe_lst (pa_cons (pe_tup (pa_cons pe_str (pa_cons (pe_op op_addA (pe_ix (ix_A hu) (pv 9) pe_int (fun _ _ => rfl)) (pe_tup (pa_cons pe_int pa_nil))) (pa_cons (pe_ix (ix_A hu) (pv 9) pe_int (fun _ _ => rfl)) pa_nil)))) (pa_cons (pe_tup (pa_cons pe_str (pa_cons (pe_ix (ix_A hu) (pv 9) pe_int (fun _ _ => rfl)) (pa_cons (pe_op op_addA (pe_ix (ix_A hu) (pv 9) pe_int (fun _ _ => rfl)) (pe_tup (pa_cons pe_int pa_nil))) pa_nil)))) pa_nil)))))
  (pss_cons (ps_set (i := 10) nd rfl (Or.inl rfl) (pe_op op_addA (pv 10) (pe_lst (pa_cons (pe_tup (pa_cons pe_str (pa_cons (pe_ix (ix_A hu) (pv 9) pe_int (fun _ _ => rfl)) (pa_cons (pe_op op_addA (pe_slice sl_all (pe_ix (ix_A hu) (pv 9) pe_int (fun _ _ => rfl)) po_none (po_some (pe_op op_sub (pv 7) pe_int))) (pe_tup (pa_cons pe_bl pa_nil))) pa_nil)))) (pa_cons (pe_tup (pa_cons pe_str (pa_cons (pe_tupRg rfl rfl TX.b_tuple (prg_1 rfl TX.b_range (pv 7))) pa_nil))) pa_nil)))))
  (pss_cons (ps_set (i := 10) nd rfl (Or.inl rfl) (pe_op op_addA (pv 10) (pe_lst (pa_cons (pe_tup (pa_cons pe_str (pa_cons (pe_tupRg rfl rfl TX.b_tuple (prg_1 rfl TX.b_range (pv 7))) pa_nil))) (pa_cons (pe_op op_addA (pe_tup (pa_cons pe_bl pa_nil)) (pe_slice sl_all (pv 9) (po_some pe_int) po_none)) pa_nil)))))
  (pss_cons (ps_for PassesOwn.never rfl (pi_seqK (pv 10)) (pg_name (i := 11) nd rfl (Or.inl rfl))
  (pss_cons (ps_if (pt_cmpR op_isNotA (pe_cl C_shows_cheapest hr rfl (pa_cons (pv 0) (pa_cons (pv 2) (pa_cons (pv 8) (pa_cons (pv 3) (pa_cons (pv 11) pa_nil)))))) pe_bl (nomark _))
  (pss_one (ps_ret pe_bl))
  pss_nil)
  pss_nil))
  (pss_cons (ps_set (i := 12) nd rfl (Or.inl rfl) (pe_cl C_law_with hr rfl (pa_cons (pv 8) (pa_cons (pe_ix (ix_A hu) (pv 6) pe_int (fun _ _ => rfl)) (pa_cons (pe_op op_addA (pe_ix (ix_A hu) (pv 8) (pe_ix (ix_A hu) (pv 6) pe_int (fun _ _ => rfl)) (fun _ _ => rfl)) pe_int) pa_nil)))))
  (pss_cons (ps_if (pt_cmpR op_isNotA (pe_cl C_shows_cheapest hr rfl (pa_cons (pv 0) (pa_cons (pv 2) (pa_cons (pv 12) (pa_cons (pv 3) (pa_cons (pv 9) pa_nil)))))) pe_bl (nomark _))
  (pss_one (ps_ret pe_bl))
  pss_nil)
  (pss_cons (ps_if (pt_cmpR op_isNotA (pe_cl C_shows_cheapest hr rfl (pa_cons (pv 0) (pa_cons (pv 2) (pa_cons (pv 12) (pa_cons (pv 3) (pa_cons (pe_tup (pa_cons pe_str (pa_cons (pe_tupRg rfl rfl TX.b_tuple (prg_1 rfl TX.b_range (pv 7))) pa_nil))) pa_nil)))))) pe_bl (nomark _))
  (pss_one (ps_ret pe_bl))
  pss_nil)
  (pss_cons (ps_set (i := 13) nd rfl (Or.inl rfl) (pe_cl C_law_with hr rfl (pa_cons (pv 5) (pa_cons (pe_ix (ix_A hu) (pv 6) pe_int (fun _ _ => rfl)) (pa_cons (pe_op op_addA (pe_ix (ix_A hu) (pv 5) (pe_ix (ix_A hu) (pv 6) pe_int (fun _ _ => rfl)) (fun _ _ => rfl)) pe_int) pa_nil)))))
  (pss_cons (ps_set (i := 14) nd rfl (Or.inl rfl) (pe_cl C_law_holds hr rfl (pa_cons (pv 1) (pa_cons (pv 2) (pa_cons (pv 3) (pa_cons (pv 4) (pa_cons (pv 13) pa_nil)))))))
  (pss_cons (ps_if (pt_not (pt_val (pe_cl C_law_says hr rfl (pa_cons (pe_cl C_shows_cheapest hr rfl (pa_cons (pv 0) (pa_cons (pv 2) (pa_cons (pv 8) (pa_cons (pv 3) (pa_cons (pe_op op_addA (pe_slice sl_all (pv 9) po_none (po_some pe_int)) (pe_tup (pa_cons (pe_callTy call_tuple_of rfl TX.b_tuple b0_tuple (pa_cons (pv 13) pa_nil)) pa_nil))) pa_nil)))))) (pa_cons (pv 14) pa_nil)))))
  (pss_one (ps_ret pe_bl))
  pss_nil)
  (pss_cons (ps_if (pt_cmpR (op_eqD hu) (pe_callB cl_len rfl TX.b_len b0_len (pa_cons (pv 1) pa_nil)) pe_int (nomark _))
  (pss_one (ps_ret pe_bl))
  pss_nil)
  (pss_cons (ps_set (i := 15) nd rfl (Or.inl rfl) (pe_op op_mod (pe_callTy call_int1 rfl TX.b_int b0_int (pa_cons (pe_ix (ix_A hu) (pv 6) pe_int (fun _ _ => rfl)) pa_nil)) (pe_callB cl_len rfl TX.b_len b0_len (pa_cons (pv 1) pa_nil))))
  (pss_cons (ps_set (i := 16) nd rfl (Or.inl rfl) (pe_cl C_law_with hr rfl (pa_cons (pv 4) (pa_cons (pv 15) (pa_cons (pe_ix (ix_A hu) (pe_lst (pa_cons (pe_op op_sub (pe_ix (ix_A hu) (pe_ix (ix_A hu) (pv 2) (pv 15) (fun _ _ => rfl)) pe_int (fun _ _ => rfl)) pe_int) (pa_cons (pe_op op_addA (pe_ix (ix_A hu) (pe_ix (ix_A hu) (pv 2) (pv 15) (fun _ _ => rfl)) pe_int (fun _ _ => rfl)) pe_int) pa_nil))) (pe_ix (ix_A hu) (pv 6) pe_int (fun _ _ => rfl)) (fun _ _ => rfl)) pa_nil)))))
  (pss_cons (ps_set (i := 11) nd rfl (Or.inl rfl) (pe_tup (pa_cons pe_str (pa_cons (pe_callTy call_tuple_of rfl TX.b_tuple b0_tuple (pa_cons (pv 16) pa_nil)) (pa_cons (pe_ix (ix_A hu) (pv 9) pe_int (fun _ _ => rfl)) pa_nil)))))
  (pss_one (ps_ret (pe_cmpR op_isA (pe_cl C_shows_cheapest hr rfl (pa_cons (pv 0) (pa_cons (pv 2) (pa_cons (pe_cl C_law_gains hr rfl (pa_cons (pv 7) (pa_cons (pv 1) (pa_cons (pv 16) pa_nil)))) (pa_cons (pv 3) (pa_cons (pv 11) pa_nil)))))) pe_bl (nomark _)))))))))))))))))))))))), fun ds hds => ?_⟩
  match ds, hds with
  | [x_building, x_ducts, x_bounds, x_costs, x_stream, x_pressures, x_draws], _ =>
    refine bv_pur ?_
    show B _ _ _ (m_law_cheap x_building x_ducts x_bounds x_costs x_stream x_pressures x_draws) _
    unfold m_law_cheap
    exact (bn_of (b_seq (bp_set (i := 7) (ev_clS cS_len (evl_cons (ev_val rfl) evl_nil))) fun x_rooms1 =>
  (b_seq (bp_set (i := 8) (ev_callO rfl (eva_cons (ev_val rfl) (eva_cons (ev_val rfl) (eva_cons (ev_val rfl) eva_nil))))) fun x_needs2 =>
  (b_seq (bp_set (i := 9) (ev_tup (evl_cons ev_str (evl_cons (ev_clM cM_tuple (evl_cons (ev_val rfl) evl_nil)) (evl_cons (ev_clM cM_tuple (evl_cons (ev_val rfl) evl_nil)) evl_nil))))) fun x_right3 =>
  (bd_ifx0 (evt_test (ev_opS opS_isNot (ev_callO rfl (eva_cons (ev_val rfl) (eva_cons (ev_val rfl) (eva_cons (ev_val rfl) (eva_cons (ev_val rfl) (eva_cons (ev_val rfl) eva_nil)))))) ev_bl))
  (bd_ret ev_bl)
  (b_seq (bp_set (i := 10) (ev_new (evo_lst (evl_cons ev_non (evl_cons (ev_tup evl_nil) (evl_cons (ev_new (evo_list (ev_val rfl))) (evl_cons (ev_opM opM_add (ev_val rfl) (ev_tup (evl_cons ev_int evl_nil))) (evl_cons (ev_cut (ev_val rfl) evp_none (evp_some ev_int)) (evl_cons (ev_tup (evl_cons ev_str (evl_cons (ev_opP opP_ix (ev_val rfl) ev_int) evl_nil))) (evl_cons (ev_tup (evl_cons ev_str (evl_cons (ev_opP opP_ix (ev_val rfl) ev_int) evl_nil))) evl_nil)))))))))) fun x_wrong4 =>
  (b_seq (bp_set (i := 10) (ev_opM opM_add (ev_val rfl) (ev_new (evo_lst (evl_cons (ev_tup (evl_cons ev_str (evl_cons (ev_new (evo_list (ev_val rfl))) (evl_cons (ev_opP opP_ix (ev_val rfl) ev_int) evl_nil)))) (evl_cons (ev_tup (evl_cons ev_str (evl_cons (ev_opP opP_ix (ev_val rfl) ev_int) (evl_cons (ev_new (evo_list (ev_val rfl))) evl_nil)))) evl_nil)))))) fun x_wrong5 =>
  (b_seq (bp_set (i := 10) (ev_opM opM_add (ev_val rfl) (ev_new (evo_lst (evl_cons (ev_tup (evl_cons ev_str (evl_cons (ev_opM opM_add (ev_opP opP_ix (ev_val rfl) ev_int) (ev_tup (evl_cons ev_int evl_nil))) (evl_cons (ev_opP opP_ix (ev_val rfl) ev_int) evl_nil)))) (evl_cons (ev_tup (evl_cons ev_str (evl_cons (ev_opP opP_ix (ev_val rfl) ev_int) (evl_cons (ev_opM opM_add (ev_opP opP_ix (ev_val rfl) ev_int) (ev_tup (evl_cons ev_int evl_nil))) evl_nil)))) evl_nil)))))) fun x_wrong6 =>
  (b_seq (bp_set (i := 10) (ev_opM opM_add (ev_val rfl) (ev_new (evo_lst (evl_cons (ev_tup (evl_cons ev_str (evl_cons (ev_opP opP_ix (ev_val rfl) ev_int) (evl_cons (ev_opM opM_add (ev_cut (ev_opP opP_ix (ev_val rfl) ev_int) evp_none (evp_some (ev_opS opS_sub (ev_val rfl) ev_int))) (ev_tup (evl_cons ev_bl evl_nil))) evl_nil)))) (evl_cons (ev_tup (evl_cons ev_str (evl_cons (ev_tupRg (evr_1 (ev_val rfl))) evl_nil))) evl_nil)))))) fun x_wrong7 =>
  (b_seq (bp_set (i := 10) (ev_opM opM_add (ev_val rfl) (ev_new (evo_lst (evl_cons (ev_tup (evl_cons ev_str (evl_cons (ev_tupRg (evr_1 (ev_val rfl))) evl_nil))) (evl_cons (ev_opM opM_add (ev_tup (evl_cons ev_bl evl_nil)) (ev_cut (ev_val rfl) (evp_some ev_int) evp_none)) evl_nil)))))) fun x_wrong8 =>
  (bd_seqx (bt_for (md := .f) (Γl := fun (x_b9 : Unit) => [.val x_building, .val x_ducts, .val x_bounds, .val x_costs, .val x_stream, .val x_pressures, .val x_draws, .val x_rooms1, .val x_needs2, .val x_right3, .val x_wrong8, .no, .no, .no, .no, .no, .no]) (evi_seq (ev_val rfl)) (.keep (.keep (.keep (.keep (.keep (.keep (.keep (.keep (.keep (.keep (.keep (.skip (.skip (.skip (.skip (.skip (.skip .nil))))))))))))))))) (fun x_b9 x_d11 =>
  (bg_name (b_ifx0 (evt_test (ev_opS opS_isNot (ev_callO rfl (eva_cons (ev_val rfl) (eva_cons (ev_val rfl) (eva_cons (ev_val rfl) (eva_cons (ev_val rfl) (eva_cons (ev_val rfl) eva_nil)))))) ev_bl))
  (bt_ret' ev_bl)
  (bt_end (.keep (.keep (.keep (.keep (.keep (.keep (.keep (.keep (.keep (.keep (.keep (.skip (.skip (.skip (.skip (.skip (.skip .nil)))))))))))))))))))))) fun x_b9 =>
  (b_seq (bp_set (i := 12) (ev_callO rfl (eva_cons (ev_val rfl) (eva_cons (ev_opP opP_ix (ev_val rfl) ev_int) (eva_cons (ev_opM opM_add (ev_opP opP_ix (ev_val rfl) (ev_opP opP_ix (ev_val rfl) ev_int)) ev_int) eva_nil))))) fun x_other12 =>
  (bd_ifx0 (evt_test (ev_opS opS_isNot (ev_callO rfl (eva_cons (ev_val rfl) (eva_cons (ev_val rfl) (eva_cons (ev_val rfl) (eva_cons (ev_val rfl) (eva_cons (ev_val rfl) eva_nil)))))) ev_bl))
  (bd_ret ev_bl)
  (bd_ifx0 (evt_test (ev_opS opS_isNot (ev_callO rfl (eva_cons (ev_val rfl) (eva_cons (ev_val rfl) (eva_cons (ev_val rfl) (eva_cons (ev_val rfl) (eva_cons (ev_tup (evl_cons ev_str (evl_cons (ev_tupRg (evr_1 (ev_val rfl))) evl_nil))) eva_nil)))))) ev_bl))
  (bd_ret ev_bl)
  (b_seq (bp_set (i := 13) (ev_callO rfl (eva_cons (ev_val rfl) (eva_cons (ev_opP opP_ix (ev_val rfl) ev_int) (eva_cons (ev_opM opM_add (ev_opP opP_ix (ev_val rfl) (ev_opP opP_ix (ev_val rfl) ev_int)) ev_int) eva_nil))))) fun x_fresh13 =>
  (b_seq (bp_set (i := 14) (ev_callO rfl (eva_cons (ev_val rfl) (eva_cons (ev_val rfl) (eva_cons (ev_val rfl) (eva_cons (ev_val rfl) (eva_cons (ev_val rfl) eva_nil))))))) fun x_due14 =>
  (bd_ifx0 (evt_not (evt_B (ev_callO rfl (eva_cons (ev_callO rfl (eva_cons (ev_val rfl) (eva_cons (ev_val rfl) (eva_cons (ev_val rfl) (eva_cons (ev_val rfl) (eva_cons (ev_opM opM_add (ev_cut (ev_val rfl) evp_none (evp_some ev_int)) (ev_tup (evl_cons (ev_clM cM_tuple (evl_cons (ev_val rfl) evl_nil)) evl_nil))) eva_nil)))))) (eva_cons (ev_val rfl) eva_nil)))))
  (bd_ret ev_bl)
  (bd_ifx0 (evt_test (ev_opS opS_eq (ev_clS cS_len (evl_cons (ev_val rfl) evl_nil)) ev_int))
  (bd_ret ev_bl)
  (b_seq (bp_set (i := 15) (ev_opS opS_mod (ev_clS cS_int (evl_cons (ev_opP opP_ix (ev_val rfl) ev_int) evl_nil)) (ev_clS cS_len (evl_cons (ev_val rfl) evl_nil)))) fun x_place15 =>
  (b_seq (bp_set (i := 16) (ev_callO rfl (eva_cons (ev_val rfl) (eva_cons (ev_val rfl) (eva_cons (ev_opP opP_ix (ev_new (evo_lst (evl_cons (ev_opS opS_sub (ev_opP opP_ix (ev_opP opP_ix (ev_val rfl) (ev_val rfl)) ev_int) ev_int) (evl_cons (ev_opM opM_add (ev_opP opP_ix (ev_opP opP_ix (ev_val rfl) (ev_val rfl)) ev_int) ev_int) evl_nil)))) (ev_opP opP_ix (ev_val rfl) ev_int)) eva_nil))))) fun x_beyond16 =>
  (b_seq (bp_set (i := 11) (ev_tup (evl_cons ev_str (evl_cons (ev_clM cM_tuple (evl_cons (ev_val rfl) evl_nil)) (evl_cons (ev_opP opP_ix (ev_val rfl) ev_int) evl_nil))))) fun x_paper17 =>
  (bd_ret (ev_opS opS_is (ev_callO rfl (eva_cons (ev_val rfl) (eva_cons (ev_val rfl) (eva_cons (ev_callO rfl (eva_cons (ev_val rfl) (eva_cons (ev_val rfl) (eva_cons (ev_val rfl) eva_nil)))) (eva_cons (ev_val rfl) (eva_cons (ev_val rfl) eva_nil)))))) ev_bl)))))))))))))))))))))))

abbrev s_law_round : Stmt := top 60
abbrev N_law_round : List Str := ["script", "head", "rooms", "ducts", "ring", "k", "ends", "draws", "stream", "costs", "others"]
theorem sc_law_round : FnScope N_law_round ["script"] (defScope s_law_round) := ⟨rfl, rfl, rfl, by decide +kernel, rfl, by decide +kernel, by decide +kernel⟩
theorem ok_law_round {f : Addr} {fd : FuncData} (F : Fun K "_law_round" "_law_round" s_law_round f fd) (TX : Txt K mg C) (C_law_draw : Cl P w K mg base 1 "_law_draw" ["cell", "bounds"] (spU ⟨K, C⟩ [.f, .f] (pur (f2 m_law_draw)))) (C_law_cell : Cl P w K mg base 1 "_law_cell" ["script", "k"] (spU ⟨K, C⟩ [.f, .f] (pur (f2 m_law_cell)))) : FnOk P w K mg base CX0 2 f fd ["script"] (spU ⟨K, C⟩ [.f] (pur (f1 m_law_round))) := by
  have nd := sc_law_round.nd
  refine fn_ok (T := ⟨K, C⟩) F sc_law_round rfl (by decide) (fun cdv A outer s H E hr => ?_)
  have hu := hr.units
  refine ⟨_, (pss_cons (ps_set (i := 1) nd rfl (Or.inl rfl) (pe_cl C_law_draw hr rfl (pa_cons (pe_cl C_law_cell hr rfl (pa_cons (pv 0) (pa_cons pe_int pa_nil))) (pa_cons (pe_lst (pa_cons pe_int (pa_cons pe_int (pa_cons pe_int (pa_cons pe_int (pa_cons pe_int (pa_cons pe_int (pa_cons pe_int pa_nil)))))))) pa_nil))))
  (pss_cons (ps_set (i := 2) nd rfl (Or.inl rfl) (pe_op op_addA (pe_ix (ix_A hu) (pv 1) pe_int (fun _ _ => rfl)) pe_int))
  (pss_cons (ps_set (i := 3) nd rfl (Or.inl rfl) (pe_lst pa_nil))
  (pss_cons (ps_set (i := 4) nd rfl (Or.inr rfl) (pe_tup pa_nil))
  (pss_cons (ps_for PassesOwn.never rfl (pi_range1 rfl TX.b_range (pa_cons (pv 2) pa_nil)) (pg_name (i := 5) nd rfl (Or.inl rfl))
  (pss_cons (ps_set (i := 6) nd rfl (Or.inl rfl) (pe_ix (ix_A hu) (pe_lst (pa_cons (pe_tup (pa_cons (pv 5) (pa_cons (pe_op op_mod (pe_callTy call_int1 rfl TX.b_int b0_int (pa_cons (pe_op op_addA (pv 5) pe_int) pa_nil)) (pv 2)) pa_nil))) (pa_cons (pe_tup (pa_cons (pe_op op_mod (pe_callTy call_int1 rfl TX.b_int b0_int (pa_cons (pe_op op_addA (pv 5) pe_int) pa_nil)) (pv 2)) (pa_cons (pv 5) pa_nil))) pa_nil))) (pe_ix (ix_A hu) (pv 1) (pe_op op_addA pe_int (pv 5)) (fun _ _ => rfl)) (fun _ _ => rfl)))
  (pss_cons (ps_expr (pe_bm PySem.F.plainAttrs_list PySem.F.slot_list_append PySem.F.type_list_append mt_append (pv 3) (pa_cons (pe_op op_addA (pv 6) (pe_tup (pa_cons pe_int pa_nil))) pa_nil)))
  (pss_cons (ps_set (i := 4) nd rfl (Or.inr rfl) (pe_op op_addA (pv 4) (pe_tup (pa_cons (pe_tup (pa_cons (pv 5) (pa_cons (pe_op op_sub pe_int (pe_op op_mulA pe_int (pe_ix (ix_A hu) (pv 1) (pe_op op_addA pe_int (pv 5)) (fun _ _ => rfl)))) pa_nil))) pa_nil))))
  pss_nil))))
  (pss_cons (ps_expr (pe_bm PySem.F.plainAttrs_list PySem.F.slot_list_append PySem.F.type_list_append mt_append (pv 3) (pa_cons (pe_ix (ix_A hu) (pe_lst (pa_cons (pe_tup (pa_cons pe_int (pa_cons pe_int (pa_cons pe_int pa_nil)))) (pa_cons (pe_tup (pa_cons pe_int (pa_cons pe_int (pa_cons pe_int pa_nil)))) pa_nil))) (pe_ix (ix_A hu) (pv 1) pe_int (fun _ _ => rfl)) (fun _ _ => rfl)) pa_nil)))
  (pss_cons (ps_set (i := 7) nd rfl (Or.inr rfl) (pe_cl C_law_draw hr rfl (pa_cons (pe_cl C_law_cell hr rfl (pa_cons (pv 0) (pa_cons pe_int pa_nil))) (pa_cons (pe_op op_addA (pe_op op_mulA (pe_lst (pa_cons pe_int (pa_cons pe_int pa_nil))) (pe_op op_addA (pv 2) pe_int)) (pe_lst (pa_cons pe_int pa_nil))) pa_nil))))
  (pss_cons (ps_setLc (i := 8) (own := [("k", 5)]) (g := (gName 5)) (tt := tYes) (te := (tOp (rI0 fun i j => .int (i - j)) (tOp (rIxA K) (tVar 7) (tOp (rMulA K) (tC (.int 2)) (tVar 5))) (tC (.int 1)))) rfl nd rfl rfl (sw_true rfl rfl rfl (by decide +kernel)) (pi_range1 rfl TX.b_range (pa_cons (pe_op op_addA (pv 2) pe_int) pa_nil)) (blkOk_by (own := [("k", 5)]) (N := N_law_round) (sc := defScope s_law_round) (by decide +kernel)) (fun _ _ _ _ _ => (pg_name (i := 5) nd rfl (Or.inl rfl))) (fun _ _ _ _ _ => pts_nil) (fun _ _ _ _ _ => (pe_op op_sub (pe_ix (ix_A hu) (pv 7) (pe_op op_mulA pe_int (pv 5)) (fun _ _ => rfl)) pe_int)))
  (pss_cons (ps_set (i := 9) nd rfl (Or.inr rfl) (pe_lc (own := [("k", 5)]) (g := (gName 5)) (tt := tYes) (te := (tOp (rI0 fun i j => .int (i - j)) (tOp (rIxA K) (tVar 7) (tOp (rAddA K) (tOp (rMulA K) (tC (.int 2)) (tVar 5)) (tC (.int 1)))) (tC (.int 2)))) rfl nd (pi_range1 rfl TX.b_range (pa_cons (pe_op op_addA (pv 2) pe_int) pa_nil)) (blkOk_by (own := [("k", 5)]) (N := N_law_round) (sc := defScope s_law_round) (by decide +kernel)) (fun _ _ _ _ _ => (pg_name (i := 5) nd rfl (Or.inl rfl))) (fun _ _ _ _ _ => pts_nil) (fun _ _ _ _ _ => (pe_op op_sub (pe_ix (ix_A hu) (pv 7) (pe_op op_addA (pe_op op_mulA pe_int (pv 5)) pe_int) (fun _ _ => rfl)) pe_int))))
  (pss_cons (ps_set (i := 10) nd rfl (Or.inl rfl) (pe_callB (cl_sum rfl) rfl TX.b_sum b0_sum (pa_cons (pe_lc (own := [("k", 5)]) (g := (gName 5)) (tt := tYes) (te := (tOp (rMulA K) (tOp (rIxA K) (tOp (rIxA K) (tVar 4) (tVar 5)) (tC (.int 1))) (tOp (rIxA K) (tVar 9) (tVar 5)))) rfl nd (pi_range2 rfl TX.b_range (pa_cons pe_int (pa_cons (pv 2) pa_nil))) (blkOk_by (own := [("k", 5)]) (N := N_law_round) (sc := defScope s_law_round) (by decide +kernel)) (fun _ _ _ _ _ => (pg_name (i := 5) nd rfl (Or.inl rfl))) (fun _ _ _ _ _ => pts_nil) (fun _ _ _ _ _ => (pe_op op_mulA (pe_ix (ix_A hu) (pe_ix (ix_A hu) (pv 4) (pv 5) (fun _ _ => rfl)) pe_int (fun _ _ => rfl)) (pe_ix (ix_A hu) (pv 9) (pv 5) (fun _ _ => rfl))))) pa_nil)))
  (pss_cons (ps_asg (pe_op op_mulA (pe_ix (ix_A hu) (pe_ix (ix_A hu) (pv 4) pe_int (fun _ _ => rfl)) pe_int (fun _ _ => rfl)) (pe_op op_sub (pe_un un_neg pe_int) (pv 10))) (pg_sub (pv 9) pe_int (set_A hu)))
  (pss_one (ps_ret (pe_lst (pa_cons (pv 2) (pa_cons (pv 3) (pa_cons (pv 4) (pa_cons (pv 8) (pa_cons (pv 9) (pa_cons (pe_tup (pa_cons (pv 2) (pa_cons (pe_op op_sub pe_int (pe_op op_mulA pe_int (pe_ix (ix_A hu) (pv 1) pe_int (fun _ _ => rfl)))) pa_nil))) pa_nil)))))))))))))))))))), fun ds hds => ?_⟩
  match ds, hds with
  | [x_script], _ =>
    refine bv_pur ?_
    show B _ _ _ (m_law_round x_script) _
    unfold m_law_round
    exact (bn_of (b_seq (bp_set (i := 1) (ev_callO rfl (eva_cons (ev_callO rfl (eva_cons (ev_val rfl) (eva_cons ev_int eva_nil))) (eva_cons (ev_new (evo_lst (evl_cons ev_int (evl_cons ev_int (evl_cons ev_int (evl_cons ev_int (evl_cons ev_int (evl_cons ev_int (evl_cons ev_int evl_nil))))))))) eva_nil)))) fun x_head1 =>
  (b_seq (bp_set (i := 2) (ev_opM opM_add (ev_opP opP_ix (ev_val rfl) ev_int) ev_int)) fun x_rooms2 =>
  (b_seq (bp_setO (i := 3) (evo_lst evl_nil)) fun x_ducts3 =>
  (b_seq (bp_set (i := 4) (ev_tup evl_nil)) fun x_ring4 =>
  (b_seq (bp_for (md := .f) (Γl := fun (x_b5 : D × D) => [.val x_script, .val x_head1, .val x_rooms2, .own x_b5.2, .val x_b5.1, .no, .no, .no, .no, .no, .no]) (evi_range1 (evl_cons (ev_val rfl) evl_nil)) (.keep (.keep (.keep (.keep (.keep (.skip (.skip (.skip (.skip (.skip (.skip .nil))))))))))) (fun x_b5 x_d7 =>
  (bg_name (b_seq (bp_set (i := 6) (ev_opP opP_ix (ev_new (evo_lst (evl_cons (ev_tup (evl_cons (ev_val rfl) (evl_cons (ev_opS opS_mod (ev_clS cS_int (evl_cons (ev_opM opM_add (ev_val rfl) ev_int) evl_nil)) (ev_val rfl)) evl_nil))) (evl_cons (ev_tup (evl_cons (ev_opS opS_mod (ev_clS cS_int (evl_cons (ev_opM opM_add (ev_val rfl) ev_int) evl_nil)) (ev_val rfl)) (evl_cons (ev_val rfl) evl_nil))) evl_nil)))) (ev_opP opP_ix (ev_val rfl) (ev_opM opM_add ev_int (ev_val rfl))))) fun x_ends8 =>
  (b_seq (bp_app (i := 3) rfl rfl (ev_opM opM_add (ev_val rfl) (ev_tup (evl_cons ev_int evl_nil)))) fun x_ducts9 =>
  (b_seq (bp_set (i := 4) (ev_opM opM_add (ev_val rfl) (ev_tup (evl_cons (ev_tup (evl_cons (ev_val rfl) (evl_cons (ev_opS opS_sub ev_int (ev_opM opM_mul ev_int (ev_opP opP_ix (ev_val rfl) (ev_opM opM_add ev_int (ev_val rfl))))) evl_nil))) evl_nil)))) fun x_ring10 =>
  (bp_end (.keep (.keep (.keep (.keep (.keep (.skip (.skip (.skip (.skip (.skip (.skip .nil)))))))))))))))))) fun x_b5 =>
  (b_seq (bp_app (i := 3) rfl rfl (ev_opP opP_ix (ev_new (evo_lst (evl_cons (ev_tup (evl_cons ev_int (evl_cons ev_int (evl_cons ev_int evl_nil)))) (evl_cons (ev_tup (evl_cons ev_int (evl_cons ev_int (evl_cons ev_int evl_nil)))) evl_nil)))) (ev_opP opP_ix (ev_val rfl) ev_int))) fun x_ducts11 =>
  (b_seq (bp_set (i := 7) (ev_callO rfl (eva_cons (ev_callO rfl (eva_cons (ev_val rfl) (eva_cons ev_int eva_nil))) (eva_cons (ev_opM opM_add (ev_opM opM_mul (ev_new (evo_lst (evl_cons ev_int (evl_cons ev_int evl_nil)))) (ev_opM opM_add (ev_val rfl) ev_int)) (ev_new (evo_lst (evl_cons ev_int evl_nil)))) eva_nil)))) fun x_draws12 =>
  (b_seq (bp_set (i := 8) (ev_new (evo_comp (md := .f) rfl (tin_name (by decide)) (evi_range1 (evl_cons (ev_opM opM_add (ev_val rfl) ev_int) evl_nil)) (fun x_d14 => (bg_name (ce_all (ev_opS opS_sub (ev_opP opP_ix (ev_val rfl) (ev_opM opM_mul ev_int (ev_val rfl))) ev_int))))))) fun x_stream13 =>
  (b_seq (bp_setO (i := 9) (evo_comp (md := .f) rfl (tin_name (by decide)) (evi_range1 (evl_cons (ev_opM opM_add (ev_val rfl) ev_int) evl_nil)) (fun x_d16 => (bg_name (ce_all (ev_opS opS_sub (ev_opP opP_ix (ev_val rfl) (ev_opM opM_add (ev_opM opM_mul ev_int (ev_val rfl)) ev_int)) ev_int)))))) fun x_costs15 =>
  (b_seq (bp_set (i := 10) (ev_clS cS_sum (evl_cons (ev_new (evo_comp (md := .f) rfl (tin_name (by decide)) (evi_range2 (evl_cons ev_int (evl_cons (ev_val rfl) evl_nil))) (fun x_d18 => (bg_name (ce_all (ev_chk (ev_opM opM_mul (ev_opP opP_ix (ev_opP opP_ix (ev_val rfl) (ev_val rfl)) ev_int) (ev_opP opP_ix (ev_bor rfl) (ev_val rfl))))))))) evl_nil))) fun x_others17 =>
  (b_seq (bp_put (i := 9) rfl rfl (ev_opM opM_mul (ev_opP opP_ix (ev_opP opP_ix (ev_val rfl) ev_int) ev_int) (ev_opS opS_sub (ev_neg ev_int) (ev_val rfl))) ev_int) fun x_costs19 =>
  (b_freeze 3 rfl (b_freeze 9 rfl (bd_ret (ev_new (evo_lst (evl_cons (ev_val rfl) (evl_cons (ev_val rfl) (evl_cons (ev_val rfl) (evl_cons (ev_val rfl) (evl_cons (ev_val rfl) (evl_cons (ev_tup (evl_cons (ev_val rfl) (evl_cons (ev_opS opS_sub ev_int (ev_opM opM_mul ev_int (ev_opP opP_ix (ev_val rfl) ev_int))) evl_nil))) evl_nil)))))))))))))))))))))))

abbrev s_law : Stmt := top 62
abbrev N_law : List Str := ["script", "plan", "rooms", "building", "pressures", "held", "draws"]
theorem sc_law : FnScope N_law ["script"] (defScope s_law) := ⟨rfl, rfl, rfl, by decide +kernel, rfl, by decide +kernel, by decide +kernel⟩
theorem ok_law {f : Addr} {fd : FuncData} (F : Fun K "law" "law" s_law f fd) (TX : Txt K mg C) (C_law_draw : Cl P w K mg base 1 "_law_draw" ["cell", "bounds"] (spU ⟨K, C⟩ [.f, .f] (pur (f2 m_law_draw)))) (C_law_cell : Cl P w K mg base 1 "_law_cell" ["script", "k"] (spU ⟨K, C⟩ [.f, .f] (pur (f2 m_law_cell)))) (C_law_plan : Cl P w K mg base 3 "_law_plan" ["script", "at", "most_rooms", "most_extra", "most_width"] (spU ⟨K, C⟩ [.f, .f, .f, .f, .f] (pur (f5 m_law_plan)))) (C_Building_init : Cm P w K mg base 5 "Building" (C "Building") ["self", "rooms", "ducts"] (spU ⟨K, C⟩ [.u, .f, .f] (f3 m_Building_init))) (C_law_numbers : Cl P w K mg base 2 "_law_numbers" ["cell", "count", "least", "most"] (spU ⟨K, C⟩ [.f, .f, .f, .f] (pur (f4 m_law_numbers)))) (C_law_held : Cl P w K mg base 2 "_law_held" ["script", "ducts", "pressures"] (spU ⟨K, C⟩ [.f, .f, .f] (pur (f3 m_law_held)))) (C_law_rings : Cl P w K mg base 8 "_law_rings" ["script", "plan"] (spU ⟨K, C⟩ [.f, .f] (pur (f2 m_law_rings)))) (C_law_pressed : Cl P w K mg base 8 "_law_pressed" ["building", "ducts", "bounds", "costs", "stream", "pressures"] (spU ⟨K, C⟩ [.f, .f, .f, .f, .f, .f] (pur (f6 m_law_pressed)))) (C_law_cheap : Cl P w K mg base 8 "_law_cheap" ["building", "ducts", "bounds", "costs", "stream", "pressures", "draws"] (spU ⟨K, C⟩ [.f, .f, .f, .f, .f, .f, .f] (pur (f7 m_law_cheap)))) (C_law_round : Cl P w K mg base 2 "_law_round" ["script"] (spU ⟨K, C⟩ [.f] (pur (f1 m_law_round)))) : FnOk P w K mg base CX0 9 f fd ["script"] (spU ⟨K, C⟩ [.f] (pur (f1 m_law))) := by
  have nd := sc_law.nd
  refine fn_ok (T := ⟨K, C⟩) F sc_law rfl (by decide) (fun cdv A outer s H E hr => ?_)
  have hu := hr.units
  refine ⟨_, (pss_cons (ps_set (i := 1) nd rfl (Or.inl rfl) (pe_cl C_law_plan hr rfl (pa_cons (pv 0) (pa_cons pe_int (pa_cons pe_int (pa_cons pe_int (pa_cons pe_int pa_nil)))))))
  (pss_cons (ps_set (i := 2) nd rfl (Or.inl rfl) (pe_ix (ix_A hu) (pv 1) pe_int (fun _ _ => rfl)))
  (pss_cons (ps_set (i := 3) nd rfl (Or.inl rfl) (pe_cm C_Building_init hr rfl (pa_cons (pv 2) (pa_cons (pe_ix (ix_A hu) (pv 1) pe_int (fun _ _ => rfl)) pa_nil))))
  (pss_cons (ps_set (i := 4) nd rfl (Or.inl rfl) (pe_cl C_law_numbers hr rfl (pa_cons (pe_cl C_law_cell hr rfl (pa_cons (pv 0) (pa_cons pe_int pa_nil))) (pa_cons (pv 2) (pa_cons (pe_un un_neg pe_int) (pa_cons pe_int pa_nil))))))
  (pss_cons (ps_set (i := 5) nd rfl (Or.inl rfl) (pe_cl C_law_held hr rfl (pa_cons (pv 0) (pa_cons (pe_ix (ix_A hu) (pv 1) pe_int (fun _ _ => rfl)) (pa_cons (pv 4) pa_nil)))))
  (pss_cons (ps_set (i := 6) nd rfl (Or.inl rfl) (pe_cl C_law_draw hr rfl (pa_cons (pe_cl C_law_cell hr rfl (pa_cons (pv 0) (pa_cons pe_int pa_nil))) (pa_cons (pe_lst (pa_cons (pv 2) (pa_cons pe_int (pa_cons pe_int pa_nil)))) pa_nil))))
  (pss_cons (ps_if (pt_not (pt_val (pe_cl C_law_pressed hr rfl (pa_cons (pv 3) (pa_cons (pe_ix (ix_A hu) (pv 1) pe_int (fun _ _ => rfl)) (pa_cons (pe_ix (ix_A hu) (pv 5) pe_int (fun _ _ => rfl)) (pa_cons (pe_ix (ix_A hu) (pv 5) pe_int (fun _ _ => rfl)) (pa_cons (pe_ix (ix_A hu) (pv 5) pe_int (fun _ _ => rfl)) (pa_cons (pv 4) pa_nil)))))))))
  (pss_one (ps_ret pe_bl))
  pss_nil)
  (pss_cons (ps_if (pt_not (pt_val (pe_cl C_law_cheap hr rfl (pa_cons (pv 3) (pa_cons (pe_ix (ix_A hu) (pv 1) pe_int (fun _ _ => rfl)) (pa_cons (pe_ix (ix_A hu) (pv 5) pe_int (fun _ _ => rfl)) (pa_cons (pe_ix (ix_A hu) (pv 5) pe_int (fun _ _ => rfl)) (pa_cons (pe_ix (ix_A hu) (pv 5) pe_int (fun _ _ => rfl)) (pa_cons (pv 4) (pa_cons (pv 6) pa_nil))))))))))
  (pss_one (ps_ret pe_bl))
  pss_nil)
  (pss_one (ps_ret (pe_cl C_law_rings hr rfl (pa_cons (pv 0) (pa_cons (pe_cl C_law_round hr rfl (pa_cons (pv 0) pa_nil)) pa_nil))))))))))))), fun ds hds => ?_⟩
  match ds, hds with
  | [x_script], _ =>
    refine bv_pur ?_
    show B _ _ _ (m_law x_script) _
    unfold m_law
    exact (bn_of (b_seq (bp_set (i := 1) (ev_callO rfl (eva_cons (ev_val rfl) (eva_cons ev_int (eva_cons ev_int (eva_cons ev_int (eva_cons ev_int eva_nil))))))) fun x_plan1 =>
  (b_seq (bp_set (i := 2) (ev_opP opP_ix (ev_val rfl) ev_int)) fun x_rooms2 =>
  (b_seq (bp_set (i := 3) (ev_new (evo_make (T := ⟨K, C⟩) rfl (eva_cons (ev_val rfl) (eva_cons (ev_opP opP_ix (ev_val rfl) ev_int) eva_nil))))) fun x_building3 =>
  (b_seq (bp_set (i := 4) (ev_callO rfl (eva_cons (ev_callO rfl (eva_cons (ev_val rfl) (eva_cons ev_int eva_nil))) (eva_cons (ev_val rfl) (eva_cons (ev_neg ev_int) (eva_cons ev_int eva_nil)))))) fun x_pressures4 =>
  (b_seq (bp_set (i := 5) (ev_callO rfl (eva_cons (ev_val rfl) (eva_cons (ev_opP opP_ix (ev_val rfl) ev_int) (eva_cons (ev_val rfl) eva_nil))))) fun x_held5 =>
  (b_seq (bp_set (i := 6) (ev_callO rfl (eva_cons (ev_callO rfl (eva_cons (ev_val rfl) (eva_cons ev_int eva_nil))) (eva_cons (ev_new (evo_lst (evl_cons (ev_val rfl) (evl_cons ev_int (evl_cons ev_int evl_nil))))) eva_nil)))) fun x_draws6 =>
  (bd_ifx0 (evt_not (evt_B (ev_callO rfl (eva_cons (ev_val rfl) (eva_cons (ev_opP opP_ix (ev_val rfl) ev_int) (eva_cons (ev_opP opP_ix (ev_val rfl) ev_int) (eva_cons (ev_opP opP_ix (ev_val rfl) ev_int) (eva_cons (ev_opP opP_ix (ev_val rfl) ev_int) (eva_cons (ev_val rfl) eva_nil)))))))))
  (bd_ret ev_bl)
  (bd_ifx0 (evt_not (evt_B (ev_callO rfl (eva_cons (ev_val rfl) (eva_cons (ev_opP opP_ix (ev_val rfl) ev_int) (eva_cons (ev_opP opP_ix (ev_val rfl) ev_int) (eva_cons (ev_opP opP_ix (ev_val rfl) ev_int) (eva_cons (ev_opP opP_ix (ev_val rfl) ev_int) (eva_cons (ev_val rfl) (eva_cons (ev_val rfl) eva_nil))))))))))
  (bd_ret ev_bl)
  (bd_ret (ev_callO rfl (eva_cons (ev_val rfl) (eva_cons (ev_callO rfl (eva_cons (ev_val rfl) eva_nil)) eva_nil)))))))))))))
end
end Mi
namespace Mi
open PySem L2
open PyProof.Rows
theorem all_mk {l : PySem.W.OpenLaw} {w : World} {K : PySem.W.Frag} {h : Heap} {mg : Str → Option Value} {fa : Addr} (HL : ∀ ns : List Int, ns.length ≤ 63 → m_law (.scr ns) = some (.bl true)) (X : K.In h) (G : h.Ns mainGlobals mg) (hfa : mg "law" = some (.ref fa))
    {fC_Building : Addr}
    {f_law_draw : Addr} {od_law_draw an_law_draw : Option Addr} {sl_law_draw : Array (Option Value)} {oc_law_draw kV_law_draw dc_law_draw pm_law_draw cd_law_draw ct_law_draw : Value}
    {f_law_cell : Addr} {od_law_cell an_law_cell : Option Addr} {sl_law_cell : Array (Option Value)} {oc_law_cell kV_law_cell dc_law_cell pm_law_cell cd_law_cell ct_law_cell : Value}
    {f_law_ducts : Addr} {od_law_ducts an_law_ducts : Option Addr} {sl_law_ducts : Array (Option Value)} {oc_law_ducts kV_law_ducts dc_law_ducts pm_law_ducts cd_law_ducts ct_law_ducts : Value}
    {f_law_plan : Addr} {od_law_plan an_law_plan : Option Addr} {sl_law_plan : Array (Option Value)} {oc_law_plan kV_law_plan dc_law_plan pm_law_plan cd_law_plan ct_law_plan : Value}
    {f_require : Addr} {od_require an_require : Option Addr} {sl_require : Array (Option Value)} {oc_require kV_require dc_require pm_require cd_require ct_require : Value}
    {f_width_table : Addr} {od_width_table an_width_table : Option Addr} {sl_width_table : Array (Option Value)} {oc_width_table kV_width_table dc_width_table pm_width_table cd_width_table ct_width_table : Value}
    {f_is_integer : Addr} {od_is_integer an_is_integer : Option Addr} {sl_is_integer : Array (Option Value)} {oc_is_integer kV_is_integer dc_is_integer pm_is_integer cd_is_integer ct_is_integer : Value}
    {f_is_between : Addr} {od_is_between an_is_between : Option Addr} {sl_is_between : Array (Option Value)} {oc_is_between kV_is_between dc_is_between pm_is_between cd_is_between ct_is_between : Value}
    {f_is_table : Addr} {od_is_table an_is_table : Option Addr} {sl_is_table : Array (Option Value)} {oc_is_table kV_is_table dc_is_table pm_is_table cd_is_table ct_is_table : Value}
    {f_are_ducts : Addr} {od_are_ducts an_are_ducts : Option Addr} {sl_are_ducts : Array (Option Value)} {oc_are_ducts kV_are_ducts dc_are_ducts pm_are_ducts cd_are_ducts ct_are_ducts : Value}
    {f_Building_init : Addr} {od_Building_init an_Building_init : Option Addr} {sl_Building_init : Array (Option Value)} {oc_Building_init kV_Building_init dc_Building_init pm_Building_init cd_Building_init ct_Building_init : Value}
    {f_law_numbers : Addr} {od_law_numbers an_law_numbers : Option Addr} {sl_law_numbers : Array (Option Value)} {oc_law_numbers kV_law_numbers dc_law_numbers pm_law_numbers cd_law_numbers ct_law_numbers : Value}
    {f_law_held : Addr} {od_law_held an_law_held : Option Addr} {sl_law_held : Array (Option Value)} {oc_law_held kV_law_held dc_law_held pm_law_held cd_law_held ct_law_held : Value}
    {f_law_with : Addr} {od_law_with an_law_with : Option Addr} {sl_law_with : Array (Option Value)} {oc_law_with kV_law_with dc_law_with pm_law_with cd_law_with ct_law_with : Value}
    {f_law_ints : Addr} {od_law_ints an_law_ints : Option Addr} {sl_law_ints : Array (Option Value)} {oc_law_ints kV_law_ints dc_law_ints pm_law_ints cd_law_ints ct_law_ints : Value}
    {f_law_ring : Addr} {od_law_ring an_law_ring : Option Addr} {sl_law_ring : Array (Option Value)} {oc_law_ring kV_law_ring dc_law_ring pm_law_ring cd_law_ring ct_law_ring : Value}
    {f_require_building : Addr} {od_require_building an_require_building : Option Addr} {sl_require_building : Array (Option Value)} {oc_require_building kV_require_building dc_require_building pm_require_building cd_require_building ct_require_building : Value}
    {f_are_bounds : Addr} {od_are_bounds an_are_bounds : Option Addr} {sl_are_bounds : Array (Option Value)} {oc_are_bounds kV_are_bounds dc_are_bounds pm_are_bounds cd_are_bounds ct_are_bounds : Value}
    {f_require_bounds : Addr} {od_require_bounds an_require_bounds : Option Addr} {sl_require_bounds : Array (Option Value)} {oc_require_bounds kV_require_bounds dc_require_bounds pm_require_bounds cd_require_bounds ct_require_bounds : Value}
    {f_require_costs : Addr} {od_require_costs an_require_costs : Option Addr} {sl_require_costs : Array (Option Value)} {oc_require_costs kV_require_costs dc_require_costs pm_require_costs cd_require_costs ct_require_costs : Value}
    {f_fits_bounds : Addr} {od_fits_bounds an_fits_bounds : Option Addr} {sl_fits_bounds : Array (Option Value)} {oc_fits_bounds kV_fits_bounds dc_fits_bounds pm_fits_bounds cd_fits_bounds ct_fits_bounds : Value}
    {f_require_setting : Addr} {od_require_setting an_require_setting : Option Addr} {sl_require_setting : Array (Option Value)} {oc_require_setting kV_require_setting dc_require_setting pm_require_setting cd_require_setting ct_require_setting : Value}
    {f_is_paper : Addr} {od_is_paper an_is_paper : Option Addr} {sl_is_paper : Array (Option Value)} {oc_is_paper kV_is_paper dc_is_paper pm_is_paper cd_is_paper ct_is_paper : Value}
    {f_is_integer_table : Addr} {od_is_integer_table an_is_integer_table : Option Addr} {sl_is_integer_table : Array (Option Value)} {oc_is_integer_table kV_is_integer_table dc_is_integer_table pm_is_integer_table cd_is_integer_table ct_is_integer_table : Value}
    {f_is_integer_tuple : Addr} {od_is_integer_tuple an_is_integer_tuple : Option Addr} {sl_is_integer_tuple : Array (Option Value)} {oc_is_integer_tuple kV_is_integer_tuple dc_is_integer_tuple pm_is_integer_tuple cd_is_integer_tuple ct_is_integer_tuple : Value}
    {f_hold : Addr} {od_hold an_hold : Option Addr} {sl_hold : Array (Option Value)} {oc_hold kV_hold dc_hold pm_hold cd_hold ct_hold : Value}
    {f_step_ends : Addr} {od_step_ends an_step_ends : Option Addr} {sl_step_ends : Array (Option Value)} {oc_step_ends kV_step_ends dc_step_ends pm_step_ends cd_step_ends ct_step_ends : Value}
    {f_is_tuple : Addr} {od_is_tuple an_is_tuple : Option Addr} {sl_is_tuple : Array (Option Value)} {oc_is_tuple kV_is_tuple dc_is_tuple pm_is_tuple cd_is_tuple ct_is_tuple : Value}
    {f_is_open_step : Addr} {od_is_open_step an_is_open_step : Option Addr} {sl_is_open_step : Array (Option Value)} {oc_is_open_step kV_is_open_step dc_is_open_step pm_is_open_step cd_is_open_step ct_is_open_step : Value}
    {f_is_cheaper_ring : Addr} {od_is_cheaper_ring an_is_cheaper_ring : Option Addr} {sl_is_cheaper_ring : Array (Option Value)} {oc_is_cheaper_ring kV_is_cheaper_ring dc_is_cheaper_ring pm_is_cheaper_ring cd_is_cheaper_ring ct_is_cheaper_ring : Value}
    {f_shows_price : Addr} {od_shows_price an_shows_price : Option Addr} {sl_shows_price : Array (Option Value)} {oc_shows_price kV_shows_price dc_shows_price pm_shows_price cd_shows_price ct_shows_price : Value}
    {f_law_says : Addr} {od_law_says an_law_says : Option Addr} {sl_law_says : Array (Option Value)} {oc_law_says kV_law_says dc_law_says pm_law_says cd_law_says ct_law_says : Value}
    {f_law_rings : Addr} {od_law_rings an_law_rings : Option Addr} {sl_law_rings : Array (Option Value)} {oc_law_rings kV_law_rings dc_law_rings pm_law_rings cd_law_rings ct_law_rings : Value}
    {f_law_holds : Addr} {od_law_holds an_law_holds : Option Addr} {sl_law_holds : Array (Option Value)} {oc_law_holds kV_law_holds dc_law_holds pm_law_holds cd_law_holds ct_law_holds : Value}
    {f_law_pressed : Addr} {od_law_pressed an_law_pressed : Option Addr} {sl_law_pressed : Array (Option Value)} {oc_law_pressed kV_law_pressed dc_law_pressed pm_law_pressed cd_law_pressed ct_law_pressed : Value}
    {f_law_gains : Addr} {od_law_gains an_law_gains : Option Addr} {sl_law_gains : Array (Option Value)} {oc_law_gains kV_law_gains dc_law_gains pm_law_gains cd_law_gains ct_law_gains : Value}
    {f_require_needs : Addr} {od_require_needs an_require_needs : Option Addr} {sl_require_needs : Array (Option Value)} {oc_require_needs kV_require_needs dc_require_needs pm_require_needs cd_require_needs ct_require_needs : Value}
    {f_range_of_gain : Addr} {od_range_of_gain an_range_of_gain : Option Addr} {sl_range_of_gain : Array (Option Value)} {oc_range_of_gain kV_range_of_gain dc_range_of_gain pm_range_of_gain cd_range_of_gain ct_range_of_gain : Value}
    {f_are_places : Addr} {od_are_places an_are_places : Option Addr} {sl_are_places : Array (Option Value)} {oc_are_places kV_are_places dc_are_places pm_are_places cd_are_places ct_are_places : Value}
    {f_is_place_set : Addr} {od_is_place_set an_is_place_set : Option Addr} {sl_is_place_set : Array (Option Value)} {oc_is_place_set kV_is_place_set dc_is_place_set pm_is_place_set cd_is_place_set ct_is_place_set : Value}
    {f_is_room_set : Addr} {od_is_room_set an_is_room_set : Option Addr} {sl_is_room_set : Array (Option Value)} {oc_is_room_set kV_is_room_set dc_is_room_set pm_is_room_set cd_is_room_set ct_is_room_set : Value}
    {f_is_refused_set : Addr} {od_is_refused_set an_is_refused_set : Option Addr} {sl_is_refused_set : Array (Option Value)} {oc_is_refused_set kV_is_refused_set dc_is_refused_set pm_is_refused_set cd_is_refused_set ct_is_refused_set : Value}
    {f_gain_list : Addr} {od_gain_list an_gain_list : Option Addr} {sl_gain_list : Array (Option Value)} {oc_gain_list kV_gain_list dc_gain_list pm_gain_list cd_gain_list ct_gain_list : Value}
    {f_serves : Addr} {od_serves an_serves : Option Addr} {sl_serves : Array (Option Value)} {oc_serves kV_serves dc_serves pm_serves cd_serves ct_serves : Value}
    {f_shows_cheapest : Addr} {od_shows_cheapest an_shows_cheapest : Option Addr} {sl_shows_cheapest : Array (Option Value)} {oc_shows_cheapest kV_shows_cheapest dc_shows_cheapest pm_shows_cheapest cd_shows_cheapest ct_shows_cheapest : Value}
    {f_law_cheap : Addr} {od_law_cheap an_law_cheap : Option Addr} {sl_law_cheap : Array (Option Value)} {oc_law_cheap kV_law_cheap dc_law_cheap pm_law_cheap cd_law_cheap ct_law_cheap : Value}
    {f_law_round : Addr} {od_law_round an_law_round : Option Addr} {sl_law_round : Array (Option Value)} {oc_law_round kV_law_round dc_law_round pm_law_round cd_law_round ct_law_round : Value}
    {f_law : Addr} {od_law an_law : Option Addr} {sl_law : Array (Option Value)} {oc_law kV_law dc_law pm_law cd_law ct_law : Value}
    {t_MOST_COST : _}
    {t_MOST_DUCTS : _}
    {t_MOST_FLOW : _}
    {t_MOST_ROOMS : _}
    {t_MOST_UNITS : _}
    {t_MOST_WIDTH : _}
    (aC_Building : PySem.W.nsIn K mainGlobals "Building" = some (some (.ref fC_Building)))
    (pg_Building : PySem.W.plainGet K fC_Building Str.empty = true)
    (hd_Building : PySem.W.hasDictIn K fC_Building = true)
    (po_Building : PySem.W.plainOver K fC_Building = true)
    (sa_Building : PySem.W.findIn K (.ref fC_Building) "__setattr__" = some (some (.builtin "object.__setattr__")))
    (mk_Building : PySem.W.makesIn K fC_Building = true)
    (kc_Building : PySem.W.keepIn K (.ref fC_Building) = true)
    (nf_Building__widths : PySem.W.findIn K (.ref fC_Building) "_widths" = some none)
    (nf_Building_ducts : PySem.W.findIn K (.ref fC_Building) "ducts" = some none)
    (nf_Building_rooms : PySem.W.findIn K (.ref fC_Building) "rooms" = some none)
    (io_Building : PySem.W.isClsIn K fC_Building = true)
    (iy_Building : PySem.W.typeIn K (.ref fC_Building) = some (.type "type"))
    (ih_Building : PySem.W.findIn K (.ref fC_Building) "__class__" = some (some (.builtin "object.__class__")))
    (in_Building : PySem.W.specialIn K (.builtin "object.__class__") "__get__" = some (some (.builtin "getset_descriptor.__get__")))
    (it_Building : PySem.W.takesIn K (.builtin "object.__class__") = some true)
    (im_Building : PySem.W.mroIn K fC_Building (.type "object") = some true)
    (a_law_draw : PySem.W.nsIn K mainGlobals "_law_draw" = some (some (.ref f_law_draw)))
    (l_law_draw : K.lookup f_law_draw = some ⟨oc_law_draw, od_law_draw, .func (PySem.W.fnOf "_law_draw" "_law_draw" (defArgs s_law_draw) (defBody s_law_draw) (defScope s_law_draw) .none kV_law_draw dc_law_draw pm_law_draw an_law_draw cd_law_draw ct_law_draw), sl_law_draw⟩)
    (c_law_draw : PySem.W.codeIn K cd_law_draw "_law_draw" = true)
    (k_law_draw : PySem.W.keepIn K (.ref f_law_draw) = true)
    (a_law_cell : PySem.W.nsIn K mainGlobals "_law_cell" = some (some (.ref f_law_cell)))
    (l_law_cell : K.lookup f_law_cell = some ⟨oc_law_cell, od_law_cell, .func (PySem.W.fnOf "_law_cell" "_law_cell" (defArgs s_law_cell) (defBody s_law_cell) (defScope s_law_cell) .none kV_law_cell dc_law_cell pm_law_cell an_law_cell cd_law_cell ct_law_cell), sl_law_cell⟩)
    (c_law_cell : PySem.W.codeIn K cd_law_cell "_law_cell" = true)
    (k_law_cell : PySem.W.keepIn K (.ref f_law_cell) = true)
    (a_law_ducts : PySem.W.nsIn K mainGlobals "_law_ducts" = some (some (.ref f_law_ducts)))
    (l_law_ducts : K.lookup f_law_ducts = some ⟨oc_law_ducts, od_law_ducts, .func (PySem.W.fnOf "_law_ducts" "_law_ducts" (defArgs s_law_ducts) (defBody s_law_ducts) (defScope s_law_ducts) .none kV_law_ducts dc_law_ducts pm_law_ducts an_law_ducts cd_law_ducts ct_law_ducts), sl_law_ducts⟩)
    (c_law_ducts : PySem.W.codeIn K cd_law_ducts "_law_ducts" = true)
    (k_law_ducts : PySem.W.keepIn K (.ref f_law_ducts) = true)
    (a_law_plan : PySem.W.nsIn K mainGlobals "_law_plan" = some (some (.ref f_law_plan)))
    (l_law_plan : K.lookup f_law_plan = some ⟨oc_law_plan, od_law_plan, .func (PySem.W.fnOf "_law_plan" "_law_plan" (defArgs s_law_plan) (defBody s_law_plan) (defScope s_law_plan) .none kV_law_plan dc_law_plan pm_law_plan an_law_plan cd_law_plan ct_law_plan), sl_law_plan⟩)
    (c_law_plan : PySem.W.codeIn K cd_law_plan "_law_plan" = true)
    (k_law_plan : PySem.W.keepIn K (.ref f_law_plan) = true)
    (a_require : PySem.W.nsIn K mainGlobals "require" = some (some (.ref f_require)))
    (l_require : K.lookup f_require = some ⟨oc_require, od_require, .func (PySem.W.fnOf "require" "require" (defArgs s_require) (defBody s_require) (defScope s_require) .none kV_require dc_require pm_require an_require cd_require ct_require), sl_require⟩)
    (c_require : PySem.W.codeIn K cd_require "require" = true)
    (k_require : PySem.W.keepIn K (.ref f_require) = true)
    (a_width_table : PySem.W.nsIn K mainGlobals "width_table" = some (some (.ref f_width_table)))
    (l_width_table : K.lookup f_width_table = some ⟨oc_width_table, od_width_table, .func (PySem.W.fnOf "width_table" "width_table" (defArgs s_width_table) (defBody s_width_table) (defScope s_width_table) .none kV_width_table dc_width_table pm_width_table an_width_table cd_width_table ct_width_table), sl_width_table⟩)
    (c_width_table : PySem.W.codeIn K cd_width_table "width_table" = true)
    (k_width_table : PySem.W.keepIn K (.ref f_width_table) = true)
    (a_is_integer : PySem.W.nsIn K mainGlobals "is_integer" = some (some (.ref f_is_integer)))
    (l_is_integer : K.lookup f_is_integer = some ⟨oc_is_integer, od_is_integer, .func (PySem.W.fnOf "is_integer" "is_integer" (defArgs s_is_integer) (defBody s_is_integer) (defScope s_is_integer) .none kV_is_integer dc_is_integer pm_is_integer an_is_integer cd_is_integer ct_is_integer), sl_is_integer⟩)
    (c_is_integer : PySem.W.codeIn K cd_is_integer "is_integer" = true)
    (k_is_integer : PySem.W.keepIn K (.ref f_is_integer) = true)
    (a_is_between : PySem.W.nsIn K mainGlobals "is_between" = some (some (.ref f_is_between)))
    (l_is_between : K.lookup f_is_between = some ⟨oc_is_between, od_is_between, .func (PySem.W.fnOf "is_between" "is_between" (defArgs s_is_between) (defBody s_is_between) (defScope s_is_between) .none kV_is_between dc_is_between pm_is_between an_is_between cd_is_between ct_is_between), sl_is_between⟩)
    (c_is_between : PySem.W.codeIn K cd_is_between "is_between" = true)
    (k_is_between : PySem.W.keepIn K (.ref f_is_between) = true)
    (a_is_table : PySem.W.nsIn K mainGlobals "is_table" = some (some (.ref f_is_table)))
    (l_is_table : K.lookup f_is_table = some ⟨oc_is_table, od_is_table, .func (PySem.W.fnOf "is_table" "is_table" (defArgs s_is_table) (defBody s_is_table) (defScope s_is_table) .none kV_is_table dc_is_table pm_is_table an_is_table cd_is_table ct_is_table), sl_is_table⟩)
    (c_is_table : PySem.W.codeIn K cd_is_table "is_table" = true)
    (k_is_table : PySem.W.keepIn K (.ref f_is_table) = true)
    (a_are_ducts : PySem.W.nsIn K mainGlobals "are_ducts" = some (some (.ref f_are_ducts)))
    (l_are_ducts : K.lookup f_are_ducts = some ⟨oc_are_ducts, od_are_ducts, .func (PySem.W.fnOf "are_ducts" "are_ducts" (defArgs s_are_ducts) (defBody s_are_ducts) (defScope s_are_ducts) .none kV_are_ducts dc_are_ducts pm_are_ducts an_are_ducts cd_are_ducts ct_are_ducts), sl_are_ducts⟩)
    (c_are_ducts : PySem.W.codeIn K cd_are_ducts "are_ducts" = true)
    (k_are_ducts : PySem.W.keepIn K (.ref f_are_ducts) = true)
    (a_Building_init : PySem.W.findIn K (.ref fC_Building) "__init__" = some (some (.ref f_Building_init)))
    (i_Building_init : PySem.W.isFn K (.ref f_Building_init) = true)
    (l_Building_init : K.lookup f_Building_init = some ⟨oc_Building_init, od_Building_init, .func (PySem.W.fnOf "__init__" "Building.__init__" (defArgs s_Building_init) (defBody s_Building_init) (defScope s_Building_init) .none kV_Building_init dc_Building_init pm_Building_init an_Building_init cd_Building_init ct_Building_init), sl_Building_init⟩)
    (c_Building_init : PySem.W.codeIn K cd_Building_init "Building.__init__" = true)
    (k_Building_init : PySem.W.keepIn K (.ref f_Building_init) = true)
    (a_law_numbers : PySem.W.nsIn K mainGlobals "_law_numbers" = some (some (.ref f_law_numbers)))
    (l_law_numbers : K.lookup f_law_numbers = some ⟨oc_law_numbers, od_law_numbers, .func (PySem.W.fnOf "_law_numbers" "_law_numbers" (defArgs s_law_numbers) (defBody s_law_numbers) (defScope s_law_numbers) .none kV_law_numbers dc_law_numbers pm_law_numbers an_law_numbers cd_law_numbers ct_law_numbers), sl_law_numbers⟩)
    (c_law_numbers : PySem.W.codeIn K cd_law_numbers "_law_numbers" = true)
    (k_law_numbers : PySem.W.keepIn K (.ref f_law_numbers) = true)
    (a_law_held : PySem.W.nsIn K mainGlobals "_law_held" = some (some (.ref f_law_held)))
    (l_law_held : K.lookup f_law_held = some ⟨oc_law_held, od_law_held, .func (PySem.W.fnOf "_law_held" "_law_held" (defArgs s_law_held) (defBody s_law_held) (defScope s_law_held) .none kV_law_held dc_law_held pm_law_held an_law_held cd_law_held ct_law_held), sl_law_held⟩)
    (c_law_held : PySem.W.codeIn K cd_law_held "_law_held" = true)
    (k_law_held : PySem.W.keepIn K (.ref f_law_held) = true)
    (a_law_with : PySem.W.nsIn K mainGlobals "_law_with" = some (some (.ref f_law_with)))
    (l_law_with : K.lookup f_law_with = some ⟨oc_law_with, od_law_with, .func (PySem.W.fnOf "_law_with" "_law_with" (defArgs s_law_with) (defBody s_law_with) (defScope s_law_with) .none kV_law_with dc_law_with pm_law_with an_law_with cd_law_with ct_law_with), sl_law_with⟩)
    (c_law_with : PySem.W.codeIn K cd_law_with "_law_with" = true)
    (k_law_with : PySem.W.keepIn K (.ref f_law_with) = true)
    (a_law_ints : PySem.W.nsIn K mainGlobals "_law_ints" = some (some (.ref f_law_ints)))
    (l_law_ints : K.lookup f_law_ints = some ⟨oc_law_ints, od_law_ints, .func (PySem.W.fnOf "_law_ints" "_law_ints" (defArgs s_law_ints) (defBody s_law_ints) (defScope s_law_ints) .none kV_law_ints dc_law_ints pm_law_ints an_law_ints cd_law_ints ct_law_ints), sl_law_ints⟩)
    (c_law_ints : PySem.W.codeIn K cd_law_ints "_law_ints" = true)
    (k_law_ints : PySem.W.keepIn K (.ref f_law_ints) = true)
    (a_law_ring : PySem.W.nsIn K mainGlobals "_law_ring" = some (some (.ref f_law_ring)))
    (l_law_ring : K.lookup f_law_ring = some ⟨oc_law_ring, od_law_ring, .func (PySem.W.fnOf "_law_ring" "_law_ring" (defArgs s_law_ring) (defBody s_law_ring) (defScope s_law_ring) .none kV_law_ring dc_law_ring pm_law_ring an_law_ring cd_law_ring ct_law_ring), sl_law_ring⟩)
    (c_law_ring : PySem.W.codeIn K cd_law_ring "_law_ring" = true)
    (k_law_ring : PySem.W.keepIn K (.ref f_law_ring) = true)
    (a_require_building : PySem.W.nsIn K mainGlobals "require_building" = some (some (.ref f_require_building)))
    (l_require_building : K.lookup f_require_building = some ⟨oc_require_building, od_require_building, .func (PySem.W.fnOf "require_building" "require_building" (defArgs s_require_building) (defBody s_require_building) (defScope s_require_building) .none kV_require_building dc_require_building pm_require_building an_require_building cd_require_building ct_require_building), sl_require_building⟩)
    (c_require_building : PySem.W.codeIn K cd_require_building "require_building" = true)
    (k_require_building : PySem.W.keepIn K (.ref f_require_building) = true)
    (a_are_bounds : PySem.W.nsIn K mainGlobals "are_bounds" = some (some (.ref f_are_bounds)))
    (l_are_bounds : K.lookup f_are_bounds = some ⟨oc_are_bounds, od_are_bounds, .func (PySem.W.fnOf "are_bounds" "are_bounds" (defArgs s_are_bounds) (defBody s_are_bounds) (defScope s_are_bounds) .none kV_are_bounds dc_are_bounds pm_are_bounds an_are_bounds cd_are_bounds ct_are_bounds), sl_are_bounds⟩)
    (c_are_bounds : PySem.W.codeIn K cd_are_bounds "are_bounds" = true)
    (k_are_bounds : PySem.W.keepIn K (.ref f_are_bounds) = true)
    (a_require_bounds : PySem.W.nsIn K mainGlobals "require_bounds" = some (some (.ref f_require_bounds)))
    (l_require_bounds : K.lookup f_require_bounds = some ⟨oc_require_bounds, od_require_bounds, .func (PySem.W.fnOf "require_bounds" "require_bounds" (defArgs s_require_bounds) (defBody s_require_bounds) (defScope s_require_bounds) .none kV_require_bounds dc_require_bounds pm_require_bounds an_require_bounds cd_require_bounds ct_require_bounds), sl_require_bounds⟩)
    (c_require_bounds : PySem.W.codeIn K cd_require_bounds "require_bounds" = true)
    (k_require_bounds : PySem.W.keepIn K (.ref f_require_bounds) = true)
    (a_require_costs : PySem.W.nsIn K mainGlobals "require_costs" = some (some (.ref f_require_costs)))
    (l_require_costs : K.lookup f_require_costs = some ⟨oc_require_costs, od_require_costs, .func (PySem.W.fnOf "require_costs" "require_costs" (defArgs s_require_costs) (defBody s_require_costs) (defScope s_require_costs) .none kV_require_costs dc_require_costs pm_require_costs an_require_costs cd_require_costs ct_require_costs), sl_require_costs⟩)
    (c_require_costs : PySem.W.codeIn K cd_require_costs "require_costs" = true)
    (k_require_costs : PySem.W.keepIn K (.ref f_require_costs) = true)
    (a_fits_bounds : PySem.W.nsIn K mainGlobals "fits_bounds" = some (some (.ref f_fits_bounds)))
    (l_fits_bounds : K.lookup f_fits_bounds = some ⟨oc_fits_bounds, od_fits_bounds, .func (PySem.W.fnOf "fits_bounds" "fits_bounds" (defArgs s_fits_bounds) (defBody s_fits_bounds) (defScope s_fits_bounds) .none kV_fits_bounds dc_fits_bounds pm_fits_bounds an_fits_bounds cd_fits_bounds ct_fits_bounds), sl_fits_bounds⟩)
    (c_fits_bounds : PySem.W.codeIn K cd_fits_bounds "fits_bounds" = true)
    (k_fits_bounds : PySem.W.keepIn K (.ref f_fits_bounds) = true)
    (a_require_setting : PySem.W.nsIn K mainGlobals "require_setting" = some (some (.ref f_require_setting)))
    (l_require_setting : K.lookup f_require_setting = some ⟨oc_require_setting, od_require_setting, .func (PySem.W.fnOf "require_setting" "require_setting" (defArgs s_require_setting) (defBody s_require_setting) (defScope s_require_setting) .none kV_require_setting dc_require_setting pm_require_setting an_require_setting cd_require_setting ct_require_setting), sl_require_setting⟩)
    (c_require_setting : PySem.W.codeIn K cd_require_setting "require_setting" = true)
    (k_require_setting : PySem.W.keepIn K (.ref f_require_setting) = true)
    (a_is_paper : PySem.W.nsIn K mainGlobals "is_paper" = some (some (.ref f_is_paper)))
    (l_is_paper : K.lookup f_is_paper = some ⟨oc_is_paper, od_is_paper, .func (PySem.W.fnOf "is_paper" "is_paper" (defArgs s_is_paper) (defBody s_is_paper) (defScope s_is_paper) .none kV_is_paper dc_is_paper pm_is_paper an_is_paper cd_is_paper ct_is_paper), sl_is_paper⟩)
    (c_is_paper : PySem.W.codeIn K cd_is_paper "is_paper" = true)
    (k_is_paper : PySem.W.keepIn K (.ref f_is_paper) = true)
    (a_is_integer_table : PySem.W.nsIn K mainGlobals "is_integer_table" = some (some (.ref f_is_integer_table)))
    (l_is_integer_table : K.lookup f_is_integer_table = some ⟨oc_is_integer_table, od_is_integer_table, .func (PySem.W.fnOf "is_integer_table" "is_integer_table" (defArgs s_is_integer_table) (defBody s_is_integer_table) (defScope s_is_integer_table) .none kV_is_integer_table dc_is_integer_table pm_is_integer_table an_is_integer_table cd_is_integer_table ct_is_integer_table), sl_is_integer_table⟩)
    (c_is_integer_table : PySem.W.codeIn K cd_is_integer_table "is_integer_table" = true)
    (k_is_integer_table : PySem.W.keepIn K (.ref f_is_integer_table) = true)
    (a_is_integer_tuple : PySem.W.nsIn K mainGlobals "is_integer_tuple" = some (some (.ref f_is_integer_tuple)))
    (l_is_integer_tuple : K.lookup f_is_integer_tuple = some ⟨oc_is_integer_tuple, od_is_integer_tuple, .func (PySem.W.fnOf "is_integer_tuple" "is_integer_tuple" (defArgs s_is_integer_tuple) (defBody s_is_integer_tuple) (defScope s_is_integer_tuple) .none kV_is_integer_tuple dc_is_integer_tuple pm_is_integer_tuple an_is_integer_tuple cd_is_integer_tuple ct_is_integer_tuple), sl_is_integer_tuple⟩)
    (c_is_integer_tuple : PySem.W.codeIn K cd_is_integer_tuple "is_integer_tuple" = true)
    (k_is_integer_tuple : PySem.W.keepIn K (.ref f_is_integer_tuple) = true)
    (a_hold : PySem.W.nsIn K mainGlobals "hold" = some (some (.ref f_hold)))
    (l_hold : K.lookup f_hold = some ⟨oc_hold, od_hold, .func (PySem.W.fnOf "hold" "hold" (defArgs s_hold) (defBody s_hold) (defScope s_hold) .none kV_hold dc_hold pm_hold an_hold cd_hold ct_hold), sl_hold⟩)
    (c_hold : PySem.W.codeIn K cd_hold "hold" = true)
    (k_hold : PySem.W.keepIn K (.ref f_hold) = true)
    (a_step_ends : PySem.W.nsIn K mainGlobals "step_ends" = some (some (.ref f_step_ends)))
    (l_step_ends : K.lookup f_step_ends = some ⟨oc_step_ends, od_step_ends, .func (PySem.W.fnOf "step_ends" "step_ends" (defArgs s_step_ends) (defBody s_step_ends) (defScope s_step_ends) .none kV_step_ends dc_step_ends pm_step_ends an_step_ends cd_step_ends ct_step_ends), sl_step_ends⟩)
    (c_step_ends : PySem.W.codeIn K cd_step_ends "step_ends" = true)
    (k_step_ends : PySem.W.keepIn K (.ref f_step_ends) = true)
    (a_is_tuple : PySem.W.nsIn K mainGlobals "is_tuple" = some (some (.ref f_is_tuple)))
    (l_is_tuple : K.lookup f_is_tuple = some ⟨oc_is_tuple, od_is_tuple, .func (PySem.W.fnOf "is_tuple" "is_tuple" (defArgs s_is_tuple) (defBody s_is_tuple) (defScope s_is_tuple) .none kV_is_tuple dc_is_tuple pm_is_tuple an_is_tuple cd_is_tuple ct_is_tuple), sl_is_tuple⟩)
    (c_is_tuple : PySem.W.codeIn K cd_is_tuple "is_tuple" = true)
    (k_is_tuple : PySem.W.keepIn K (.ref f_is_tuple) = true)
    (a_is_open_step : PySem.W.nsIn K mainGlobals "is_open_step" = some (some (.ref f_is_open_step)))
    (l_is_open_step : K.lookup f_is_open_step = some ⟨oc_is_open_step, od_is_open_step, .func (PySem.W.fnOf "is_open_step" "is_open_step" (defArgs s_is_open_step) (defBody s_is_open_step) (defScope s_is_open_step) .none kV_is_open_step dc_is_open_step pm_is_open_step an_is_open_step cd_is_open_step ct_is_open_step), sl_is_open_step⟩)
    (c_is_open_step : PySem.W.codeIn K cd_is_open_step "is_open_step" = true)
    (k_is_open_step : PySem.W.keepIn K (.ref f_is_open_step) = true)
    (a_is_cheaper_ring : PySem.W.nsIn K mainGlobals "is_cheaper_ring" = some (some (.ref f_is_cheaper_ring)))
    (l_is_cheaper_ring : K.lookup f_is_cheaper_ring = some ⟨oc_is_cheaper_ring, od_is_cheaper_ring, .func (PySem.W.fnOf "is_cheaper_ring" "is_cheaper_ring" (defArgs s_is_cheaper_ring) (defBody s_is_cheaper_ring) (defScope s_is_cheaper_ring) .none kV_is_cheaper_ring dc_is_cheaper_ring pm_is_cheaper_ring an_is_cheaper_ring cd_is_cheaper_ring ct_is_cheaper_ring), sl_is_cheaper_ring⟩)
    (c_is_cheaper_ring : PySem.W.codeIn K cd_is_cheaper_ring "is_cheaper_ring" = true)
    (k_is_cheaper_ring : PySem.W.keepIn K (.ref f_is_cheaper_ring) = true)
    (a_shows_price : PySem.W.nsIn K mainGlobals "shows_price" = some (some (.ref f_shows_price)))
    (l_shows_price : K.lookup f_shows_price = some ⟨oc_shows_price, od_shows_price, .func (PySem.W.fnOf "shows_price" "shows_price" (defArgs s_shows_price) (defBody s_shows_price) (defScope s_shows_price) .none kV_shows_price dc_shows_price pm_shows_price an_shows_price cd_shows_price ct_shows_price), sl_shows_price⟩)
    (c_shows_price : PySem.W.codeIn K cd_shows_price "shows_price" = true)
    (k_shows_price : PySem.W.keepIn K (.ref f_shows_price) = true)
    (a_law_says : PySem.W.nsIn K mainGlobals "_law_says" = some (some (.ref f_law_says)))
    (l_law_says : K.lookup f_law_says = some ⟨oc_law_says, od_law_says, .func (PySem.W.fnOf "_law_says" "_law_says" (defArgs s_law_says) (defBody s_law_says) (defScope s_law_says) .none kV_law_says dc_law_says pm_law_says an_law_says cd_law_says ct_law_says), sl_law_says⟩)
    (c_law_says : PySem.W.codeIn K cd_law_says "_law_says" = true)
    (k_law_says : PySem.W.keepIn K (.ref f_law_says) = true)
    (a_law_rings : PySem.W.nsIn K mainGlobals "_law_rings" = some (some (.ref f_law_rings)))
    (l_law_rings : K.lookup f_law_rings = some ⟨oc_law_rings, od_law_rings, .func (PySem.W.fnOf "_law_rings" "_law_rings" (defArgs s_law_rings) (defBody s_law_rings) (defScope s_law_rings) .none kV_law_rings dc_law_rings pm_law_rings an_law_rings cd_law_rings ct_law_rings), sl_law_rings⟩)
    (c_law_rings : PySem.W.codeIn K cd_law_rings "_law_rings" = true)
    (k_law_rings : PySem.W.keepIn K (.ref f_law_rings) = true)
    (a_law_holds : PySem.W.nsIn K mainGlobals "_law_holds" = some (some (.ref f_law_holds)))
    (l_law_holds : K.lookup f_law_holds = some ⟨oc_law_holds, od_law_holds, .func (PySem.W.fnOf "_law_holds" "_law_holds" (defArgs s_law_holds) (defBody s_law_holds) (defScope s_law_holds) .none kV_law_holds dc_law_holds pm_law_holds an_law_holds cd_law_holds ct_law_holds), sl_law_holds⟩)
    (c_law_holds : PySem.W.codeIn K cd_law_holds "_law_holds" = true)
    (k_law_holds : PySem.W.keepIn K (.ref f_law_holds) = true)
    (a_law_pressed : PySem.W.nsIn K mainGlobals "_law_pressed" = some (some (.ref f_law_pressed)))
    (l_law_pressed : K.lookup f_law_pressed = some ⟨oc_law_pressed, od_law_pressed, .func (PySem.W.fnOf "_law_pressed" "_law_pressed" (defArgs s_law_pressed) (defBody s_law_pressed) (defScope s_law_pressed) .none kV_law_pressed dc_law_pressed pm_law_pressed an_law_pressed cd_law_pressed ct_law_pressed), sl_law_pressed⟩)
    (c_law_pressed : PySem.W.codeIn K cd_law_pressed "_law_pressed" = true)
    (k_law_pressed : PySem.W.keepIn K (.ref f_law_pressed) = true)
    (a_law_gains : PySem.W.nsIn K mainGlobals "_law_gains" = some (some (.ref f_law_gains)))
    (l_law_gains : K.lookup f_law_gains = some ⟨oc_law_gains, od_law_gains, .func (PySem.W.fnOf "_law_gains" "_law_gains" (defArgs s_law_gains) (defBody s_law_gains) (defScope s_law_gains) .none kV_law_gains dc_law_gains pm_law_gains an_law_gains cd_law_gains ct_law_gains), sl_law_gains⟩)
    (c_law_gains : PySem.W.codeIn K cd_law_gains "_law_gains" = true)
    (k_law_gains : PySem.W.keepIn K (.ref f_law_gains) = true)
    (a_require_needs : PySem.W.nsIn K mainGlobals "require_needs" = some (some (.ref f_require_needs)))
    (l_require_needs : K.lookup f_require_needs = some ⟨oc_require_needs, od_require_needs, .func (PySem.W.fnOf "require_needs" "require_needs" (defArgs s_require_needs) (defBody s_require_needs) (defScope s_require_needs) .none kV_require_needs dc_require_needs pm_require_needs an_require_needs cd_require_needs ct_require_needs), sl_require_needs⟩)
    (c_require_needs : PySem.W.codeIn K cd_require_needs "require_needs" = true)
    (k_require_needs : PySem.W.keepIn K (.ref f_require_needs) = true)
    (a_range_of_gain : PySem.W.nsIn K mainGlobals "range_of_gain" = some (some (.ref f_range_of_gain)))
    (l_range_of_gain : K.lookup f_range_of_gain = some ⟨oc_range_of_gain, od_range_of_gain, .func (PySem.W.fnOf "range_of_gain" "range_of_gain" (defArgs s_range_of_gain) (defBody s_range_of_gain) (defScope s_range_of_gain) .none kV_range_of_gain dc_range_of_gain pm_range_of_gain an_range_of_gain cd_range_of_gain ct_range_of_gain), sl_range_of_gain⟩)
    (c_range_of_gain : PySem.W.codeIn K cd_range_of_gain "range_of_gain" = true)
    (k_range_of_gain : PySem.W.keepIn K (.ref f_range_of_gain) = true)
    (a_are_places : PySem.W.nsIn K mainGlobals "are_places" = some (some (.ref f_are_places)))
    (l_are_places : K.lookup f_are_places = some ⟨oc_are_places, od_are_places, .func (PySem.W.fnOf "are_places" "are_places" (defArgs s_are_places) (defBody s_are_places) (defScope s_are_places) .none kV_are_places dc_are_places pm_are_places an_are_places cd_are_places ct_are_places), sl_are_places⟩)
    (c_are_places : PySem.W.codeIn K cd_are_places "are_places" = true)
    (k_are_places : PySem.W.keepIn K (.ref f_are_places) = true)
    (a_is_place_set : PySem.W.nsIn K mainGlobals "is_place_set" = some (some (.ref f_is_place_set)))
    (l_is_place_set : K.lookup f_is_place_set = some ⟨oc_is_place_set, od_is_place_set, .func (PySem.W.fnOf "is_place_set" "is_place_set" (defArgs s_is_place_set) (defBody s_is_place_set) (defScope s_is_place_set) .none kV_is_place_set dc_is_place_set pm_is_place_set an_is_place_set cd_is_place_set ct_is_place_set), sl_is_place_set⟩)
    (c_is_place_set : PySem.W.codeIn K cd_is_place_set "is_place_set" = true)
    (k_is_place_set : PySem.W.keepIn K (.ref f_is_place_set) = true)
    (a_is_room_set : PySem.W.nsIn K mainGlobals "is_room_set" = some (some (.ref f_is_room_set)))
    (l_is_room_set : K.lookup f_is_room_set = some ⟨oc_is_room_set, od_is_room_set, .func (PySem.W.fnOf "is_room_set" "is_room_set" (defArgs s_is_room_set) (defBody s_is_room_set) (defScope s_is_room_set) .none kV_is_room_set dc_is_room_set pm_is_room_set an_is_room_set cd_is_room_set ct_is_room_set), sl_is_room_set⟩)
    (c_is_room_set : PySem.W.codeIn K cd_is_room_set "is_room_set" = true)
    (k_is_room_set : PySem.W.keepIn K (.ref f_is_room_set) = true)
    (a_is_refused_set : PySem.W.nsIn K mainGlobals "is_refused_set" = some (some (.ref f_is_refused_set)))
    (l_is_refused_set : K.lookup f_is_refused_set = some ⟨oc_is_refused_set, od_is_refused_set, .func (PySem.W.fnOf "is_refused_set" "is_refused_set" (defArgs s_is_refused_set) (defBody s_is_refused_set) (defScope s_is_refused_set) .none kV_is_refused_set dc_is_refused_set pm_is_refused_set an_is_refused_set cd_is_refused_set ct_is_refused_set), sl_is_refused_set⟩)
    (c_is_refused_set : PySem.W.codeIn K cd_is_refused_set "is_refused_set" = true)
    (k_is_refused_set : PySem.W.keepIn K (.ref f_is_refused_set) = true)
    (a_gain_list : PySem.W.nsIn K mainGlobals "gain_list" = some (some (.ref f_gain_list)))
    (l_gain_list : K.lookup f_gain_list = some ⟨oc_gain_list, od_gain_list, .func (PySem.W.fnOf "gain_list" "gain_list" (defArgs s_gain_list) (defBody s_gain_list) (defScope s_gain_list) .none kV_gain_list dc_gain_list pm_gain_list an_gain_list cd_gain_list ct_gain_list), sl_gain_list⟩)
    (c_gain_list : PySem.W.codeIn K cd_gain_list "gain_list" = true)
    (k_gain_list : PySem.W.keepIn K (.ref f_gain_list) = true)
    (a_serves : PySem.W.nsIn K mainGlobals "serves" = some (some (.ref f_serves)))
    (l_serves : K.lookup f_serves = some ⟨oc_serves, od_serves, .func (PySem.W.fnOf "serves" "serves" (defArgs s_serves) (defBody s_serves) (defScope s_serves) .none kV_serves dc_serves pm_serves an_serves cd_serves ct_serves), sl_serves⟩)
    (c_serves : PySem.W.codeIn K cd_serves "serves" = true)
    (k_serves : PySem.W.keepIn K (.ref f_serves) = true)
    (a_shows_cheapest : PySem.W.nsIn K mainGlobals "shows_cheapest" = some (some (.ref f_shows_cheapest)))
    (l_shows_cheapest : K.lookup f_shows_cheapest = some ⟨oc_shows_cheapest, od_shows_cheapest, .func (PySem.W.fnOf "shows_cheapest" "shows_cheapest" (defArgs s_shows_cheapest) (defBody s_shows_cheapest) (defScope s_shows_cheapest) .none kV_shows_cheapest dc_shows_cheapest pm_shows_cheapest an_shows_cheapest cd_shows_cheapest ct_shows_cheapest), sl_shows_cheapest⟩)
    (c_shows_cheapest : PySem.W.codeIn K cd_shows_cheapest "shows_cheapest" = true)
    (k_shows_cheapest : PySem.W.keepIn K (.ref f_shows_cheapest) = true)
    (a_law_cheap : PySem.W.nsIn K mainGlobals "_law_cheap" = some (some (.ref f_law_cheap)))
    (l_law_cheap : K.lookup f_law_cheap = some ⟨oc_law_cheap, od_law_cheap, .func (PySem.W.fnOf "_law_cheap" "_law_cheap" (defArgs s_law_cheap) (defBody s_law_cheap) (defScope s_law_cheap) .none kV_law_cheap dc_law_cheap pm_law_cheap an_law_cheap cd_law_cheap ct_law_cheap), sl_law_cheap⟩)
    (c_law_cheap : PySem.W.codeIn K cd_law_cheap "_law_cheap" = true)
    (k_law_cheap : PySem.W.keepIn K (.ref f_law_cheap) = true)
    (a_law_round : PySem.W.nsIn K mainGlobals "_law_round" = some (some (.ref f_law_round)))
    (l_law_round : K.lookup f_law_round = some ⟨oc_law_round, od_law_round, .func (PySem.W.fnOf "_law_round" "_law_round" (defArgs s_law_round) (defBody s_law_round) (defScope s_law_round) .none kV_law_round dc_law_round pm_law_round an_law_round cd_law_round ct_law_round), sl_law_round⟩)
    (c_law_round : PySem.W.codeIn K cd_law_round "_law_round" = true)
    (k_law_round : PySem.W.keepIn K (.ref f_law_round) = true)
    (a_law : PySem.W.nsIn K mainGlobals "law" = some (some (.ref f_law)))
    (l_law : K.lookup f_law = some ⟨oc_law, od_law, .func (PySem.W.fnOf "law" "law" (defArgs s_law) (defBody s_law) (defScope s_law) .none kV_law dc_law pm_law an_law cd_law ct_law), sl_law⟩)
    (c_law : PySem.W.codeIn K cd_law "law" = true)
    (k_law : PySem.W.keepIn K (.ref f_law) = true)
    (z_bool : PySem.W.nsIn K mainGlobals "bool" = some none)
    (z_enumerate : PySem.W.nsIn K mainGlobals "enumerate" = some none)
    (z_int : PySem.W.nsIn K mainGlobals "int" = some none)
    (z_isinstance : PySem.W.nsIn K mainGlobals "isinstance" = some none)
    (z_len : PySem.W.nsIn K mainGlobals "len" = some none)
    (z_list : PySem.W.nsIn K mainGlobals "list" = some none)
    (z_range : PySem.W.nsIn K mainGlobals "range" = some none)
    (z_sorted : PySem.W.nsIn K mainGlobals "sorted" = some none)
    (z_str : PySem.W.nsIn K mainGlobals "str" = some none)
    (z_sum : PySem.W.nsIn K mainGlobals "sum" = some none)
    (z_tuple : PySem.W.nsIn K mainGlobals "tuple" = some none)
    (z_zip : PySem.W.nsIn K mainGlobals "zip" = some none)
    (g_MOST_COST : PySem.W.nsIn K mainGlobals "MOST_COST" = some (some (.int 9 t_MOST_COST)))
    (g_MOST_DUCTS : PySem.W.nsIn K mainGlobals "MOST_DUCTS" = some (some (.int 16 t_MOST_DUCTS)))
    (g_MOST_FLOW : PySem.W.nsIn K mainGlobals "MOST_FLOW" = some (some (.int 12 t_MOST_FLOW)))
    (g_MOST_ROOMS : PySem.W.nsIn K mainGlobals "MOST_ROOMS" = some (some (.int 8 t_MOST_ROOMS)))
    (g_MOST_UNITS : PySem.W.nsIn K mainGlobals "MOST_UNITS" = some (some (.int 200 t_MOST_UNITS)))
    (g_MOST_WIDTH : PySem.W.nsIn K mainGlobals "MOST_WIDTH" = some (some (.int 6 t_MOST_WIDTH))) :
    ∃ fd : FuncData, (∀ (s : Shared) (v : Value), BindsTo s fd ⟨[v], []⟩ [("script", v)]) ∧ ∀ base : Heap, K.In base → base.Ns mainGlobals mg → FnOk l.prog w K mg base CX0 9 fa fd ["script"] (spTrue K) := by
  have e := hfa.symm.trans (PySem.W.mg_of X G a_law)
  cases e
  obtain ⟨C, hC⟩ : ∃ C : Str → Addr, C "Building" = fC_Building ∧ True := ⟨fun x => if x = "Building" then fC_Building else 0, by simp (config := { decide := true }), trivial⟩
  obtain ⟨e_Building, _⟩ := hC
  subst e_Building
  have TX : Txt K mg C := ⟨PySem.W.mg_none_of X G z_bool, PySem.W.mg_none_of X G z_enumerate, PySem.W.mg_none_of X G z_int, PySem.W.mg_none_of X G z_isinstance, PySem.W.mg_none_of X G z_len, PySem.W.mg_none_of X G z_list, PySem.W.mg_none_of X G z_range, PySem.W.mg_none_of X G z_sorted, PySem.W.mg_none_of X G z_str, PySem.W.mg_none_of X G z_sum, PySem.W.mg_none_of X G z_tuple, PySem.W.mg_none_of X G z_zip, ⟨_, PySem.W.mg_of X G g_MOST_COST⟩, ⟨_, PySem.W.mg_of X G g_MOST_DUCTS⟩, ⟨_, PySem.W.mg_of X G g_MOST_FLOW⟩, ⟨_, PySem.W.mg_of X G g_MOST_ROOMS⟩, ⟨_, PySem.W.mg_of X G g_MOST_UNITS⟩, ⟨_, PySem.W.mg_of X G g_MOST_WIDTH⟩, ⟨pg_Building, hd_Building, po_Building, sa_Building⟩, PySem.W.mg_of X G aC_Building, nf_Building__widths, nf_Building_ducts, nf_Building_rooms, ⟨kit_ty_no io_Building iy_Building, ⟨pg_Building, hd_Building, po_Building, sa_Building⟩, ih_Building, in_Building, it_Building, im_Building⟩⟩
  have F_law_draw := fun_mk (st := s_law_draw) l_law_draw c_law_draw k_law_draw
  have b_law_draw := F_law_draw.binds (ps := ["cell", "bounds"]) fun _ _ _ _ _ _ us hl => match us, hl with | [_, _], _ => rfl
  have F_law_cell := fun_mk (st := s_law_cell) l_law_cell c_law_cell k_law_cell
  have b_law_cell := F_law_cell.binds (ps := ["script", "k"]) fun _ _ _ _ _ _ us hl => match us, hl with | [_, _], _ => rfl
  have F_law_ducts := fun_mk (st := s_law_ducts) l_law_ducts c_law_ducts k_law_ducts
  have b_law_ducts := F_law_ducts.binds (ps := ["cell", "rooms", "joined", "extra", "most"]) fun _ _ _ _ _ _ us hl => match us, hl with | [_, _, _, _, _], _ => rfl
  have F_law_plan := fun_mk (st := s_law_plan) l_law_plan c_law_plan k_law_plan
  have b_law_plan := F_law_plan.binds (ps := ["script", "at", "most_rooms", "most_extra", "most_width"]) fun _ _ _ _ _ _ us hl => match us, hl with | [_, _, _, _, _], _ => rfl
  have F_require := fun_mk (st := s_require) l_require c_require k_require
  have b_require := F_require.binds (ps := ["holds", "name"]) fun _ _ _ _ _ _ us hl => match us, hl with | [_, _], _ => rfl
  have F_width_table := fun_mk (st := s_width_table) l_width_table c_width_table k_width_table
  have b_width_table := F_width_table.binds (ps := ["rooms", "ducts"]) fun _ _ _ _ _ _ us hl => match us, hl with | [_, _], _ => rfl
  have F_is_integer := fun_mk (st := s_is_integer) l_is_integer c_is_integer k_is_integer
  have b_is_integer := F_is_integer.binds (ps := ["value"]) fun _ _ _ _ _ _ us hl => match us, hl with | [_], _ => rfl
  have F_is_between := fun_mk (st := s_is_between) l_is_between c_is_between k_is_between
  have b_is_between := F_is_between.binds (ps := ["value", "least", "most"]) fun _ _ _ _ _ _ us hl => match us, hl with | [_, _, _], _ => rfl
  have F_is_table := fun_mk (st := s_is_table) l_is_table c_is_table k_is_table
  have b_is_table := F_is_table.binds (ps := ["value", "size", "least", "most"]) fun _ _ _ _ _ _ us hl => match us, hl with | [_, _, _, _], _ => rfl
  have F_are_ducts := fun_mk (st := s_are_ducts) l_are_ducts c_are_ducts k_are_ducts
  have b_are_ducts := F_are_ducts.binds (ps := ["value", "rooms"]) fun _ _ _ _ _ _ us hl => match us, hl with | [_, _], _ => rfl
  have F_Building_init := fun_mk (st := s_Building_init) l_Building_init c_Building_init k_Building_init
  have b_Building_init := F_Building_init.binds (ps := ["self", "rooms", "ducts"]) fun _ _ _ _ _ _ us hl => match us, hl with | [_, _, _], _ => rfl
  have F_law_numbers := fun_mk (st := s_law_numbers) l_law_numbers c_law_numbers k_law_numbers
  have b_law_numbers := F_law_numbers.binds (ps := ["cell", "count", "least", "most"]) fun _ _ _ _ _ _ us hl => match us, hl with | [_, _, _, _], _ => rfl
  have F_law_held := fun_mk (st := s_law_held) l_law_held c_law_held k_law_held
  have b_law_held := F_law_held.binds (ps := ["script", "ducts", "pressures"]) fun _ _ _ _ _ _ us hl => match us, hl with | [_, _, _], _ => rfl
  have F_law_with := fun_mk (st := s_law_with) l_law_with c_law_with k_law_with
  have b_law_with := F_law_with.binds (ps := ["values", "place", "value"]) fun _ _ _ _ _ _ us hl => match us, hl with | [_, _, _], _ => rfl
  have F_law_ints := fun_mk (st := s_law_ints) l_law_ints c_law_ints k_law_ints
  have b_law_ints := F_law_ints.binds (ps := ["value", "size"]) fun _ _ _ _ _ _ us hl => match us, hl with | [_, _], _ => rfl
  have F_law_ring := fun_mk (st := s_law_ring) l_law_ring c_law_ring k_law_ring
  have b_law_ring := F_law_ring.binds (ps := ["ducts", "bounds", "costs", "stream", "ring"]) fun _ _ _ _ _ _ us hl => match us, hl with | [_, _, _, _, _], _ => rfl
  have F_require_building := fun_mk (st := s_require_building) l_require_building c_require_building k_require_building
  have b_require_building := F_require_building.binds (ps := ["building"]) fun _ _ _ _ _ _ us hl => match us, hl with | [_], _ => rfl
  have F_are_bounds := fun_mk (st := s_are_bounds) l_are_bounds c_are_bounds k_are_bounds
  have b_are_bounds := F_are_bounds.binds (ps := ["building", "value"]) fun _ _ _ _ _ _ us hl => match us, hl with | [_, _], _ => rfl
  have F_require_bounds := fun_mk (st := s_require_bounds) l_require_bounds c_require_bounds k_require_bounds
  have b_require_bounds := F_require_bounds.binds (ps := ["building", "bounds"]) fun _ _ _ _ _ _ us hl => match us, hl with | [_, _], _ => rfl
  have F_require_costs := fun_mk (st := s_require_costs) l_require_costs c_require_costs k_require_costs
  have b_require_costs := F_require_costs.binds (ps := ["building", "costs"]) fun _ _ _ _ _ _ us hl => match us, hl with | [_, _], _ => rfl
  have F_fits_bounds := fun_mk (st := s_fits_bounds) l_fits_bounds c_fits_bounds k_fits_bounds
  have b_fits_bounds := F_fits_bounds.binds (ps := ["bounds", "value"]) fun _ _ _ _ _ _ us hl => match us, hl with | [_, _], _ => rfl
  have F_require_setting := fun_mk (st := s_require_setting) l_require_setting c_require_setting k_require_setting
  have b_require_setting := F_require_setting.binds (ps := ["building", "bounds", "costs", "stream"]) fun _ _ _ _ _ _ us hl => match us, hl with | [_, _, _, _], _ => rfl
  have F_is_paper := fun_mk (st := s_is_paper) l_is_paper c_is_paper k_is_paper
  have b_is_paper := F_is_paper.binds (ps := ["value", "kind", "size"]) fun _ _ _ _ _ _ us hl => match us, hl with | [_, _, _], _ => rfl
  have F_is_integer_table := fun_mk (st := s_is_integer_table) l_is_integer_table c_is_integer_table k_is_integer_table
  have b_is_integer_table := F_is_integer_table.binds (ps := ["value", "size"]) fun _ _ _ _ _ _ us hl => match us, hl with | [_, _], _ => rfl
  have F_is_integer_tuple := fun_mk (st := s_is_integer_tuple) l_is_integer_tuple c_is_integer_tuple k_is_integer_tuple
  have b_is_integer_tuple := F_is_integer_tuple.binds (ps := ["value", "size"]) fun _ _ _ _ _ _ us hl => match us, hl with | [_, _], _ => rfl
  have F_hold := fun_mk (st := s_hold) l_hold c_hold k_hold
  have b_hold := F_hold.binds (ps := ["building", "bounds", "costs", "stream", "value"]) fun _ _ _ _ _ _ us hl => match us, hl with | [_, _, _, _, _], _ => rfl
  have F_step_ends := fun_mk (st := s_step_ends) l_step_ends c_step_ends k_step_ends
  have b_step_ends := F_step_ends.binds (ps := ["building", "step"]) fun _ _ _ _ _ _ us hl => match us, hl with | [_, _], _ => rfl
  have F_is_tuple := fun_mk (st := s_is_tuple) l_is_tuple c_is_tuple k_is_tuple
  have b_is_tuple := F_is_tuple.binds (ps := ["value", "size", "least", "most"]) fun _ _ _ _ _ _ us hl => match us, hl with | [_, _, _, _], _ => rfl
  have F_is_open_step := fun_mk (st := s_is_open_step) l_is_open_step c_is_open_step k_is_open_step
  have b_is_open_step := F_is_open_step.binds (ps := ["building", "bounds", "stream", "value"]) fun _ _ _ _ _ _ us hl => match us, hl with | [_, _, _, _], _ => rfl
  have F_is_cheaper_ring := fun_mk (st := s_is_cheaper_ring) l_is_cheaper_ring c_is_cheaper_ring k_is_cheaper_ring
  have b_is_cheaper_ring := F_is_cheaper_ring.binds (ps := ["building", "bounds", "costs", "stream", "value"]) fun _ _ _ _ _ _ us hl => match us, hl with | [_, _, _, _, _], _ => rfl
  have F_shows_price := fun_mk (st := s_shows_price) l_shows_price c_shows_price k_shows_price
  have b_shows_price := F_shows_price.binds (ps := ["building", "bounds", "costs", "stream", "paper"]) fun _ _ _ _ _ _ us hl => match us, hl with | [_, _, _, _, _], _ => rfl
  have F_law_says := fun_mk (st := s_law_says) l_law_says c_law_says k_law_says
  have b_law_says := F_law_says.binds (ps := ["told", "due"]) fun _ _ _ _ _ _ us hl => match us, hl with | [_, _], _ => rfl
  have F_law_rings := fun_mk (st := s_law_rings) l_law_rings c_law_rings k_law_rings
  have b_law_rings := F_law_rings.binds (ps := ["script", "plan"]) fun _ _ _ _ _ _ us hl => match us, hl with | [_, _], _ => rfl
  have F_law_holds := fun_mk (st := s_law_holds) l_law_holds c_law_holds k_law_holds
  have b_law_holds := F_law_holds.binds (ps := ["ducts", "bounds", "costs", "stream", "pressures"]) fun _ _ _ _ _ _ us hl => match us, hl with | [_, _, _, _, _], _ => rfl
  have F_law_pressed := fun_mk (st := s_law_pressed) l_law_pressed c_law_pressed k_law_pressed
  have b_law_pressed := F_law_pressed.binds (ps := ["building", "ducts", "bounds", "costs", "stream", "pressures"]) fun _ _ _ _ _ _ us hl => match us, hl with | [_, _, _, _, _, _], _ => rfl
  have F_law_gains := fun_mk (st := s_law_gains) l_law_gains c_law_gains k_law_gains
  have b_law_gains := F_law_gains.binds (ps := ["rooms", "ducts", "stream"]) fun _ _ _ _ _ _ us hl => match us, hl with | [_, _, _], _ => rfl
  have F_require_needs := fun_mk (st := s_require_needs) l_require_needs c_require_needs k_require_needs
  have b_require_needs := F_require_needs.binds (ps := ["building", "needs"]) fun _ _ _ _ _ _ us hl => match us, hl with | [_, _], _ => rfl
  have F_range_of_gain := fun_mk (st := s_range_of_gain) l_range_of_gain c_range_of_gain k_range_of_gain
  have b_range_of_gain := F_range_of_gain.binds (ps := ["building", "bounds", "rooms"]) fun _ _ _ _ _ _ us hl => match us, hl with | [_, _, _], _ => rfl
  have F_are_places := fun_mk (st := s_are_places) l_are_places c_are_places k_are_places
  have b_are_places := F_are_places.binds (ps := ["value", "count"]) fun _ _ _ _ _ _ us hl => match us, hl with | [_, _], _ => rfl
  have F_is_place_set := fun_mk (st := s_is_place_set) l_is_place_set c_is_place_set k_is_place_set
  have b_is_place_set := F_is_place_set.binds (ps := ["value", "count"]) fun _ _ _ _ _ _ us hl => match us, hl with | [_, _], _ => rfl
  have F_is_room_set := fun_mk (st := s_is_room_set) l_is_room_set c_is_room_set k_is_room_set
  have b_is_room_set := F_is_room_set.binds (ps := ["value", "rooms"]) fun _ _ _ _ _ _ us hl => match us, hl with | [_, _], _ => rfl
  have F_is_refused_set := fun_mk (st := s_is_refused_set) l_is_refused_set c_is_refused_set k_is_refused_set
  have b_is_refused_set := F_is_refused_set.binds (ps := ["building", "bounds", "needs", "paper"]) fun _ _ _ _ _ _ us hl => match us, hl with | [_, _, _, _], _ => rfl
  have F_gain_list := fun_mk (st := s_gain_list) l_gain_list c_gain_list k_gain_list
  have b_gain_list := F_gain_list.binds (ps := ["building", "stream"]) fun _ _ _ _ _ _ us hl => match us, hl with | [_, _], _ => rfl
  have F_serves := fun_mk (st := s_serves) l_serves c_serves k_serves
  have b_serves := F_serves.binds (ps := ["building", "bounds", "needs", "value"]) fun _ _ _ _ _ _ us hl => match us, hl with | [_, _, _, _], _ => rfl
  have F_shows_cheapest := fun_mk (st := s_shows_cheapest) l_shows_cheapest c_shows_cheapest k_shows_cheapest
  have b_shows_cheapest := F_shows_cheapest.binds (ps := ["building", "bounds", "needs", "costs", "paper"]) fun _ _ _ _ _ _ us hl => match us, hl with | [_, _, _, _, _], _ => rfl
  have F_law_cheap := fun_mk (st := s_law_cheap) l_law_cheap c_law_cheap k_law_cheap
  have b_law_cheap := F_law_cheap.binds (ps := ["building", "ducts", "bounds", "costs", "stream", "pressures", "draws"]) fun _ _ _ _ _ _ us hl => match us, hl with | [_, _, _, _, _, _, _], _ => rfl
  have F_law_round := fun_mk (st := s_law_round) l_law_round c_law_round k_law_round
  have b_law_round := F_law_round.binds (ps := ["script"]) fun _ _ _ _ _ _ us hl => match us, hl with | [_], _ => rfl
  have F_law := fun_mk (st := s_law) l_law c_law k_law
  refine ⟨PySem.W.fnOf "law" "law" (defArgs s_law) (defBody s_law) (defScope s_law) .none kV_law dc_law pm_law an_law cd_law ct_law, fun s v => .of_eq rfl, fun base _ _ => ?_⟩
  have C_law_draw : Cl l.prog w K mg base 1 "_law_draw" ["cell", "bounds"] (spU ⟨K, C⟩ [.f, .f] (pur (f2 m_law_draw))) := ⟨_, _, ok_law_draw F_law_draw TX , PySem.W.mg_of X G a_law_draw, k_law_draw, b_law_draw⟩
  have C_law_cell : Cl l.prog w K mg base 1 "_law_cell" ["script", "k"] (spU ⟨K, C⟩ [.f, .f] (pur (f2 m_law_cell))) := ⟨_, _, ok_law_cell F_law_cell TX , PySem.W.mg_of X G a_law_cell, k_law_cell, b_law_cell⟩
  have C_law_ducts : Cl l.prog w K mg base 2 "_law_ducts" ["cell", "rooms", "joined", "extra", "most"] (spU ⟨K, C⟩ [.f, .f, .f, .f, .f] (pur (f5 m_law_ducts))) := ⟨_, _, ok_law_ducts F_law_ducts TX C_law_draw, PySem.W.mg_of X G a_law_ducts, k_law_ducts, b_law_ducts⟩
  have C_law_plan : Cl l.prog w K mg base 3 "_law_plan" ["script", "at", "most_rooms", "most_extra", "most_width"] (spU ⟨K, C⟩ [.f, .f, .f, .f, .f] (pur (f5 m_law_plan))) := ⟨_, _, ok_law_plan F_law_plan TX C_law_draw C_law_cell C_law_ducts, PySem.W.mg_of X G a_law_plan, k_law_plan, b_law_plan⟩
  have C_require : Cl l.prog w K mg base 1 "require" ["holds", "name"] (spU ⟨K, C⟩ [.f, .f] (pur (f2 m_require))) := ⟨_, _, ok_require F_require TX , PySem.W.mg_of X G a_require, k_require, b_require⟩
  have C_width_table : Cl l.prog w K mg base 1 "width_table" ["rooms", "ducts"] (spU ⟨K, C⟩ [.f, .f] (pur (f2 m_width_table))) := ⟨_, _, ok_width_table F_width_table TX , PySem.W.mg_of X G a_width_table, k_width_table, b_width_table⟩
  have C_is_integer : Cl l.prog w K mg base 1 "is_integer" ["value"] (spU ⟨K, C⟩ [.f] (pur (f1 m_is_integer))) := ⟨_, _, ok_is_integer F_is_integer TX , PySem.W.mg_of X G a_is_integer, k_is_integer, b_is_integer⟩
  have C_is_between : Cl l.prog w K mg base 2 "is_between" ["value", "least", "most"] (spU ⟨K, C⟩ [.f, .f, .f] (pur (f3 m_is_between))) := ⟨_, _, ok_is_between F_is_between TX C_is_integer, PySem.W.mg_of X G a_is_between, k_is_between, b_is_between⟩
  have C_is_table : Cl l.prog w K mg base 3 "is_table" ["value", "size", "least", "most"] (spU ⟨K, C⟩ [.f, .f, .f, .f] (pur (f4 m_is_table))) := ⟨_, _, ok_is_table F_is_table TX C_is_between, PySem.W.mg_of X G a_is_table, k_is_table, b_is_table⟩
  have C_are_ducts : Cl l.prog w K mg base 4 "are_ducts" ["value", "rooms"] (spU ⟨K, C⟩ [.f, .f] (pur (f2 m_are_ducts))) := ⟨_, _, ok_are_ducts F_are_ducts TX C_is_table, PySem.W.mg_of X G a_are_ducts, k_are_ducts, b_are_ducts⟩
  have C_Building_init : Cm l.prog w K mg base 5 "Building" (C "Building") ["self", "rooms", "ducts"] (spU ⟨K, C⟩ [.u, .f, .f] (f3 m_Building_init)) := ⟨_, _, ok_Building_init F_Building_init TX C_require C_width_table C_is_between C_are_ducts, ⟨mk_Building, a_Building_init, i_Building_init, kc_Building⟩, PySem.W.mg_of X G aC_Building, b_Building_init⟩
  have C_law_numbers : Cl l.prog w K mg base 2 "_law_numbers" ["cell", "count", "least", "most"] (spU ⟨K, C⟩ [.f, .f, .f, .f] (pur (f4 m_law_numbers))) := ⟨_, _, ok_law_numbers F_law_numbers TX C_law_draw, PySem.W.mg_of X G a_law_numbers, k_law_numbers, b_law_numbers⟩
  have C_law_held : Cl l.prog w K mg base 2 "_law_held" ["script", "ducts", "pressures"] (spU ⟨K, C⟩ [.f, .f, .f] (pur (f3 m_law_held))) := ⟨_, _, ok_law_held F_law_held TX C_law_draw C_law_cell, PySem.W.mg_of X G a_law_held, k_law_held, b_law_held⟩
  have C_law_with : Cl l.prog w K mg base 1 "_law_with" ["values", "place", "value"] (spU ⟨K, C⟩ [.f, .f, .f] (pur (f3 m_law_with))) := ⟨_, _, ok_law_with F_law_with TX , PySem.W.mg_of X G a_law_with, k_law_with, b_law_with⟩
  have C_law_ints : Cl l.prog w K mg base 1 "_law_ints" ["value", "size"] (spU ⟨K, C⟩ [.f, .f] (pur (f2 m_law_ints))) := ⟨_, _, ok_law_ints F_law_ints TX , PySem.W.mg_of X G a_law_ints, k_law_ints, b_law_ints⟩
  have C_law_ring : Cl l.prog w K mg base 2 "_law_ring" ["ducts", "bounds", "costs", "stream", "ring"] (spU ⟨K, C⟩ [.f, .f, .f, .f, .f] (pur (f5 m_law_ring))) := ⟨_, _, ok_law_ring F_law_ring TX C_law_ints, PySem.W.mg_of X G a_law_ring, k_law_ring, b_law_ring⟩
  have C_require_building : Cl l.prog w K mg base 2 "require_building" ["building"] (spU ⟨K, C⟩ [.f] (pur (f1 m_require_building))) := ⟨_, _, ok_require_building F_require_building TX C_require, PySem.W.mg_of X G a_require_building, k_require_building, b_require_building⟩
  have C_are_bounds : Cl l.prog w K mg base 4 "are_bounds" ["building", "value"] (spU ⟨K, C⟩ [.f, .f] (pur (f2 m_are_bounds))) := ⟨_, _, ok_are_bounds F_are_bounds TX C_is_table, PySem.W.mg_of X G a_are_bounds, k_are_bounds, b_are_bounds⟩
  have C_require_bounds : Cl l.prog w K mg base 5 "require_bounds" ["building", "bounds"] (spU ⟨K, C⟩ [.f, .f] (pur (f2 m_require_bounds))) := ⟨_, _, ok_require_bounds F_require_bounds TX C_require C_are_bounds, PySem.W.mg_of X G a_require_bounds, k_require_bounds, b_require_bounds⟩
  have C_require_costs : Cl l.prog w K mg base 4 "require_costs" ["building", "costs"] (spU ⟨K, C⟩ [.f, .f] (pur (f2 m_require_costs))) := ⟨_, _, ok_require_costs F_require_costs TX C_require C_is_table, PySem.W.mg_of X G a_require_costs, k_require_costs, b_require_costs⟩
  have C_fits_bounds : Cl l.prog w K mg base 2 "fits_bounds" ["bounds", "value"] (spU ⟨K, C⟩ [.f, .f] (pur (f2 m_fits_bounds))) := ⟨_, _, ok_fits_bounds F_fits_bounds TX C_is_integer, PySem.W.mg_of X G a_fits_bounds, k_fits_bounds, b_fits_bounds⟩
  have C_require_setting : Cl l.prog w K mg base 6 "require_setting" ["building", "bounds", "costs", "stream"] (spU ⟨K, C⟩ [.f, .f, .f, .f] (pur (f4 m_require_setting))) := ⟨_, _, ok_require_setting F_require_setting TX C_require C_require_building C_require_bounds C_require_costs C_fits_bounds, PySem.W.mg_of X G a_require_setting, k_require_setting, b_require_setting⟩
  have C_is_paper : Cl l.prog w K mg base 1 "is_paper" ["value", "kind", "size"] (spU ⟨K, C⟩ [.f, .f, .f] (pur (f3 m_is_paper))) := ⟨_, _, ok_is_paper F_is_paper TX , PySem.W.mg_of X G a_is_paper, k_is_paper, b_is_paper⟩
  have C_is_integer_table : Cl l.prog w K mg base 2 "is_integer_table" ["value", "size"] (spU ⟨K, C⟩ [.f, .f] (pur (f2 m_is_integer_table))) := ⟨_, _, ok_is_integer_table F_is_integer_table TX C_is_integer, PySem.W.mg_of X G a_is_integer_table, k_is_integer_table, b_is_integer_table⟩
  have C_is_integer_tuple : Cl l.prog w K mg base 3 "is_integer_tuple" ["value", "size"] (spU ⟨K, C⟩ [.f, .f] (pur (f2 m_is_integer_tuple))) := ⟨_, _, ok_is_integer_tuple F_is_integer_tuple TX C_is_integer_table, PySem.W.mg_of X G a_is_integer_tuple, k_is_integer_tuple, b_is_integer_tuple⟩
  have C_hold : Cl l.prog w K mg base 4 "hold" ["building", "bounds", "costs", "stream", "value"] (spU ⟨K, C⟩ [.f, .f, .f, .f, .f] (pur (f5 m_hold))) := ⟨_, _, ok_hold F_hold TX C_is_integer_tuple, PySem.W.mg_of X G a_hold, k_hold, b_hold⟩
  have C_step_ends : Cl l.prog w K mg base 1 "step_ends" ["building", "step"] (spU ⟨K, C⟩ [.f, .f] (pur (f2 m_step_ends))) := ⟨_, _, ok_step_ends F_step_ends TX , PySem.W.mg_of X G a_step_ends, k_step_ends, b_step_ends⟩
  have C_is_tuple : Cl l.prog w K mg base 4 "is_tuple" ["value", "size", "least", "most"] (spU ⟨K, C⟩ [.f, .f, .f, .f] (pur (f4 m_is_tuple))) := ⟨_, _, ok_is_tuple F_is_tuple TX C_is_table, PySem.W.mg_of X G a_is_tuple, k_is_tuple, b_is_tuple⟩
  have C_is_open_step : Cl l.prog w K mg base 5 "is_open_step" ["building", "bounds", "stream", "value"] (spU ⟨K, C⟩ [.f, .f, .f, .f] (pur (f4 m_is_open_step))) := ⟨_, _, ok_is_open_step F_is_open_step TX C_is_between C_is_tuple, PySem.W.mg_of X G a_is_open_step, k_is_open_step, b_is_open_step⟩
  have C_is_cheaper_ring : Cl l.prog w K mg base 6 "is_cheaper_ring" ["building", "bounds", "costs", "stream", "value"] (spU ⟨K, C⟩ [.f, .f, .f, .f, .f] (pur (f5 m_is_cheaper_ring))) := ⟨_, _, ok_is_cheaper_ring F_is_cheaper_ring TX C_step_ends C_is_open_step, PySem.W.mg_of X G a_is_cheaper_ring, k_is_cheaper_ring, b_is_cheaper_ring⟩
  have C_shows_price : Cl l.prog w K mg base 7 "shows_price" ["building", "bounds", "costs", "stream", "paper"] (spU ⟨K, C⟩ [.f, .f, .f, .f, .f] (pur (f5 m_shows_price))) := ⟨_, _, ok_shows_price F_shows_price TX C_require_setting C_is_paper C_hold C_is_cheaper_ring, PySem.W.mg_of X G a_shows_price, k_shows_price, b_shows_price⟩
  have C_law_says : Cl l.prog w K mg base 1 "_law_says" ["told", "due"] (spU ⟨K, C⟩ [.f, .f] (pur (f2 m_law_says))) := ⟨_, _, ok_law_says F_law_says TX , PySem.W.mg_of X G a_law_says, k_law_says, b_law_says⟩
  have C_law_rings : Cl l.prog w K mg base 8 "_law_rings" ["script", "plan"] (spU ⟨K, C⟩ [.f, .f] (pur (f2 m_law_rings))) := ⟨_, _, ok_law_rings F_law_rings TX C_Building_init C_law_with C_law_ring C_shows_price C_law_says, PySem.W.mg_of X G a_law_rings, k_law_rings, b_law_rings⟩
  have C_law_holds : Cl l.prog w K mg base 1 "_law_holds" ["ducts", "bounds", "costs", "stream", "pressures"] (spU ⟨K, C⟩ [.f, .f, .f, .f, .f] (pur (f5 m_law_holds))) := ⟨_, _, ok_law_holds F_law_holds TX , PySem.W.mg_of X G a_law_holds, k_law_holds, b_law_holds⟩
  have C_law_pressed : Cl l.prog w K mg base 8 "_law_pressed" ["building", "ducts", "bounds", "costs", "stream", "pressures"] (spU ⟨K, C⟩ [.f, .f, .f, .f, .f, .f] (pur (f6 m_law_pressed))) := ⟨_, _, ok_law_pressed F_law_pressed TX C_law_with C_shows_price C_law_says C_law_holds, PySem.W.mg_of X G a_law_pressed, k_law_pressed, b_law_pressed⟩
  have C_law_gains : Cl l.prog w K mg base 1 "_law_gains" ["rooms", "ducts", "stream"] (spU ⟨K, C⟩ [.f, .f, .f] (pur (f3 m_law_gains))) := ⟨_, _, ok_law_gains F_law_gains TX , PySem.W.mg_of X G a_law_gains, k_law_gains, b_law_gains⟩
  have C_require_needs : Cl l.prog w K mg base 4 "require_needs" ["building", "needs"] (spU ⟨K, C⟩ [.f, .f] (pur (f2 m_require_needs))) := ⟨_, _, ok_require_needs F_require_needs TX C_require C_is_table, PySem.W.mg_of X G a_require_needs, k_require_needs, b_require_needs⟩
  have C_range_of_gain : Cl l.prog w K mg base 1 "range_of_gain" ["building", "bounds", "rooms"] (spU ⟨K, C⟩ [.f, .f, .f] (pur (f3 m_range_of_gain))) := ⟨_, _, ok_range_of_gain F_range_of_gain TX , PySem.W.mg_of X G a_range_of_gain, k_range_of_gain, b_range_of_gain⟩
  have C_are_places : Cl l.prog w K mg base 3 "are_places" ["value", "count"] (spU ⟨K, C⟩ [.f, .f] (pur (f2 m_are_places))) := ⟨_, _, ok_are_places F_are_places TX C_is_between, PySem.W.mg_of X G a_are_places, k_are_places, b_are_places⟩
  have C_is_place_set : Cl l.prog w K mg base 4 "is_place_set" ["value", "count"] (spU ⟨K, C⟩ [.f, .f] (pur (f2 m_is_place_set))) := ⟨_, _, ok_is_place_set F_is_place_set TX C_are_places, PySem.W.mg_of X G a_is_place_set, k_is_place_set, b_is_place_set⟩
  have C_is_room_set : Cl l.prog w K mg base 5 "is_room_set" ["value", "rooms"] (spU ⟨K, C⟩ [.f, .f] (pur (f2 m_is_room_set))) := ⟨_, _, ok_is_room_set F_is_room_set TX C_is_place_set, PySem.W.mg_of X G a_is_room_set, k_is_room_set, b_is_room_set⟩
  have C_is_refused_set : Cl l.prog w K mg base 6 "is_refused_set" ["building", "bounds", "needs", "paper"] (spU ⟨K, C⟩ [.f, .f, .f, .f] (pur (f4 m_is_refused_set))) := ⟨_, _, ok_is_refused_set F_is_refused_set TX C_is_paper C_range_of_gain C_is_room_set, PySem.W.mg_of X G a_is_refused_set, k_is_refused_set, b_is_refused_set⟩
  have C_gain_list : Cl l.prog w K mg base 1 "gain_list" ["building", "stream"] (spU ⟨K, C⟩ [.f, .f] (pur (f2 m_gain_list))) := ⟨_, _, ok_gain_list F_gain_list TX , PySem.W.mg_of X G a_gain_list, k_gain_list, b_gain_list⟩
  have C_serves : Cl l.prog w K mg base 3 "serves" ["building", "bounds", "needs", "value"] (spU ⟨K, C⟩ [.f, .f, .f, .f] (pur (f4 m_serves))) := ⟨_, _, ok_serves F_serves TX C_fits_bounds C_gain_list, PySem.W.mg_of X G a_serves, k_serves, b_serves⟩
  have C_shows_cheapest : Cl l.prog w K mg base 7 "shows_cheapest" ["building", "bounds", "needs", "costs", "paper"] (spU ⟨K, C⟩ [.f, .f, .f, .f, .f] (pur (f5 m_shows_cheapest))) := ⟨_, _, ok_shows_cheapest F_shows_cheapest TX C_require_building C_require_bounds C_require_costs C_is_paper C_hold C_require_needs C_is_refused_set C_serves, PySem.W.mg_of X G a_shows_cheapest, k_shows_cheapest, b_shows_cheapest⟩
  have C_law_cheap : Cl l.prog w K mg base 8 "_law_cheap" ["building", "ducts", "bounds", "costs", "stream", "pressures", "draws"] (spU ⟨K, C⟩ [.f, .f, .f, .f, .f, .f, .f] (pur (f7 m_law_cheap))) := ⟨_, _, ok_law_cheap F_law_cheap TX C_law_with C_law_says C_law_holds C_law_gains C_shows_cheapest, PySem.W.mg_of X G a_law_cheap, k_law_cheap, b_law_cheap⟩
  have C_law_round : Cl l.prog w K mg base 2 "_law_round" ["script"] (spU ⟨K, C⟩ [.f] (pur (f1 m_law_round))) := ⟨_, _, ok_law_round F_law_round TX C_law_draw C_law_cell, PySem.W.mg_of X G a_law_round, k_law_round, b_law_round⟩
  exact law_true (T := ⟨K, C⟩) (ok_law F_law TX C_law_draw C_law_cell C_law_plan C_Building_init C_law_numbers C_law_held C_law_rings C_law_pressed C_law_cheap C_law_round) HL
end Mi

open PySem PySem.W PyProof.Rows in
set_option maxRecDepth 100000 in
set_option maxHeartbeats 0 in
theorem PySem.Challenge.cw_warmhold_k83_judge_of_prices_holds : PySem.Challenge.rw_warmhold_k83_judge_of_prices.Holds := by
  w_on; o_law; k_head; (case hw => w_witness2)
  k_fill
  refine Mi.law_walk (l := PySem.Challenge.rw_warmhold_k83_judge_of_prices) (k := 9) rfl rfl ⟨rfl, by decide, by decide⟩ (fun w h Y => PySem.W.kIn_of Y) ?F
  case F =>
    intro w mg fa h KX G hmg
    refine' Mi.all_mk Mi.law_holds KX G hmg ?aC_Building ?pg_Building ?hd_Building ?po_Building ?sa_Building ?mk_Building ?kc_Building ?nf_Building__widths ?nf_Building_ducts ?nf_Building_rooms ?io_Building ?iy_Building ?ih_Building ?in_Building ?it_Building ?im_Building ?a_law_draw ?l_law_draw ?c_law_draw ?k_law_draw ?a_law_cell ?l_law_cell ?c_law_cell ?k_law_cell ?a_law_ducts ?l_law_ducts ?c_law_ducts ?k_law_ducts ?a_law_plan ?l_law_plan ?c_law_plan ?k_law_plan ?a_require ?l_require ?c_require ?k_require ?a_width_table ?l_width_table ?c_width_table ?k_width_table ?a_is_integer ?l_is_integer ?c_is_integer ?k_is_integer ?a_is_between ?l_is_between ?c_is_between ?k_is_between ?a_is_table ?l_is_table ?c_is_table ?k_is_table ?a_are_ducts ?l_are_ducts ?c_are_ducts ?k_are_ducts ?a_Building_init ?i_Building_init ?l_Building_init ?c_Building_init ?k_Building_init ?a_law_numbers ?l_law_numbers ?c_law_numbers ?k_law_numbers ?a_law_held ?l_law_held ?c_law_held ?k_law_held ?a_law_with ?l_law_with ?c_law_with ?k_law_with ?a_law_ints ?l_law_ints ?c_law_ints ?k_law_ints ?a_law_ring ?l_law_ring ?c_law_ring ?k_law_ring ?a_require_building ?l_require_building ?c_require_building ?k_require_building ?a_are_bounds ?l_are_bounds ?c_are_bounds ?k_are_bounds ?a_require_bounds ?l_require_bounds ?c_require_bounds ?k_require_bounds ?a_require_costs ?l_require_costs ?c_require_costs ?k_require_costs ?a_fits_bounds ?l_fits_bounds ?c_fits_bounds ?k_fits_bounds ?a_require_setting ?l_require_setting ?c_require_setting ?k_require_setting ?a_is_paper ?l_is_paper ?c_is_paper ?k_is_paper ?a_is_integer_table ?l_is_integer_table ?c_is_integer_table ?k_is_integer_table ?a_is_integer_tuple ?l_is_integer_tuple ?c_is_integer_tuple ?k_is_integer_tuple ?a_hold ?l_hold ?c_hold ?k_hold ?a_step_ends ?l_step_ends ?c_step_ends ?k_step_ends ?a_is_tuple ?l_is_tuple ?c_is_tuple ?k_is_tuple ?a_is_open_step ?l_is_open_step ?c_is_open_step ?k_is_open_step ?a_is_cheaper_ring ?l_is_cheaper_ring ?c_is_cheaper_ring ?k_is_cheaper_ring ?a_shows_price ?l_shows_price ?c_shows_price ?k_shows_price ?a_law_says ?l_law_says ?c_law_says ?k_law_says ?a_law_rings ?l_law_rings ?c_law_rings ?k_law_rings ?a_law_holds ?l_law_holds ?c_law_holds ?k_law_holds ?a_law_pressed ?l_law_pressed ?c_law_pressed ?k_law_pressed ?a_law_gains ?l_law_gains ?c_law_gains ?k_law_gains ?a_require_needs ?l_require_needs ?c_require_needs ?k_require_needs ?a_range_of_gain ?l_range_of_gain ?c_range_of_gain ?k_range_of_gain ?a_are_places ?l_are_places ?c_are_places ?k_are_places ?a_is_place_set ?l_is_place_set ?c_is_place_set ?k_is_place_set ?a_is_room_set ?l_is_room_set ?c_is_room_set ?k_is_room_set ?a_is_refused_set ?l_is_refused_set ?c_is_refused_set ?k_is_refused_set ?a_gain_list ?l_gain_list ?c_gain_list ?k_gain_list ?a_serves ?l_serves ?c_serves ?k_serves ?a_shows_cheapest ?l_shows_cheapest ?c_shows_cheapest ?k_shows_cheapest ?a_law_cheap ?l_law_cheap ?c_law_cheap ?k_law_cheap ?a_law_round ?l_law_round ?c_law_round ?k_law_round ?a_law ?l_law ?c_law ?k_law ?z_bool ?z_enumerate ?z_int ?z_isinstance ?z_len ?z_list ?z_range ?z_sorted ?z_str ?z_sum ?z_tuple ?z_zip ?g_MOST_COST ?g_MOST_DUCTS ?g_MOST_FLOW ?g_MOST_ROOMS ?g_MOST_UNITS ?g_MOST_WIDTH
    (case aC_Building => k_is)
    (case pg_Building => k_is)
    (case hd_Building => k_is)
    (case po_Building => k_is)
    (case sa_Building => k_is)
    (case mk_Building => k_is)
    (case kc_Building => k_is)
    (case nf_Building__widths => k_is)
    (case nf_Building_ducts => k_is)
    (case nf_Building_rooms => k_is)
    (case io_Building => k_is)
    (case iy_Building => k_is)
    (case ih_Building => k_is)
    (case in_Building => k_is)
    (case it_Building => k_is)
    (case im_Building => k_is)
    (case a_law_draw => k_is)
    (case l_law_draw => k_is)
    (case c_law_draw => k_is)
    (case k_law_draw => k_is)
    (case a_law_cell => k_is)
    (case l_law_cell => k_is)
    (case c_law_cell => k_is)
    (case k_law_cell => k_is)
    (case a_law_ducts => k_is)
    (case l_law_ducts => k_is)
    (case c_law_ducts => k_is)
    (case k_law_ducts => k_is)
    (case a_law_plan => k_is)
    (case l_law_plan => k_is)
    (case c_law_plan => k_is)
    (case k_law_plan => k_is)
    (case a_require => k_is)
    (case l_require => k_is)
    (case c_require => k_is)
    (case k_require => k_is)
    (case a_width_table => k_is)
    (case l_width_table => k_is)
    (case c_width_table => k_is)
    (case k_width_table => k_is)
    (case a_is_integer => k_is)
    (case l_is_integer => k_is)
    (case c_is_integer => k_is)
    (case k_is_integer => k_is)
    (case a_is_between => k_is)
    (case l_is_between => k_is)
    (case c_is_between => k_is)
    (case k_is_between => k_is)
    (case a_is_table => k_is)
    (case l_is_table => k_is)
    (case c_is_table => k_is)
    (case k_is_table => k_is)
    (case a_are_ducts => k_is)
    (case l_are_ducts => k_is)
    (case c_are_ducts => k_is)
    (case k_are_ducts => k_is)
    (case a_Building_init => k_is)
    (case i_Building_init => k_is)
    (case l_Building_init => k_is)
    (case c_Building_init => k_is)
    (case k_Building_init => k_is)
    (case a_law_numbers => k_is)
    (case l_law_numbers => k_is)
    (case c_law_numbers => k_is)
    (case k_law_numbers => k_is)
    (case a_law_held => k_is)
    (case l_law_held => k_is)
    (case c_law_held => k_is)
    (case k_law_held => k_is)
    (case a_law_with => k_is)
    (case l_law_with => k_is)
    (case c_law_with => k_is)
    (case k_law_with => k_is)
    (case a_law_ints => k_is)
    (case l_law_ints => k_is)
    (case c_law_ints => k_is)
    (case k_law_ints => k_is)
    (case a_law_ring => k_is)
    (case l_law_ring => k_is)
    (case c_law_ring => k_is)
    (case k_law_ring => k_is)
    (case a_require_building => k_is)
    (case l_require_building => k_is)
    (case c_require_building => k_is)
    (case k_require_building => k_is)
    (case a_are_bounds => k_is)
    (case l_are_bounds => k_is)
    (case c_are_bounds => k_is)
    (case k_are_bounds => k_is)
    (case a_require_bounds => k_is)
    (case l_require_bounds => k_is)
    (case c_require_bounds => k_is)
    (case k_require_bounds => k_is)
    (case a_require_costs => k_is)
    (case l_require_costs => k_is)
    (case c_require_costs => k_is)
    (case k_require_costs => k_is)
    (case a_fits_bounds => k_is)
    (case l_fits_bounds => k_is)
    (case c_fits_bounds => k_is)
    (case k_fits_bounds => k_is)
    (case a_require_setting => k_is)
    (case l_require_setting => k_is)
    (case c_require_setting => k_is)
    (case k_require_setting => k_is)
    (case a_is_paper => k_is)
    (case l_is_paper => k_is)
    (case c_is_paper => k_is)
    (case k_is_paper => k_is)
    (case a_is_integer_table => k_is)
    (case l_is_integer_table => k_is)
    (case c_is_integer_table => k_is)
    (case k_is_integer_table => k_is)
    (case a_is_integer_tuple => k_is)
    (case l_is_integer_tuple => k_is)
    (case c_is_integer_tuple => k_is)
    (case k_is_integer_tuple => k_is)
    (case a_hold => k_is)
    (case l_hold => k_is)
    (case c_hold => k_is)
    (case k_hold => k_is)
    (case a_step_ends => k_is)
    (case l_step_ends => k_is)
    (case c_step_ends => k_is)
    (case k_step_ends => k_is)
    (case a_is_tuple => k_is)
    (case l_is_tuple => k_is)
    (case c_is_tuple => k_is)
    (case k_is_tuple => k_is)
    (case a_is_open_step => k_is)
    (case l_is_open_step => k_is)
    (case c_is_open_step => k_is)
    (case k_is_open_step => k_is)
    (case a_is_cheaper_ring => k_is)
    (case l_is_cheaper_ring => k_is)
    (case c_is_cheaper_ring => k_is)
    (case k_is_cheaper_ring => k_is)
    (case a_shows_price => k_is)
    (case l_shows_price => k_is)
    (case c_shows_price => k_is)
    (case k_shows_price => k_is)
    (case a_law_says => k_is)
    (case l_law_says => k_is)
    (case c_law_says => k_is)
    (case k_law_says => k_is)
    (case a_law_rings => k_is)
    (case l_law_rings => k_is)
    (case c_law_rings => k_is)
    (case k_law_rings => k_is)
    (case a_law_holds => k_is)
    (case l_law_holds => k_is)
    (case c_law_holds => k_is)
    (case k_law_holds => k_is)
    (case a_law_pressed => k_is)
    (case l_law_pressed => k_is)
    (case c_law_pressed => k_is)
    (case k_law_pressed => k_is)
    (case a_law_gains => k_is)
    (case l_law_gains => k_is)
    (case c_law_gains => k_is)
    (case k_law_gains => k_is)
    (case a_require_needs => k_is)
    (case l_require_needs => k_is)
    (case c_require_needs => k_is)
    (case k_require_needs => k_is)
    (case a_range_of_gain => k_is)
    (case l_range_of_gain => k_is)
    (case c_range_of_gain => k_is)
    (case k_range_of_gain => k_is)
    (case a_are_places => k_is)
    (case l_are_places => k_is)
    (case c_are_places => k_is)
    (case k_are_places => k_is)
    (case a_is_place_set => k_is)
    (case l_is_place_set => k_is)
    (case c_is_place_set => k_is)
    (case k_is_place_set => k_is)
    (case a_is_room_set => k_is)
    (case l_is_room_set => k_is)
    (case c_is_room_set => k_is)
    (case k_is_room_set => k_is)
    (case a_is_refused_set => k_is)
    (case l_is_refused_set => k_is)
    (case c_is_refused_set => k_is)
    (case k_is_refused_set => k_is)
    (case a_gain_list => k_is)
    (case l_gain_list => k_is)
    (case c_gain_list => k_is)
    (case k_gain_list => k_is)
    (case a_serves => k_is)
    (case l_serves => k_is)
    (case c_serves => k_is)
    (case k_serves => k_is)
    (case a_shows_cheapest => k_is)
    (case l_shows_cheapest => k_is)
    (case c_shows_cheapest => k_is)
    (case k_shows_cheapest => k_is)
    (case a_law_cheap => k_is)
    (case l_law_cheap => k_is)
    (case c_law_cheap => k_is)
    (case k_law_cheap => k_is)
    (case a_law_round => k_is)
    (case l_law_round => k_is)
    (case c_law_round => k_is)
    (case k_law_round => k_is)
    (case a_law => k_is)
    (case l_law => k_is)
    (case c_law => k_is)
    (case k_law => k_is)
    (case z_bool => k_is)
    (case z_enumerate => k_is)
    (case z_int => k_is)
    (case z_isinstance => k_is)
    (case z_len => k_is)
    (case z_list => k_is)
    (case z_range => k_is)
    (case z_sorted => k_is)
    (case z_str => k_is)
    (case z_sum => k_is)
    (case z_tuple => k_is)
    (case z_zip => k_is)
    (case g_MOST_COST => k_is)
    (case g_MOST_DUCTS => k_is)
    (case g_MOST_FLOW => k_is)
    (case g_MOST_ROOMS => k_is)
    (case g_MOST_UNITS => k_is)
    (case g_MOST_WIDTH => k_is)
