import PyProof.Rows.All
import Wide.All
import OpenK.AllK
import Wide.FinOn
import HandS.ForMost
import HandS.IsInst
import HandS.Zip
import HandS.Walk
import HandS.Evl
import KE.GoesEnum
import HandS.TupAny
import HandS.TupLe
import HandS.SortInts
import HandS.Conv
import HandS.More
import KE.KSortedM
import PySem.Challenge.RW_warmhold_k78_checks_and_limits
set_option Elab.async false
set_option linter.all false
set_option maxRecDepth 100000
set_option maxHeartbeats 4000000
/-! Mirrors: data without addresses, how a value stands for data, frames of slots, what an expression or a block computes. -/
namespace Mi
open PySem L2
open Evl (Ex ex_t ex_l ex_rd fresh_back)

inductive D where
  | non | bl (b : Bool) | int (i : Int) | str (s : Str)
  | lst (ds : List D) | tup (ds : List D)
  | dic (ks : List Key) (ds : List D)
  | dit (ks : List (List Key)) (ds : List D)
  | obj (c : Str) (ns : List Str) (ds : List D)
  | scr (ns : List Int)

/-- what the text's classes are at: the written part, the address of each class -/
structure Th where
  K : PySem.W.Frag
  C : Str → Addr

mutual
def Rep (T : Th) (H : Hp) : D → V → Prop
  | .non, v => v = .non
  | .bl b, v => v = .bl b
  | .int i, v => v = .int i
  | .str s, v => v = .str s
  | .lst ds, v => ∃ p vs, v = .ref p ∧ H p = some (.lst vs) ∧ Reps T H ds vs
  | .tup ds, v => ∃ p vs, v = .ref p ∧ H p = some (.tup vs) ∧ Reps T H ds vs
  | .dic ks ds, v => ∃ p vs, v = .ref p ∧ H p = some (.dK (ks.zip vs)) ∧ ks.length = vs.length ∧ Reps T H ds vs
  | .dit ks ds, v => ∃ p vs, v = .ref p ∧ H p = some (.dT (ks.zip vs)) ∧ ks.length = vs.length ∧ Reps T H ds vs
  | .obj c ns ds, v => ∃ p dx vs, v = .ref p ∧ H p = some (.ins (T.C c) dx (ns.zip vs)) ∧ ns.length = vs.length ∧ Reps T H ds vs
  | .scr ns, v => ∃ p, v = .ref p ∧ SqL T.K H p (ns.map V.int)
def Reps (T : Th) (H : Hp) : List D → List V → Prop
  | [], vs => vs = []
  | d :: ds, vs => ∃ v r, vs = v :: r ∧ Rep T H d v ∧ Reps T H ds r
end

section
variable {T : Th} {H H' : Hp}
mutual
theorem Rep.mono (e : Ex H H') : ∀ {d : D} {v : V}, Rep T H d v → Rep T H' d v
  | .non, v, h => by simpa only [Rep] using h
  | .bl b, v, h => by simpa only [Rep] using h
  | .int i, v, h => by simpa only [Rep] using h
  | .str s, v, h => by simpa only [Rep] using h
  | .lst ds, v, h => by
    simp only [Rep] at h ⊢
    obtain ⟨p, vs, q, r, s⟩ := h
    exact ⟨p, vs, q, e _ _ r, Reps.mono e s⟩
  | .tup ds, v, h => by
    simp only [Rep] at h ⊢
    obtain ⟨p, vs, q, r, s⟩ := h
    exact ⟨p, vs, q, e _ _ r, Reps.mono e s⟩
  | .dic ks ds, v, h => by
    simp only [Rep] at h ⊢
    obtain ⟨p, vs, q, r, l, s⟩ := h
    exact ⟨p, vs, q, e _ _ r, l, Reps.mono e s⟩
  | .dit ks ds, v, h => by
    simp only [Rep] at h ⊢
    obtain ⟨p, vs, q, r, l, s⟩ := h
    exact ⟨p, vs, q, e _ _ r, l, Reps.mono e s⟩
  | .obj c ns ds, v, h => by
    simp only [Rep] at h ⊢
    obtain ⟨p, dx, vs, q, r, l, s⟩ := h
    exact ⟨p, dx, vs, q, e _ _ r, l, Reps.mono e s⟩
  | .scr ns, v, h => by
    simp only [Rep] at h ⊢
    obtain ⟨p, q, r⟩ := h
    exact ⟨p, q, ex_l e r⟩
theorem Reps.mono (e : Ex H H') : ∀ {ds : List D} {vs : List V}, Reps T H ds vs → Reps T H' ds vs
  | [], vs, h => by simpa only [Reps] using h
  | d :: ds, vs, h => by
    simp only [Reps] at h ⊢
    obtain ⟨v, r, q, s, t⟩ := h
    exact ⟨v, r, q, Rep.mono e s, Reps.mono e t⟩
end
theorem Reps.len : ∀ {ds : List D} {vs : List V}, Reps T H ds vs → ds.length = vs.length
  | [], vs, h => by simp only [Reps] at h; subst h; rfl
  | d :: ds, vs, h => by
    simp only [Reps] at h
    obtain ⟨v, r, q, s, t⟩ := h
    subst q
    simp [Reps.len t]
theorem Reps.get : ∀ {ds : List D} {vs : List V} {i : Nat} {d : D}, Reps T H ds vs → ds[i]? = some d → ∃ v, vs[i]? = some v ∧ Rep T H d v
  | [], vs, i, d, h, e => by simp at e
  | d :: ds, vs, 0, d', h, e => by
    simp only [Reps] at h
    obtain ⟨v, r, q, s, t⟩ := h
    subst q
    simp at e; subst e
    exact ⟨v, rfl, s⟩
  | d :: ds, vs, i + 1, d', h, e => by
    simp only [Reps] at h
    obtain ⟨v, r, q, s, t⟩ := h
    subst q
    simpa using Reps.get (i := i) t (by simpa using e)
theorem Reps.get' : ∀ {ds : List D} {vs : List V} {i : Nat} {v : V}, Reps T H ds vs → vs[i]? = some v → ∃ d, ds[i]? = some d ∧ Rep T H d v := fun {ds vs i v} h e => by
  have hl := h.len
  have hi : i < vs.length := (List.getElem?_eq_some_iff.mp e).1
  obtain ⟨w, hw, r⟩ := h.get (i := i) (d := ds[i]'(by omega)) (by simp [hl, hi])
  rw [e] at hw; cases hw
  exact ⟨_, by simp [hl, hi], r⟩
theorem Reps.app : ∀ {ds es : List D} {vs ws : List V}, Reps T H ds vs → Reps T H es ws → Reps T H (ds ++ es) (vs ++ ws)
  | [], es, vs, ws, h, k => by simp only [Reps] at h; subst h; simpa using k
  | d :: ds, es, vs, ws, h, k => by
    simp only [Reps] at h
    obtain ⟨v, r, q, s, t⟩ := h
    subst q
    show Reps T H (d :: (ds ++ es)) (v :: (r ++ ws))
    simp only [Reps]
    exact ⟨v, _, rfl, s, Reps.app t k⟩
theorem Reps.one {d : D} {v : V} (h : Rep T H d v) : Reps T H [d] [v] := by
  simp only [Reps]
  exact ⟨v, [], rfl, h, rfl⟩
theorem Reps.nil : Reps T H [] [] := by simp only [Reps]
theorem Reps.cons {d : D} {v : V} {ds : List D} {vs : List V} (h : Rep T H d v) (k : Reps T H ds vs) : Reps T H (d :: ds) (v :: vs) := by
  simp only [Reps]
  exact ⟨v, vs, rfl, h, k⟩
theorem Reps.uncons {d : D} {ds : List D} {vs : List V} (h : Reps T H (d :: ds) vs) : ∃ v r, vs = v :: r ∧ Rep T H d v ∧ Reps T H ds r := by
  simpa only [Reps] using h
theorem Reps.set : ∀ {ds : List D} {vs : List V} {d : D} {v : V} (i : Nat), Reps T H ds vs → Rep T H d v → Reps T H (ds.set i d) (vs.set i v)
  | [], vs, d, v, i, h, k => by simp only [Reps] at h; subst h; simpa using Reps.nil
  | e :: ds, vs, d, v, 0, h, k => by
    obtain ⟨w, r, rfl, s, t⟩ := h.uncons
    exact Reps.cons k t
  | e :: ds, vs, d, v, i + 1, h, k => by
    obtain ⟨w, r, rfl, s, t⟩ := h.uncons
    exact Reps.cons s (Reps.set i t k)
theorem Reps.take : ∀ {ds : List D} {vs : List V} (n : Nat), Reps T H ds vs → Reps T H (ds.take n) (vs.take n)
  | ds, vs, 0, h => by simpa using Reps.nil
  | [], vs, n + 1, h => by simp only [Reps] at h; subst h; simpa using Reps.nil
  | d :: ds, vs, n + 1, h => by
    obtain ⟨w, r, rfl, s, t⟩ := h.uncons
    exact Reps.cons s (Reps.take n t)
theorem Reps.drop : ∀ {ds : List D} {vs : List V} (n : Nat), Reps T H ds vs → Reps T H (ds.drop n) (vs.drop n)
  | ds, vs, 0, h => by simpa using h
  | [], vs, n + 1, h => by simp only [Reps] at h; subst h; simpa using Reps.nil
  | d :: ds, vs, n + 1, h => by
    obtain ⟨w, r, rfl, s, t⟩ := h.uncons
    exact Reps.drop n t
theorem Reps.ints : ∀ {ns : List Int} {vs : List V}, Reps T H (ns.map D.int) vs → vs = ns.map V.int
  | [], vs, h => by simpa only [List.map_nil, Reps] using h
  | n :: ns, vs, h => by
    obtain ⟨w, r, rfl, s, t⟩ := h.uncons
    simp only [Rep] at s
    subst s
    rw [Reps.ints t]; rfl
theorem Reps.of_ints : ∀ (ns : List Int), Reps T H (ns.map D.int) (ns.map V.int)
  | [] => Reps.nil
  | n :: ns => Reps.cons (by simp only [Rep]) (Reps.of_ints ns)
end

/-- the frozen part F grows to F2 while the heap grows from H to H2: what is new in F2 was not in H -/
structure Grow (F F2 H H2 : Hp) : Prop where
  f : Ex F F2
  i : Ex F2 H2
  h : Ex H H2
  new : ∀ a, F2 a ≠ none → F a ≠ none ∨ H a = none
theorem Ex.some' {F F2 : Hp} (e : Ex F F2) {a : Addr} (h : F a ≠ none) : F2 a ≠ none := by
  cases q : F a with
  | none => exact absurd q h
  | some o => rw [e a o q]; simp
theorem Grow.refl {F H : Hp} (e : Ex F H) : Grow F F H H := ⟨Ex.refl F, e, Ex.refl H, fun _ h => .inl h⟩
theorem Grow.trans {F F2 F3 H H2 H3 : Hp} (a : Grow F F2 H H2) (b : Grow F2 F3 H2 H3) : Grow F F3 H H3 :=
  ⟨a.f.trans b.f, b.i, a.h.trans b.h, fun x h => by
    rcases b.new x h with q | q
    · exact a.new x q
    · exact .inr (by
        cases z : H x with
        | none => rfl
        | some o => rw [a.h x o z] at q; cases q)⟩
theorem Grow.lay {F H : Hp} (e : Ex F H) {p : Addr} (hp : H p = none) (o : HO) : Grow F F H (upd H p o) :=
  ⟨Ex.refl F, e.trans (Ex.new hp), Ex.new hp, fun _ h => .inl h⟩
theorem none_of_ex {F H : Hp} (e : Ex F H) {p : Addr} (hp : H p = none) : F p = none := fresh_back e hp
/-- what stands in H but not in F is taken into F -/
theorem Grow.freeze {F F2 H H2 : Hp} (g : Grow F F2 H H2) {p : Addr} {o : HO} (hp : H p = none) (h2 : H2 p = some o) (hf : F2 p = none) : Grow F (upd F2 p o) H H2 where
  f := g.f.trans (Ex.new hf)
  i := fun a u h => by
    by_cases e : a = p
    · subst e; rw [upd_same] at h; rw [h2, h]
    · rw [upd_ne e] at h; exact g.i a u h
  h := g.h
  new := fun a h => by
    by_cases e : a = p
    · subst e; exact .inr hp
    · rw [upd_ne e] at h; exact g.new a h

/-! ### slots -/
inductive Slot where
  | no | bad | val (d : D) | bor (d : D) | own (d : D) | mu (d : D)
abbrev Ctx := List Slot
def Slot.isOwn : Slot → Bool
  | .own _ => true
  | .mu _ => true
  | _ => false
/-- what stood at the entry: the part that may be read, the part that may be kept, the heap, the addresses of what may be changed -/
structure Base where
  B : Hp
  F : Hp
  H : Hp
  P : Nat → Addr
/-- where an answer's parts are held: in what may be kept (f), in what stood at the entry (b), in the heap as it is (h) -/
inductive Md where
  | f | b | h
def Md.fh : Md → Bool
  | .b => false
  | _ => true
def sel (Z : Base) (md : Md) (F H : Hp) : Hp := match md with | .f => F | .b => Z.B | .h => H
theorem sel_grow {Z : Base} {md : Md} {F F2 H H2 : Hp} (g : Grow F F2 H H2) : Ex (sel Z md F H) (sel Z md F2 H2) := by
  cases md
  · exact g.f
  · exact Ex.refl _
  · exact g.h
theorem sel_in {Z : Base} {md : Md} {F H : Hp} (e : Ex F H) (b : Ex Z.B H) : Ex (sel Z md F H) H := by
  cases md
  · exact e
  · exact b
  · exact Ex.refl H
theorem sel_out {Z : Base} {md : Md} {F H : Hp} (e : Ex F H) (hm : md.fh = true) : Ex F (sel Z md F H) := by
  cases md
  · exact Ex.refl F
  · cases hm
  · exact e
/-- a thing that is owned: its own object in H, its parts in F -/
def OwnC (T : Th) (F H : Hp) (p : Addr) : D → Prop
  | .lst ds => ∃ vs, H p = some (.lst vs) ∧ Reps T F ds vs
  | .dic ks ds => ∃ vs, H p = some (.dK (ks.zip vs)) ∧ ks.length = vs.length ∧ Reps T F ds vs
  | .dit ks ds => ∃ vs, H p = some (.dT (ks.zip vs)) ∧ ks.length = vs.length ∧ Reps T F ds vs
  | .obj c ns ds => ∃ dx vs, H p = some (.ins (T.C c) dx (ns.zip vs)) ∧ ns.length = vs.length ∧ Reps T F ds vs
  | _ => False
theorem OwnC.grow {T : Th} {F F2 H H2 : Hp} {p : Addr} {d : D} (h : OwnC T F H p d) (ef : Ex F F2) (eh : Ex H H2) : OwnC T F2 H2 p d := by
  cases d <;> simp only [OwnC] at h ⊢
  · obtain ⟨vs, a, b⟩ := h; exact ⟨vs, eh _ _ a, b.mono ef⟩
  · obtain ⟨vs, a, l, b⟩ := h; exact ⟨vs, eh _ _ a, l, b.mono ef⟩
  · obtain ⟨vs, a, l, b⟩ := h; exact ⟨vs, eh _ _ a, l, b.mono ef⟩
  · obtain ⟨dx, vs, a, l, b⟩ := h; exact ⟨dx, vs, eh _ _ a, l, b.mono ef⟩
theorem OwnC.there {T : Th} {F H : Hp} {p : Addr} {d : D} (h : OwnC T F H p d) : ∃ o, H p = some o ∧ ∀ F', Ex F F' → F' p = some o → Rep T F' d (.ref p) := by
  cases d <;> simp only [OwnC] at h
  · obtain ⟨vs, a, b⟩ := h; exact ⟨_, a, fun F' e q => by simp only [Rep]; exact ⟨p, vs, rfl, q, b.mono e⟩⟩
  · obtain ⟨vs, a, l, b⟩ := h; exact ⟨_, a, fun F' e q => by simp only [Rep]; exact ⟨p, vs, rfl, q, l, b.mono e⟩⟩
  · obtain ⟨vs, a, l, b⟩ := h; exact ⟨_, a, fun F' e q => by simp only [Rep]; exact ⟨p, vs, rfl, q, l, b.mono e⟩⟩
  · obtain ⟨dx, vs, a, l, b⟩ := h; exact ⟨_, a, fun F' e q => by simp only [Rep]; exact ⟨p, dx, vs, rfl, q, l, b.mono e⟩⟩
theorem OwnC.rep {T : Th} {F H : Hp} {p : Addr} {d : D} (h : OwnC T F H p d) (e : Ex F H) : Rep T H d (.ref p) := by
  obtain ⟨o, a, k⟩ := h.there
  exact k H e a
theorem OwnC.same {T : Th} {F F2 H H2 : Hp} {p : Addr} {o : HO} {d : D} (h : OwnC T F H p d) (ef : Ex F F2) (h1 : H p = some o) (h2 : H2 p = some o) : OwnC T F2 H2 p d := by
  cases d <;> simp only [OwnC] at h ⊢
  · obtain ⟨vs, a, b⟩ := h; exact ⟨vs, by rw [h2, ← h1, a], b.mono ef⟩
  · obtain ⟨vs, a, l, b⟩ := h; exact ⟨vs, by rw [h2, ← h1, a], l, b.mono ef⟩
  · obtain ⟨vs, a, l, b⟩ := h; exact ⟨vs, by rw [h2, ← h1, a], l, b.mono ef⟩
  · obtain ⟨dx, vs, a, l, b⟩ := h; exact ⟨dx, vs, by rw [h2, ← h1, a], l, b.mono ef⟩
/-- an other object is changed -/
theorem OwnC.upd {T : Th} {F H : Hp} {p q : Addr} {o : HO} {d : D} (h : OwnC T F H p d) (ne : p ≠ q) : OwnC T F (upd H q o) p d := by
  cases d <;> simp only [OwnC] at h ⊢
  · obtain ⟨vs, a, b⟩ := h; exact ⟨vs, by rw [upd_ne ne]; exact a, b⟩
  · obtain ⟨vs, a, l, b⟩ := h; exact ⟨vs, by rw [upd_ne ne]; exact a, l, b⟩
  · obtain ⟨vs, a, l, b⟩ := h; exact ⟨vs, by rw [upd_ne ne]; exact a, l, b⟩
  · obtain ⟨dx, vs, a, l, b⟩ := h; exact ⟨dx, vs, by rw [upd_ne ne]; exact a, l, b⟩

def SlotOk (T : Th) (Z : Base) (F H : Hp) (i : Nat) (o : Option (Option V)) : Slot → Prop
  | .no => True
  | .bad => False
  | .val d => ∃ v, o = some (some v) ∧ Rep T F d v
  | .bor d => ∃ v, o = some (some v) ∧ Rep T Z.B d v
  | .own d => ∃ p, o = some (some (.ref p)) ∧ Z.B p = none ∧ F p = none ∧ OwnC T F H p d ∧ Z.H p = none
  | .mu d => ∃ p, o = some (some (.ref p)) ∧ p = Z.P i ∧ Z.B p = none ∧ F p = none ∧ OwnC T F H p d
/-- the heap behind some steps of a body -/
structure Hv (Z : Base) (F H : Hp) : Prop where
  b : Ex Z.B H
  f0 : Ex Z.F F
  f : Ex F H
  dom : ∀ a, Z.H a ≠ none → H a ≠ none
  new : ∀ a, F a ≠ none → Z.F a ≠ none ∨ Z.H a = none
theorem Hv.grow {Z : Base} {F F2 H H2 : Hp} (h : Hv Z F H) (g : Grow F F2 H H2) : Hv Z F2 H2 :=
  ⟨h.b.trans g.h, h.f0.trans g.f, g.i, fun a q => Ex.some' g.h (h.dom a q), fun a q => by
    rcases g.new a q with z | z
    · exact h.new a z
    · refine .inr ?_
      cases y : Z.H a with
      | none => rfl
      | some o => exact absurd z (h.dom a (by rw [y]; simp))⟩
structure Ok (T : Th) (Z : Base) (Γ : Ctx) (F H : Hp) (σ : L2.St) : Prop where
  hv : Hv Z F H
  len : Γ.length ≤ σ.length
  at' : ∀ (i : Nat) (s : Slot), Γ[i]? = some s → SlotOk T Z F H i σ[i]? s
  sep : ∀ (i j : Nat) (p : Addr) (s t : Slot), Γ[i]? = some s → s.isOwn = true → Γ[j]? = some t → t.isOwn = true → σ[i]? = some (some (V.ref p)) → σ[j]? = some (some (V.ref p)) → i = j
section
variable {T : Th} {Z : Base} {Γ : Ctx} {F F2 H H2 : Hp} {σ : L2.St}
theorem SlotOk.grow {i : Nat} {o : Option (Option V)} {s : Slot} (h : SlotOk T Z F H i o s) (g : Grow F F2 H H2) : SlotOk T Z F2 H2 i o s := by
  have fr : ∀ {p : Addr} {d : D}, F p = none → OwnC T F H p d → F2 p = none := fun {p d} hf hc => by
    obtain ⟨u, hu, _⟩ := hc.there
    cases q : F2 p with
    | none => rfl
    | some u' =>
      rcases g.new p (by rw [q]; simp) with z | z
      · exact absurd hf z
      · rw [hu] at z; cases z
  cases s <;> simp only [SlotOk] at h ⊢
  · obtain ⟨v, a, b⟩ := h; exact ⟨v, a, b.mono g.f⟩
  · exact h
  · obtain ⟨p, a, b, c, d, z⟩ := h; exact ⟨p, a, b, fr c d, d.grow g.f g.h, z⟩
  · obtain ⟨p, a, a', b, c, d⟩ := h; exact ⟨p, a, a', b, fr c d, d.grow g.f g.h⟩
theorem Ok.grow (h : Ok T Z Γ F H σ) (g : Grow F F2 H H2) : Ok T Z Γ F2 H2 σ :=
  ⟨h.hv.grow g, h.len, fun i s e => (h.at' i s e).grow g, h.sep⟩
end

/-! ### what an expression, a test, an argument list computes -/
def Ev (T : Th) (md : Md) (te : TE) (Γ : Ctx) (m : Option D) : Prop := ∀ Z F H σ, Ok T Z Γ F H σ → ∀ d, m = some d → ∀ Q : VK, (∀ v F2 H2, Grow F F2 H H2 → Rep T (sel Z md F2 H2) d v → Q v H2) → te σ H Q
/-- a new thing, owned by who asked for it -/
def EvO (T : Th) (te : TE) (Γ : Ctx) (m : Option D) : Prop := ∀ Z F H σ, Ok T Z Γ F H σ → ∀ d, m = some d → ∀ Q : VK, (∀ p F2 H2, Grow F F2 H H2 → H p = none → F2 p = none → OwnC T F2 H2 p d → Q (.ref p) H2) → te σ H Q
def EvT (T : Th) (tt : TT) (Γ : Ctx) (m : Option Bool) : Prop := ∀ Z F H σ, Ok T Z Γ F H σ → ∀ b, m = some b → ∀ Q : Bool → Hp → Prop, (∀ F2 H2, Grow F F2 H H2 → Q b H2) → tt σ H Q
def RepsM (T : Th) (Z : Base) (F H : Hp) : List Md → List D → List V → Prop
  | [], ds, vs => ds = [] ∧ vs = []
  | md :: ms, ds, vs => ∃ d ds' v vs', ds = d :: ds' ∧ vs = v :: vs' ∧ Rep T (sel Z md F H) d v ∧ RepsM T Z F H ms ds' vs'
def EvA (T : Th) (ta : TA) (Γ : Ctx) (mds : List Md) (m : Option (List D)) : Prop := ∀ Z F H σ, Ok T Z Γ F H σ → ∀ ds, m = some ds → ∀ Q : List V → Hp → Prop, (∀ vs F2 H2, Grow F F2 H H2 → RepsM T Z F2 H2 mds ds vs → Q vs H2) → ta σ H Q
theorem RepsM.mono {T : Th} {Z : Base} {F F2 H H2 : Hp} (g : Grow F F2 H H2) : ∀ {mds : List Md} {ds : List D} {vs : List V}, RepsM T Z F H mds ds vs → RepsM T Z F2 H2 mds ds vs
  | [], _, _, h => h
  | md :: ms, _, _, ⟨d, ds', v, vs', a, b, c, e⟩ => ⟨d, ds', v, vs', a, b, c.mono (sel_grow g), RepsM.mono g e⟩

/-! two-place and one-place operations lifted -/
def o1 {α β : Type} (f : α → Option β) (a : Option α) : Option β := a.bind f
def o2 {α β γ : Type} (f : α → β → Option γ) (a : Option α) (b : Option β) : Option γ := a.bind fun x => b.bind fun y => f x y
@[simp] theorem o1_some {α β : Type} (f : α → Option β) (a : α) : o1 f (some a) = f a := id rfl
@[simp] theorem o2_some {α β γ : Type} (f : α → β → Option γ) (a : α) (b : β) : o2 f (some a) (some b) = f a b := id rfl
theorem o1_inv {α β : Type} {f : α → Option β} {a : Option α} {c : β} (h : o1 f a = some c) : ∃ x, a = some x ∧ f x = some c := by
  cases a with
  | none => cases h
  | some x => exact ⟨x, rfl, h⟩
theorem o2_inv {α β γ : Type} {f : α → β → Option γ} {a : Option α} {b : Option β} {c : γ} (h : o2 f a b = some c) : ∃ x y, a = some x ∧ b = some y ∧ f x y = some c := by
  cases a with
  | none => cases h
  | some x =>
    cases b with
    | none => cases h
    | some y => exact ⟨x, y, rfl, rfl, h⟩
theorem bind_inv {α β : Type} {f : α → Option β} {a : Option α} {c : β} (h : a.bind f = some c) : ∃ x, a = some x ∧ f x = some c := o1_inv h

/-- an operation upon two values: both read anywhere, the answer needs nothing of them (a number, a text, ..) -/
def OpS (T : Th) (r : R2) (f : D → D → Option D) : Prop := ∀ (H : Hp) (x y : V) (d e c : D), Rep T H d x → Rep T H e y → f d e = some c → ∀ Q : VK, (∀ v, (∀ G, Rep T G c v) → Q v H) → r x y H Q
/-- the answer is a part of the first operand, wherever that is held; the second one is read -/
def OpP (T : Th) (r : R2) (f : D → D → Option D) : Prop := ∀ (H : Hp) (x y : V) (d e c : D), Rep T H d x → Rep T H e y → f d e = some c → ∀ Q : VK, (∀ v, (∀ G, Ex G H → Rep T G d x → Rep T G c v) → Q v H) → r x y H Q
/-- the answer may be new; its parts are parts of the operands -/
def OpM (T : Th) (r : R2) (f : D → D → Option D) : Prop := ∀ (Z : Base) (md : Md) (F H : Hp) (x y : V) (d e c : D), md.fh = true → Ex F H → Rep T (sel Z md F H) d x → Rep T (sel Z md F H) e y → f d e = some c → ∀ Q : VK, (∀ v F2 H2, Grow F F2 H H2 → Rep T (sel Z md F2 H2) c v → Q v H2) → r x y H Q
section
variable {T : Th} {Γ : Ctx} {md : Md} {ta tb te : TE} {ma mb m : Option D} {r : R2} {f : D → D → Option D}
theorem Ev.low (h : Ev T md te Γ m) : Ev T .h te Γ m := fun Z F H σ ok d hd Q q => h Z F H σ ok d hd Q fun v F2 H2 g r => q v F2 H2 g (r.mono (sel_in g.i (ok.grow g).hv.b))
theorem ev_opS (ho : OpS T r f) (ha : Ev T .h ta Γ ma) (hb : Ev T .h tb Γ mb) : Ev T md (tOp r ta tb) Γ (o2 f ma mb) := fun Z F H σ ok d hd Q q => by
  obtain ⟨x, y, e1, e2, e3⟩ := o2_inv hd
  refine ha Z F H σ ok x e1 _ fun v F2 H2 g1 r1 => hb Z F2 H2 σ (ok.grow g1) y e2 _ fun w F3 H3 g2 r2 => ?_
  exact ho H3 v w x y d (r1.mono g2.h) r2 e3 Q fun u hu => q u F3 H3 (g1.trans g2) (hu _)
theorem ev_opP (ho : OpP T r f) (ha : Ev T md ta Γ ma) (hb : Ev T .h tb Γ mb) : Ev T md (tOp r ta tb) Γ (o2 f ma mb) := fun Z F H σ ok d hd Q q => by
  obtain ⟨x, y, e1, e2, e3⟩ := o2_inv hd
  refine ha Z F H σ ok x e1 _ fun v F2 H2 g1 r1 => hb Z F2 H2 σ (ok.grow g1) y e2 _ fun w F3 H3 g2 r2 => ?_
  have ok3 := (ok.grow g1).grow g2
  have r1' := r1.mono (sel_grow g2)
  have ei : Ex (sel Z md F3 H3) H3 := sel_in g2.i ok3.hv.b
  exact ho H3 v w x y d (r1'.mono ei) r2 e3 Q fun u hu => q u F3 H3 (g1.trans g2) (hu _ ei r1')
theorem ev_opM (ho : OpM T r f) (ha : Ev T md ta Γ ma) (hb : Ev T md tb Γ mb) (hm : md.fh = true := by rfl) : Ev T md (tOp r ta tb) Γ (o2 f ma mb) := fun Z F H σ ok d hd Q q => by
  obtain ⟨x, y, e1, e2, e3⟩ := o2_inv hd
  refine ha Z F H σ ok x e1 _ fun v F2 H2 g1 r1 => hb Z F2 H2 σ (ok.grow g1) y e2 _ fun w F3 H3 g2 r2 => ?_
  exact ho Z md F3 H3 v w x y d hm g2.i (r1.mono (sel_grow g2)) r2 e3 Q fun u F4 H4 g3 hu => q u F4 H4 ((g1.trans g2).trans g3) hu
theorem ev_val {i : Nat} {d : D} (h : Γ[i]? = some (.val d)) (hm : md.fh = true := by rfl) : Ev T md (tVar i) Γ (some d) := fun Z F H σ ok d' hd Q q => by
  cases hd
  obtain ⟨v, a, b⟩ := ok.at' i _ h
  exact ⟨v, a, q v F H (Grow.refl ok.hv.f) (b.mono (sel_out ok.hv.f hm))⟩
theorem ev_borB {i : Nat} {d : D} (h : Γ[i]? = some (.bor d)) : Ev T .b (tVar i) Γ (some d) := fun Z F H σ ok d' hd Q q => by
  cases hd
  obtain ⟨v, a, b⟩ := ok.at' i _ h
  exact ⟨v, a, q v F H (Grow.refl ok.hv.f) b⟩
theorem ev_bor {i : Nat} {d : D} (h : Γ[i]? = some (.bor d)) : Ev T .h (tVar i) Γ (some d) := (ev_borB h).low
theorem ev_own {i : Nat} {d : D} (h : Γ[i]? = some (.own d)) : Ev T .h (tVar i) Γ (some d) := fun Z F H σ ok d' hd Q q => by
  cases hd
  obtain ⟨p, a, b, c, e, _⟩ := ok.at' i _ h
  exact ⟨_, a, q _ F H (Grow.refl ok.hv.f) (e.rep ok.hv.f)⟩
theorem ev_mu {i : Nat} {d : D} (h : Γ[i]? = some (.mu d)) : Ev T .h (tVar i) Γ (some d) := fun Z F H σ ok d' hd Q q => by
  cases hd
  obtain ⟨p, a, a', b, c, e⟩ := ok.at' i _ h
  exact ⟨_, a, q _ F H (Grow.refl ok.hv.f) (e.rep ok.hv.f)⟩
/-- a number, a text, a truth value, None -/
def flat : D → Bool
  | .non => true | .bl _ => true | .int _ => true | .str _ => true | _ => false
def chk (d : D) : Option D := if flat d = true then some d else none
@[simp] theorem chk_int (i : Int) : chk (.int i) = some (.int i) := id rfl
@[simp] theorem chk_bl (i : Bool) : chk (.bl i) = some (.bl i) := id rfl
@[simp] theorem chk_str (i : Str) : chk (.str i) = some (.str i) := id rfl
theorem flat_rep {H G : Hp} {d : D} {v : V} (h : flat d = true) (r : Rep T H d v) : Rep T G d v := by
  cases d <;> simp only [flat, Rep] at h r ⊢ <;> first | exact r | cases h
theorem ev_chk (ha : Ev T .h ta Γ ma) : Ev T md ta Γ (o1 chk ma) := fun Z F H σ ok d hd Q q => by
  obtain ⟨x, e1, e2⟩ := o1_inv hd
  unfold chk at e2
  split at e2
  · rename_i hf
    cases e2
    exact ha Z F H σ ok _ e1 _ fun v F2 H2 g r => q v F2 H2 g (flat_rep hf r)
  · cases e2
theorem ev_c {v : V} {d : D} (h : ∀ G, Rep T G d v) : Ev T md (tC v) Γ (some d) := fun Z F H σ ok d' hd Q q => by
  cases hd
  exact q v F H (Grow.refl ok.hv.f) (h _)
theorem ev_int {i : Int} : Ev T md (tC (.int i)) Γ (some (.int i)) := ev_c fun _ => by simp only [Rep]
theorem ev_bl {i : Bool} : Ev T md (tC (.bl i)) Γ (some (.bl i)) := ev_c fun _ => by simp only [Rep]
theorem ev_str {i : Str} : Ev T md (tC (.str i)) Γ (some (.str i)) := ev_c fun _ => by simp only [Rep]
theorem ev_non : Ev T md (tC .non) Γ (some .non) := ev_c fun _ => by simp only [Rep]
/-- what is new may be kept -/
theorem ev_new (h : EvO T te Γ m) (hm : md.fh = true := by rfl) : Ev T md te Γ m := fun Z F H σ ok d hd Q q => by
  refine h Z F H σ ok d hd Q fun p F2 H2 g hp hf hc => ?_
  cases md with
  | h => exact q _ F2 H2 g (hc.rep g.i)
  | b => cases hm
  | f =>
    obtain ⟨o, ho, k⟩ := hc.there
    exact q _ (upd F2 p o) H2 (g.freeze hp ho hf) (k _ (Ex.new hf) upd_same)

/-! tests -/
def tru (d : D) : Option Bool := match d with | .bl b => some b | _ => none
@[simp] theorem tru_bl (b : Bool) : tru (.bl b) = some b := id rfl
theorem tru_inv {d : D} {b : Bool} (h : tru d = some b) : d = .bl b := by
  cases d <;> simp [tru] at h
  subst h; rfl
theorem evt_test (h : Ev T .h te Γ m) : EvT T (tTest te) Γ (o1 tru m) := fun Z F H σ ok b hb Q q => by
  obtain ⟨x, e1, e2⟩ := o1_inv hb
  rw [tru_inv e2] at e1
  refine h Z F H σ ok _ e1 _ fun v F2 H2 g r => ?_
  simp only [Rep] at r
  exact ⟨b, r, q F2 H2 g⟩
theorem evt_B (h : Ev T .h te Γ m) : EvT T (tB te) Γ (o1 tru m) := fun Z F H σ ok b hb Q q => by
  obtain ⟨x, e1, e2⟩ := o1_inv hb
  rw [tru_inv e2] at e1
  refine h Z F H σ ok _ e1 _ fun v F2 H2 g r => ?_
  simp only [Rep] at r
  exact ⟨b, r, q F2 H2 g⟩
def oAnd (a b : Option Bool) : Option Bool := a.bind fun x => if x = true then b else some false
def oOr (a b : Option Bool) : Option Bool := a.bind fun x => if x = true then some true else b
def oNot (a : Option Bool) : Option Bool := a.map not
@[simp] theorem oAnd_t (b : Option Bool) : oAnd (some true) b = b := id rfl
@[simp] theorem oAnd_f (b : Option Bool) : oAnd (some false) b = some false := id rfl
@[simp] theorem oOr_t (b : Option Bool) : oOr (some true) b = some true := id rfl
@[simp] theorem oOr_f (b : Option Bool) : oOr (some false) b = b := id rfl
@[simp] theorem oNot_s (b : Bool) : oNot (some b) = some (!b) := id rfl
variable {t u : TT} {mt mu : Option Bool}
theorem evt_and (h1 : EvT T t Γ mt) (h2 : EvT T u Γ mu) : EvT T (tAnd t u) Γ (oAnd mt mu) := fun Z F H σ ok b hb Q q => by
  obtain ⟨x, e1, e2⟩ := bind_inv hb
  refine h1 Z F H σ ok x e1 _ fun F2 H2 g => ?_
  cases x with
  | true => exact h2 Z F2 H2 σ (ok.grow g) b e2 Q fun F3 H3 g' => q F3 H3 (g.trans g')
  | false =>
    cases e2
    exact q F2 H2 g
theorem evt_or (h1 : EvT T t Γ mt) (h2 : EvT T u Γ mu) : EvT T (tOr t u) Γ (oOr mt mu) := fun Z F H σ ok b hb Q q => by
  obtain ⟨x, e1, e2⟩ := bind_inv hb
  refine h1 Z F H σ ok x e1 _ fun F2 H2 g => ?_
  cases x with
  | false => exact h2 Z F2 H2 σ (ok.grow g) b e2 Q fun F3 H3 g' => q F3 H3 (g.trans g')
  | true =>
    cases e2
    exact q F2 H2 g
theorem evt_not (h1 : EvT T t Γ mt) : EvT T (tNot t) Γ (oNot mt) := fun Z F H σ ok b hb Q q => by
  cases mt with
  | none => cases hb
  | some x =>
    cases hb
    exact h1 Z F H σ ok x rfl _ fun F2 H2 g => q F2 H2 g
/-! truth values as values: and, or, not -/
def dBl (b : Option Bool) : Option D := b.map D.bl
@[simp] theorem dBl_s (b : Bool) : dBl (some b) = some (.bl b) := id rfl
theorem ev_notV (h : Ev T .h te Γ m) : Ev T md (tNotV te) Γ (dBl (oNot (o1 tru m))) := fun Z F H σ ok d hd Q q => by
  cases m with
  | none => cases hd
  | some x =>
    cases e2 : tru x with
    | none => simp [o1, dBl, oNot, e2] at hd
    | some b =>
      rw [tru_inv e2] at h
      rw [show dBl (oNot (o1 tru (some x))) = some (.bl (!b)) by simp [o1, dBl, oNot, e2]] at hd
      cases hd
      refine h Z F H σ ok _ rfl _ fun v F2 H2 g r => ?_
      simp only [Rep] at r
      exact ⟨b, r, q _ F2 H2 g (by simp only [Rep])⟩
def oAndV (a b : Option D) : Option D := (o1 tru a).bind fun x => if x = true then b else some (.bl false)
def oOrV (a b : Option D) : Option D := (o1 tru a).bind fun x => if x = true then some (.bl true) else b
@[simp] theorem oAndV_t (b : Option D) : oAndV (some (.bl true)) b = b := id rfl
@[simp] theorem oAndV_f (b : Option D) : oAndV (some (.bl false)) b = some (.bl false) := id rfl
@[simp] theorem oOrV_t (b : Option D) : oOrV (some (.bl true)) b = some (.bl true) := id rfl
@[simp] theorem oOrV_f (b : Option D) : oOrV (some (.bl false)) b = b := id rfl
theorem ev_andV (h1 : Ev T .h ta Γ ma) (h2 : Ev T md tb Γ mb) : Ev T md (tAndV ta tb) Γ (oAndV ma mb) := fun Z F H σ ok d hd Q q => by
  obtain ⟨b, e1, e2⟩ := bind_inv hd
  obtain ⟨x, e3, e4⟩ := o1_inv e1
  rw [tru_inv e4] at e3
  refine h1 Z F H σ ok _ e3 _ fun v F2 H2 g r => ?_
  simp only [Rep] at r
  refine ⟨b, r, ?_⟩
  cases b with
  | true => exact h2 Z F2 H2 σ (ok.grow g) d e2 Q fun v F3 H3 g' r' => q v F3 H3 (g.trans g') r'
  | false =>
    cases e2
    exact q _ F2 H2 g (by simp only [Rep])
theorem ev_orV (h1 : Ev T .h ta Γ ma) (h2 : Ev T md tb Γ mb) : Ev T md (tOrV ta tb) Γ (oOrV ma mb) := fun Z F H σ ok d hd Q q => by
  obtain ⟨b, e1, e2⟩ := bind_inv hd
  obtain ⟨x, e3, e4⟩ := o1_inv e1
  rw [tru_inv e4] at e3
  refine h1 Z F H σ ok _ e3 _ fun v F2 H2 g r => ?_
  simp only [Rep] at r
  refine ⟨b, r, ?_⟩
  cases b with
  | false => exact h2 Z F2 H2 σ (ok.grow g) d e2 Q fun v F3 H3 g' r' => q v F3 H3 (g.trans g') r'
  | true =>
    cases e2
    exact q _ F2 H2 g (by simp only [Rep])
theorem ev_if (hc : EvT T t Γ mt) (h1 : Ev T md ta Γ ma) (h2 : Ev T md tb Γ mb) : Ev T md (tIf t ta tb) Γ (mt.bind fun c => if c = true then ma else mb) := fun Z F H σ ok d hd Q q => by
  obtain ⟨b, e1, e2⟩ := bind_inv hd
  refine hc Z F H σ ok b e1 _ fun F2 H2 g => ?_
  cases b with
  | true => exact h1 Z F2 H2 σ (ok.grow g) d e2 Q fun v F3 H3 g' r' => q v F3 H3 (g.trans g') r'
  | false => exact h2 Z F2 H2 σ (ok.grow g) d e2 Q fun v F3 H3 g' r' => q v F3 H3 (g.trans g') r'
/-! argument lists, tuples, lists -/
variable {tr : TA} {mds : List Md} {ms : Option (List D)}
def oCons (a : Option D) (b : Option (List D)) : Option (List D) := o2 (fun x y => some (x :: y)) a b
@[simp] theorem oCons_s (a : D) (b : List D) : oCons (some a) (some b) = some (a :: b) := id rfl
theorem eva_nil : EvA T tNil Γ [] (some []) := fun Z F H σ ok ds hd Q q => by
  cases hd
  exact q [] F H (Grow.refl ok.hv.f) ⟨rfl, rfl⟩
theorem eva_cons (h : Ev T md te Γ m) (hr : EvA T tr Γ mds ms) : EvA T (tCons te tr) Γ (md :: mds) (oCons m ms) := fun Z F H σ ok ds hd Q q => by
  obtain ⟨x, y, e1, e2, e3⟩ := o2_inv hd
  cases e3
  refine h Z F H σ ok x e1 _ fun v F2 H2 g r => hr Z F2 H2 σ (ok.grow g) y e2 _ fun vs F3 H3 g' r' => ?_
  exact q (v :: vs) F3 H3 (g.trans g') ⟨x, y, v, vs, rfl, rfl, r.mono (sel_grow g'), r'⟩
/-- the same mode for all -/
def EvL (T : Th) (md : Md) (ta : TA) (Γ : Ctx) (m : Option (List D)) : Prop := ∀ Z F H σ, Ok T Z Γ F H σ → ∀ ds, m = some ds → ∀ Q : List V → Hp → Prop, (∀ vs F2 H2, Grow F F2 H H2 → Reps T (sel Z md F2 H2) ds vs → Q vs H2) → ta σ H Q
theorem evl_nil : EvL T md tNil Γ (some []) := fun Z F H σ ok ds hd Q q => by
  cases hd
  exact q [] F H (Grow.refl ok.hv.f) Reps.nil
theorem evl_cons (h : Ev T md te Γ m) (hr : EvL T md tr Γ ms) : EvL T md (tCons te tr) Γ (oCons m ms) := fun Z F H σ ok ds hd Q q => by
  obtain ⟨x, y, e1, e2, e3⟩ := o2_inv hd
  cases e3
  refine h Z F H σ ok x e1 _ fun v F2 H2 g r => hr Z F2 H2 σ (ok.grow g) y e2 _ fun vs F3 H3 g' r' => ?_
  exact q (v :: vs) F3 H3 (g.trans g') (Reps.cons (r.mono (sel_grow g')) r')
def dTup (ds : List D) : Option D := if ds.length ≤ 16777216 then some (.tup ds) else none
def dLst (ds : List D) : Option D := if ds.length ≤ 16777216 then some (.lst ds) else none
theorem line_eq : (sizeLine : Nat) = 16777216 := sizeLine_eq
theorem ev_tup (h : EvL T md tr Γ ms) (hm : md.fh = true := by rfl) : Ev T md (tTup tr) Γ (o1 dTup ms) := fun Z F H σ ok d hd Q q => by
  obtain ⟨ds, e1, e2⟩ := o1_inv hd
  unfold dTup at e2
  split at e2
  · rename_i hl
    cases e2
    refine h Z F H σ ok ds e1 _ fun vs F2 H2 g r => ⟨by rw [← r.len, line_eq]; exact hl, fun p hp => ?_⟩
    have hf : F2 p = none := none_of_ex g.i hp
    have hp0 : H p = none := none_of_ex g.h hp
    have g2 : Grow F2 F2 H2 (upd H2 p (.tup vs)) := Grow.lay g.i hp _
    cases md with
    | h => exact q _ F2 _ (g.trans g2) (by simp only [Rep, sel]; exact ⟨p, vs, rfl, upd_same, r.mono (Ex.new hp)⟩)
    | b => cases hm
    | f => exact q _ (upd F2 p (.tup vs)) _ ((g.trans g2).freeze hp0 upd_same hf) (by simp only [Rep, sel]; exact ⟨p, vs, rfl, upd_same, r.mono (Ex.new hf)⟩)
  · cases e2
theorem evo_lst (h : EvL T .f tr Γ ms) : EvO T (tLst tr) Γ (o1 dLst ms) := fun Z F H σ ok d hd Q q => by
  obtain ⟨ds, e1, e2⟩ := o1_inv hd
  unfold dLst at e2
  split at e2
  · rename_i hl
    cases e2
    refine h Z F H σ ok ds e1 _ fun vs F2 H2 g r => ⟨by rw [← r.len, line_eq]; exact hl, fun p hp => ?_⟩
    have hf : F2 p = none := none_of_ex g.i hp
    have hp0 : H p = none := none_of_ex g.h hp
    exact q p F2 _ (g.trans (Grow.lay g.i hp _)) hp0 hf (by simp only [OwnC]; exact ⟨vs, upd_same, r⟩)
  · cases e2
/-- a list whose parts are only read -/
theorem ev_lstH (h : EvL T .h tr Γ ms) : Ev T .h (tLst tr) Γ (o1 dLst ms) := fun Z F H σ ok d hd Q q => by
  obtain ⟨ds, e1, e2⟩ := o1_inv hd
  unfold dLst at e2
  split at e2
  · rename_i hl
    cases e2
    refine h Z F H σ ok ds e1 _ fun vs F2 H2 g r => ⟨by rw [← r.len, line_eq]; exact hl, fun p hp => ?_⟩
    exact q _ F2 _ (g.trans (Grow.lay g.i hp _)) (by simp only [Rep, sel]; exact ⟨p, vs, rfl, upd_same, r.mono (Ex.new hp)⟩)
  · cases e2
end
end Mi
/-! statements, blocks, loops -/
namespace Mi
open PySem L2
open Evl (Ex ex_t ex_l ex_rd fresh_back)

inductive Out (α β : Type) where
  | nx (a : α) | ct (b : β) | bk (b : β) | rt (d : D) (ms : List (Nat × D))
structure RetOk (T : Th) (Z : Base) (d : D) (ms : List (Nat × D)) (v : V) (F H : Hp) : Prop where
  hv : Hv Z F H
  rep : Rep T F d v
  mus : ∀ x ∈ ms, F (Z.P x.1) = none ∧ OwnC T F H (Z.P x.1) x.2
def Post {α β : Type} (T : Th) (Z : Base) (Γn : α → Ctx) (Γl : β → Ctx) (E : Ends) : Out α β → Prop
  | .nx a => ∀ F H σ, Ok T Z (Γn a) F H σ → E.nx σ H
  | .ct b => ∀ F H σ, Ok T Z (Γl b) F H σ → E.ct σ H
  | .bk b => ∀ F H σ, Ok T Z (Γl b) F H σ → E.bk σ H
  | .rt d ms => ∀ v F H, RetOk T Z d ms v F H → E.rt v H
/-- a block that may be left: m tells how -/
def Bt {α β : Type} (T : Th) (t : TS) (Γ : Ctx) (m : Option (Out α β)) (Γn : α → Ctx) (Γl : β → Ctx) : Prop := ∀ Z F H σ, Ok T Z Γ F H σ → ∀ o, m = some o → ∀ E : Ends, Post T Z Γn Γl E o → t E σ H
/-- a block that goes on -/
def Bp {α : Type} (T : Th) (t : TS) (Γ : Ctx) (m : Option α) (Γn : α → Ctx) : Prop := ∀ Z F H σ, Ok T Z Γ F H σ → ∀ a, m = some a → ∀ E : Ends, (∀ F H σ, Ok T Z (Γn a) F H σ → E.nx σ H) → t E σ H

/-- what is forgotten -/
inductive Le : Ctx → Ctx → Prop where
  | nil {Γ : Ctx} : Le Γ []
  | keep {s : Slot} {Γ Γ' : Ctx} : Le Γ Γ' → Le (s :: Γ) (s :: Γ')
  | skip {s : Slot} {Γ Γ' : Ctx} : Le Γ Γ' → Le (s :: Γ) (.no :: Γ')
theorem Le.at' {Γ Γ' : Ctx} (h : Le Γ Γ') : ∀ (i : Nat) (s : Slot), Γ'[i]? = some s → s = .no ∨ Γ[i]? = some s := by
  induction h with
  | nil => intro i s e; simp at e
  | keep _ ih =>
    intro i s e
    cases i with
    | zero => exact .inr (by simpa using e)
    | succ i => simpa using ih i s (by simpa using e)
  | skip _ ih =>
    intro i s e
    cases i with
    | zero => exact .inl (by simpa using e.symm)
    | succ i => simpa using ih i s (by simpa using e)
theorem Le.len {Γ Γ' : Ctx} (h : Le Γ Γ') : Γ'.length ≤ Γ.length := by
  induction h with
  | nil => exact Nat.zero_le _
  | keep _ ih => simpa using ih
  | skip _ ih => simpa using ih
section
variable {T : Th} {Z : Base} {Γ Γ' : Ctx} {F F2 H H2 : Hp} {σ : L2.St}
theorem Ok.le (ok : Ok T Z Γ F H σ) (h : Le Γ Γ') : Ok T Z Γ' F H σ :=
  ⟨ok.hv, Nat.le_trans h.len ok.len, fun i s e => by
    rcases h.at' i s e with q | q
    · subst q; trivial
    · exact ok.at' i s q, fun i j p s t e1 o1 e2 o2 a b => by
    have f : ∀ {i : Nat} {s : Slot}, Γ'[i]? = some s → s.isOwn = true → Γ[i]? = some s := fun {i s} e o => by
      rcases h.at' i s e with q | q
      · subst q; cases o
      · exact q
    exact ok.sep i j p s t (f e1 o1) o1 (f e2 o2) o2 a b⟩
/-- a slot is stored -/
theorem Ok.set (ok : Ok T Z Γ F H σ) {i : Nat} {s : Slot} {v : V} (hs : SlotOk T Z F H i (some (some v)) s) (hsep : s.isOwn = true → ∀ (j : Nat) (t : Slot), Γ[j]? = some t → t.isOwn = true → σ[j]? ≠ some (some v)) :
    Ok T Z (Γ.set i s) F H (σ.set i (some v)) := by
  refine ⟨ok.hv, by simpa using ok.len, fun j t e => ?_, fun j k p t u e1 o1 e2 o2 a b => ?_⟩
  · by_cases hj : i = j
    · subst hj
      have hi : i < Γ.length := by
        have := (List.getElem?_eq_some_iff.mp e).1
        simpa using this
      rw [List.getElem?_set_self hi] at e; cases e
      rw [List.getElem?_set_self (Nat.lt_of_lt_of_le hi ok.len)]
      exact hs
    · rw [List.getElem?_set_ne hj] at e
      rw [List.getElem?_set_ne hj]
      exact ok.at' j t e
  · have hl : ∀ {j : Nat} {t : Slot}, (Γ.set i s)[j]? = some t → j < σ.length := fun {j t} e => by
      have := (List.getElem?_eq_some_iff.mp e).1
      have h2 := ok.len
      simp only [List.length_set] at this
      omega
    by_cases hj : i = j
    · by_cases hk : i = k
      · rw [← hj, ← hk]
      · subst hj
        have h1 := hl e1
        have hi : i < Γ.length := by
          have := (List.getElem?_eq_some_iff.mp e1).1
          simpa using this
        rw [List.getElem?_set_self hi] at e1; cases e1
        rw [List.getElem?_set_ne hk] at e2 b
        rw [List.getElem?_set_self h1] at a
        cases a
        exact absurd b (hsep o1 k u e2 o2)
    · by_cases hk : i = k
      · subst hk
        have h1 := hl e2
        have hi : i < Γ.length := by
          have := (List.getElem?_eq_some_iff.mp e2).1
          simpa using this
        rw [List.getElem?_set_self hi] at e2; cases e2
        rw [List.getElem?_set_ne hj] at e1 a
        rw [List.getElem?_set_self h1] at b
        cases b
        exact absurd a (hsep o2 j t e1 o1)
      · rw [List.getElem?_set_ne hj] at e1 a
        rw [List.getElem?_set_ne hk] at e2 b
        exact ok.sep j k p t u e1 o1 e2 o2 a b
theorem Ok.setVal (ok : Ok T Z Γ F H σ) {i : Nat} {d : D} {v : V} (r : Rep T F d v) : Ok T Z (Γ.set i (.val d)) F H (σ.set i (some v)) := ok.set ⟨v, rfl, r⟩ fun z => by cases z
theorem Ok.setBor (ok : Ok T Z Γ F H σ) {i : Nat} {d : D} {v : V} (r : Rep T Z.B d v) : Ok T Z (Γ.set i (.bor d)) F H (σ.set i (some v)) := ok.set ⟨v, rfl, r⟩ fun z => by cases z
/-- what an owned slot's address is -/
theorem SlotOk.own_at {i : Nat} {o : Option (Option V)} {s : Slot} (h : SlotOk T Z F H i o s) (w : s.isOwn = true) : ∃ p d, o = some (some (.ref p)) ∧ Z.B p = none ∧ F p = none ∧ OwnC T F H p d := by
  cases s <;> simp only [SlotOk, Slot.isOwn] at h w <;> first | cases w | skip
  · obtain ⟨p, a, b, c, d, _⟩ := h; exact ⟨p, _, a, b, c, d⟩
  · obtain ⟨p, a, _, b, c, d⟩ := h; exact ⟨p, _, a, b, c, d⟩
/-- a new owned thing is stored: it stood nowhere in H0, which the present heap grew from -/
theorem Ok.setOwn {H0 F0 : Hp} (ok0 : Ok T Z Γ F0 H0 σ) (g : Grow F0 F H0 H) {i : Nat} {d : D} {p : Addr} (hp : H0 p = none) (hf : F p = none) (hc : OwnC T F H p d) : Ok T Z (Γ.set i (.own d)) F H (σ.set i (some (.ref p))) := by
  have hz : Z.H p = none := by
    cases q : Z.H p with
    | none => rfl
    | some u => exact absurd hp (ok0.hv.dom p (by rw [q]; simp))
  refine (ok0.grow g).set ⟨p, rfl, none_of_ex ok0.hv.b hp, hf, hc, hz⟩ fun _ j t e o z => ?_
  obtain ⟨p', d', a, _, _, c⟩ := (ok0.at' j t e).own_at o
  rw [a] at z; cases z
  obtain ⟨u, hu, _⟩ := c.there
  rw [hp] at hu; cases hu
/-- an owned thing is changed -/
theorem Ok.chg (ok : Ok T Z Γ F H σ) {i : Nat} {s s' : Slot} {p : Addr} {d' : D} {o : HO} (hs : Γ[i]? = some s) (ho : s.isOwn = true) (hp : σ[i]? = some (some (.ref p)))
    (hs' : (s' = .own d' ∧ ∃ d, s = .own d) ∨ (s' = .mu d' ∧ ∃ d, s = .mu d)) (hc : OwnC T F (upd H p o) p d') : Ok T Z (Γ.set i s') F (upd H p o) σ := by
  obtain ⟨p', d0, a, b, c, e⟩ := (ok.at' i s hs).own_at ho
  rw [hp] at a; cases a
  have hB : Ex Z.B (upd H p o) := fun x u q => by rw [upd_ne (ne_of_none q b)]; exact ok.hv.b x u q
  have hF : Ex F (upd H p o) := fun x u q => by rw [upd_ne (ne_of_none q c)]; exact ok.hv.f x u q
  refine ⟨⟨hB, ok.hv.f0, hF, fun x q => ?_, ok.hv.new⟩, by simpa using ok.len, fun j t q => ?_, fun j k x t u e1 o1 e2 o2 a1 a2 => ?_⟩
  · by_cases hx : x = p
    · subst hx; rw [upd_same]; simp
    · rw [upd_ne hx]; exact ok.hv.dom x q
  · by_cases hj : i = j
    · subst hj
      have hi : i < Γ.length := (List.getElem?_eq_some_iff.mp hs).1
      rw [List.getElem?_set_self hi] at q; cases q
      have old := ok.at' i s hs
      rcases hs' with ⟨rfl, d, rfl⟩ | ⟨rfl, d, rfl⟩
      · obtain ⟨p2, z1, _, _, _, z2⟩ := old
        rw [hp] at z1; cases z1
        exact ⟨p, hp, b, c, hc, z2⟩
      · obtain ⟨p2, z1, z2, _⟩ := old
        rw [hp] at z1; cases z1
        exact ⟨p, hp, z2, b, c, hc⟩
    · rw [List.getElem?_set_ne hj] at q
      have old := ok.at' j t q
      have ne : ∀ {x}, σ[j]? = some (some (.ref x)) → t.isOwn = true → x ≠ p := fun {x} hx ot z => by
        subst z
        exact hj (ok.sep i j x s t hs ho q ot hp hx)
      cases t <;> simp only [SlotOk] at old ⊢
      · exact old
      · exact old
      · obtain ⟨x, y1, y2, y3, y4, y5⟩ := old
        exact ⟨x, y1, y2, y3, y4.upd (ne y1 rfl), y5⟩
      · obtain ⟨x, y1, y0, y2, y3, y4⟩ := old
        exact ⟨x, y1, y0, y2, y3, y4.upd (ne y1 rfl)⟩
  · have f : ∀ {j : Nat} {t : Slot}, (Γ.set i s')[j]? = some t → t.isOwn = true → ∃ t' : Slot, Γ[j]? = some t' ∧ t'.isOwn = true := fun {j t} e w => by
      by_cases hj : i = j
      · subst hj; exact ⟨s, hs, ho⟩
      · rw [List.getElem?_set_ne hj] at e; exact ⟨t, e, w⟩
    obtain ⟨t', q1, q2⟩ := f e1 o1
    obtain ⟨u', q3, q4⟩ := f e2 o2
    exact ok.sep j k x t' u' q1 q2 q3 q4 a1 a2
/-- an owned thing is from now on kept -/
theorem Ok.freeze (ok : Ok T Z Γ F H σ) {i : Nat} {d : D} (hs : Γ[i]? = some (.own d)) : ∃ F', Ok T Z (Γ.set i (.val d)) F' H σ := by
  obtain ⟨p, a, b, c, e, hz⟩ := ok.at' i _ hs
  obtain ⟨o, ho, k⟩ := e.there
  refine ⟨upd F p o, ?_⟩
  have ef : Ex F (upd F p o) := Ex.new c
  refine ⟨⟨ok.hv.b, ok.hv.f0.trans ef, fun x u q => ?_, ok.hv.dom, fun x q => ?_⟩, by simpa using ok.len, fun j t q => ?_, fun j l x t u e1 o1 e2 o2 a1 a2 => ?_⟩
  · by_cases hx : x = p
    · subst hx; rw [upd_same] at q; rw [ho, q]
    · rw [upd_ne hx] at q; exact ok.hv.f x u q
  · by_cases hx : x = p
    · subst hx; exact .inr hz
    · rw [upd_ne hx] at q; exact ok.hv.new x q
  · by_cases hj : i = j
    · subst hj
      have hi : i < Γ.length := (List.getElem?_eq_some_iff.mp hs).1
      rw [List.getElem?_set_self hi] at q; cases q
      exact ⟨_, a, k _ ef upd_same⟩
    · rw [List.getElem?_set_ne hj] at q
      have old := ok.at' j t q
      have ne : ∀ {x}, σ[j]? = some (some (.ref x)) → t.isOwn = true → x ≠ p := fun {x} hx ot z => by
        subst z
        exact hj (ok.sep i j x _ t hs rfl q ot a hx)
      cases t <;> simp only [SlotOk] at old ⊢
      · obtain ⟨v, y1, y2⟩ := old; exact ⟨v, y1, y2.mono ef⟩
      · exact old
      · obtain ⟨x, y1, y2, y3, y4, y5⟩ := old
        exact ⟨x, y1, y2, by rw [upd_ne (ne y1 rfl)]; exact y3, y4.grow ef (Ex.refl H), y5⟩
      · obtain ⟨x, y1, y0, y2, y3, y4⟩ := old
        exact ⟨x, y1, y0, y2, by rw [upd_ne (ne y1 rfl)]; exact y3, y4.grow ef (Ex.refl H)⟩
  · have f : ∀ {j : Nat} {t : Slot}, (Γ.set i (.val d))[j]? = some t → t.isOwn = true → Γ[j]? = some t := fun {j t} e w => by
      by_cases hj : i = j
      · subst hj
        have hi : i < Γ.length := (List.getElem?_eq_some_iff.mp hs).1
        rw [List.getElem?_set_self hi] at e; cases e; cases w
      · rw [List.getElem?_set_ne hj] at e; exact e
    exact ok.sep j l x t u (f e1 o1) o1 (f e2 o2) o2 a1 a2
end
end Mi
/-! rules for statements, blocks, loops -/
namespace Mi
open PySem L2
open Evl (Ex ex_t ex_l ex_rd fresh_back)

/-- what a block does, by what is wanted of its outcome -/
def B {ω : Type} (T : Th) (t : TS) (Γ : Ctx) (m : Option ω) (P : Base → Ends → ω → Prop) : Prop := ∀ Z F H σ, Ok T Z Γ F H σ → ∀ o, m = some o → ∀ E : Ends, P Z E o → t E σ H
abbrev PT {α β : Type} (T : Th) (Γn : α → Ctx) (Γl : β → Ctx) : Base → Ends → Out α β → Prop := fun Z E o => Post T Z Γn Γl E o
abbrev PP {α : Type} (T : Th) (Γn : α → Ctx) : Base → Ends → α → Prop := fun Z E a => ∀ F H σ, Ok T Z (Γn a) F H σ → E.nx σ H
section
variable {ω α β γ : Type} {T : Th} {Γ Γ' : Ctx} {md : Md} {te ta tb : TE} {tc : TT} {t u : TS} {m ma : Option ω} {P : Base → Ends → ω → Prop} {me : Option D} {mc : Option Bool} {i j k l : Nat}
theorem bp_set (h : Ev T .f te Γ me) : B T (tAsg te (gName i)) Γ me (PP T fun d => Γ.set i (.val d)) := fun Z F H σ ok d hd E p =>
  h Z F H σ ok d hd _ fun v F2 H2 g r => p F2 H2 _ ((ok.grow g).setVal r)
theorem bp_setB (h : Ev T .b te Γ me) : B T (tAsg te (gName i)) Γ me (PP T fun d => Γ.set i (.bor d)) := fun Z F H σ ok d hd E p =>
  h Z F H σ ok d hd _ fun v F2 H2 g r => p F2 H2 _ ((ok.grow g).setBor r)
theorem bp_setO (h : EvO T te Γ me) : B T (tAsg te (gName i)) Γ me (PP T fun d => Γ.set i (.own d)) := fun Z F H σ ok d hd E p =>
  h Z F H σ ok d hd _ fun q F2 H2 g hp hf hc => p F2 H2 _ (ok.setOwn g hp hf hc)
theorem bp_drop (h : Ev T md te Γ me) : B T (tDrop te) Γ me (PP T fun _ => Γ) := fun Z F H σ ok d hd E p =>
  h Z F H σ ok d hd _ fun v F2 H2 g r => p F2 H2 _ (ok.grow g)
theorem bp_next : B T tNext Γ (some ()) (PP T fun _ => Γ) := fun Z F H σ ok d hd E p => p F H σ ok
/-- forget, freeze: steps of the proof alone -/
theorem b_le (h : Le Γ Γ') (hb : B T t Γ' m P) : B T t Γ m P := fun Z F H σ ok => hb Z F H σ (ok.le h)
theorem b_freeze {d : D} (i : Nat) (hs : Γ[i]? = some (.own d)) (hb : B T t (Γ.set i (.val d)) m P) : B T t Γ m P := fun Z F H σ ok => by
  obtain ⟨F', ok'⟩ := ok.freeze hs
  exact hb Z F' H σ ok'
theorem b_seq {m1 : Option α} {Γ1 : α → Ctx} {m2 : α → Option ω} (h1 : B T t Γ m1 (PP T Γ1)) (h2 : ∀ a, B T u (Γ1 a) (m2 a) P) : B T (tSeq t u) Γ (m1.bind m2) P := fun Z F H σ ok o ho E p => by
  obtain ⟨a, e1, e2⟩ := bind_inv ho
  exact h1 Z F H σ ok a e1 _ fun F2 H2 σ2 ok2 => h2 a Z F2 H2 σ2 ok2 o e2 E p
/-- the same where the answer is not asked for -/
theorem b_seq0 {Γ1 : Ctx} {m2 : Option ω} (h1 : B T t Γ (some ()) (PP T fun _ => Γ1)) (h2 : B T u Γ1 m2 P) : B T (tSeq t u) Γ m2 P := fun Z F H σ ok o ho E p =>
  h1 Z F H σ ok () rfl _ fun F2 H2 σ2 ok2 => h2 Z F2 H2 σ2 ok2 o ho E p
def Out.thn (o : Out γ β) (k : γ → Option (Out α β)) : Option (Out α β) := match o with
  | .nx a => k a
  | .ct b => some (.ct b)
  | .bk b => some (.bk b)
  | .rt d ms => some (.rt d ms)
@[simp] theorem Out.thn_nx (a : γ) (k : γ → Option (Out α β)) : Out.thn (.nx a) k = k a := id rfl
@[simp] theorem Out.thn_ct (b : β) (k : γ → Option (Out α β)) : Out.thn (.ct b) k = some (.ct b) := id rfl
@[simp] theorem Out.thn_bk (b : β) (k : γ → Option (Out α β)) : Out.thn (.bk b) k = some (.bk b) := id rfl
@[simp] theorem Out.thn_rt (d : D) (ms : List (Nat × D)) (k : γ → Option (Out α β)) : Out.thn (.rt d ms) k = some (.rt d ms) := id rfl
theorem b_seqx {m1 : Option (Out γ β)} {Γ1 : γ → Ctx} {Γl : β → Ctx} {Γn : α → Ctx} {m2 : γ → Option (Out α β)} (h1 : B T t Γ m1 (PT T Γ1 Γl)) (h2 : ∀ a, B T u (Γ1 a) (m2 a) (PT T Γn Γl)) :
    B T (tSeq t u) Γ (m1.bind fun o => o.thn m2) (PT T Γn Γl) := fun Z F H σ ok o ho E p => by
  obtain ⟨a, e1, e2⟩ := bind_inv ho
  refine h1 Z F H σ ok a e1 _ ?_
  cases a with
  | nx a => exact fun F2 H2 σ2 ok2 => h2 a Z F2 H2 σ2 ok2 o e2 E p
  | ct b => cases e2; exact p
  | bk b => cases e2; exact p
  | rt d ms => cases e2; exact p
theorem b_if (hc : EvT T tc Γ mc) (ha : B T t Γ ma P) (hb : B T u Γ m P) : B T (tIfS tc t u) Γ (mc.bind fun c => if c = true then ma else m) P := fun Z F H σ ok o ho E p => by
  obtain ⟨c, e1, e2⟩ := bind_inv ho
  refine hc Z F H σ ok c e1 _ fun F2 H2 g => ?_
  cases c with
  | true => exact ha Z F2 H2 σ (ok.grow g) o e2 E p
  | false => exact hb Z F2 H2 σ (ok.grow g) o e2 E p
/-- the first branch leaves the block -/
theorem b_ifx {m1 m2 : Option (Out α β)} {Γl : β → Ctx} {Γn : α → Ctx} {v : TS} (hc : EvT T tc Γ mc) (ha : B T t Γ m1 (PT T (fun _ => [.bad]) Γl)) (hb : B T (tSeq u v) Γ m2 (PT T Γn Γl)) :
    B T (tSeq (tIfS tc t u) v) Γ (mc.bind fun c => if c = true then m1 else m2) (PT T Γn Γl) := fun Z F H σ ok o ho E p => by
  obtain ⟨c, e1, e2⟩ := bind_inv ho
  refine hc Z F H σ ok c e1 _ fun F2 H2 g => ?_
  cases c with
  | true =>
    refine ha Z F2 H2 σ (ok.grow g) o e2 _ ?_
    cases o with
    | nx a => exact fun F3 H3 σ3 ok3 => (ok3.at' 0 _ rfl).elim
    | ct b => exact p
    | bk b => exact p
    | rt d ms => exact p
  | false => exact hb Z F2 H2 σ (ok.grow g) o e2 E p
theorem b_ifx0 {m1 m2 : Option (Out α β)} {Γl : β → Ctx} {Γn : α → Ctx} {v : TS} (hc : EvT T tc Γ mc) (ha : B T t Γ m1 (PT T (fun _ => [.bad]) Γl)) (hb : B T v Γ m2 (PT T Γn Γl)) :
    B T (tSeq (tIfS tc t tNext) v) Γ (mc.bind fun c => if c = true then m1 else m2) (PT T Γn Γl) := b_ifx hc ha hb
/-- the second branch leaves the block -/
theorem b_ify {m1 m2 : Option (Out α β)} {Γl : β → Ctx} {Γn : α → Ctx} {v : TS} (hc : EvT T tc Γ mc) (ha : B T (tSeq t v) Γ m1 (PT T Γn Γl)) (hb : B T u Γ m2 (PT T (fun _ => [.bad]) Γl)) :
    B T (tSeq (tIfS tc t u) v) Γ (mc.bind fun c => if c = true then m1 else m2) (PT T Γn Γl) := fun Z F H σ ok o ho E p => by
  obtain ⟨c, e1, e2⟩ := bind_inv ho
  refine hc Z F H σ ok c e1 _ fun F2 H2 g => ?_
  cases c with
  | false =>
    refine hb Z F2 H2 σ (ok.grow g) o e2 _ ?_
    cases o with
    | nx a => exact fun F3 H3 σ3 ok3 => (ok3.at' 0 _ rfl).elim
    | ct b => exact p
    | bk b => exact p
    | rt d ms => exact p
  | true => exact ha Z F2 H2 σ (ok.grow g) o e2 E p
/-- the ends of a block -/
theorem bp_end {Γn : α → Ctx} {a : α} (h : Le Γ (Γn a)) : B T tNext Γ (some a) (PP T Γn) := fun Z F H σ ok a' e E p => by
  cases e
  exact p F H σ (ok.le h)
theorem bt_end {Γn : α → Ctx} {Γl : β → Ctx} {a : α} (h : Le Γ (Γn a)) : B T tNext Γ (some (.nx a)) (PT T Γn Γl) := fun Z F H σ ok a' e E p => by
  cases e
  exact p F H σ (ok.le h)
theorem bt_cont {Γn : α → Ctx} {Γl : β → Ctx} {b : β} (h : Le Γ (Γl b)) : B T tCont Γ (some (.ct b)) (PT T Γn Γl) := fun Z F H σ ok a' e E p => by
  cases e
  exact p F H σ (ok.le h)
theorem bt_break {Γn : α → Ctx} {Γl : β → Ctx} {b : β} (h : Le Γ (Γl b)) : B T tBreak Γ (some (.bk b)) (PT T Γn Γl) := fun Z F H σ ok a' e E p => by
  cases e
  exact p F H σ (ok.le h)
/-- the last statement, then the end -/
theorem b_last {m1 : Option α} {Γ1 : α → Ctx} {m2 : α → Option ω} (h1 : B T t Γ m1 (PP T Γ1)) (h2 : ∀ a, B T tNext (Γ1 a) (m2 a) P) : B T t Γ (m1.bind m2) P := fun Z F H σ ok o ho E p => by
  obtain ⟨a, e1, e2⟩ := bind_inv ho
  exact h1 Z F H σ ok a e1 E fun F2 H2 σ2 ok2 => h2 a Z F2 H2 σ2 ok2 o e2 E p
theorem b_lastx {m1 : Option (Out γ β)} {Γ1 : γ → Ctx} {Γl : β → Ctx} {Γn : α → Ctx} {m2 : γ → Option (Out α β)} (h1 : B T t Γ m1 (PT T Γ1 Γl)) (h2 : ∀ a, B T tNext (Γ1 a) (m2 a) (PT T Γn Γl)) :
    B T t Γ (m1.bind fun o => o.thn m2) (PT T Γn Γl) := fun Z F H σ ok o ho E p => by
  obtain ⟨a, e1, e2⟩ := bind_inv ho
  refine h1 Z F H σ ok a e1 _ ?_
  cases a with
  | nx a => exact fun F2 H2 σ2 ok2 => h2 a Z F2 H2 σ2 ok2 o e2 E p
  | ct b => cases e2; exact p
  | bk b => cases e2; exact p
  | rt d ms => cases e2; exact p
/-- what the changed parameters hold -/
def mus : Nat → Ctx → List (Nat × D)
  | _, [] => []
  | n, .mu d :: Γ => (n, d) :: mus (n + 1) Γ
  | n, _ :: Γ => mus (n + 1) Γ
theorem mus_at : ∀ {Γ : Ctx} {n : Nat} {x : Nat × D}, x ∈ mus n Γ → n ≤ x.1 ∧ Γ[x.1 - n]? = some (.mu x.2)
  | [], n, x, h => by simp [mus] at h
  | s :: Γ, n, x, h => by
    have go : x ∈ mus (n + 1) Γ → n ≤ x.1 ∧ (s :: Γ)[x.1 - n]? = some (.mu x.2) := fun h => by
      obtain ⟨a, b⟩ := mus_at h
      refine ⟨by omega, ?_⟩
      have e : x.1 - n = (x.1 - (n + 1)) + 1 := by omega
      rw [e]; simpa using b
    cases s <;> simp only [mus] at h <;> first | exact go h | skip
    rcases List.mem_cons.mp h with q | q
    · subst q; exact ⟨Nat.le_refl _, by simp⟩
    · exact go q
theorem bt_ret {Γn : α → Ctx} {Γl : β → Ctx} (h : Ev T .f te Γ me) : B T (tRet te) Γ (me.bind fun d => some (.rt d (mus 0 Γ))) (PT T Γn Γl) := fun Z F H σ ok o ho E p => by
  obtain ⟨d, e1, e2⟩ := bind_inv ho
  cases e2
  refine h Z F H σ ok d e1 _ fun v F2 H2 g r => p v F2 H2 ⟨ok.hv.grow g, r, fun x hx => ?_⟩
  obtain ⟨_, q⟩ := mus_at hx
  obtain ⟨p', a, b, c, e, f⟩ := (ok.grow g).at' _ _ q
  simp only [Nat.sub_zero] at b
  rw [← b]
  exact ⟨e, f⟩
theorem bt_retN {Γn : α → Ctx} {Γl : β → Ctx} : B T tRetN Γ (some (.rt .non (mus 0 Γ))) (PT T Γn Γl) := fun Z F H σ ok o ho E p => by
  cases ho
  refine p _ F H ⟨ok.hv, by simp only [Rep], fun x hx => ?_⟩
  obtain ⟨_, q⟩ := mus_at hx
  obtain ⟨p', a, b, c, e, f⟩ := ok.at' _ _ q
  simp only [Nat.sub_zero] at b
  rw [← b]
  exact ⟨e, f⟩
/-! ### targets -/
def slotOf : Md → D → Slot
  | .f, d => .val d
  | .b, d => .bor d
  | .h, _ => .no
/-- a value that stands for d is handed to the target, then the block runs -/
def Bg (T : Th) (g : TG) (t : TS) (Γ : Ctx) (md : Md) (d : D) (m : Option ω) (P : Base → Ends → ω → Prop) : Prop := ∀ Z F H σ x, Ok T Z Γ F H σ → Rep T (sel Z md F H) d x → ∀ o, m = some o → ∀ E : Ends, P Z E o → ∀ Q : L2.St → Hp → Prop, (∀ σ2 H2, t E σ2 H2 → Q σ2 H2) → g x σ H Q
theorem Ok.setMd {Z : Base} {F H : Hp} {σ : L2.St} (ok : Ok T Z Γ F H σ) {d : D} {v : V} (r : Rep T (sel Z md F H) d v) : Ok T Z (Γ.set i (slotOf md d)) F H (σ.set i (some v)) := by
  cases md with
  | f => exact ok.setVal r
  | b => exact ok.setBor r
  | h => exact ok.set trivial fun z => by cases z
theorem bg_name {d : D} (h : B T t (Γ.set i (slotOf md d)) m P) : Bg T (gName i) t Γ md d m P := fun Z F H σ x ok r o ho E p Q q =>
  q _ _ (h Z F H _ (ok.setMd r) o ho E p)
def un2 {ω : Type} (d : D) (k : D → D → Option ω) : Option ω := match d with | .tup [a, b] => k a b | _ => none
def un3 {ω : Type} (d : D) (k : D → D → D → Option ω) : Option ω := match d with | .tup [a, b, c] => k a b c | _ => none
def un4 {ω : Type} (d : D) (k : D → D → D → D → Option ω) : Option ω := match d with | .tup [a, b, c, e] => k a b c e | _ => none
def un5 {ω : Type} (d : D) (k : D → D → D → D → D → Option ω) : Option ω := match d with | .tup [a, b, c, e, f] => k a b c e f | _ => none
@[simp] theorem un2_t {ω : Type} (a b : D) (k : D → D → Option ω) : un2 (.tup [a, b]) k = k a b := id rfl
@[simp] theorem un3_t {ω : Type} (a b c : D) (k : D → D → D → Option ω) : un3 (.tup [a, b, c]) k = k a b c := id rfl
@[simp] theorem un4_t {ω : Type} (a b c e : D) (k : D → D → D → D → Option ω) : un4 (.tup [a, b, c, e]) k = k a b c e := id rfl
@[simp] theorem un5_t {ω : Type} (a b c e f : D) (k : D → D → D → D → D → Option ω) : un5 (.tup [a, b, c, e, f]) k = k a b c e f := id rfl
theorem un2_inv {d : D} {k : D → D → Option ω} {o : ω} (h : un2 d k = some o) : ∃ a b, d = .tup [a, b] ∧ k a b = some o := by
  unfold un2 at h
  split at h
  · exact ⟨_, _, rfl, h⟩
  · cases h
theorem un3_inv {d : D} {k : D → D → D → Option ω} {o : ω} (h : un3 d k = some o) : ∃ a b c, d = .tup [a, b, c] ∧ k a b c = some o := by
  unfold un3 at h
  split at h
  · exact ⟨_, _, _, rfl, h⟩
  · cases h
theorem un4_inv {d : D} {k : D → D → D → D → Option ω} {o : ω} (h : un4 d k = some o) : ∃ a b c e, d = .tup [a, b, c, e] ∧ k a b c e = some o := by
  unfold un4 at h
  split at h
  · exact ⟨_, _, _, _, rfl, h⟩
  · cases h
theorem un5_inv {d : D} {k : D → D → D → D → D → Option ω} {o : ω} (h : un5 d k = some o) : ∃ a b c e f, d = .tup [a, b, c, e, f] ∧ k a b c e f = some o := by
  unfold un5 at h
  split at h
  · exact ⟨_, _, _, _, _, rfl, h⟩
  · cases h
theorem rep_tup_inv {G : Hp} {ds : List D} {v : V} (r : Rep T G (.tup ds) v) : ∃ p vs, v = .ref p ∧ G p = some (.tup vs) ∧ Reps T G ds vs := by simpa only [Rep] using r
theorem bg_tup2 {d : D} {mk : D → D → Option ω} (h : ∀ a b, B T t ((Γ.set i (slotOf md a)).set j (slotOf md b)) (mk a b) P) : Bg T (gTup T.K 2 (gCons (gName i) (gCons (gName j) gNil))) t Γ md d (un2 d mk) P := fun Z F H σ x ok r o ho E p Q qq => by
  obtain ⟨a, b, rfl, e⟩ := un2_inv ho
  obtain ⟨q, vs, rfl, hq, rr⟩ := rep_tup_inv r
  obtain ⟨va, r1, rfl, ra, rr⟩ := rr.uncons
  obtain ⟨vb, r2, rfl, rb, rr⟩ := rr.uncons
  simp only [Reps] at rr; subst rr
  refine ⟨q, _, rfl, SqT.of (sel_in ok.hv.f ok.hv.b _ _ hq), rfl, va, _, rfl, vb, _, rfl, rfl, ?_⟩
  have ok2 := ok.setMd (i := i) ra
  exact qq _ _ (h a b Z F H _ (ok2.setMd (i := j) rb) o e E p)
theorem bg_tup3 {d : D} {mk : D → D → D → Option ω} (h : ∀ a b c, B T t (((Γ.set i (slotOf md a)).set j (slotOf md b)).set k (slotOf md c)) (mk a b c) P) : Bg T (gTup T.K 3 (gCons (gName i) (gCons (gName j) (gCons (gName k) gNil)))) t Γ md d (un3 d mk) P := fun Z F H σ x ok r o ho E p Q qq => by
  obtain ⟨a, b, c, rfl, e⟩ := un3_inv ho
  obtain ⟨q, vs, rfl, hq, rr⟩ := rep_tup_inv r
  obtain ⟨va, r1, rfl, ra, rr⟩ := rr.uncons
  obtain ⟨vb, r2, rfl, rb, rr⟩ := rr.uncons
  obtain ⟨vc, r3, rfl, rc, rr⟩ := rr.uncons
  simp only [Reps] at rr; subst rr
  refine ⟨q, _, rfl, SqT.of (sel_in ok.hv.f ok.hv.b _ _ hq), rfl, va, _, rfl, vb, _, rfl, vc, _, rfl, rfl, ?_⟩
  have ok2 := (ok.setMd (i := i) ra).setMd (i := j) rb
  exact qq _ _ (h a b c Z F H _ (ok2.setMd (i := k) rc) o e E p)
theorem bg_tup4 {d : D} {mk : D → D → D → D → Option ω} (h : ∀ a b c e, B T t ((((Γ.set i (slotOf md a)).set j (slotOf md b)).set k (slotOf md c)).set l (slotOf md e)) (mk a b c e) P) : Bg T (gTup T.K 4 (gCons (gName i) (gCons (gName j) (gCons (gName k) (gCons (gName l) gNil))))) t Γ md d (un4 d mk) P := fun Z F H σ x ok r o ho E p Q qq => by
  obtain ⟨a, b, c, f, rfl, e⟩ := un4_inv ho
  obtain ⟨q, vs, rfl, hq, rr⟩ := rep_tup_inv r
  obtain ⟨va, r1, rfl, ra, rr⟩ := rr.uncons
  obtain ⟨vb, r2, rfl, rb, rr⟩ := rr.uncons
  obtain ⟨vc, r3, rfl, rc, rr⟩ := rr.uncons
  obtain ⟨vd, r4, rfl, rd, rr⟩ := rr.uncons
  simp only [Reps] at rr; subst rr
  refine ⟨q, _, rfl, SqT.of (sel_in ok.hv.f ok.hv.b _ _ hq), rfl, va, _, rfl, vb, _, rfl, vc, _, rfl, vd, _, rfl, rfl, ?_⟩
  have ok2 := ((ok.setMd (i := i) ra).setMd (i := j) rb).setMd (i := k) rc
  exact qq _ _ (h a b c f Z F H _ (ok2.setMd (i := l) rd) o e E p)
theorem bg_tup5 {n : Nat} {d : D} {mk : D → D → D → D → D → Option ω} (h : ∀ a b c e f, B T t (((((Γ.set i (slotOf md a)).set j (slotOf md b)).set k (slotOf md c)).set l (slotOf md e)).set n (slotOf md f)) (mk a b c e f) P) : Bg T (gTup T.K 5 (gCons (gName i) (gCons (gName j) (gCons (gName k) (gCons (gName l) (gCons (gName n) gNil)))))) t Γ md d (un5 d mk) P := fun Z F H σ x ok r o ho E p Q qq => by
  obtain ⟨a, b, c, f, g, rfl, e⟩ := un5_inv ho
  obtain ⟨q, vs, rfl, hq, rr⟩ := rep_tup_inv r
  obtain ⟨va, r1, rfl, ra, rr⟩ := rr.uncons
  obtain ⟨vb, r2, rfl, rb, rr⟩ := rr.uncons
  obtain ⟨vc, r3, rfl, rc, rr⟩ := rr.uncons
  obtain ⟨vd, r4, rfl, rd, rr⟩ := rr.uncons
  obtain ⟨ve, r5, rfl, re, rr⟩ := rr.uncons
  simp only [Reps] at rr; subst rr
  refine ⟨q, _, rfl, SqT.of (sel_in ok.hv.f ok.hv.b _ _ hq), rfl, va, _, rfl, vb, _, rfl, vc, _, rfl, vd, _, rfl, ve, _, rfl, rfl, ?_⟩
  have ok2 := (((ok.setMd (i := i) ra).setMd (i := j) rb).setMd (i := k) rc).setMd (i := l) rd
  exact qq _ _ (h a b c f g Z F H _ (ok2.setMd (i := n) re) o e E p)
/-- e is unpacked, then the rest -/
theorem b_unp {g : TG} {mk : D → Option ω} (he : Ev T md te Γ me) (hg : ∀ d, Bg T g u Γ md d (mk d) P) : B T (tSeq (tAsg te g) u) Γ (me.bind mk) P := fun Z F H σ ok o ho E p => by
  obtain ⟨d, e1, e2⟩ := bind_inv ho
  exact he Z F H σ ok d e1 _ fun v F2 H2 gr r => hg d Z F2 H2 σ v (ok.grow gr) r o e2 E p _ fun _ _ z => z
/-- a, b = e1, e2 -/
theorem b_par {tr : TA} {ma mb : Option D} {ta tb : TE} (ha : Ev T .f ta Γ ma) (hb : Ev T .f tb Γ mb) : B T (tPar i j (tCons ta (tCons tb tNil))) Γ (o2 (fun x y => some (x, y)) ma mb) (PP T fun c => (Γ.set i (.val c.1)).set j (.val c.2)) := fun Z F H σ ok o ho E p => by
  obtain ⟨x, y, e1, e2, e3⟩ := o2_inv ho
  cases e3
  refine ha Z F H σ ok x e1 _ fun v F2 H2 g1 r1 => hb Z F2 H2 σ (ok.grow g1) y e2 _ fun w F3 H3 g2 r2 => ?_
  exact ⟨v, w, rfl, p F3 H3 _ ((((ok.grow g1).grow g2).setVal (r1.mono g2.f)).setVal r2)⟩
end
end Mi
/-! loops -/
namespace Mi
open PySem L2
open Evl (Ex ex_t ex_l ex_rd fresh_back)

/-- a walk gives the things ds, while all that was kept stands -/
structure Wk (T : Th) (Z : Base) (md : Md) (J : It) (ds : List D) (F0 : Hp) : Prop where
  go : ∀ i F H, i < ds.length → Ex F0 F → Ex F H → Ex Z.B H → J.go i H
  stop : ∀ F H, Ex F0 F → Ex F H → Ex Z.B H → J.stop ds.length H
  yld : ∀ i F H x H', i < ds.length → Ex F0 F → Ex F H → Ex Z.B H → J.yld i H x H' → ∃ F', Grow F F' H H' ∧ ∀ d, ds[i]? = some d → Rep T (sel Z md F' H') d x
/-- pairs, each made anew -/
structure Wk2 (T : Th) (Z : Base) (ma mb : Md) (J : It) (ds : List (D × D)) (F0 : Hp) : Prop where
  go : ∀ i F H, i < ds.length → Ex F0 F → Ex F H → Ex Z.B H → J.go i H
  stop : ∀ F H, Ex F0 F → Ex F H → Ex Z.B H → J.stop ds.length H
  yld : ∀ i F H x H', i < ds.length → Ex F0 F → Ex F H → Ex Z.B H → J.yld i H x H' → ∃ F', Grow F F' H H' ∧ ∃ p v w, x = .ref p ∧ SqT T.K H' p [v, w] ∧ ∀ d, ds[i]? = some d → Rep T (sel Z ma F' H') d.1 v ∧ Rep T (sel Z mb F' H') d.2 w
def EvI (T : Th) (wi : TI) (Γ : Ctx) (md : Md) (m : Option (List D)) : Prop := ∀ Z F H σ, Ok T Z Γ F H σ → ∀ ds, m = some ds → ∀ R : It → Hp → Prop, (∀ J F2 H2, Grow F F2 H H2 → Wk T Z md J ds F2 → R J H2) → wi σ H R
def EvI2 (T : Th) (wi : TI) (Γ : Ctx) (ma mb : Md) (m : Option (List (D × D))) : Prop := ∀ Z F H σ, Ok T Z Γ F H σ → ∀ ds, m = some ds → ∀ R : It → Hp → Prop, (∀ J F2 H2, Grow F F2 H H2 → Wk2 T Z ma mb J ds F2 → R J H2) → wi σ H R
/-- a pair's parts are handed to the target -/
def Bg2 {ω : Type} (T : Th) (g : TG) (t : TS) (Γ : Ctx) (ma mb : Md) (d e : D) (m : Option ω) (P : Base → Ends → ω → Prop) : Prop := ∀ Z F H σ p v w, Ok T Z Γ F H σ → SqT T.K H p [v, w] → Rep T (sel Z ma F H) d v → Rep T (sel Z mb F H) e w → ∀ o, m = some o → ∀ E : Ends, P Z E o → ∀ Q : L2.St → Hp → Prop, (∀ σ2 H2, t E σ2 H2 → Q σ2 H2) → g (.ref p) σ H Q

/-! the loops' mirrors -/
section
variable {β γ ι : Type}
def loopO (f : β → ι → Option (Out β β)) : List ι → β → Option (Out β γ)
  | [], b => some (.nx b)
  | x :: xs, b => (f b x).bind fun o => match o with
    | .nx b' => loopO f xs b'
    | .ct b' => loopO f xs b'
    | .bk b' => some (.nx b')
    | .rt d ms => some (.rt d ms)
@[simp] theorem loopO_nil (f : β → ι → Option (Out β β)) (b : β) : loopO (γ := γ) f [] b = some (.nx b) := id rfl
theorem loopO_cons (f : β → ι → Option (Out β β)) (x : ι) (xs : List ι) (b : β) : loopO (γ := γ) f (x :: xs) b = (f b x).bind fun o => match o with
    | .nx b' => loopO f xs b'
    | .ct b' => loopO f xs b'
    | .bk b' => some (.nx b')
    | .rt d ms => some (.rt d ms) := rfl
/-- a loop that nothing leaves -/
def foldO (f : β → ι → Option β) : List ι → β → Option β
  | [], b => some b
  | x :: xs, b => (f b x).bind fun b' => foldO f xs b'
@[simp] theorem foldO_nil (f : β → ι → Option β) (b : β) : foldO f [] b = some b := id rfl
theorem foldO_cons (f : β → ι → Option β) (x : ι) (xs : List ι) (b : β) : foldO f (x :: xs) b = (f b x).bind fun b' => foldO f xs b' := rfl
def whileN (c : β → Option Bool) (f : β → Option (Out β β)) : Nat → β → Option (Out β γ)
  | 0, _ => none
  | n + 1, b => (c b).bind fun k => if k = true then (f b).bind fun o => match o with
    | .nx b' => whileN c f n b'
    | .ct b' => whileN c f n b'
    | .bk b' => some (.nx b')
    | .rt d ms => some (.rt d ms)
    else some (.nx b)
theorem whileN_succ {c : β → Option Bool} {f : β → Option (Out β β)} : ∀ {n : Nat} {b : β} {o : Out β γ}, whileN c f n b = some o → whileN c f (n + 1) b = some o
  | 0, b, o, h => by cases h
  | n + 1, b, o, h => by
    unfold whileN at h ⊢
    obtain ⟨k, e1, e2⟩ := bind_inv h
    rw [e1]
    show (if k = true then _ else _) = _
    cases k with
    | false => exact e2
    | true =>
      obtain ⟨q, e3, e4⟩ := bind_inv (show (f b).bind _ = some o from e2)
      show (f b).bind _ = some o
      rw [e3]
      cases q with
      | nx b' => exact whileN_succ e4
      | ct b' => exact whileN_succ e4
      | bk b' => exact e4
      | rt d ms => exact e4
theorem whileN_le {c : β → Option Bool} {f : β → Option (Out β β)} {n k : Nat} {b : β} {o : Out β γ} (h : whileN c f n b = some o) (l : n ≤ k) : whileN c f k b = some o := by
  obtain ⟨j, rfl⟩ := Nat.exists_eq_add_of_le l
  clear l
  induction j with
  | zero => exact h
  | succ j ih => exact whileN_succ ih
open Classical in
/-- the while loop's answer, where it ends -/
noncomputable def whileO (c : β → Option Bool) (f : β → Option (Out β β)) (b : β) : Option (Out β γ) :=
  if h : ∃ n, (whileN (γ := γ) c f n b).isSome = true then whileN c f h.choose b else none
theorem whileO_of {c : β → Option Bool} {f : β → Option (Out β β)} {n : Nat} {b : β} {o : Out β γ} (h : whileN c f n b = some o) : whileO c f b = some o := by
  have hx : ∃ n, (whileN (γ := γ) c f n b).isSome = true := ⟨n, by rw [h]; rfl⟩
  unfold whileO
  rw [dif_pos hx]
  obtain ⟨o', ho⟩ := Option.isSome_iff_exists.mp hx.choose_spec
  have h1 := whileN_le h (Nat.le_max_left n hx.choose)
  have h2 := whileN_le ho (Nat.le_max_right n hx.choose)
  rw [h1] at h2
  rw [ho, ← h2]
theorem whileO_inv {c : β → Option Bool} {f : β → Option (Out β β)} {b : β} {o : Out β γ} (h : whileO c f b = some o) : ∃ n, whileN c f n b = some o := by
  unfold whileO at h
  split at h
  · exact ⟨_, h⟩
  · cases h
end
section
variable {T : Th} {Γ : Ctx} {Z : Base} {F F0 H H0 : Hp} {σ : L2.St}
abbrev Base.at (Z : Base) (F : Hp) : Base := { Z with F := F }
theorem SlotOk.at {i : Nat} {o : Option (Option V)} {s : Slot} {F1 : Hp} (h : SlotOk T Z F H i o s) : SlotOk T (Z.at F1) F H i o s := by
  cases s <;> exact h
theorem SlotOk.un {i : Nat} {o : Option (Option V)} {s : Slot} {F1 : Hp} (h : SlotOk T (Z.at F1) F H i o s) : SlotOk T Z F H i o s := by
  cases s <;> exact h
theorem Ok.at0 (ok : Ok T Z Γ F H σ) : Ok T (Z.at F) Γ F H σ :=
  ⟨⟨ok.hv.b, Ex.refl F, ok.hv.f, ok.hv.dom, fun a h => .inl h⟩, ok.len, fun i s e => (ok.at' i s e).at, ok.sep⟩
theorem Hv.un (h : Hv (Z.at F0) F H) (h0 : Hv Z F0 H0) : Hv Z F H :=
  ⟨h.b, h0.f0.trans h.f0, h.f, h.dom, fun a q => by
    rcases h.new a q with z | z
    · exact h0.new a z
    · exact .inr z⟩
theorem Ok.un (ok : Ok T (Z.at F0) Γ F H σ) (h0 : Hv Z F0 H0) : Ok T Z Γ F H σ :=
  ⟨ok.hv.un h0, ok.len, fun i s e => (ok.at' i s e).un, ok.sep⟩
theorem RetOk.un {d : D} {ms : List (Nat × D)} {v : V} (r : RetOk T (Z.at F0) d ms v F H) (h0 : Hv Z F0 H0) : RetOk T Z d ms v F H := ⟨r.hv.un h0, r.rep, r.mus⟩
end
section
variable {ω α β γ : Type} {T : Th} {Γ Γ' : Ctx} {md ma mb : Md} {te ta tb : TE} {tc : TT} {t u : TS} {g : TG} {wi : TI} {P : Base → Ends → ω → Prop} {me : Option D} {mc : β → Option Bool} {i j k l : Nat}

/-- the engine of both loops -/
theorem for_go {ι : Type} {Γl : β → Ctx} {Γl' : γ → Ctx} {f : β → ι → Option (Out β β)} {J : It} {ds : List ι} {Z : Base} {F0 H0 : Hp} {E : Ends} {σ : L2.St} (h0 : Hv Z F0 H0)
    (go : ∀ i F H, i < ds.length → Ex F0 F → Ex F H → Ex Z.B H → J.go i H) (stop : ∀ F H, Ex F0 F → Ex F H → Ex Z.B H → J.stop ds.length H)
    (turn : ∀ (i : Nat) F H σ b d, ds[i]? = some d → Ok T (Z.at F0) (Γl b) F H σ → ∀ x H', J.yld i H x H' → ∀ o, f b d = some o → ∀ E' : Ends, Post T (Z.at F0) Γl Γl E' o → g x σ H' fun σ2 H2 => t E' σ2 H2)
    {b0 : β} {o : Out β γ} (ho : loopO f ds b0 = some o) (ok : Ok T (Z.at F0) (Γl b0) F0 H0 σ) (p : Post T Z Γl Γl' E o) :
    ∃ W : Nat → Nat → L2.St → Hp → Prop, (∃ m, W 0 m σ H0) ∧ ∀ i m σ H, W i m σ H →
      (J.stop i H ∧ E.nx σ H) ∨ (J.go i H ∧ ∃ N : L2.St → Hp → Prop, (∀ σ' H', N σ' H' → ∃ m', m' < m ∧ W (i + 1) m' σ' H') ∧ ∀ x H', J.yld i H x H' → g x σ H' fun σ2 H2 => t { E with nx := N, ct := N, bk := E.nx } σ2 H2) := by
  refine ⟨fun i m σ H => m = ds.length - i ∧ i ≤ ds.length ∧ ∃ b F, Ok T (Z.at F0) (Γl b) F H σ ∧ loopO f (ds.drop i) b = some o, ⟨ds.length, by simp, Nat.zero_le _, b0, F0, ok, by simpa using ho⟩, ?_⟩
  rintro i m σ H ⟨rfl, hi, b, F, okb, hb⟩
  by_cases hlt : i < ds.length
  · refine .inr ⟨go i F H hlt okb.hv.f0 okb.hv.f okb.hv.b, fun σ' H' => ∃ b' F', Ok T (Z.at F0) (Γl b') F' H' σ' ∧ loopO f (ds.drop (i + 1)) b' = some o, fun σ' H' ⟨b', F', a, c⟩ => ⟨ds.length - (i + 1), by omega, rfl, hlt, b', F', a, c⟩, fun x H' y => ?_⟩
    have hd : ds.drop i = ds[i] :: ds.drop (i + 1) := List.drop_eq_getElem_cons hlt
    rw [hd, loopO_cons] at hb
    obtain ⟨o1, e1, e2⟩ := bind_inv hb
    refine turn i F H σ b ds[i] (by simp [hlt]) okb x H' y o1 e1 _ ?_
    cases o1 with
    | nx b' => exact fun F2 H2 σ2 ok2 => ⟨b', F2, ok2, e2⟩
    | ct b' => exact fun F2 H2 σ2 ok2 => ⟨b', F2, ok2, e2⟩
    | bk b' => cases e2; exact fun F2 H2 σ2 ok2 => p F2 H2 σ2 (ok2.un h0)
    | rt d ms => cases e2; exact fun v F2 H2 r => p v F2 H2 (r.un h0)
  · have e : i = ds.length := by omega
    subst e
    rw [List.drop_length] at hb
    cases hb
    exact .inl ⟨stop F H okb.hv.f0 okb.hv.f okb.hv.b, p F H σ (okb.un h0)⟩
/-- for x in ..: .., which may be left -/
theorem bt_for {Γl : β → Ctx} {Γl' : γ → Ctx} {f : β → D → Option (Out β β)} {b0 : β} {mi : Option (List D)} (hi : EvI T wi Γ md mi) (h0 : Le Γ (Γl b0)) (hb : ∀ b d, Bg T g t (Γl b) md d (f b d) (PT T Γl Γl)) :
    B T (tFor wi g t) Γ (mi.bind fun ds => loopO f ds b0) (PT T Γl Γl') := fun Z F H σ ok o ho E p => by
  obtain ⟨ds, e1, e2⟩ := bind_inv ho
  refine hi Z F H σ ok ds e1 _ fun J F2 H2 gr wk => ?_
  have ok2 := ok.grow gr
  refine for_go ok2.hv wk.go wk.stop (fun i F3 H3 σ3 b d hd ok3 x H4 y o1 ho1 E' p' => ?_) e2 (ok2.le h0).at0 p
  have hi : i < ds.length := (List.getElem?_eq_some_iff.mp hd).1
  obtain ⟨F4, g4, r4⟩ := wk.yld i F3 H3 x H4 hi ok3.hv.f0 ok3.hv.f ok3.hv.b y
  have r5 := r4 d hd
  refine hb b d (Z.at F2) F4 H4 σ3 x (ok3.grow g4) ?_ o1 ho1 E' p' _ fun _ _ z => z
  cases md <;> exact r5
theorem bt_for2 {Γl : β → Ctx} {Γl' : γ → Ctx} {f : β → D × D → Option (Out β β)} {b0 : β} {mi : Option (List (D × D))} (hi : EvI2 T wi Γ ma mb mi) (h0 : Le Γ (Γl b0)) (hb : ∀ b d e, Bg2 T g t (Γl b) ma mb d e (f b (d, e)) (PT T Γl Γl)) :
    B T (tFor wi g t) Γ (mi.bind fun ds => loopO f ds b0) (PT T Γl Γl') := fun Z F H σ ok o ho E p => by
  obtain ⟨ds, e1, e2⟩ := bind_inv ho
  refine hi Z F H σ ok ds e1 _ fun J F2 H2 gr wk => ?_
  have ok2 := ok.grow gr
  refine for_go ok2.hv wk.go wk.stop (fun i F3 H3 σ3 b d hd ok3 x H4 y o1 ho1 E' p' => ?_) e2 (ok2.le h0).at0 p
  have hi : i < ds.length := (List.getElem?_eq_some_iff.mp hd).1
  obtain ⟨F4, g4, q, v, w, rfl, hq, r4⟩ := wk.yld i F3 H3 x H4 hi ok3.hv.f0 ok3.hv.f ok3.hv.b y
  obtain ⟨r5, r6⟩ := r4 d hd
  refine hb b d.1 d.2 (Z.at F2) F4 H4 σ3 q v w (ok3.grow g4) hq ?_ ?_ o1 ho1 E' p' _ fun _ _ z => z
  · cases ma <;> exact r5
  · cases mb <;> exact r6
/-- a loop without an exit -/
def nxO {β γ : Type} (a : Option β) : Option (Out β γ) := a.map Out.nx
theorem loopO_fold {ι : Type} (f : β → ι → Option β) : ∀ (ds : List ι) (b : β), loopO (γ := γ) (fun b d => nxO (f b d)) ds b = nxO (foldO f ds b)
  | [], b => rfl
  | d :: ds, b => by
    rw [loopO_cons, foldO_cons]
    cases h : f b d with
    | none => rfl
    | some b' => exact loopO_fold f ds b'
theorem b_nxO {Γn : α → Ctx} {Γl : β → Ctx} {m : Option α} (h : B T t Γ m (PP T Γn)) : B T t Γ (nxO m) (PT T Γn Γl) := fun Z F H σ ok o ho E p => by
  cases m with
  | none => cases ho
  | some a =>
    cases ho
    exact h Z F H σ ok a rfl E p
theorem b_of_nxO {Γn : α → Ctx} {Γl : β → Ctx} {m : Option α} (h : B T t Γ (nxO m) (PT T Γn Γl)) : B T t Γ m (PP T Γn) := fun Z F H σ ok a ha E p => by
  subst ha
  exact h Z F H σ ok (.nx a) rfl E p
theorem bp_for {Γl : β → Ctx} {f : β → D → Option β} {b0 : β} {mi : Option (List D)} (hi : EvI T wi Γ md mi) (h0 : Le Γ (Γl b0)) (hb : ∀ b d, Bg T g t (Γl b) md d (f b d) (PP T Γl)) :
    B T (tFor wi g t) Γ (mi.bind fun ds => foldO f ds b0) (PP T Γl) := by
  refine b_of_nxO (Γl := fun _ : Unit => []) ?_
  have h := bt_for (Γl' := fun _ : Unit => []) (f := fun b d => nxO (f b d)) hi h0 (fun b d => fun Z F H σ x ok r o ho E p Q qq => by
    cases q : f b d with
    | none => rw [q] at ho; cases ho
    | some b' =>
      rw [q] at ho; cases ho
      exact hb b d Z F H σ x ok r b' q E p Q qq)
  have e : (mi.bind fun ds => loopO (γ := Unit) (fun b d => nxO (f b d)) ds b0) = nxO (mi.bind fun ds => foldO f ds b0) := by
    cases mi with
    | none => rfl
    | some ds => exact loopO_fold f ds b0
  rw [e] at h
  exact h
theorem bp_for2 {Γl : β → Ctx} {f : β → D × D → Option β} {b0 : β} {mi : Option (List (D × D))} (hi : EvI2 T wi Γ ma mb mi) (h0 : Le Γ (Γl b0)) (hb : ∀ b d e, Bg2 T g t (Γl b) ma mb d e (f b (d, e)) (PP T Γl)) :
    B T (tFor wi g t) Γ (mi.bind fun ds => foldO f ds b0) (PP T Γl) := by
  refine b_of_nxO (Γl := fun _ : Unit => []) ?_
  have h := bt_for2 (Γl' := fun _ : Unit => []) (f := fun b d => nxO (f b d)) hi h0 (fun b d e => fun Z F H σ p' v w ok hq r1 r2 o ho E p Q qq => by
    cases q : f b (d, e) with
    | none => rw [q] at ho; cases ho
    | some b' =>
      rw [q] at ho; cases ho
      exact hb b d e Z F H σ p' v w ok hq r1 r2 b' q E p Q qq)
  have e : (mi.bind fun ds => loopO (γ := Unit) (fun b d => nxO (f b d)) ds b0) = nxO (mi.bind fun ds => foldO f ds b0) := by
    cases mi with
    | none => rfl
    | some ds => exact loopO_fold f ds b0
  rw [e] at h
  exact h
/-- while -/
theorem bt_while {Γl : β → Ctx} {Γl' : γ → Ctx} {f : β → Option (Out β β)} {b0 : β} (h0 : Le Γ (Γl b0)) (hc : ∀ b, EvT T tc (Γl b) (mc b)) (hb : ∀ b, B T t (Γl b) (f b) (PT T Γl Γl)) :
    B T (tWhile tc t) Γ (whileO mc f b0) (PT T Γl Γl') := fun Z F H σ ok o ho E p => by
  obtain ⟨n, hn⟩ := whileO_inv ho
  refine ⟨fun m σ H => ∃ b F, Ok T Z (Γl b) F H σ ∧ whileN mc f m b = some o, ⟨n, b0, F, ok.le h0, hn⟩, ?_⟩
  rintro m σ H ⟨b, F, okb, hm⟩
  cases m with
  | zero => cases hm
  | succ m =>
    unfold whileN at hm
    obtain ⟨k, e1, e2⟩ := bind_inv hm
    refine hc b Z F H σ okb k e1 _ fun F2 H2 gr => ?_
    cases k with
    | false =>
      cases e2
      exact p F2 H2 σ (okb.grow gr)
    | true =>
      obtain ⟨o1, e3, e4⟩ := bind_inv (show (f b).bind _ = some o from e2)
      refine ⟨fun σ' H' => ∃ b' F', Ok T Z (Γl b') F' H' σ' ∧ whileN mc f m b' = some o, fun σ' H' ⟨b', F', a, c⟩ => ⟨m, Nat.lt_succ_self m, b', F', a, c⟩, ?_⟩
      refine hb b Z F2 H2 σ (okb.grow gr) o1 e3 _ ?_
      cases o1 with
      | nx b' => exact fun F3 H3 σ3 ok3 => ⟨b', F3, ok3, e4⟩
      | ct b' => exact fun F3 H3 σ3 ok3 => ⟨b', F3, ok3, e4⟩
      | bk b' => cases e4; exact p
      | rt d ms => cases e4; exact p
/-! pairs' targets -/
theorem bg2_nn {d e : D} {m : Option ω} (h : B T t ((Γ.set i (slotOf ma d)).set j (slotOf mb e)) m P) : Bg2 T (gTup T.K 2 (gCons (gName i) (gCons (gName j) gNil))) t Γ ma mb d e m P := fun Z F H σ p v w ok hq r1 r2 o ho E pp Q qq =>
  ⟨p, _, rfl, hq, rfl, v, _, rfl, w, _, rfl, rfl, qq _ _ (h Z F H _ ((ok.setMd (i := i) r1).setMd (i := j) r2) o ho E pp)⟩
/-- the second one is a pattern of its own; the first one; both -/
theorem bg2_np {g2 : TG} {d e : D} {m : Option ω} (h : Bg T g2 t (Γ.set i (slotOf ma d)) mb e m P) : Bg2 T (gTup T.K 2 (gCons (gName i) (gCons g2 gNil))) t Γ ma mb d e m P := fun Z F H σ p v w ok hq r1 r2 o ho E pp Q qq =>
  ⟨p, _, rfl, hq, rfl, v, _, rfl, w, _, rfl, h Z F H _ w (ok.setMd (i := i) r1) r2 o ho E pp _ fun σ2 H2 z => ⟨rfl, qq _ _ z⟩⟩
theorem bg2_2n {d e : D} {mk : D → D → Option ω} (h : ∀ a b, B T t (((Γ.set i (slotOf ma a)).set j (slotOf ma b)).set k (slotOf mb e)) (mk a b) P) :
    Bg2 T (gTup T.K 2 (gCons (gTup T.K 2 (gCons (gName i) (gCons (gName j) gNil))) (gCons (gName k) gNil))) t Γ ma mb d e (un2 d mk) P := fun Z F H σ p v w ok hq r1 r2 o ho E pp Q qq => by
  obtain ⟨a, b, rfl, e1⟩ := un2_inv ho
  obtain ⟨q, vs, rfl, hq1, rr⟩ := rep_tup_inv r1
  obtain ⟨va, s1, rfl, ra, rr⟩ := rr.uncons
  obtain ⟨vb, s2, rfl, rb, rr⟩ := rr.uncons
  simp only [Reps] at rr; subst rr
  refine ⟨p, _, rfl, hq, rfl, .ref q, _, rfl, q, _, rfl, SqT.of (sel_in ok.hv.f ok.hv.b _ _ hq1), rfl, va, _, rfl, vb, _, rfl, rfl, w, _, rfl, rfl, ?_⟩
  have ok2 := (ok.setMd (i := i) ra).setMd (i := j) rb
  exact qq _ _ (h a b Z F H _ (ok2.setMd (i := k) r2) o e1 E pp)
theorem bg2_3n {d e : D} {mk : D → D → D → Option ω} (h : ∀ a b c, B T t ((((Γ.set i (slotOf ma a)).set j (slotOf ma b)).set k (slotOf ma c)).set l (slotOf mb e)) (mk a b c) P) :
    Bg2 T (gTup T.K 2 (gCons (gTup T.K 3 (gCons (gName i) (gCons (gName j) (gCons (gName k) gNil)))) (gCons (gName l) gNil))) t Γ ma mb d e (un3 d mk) P := fun Z F H σ p v w ok hq r1 r2 o ho E pp Q qq => by
  obtain ⟨a, b, c, rfl, e1⟩ := un3_inv ho
  obtain ⟨q, vs, rfl, hq1, rr⟩ := rep_tup_inv r1
  obtain ⟨va, s1, rfl, ra, rr⟩ := rr.uncons
  obtain ⟨vb, s2, rfl, rb, rr⟩ := rr.uncons
  obtain ⟨vc, s3, rfl, rc, rr⟩ := rr.uncons
  simp only [Reps] at rr; subst rr
  refine ⟨p, _, rfl, hq, rfl, .ref q, _, rfl, q, _, rfl, SqT.of (sel_in ok.hv.f ok.hv.b _ _ hq1), rfl, va, _, rfl, vb, _, rfl, vc, _, rfl, rfl, w, _, rfl, rfl, ?_⟩
  have ok2 := ((ok.setMd (i := i) ra).setMd (i := j) rb).setMd (i := k) rc
  exact qq _ _ (h a b c Z F H _ (ok2.setMd (i := l) r2) o e1 E pp)
theorem bg2_32 {n : Nat} {d e : D} {mk : D → D → D → D → D → Option ω} (h : ∀ a b c x y, B T t (((((Γ.set i (slotOf ma a)).set j (slotOf ma b)).set k (slotOf ma c)).set l (slotOf mb x)).set n (slotOf mb y)) (mk a b c x y) P) :
    Bg2 T (gTup T.K 2 (gCons (gTup T.K 3 (gCons (gName i) (gCons (gName j) (gCons (gName k) gNil)))) (gCons (gTup T.K 2 (gCons (gName l) (gCons (gName n) gNil))) gNil))) t Γ ma mb d e (un3 d fun a b c => un2 e fun x y => mk a b c x y) P := fun Z F H σ p v w ok hq r1 r2 o ho E pp Q qq => by
  obtain ⟨a, b, c, rfl, e1⟩ := un3_inv ho
  obtain ⟨x, y, rfl, e2⟩ := un2_inv e1
  obtain ⟨q, vs, rfl, hq1, rr⟩ := rep_tup_inv r1
  obtain ⟨va, s1, rfl, ra, rr⟩ := rr.uncons
  obtain ⟨vb, s2, rfl, rb, rr⟩ := rr.uncons
  obtain ⟨vc, s3, rfl, rc, rr⟩ := rr.uncons
  simp only [Reps] at rr; subst rr
  obtain ⟨q', vs', rfl, hq2, rr⟩ := rep_tup_inv r2
  obtain ⟨vx, s4, rfl, rx, rr⟩ := rr.uncons
  obtain ⟨vy, s5, rfl, ry, rr⟩ := rr.uncons
  simp only [Reps] at rr; subst rr
  refine ⟨p, _, rfl, hq, rfl, .ref q, _, rfl, q, _, rfl, SqT.of (sel_in ok.hv.f ok.hv.b _ _ hq1), rfl, va, _, rfl, vb, _, rfl, vc, _, rfl, rfl, .ref q', _, rfl, q', _, rfl, SqT.of (sel_in ok.hv.f ok.hv.b _ _ hq2), rfl, vx, _, rfl, vy, _, rfl, rfl, rfl, ?_⟩
  have ok2 := (((ok.setMd (i := i) ra).setMd (i := j) rb).setMd (i := k) rc).setMd (i := l) rx
  exact qq _ _ (h a b c x y Z F H _ (ok2.setMd (i := n) ry) o e2 E pp)
end
end Mi
/-! walks over lists and tuples alike: x in v, enumerate(v), zip(v, w) -/
namespace PySem
open Sem (wp)
open AutoSeq1 (wpAny_loadPart')
theorem mi_enum_new1 {v : Value} {o : Obj} {H : Heap → Prop} (B : Begins v o H) :
    Meets (Builtin.«enumerate.__new__» ⟨[.type "enumerate", v], []⟩) (fun _ R s => H s.heap ∧
      R (.ok (.ret (.ref (s.heap.push o).objs.size))) { s with heap := (s.heap.push o).push { cls := .type "enumerate", data := .fields #[.none, .bool false, .ref s.heap.objs.size, rawInt 0, .none, .none] } }) :=
  .of_wp fun prog w A R s h => by
    obtain ⟨hp, g, d, tk, os⟩ := s; obtain ⟨h1, h⟩ := h
    have hsub := sub_enumerate
    have q1 : ∀ {A' : Around} {E : Value → Shared → Prop} {Q : Value → Shared → Prop}, Q (.ref hp.objs.size) ⟨hp.push o, g, d, tk, os⟩ → wpAny (model prog w) A' (pyIter v) Q E ⟨hp, g, d, tk, os⟩ :=
      fun q => B.iter prog w _ _ ⟨hp, g, d, tk, os⟩ _ h1 q
    wp_walk using q1
    refine wpAny_stack_any fun st => wpAny_pure ?_
    split
    · rename_i c _ _ _ _ _
      cases (c == Value.type "enumerate")
      · wp_walk using q1
        exact ⟨_, rfl, h⟩
      · wp_walk using q1
        exact ⟨_, rfl, h⟩
    · wp_walk using q1
      exact ⟨_, rfl, h⟩
section
variable {prog : Program} {w : World} {A : Around} {E : Value → Shared → Prop} {s : Shared}
theorem mi_enum_begins {v : Value} {o : Obj} {H : Heap → Prop} {Q : Value → Shared → Prop} (B : Begins v o H) (h1 : H s.heap)
    (h : ∀ h', IsEnum h' (s.heap.objs.size + 1) s.heap.objs.size 0 .none → h'.get? s.heap.objs.size = some o → h'.objs.size = s.heap.objs.size + 2 →
      (∀ b o, s.heap.get? b = some o → h'.get? b = some o) → Q (.ref (s.heap.objs.size + 1)) { s with heap := h' }) :
    wpAny (model prog w) A (call (.type "enumerate") [v]) Q E s := by
  refine callType_new F.called_enumerate (by decide) (F.typeCall_enumerate_1 _) (F.newCall_enumerate_1 _) (fun obj => F.args_object_init_2 obj _) F.entry_enumerate_new
    (mi_enum_new1 B) ⟨h1, ?_⟩
  have hz : (s.heap.push o).objs.size = s.heap.objs.size + 1 := Heap.size_push ..
  show _ ∧ _
  rw [hz]
  have he : IsEnum ((s.heap.push o).push { cls := .type "enumerate", data := .fields #[.none, .bool false, .ref s.heap.objs.size, rawInt 0, .none, .none] }) (s.heap.objs.size + 1) s.heap.objs.size 0 .none := by
    have := Heap.get?_push_size (s.heap.push o) (o := { cls := .type "enumerate", data := .fields #[.none, .bool false, .ref s.heap.objs.size, rawInt 0, .none, .none] }) rfl
    rw [hz] at this; exact this
  refine ⟨⟨_, he, rfl⟩, h _ he (Heap.get?_push_of_some _ (Heap.get?_push_size _ B.free)) (by rw [Heap.size_push, hz]) fun b o x => Heap.get?_push_of_some _ (Heap.get?_push_of_some _ x)⟩
end
end PySem

namespace Mi
open PySem L2
open PyProof.Rows
open Evl (Ex ex_t ex_l ex_rd fresh_back)
/-- a list (true) or a tuple (false) that is read -/
def SqK (kd : Bool) (K : PySem.W.Frag) (H : Hp) (a : Addr) (xs : List V) : Prop := if kd = true then SqL K H a xs else SqT K H a xs
def itK (kd : Bool) (h : Heap) (it a : Addr) (i : Nat) : Prop := if kd = true then h.IsListIter it a i else h.IsTupleIter it a i
def sqK (kd : Bool) (h : Heap) (a : Addr) (its : Array Value) : Prop := if kd = true then h.IsList a its else h.IsTuple a its
def itO (kd : Bool) (a : Addr) : Obj := if kd = true then { cls := .type "list_iterator", data := .fields #[.ref a, .int 0 0] } else { cls := .type "tuple_iterator", data := .fields #[.ref a, .int 0 0] }
theorem itK_obj {kd : Bool} {h : Heap} {it a : Addr} {i : Nat} (x : itK kd h it a i) : ∃ o, h.get? it = some o ∧ ∀ v, o.data ≠ .cell v := by
  cases kd with
  | true => obtain ⟨o, e, c, d⟩ := (show h.IsListIter it a i from x); exact ⟨o, e, fun v q => by rw [d] at q; cases q⟩
  | false => obtain ⟨o, e, c, d⟩ := (show h.IsTupleIter it a i from x); exact ⟨o, e, fun v q => by rw [d] at q; cases q⟩
theorem itK_at {kd : Bool} {h h' : Heap} {it a : Addr} {i : Nat} (x : itK kd h it a i) (k : ∀ o, h.get? it = some o → h'.get? it = some o) : itK kd h' it a i := by
  cases kd with
  | true => exact Heap.IsListIter.at (show h.IsListIter it a i from x) k
  | false => exact Heap.IsTupleIter.at (show h.IsTupleIter it a i from x) k
theorem itK_new {kd : Bool} {h : Heap} {it a : Addr} (e : h.get? it = some (itO kd a)) : itK kd h it a 0 := by
  cases kd with
  | true => exact ⟨_, e, rfl, rfl⟩
  | false => exact ⟨_, e, rfl, rfl⟩
theorem itO_free {kd : Bool} {a : Addr} : (itO kd a).isFreed = false := by cases kd <;> rfl
section
variable {X : Cx} {pins : List (Addr × Obj)} {σ : L2.St} {H : Hp} {s : Shared} {a b : Addr} {kd ka kb : Bool}
theorem sqK_of (I : Inv X pins σ H s) {xs : List V} (h : SqK kd X.K H a xs) : ∃ its : List Value, Vals xs its ∧ sqK kd s.heap a its.toArray := by
  cases kd with
  | true => obtain ⟨its, rv, p, _⟩ := I.list (show SqL X.K H a xs from h); exact ⟨its, rv, p.isList⟩
  | false => obtain ⟨its, rv, p, _⟩ := I.tuple (show SqT X.K H a xs from h); exact ⟨its, rv, (show s.heap.IsTuple a its.toArray from p)⟩
theorem sqK_inj (I : Inv X pins σ H s) {xs ys : List V} (h : SqK kd X.K H a xs) (h' : SqK kd X.K H a ys) : xs = ys := by
  cases kd with
  | true => exact I.list_inj (show SqL X.K H a xs from h) h'
  | false => exact I.tuple_inj (show SqT X.K H a xs from h) h'
theorem sqK_lt {h : Heap} {its : Array Value} (x : sqK kd h a its) : a < h.objs.size := by
  cases kd with
  | true => obtain ⟨o, e, _⟩ := (show h.IsList a its from x); exact Heap.lt_size e
  | false => obtain ⟨o, e, _⟩ := (show h.IsTuple a its from x); exact Heap.lt_size e
theorem drawsK {prog : Program} {w : World} {A : Around} (hh : A.handled = none) (it l : Addr) (hne : l ≠ it) (items : Array Value) :
    Draws prog w A it [it, l] items.size (fun i v => items[i]? = some v) (fun i h => itK kd h it l i ∧ sqK kd h l items) := by
  cases kd with
  | true => exact Draws.list hh it l hne items
  | false => exact Draws.tuple hh it l hne items
theorem beginsK (l : Addr) (items : Array Value) : Begins (.ref l) (itO kd l) fun h => sqK kd h l items := by
  cases kd with
  | true => exact begins_list l items
  | false => exact begins_tuple l items
def IteK (kd : Bool) (K : PySem.W.Frag) (a : Addr) : It :=
  ⟨fun i H => ∃ (xs : List V) (x : V), SqK kd K H a xs ∧ xs[i]? = some x, fun i H v H' => ∃ T x, v = .ref T ∧ H T = none ∧ H' = upd H T (.tup [.int (i : Nat), x]) ∧ ∀ xs, SqK kd K H a xs → xs[i]? = some x, fun i H => ∃ xs : List V, SqK kd K H a xs ∧ xs.length = i⟩
theorem turn_enumK {P : Program} {w : World} {K : PySem.W.Frag} {elts : List Expr} {kk : Nat} {tpos : Pos} (a e it : Addr) (hae : a ≠ e) (hai : a ≠ it) :
    Turn P w K (.Tuple elts kk tpos) (IteK kd K a) [e, it] e (fun i h => (∃ old, IsEnum h e it ((i : Nat) : Int) old) ∧ itK kd h it a i ∧ e ≠ it) where
  mem := by simp
  obj := fun i h st b hb => by
    obtain ⟨⟨old, he⟩, hi, _⟩ := st
    have e' : b = e ∨ b = it := by simpa using hb
    rcases e' with z | z
    · rw [z]; exact ⟨_, he, fun v q => nomatch q⟩
    · rw [z]; exact itK_obj hi
  keep := fun i h h' st k => let ⟨⟨old, he⟩, hi, hne⟩ := st; ⟨⟨old, k e (by simp) _ he⟩, itK_at hi fun o q => k it (by simp) o q, hne⟩
  item := by
    intro X hP hw hK hc i pins s σ H E I hf st hg
    subst hP hw hK
    obtain ⟨⟨old, he⟩, hit, hne⟩ := st
    obtain ⟨xs, x, hq, hx⟩ := hg
    obtain ⟨its, rv, p⟩ := sqK_of I hq
    obtain ⟨u, hu, ru⟩ := rv.get hx
    have hel : e < s.heap.objs.size := Heap.lt_size he
    have hil : it < s.heap.objs.size := by obtain ⟨_, q, _⟩ := itK_obj hit; exact Heap.lt_size q
    have hlt : i < its.toArray.size := by
      have := (List.getElem?_eq_some_iff.mp hu).1
      simpa using this
    have hh : X.A.in1.handled = none := I.ok.hd hc
    refine wpAny_pyNext_enum_itemD (drawsK (kd := kd) hh it a hai its.toArray) he ⟨hit, p⟩ hlt hne (by simp; exact ⟨hne, hae.symm⟩) fun y h' tk hy ho st' hT hsz hk => ?_
    have ey : y = u := by
      have hy' : its.toArray[i]? = some y := hy
      simp only [List.getElem?_toArray] at hy'
      rw [hu] at hy'
      exact (Option.some.inj hy').symm
    subst ey
    refine ⟨_, rfl, wpAny_letOwnedTupleGo_enum (s := { s with heap := h', toks := tk + 1 }) ho fun h'' he' sb => ?_⟩
    have hT2 : h''.get? s.heap.objs.size = some { cls := .type "tuple", data := .seq #[.int i tk, y] } := (sb.2 _ (Nat.ne_of_gt hel)).trans hT
    have new : ObjOk X.prog X.w (upd H s.heap.objs.size (.tup [.int (i : Nat), x])) h'' s.heap.objs.size (.tup [.int (i : Nat), x]) :=
      ⟨by show 2 ≤ sizeLine; decide, [.int i tk, y], .cons ⟨_, rfl⟩ (.cons ru .nil), ⟨_, hT2, rfl, _, rfl⟩⟩
    have I1 : Inv X pins σ (upd H s.heap.objs.size (.tup [.int (i : Nat), x])) { s with heap := h'', toks := tk + 1 } :=
      I.turnedNew (ch := [e, it]) (fun b ob hb q => (sb.2 b (fun z => hb (by simp [z]))).trans (hk b ob (fun z => hb (by simp [z])) (fun z => hb (by simp [z])) q)) hf (Nat.le_refl _) new
    refine ⟨.ref s.heap.objs.size, _, I1, rfl, ⟨_, x, rfl, I.hok.fresh (Nat.le_refl _), rfl, fun ys hy => by rw [sqK_inj I hy hq]; exact hx⟩, ⟨⟨y, ?_⟩, itK_at st'.1 fun o q => (sb.2 it (Ne.symm hne)).trans q, hne⟩, fun b hb => ?_⟩
    · have e1 : ((i + 1 : Nat) : Int) = (i : Int) + 1 := by omega
      rw [e1]; exact he'
    · have hb' : b < s.heap.objs.size := by
        have e' : b = e ∨ b = it := by simpa using hb
        rcases e' with z | z
        · rw [z]; exact hel
        · rw [z]; exact hil
      rw [upd_ne (Nat.ne_of_lt hb')]
      exact (hf b hb).1
  done := by
    intro X hP hw hK hc i pins s σ H E I hf st hg
    subst hP hw hK
    obtain ⟨⟨old, he⟩, hit, hne⟩ := st
    obtain ⟨xs, hq, hx⟩ := hg
    obtain ⟨its, rv, p⟩ := sqK_of I hq
    obtain ⟨f0, f1, f2, f3, f4, f5⟩ := hf it (by simp)
    have hl := rv.length
    have hh : X.A.in1.handled = none := I.ok.hd hc
    have hsz : its.toArray.size = i := by simp; omega
    exact wpAny_pyNext_enum_endD (drawsK (kd := kd) hh it a hai its.toArray) he ⟨by rw [hsz]; exact hit, p⟩ fun h' eb => ⟨rfl, I.turned (t' := s.toks) (fun b o hb q => eb b o hb q) f0 f1 f3 f4 f5⟩
  self := fun A i s Q E st h => let ⟨⟨_, he⟩, _⟩ := st; wpAny_pyIter_enum he h
/-- enumerate(v), v a list or a tuple -/
def iEnumK (K : PySem.W.Frag) (ta : TA) : TI := fun σ H R => ta σ H fun vs H1 => ∃ kd a xs, vs = [.ref a] ∧ SqK kd K H1 a xs ∧ R (IteK kd K a) H1
theorem pi_enumK {X : Cx} {e : Expr} {ta : TA} {p pos tpos : Pos} {elts : List Expr} {kk : Nat} (hg : Gl X "enumerate") (hm : X.mg "enumerate" = none) (ha : PA X [e] ta) (hs : starEach [e] X.env = [(false, eval e X.env)] := by rfl) :
    PI X (.Tuple elts kk tpos) (.Call (.Name "enumerate" p) [e] [] pos) (iEnumK X.K ta) := by
  refine ⟨fun pins s σ H R I h => ?_⟩
  refine Call_ (ld_blt I hg hm boot_enumerate (PyProof.Rows.callWith_type1 (thn (ha.run pos pins s σ H _ I h) fun us s1 ⟨vs, H1, I1, r1, q1⟩ => ?_) hs rfl))
  obtain ⟨kd, a, xs, ex, hq, q⟩ := q1
  subst ex
  cases r1 with
  | cons r rr =>
    cases rr
    cases r
    obtain ⟨its, rv, p'⟩ := sqK_of I1 hq
    have la := sqK_lt p'
    refine mi_enum_begins (beginsK a its.toArray) p' fun h' he hit hsz hk => wpAny_pyIter_enum he ?_
    have I2 : Inv X pins σ H1 { s1 with heap := h' } := I1.kept (t' := s1.toks) hk
    refine ⟨s1.heap.objs.size + 1, [s1.heap.objs.size + 1, s1.heap.objs.size], _, _, H1, rfl, I2, turn_enumK a (s1.heap.objs.size + 1) s1.heap.objs.size (Nat.ne_of_lt (Nat.lt_succ_of_lt la)) (Nat.ne_of_lt la), ⟨⟨.none, he⟩, itK_new hit, Nat.succ_ne_self _⟩, fun b hb => ?_, q⟩
    have e' : b = s1.heap.objs.size + 1 ∨ b = s1.heap.objs.size := by simpa using hb
    have hle : s1.heap.objs.size ≤ b := by
      rcases e' with z | z
      · rw [z]; exact Nat.le_add_right _ _
      · rw [z]; exact Nat.le_refl _
    exact I1.fpOk hle (I1.hok.fresh hle)
end
end Mi
/-! zip over lists and tuples; walks as Mi sees them -/
namespace Mi
open PySem L2
open PyProof.Rows
open Evl (Ex ex_t ex_l ex_rd fresh_back)
section
variable {ka kb kd : Bool}
def ItzK (ka kb : Bool) (K : PySem.W.Frag) (a b : Addr) : It :=
  ⟨fun i H => ∃ (xs ys : List V) (x y : V), SqK ka K H a xs ∧ SqK kb K H b ys ∧ xs[i]? = some x ∧ ys[i]? = some y,
    fun i H v H' => ∃ T x y, v = .ref T ∧ H T = none ∧ H' = upd H T (.tup [x, y]) ∧ (∀ xs, SqK ka K H a xs → xs[i]? = some x) ∧ ∀ ys, SqK kb K H b ys → ys[i]? = some y,
    fun i H => ∃ xs ys : List V, SqK ka K H a xs ∧ SqK kb K H b ys ∧ i ≤ xs.length ∧ i ≤ ys.length ∧ (i = xs.length ∨ i = ys.length)⟩
theorem turn_zipK {P : Program} {w : World} {K : PySem.W.Frag} {elts : List Expr} {kk : Nat} {tpos : Pos} {a b z TI TO i1 i2 : Addr} (S : ZipSep2 z TI TO i1 i2 [i1, a] [i2, b]) (ha1 : a ≠ i1) (hb2 : b ≠ i2) :
    Turn P w K (.Tuple elts kk tpos) (ItzK ka kb K a b) [z, TI, TO, i1, i2] z (fun i h => IsZip h z TI TO .none ∧ IsTupOf2 h TI (.ref i1) (.ref i2) ∧ (∃ x y, IsTupOf2 h TO x y) ∧ itK ka h i1 a i ∧ itK kb h i2 b i) where
  mem := by simp
  obj := fun i h st c hc => by
    obtain ⟨hz, hTI, ⟨x, y, hTO⟩, h1, h2⟩ := st
    have e' : c = z ∨ c = TI ∨ c = TO ∨ c = i1 ∨ c = i2 := by simpa using hc
    rcases e' with q | q | q | q | q
    · rw [q]; exact ⟨_, hz, fun v q => nomatch q⟩
    · rw [q]; exact ⟨_, hTI, fun v q => nomatch q⟩
    · rw [q]; exact ⟨_, hTO, fun v q => nomatch q⟩
    · rw [q]; exact itK_obj h1
    · rw [q]; exact itK_obj h2
  keep := fun i h h' st k => by
    obtain ⟨hz, hTI, ⟨x, y, hTO⟩, h1, h2⟩ := st
    exact ⟨k z (by simp) _ hz, k TI (by simp) _ hTI, ⟨x, y, k TO (by simp) _ hTO⟩, itK_at h1 fun o q => k i1 (by simp) o q, itK_at h2 fun o q => k i2 (by simp) o q⟩
  item := by
    intro X hP hw hK hc i pins s σ H E I hf st hg
    subst hP hw hK
    obtain ⟨hz, hTI, ⟨x0, y0, hTO⟩, h1, h2⟩ := st
    obtain ⟨xs, ys, x, y, hqx, hqy, hx, hy⟩ := hg
    obtain ⟨its, rv, p⟩ := sqK_of I hqx
    obtain ⟨its2, rv2, p2⟩ := sqK_of I hqy
    obtain ⟨u, hu, ru⟩ := rv.get hx
    obtain ⟨u2, hu2, ru2⟩ := rv2.get hy
    have hzl : z < s.heap.objs.size := Heap.lt_size hz
    have hh : X.A.in1.handled = none := I.ok.hd hc
    have lt1 : i < its.toArray.size := by
      have := (List.getElem?_eq_some_iff.mp hu).1
      simpa using this
    have lt2 : i < its2.toArray.size := by
      have := (List.getElem?_eq_some_iff.mp hu2).1
      simpa using this
    refine wpAny_pyNext_zipD2_item S (drawsK (kd := ka) hh i1 a ha1 its.toArray) (drawsK (kd := kb) hh i2 b hb2 its2.toArray) hz hTI hTO ⟨h1, p⟩ ⟨h2, p2⟩ lt1 lt2 fun v1 v2 h' tk e1 e2 z' TO' st1 st2 hT hsz hk => ?_
    have ev1 : v1 = u := by
      have hy' : its.toArray[i]? = some v1 := e1
      simp only [List.getElem?_toArray] at hy'
      rw [hu] at hy'
      exact (Option.some.inj hy').symm
    have ev2 : v2 = u2 := by
      have hy' : its2.toArray[i]? = some v2 := e2
      simp only [List.getElem?_toArray] at hy'
      rw [hu2] at hy'
      exact (Option.some.inj hy').symm
    subst ev1
    subst ev2
    refine ⟨_, rfl, wpAny_letOwnedTupleGo_zip (s := { s with heap := h', toks := tk }) z' fun h'' z'' sb => ?_⟩
    have hT2 : h''.get? s.heap.objs.size = some { cls := .type "tuple", data := .seq #[v1, v2] } := (sb.2 _ (Nat.ne_of_gt hzl)).trans hT
    have new : ObjOk X.prog X.w (upd H s.heap.objs.size (.tup [x, y])) h'' s.heap.objs.size (.tup [x, y]) :=
      ⟨by show 2 ≤ sizeLine; decide, [v1, v2], .cons ru (.cons ru2 .nil), ⟨_, hT2, rfl, _, rfl⟩⟩
    have I1 : Inv X pins σ (upd H s.heap.objs.size (.tup [x, y])) { s with heap := h'', toks := tk } :=
      I.turnedNew (t' := tk) (ch := [z, TI, TO, i1, i2]) (fun c o hb q => (sb.2 c (fun q' => hb (by simp [q']))).trans (hk c o (fun q' => hb (by simp [q'])) (fun q' => hb (by simp [q'])) (fun q' => hb (by simp [q'])) (fun q' => hb (by simp [q'])) q)) hf (Nat.le_refl _) new
    have n1 : i1 ≠ z := fun q => S.zf1 (by rw [← q]; exact S.mem1)
    have n2 : i2 ≠ z := fun q => S.zf2 (by rw [← q]; exact S.mem2)
    refine ⟨.ref s.heap.objs.size, _, I1, rfl, ⟨_, x, y, rfl, I.hok.fresh (Nat.le_refl _), rfl, fun l hl => by rw [sqK_inj I hl hqx]; exact hx, fun l hl => by rw [sqK_inj I hl hqy]; exact hy⟩, ⟨z'', ?_, ⟨v1, v2, ?_⟩, ?_, ?_⟩, fun c hcm => ?_⟩
    · exact (sb.2 _ S.TIz).trans (hk _ _ S.TIz S.TITO S.TIi1 S.TIi2 hTI)
    · exact (sb.2 _ S.TOz).trans TO'
    · exact itK_at st1.1 fun o q => (sb.2 _ n1).trans q
    · exact itK_at st2.1 fun o q => (sb.2 _ n2).trans q
    · have hlt : c < s.heap.objs.size := by
        have e' : c = z ∨ c = TI ∨ c = TO ∨ c = i1 ∨ c = i2 := by simpa using hcm
        rcases e' with q | q | q | q | q
        · rw [q]; exact hzl
        · rw [q]; exact Heap.lt_size hTI
        · rw [q]; exact Heap.lt_size hTO
        · rw [q]; obtain ⟨_, e1, _⟩ := itK_obj h1; exact Heap.lt_size e1
        · rw [q]; obtain ⟨_, e2, _⟩ := itK_obj h2; exact Heap.lt_size e2
      rw [upd_ne (Nat.ne_of_lt hlt)]
      exact (hf c hcm).1
  done := by
    intro X hP hw hK hc i pins s σ H E I hf st hg
    subst hP hw hK
    obtain ⟨hz, hTI, ⟨x0, y0, hTO⟩, h1, h2⟩ := st
    obtain ⟨xs, ys, hqx, hqy, le1, le2, hend⟩ := hg
    obtain ⟨its, rv, p⟩ := sqK_of I hqx
    obtain ⟨its2, rv2, p2⟩ := sqK_of I hqy
    have l1 := rv.length
    have l2 := rv2.length
    have hh : X.A.in1.handled = none := I.ok.hd hc
    exact wpAny_pyNext_zipD2_end S (drawsK (kd := ka) hh i1 a ha1 its.toArray) (drawsK (kd := kb) hh i2 b hb2 its2.toArray) hz hTI hTO ⟨h1, p⟩ ⟨h2, p2⟩ (by simp; omega) (by simp; omega) (by simp; omega) fun h' tk hk => ⟨rfl, I.turnedL (t' := tk) (ch := [z, TI, TO, i1, i2]) (fun c o hb q =>
      hk c o (fun q' => hb (by simp [q'])) (fun q' => hb (by simp [q'])) (fun q' => hb (by simp [q'])) (fun q' => hb (by simp [q'])) q) hf⟩
  self := fun A i s Q E st h => wpAny_pyIter_zip st.1 h
def iZipK (K : PySem.W.Frag) (ta : TA) : TI := fun σ H R => ta σ H fun vs H1 => ∃ ka kb a b xs ys, vs = [.ref a, .ref b] ∧ SqK ka K H1 a xs ∧ SqK kb K H1 b ys ∧ R (ItzK ka kb K a b) H1
theorem pi_zipK {X : Cx} {e e2 : Expr} {ta : TA} {p pos tpos : Pos} {elts : List Expr} {kk : Nat} (hg : Gl X "zip") (hm : X.mg "zip" = none) (ha : PA X [e, e2] ta)
    (hs : starEach [e, e2] X.env = (false, eval e X.env) :: starEach [e2] X.env := by rfl) (hpl : (backTo pos (starEach [e2] X.env)).any (·.1) = false := by rfl) :
    PI X (.Tuple elts kk tpos) (.Call (.Name "zip" p) [e, e2] [] pos) (iZipK X.K ta) := by
  refine ⟨fun pins s σ H R I h => ?_⟩
  refine Call_ (ld_blt I hg hm PyProof.Rows.boot_zip (PyProof.Rows.callWith_type1 (thn (ha.run pos pins s σ H _ I h) fun us s1 ⟨vs, H1, I1, r1, q1⟩ => ?_) hs hpl))
  obtain ⟨ka, kb, a, b, xs, ys, ex, hqx, hqy, q⟩ := q1
  subst ex
  cases r1 with
  | cons r rr =>
    cases rr with
    | cons r' rr =>
      cases rr
      cases r
      cases r'
      obtain ⟨its, rv, p1⟩ := sqK_of I1 hqx
      obtain ⟨its2, rv2, p2⟩ := sqK_of I1 hqy
      have la : a < s1.heap.objs.size := sqK_lt p1
      have lb : b < s1.heap.objs.size := sqK_lt p2
      refine zip_begins2 (beginsK a its.toArray) (beginsK b its2.toArray) p1 p2 fun h' hz hTI hTO h1 h2 hsz hk => wpAny_pyIter_zip hz ?_
      have I2 : Inv X pins σ H1 { s1 with heap := h' } := I1.kept (t' := s1.toks) hk
      refine ⟨s1.heap.objs.size + 4, [s1.heap.objs.size + 4, s1.heap.objs.size + 2, s1.heap.objs.size + 3, s1.heap.objs.size, s1.heap.objs.size + 1], _, _, H1, rfl, I2,
        turn_zipK (zip_sep2 (fp1 := [a]) (fp2 := [b]) (fun x hx => by simp at hx; rw [hx]; exact la) (fun x hx => by simp at hx; rw [hx]; exact lb)) (Nat.ne_of_lt la) (Nat.ne_of_lt (Nat.lt_succ_of_lt lb)), ⟨hz, hTI, ⟨_, _, hTO⟩, itK_new h1, itK_new h2⟩, fun c hcm => ?_, q⟩
      have e' : c = s1.heap.objs.size + 4 ∨ c = s1.heap.objs.size + 2 ∨ c = s1.heap.objs.size + 3 ∨ c = s1.heap.objs.size ∨ c = s1.heap.objs.size + 1 := by simpa using hcm
      have hle : s1.heap.objs.size ≤ c := by
        rcases e' with z | z | z | z | z
        · rw [z]; exact Nat.le_add_right _ _
        · rw [z]; exact Nat.le_add_right _ _
        · rw [z]; exact Nat.le_add_right _ _
        · rw [z]; exact Nat.le_refl _
        · rw [z]; exact Nat.le_add_right _ _
      exact I1.fpOk hle (I1.hok.fresh hle)
/-- v itself: a list, a tuple, a text -/
def iSeqK (K : PySem.W.Frag) (tl : TE) : TI := fun σ H R => tl σ H fun x H1 => (∃ a, x = .ref a ∧ (∃ xs, SqL K H1 a xs) ∧ R (Itl K a) H1) ∨ (∃ a, x = .ref a ∧ (∃ xs, SqT K H1 a xs) ∧ R (Itt K a) H1) ∨ ∃ z, x = .str z ∧ R (Its z) H1
theorem pi_seqK {X : Cx} {tg l : Expr} {tl : TE} (hl : PE X l tl) : PI X tg l (iSeqK X.K tl) := by
  refine ⟨fun pins s σ H R I h => ?_⟩
  refine thn (hl.run pins s σ H _ I h) fun v s1 ⟨x, H1, I1, r1, q1⟩ => ?_
  rcases q1 with ⟨a, e, ⟨xs, hq⟩, q⟩ | ⟨a, e, ⟨xs, hq⟩, q⟩ | ⟨z, e, q⟩
  · subst e
    cases r1
    obtain ⟨its, rv, p, hz⟩ := I1.list hq
    refine wpAny_pyIter_list p.isList ?_
    refine ⟨s1.heap.objs.size, [s1.heap.objs.size], _, _, H1, rfl, I1.kept (t' := s1.toks) fun b o e => Heap.get?_push_of_some _ e, turn_list a _, ⟨_, Heap.get?_push_size _ rfl, rfl, rfl⟩, fun b hb => ?_, q⟩
    have e : b = s1.heap.objs.size := by simpa using hb
    subst e
    exact I1.fpOk (Nat.le_refl _) (I1.hok.fresh (Nat.le_refl _))
  · subst e
    cases r1
    obtain ⟨its, rv, p, hz⟩ := I1.tuple hq
    refine wpAny_pyIter_tuple (show s1.heap.IsTuple a its.toArray from p) ?_
    refine ⟨s1.heap.objs.size, [s1.heap.objs.size], _, _, H1, rfl, I1.kept (t' := s1.toks) fun b o e => Heap.get?_push_of_some _ e, turn_tuple a _, ⟨_, Heap.get?_push_size _ rfl, rfl, rfl⟩, fun b hb => ?_, q⟩
    have e : b = s1.heap.objs.size := by simpa using hb
    subst e
    exact I1.fpOk (Nat.le_refl _) (I1.hok.fresh (Nat.le_refl _))
  · subst e
    obtain ⟨t, rfl⟩ := r1
    cases ha : z.cps.all (· < 128)
    · exact wpAny_pyIter_wide ha (pi_one (tk := s1.toks) I1 _ (turn_str _ z t "str_iterator" (.inr rfl)) ⟨_, Heap.get?_push_size _ rfl, rfl, rfl⟩ q)
    · exact wpAny_pyIter_ascii ha (pi_one (tk := s1.toks) I1 _ (turn_str _ z t "str_ascii_iterator" (.inl rfl)) ⟨_, Heap.get?_push_size _ rfl, rfl, rfl⟩ q)
end
/-! ### what is walked, as data -/
def chr1 (c : Nat) : D := .str ⟨#[c]⟩
def dItems : D → Option (List D)
  | .lst ds => some ds
  | .tup ds => some ds
  | .scr ns => some (ns.map D.int)
  | .str z => some (z.cps.toList.map chr1)
  | _ => none
/-- lists and tuples alone -/
def dSeq : D → Option (List D)
  | .lst ds => some ds
  | .tup ds => some ds
  | _ => none
def ranged (lo hi : Int) : List D := (List.range (hi - lo).toNat).map fun i => D.int (lo + (i : Nat))
def dRange1 : List D → Option (List D)
  | [.int n] => if -(2 ^ 62) ≤ n ∧ n < 2 ^ 62 then some (ranged 0 n) else none
  | _ => none
def dRange2 : List D → Option (List D)
  | [.int a, .int b] => if (-(2 ^ 62) ≤ a ∧ a < 2 ^ 62) ∧ -(2 ^ 62) ≤ b ∧ b < 2 ^ 62 then some (ranged a b) else none
  | _ => none
/-- a downward range -/
def rangedN (a b : Int) : List D := (List.range (a - b).toNat).map fun i => D.int (a - (i : Nat))
def dRange3 : List D → Option (List D)
  | [.int a, .int b, .int c] => if c = -1 ∧ (-(2 ^ 62) ≤ a ∧ a < 2 ^ 62) ∧ -(2 ^ 62) ≤ b ∧ b < 2 ^ 62 then some (rangedN a b) else none
  | _ => none
def enumed (ds : List D) : List (D × D) := ds.zipIdx.map fun x => (D.int (x.2 : Nat), x.1)
section
variable {T : Th} {Γ : Ctx} {md ma mb : Md} {te : TE} {tr : TA} {me : Option D} {ms : Option (List D)}
theorem rep_lst_inv {G : Hp} {ds : List D} {v : V} (r : Rep T G (.lst ds) v) : ∃ p vs, v = .ref p ∧ G p = some (.lst vs) ∧ Reps T G ds vs := by simpa only [Rep] using r
/-- what is held stays as it is through a loop -/
theorem sel_ex {Z : Base} {F0 F H H0 : Hp} (hm : md ≠ .h) (e0 : Ex F0 F) (e1 : Ex F H) (e2 : Ex Z.B H) : Ex (sel Z md F0 H0) H ∧ Ex (sel Z md F0 H0) (sel Z md F H) := by
  cases md with
  | f => exact ⟨e0.trans e1, e0⟩
  | b => exact ⟨e2, Ex.refl _⟩
  | h => exact absurd rfl hm
theorem evi_seq (h : Ev T md te Γ me) (hm : md ≠ .h := by decide) : EvI T (iSeqK T.K te) Γ md (o1 dItems me) := fun Z F H σ ok ds hd R q => by
  obtain ⟨x, e1, e2⟩ := o1_inv hd
  refine h Z F H σ ok x e1 _ fun v F2 H2 g r => ?_
  have ok2 := ok.grow g
  cases x <;> simp only [dItems] at e2 <;> try (cases e2; done)
  · -- a text
    rename_i z
    cases e2
    simp only [Rep] at r
    subst r
    refine .inr (.inr ⟨z, rfl, q _ F2 H2 g ⟨fun i F' H' hi _ _ _ => (by simpa using hi : i < z.cps.size), fun F' H' _ _ _ => by simp [Its], fun i F' H' x H'' hi _ e _ y => ?_⟩⟩)
    obtain ⟨rfl, c, hc, rfl⟩ := y
    refine ⟨F', Grow.refl e, fun d hd => ?_⟩
    rw [List.getElem?_map] at hd
    have hc' : z.cps.toList[i]? = some c := by simpa using hc
    rw [hc'] at hd
    cases hd
    simp only [chr1, Rep]
  · -- a list
    rename_i ds'
    cases e2
    obtain ⟨p, vs, rfl, hp, rr⟩ := rep_lst_inv r
    have hl := rr.len
    have ex : ∀ {F' H' : Hp}, Ex F2 F' → Ex F' H' → Ex Z.B H' → SqL T.K H' p vs := fun {F' H'} e0 e1 e2 => SqL.of ((sel_ex (H0 := H2) hm e0 e1 e2).1 _ _ hp)
    refine .inl ⟨p, rfl, ⟨vs, SqL.of (sel_in g.i ok2.hv.b _ _ hp)⟩, q _ F2 H2 g ⟨fun i F' H' hi e0 e1 e2 => ⟨vs, vs[i]'(by omega), ex e0 e1 e2, by simp⟩, fun F' H' e0 e1 e2 => ⟨vs, ex e0 e1 e2, by omega⟩, fun i F' H' x H'' hi e0 e1 e2 y => ?_⟩⟩
    obtain ⟨rfl, y⟩ := y
    refine ⟨F', Grow.refl e1, fun d hd => ?_⟩
    obtain ⟨v, hv, rv⟩ := rr.get hd
    rw [y vs (ex e0 e1 e2)] at hv
    cases hv
    exact rv.mono (sel_ex hm e0 e1 e2).2
  · -- a tuple
    rename_i ds'
    cases e2
    obtain ⟨p, vs, rfl, hp, rr⟩ := rep_tup_inv r
    have hl := rr.len
    have ex : ∀ {F' H' : Hp}, Ex F2 F' → Ex F' H' → Ex Z.B H' → SqT T.K H' p vs := fun {F' H'} e0 e1 e2 => SqT.of ((sel_ex (H0 := H2) hm e0 e1 e2).1 _ _ hp)
    refine .inr (.inl ⟨p, rfl, ⟨vs, SqT.of (sel_in g.i ok2.hv.b _ _ hp)⟩, q _ F2 H2 g ⟨fun i F' H' hi e0 e1 e2 => ⟨vs, vs[i]'(by omega), ex e0 e1 e2, by simp⟩, fun F' H' e0 e1 e2 => ⟨vs, ex e0 e1 e2, by omega⟩, fun i F' H' x H'' hi e0 e1 e2 y => ?_⟩⟩)
    obtain ⟨rfl, y⟩ := y
    refine ⟨F', Grow.refl e1, fun d hd => ?_⟩
    obtain ⟨v, hv, rv⟩ := rr.get hd
    rw [y vs (ex e0 e1 e2)] at hv
    cases hv
    exact rv.mono (sel_ex hm e0 e1 e2).2
  · -- the script
    rename_i ns
    cases e2
    simp only [Rep] at r
    obtain ⟨p, rfl, hp⟩ := r
    have ex : ∀ {F' H' : Hp}, Ex F2 F' → Ex F' H' → Ex Z.B H' → SqL T.K H' p (ns.map V.int) := fun {F' H'} e0 e1 e2 => ex_l (sel_ex (H0 := H2) hm e0 e1 e2).1 hp
    refine .inl ⟨p, rfl, ⟨_, ex_l (sel_in g.i ok2.hv.b) hp⟩, q _ F2 H2 g ⟨fun i F' H' hi e0 e1 e2 => ⟨_, .int (ns[i]'(by simpa using hi)), ex e0 e1 e2, by simp at hi; simp [hi]⟩, fun F' H' e0 e1 e2 => ⟨_, ex e0 e1 e2, by simp⟩, fun i F' H' x H'' hi e0 e1 e2 y => ?_⟩⟩
    obtain ⟨rfl, y⟩ := y
    refine ⟨F', Grow.refl e1, fun d hd => ?_⟩
    have y' := y _ (ex e0 e1 e2)
    rw [List.getElem?_map] at hd y'
    cases e : ns[i]? with
    | none => rw [e] at hd; cases hd
    | some n =>
      rw [e] at hd y'
      cases hd; cases y'
      simp only [Rep]
theorem wk_range {Z : Base} {F0 : Hp} (lo : Int) (n : Nat) : Wk T Z md (Itr lo n) ((List.range n).map fun i => D.int (lo + (i : Nat))) F0 where
  go := fun i F H hi _ _ _ => by simpa [Itr] using hi
  stop := fun F H _ _ _ => by simp [Itr]
  yld := fun i F H x H' hi _ e _ y => by
    obtain ⟨rfl, rfl⟩ := y
    refine ⟨F, Grow.refl e, fun d hd => ?_⟩
    rw [List.getElem?_map] at hd
    have : i < n := by simpa using hi
    rw [List.getElem?_range this] at hd
    cases hd
    simp only [Rep]
theorem wk_rangeC {Z : Base} {F0 : Hp} (lo : Int) (n : Nat) : Wk T Z md (Itc lo (-1) n) ((List.range n).map fun i => D.int (lo - (i : Nat))) F0 where
  go := fun i F H hi _ _ _ => by simpa [Itc] using hi
  stop := fun F H _ _ _ => by simp [Itc]
  yld := fun i F H x H' hi _ e _ y => by
    obtain ⟨rfl, rfl⟩ := y
    refine ⟨F, Grow.refl e, fun d hd => ?_⟩
    rw [List.getElem?_map] at hd
    have : i < n := by simpa using hi
    rw [List.getElem?_range this] at hd
    cases hd
    have e : lo + (i : Int) * -1 = lo - (i : Int) := by omega
    rw [e]
    simp only [Rep]
theorem evi_range1 (h : EvL T .h tr Γ ms) : EvI T (iRng1 tr) Γ md (o1 dRange1 ms) := fun Z F H σ ok ds hd R q => by
  obtain ⟨x, e1, e2⟩ := o1_inv hd
  refine h Z F H σ ok x e1 _ fun vs F2 H2 g r => ?_
  unfold dRange1 at e2
  split at e2
  · rename_i n
    split at e2
    · rename_i hn
      cases e2
      obtain ⟨v, r1, rfl, ra, rr⟩ := r.uncons
      simp only [Reps] at rr; subst rr
      simp only [Rep] at ra; subst ra
      refine ⟨n, rfl, hn.1, hn.2, q _ F2 H2 g ?_⟩
      have := wk_range (T := T) (md := md) (Z := Z) (F0 := F2) 0 n.toNat
      simpa [ranged] using this
    · cases e2
  · cases e2
theorem evi_range2 (h : EvL T .h tr Γ ms) : EvI T (iRng2 tr) Γ md (o1 dRange2 ms) := fun Z F H σ ok ds hd R q => by
  obtain ⟨x, e1, e2⟩ := o1_inv hd
  refine h Z F H σ ok x e1 _ fun vs F2 H2 g r => ?_
  unfold dRange2 at e2
  split at e2
  · rename_i a b
    split at e2
    · rename_i hn
      cases e2
      obtain ⟨v, r1, rfl, ra, rr⟩ := r.uncons
      obtain ⟨w, r2, rfl, rb, rr⟩ := rr.uncons
      simp only [Reps] at rr; subst rr
      simp only [Rep] at ra rb; subst ra rb
      exact ⟨a, b, rfl, ⟨hn.1.1, hn.1.2, hn.2.1, hn.2.2⟩, q _ F2 H2 g (wk_range a _)⟩
    · cases e2
  · cases e2
theorem evi_range3 (h : EvL T .h tr Γ ms) : EvI T (iRng3 tr) Γ md (o1 dRange3 ms) := fun Z F H σ ok ds hd R q => by
  obtain ⟨x, e1, e2⟩ := o1_inv hd
  refine h Z F H σ ok x e1 _ fun vs F2 H2 g r => ?_
  unfold dRange3 at e2
  split at e2
  · rename_i a b c
    split at e2
    · rename_i hn
      cases e2
      obtain ⟨hc, ha, hb⟩ := hn
      subst hc
      obtain ⟨v, r1, rfl, ra, rr⟩ := r.uncons
      obtain ⟨w, r2, rfl, rb, rr⟩ := rr.uncons
      obtain ⟨u, r3, rfl, rc, rr⟩ := rr.uncons
      simp only [Reps] at rr; subst rr
      simp only [Rep] at ra rb rc; subst ra rb rc
      exact ⟨a, b, -1, _, rfl, RgC.neg ha.1 ha.2 hb.1 hb.2, q _ F2 H2 g (wk_rangeC a _)⟩
    · cases e2
  · cases e2
/-- a list or a tuple that is held: its kind, its values -/
theorem seq_kd {G : Hp} {d : D} {ds : List D} {v : V} (r : Rep T G d v) (h : dSeq d = some ds) : ∃ kd p vs, v = .ref p ∧ (∀ G', Ex G G' → SqK kd T.K G' p vs) ∧ Reps T G ds vs := by
  cases d <;> simp only [dSeq] at h <;> try (cases h; done)
  · cases h
    obtain ⟨p, vs, rfl, hp, rr⟩ := rep_lst_inv r
    exact ⟨true, p, vs, rfl, fun G' e => SqL.of (e _ _ hp), rr⟩
  · cases h
    obtain ⟨p, vs, rfl, hp, rr⟩ := rep_tup_inv r
    exact ⟨false, p, vs, rfl, fun G' e => SqT.of (e _ _ hp), rr⟩
theorem tup_new {F H : Hp} (e : Ex F H) {q : Addr} (hq : H q = none) (o : HO) : Grow F (upd F q o) H (upd H q o) :=
  (Grow.lay e hq o).freeze hq upd_same (none_of_ex e hq)
theorem evi_enum (h : Ev T md te Γ me) (hm : md ≠ .h := by decide) : EvI2 T (iEnumK T.K (tCons te tNil)) Γ .f md ((o1 dSeq me).map enumed) := fun Z F H σ ok dp hd R q => by
  cases e0 : o1 dSeq me with
  | none => rw [e0] at hd; cases hd
  | some ds =>
    rw [e0] at hd; cases hd
    obtain ⟨x, e1, e2⟩ := o1_inv e0
    refine h Z F H σ ok x e1 _ fun v F2 H2 g r => ?_
    have ok2 := ok.grow g
    obtain ⟨kd, p, vs, rfl, hp, rr⟩ := seq_kd r e2
    have hl := rr.len
    have ex : ∀ {F' H' : Hp}, Ex F2 F' → Ex F' H' → Ex Z.B H' → SqK kd T.K H' p vs := fun {F' H'} e0 e1 e2 => hp _ (sel_ex (H0 := H2) hm e0 e1 e2).1
    have hlen : (enumed ds).length = ds.length := by simp [enumed]
    refine ⟨kd, p, vs, rfl, hp _ (sel_in g.i ok2.hv.b), q _ F2 H2 g ⟨fun i F' H' hi e0 e1 e2 => ⟨vs, vs[i]'(by omega), ex e0 e1 e2, by simp⟩, fun F' H' e0 e1 e2 => ⟨vs, ex e0 e1 e2, by omega⟩, fun i F' H' x H'' hi e0 e1 e2 y => ?_⟩⟩
    obtain ⟨t, x', rfl, ht, rfl, y⟩ := y
    refine ⟨_, tup_new e1 ht _, t, _, _, rfl, SqT.of upd_same, fun d hd => ?_⟩
    have hi' : i < ds.length := by omega
    have hd' : d = (D.int (i : Nat), ds[i]) := by
      unfold enumed at hd
      rw [List.getElem?_map, List.getElem?_zipIdx] at hd
      simp [hi'] at hd
      exact hd.symm
    subst hd'
    refine ⟨by simp only [Rep], ?_⟩
    obtain ⟨v, hv, rv⟩ := rr.get (i := i) (d := ds[i]) (by simp [hi'])
    rw [y vs (ex e0 e1 e2)] at hv
    cases hv
    exact (rv.mono (sel_ex (H0 := H2) hm e0 e1 e2).2).mono (sel_grow (tup_new e1 ht _))
theorem evi_zip {ta tb : TE} {m1 m2 : Option D} (ha : Ev T ma ta Γ m1) (hb : Ev T mb tb Γ m2) (h1 : ma ≠ .h := by decide) (h2 : mb ≠ .h := by decide) :
    EvI2 T (iZipK T.K (tCons ta (tCons tb tNil))) Γ ma mb (o2 (fun x y => some (x.zip y)) (o1 dSeq m1) (o1 dSeq m2)) := fun Z F H σ ok dp hd R q => by
  obtain ⟨xs, ys, e1, e2, e3⟩ := o2_inv hd
  cases e3
  obtain ⟨x, e4, e5⟩ := o1_inv e1
  obtain ⟨y, e6, e7⟩ := o1_inv e2
  refine ha Z F H σ ok x e4 _ fun v F2 H2 g r => hb Z F2 H2 σ (ok.grow g) y e6 _ fun w F3 H3 g2 r' => ?_
  have ok3 := (ok.grow g).grow g2
  obtain ⟨kd, p, vs, rfl, hp, rr⟩ := seq_kd (r.mono (sel_grow g2)) e5
  obtain ⟨kd', p', ws, rfl, hp', rr'⟩ := seq_kd r' e7
  have hl := rr.len
  have hl' := rr'.len
  have ex : ∀ {F' H' : Hp}, Ex F3 F' → Ex F' H' → Ex Z.B H' → SqK kd T.K H' p vs ∧ SqK kd' T.K H' p' ws := fun {F' H'} e0 e1 e2 => ⟨hp _ (sel_ex (H0 := H3) h1 e0 e1 e2).1, hp' _ (sel_ex (H0 := H3) h2 e0 e1 e2).1⟩
  have hlen : (xs.zip ys).length = min xs.length ys.length := by simp
  refine ⟨kd, kd', p, p', vs, ws, rfl, hp _ (sel_in g2.i ok3.hv.b), hp' _ (sel_in g2.i ok3.hv.b), q _ F3 H3 (g.trans g2) ⟨fun i F' H' hi e0 e1 e2 => ⟨vs, ws, vs[i]'(by omega), ws[i]'(by omega), (ex e0 e1 e2).1, (ex e0 e1 e2).2, by simp, by simp⟩,
    fun F' H' e0 e1 e2 => ⟨vs, ws, (ex e0 e1 e2).1, (ex e0 e1 e2).2, by omega, by omega, by omega⟩, fun i F' H' x H'' hi e0 e1 e2 y => ?_⟩⟩
  obtain ⟨t, x', y', rfl, ht, rfl, y1, y2⟩ := y
  refine ⟨_, tup_new e1 ht _, t, _, _, rfl, SqT.of upd_same, fun d hd => ?_⟩
  have hi1 : i < xs.length := by omega
  have hi2 : i < ys.length := by omega
  have hd' : d = (xs[i], ys[i]) := by
    rw [List.getElem?_zip_eq_some] at hd
    obtain ⟨q1, q2⟩ := hd
    simp [hi1] at q1
    simp [hi2] at q2
    exact Prod.ext q1.symm q2.symm
  subst hd'
  obtain ⟨v, hv, rv⟩ := rr.get (i := i) (d := xs[i]) (by simp [hi1])
  obtain ⟨w, hw, rw'⟩ := rr'.get (i := i) (d := ys[i]) (by simp [hi2])
  rw [y1 vs (ex e0 e1 e2).1] at hv
  rw [y2 ws (ex e0 e1 e2).2] at hw
  cases hv
  cases hw
  exact ⟨(rv.mono (sel_ex (H0 := H3) h1 e0 e1 e2).2).mono (sel_grow (tup_new e1 ht _)), (rw'.mono (sel_ex (H0 := H3) h2 e0 e1 e2).2).mono (sel_grow (tup_new e1 ht _))⟩
end
end Mi
/-! operations -/
namespace Mi
open PySem L2
open PyProof.Rows
open Evl (Ex ex_t ex_l ex_rd fresh_back)

/-! ### the operations upon data -/
def dAdd : D → D → Option D
  | .int a, .int b => some (.int (a + b))
  | .str a, .str b => if a.length + b.length ≤ 16777216 then some (.str (a ++ b)) else none
  | .lst a, .lst b => if a.length + b.length ≤ 16777216 then some (.lst (a ++ b)) else none
  | .tup a, .tup b => if a.length + b.length ≤ 16777216 then some (.tup (a ++ b)) else none
  | _, _ => none
def dSub : D → D → Option D
  | .int a, .int b => some (.int (a - b))
  | _, _ => none
def smallI (a : Int) : Prop := -18446744073709551616 < a ∧ a < 18446744073709551616
instance : DecidablePred smallI := fun a => by unfold smallI; infer_instance
def dMul : D → D → Option D
  | .int a, .int b => if smallI a ∨ smallI b then some (.int (a * b)) else none
  | .lst xs, .int k => if -9223372036854775808 ≤ k ∧ k < 9223372036854775808 ∧ xs.length * k.toNat ≤ 16777216 then some (.lst (List.replicate k.toNat xs).flatten) else none
  | _, _ => none
def dDiv : D → D → Option D
  | .int a, .int b => if 0 < b ∧ b < 1073741824 then some (.int (a / b)) else none
  | _, _ => none
def dMod : D → D → Option D
  | .int a, .int b => if 0 < b then some (.int (a % b)) else none
  | _, _ => none
def dPow : D → D → Option D
  | .int a, .int b => if 0 ≤ b ∧ b ≤ 1000000 ∧ a.natAbs < 18446744073709551616 then some (.int (a ^ b.toNat)) else none
  | _, _ => none
def dNeg : D → Option D
  | .int a => some (.int (-a))
  | _ => none
def dCmp (p : Int → Int → Bool) : D → D → Option D
  | .int a, .int b => some (.bl (p a b))
  | _, _ => none
def dLt : D → D → Option D := dCmp fun a b => decide (a < b)
def dLe : D → D → Option D := dCmp fun a b => decide (a ≤ b)
def dGt : D → D → Option D := dCmp fun a b => decide (b < a)
def dGe : D → D → Option D := dCmp fun a b => decide (b ≤ a)
mutual
def py : D → Option PyData
  | .non => some .none
  | .bl b => some (.bool b)
  | .int i => some (.int i)
  | .str s => some (.str s)
  | .lst ds => (pys ds).map PyData.list
  | .tup ds => (pys ds).map PyData.tuple
  | _ => none
def pys : List D → Option (List PyData)
  | [] => some []
  | d :: ds => (py d).bind fun x => (pys ds).map fun y => x :: y
end
def dEqB (d e : D) : Option Bool := (py d).bind fun x => (py e).bind fun y => if SeqAt.shaped x = true ∧ SeqAt.shaped y = true then some (PyData.eqv x y) else none
def dEq (d e : D) : Option D := (dEqB d e).map D.bl
def dNe (d e : D) : Option D := (dEqB d e).map fun b => D.bl !b
def eqF : D → D → Bool
  | .non, .non => true
  | .bl a, .bl b => a == b
  | .bl a, .int b => (if a then 1 else 0) == b
  | .int a, .bl b => a == (if b then 1 else 0)
  | .int a, .int b => a == b
  | .str a, .str b => a == b
  | _, _ => false
def keyOf : D → Option Key
  | .int i => some (.inl i)
  | .str s => some (.inr s)
  | _ => none
def keysOf : List D → Option (List Key)
  | [] => some []
  | d :: ds => (keyOf d).bind fun k => (keysOf ds).map fun r => k :: r
/-- the value at a key -/
def look {κ : Type} [DecidableEq κ] (ks : List κ) (ds : List D) (k : κ) : Option D := ((ks.zip ds).find? fun kv => decide (kv.1 = k)).map (·.2)
def dLook : D → D → Option (Option D)
  | .dic ks ds, d => (keyOf d).map fun k => look ks ds k
  | .dit ks ds, .tup es => (keysOf es).map fun k => look ks ds k
  | _, _ => none
def dInB : D → D → Option Bool
  | x, .lst ds => if flat x = true ∧ ds.all flat = true then some (ds.any fun e => eqF e x) else none
  | x, .tup ds => if flat x = true ∧ ds.all flat = true then some (ds.any fun e => eqF e x) else none
  | .str x, .str z => match x.cps.toList with
    | [c] => some (decide (c ∈ z.cps.toList))
    | _ => none
  | x, y => (dLook y x).map Option.isSome
def dIn (x y : D) : Option D := (dInB x y).map D.bl
def dNotIn (x y : D) : Option D := (dInB x y).map fun b => D.bl !b
def dIx : D → D → Option D
  | .lst ds, .int i => atI ds i
  | .tup ds, .int i => atI ds i
  | .scr ns, .int i => (atI ns i).map D.int
  | .str z, .int i => if z.length ≤ 16777216 then (atI z.cps.toList i).map chr1 else none
  | x, y => (dLook x y).bind id
def dIs : D → D → Option D
  | .bl a, .bl b => some (.bl (decide (a = b)))
  | .non, .non => some (.bl true)
  | .bl _, .non => some (.bl false)
  | .int _, .non => some (.bl false)
  | .str _, .non => some (.bl false)
  | .lst _, .non => some (.bl false)
  | .tup _, .non => some (.bl false)
  | .dic _ _, .non => some (.bl false)
  | .obj _ _ _, .non => some (.bl false)
  | _, _ => none
def dIsNot (d e : D) : Option D := (dIs d e).bind fun x => (tru x).map fun b => .bl !b
def dLen : D → Option D
  | .lst ds => some (.int ds.length)
  | .tup ds => some (.int ds.length)
  | .scr ns => some (.int ns.length)
  | .str z => if z.length ≤ 16777216 then some (.int z.length) else none
  | .dic ks ds => some (.int ds.length)
  | _ => none

/-! ### their readings -/
def rStrAdd : R2 := fun x y H Q => ∃ i j, x = .str i ∧ y = .str j ∧ i.length + j.length ≤ sizeLine ∧ Q (.str (i ++ j)) H
def rAddA (K : PySem.W.Frag) : R2 := fun x y H Q => rI0 (fun i j => .int (i + j)) x y H Q ∨ rStrAdd x y H Q ∨ rCat x y H Q ∨ rCatA K x y H Q
def rMulA (K : PySem.W.Frag) : R2 := fun x y H Q => rI CMul (fun i j => .int (i * j)) x y H Q ∨ rRep x y H Q
def rSign : R2 := fun x y H Q => ∃ (c : Nat) (z : Str), x = .str ⟨#[c]⟩ ∧ y = .str z ∧ Q (.bl (decide (c ∈ z.cps.toList))) H
def rSignN : R2 := fun x y H Q => ∃ (c : Nat) (z : Str), x = .str ⟨#[c]⟩ ∧ y = .str z ∧ Q (.bl (!decide (c ∈ z.cps.toList))) H
def rKeyIn (n : Bool) : R2 := fun y x H Q => ∃ a o, x = .ref a ∧ DGet H a y o ∧ Q (.bl (if n then !o.isSome else o.isSome)) H
def rInA (K : PySem.W.Frag) : R2 := fun x y H Q => rIn K false x y H Q ∨ rSign x y H Q ∨ rKeyIn false x y H Q
def rNotInA (K : PySem.W.Frag) : R2 := fun x y H Q => rIn K true x y H Q ∨ rSignN x y H Q ∨ rKeyIn true x y H Q
def rKeyGet : R2 := fun x y H Q => ∃ a v, x = .ref a ∧ DGet H a y (some v) ∧ Q v H
def rIxA (K : PySem.W.Frag) : R2 := fun x y H Q => rIx K x y H Q ∨ rKeyGet x y H Q
def rIsA : R2 := fun x y H Q => (∃ a b, x = .bl a ∧ y = .bl b ∧ Q (.bl (decide (a = b))) H) ∨ (y = .non ∧ Q (.bl (decide (x = .non))) H)
def rIsNotA : R2 := fun x y H Q => (∃ a b, x = .bl a ∧ y = .bl b ∧ Q (.bl (!decide (a = b))) H) ∨ (y = .non ∧ Q (.bl (!decide (x = .non))) H)
section
variable {X : Cx}
theorem op_addA : OpR X (binaryOp .Add) (rAddA X.K) := op_add.or (op_add_str.or (op_cat.or op_catA))
theorem op_mulA : OpR X (binaryOp .Mult) (rMulA X.K) := op_mul.or op_rep
theorem op_keyIn (hu : X.A.units + 64 < cLine) : OpR X (compareOp .In) (rKeyIn false) := fun pins s σ H x y v u Q I rx ry h => by
  obtain ⟨a, o, rfl, g, q⟩ := h
  cases (show u = Value.ref a from ry)
  exact d_in (by omega) I g rx fun s' I' => ⟨.bl o.isSome, H, I', rfl, q⟩
theorem op_keyNotIn (hu : X.A.units + 64 < cLine) : OpR X (compareOp .NotIn) (rKeyIn true) := fun pins s σ H x y v u Q I rx ry h => by
  obtain ⟨a, o, rfl, g, q⟩ := h
  cases (show u = Value.ref a from ry)
  exact d_notIn (by omega) I g rx fun s' I' => ⟨.bl (!o.isSome), H, I', rfl, q⟩
theorem op_inA (hu : X.A.units + 64 < cLine) : OpR X (compareOp .In) (rInA X.K) := op_in_seq.or (op_in_sign.or (op_keyIn hu))
theorem op_notInA (hu : X.A.units + 64 < cLine) : OpR X (compareOp .NotIn) (rNotInA X.K) := op_notIn_seq.or (op_notIn_sign.or (op_keyNotIn hu))
theorem ix_key (hu : X.A.units + 64 < cLine) : IxR X rKeyGet := fun value slice pins s σ H x y v u Q I rx ry h hs => by
  obtain ⟨a, w, rfl, g, q⟩ := h
  cases (show v = Value.ref a from rx)
  have hT := dict_typeIs I g
  unfold subscriptTail
  refine wpAny_bind ?_
  rw [getitemInPython_of_ne hT.not_modules]
  refine wpAny_bind (wpAny_specialOf hT PySem.F.slot_dict_getitem.lookup ?_)
  have fin : wpAny (model X.prog X.w) X.A (subscripted slice false (.ref a) u) (fun r s₃ => wpAny (model X.prog X.w) X.A (letTemporaryGo value (.ref a) r >>= fun _ => pure r) (EP X pins σ Q) X.xe s₃) X.xe s := by
    rw [hs]
    exact wpAny_operating (d_getItem (by omega) I g ry fun w' s3 I3 rw' => wpAny_bind (wpAny_letTemporaryGo (wpAny_pure ⟨w, H, I3, rw', q⟩)))
  first
    | exact wpAny_pure (wpAny_bind fin)
    | exact wpAny_bind (wpAny_pure (wpAny_bind fin))
    | exact wpAny_bind fin
theorem ix_A (hu : X.A.units + 64 < cLine) : IxR X (rIxA X.K) := ix_seq.or (ix_key hu)
theorem op_isA : OpR X (compareOp .Is) rIsA := op_is_bl.or op_isN
theorem op_isNotA : OpR X (compareOp .IsNot) rIsNotA := op_isnot_bl.or op_notN
end
section
variable {T : Th}
theorem smallI_iff {a : Int} : smallI a ↔ -(2 ^ 64) < a ∧ a < 2 ^ 64 := by unfold smallI; omega
theorem rep_lst {H : Hp} {p : Addr} {vs : List V} {ds : List D} (h : H p = some (.lst vs)) (r : Reps T H ds vs) : Rep T H (.lst ds) (.ref p) := by
  simp only [Rep]; exact ⟨p, vs, rfl, h, r⟩
theorem rep_tup {H : Hp} {p : Addr} {vs : List V} {ds : List D} (h : H p = some (.tup vs)) (r : Reps T H ds vs) : Rep T H (.tup ds) (.ref p) := by
  simp only [Rep]; exact ⟨p, vs, rfl, h, r⟩
/-- a new object whose parts are held -/
theorem sel_new {Z : Base} {md : Md} {F H : Hp} (hm : md.fh = true) (e : Ex F H) {p : Addr} (hp : H p = none) (o : HO) : ∃ F2, Grow F F2 H (upd H p o) ∧ sel Z md F2 (upd H p o) p = some o := by
  cases md with
  | f => exact ⟨upd F p o, (Grow.lay e hp o).freeze hp upd_same (none_of_ex e hp), upd_same⟩
  | b => cases hm
  | h => exact ⟨F, Grow.lay e hp o, upd_same⟩
theorem sel_in' {Z : Base} {md : Md} {F H : Hp} (hm : md.fh = true) (e : Ex F H) : Ex (sel Z md F H) H := by
  cases md with
  | f => exact e
  | b => cases hm
  | h => exact Ex.refl H
theorem opM_add : OpM T (rAddA T.K) dAdd := fun Z md F H x y d e c hm ex rd re hc Q q => by
  cases d <;> cases e <;> simp only [dAdd] at hc <;> try (cases hc; done)
  · cases hc
    simp only [Rep] at rd re
    subst rd re
    exact .inl ⟨_, _, rfl, rfl, q _ F H (Grow.refl ex) (by simp only [Rep])⟩
  · split at hc
    · rename_i hl
      cases hc
      simp only [Rep] at rd re
      subst rd re
      exact .inr (.inl ⟨_, _, rfl, rfl, by rw [line_eq]; exact hl, q _ F H (Grow.refl ex) (by simp only [Rep])⟩)
    · cases hc
  · split at hc
    · rename_i hl
      cases hc
      obtain ⟨p, vs, rfl, hp, r1⟩ := rep_lst_inv rd
      obtain ⟨p', vs', rfl, hp', r2⟩ := rep_lst_inv re
      have ei := sel_in' (Z := Z) hm ex
      refine .inr (.inr (.inl ⟨p, p', vs, vs', rfl, rfl, ei _ _ hp, ei _ _ hp', by rw [line_eq, ← r1.len, ← r2.len]; exact hl, fun n hn => ?_⟩))
      obtain ⟨F2, g, e2⟩ := sel_new (Z := Z) hm ex hn (.lst (vs ++ vs'))
      exact q _ F2 _ g (rep_lst e2 ((r1.mono (sel_grow g)).app (r2.mono (sel_grow g))))
    · cases hc
  · split at hc
    · rename_i hl
      cases hc
      obtain ⟨p, vs, rfl, hp, r1⟩ := rep_tup_inv rd
      obtain ⟨p', vs', rfl, hp', r2⟩ := rep_tup_inv re
      have ei := sel_in' (Z := Z) hm ex
      refine .inr (.inr (.inr ⟨p, p', vs, vs', rfl, rfl, SqT.of (ei _ _ hp), SqT.of (ei _ _ hp'), by rw [line_eq, ← r1.len, ← r2.len]; exact hl, fun h0 => ?_, fun _ h0 => ?_, fun _ _ n hn => ?_⟩))
      · subst h0
        have l1 := r1.len
        simp at l1
        subst l1
        exact q _ F H (Grow.refl ex) (by rw [List.nil_append]; exact rep_tup hp' r2)
      · subst h0
        have l1 := r2.len
        simp at l1
        subst l1
        exact q _ F H (Grow.refl ex) (by rw [List.append_nil]; exact rep_tup hp r1)
      · obtain ⟨F2, g, e2⟩ := sel_new (Z := Z) hm ex hn (.tup (vs ++ vs'))
        exact q _ F2 _ g (rep_tup e2 ((r1.mono (sel_grow g)).app (r2.mono (sel_grow g))))
    · cases hc
def rSubA : R2 := rI0 fun i j => .int (i - j)
def rDivA : R2 := rI CDiv fun i j => .int (i / j)
def rModA : R2 := rI (fun _ j => 0 < j) fun i j => .int (i % j)
def rPowA : R2 := rI CPow fun i j => .int (i ^ j.toNat)
theorem opS_sub : OpS T (rI0 fun i j => .int (i - j)) dSub := fun H x y d e c rd re hc Q q => by
  cases d <;> cases e <;> simp only [dSub] at hc <;> try (cases hc; done)
  cases hc
  simp only [Rep] at rd re
  subst rd re
  exact ⟨_, _, rfl, rfl, q _ fun G => by simp only [Rep]⟩
theorem opS_div : OpS T (rI CDiv fun i j => .int (i / j)) dDiv := fun H x y d e c rd re hc Q q => by
  cases d <;> cases e <;> simp only [dDiv] at hc <;> try (cases hc; done)
  split at hc
  · rename_i h
    cases hc
    simp only [Rep] at rd re
    subst rd re
    exact ⟨_, _, rfl, rfl, h, q _ fun G => by simp only [Rep]⟩
  · cases hc
theorem opS_mod : OpS T (rI (fun _ j => 0 < j) fun i j => .int (i % j)) dMod := fun H x y d e c rd re hc Q q => by
  cases d <;> cases e <;> simp only [dMod] at hc <;> try (cases hc; done)
  split at hc
  · rename_i h
    cases hc
    simp only [Rep] at rd re
    subst rd re
    exact ⟨_, _, rfl, rfl, h, q _ fun G => by simp only [Rep]⟩
  · cases hc
theorem opS_pow : OpS T (rI CPow fun i j => .int (i ^ j.toNat)) dPow := fun H x y d e c rd re hc Q q => by
  cases d <;> cases e <;> simp only [dPow] at hc <;> try (cases hc; done)
  split at hc
  · rename_i h
    cases hc
    simp only [Rep] at rd re
    subst rd re
    exact ⟨_, _, rfl, rfl, ⟨h.1, h.2.1, by have := h.2.2; omega⟩, q _ fun G => by simp only [Rep]⟩
  · cases hc
theorem reps_rep {H : Hp} {ds : List D} {vs : List V} (r : Reps T H ds vs) : ∀ k : Nat, Reps T H (List.replicate k ds).flatten (List.replicate k vs).flatten
  | 0 => Reps.nil
  | k + 1 => by rw [List.replicate_succ, List.replicate_succ, List.flatten_cons, List.flatten_cons]; exact r.app (reps_rep r k)
theorem opM_mul : OpM T (rMulA T.K) dMul := fun Z md F H x y d e c hm ex rd re hc Q q => by
  cases d <;> cases e <;> simp only [dMul] at hc <;> try (cases hc; done)
  · split at hc
    · rename_i h
      cases hc
      simp only [Rep] at rd re
      subst rd re
      refine .inl ⟨_, _, rfl, rfl, ?_, q _ F H (Grow.refl ex) (by simp only [Rep])⟩
      rcases h with h | h
      · exact .inl (smallI_iff.mp h)
      · exact .inr (smallI_iff.mp h)
    · cases hc
  · split at hc
    · rename_i h
      cases hc
      obtain ⟨p, vs, rfl, hp, r1⟩ := rep_lst_inv rd
      simp only [Rep] at re
      subst re
      have ei := sel_in' (Z := Z) hm ex
      refine .inr ⟨p, _, vs, rfl, rfl, ei _ _ hp, by have := h.1; omega, by have := h.2.1; omega, by rw [line_eq, ← r1.len]; exact h.2.2, fun n hn => ?_⟩
      rename_i ds k
      obtain ⟨F2, g, e2⟩ := sel_new (Z := Z) hm ex hn (.lst (List.replicate k.toNat vs).flatten)
      refine q _ F2 _ g (rep_lst e2 ?_)
      exact reps_rep (r1.mono (sel_grow (Z := Z) g)) _
    · cases hc
theorem opS_cmp {p : Int → Int → Bool} : OpS T (rI0 fun i j => .bl (p i j)) (dCmp p) := fun H x y d e c rd re hc Q q => by
  cases d <;> cases e <;> simp only [dCmp] at hc <;> try (cases hc; done)
  cases hc
  simp only [Rep] at rd re
  subst rd re
  exact ⟨_, _, rfl, rfl, q _ fun G => by simp only [Rep]⟩
theorem opS_lt : OpS T (rI0 fun i j => .bl (decide (i < j))) dLt := opS_cmp
theorem opS_le : OpS T (rI0 fun i j => .bl (decide (i ≤ j))) dLe := opS_cmp
theorem opS_gt : OpS T (rI0 fun i j => .bl (decide (j < i))) dGt := opS_cmp
theorem opS_ge : OpS T (rI0 fun i j => .bl (decide (j ≤ i))) dGe := opS_cmp
mutual
theorem rep_py {H : Hp} : ∀ {d : D} {v : V} {x : PyData}, Rep T H d v → py d = some x → Dp T.K H v x
  | .non, v, x, r, e => by simp only [Rep, py] at r e; cases e; subst r; exact .non
  | .bl b, v, x, r, e => by simp only [Rep, py] at r e; cases e; subst r; exact .bl b
  | .int b, v, x, r, e => by simp only [Rep, py] at r e; cases e; subst r; exact .int b
  | .str b, v, x, r, e => by simp only [Rep, py] at r e; cases e; subst r; exact .str b
  | .lst ds, v, x, r, e => by
    obtain ⟨p, vs, rfl, hp, rr⟩ := rep_lst_inv r
    simp only [py] at e
    obtain ⟨xs, hx, rfl⟩ := Option.map_eq_some_iff.mp e
    exact .lst (SqL.of hp) (reps_py rr hx)
  | .tup ds, v, x, r, e => by
    obtain ⟨p, vs, rfl, hp, rr⟩ := rep_tup_inv r
    simp only [py] at e
    obtain ⟨xs, hx, rfl⟩ := Option.map_eq_some_iff.mp e
    exact .tup (SqT.of hp) (reps_py rr hx)
  | .dic _ _, v, x, r, e => by simp only [py] at e; cases e
  | .dit _ _, v, x, r, e => by simp only [py] at e; cases e
  | .obj _ _ _, v, x, r, e => by simp only [py] at e; cases e
  | .scr _, v, x, r, e => by simp only [py] at e; cases e
theorem reps_py {H : Hp} : ∀ {ds : List D} {vs : List V} {xs : List PyData}, Reps T H ds vs → pys ds = some xs → DpAll T.K H vs xs
  | [], vs, xs, r, e => by simp only [Reps, pys] at r e; cases e; subst r; exact .nil
  | d :: ds, vs, xs, r, e => by
    obtain ⟨v, r', rfl, s, t⟩ := r.uncons
    simp only [pys] at e
    obtain ⟨x, e1, e2⟩ := bind_inv e
    obtain ⟨y, e3, rfl⟩ := Option.map_eq_some_iff.mp e2
    exact .cons (rep_py s e1) (reps_py t e3)
end
theorem dEqB_inv {d e : D} {b : Bool} (h : dEqB d e = some b) : ∃ x y, py d = some x ∧ py e = some y ∧ SeqAt.shaped x = true ∧ SeqAt.shaped y = true ∧ b = PyData.eqv x y := by
  unfold dEqB at h
  obtain ⟨x, e1, h⟩ := bind_inv h
  obtain ⟨y, e2, h⟩ := bind_inv h
  split at h
  · rename_i hs
    cases h
    exact ⟨x, y, e1, e2, hs.1, hs.2, rfl⟩
  · cases h
theorem opS_eq : OpS T (rEqD T.K) dEq := fun H x y d e c rd re hc Q q => by
  obtain ⟨b, hb, rfl⟩ := Option.map_eq_some_iff.mp (show (dEqB d e).map D.bl = some c from hc)
  obtain ⟨u, w, e1, e2, s1, s2, rfl⟩ := dEqB_inv hb
  exact ⟨u, w, rep_py rd e1, rep_py re e2, s1, s2, q _ fun G => by simp only [Rep]⟩
theorem opS_ne : OpS T (rNeD T.K) dNe := fun H x y d e c rd re hc Q q => by
  obtain ⟨b, hb, rfl⟩ := Option.map_eq_some_iff.mp (show (dEqB d e).map (fun b => D.bl !b) = some c from hc)
  obtain ⟨u, w, e1, e2, s1, s2, rfl⟩ := dEqB_inv hb
  exact ⟨u, w, rep_py rd e1, rep_py re e2, s1, s2, q _ fun G => by simp only [Rep]⟩
theorem flat_V {H : Hp} {d : D} {v : V} (h : flat d = true) (r : Rep T H d v) : flatV v = true := by
  cases d <;> simp only [flat, Rep] at h r <;> first | (subst r; rfl) | cases h
theorem eqF_V {H : Hp} {d e : D} {v w : V} (h : flat d = true) (h' : flat e = true) (r : Rep T H d v) (r' : Rep T H e w) : eqV v w = eqF d e := by
  cases d <;> first | (cases h; done) | skip
  all_goals (cases e <;> first | (cases h'; done) | skip)
  all_goals (simp only [Rep] at r r'; subst r r'; rfl)
theorem all_V {H : Hp} : ∀ {ds : List D} {vs : List V}, ds.all flat = true → Reps T H ds vs → vs.all flatV = true
  | [], vs, h, r => by simp only [Reps] at r; subst r; rfl
  | d :: ds, vs, h, r => by
    obtain ⟨v, r', rfl, s, t⟩ := r.uncons
    simp only [List.all_cons, Bool.and_eq_true] at h ⊢
    exact ⟨flat_V h.1 s, all_V h.2 t⟩
theorem inV_D {H : Hp} {x : D} {v : V} (hx : flat x = true) (rx : Rep T H x v) : ∀ {ds : List D} {vs : List V}, ds.all flat = true → Reps T H ds vs → inV v vs = ds.any fun e => eqF e x
  | [], vs, h, r => by simp only [Reps] at r; subst r; rfl
  | d :: ds, vs, h, r => by
    obtain ⟨w, r', rfl, s, t⟩ := r.uncons
    simp only [List.all_cons, Bool.and_eq_true] at h
    show (eqV w v || inV v r') = (eqF d x || ds.any fun e => eqF e x)
    rw [eqF_V h.1 hx s rx, inV_D hx rx h.2 t]
theorem look_V {κ : Type} [DecidableEq κ] {H : Hp} {k : κ} : ∀ {ks : List κ} {ds : List D} {vs : List V}, Reps T H ds vs → ks.length = vs.length →
    (look ks ds k = none ∧ valV (ks.zip vs) k = none) ∨ ∃ d v, look ks ds k = some d ∧ valV (ks.zip vs) k = some v ∧ Rep T H d v
  | [], ds, vs, r, l => .inl ⟨rfl, rfl⟩
  | a :: ks, [], vs, r, l => by simp only [Reps] at r; subst r; cases l
  | a :: ks, d :: ds, vs, r, l => by
    obtain ⟨v, r', rfl, s, t⟩ := r.uncons
    by_cases e : a = k
    · refine .inr ⟨d, v, ?_, ?_, s⟩
      · simp [look, List.find?_cons, e]
      · simp [valV, List.find?_cons, e]
    · have := look_V (k := k) t (ks := ks) (by simpa using l)
      have e1 : look (a :: ks) (d :: ds) k = look ks ds k := by simp [look, List.find?_cons, e]
      have e2 : valV ((a :: ks).zip (v :: r')) k = valV (ks.zip r') k := by simp [valV, List.find?_cons, e]
      rw [e1, e2]
      exact this
theorem keyOf_V {H : Hp} {d : D} {v : V} {k : Key} (r : Rep T H d v) (h : keyOf d = some k) : v = kV k := by
  cases d <;> simp only [keyOf, Rep] at h r <;> first | (cases h; subst r; rfl) | cases h
theorem keysOf_V {H : Hp} : ∀ {ds : List D} {vs : List V} {ks : List Key}, Reps T H ds vs → keysOf ds = some ks → vs = ks.map kV
  | [], vs, ks, r, h => by simp only [Reps, keysOf] at r h; cases h; subst r; rfl
  | d :: ds, vs, ks, r, h => by
    obtain ⟨v, r', rfl, s, t⟩ := r.uncons
    simp only [keysOf] at h
    obtain ⟨k, e1, h⟩ := bind_inv h
    obtain ⟨ks', e2, rfl⟩ := Option.map_eq_some_iff.mp h
    rw [keyOf_V s e1, keysOf_V t e2]; rfl
theorem dLook_V {H : Hp} {d e : D} {x y : V} {o : Option D} (rd : Rep T H d x) (re : Rep T H e y) (h : dLook d e = some o) :
    ∃ a w, x = .ref a ∧ DGet H a y w ∧ ((o = none ∧ w = none) ∨ ∃ c v, o = some c ∧ w = some v ∧ ∀ G, Ex G H → Rep T G d x → Rep T G c v) := by
  cases d <;> simp only [dLook] at h <;> try (cases h; done)
  · rename_i ks ds
    obtain ⟨k, hk, rfl⟩ := Option.map_eq_some_iff.mp h
    have ey := keyOf_V re hk
    simp only [Rep] at rd
    obtain ⟨a, vs, rfl, ha, l, rr⟩ := rd
    refine ⟨a, valV (ks.zip vs) k, rfl, .inl ⟨_, k, .inl ha, ey, rfl⟩, ?_⟩
    rcases look_V (k := k) rr l with ⟨q1, q2⟩ | ⟨c, v, q1, q2, q3⟩
    · exact .inl ⟨q1, q2⟩
    · refine .inr ⟨c, v, q1, q2, fun G eg rg => ?_⟩
      simp only [Rep] at rg
      obtain ⟨a', vs', e1, ha', l', rr'⟩ := rg
      cases e1
      have := eg _ _ ha'
      rw [ha] at this
      have hz : ks.zip vs = ks.zip vs' := by injection (Option.some.inj this)
      rcases look_V (k := k) rr' l' with ⟨z1, z2⟩ | ⟨c', v', z1, z2, z3⟩
      · rw [q1] at z1; cases z1
      · rw [q1] at z1; cases z1
        rw [← hz, q2] at z2; cases z2
        exact z3
  · cases e <;> simp only at h <;> try (cases h; done)
    rename_i ks ds es
    obtain ⟨k, hk, rfl⟩ := Option.map_eq_some_iff.mp h
    obtain ⟨p, vs', rfl, hp, r2⟩ := rep_tup_inv re
    have ey := keysOf_V r2 hk
    subst ey
    simp only [Rep] at rd
    obtain ⟨a, vs, rfl, ha, l, rr⟩ := rd
    refine ⟨a, valV (ks.zip vs) k, rfl, .inr ⟨_, k, p, .inl ha, rfl, hp, rfl⟩, ?_⟩
    rcases look_V (k := k) rr l with ⟨q1, q2⟩ | ⟨c, v, q1, q2, q3⟩
    · exact .inl ⟨q1, q2⟩
    · refine .inr ⟨c, v, q1, q2, fun G eg rg => ?_⟩
      simp only [Rep] at rg
      obtain ⟨a', vs', e1, ha', l', rr'⟩ := rg
      cases e1
      have := eg _ _ ha'
      rw [ha] at this
      have hz : ks.zip vs = ks.zip vs' := by injection (Option.some.inj this)
      rcases look_V (k := k) rr' l' with ⟨z1, z2⟩ | ⟨c', v', z1, z2, z3⟩
      · rw [q1] at z1; cases z1
      · rw [q1] at z1; cases z1
        rw [← hz, q2] at z2; cases z2
        exact z3
end
end Mi
/-! operations, built-ins -/
namespace Mi
open PySem L2
open PyProof.Rows
open Evl (Ex ex_t ex_l ex_rd fresh_back)
section
variable {T : Th}
theorem Str.of_cps {x : Str} {c : Nat} (h : x.cps.toList = [c]) : x = ⟨#[c]⟩ := by
  obtain ⟨a⟩ := x
  have : a = #[c] := by
    apply Array.ext'
    simpa using h
  rw [this]
theorem dInB_V {H : Hp} {x y : D} {v w : V} {b : Bool} (rx : Rep T H x v) (ry : Rep T H y w) (h : dInB x y = some b) :
    (∃ p xs, w = .ref p ∧ (SqL T.K H p xs ∨ SqT T.K H p xs) ∧ flatV v = true ∧ xs.all flatV = true ∧ inV v xs = b) ∨ (∃ c z, v = .str ⟨#[c]⟩ ∧ w = .str z ∧ decide (c ∈ z.cps.toList) = b) ∨ ∃ a o, w = .ref a ∧ DGet H a v o ∧ o.isSome = b := by
  have key : (dLook y x).map Option.isSome = some b → ∃ a o, w = .ref a ∧ DGet H a v o ∧ o.isSome = b := fun h => by
    obtain ⟨o, ho, rfl⟩ := Option.map_eq_some_iff.mp h
    obtain ⟨a, w', e1, e2, e3⟩ := dLook_V ry rx ho
    refine ⟨a, w', e1, e2, ?_⟩
    rcases e3 with ⟨rfl, rfl⟩ | ⟨c, v, rfl, rfl, _⟩ <;> rfl
  have lst : ∀ ds, y = .lst ds → dInB x (.lst ds) = (if flat x = true ∧ ds.all flat = true then some (ds.any fun e => eqF e x) else none) := fun ds _ => by cases x <;> rfl
  have tup : ∀ ds, y = .tup ds → dInB x (.tup ds) = (if flat x = true ∧ ds.all flat = true then some (ds.any fun e => eqF e x) else none) := fun ds _ => by cases x <;> rfl
  cases y with
  | lst ds =>
    rw [lst ds rfl] at h
    split at h
    · rename_i hf
      cases h
      obtain ⟨p, vs, rfl, hp, rr⟩ := rep_lst_inv ry
      exact .inl ⟨p, vs, rfl, .inl (SqL.of hp), flat_V hf.1 rx, all_V hf.2 rr, inV_D hf.1 rx hf.2 rr⟩
    · cases h
  | tup ds =>
    rw [tup ds rfl] at h
    split at h
    · rename_i hf
      cases h
      obtain ⟨p, vs, rfl, hp, rr⟩ := rep_tup_inv ry
      exact .inl ⟨p, vs, rfl, .inr (SqT.of hp), flat_V hf.1 rx, all_V hf.2 rr, inV_D hf.1 rx hf.2 rr⟩
    · cases h
  | str z =>
    cases x with
    | str x =>
      simp only [dInB] at h
      split at h
      · rename_i c hc
        cases h
        simp only [Rep] at rx ry
        subst rx ry
        exact .inr (.inl ⟨c, z, by rw [Str.of_cps hc], rfl, rfl⟩)
      · cases h
    | _ => exact .inr (.inr (key h))
  | _ => exact .inr (.inr (key (by cases x <;> exact h)))
theorem opS_in : OpS T (rInA T.K) dIn := fun H x y d e c rd re hc Q q => by
  obtain ⟨b, hb, rfl⟩ := Option.map_eq_some_iff.mp (show (dInB d e).map D.bl = some c from hc)
  have fin : Q (.bl b) H := q _ fun G => by simp only [Rep]
  rcases dInB_V rd re hb with ⟨p, xs, rfl, hs, f1, f2, rfl⟩ | ⟨c, z, rfl, rfl, rfl⟩ | ⟨a, o, rfl, g, rfl⟩
  · exact .inl ⟨p, xs, rfl, hs, f1, f2, fin⟩
  · exact .inr (.inl ⟨c, z, rfl, rfl, fin⟩)
  · exact .inr (.inr ⟨a, o, rfl, g, fin⟩)
theorem opS_notIn : OpS T (rNotInA T.K) dNotIn := fun H x y d e c rd re hc Q q => by
  obtain ⟨b, hb, rfl⟩ := Option.map_eq_some_iff.mp (show (dInB d e).map (fun b => D.bl !b) = some c from hc)
  have fin : Q (.bl !b) H := q _ fun G => by simp only [Rep]
  rcases dInB_V rd re hb with ⟨p, xs, rfl, hs, f1, f2, rfl⟩ | ⟨c, z, rfl, rfl, rfl⟩ | ⟨a, o, rfl, g, rfl⟩
  · exact .inl ⟨p, xs, rfl, hs, f1, f2, fin⟩
  · exact .inr (.inl ⟨c, z, rfl, rfl, fin⟩)
  · exact .inr (.inr ⟨a, o, rfl, g, fin⟩)
theorem atI_reps {H : Hp} {ds : List D} {vs : List V} {i : Int} {d : D} (r : Reps T H ds vs) (h : atI ds i = some d) : ∃ v, atI vs i = some v ∧ Rep T H d v := by
  unfold atI at h ⊢
  rw [r.len] at h
  obtain ⟨j, e1, e2⟩ := bind_inv h
  rw [e1]
  exact r.get e2
theorem opP_ix : OpP T (rIxA T.K) dIx := fun H x y d e c rd re hc Q q => by
  have key : (dLook d e).bind id = some c → rIxA T.K x y H Q := fun h => by
    obtain ⟨o, ho, h⟩ := bind_inv h
    obtain ⟨a, w', e1, e2, e3⟩ := dLook_V rd re ho
    rcases e3 with ⟨rfl, rfl⟩ | ⟨c', v, rfl, rfl, e4⟩
    · cases h
    · cases h
      exact .inr ⟨a, v, e1, e2, q v e4⟩
  cases d with
  | lst ds =>
    cases e with
    | int i =>
      obtain ⟨p, vs, rfl, hp, rr⟩ := rep_lst_inv rd
      simp only [Rep] at re; subst re
      obtain ⟨v, hv, rv⟩ := atI_reps rr (show atI ds i = some c from hc)
      refine .inl (.inl ⟨p, vs, i, v, rfl, rfl, SqL.of hp, hv, q v fun G eg rg => ?_⟩)
      obtain ⟨p', vs', e1, hp', rr'⟩ := rep_lst_inv rg
      cases e1
      have := eg _ _ hp'
      rw [hp] at this; cases this
      obtain ⟨v', hv', rv'⟩ := atI_reps rr' (show atI ds i = some c from hc)
      rw [hv] at hv'; cases hv'
      exact rv'
    | _ => exact key hc
  | tup ds =>
    cases e with
    | int i =>
      obtain ⟨p, vs, rfl, hp, rr⟩ := rep_tup_inv rd
      simp only [Rep] at re; subst re
      obtain ⟨v, hv, rv⟩ := atI_reps rr (show atI ds i = some c from hc)
      refine .inl (.inr (.inl ⟨p, vs, i, v, rfl, rfl, SqT.of hp, hv, q v fun G eg rg => ?_⟩))
      obtain ⟨p', vs', e1, hp', rr'⟩ := rep_tup_inv rg
      cases e1
      have := eg _ _ hp'
      rw [hp] at this; cases this
      obtain ⟨v', hv', rv'⟩ := atI_reps rr' (show atI ds i = some c from hc)
      rw [hv] at hv'; cases hv'
      exact rv'
    | _ => exact key hc
  | scr ns =>
    cases e with
    | int i =>
      obtain ⟨n, hn, rfl⟩ := Option.map_eq_some_iff.mp (show (atI ns i).map D.int = some c from hc)
      simp only [Rep] at rd re
      subst re
      obtain ⟨p, rfl, hp⟩ := rd
      have hv : atI (ns.map V.int) i = some (.int n) := by
        unfold atI at hn ⊢
        rw [List.length_map]
        obtain ⟨j, e1, e2⟩ := bind_inv hn
        rw [e1]
        show (ns.map V.int)[j]? = _
        rw [List.getElem?_map, e2]; rfl
      exact .inl (.inl ⟨p, _, i, _, rfl, rfl, hp, hv, q _ fun G _ _ => by simp only [Rep]⟩)
    | _ => exact key hc
  | str z =>
    cases e with
    | int i =>
      have hc' : (if z.length ≤ 16777216 then (atI z.cps.toList i).map chr1 else none) = some c := hc
      split at hc'
      · rename_i hl
        obtain ⟨n, hn, rfl⟩ := Option.map_eq_some_iff.mp hc'
        simp only [Rep] at rd re
        subst rd re
        exact .inl (.inr (.inr ⟨z, i, n, rfl, rfl, by rw [line_eq]; exact hl, hn, q _ fun G _ _ => by simp only [Rep, chr1]⟩))
      · cases hc'
    | _ => exact key hc
  | _ => exact key (by cases e <;> exact hc)
theorem rep_ne_non {H : Hp} {d : D} {v : V} (r : Rep T H d v) (h : d ≠ .non) : v ≠ .non := by
  cases d <;> simp only [Rep] at r <;> first | exact absurd rfl h | (subst r; intro q; cases q) | (obtain ⟨p, q⟩ := r; intro z; rw [z] at q; simp at q)
theorem opS_is : OpS T rIsA dIs := fun H x y d e c rd re hc Q q => by
  cases e with
  | non =>
    simp only [Rep] at re; subst re
    refine .inr ⟨rfl, ?_⟩
    cases d <;> simp only [dIs] at hc <;> try (cases hc; done)
    · cases hc
      simp only [Rep] at rd; subst rd
      exact q _ fun G => by simp [Rep]
    all_goals
      cases hc
      have hv := rep_ne_non rd (by intro z; cases z)
      rw [decide_eq_false hv]
      exact q _ fun G => by simp [Rep]
  | bl b =>
    cases d <;> simp only [dIs] at hc <;> try (cases hc; done)
    cases hc
    simp only [Rep] at rd re
    subst rd re
    exact .inl ⟨_, _, rfl, rfl, q _ fun G => by simp only [Rep]⟩
  | _ => cases d <;> simp only [dIs] at hc <;> cases hc
theorem opS_isNot : OpS T rIsNotA dIsNot := fun H x y d e c rd re hc Q q => by
  obtain ⟨z, e1, e2⟩ := bind_inv (show (dIs d e).bind _ = some c from hc)
  obtain ⟨b, e3, rfl⟩ := Option.map_eq_some_iff.mp e2
  have e4 := tru_inv e3
  subst e4
  have fin : ∀ b', b' = b → Q (.bl !b') H := fun b' h => q _ fun G => by subst h; simp only [Rep]
  rcases opS_is (T := T) H x y d e _ rd re e1 (fun v H' => v = .bl b ∧ H' = H) (fun v h => ⟨by have := h H; simp only [Rep] at this; exact this, rfl⟩) with ⟨a, a', rfl, rfl, q1, _⟩ | ⟨rfl, q1, _⟩
  · exact .inl ⟨a, a', rfl, rfl, fin _ (by simpa using q1)⟩
  · exact .inr ⟨rfl, fin _ (by simpa using q1)⟩
/-! slices -/
/-- the parts of a slice, as data -/
def EvP (T : Th) (tp : TO) (Γ : Ctx) (m : Option (Option Int)) : Prop := ∀ Z F H σ, Ok T Z Γ F H σ → ∀ o, m = some o → ∀ Q : Option Int → Hp → Prop, (∀ F2 H2, Grow F F2 H H2 → Q o H2) → tp σ H Q
def dI : D → Option Int
  | .int i => some i
  | _ => none
def cutD (xs : List D) (lo hi : Option Int) : List D := (xs.drop (HT.sIx xs.length 0 lo)).take (HT.sIx xs.length xs.length hi - HT.sIx xs.length 0 lo)
def dCut (d : D) (lo hi : Option Int) : Option D := match d with
  | .lst ds => some (.lst (cutD ds lo hi))
  | .tup ds => some (.tup (cutD ds lo hi))
  | .str z => if z.length ≤ 16777216 then some (.str (cutS z lo hi)) else none
  | _ => none
variable {Γ : Ctx} {md : Md} {te ta tb : TE} {tp tq : TO} {tr : TA} {me ma mb : Option D} {ms : Option (List D)} {ml mh : Option (Option Int)}
theorem evp_none : EvP T tNoPart Γ (some none) := fun Z F H σ ok o ho Q q => by
  cases ho
  exact q F H (Grow.refl ok.hv.f)
theorem evp_some (h : Ev T .h te Γ me) : EvP T (tPart te) Γ ((o1 dI me).map some) := fun Z F H σ ok o ho Q q => by
  obtain ⟨i, hi, rfl⟩ := Option.map_eq_some_iff.mp ho
  obtain ⟨x, e1, e2⟩ := o1_inv hi
  cases x <;> simp only [dI] at e2 <;> try (cases e2; done)
  cases e2
  refine h Z F H σ ok _ e1 _ fun v F2 H2 g r => ?_
  simp only [Rep] at r
  exact ⟨_, r, q F2 H2 g⟩
def rSlAll (K : PySem.W.Frag) : V → Option Int → Option Int → Hp → VK → Prop := fun x lo hi H Q => rSlL K x lo hi H Q ∨ rSlA K x lo hi H Q ∨ (∃ z, x = .str z ∧ z.length ≤ sizeLine ∧ Q (.str (cutS z lo hi)) H)
def oCut (a : Option D) (lo hi : Option (Option Int)) : Option D := a.bind fun x => lo.bind fun l => hi.bind fun u => dCut x l u
@[simp] theorem oCut_s (a : D) (lo hi : Option Int) : oCut (some a) (some lo) (some hi) = dCut a lo hi := id rfl
theorem cutD_V {H : Hp} {ds : List D} {vs : List V} (r : Reps T H ds vs) (lo hi : Option Int) : Reps T H (cutD ds lo hi) (cutV vs lo hi) := by
  unfold cutD cutV
  rw [r.len]
  exact (r.drop _).take _
theorem cutV_whole {vs : List V} {lo hi : Option Int} (h : HT.sIx vs.length 0 lo = 0 ∧ HT.sIx vs.length vs.length hi = vs.length) : cutV vs lo hi = vs := by
  unfold cutV
  rw [h.1, h.2]
  simp
theorem ev_cut (h : Ev T md te Γ me) (hl : EvP T tp Γ ml) (hh : EvP T tq Γ mh) (hm : md.fh = true := by rfl) : Ev T md (tSl (rSlAll T.K) te tp tq) Γ (oCut me ml mh) := fun Z F H σ ok d hd Q q => by
  obtain ⟨x, e1, hd⟩ := bind_inv hd
  obtain ⟨lo, e2, hd⟩ := bind_inv hd
  obtain ⟨hi, e3, hd⟩ := bind_inv hd
  refine h Z F H σ ok x e1 _ fun v F2 H2 g r => hl Z F2 H2 σ (ok.grow g) lo e2 _ fun F3 H3 g2 => hh Z F3 H3 σ ((ok.grow g).grow g2) hi e3 _ fun F4 H4 g3 => ?_
  have gg := (g.trans g2).trans g3
  have r := r.mono (sel_grow (g2.trans g3))
  have ei := sel_in' (Z := Z) hm g3.i
  cases x <;> simp only [dCut] at hd <;> try (cases hd; done)
  · split at hd
    · rename_i hz
      cases hd
      simp only [Rep] at r
      subst r
      exact .inr (.inr ⟨_, rfl, by rw [line_eq]; exact hz, q _ F4 H4 gg (by simp only [Rep])⟩)
    · cases hd
  · cases hd
    obtain ⟨p, vs, rfl, hp, rr⟩ := rep_lst_inv r
    refine .inl ⟨p, vs, rfl, SqL.of (ei _ _ hp), fun n hn => ?_⟩
    obtain ⟨F5, g5, e5⟩ := sel_new (Z := Z) hm g3.i hn (.lst (cutV vs lo hi))
    exact q _ F5 _ (gg.trans g5) (rep_lst e5 ((cutD_V rr lo hi).mono (sel_grow g5)))
  · cases hd
    obtain ⟨p, vs, rfl, hp, rr⟩ := rep_tup_inv r
    refine .inr (.inl ⟨p, vs, rfl, SqT.of (ei _ _ hp), fun hw => ?_, fun _ n hn => ?_⟩)
    · refine q _ F4 H4 gg (rep_tup hp ?_)
      have := cutD_V rr lo hi
      rw [cutV_whole hw] at this
      exact this
    · obtain ⟨F5, g5, e5⟩ := sel_new (Z := Z) hm g3.i hn (.tup (cutV vs lo hi))
      exact q _ F5 _ (gg.trans g5) (rep_tup e5 ((cutD_V rr lo hi).mono (sel_grow g5)))
theorem sl_all {X : Cx} : SlR X (rSlAll X.K) := sl_list.or (sl_tupA.or sl_str)
/-! calls of built-ins by values -/
/-- the answer needs nothing of the arguments -/
def ClS (T : Th) (r : List V → Hp → VK → Prop) (f : List D → Option D) : Prop := ∀ (H : Hp) (vs : List V) (ds : List D) (c : D), Reps T H ds vs → f ds = some c → ∀ Q : VK, (∀ v, (∀ G, Rep T G c v) → Q v H) → r vs H Q
/-- the answer is new, or a part of the arguments -/
def ClM (T : Th) (r : List V → Hp → VK → Prop) (f : List D → Option D) : Prop := ∀ (Z : Base) (md : Md) (F H : Hp) (vs : List V) (ds : List D) (c : D), md.fh = true → Ex F H → Reps T (sel Z md F H) ds vs → f ds = some c → ∀ Q : VK, (∀ v F2 H2, Grow F F2 H H2 → Rep T (sel Z md F2 H2) c v → Q v H2) → r vs H Q
/-- the answer is new; its parts are flat -/
def ClN (T : Th) (r : List V → Hp → VK → Prop) (f : List D → Option D) : Prop := ∀ (H : Hp) (vs : List V) (ds : List D) (c : D), Reps T H ds vs → f ds = some c → ∀ Q : VK, (∀ p o, H p = none → (∀ F, OwnC T F (upd H p o) p c) → Q (.ref p) (upd H p o)) → r vs H Q
theorem ev_clS {r : List V → Hp → VK → Prop} {f : List D → Option D} (hc : ClS T r f) (ha : EvL T .h tr Γ ms) : Ev T md (tCB r tr) Γ (o1 f ms) := fun Z F H σ ok d hd Q q => by
  obtain ⟨x, e1, e2⟩ := o1_inv hd
  refine ha Z F H σ ok x e1 _ fun vs F2 H2 g r => hc H2 vs x d r e2 Q fun v hv => q v F2 H2 g (hv _)
theorem ev_clM {r : List V → Hp → VK → Prop} {f : List D → Option D} (hc : ClM T r f) (ha : EvL T md tr Γ ms) (hm : md.fh = true := by rfl) : Ev T md (tCB r tr) Γ (o1 f ms) := fun Z F H σ ok d hd Q q => by
  obtain ⟨x, e1, e2⟩ := o1_inv hd
  refine ha Z F H σ ok x e1 _ fun vs F2 H2 g r => hc Z md F2 H2 vs x d hm g.i r e2 Q fun v F3 H3 g2 hv => q v F3 H3 (g.trans g2) hv
theorem evo_clN {r : List V → Hp → VK → Prop} {f : List D → Option D} (hc : ClN T r f) (ha : EvL T .h tr Γ ms) : EvO T (tCB r tr) Γ (o1 f ms) := fun Z F H σ ok d hd Q q => by
  obtain ⟨x, e1, e2⟩ := o1_inv hd
  refine ha Z F H σ ok x e1 _ fun vs F2 H2 g r => hc H2 vs x d r e2 Q fun p o hp ho => ?_
  exact q p F2 _ (g.trans (Grow.lay g.i hp o)) (none_of_ex g.h hp) (none_of_ex g.i hp) (ho _)
theorem reps1 {H : Hp} {d : D} {vs : List V} (r : Reps T H [d] vs) : ∃ v, vs = [v] ∧ Rep T H d v := by
  obtain ⟨v, r', rfl, s, t⟩ := r.uncons
  simp only [Reps] at t; subst t
  exact ⟨v, rfl, s⟩
theorem reps2 {H : Hp} {d e : D} {vs : List V} (r : Reps T H [d, e] vs) : ∃ v w, vs = [v, w] ∧ Rep T H d v ∧ Rep T H e w := by
  obtain ⟨v, r', rfl, s, t⟩ := r.uncons
  obtain ⟨w, rfl, t'⟩ := reps1 t
  exact ⟨v, w, rfl, s, t'⟩
/-- a function of one argument, of two -/
def f1 {α : Type} (f : D → Option α) : List D → Option α
  | [d] => f d
  | _ => none
def f2 {α : Type} (f : D → D → Option α) : List D → Option α
  | [d, e] => f d e
  | _ => none
@[simp] theorem f1_one {α : Type} (f : D → Option α) (d : D) : f1 f [d] = f d := id rfl
@[simp] theorem f2_two {α : Type} (f : D → D → Option α) (d e : D) : f2 f [d, e] = f d e := id rfl
theorem f1_inv {α : Type} {f : D → Option α} {ds : List D} {c : α} (h : f1 f ds = some c) : ∃ d, ds = [d] ∧ f d = some c := by
  unfold f1 at h
  split at h
  · exact ⟨_, rfl, h⟩
  · cases h
theorem f2_inv {α : Type} {f : D → D → Option α} {ds : List D} {c : α} (h : f2 f ds = some c) : ∃ d e, ds = [d, e] ∧ f d e = some c := by
  unfold f2 at h
  split at h
  · exact ⟨_, _, rfl, h⟩
  · cases h
def rLen (K : PySem.W.Frag) : List V → Hp → VK → Prop := fun xs H Q => (∃ x n, xs = [x] ∧ LenV K x H n ∧ Q (.int n) H) ∨ ∃ d kvs, xs = [.ref d] ∧ Rd H d (.dK kvs) ∧ Q (.int kvs.length) H
theorem cl_len {X : Cx} : CallR X (.builtin "len") (rLen X.K) := fun pins s σ H xs us Q I r h => by
  rcases h with h | ⟨d, kvs, rfl, hd, q⟩
  · exact call_len pins s σ H xs us Q I r h
  · obtain ⟨u, rfl, ru⟩ := vals1 r
    cases (show u = Value.ref d from ru)
    exact d_len I hd fun t s' I' => ⟨.int kvs.length, H, I', ⟨t, rfl⟩, q⟩
theorem cS_len : ClS T (rLen T.K) (f1 dLen) := fun H vs ds c r h Q q => by
  obtain ⟨d, e0, hd⟩ := f1_inv h
  subst e0
  obtain ⟨v, e0, rv⟩ := reps1 r
  subst e0
  clear r
  cases d <;> simp only [dLen] at hd <;> try (cases hd; done)
  · split at hd
    · rename_i hl
      cases hd
      simp only [Rep] at rv; subst rv
      exact .inl ⟨_, _, rfl, ⟨by rw [line_eq]; exact hl, rfl⟩, q _ fun G => by simp only [Rep]⟩
    · cases hd
  · cases hd
    obtain ⟨p, vs, rfl, hp, rr⟩ := rep_lst_inv rv
    exact .inl ⟨_, _, rfl, .inl ⟨vs, SqL.of hp, rfl⟩, q _ fun G => by simp only [Rep, rr.len]⟩
  · cases hd
    obtain ⟨p, vs, rfl, hp, rr⟩ := rep_tup_inv rv
    exact .inl ⟨_, _, rfl, .inr ⟨vs, SqT.of hp, rfl⟩, q _ fun G => by simp only [Rep, rr.len]⟩
  · cases hd
    simp only [Rep] at rv
    obtain ⟨p, vs, rfl, hp, l, rr⟩ := rv
    refine .inr ⟨p, _, rfl, .inl hp, ?_⟩
    rw [List.length_zip, l, Nat.min_self, ← rr.len]
    exact q _ fun G => by simp only [Rep]
  · cases hd
    simp only [Rep] at rv
    obtain ⟨p, rfl, hp⟩ := rv
    exact .inl ⟨_, _, rfl, .inl ⟨_, hp, rfl⟩, q _ fun G => by simp [Rep]⟩
def dInt : D → Option D
  | .int i => some (.int i)
  | .bl b => some (.int (if b then 1 else 0))
  | _ => none
def rInt : List V → Hp → VK → Prop := fun xs H Q => (∃ i, xs = [.int i] ∧ Q (.int i) H) ∨ ∃ k, xs = [.bl k] ∧ Q (.int (if k then 1 else 0)) H
theorem cS_int : ClS T rInt (f1 dInt) := fun H vs ds c r h Q q => by
  obtain ⟨d, e0, hd⟩ := f1_inv h
  subst e0
  obtain ⟨v, e0, rv⟩ := reps1 r
  subst e0
  clear r
  cases d <;> simp only [dInt] at hd <;> try (cases hd; done)
  · cases hd
    simp only [Rep] at rv; subst rv
    exact .inr ⟨_, rfl, q _ fun G => by simp only [Rep]⟩
  · cases hd
    simp only [Rep] at rv; subst rv
    exact .inl ⟨_, rfl, q _ fun G => by simp only [Rep]⟩
/-- all are asInts -/
def asInts : List D → Option (List Int)
  | [] => some []
  | .int i :: ds => (asInts ds).map fun r => i :: r
  | _ :: _ => none
theorem asInts_inv : ∀ {ds : List D} {ns : List Int}, asInts ds = some ns → ds = ns.map D.int
  | [], ns, h => by cases h; rfl
  | d :: ds, ns, h => by
    cases d <;> simp only [asInts] at h <;> try (cases h; done)
    obtain ⟨r, hr, rfl⟩ := Option.map_eq_some_iff.mp h
    rw [asInts_inv hr]; rfl
@[simp] theorem asInts_map : ∀ ns : List Int, asInts (ns.map D.int) = some ns
  | [] => rfl
  | n :: ns => by simp [asInts, asInts_map ns]
def dInts : D → Option (List Int)
  | .lst ds => asInts ds
  | .tup ds => asInts ds
  | _ => none
/-- a list of asInts, as the layer reads it; a tuple of them is served where the rule says so -/
theorem dInts_V {H : Hp} {d : D} {v : V} {ns : List Int} (r : Rep T H d v) (h : dInts d = some ns) : ∃ p, v = .ref p ∧ (SqL T.K H p (ns.map V.int) ∨ SqT T.K H p (ns.map V.int)) := by
  cases d <;> simp only [dInts] at h <;> try (cases h; done)
  · obtain ⟨p, vs, rfl, hp, rr⟩ := rep_lst_inv r
    rw [asInts_inv h] at rr
    rw [rr.ints] at hp
    exact ⟨p, rfl, .inl (SqL.of hp)⟩
  · obtain ⟨p, vs, rfl, hp, rr⟩ := rep_tup_inv r
    rw [asInts_inv h] at rr
    rw [rr.ints] at hp
    exact ⟨p, rfl, .inr (SqT.of hp)⟩
end
end Mi
/-! sorted, sum of a tuple -/
namespace SrtO
open PySem PyProof.Rows Srt
section
variable {prog : Program} {w : World} {A : Around} {E : Value → Shared → Prop} {s : Shared}
theorem mi_collect_tuple {l : Addr} {vs : List Value} {Q : List Value → Shared → Prop} (hl : s.heap.IsTuple l vs.toArray)
    (h : Q vs { s with heap := (s.heap.push (seqObj "list" #[] 0)).update s.heap.objs.size (Obj.mapSeq (· ++ vs.toArray)) }) (hsz : vs.length ≤ sizeLine) :
    wpAny (model prog w) A (collect (.ref l)) Q E s := by
  obtain ⟨o, ho, hc, n, hd⟩ := id hl
  unfold collect
  refine wpAny_bind (wpAny_runValue (codeAny_builtin entry_proto_collect' ?_))
  show wpAny _ _ (do again (.builtin "list.__iadd__" ⟨[← newList [], .ref l], []⟩)) _ _ s
  refine wpAny_bind (wpAny_newList (wpAny_pure ⟨Code.quiet_builtin _ (by decide +kernel), codeAny_builtin entry_list_iadd' ?_⟩))
  show wpAny _ _ (Builtin.List.listExtendWith (.ref s.heap.objs.size) (.ref l) (.ref s.heap.objs.size)) _ _ { s with heap := s.heap.push (seqObj "list" #[] 0) }
  unfold Builtin.List.listExtendWith
  have ho' : (s.heap.push (seqObj "list" #[] 0)).get? l = some o := Heap.get?_push_of_some _ ho
  refine wpAny_bind (wpAny_typeOf (T := "tuple") ⟨o, ho', hc⟩ ?_)
  have ht : (Value.type "tuple" == Value.type "tuple") = true := by rfl
  rw [if_pos (by rw [ht]; simp)]
  refine wpAny_bind (listItems_at ho' hd ?_)
  refine wpAny_bind (listItems_at (xs := #[]) (n := 0) (Heap.get?_push_size _ rfl) rfl ?_)
  rw [if_neg (by simp)]
  refine wpAny_bind (listUpdate_at (xs := #[]) (n := 0) (Heap.get?_push_size _ rfl) rfl ?_ (Nat.zero_le _) (by show (#[] ++ vs.toArray).size ≤ sizeLine + 1; simp only [Array.size_append, List.size_toArray, List.length_nil]; omega))
  refine wpAny_pure ?_
  show wpAny (model prog w) A (do
      let o ← load s.heap.objs.size
      match o.data with
      | .seq xs _ => pure xs.toList
      | _ => unsupported "internal:collect") Q E { s with heap := (s.heap.push (seqObj "list" #[] 0)).update s.heap.objs.size (Obj.mapSeq (· ++ vs.toArray)) }
  refine wpAny_bind (wpAny_load (get?_update_seq (Heap.get?_push_size _ rfl) _) ?_)
  show wpAny _ _ (pure ((#[] : Array Value) ++ vs.toArray).toList) Q E _
  rw [show ((#[] : Array Value) ++ vs.toArray).toList = vs by simp]
  exact wpAny_pure h
theorem mi_sorted_tuple {l : Addr} {vs : List Value} {ltv : Value → Value → Bool} {Q : Value → Shared → Prop} (O : Swo ltv) (hl : s.heap.IsTuple l vs.toArray) (hz : vs.length ≤ sizeLine)
    (hS : 2 ≤ vs.length → ∀ (h₁ : Heap) (a : Addr), h₁.get? a = some (seqObj "list" vs.toArray 0) → (∀ b o, s.heap.get? b = some o → b ≠ a ∧ h₁.get? b = some o) → SortableO prog w A.in1.in1 { s with heap := h₁ } a vs ltv)
    (h : ∀ out : List Value, Srtd ltv out → Stb ltv out vs → Q (.ref (s.heap.objs.size + 1)) { s with heap := sortedAll s.heap vs out.toArray }) :
    wpAny (model prog w) A (call (.builtin "sorted") [.ref l]) Q E s := by
  refine Calls.call_function_entry kind_sorted plain_sorted entry_sorted (args_sorted1 _) ?_
  unfold Builtin.«sorted»
  refine wpAny_bind (m := checkCount "sorted" 1 1 _) (wpAny_pure ?_)
  refine wpAny_bind (mi_collect_tuple hl ?_ hz)
  refine wpAny_bind (wpAny_newList ?_ hz)
  have hsz : ((s.heap.push (seqObj "list" #[] 0)).update s.heap.objs.size (Obj.mapSeq (· ++ vs.toArray))).objs.size = s.heap.objs.size + 1 := by
    rw [Heap.size_update, size_push']
  have hoL : (((s.heap.push (seqObj "list" #[] 0)).update s.heap.objs.size (Obj.mapSeq (· ++ vs.toArray))).push (seqObj "list" vs.toArray 0)).get? (s.heap.objs.size + 1) = some (seqObj "list" vs.toArray 0) := by
    rw [← hsz]; exact Heap.get?_push_size _ rfl
  have keep : ∀ b o, s.heap.get? b = some o → b ≠ s.heap.objs.size + 1 ∧ (((s.heap.push (seqObj "list" #[] 0)).update s.heap.objs.size (Obj.mapSeq (· ++ vs.toArray))).push (seqObj "list" vs.toArray 0)).get? b = some o := fun b o q => by
    have hlt : b < s.heap.objs.size := Heap.lt_size q
    refine ⟨Nat.ne_of_lt (Nat.lt_succ_of_lt hlt), Heap.get?_push_of_some _ ?_⟩
    rw [Heap.get?_update_ne _ _ _ _ (Nat.ne_of_lt hlt)]
    exact Heap.get?_push_of_some _ q
  show wpAny _ _ _ _ _ { s with heap := ((s.heap.push (seqObj "list" #[] 0)).update s.heap.objs.size (Obj.mapSeq (· ++ vs.toArray))).push (seqObj "list" vs.toArray 0) }
  rw [hsz]
  refine wpAny_bind (wpAny_holding (wpAny_call_entry slot_list_sort ⟨_, hoL, rfl⟩ entry_list_sort (list_sort_ord O hoL hz (fun h2 => hS h2 _ _ hoL keep) fun out hs hb => ⟨_, rfl, ?_⟩) (args_list_sort _)))
  exact wpAny_pure ⟨_, rfl, h out hs hb⟩
end
end SrtO
namespace PySem
open PyProof.Rows
section
variable {prog : Program} {w : World} {A : Around} {E : Value → Shared → Prop} {s : Shared} {l : Addr} {xs : Array (Int × Tok)}
theorem mi_sum_tuple {Q : Value → Shared → Prop} (hh : A.handled = none) (hl : s.heap.IsTuple l (intItems xs))
    (h : ∀ h' tk t', (∀ b o, s.heap.get? b = some o → h'.get? b = some o) → Q (.int (preSum (numAt xs) xs.size) t') { s with heap := h', toks := tk }) :
    wpAny (model prog w) A (call (.builtin "sum") [.ref l]) Q E s := by
  have hlt : l < s.heap.objs.size := by obtain ⟨_, e, _⟩ := hl; exact Heap.lt_size e
  refine call_sum_walkG (wpAny_pyIter_tuple hl ?_)
  have kp : ∀ b o, s.heap.get? b = some o → (s.heap.push { cls := .type "tuple_iterator", data := .fields #[.ref l, .int 0 0] }).get? b = some o := fun b o e => Heap.get?_push_of_some _ e
  refine ⟨_, _, _, _, _, _, numAt xs, rfl, Walks.tuple (A := A.in1) hh s.heap.objs.size l (Nat.ne_of_lt hlt) (intItems xs), ⟨⟨_, Heap.get?_push_size _ rfl, rfl, rfl⟩, hl.at (fun o e => kp l o e)⟩, ?_, (fun _ _ => intItems_at), fun h' tk t' hk => ?_⟩
  · intro b hb
    show b < (s.heap.push _).objs.size
    rw [Heap.size_push]
    rcases List.mem_cons.mp hb with rfl | hb
    · exact Nat.lt_succ_self _
    · rcases List.mem_cons.mp hb with rfl | hb
      · exact Nat.lt_succ_of_lt hlt
      · cases hb
  · have := h h' tk t' (fun b o e => hk b o (by
      intro hm
      rcases List.mem_cons.mp hm with rfl | hm
      · exact absurd (Heap.lt_size e) (Nat.lt_irrefl _)
      · cases hm) (kp b o e))
    simpa [intItems] using this
end
end PySem
/-! built-ins by values, isinstance, stores -/
namespace Mi
open PySem L2
open PyProof.Rows
open Evl (Ex ex_t ex_l ex_rd fresh_back)
/-! ### ints in order -/
def insI (n : Int) : List Int → List Int
  | [] => [n]
  | m :: ms => if n ≤ m then n :: m :: ms else m :: insI n ms
def sortI : List Int → List Int
  | [] => []
  | n :: ns => insI n (sortI ns)
theorem insI_perm (n : Int) : ∀ ms : List Int, (insI n ms).Perm (n :: ms)
  | [] => .refl _
  | m :: ms => by
    unfold insI
    split
    · exact .refl _
    · exact ((insI_perm n ms).cons m).trans (.swap n m ms)
theorem sortI_perm : ∀ ns : List Int, (sortI ns).Perm ns
  | [] => .refl _
  | n :: ns => (insI_perm n _).trans ((sortI_perm ns).cons n)
theorem insI_up (n : Int) : ∀ {ms : List Int}, ms.Pairwise (· ≤ ·) → (insI n ms).Pairwise (· ≤ ·)
  | [], _ => by simp [insI]
  | m :: ms, h => by
    unfold insI
    have h' := List.pairwise_cons.mp h
    split
    · rename_i hn
      refine List.pairwise_cons.mpr ⟨fun x hx => ?_, h⟩
      rcases List.mem_cons.mp hx with rfl | hx
      · exact hn
      · exact Int.le_trans hn (h'.1 x hx)
    · rename_i hn
      refine List.pairwise_cons.mpr ⟨fun x hx => ?_, insI_up n h'.2⟩
      rcases List.mem_cons.mp ((insI_perm n ms).mem_iff.mp hx) with rfl | hx
      · omega
      · exact h'.1 x hx
theorem sortI_up : ∀ ns : List Int, (sortI ns).Pairwise (· ≤ ·)
  | [] => .nil
  | n :: ns => insI_up n (sortI_up ns)
theorem sortI_of {a b : List Int} (hp : a.Perm b) (ha : a.Pairwise (· ≤ ·)) : a = sortI b := PySem.W.ksm_same (hp.trans (sortI_perm b).symm) ha (sortI_up b)
def intKeys : List Key → Option (List Int)
  | [] => some []
  | .inl i :: ks => (intKeys ks).map fun r => i :: r
  | .inr _ :: _ => none
theorem intKeys_inv : ∀ {ks : List Key} {ns : List Int}, intKeys ks = some ns → ks = ns.map Sum.inl
  | [], ns, h => by cases h; rfl
  | .inl i :: ks, ns, h => by
    simp only [intKeys] at h
    obtain ⟨r, hr, rfl⟩ := Option.map_eq_some_iff.mp h
    rw [intKeys_inv hr]; rfl
  | .inr _ :: _, ns, h => by simp [intKeys] at h
def dSorted : D → Option D
  | .dic ks _ => (intKeys ks).bind fun ns => if ns.length < 64 then some (.lst ((sortI ns).map D.int)) else none
  | d => (dInts d).map fun ns => .lst ((sortI ns).map D.int)
def rSortedT (K : PySem.W.Frag) : List V → Hp → VK → Prop := fun vs H Q => ∃ (a : Addr) (ns : List Int), vs = [V.ref a] ∧ SqT K H a (ns.map V.int) ∧
  ∀ (ns' : List Int) (p : Addr), ns'.Perm ns → ns'.Pairwise (· ≤ ·) → H p = none → Q (.ref p) (upd H p (.lst (ns'.map V.int)))
def rSortedDI : List V → Hp → VK → Prop := fun xs H Q => ∃ (a : Addr) (kvs : List (Key × V)) (ks : List Int), xs = [.ref a] ∧ Rd H a (.dK kvs) ∧ kvs.map (·.1) = ks.map Sum.inl ∧ ks.length < 64 ∧
    ∀ (ys : List Int) (p : Addr), ys.Perm ks → ys.Pairwise (· ≤ ·) → H p = none → Q (.ref p) (upd H p (.lst (ys.map V.int)))
def rSortedA (K : PySem.W.Frag) : List V → Hp → VK → Prop := fun xs H Q => rSortedI K xs H Q ∨ rSortedT K xs H Q ∨ rSortedDI xs H Q
def rSumT (K : PySem.W.Frag) : List V → Hp → VK → Prop := fun vs H Q => ∃ (a : Addr) (ns : List Int), vs = [V.ref a] ∧ SqT K H a (ns.map V.int) ∧ Q (.int ns.sum) H
def rSumA (K : PySem.W.Frag) : List V → Hp → VK → Prop := fun xs H Q => rSum K xs H Q ∨ rSumT K xs H Q
section
variable {X : Cx}
theorem cr_sortedT2 : CallR X (.builtin "sorted") (rSortedT X.K) := by
  intro pins s σ H vs us Q I r h
  obtain ⟨a, ns, rfl, hs, q⟩ := h
  obtain ⟨its, rv, hl, hz⟩ := I.tuple hs
  rw [Vals.ref1 r]
  have hi := rv.ints
  refine SrtO.mi_sorted_tuple SrtO.swo_int (show s.heap.IsTuple a its.toArray from hl) (by rw [← rv.length]; exact hz) (fun h2 h₁ a' _ _ => SrtO.ints_sortable hi h2) fun out h1 h2 => ?_
  obtain ⟨k1, k2, k3⟩ := SrtO.ints_out hi h1 h2
  obtain ⟨ep, he'⟩ := PyProof.Rows.sortedAll_at s.heap its out.toArray
  have hlen : ((out.map SrtO.iv).map V.int).length ≤ sizeLine := by
    rw [List.length_map, k2.length_eq]
    rw [List.length_map] at hz
    exact hz
  exact ⟨.ref _, upd H (s.heap.objs.size + 1) (.lst ((out.map SrtO.iv).map V.int)), I.laid (t' := s.toks) (fun _ _ => PyProof.Rows.sortedAll_old) (Nat.le_succ _) ⟨hlen, out, ep, vals_of_ints k1, he'⟩, rfl, q _ _ k2 k3 (I.hok.fresh (Nat.le_succ _))⟩
theorem cl_sorted (hc : X.calm = true) : CallR X (.builtin "sorted") (rSortedA X.K) := cr_sortedI.or (cr_sortedT2.or (call_sortedDI hc))
theorem cr_sumT (hc : X.calm = true) : CallR X (.builtin "sum") (rSumT X.K) := by
  intro pins s σ H vs us Q I r h
  obtain ⟨a, ns, rfl, hs, q⟩ := h
  obtain ⟨its, rv, hl, hz⟩ := I.tuple hs
  rw [Vals.ref1 r]
  have hi := rv.ints
  obtain ⟨xs, e⟩ := hi.allInts.items
  have hn : numsOf (intItems xs).toList = ns := by rw [← e]; exact hi.numsOf
  rw [nums_intItems] at hn
  have hl' : s.heap.IsTuple a (intItems xs) := by rw [← e]; exact hl
  refine PySem.mi_sum_tuple (I.ok.hd hc) hl' fun h' tk t' hk => ?_
  rw [preSum_eq, List.take_of_length_le (by simp), hn]
  exact ⟨.int ns.sum, H, I.kept hk, ⟨_, rfl⟩, q⟩
theorem cl_sum (hc : X.calm = true) : CallR X (.builtin "sum") (rSumA X.K) := (cr_sum hc).or (cr_sumT hc)
end
section
variable {T : Th} {Γ : Ctx} {md : Md} {te ta tb : TE} {tr : TA} {me ma mb : Option D} {ms : Option (List D)}
theorem ownN {p : Addr} {H : Hp} (ns : List Int) : ∀ F, OwnC T F (upd H p (.lst (ns.map V.int))) p (.lst (ns.map D.int)) := fun F => by
  simp only [OwnC]
  exact ⟨_, upd_same, Reps.of_ints ns⟩
theorem cN_sorted : ClN T (rSortedA T.K) (f1 dSorted) := fun H vs ds c r h Q q => by
  obtain ⟨d, e0, hd⟩ := f1_inv h
  subst e0
  obtain ⟨v, e0, rv⟩ := reps1 r
  subst e0
  have go : ∀ {ns : List Int}, dInts d = some ns → c = .lst ((sortI ns).map D.int) → rSortedA T.K [v] H Q := fun {ns} h1 h2 => by
    subst h2
    obtain ⟨p, rfl, hp⟩ := dInts_V rv h1
    rcases hp with hp | hp
    · exact .inl ⟨p, ns, rfl, hp, fun ns' p' a b z => by rw [sortI_of a b]; exact q p' _ z (ownN _)⟩
    · exact .inr (.inl ⟨p, ns, rfl, hp, fun ns' p' a b z => by rw [sortI_of a b]; exact q p' _ z (ownN _)⟩)
  have hd' : (∃ ks ds, d = .dic ks ds) ∨ (dInts d).map (fun ns => D.lst ((sortI ns).map D.int)) = some c := by
    cases d <;> first | exact .inl ⟨_, _, rfl⟩ | exact .inr hd
  rcases hd' with ⟨ks, ds, rfl⟩ | hd'
  · simp only [dSorted] at hd
    obtain ⟨ns, e1, e2⟩ := bind_inv hd
    split at e2
    · rename_i hl
      cases e2
      simp only [Rep] at rv
      obtain ⟨p, vs, rfl, hp, l, rr⟩ := rv
      refine .inr (.inr ⟨p, _, ns, rfl, .inl hp, ?_, hl, fun ys p' a b z => by rw [sortI_of a b]; exact q p' _ z (ownN _)⟩)
      rw [List.map_fst_zip (by omega)]
      exact intKeys_inv e1
    · cases e2
  · obtain ⟨ns, e1, e2⟩ := Option.map_eq_some_iff.mp hd'
    exact go e1 e2.symm
def dSum (d : D) : Option D := (dInts d).map fun ns => .int ns.sum
theorem cS_sum : ClS T (rSumA T.K) (f1 dSum) := fun H vs ds c r h Q q => by
  obtain ⟨d, e0, hd⟩ := f1_inv h
  subst e0
  obtain ⟨v, e0, rv⟩ := reps1 r
  subst e0
  obtain ⟨ns, e1, rfl⟩ := Option.map_eq_some_iff.mp (show (dInts d).map _ = some c from hd)
  obtain ⟨p, rfl, hp⟩ := dInts_V rv e1
  rcases hp with hp | hp
  · exact .inl ⟨p, ns, rfl, hp, q _ fun G => by simp only [Rep]⟩
  · exact .inr ⟨p, ns, rfl, hp, q _ fun G => by simp only [Rep]⟩
def dMax2 : D → D → Option D
  | .int i, .int j => some (.int (if j > i then j else i))
  | _, _ => none
def dMin2 : D → D → Option D
  | .int i, .int j => some (.int (if j < i then j else i))
  | _, _ => none
def rMax2 : List V → Hp → VK → Prop := fun xs H Q => ∃ i j, xs = [.int i, .int j] ∧ Q (.int (if j > i then j else i)) H
def rMin2 : List V → Hp → VK → Prop := fun xs H Q => ∃ i j, xs = [.int i, .int j] ∧ Q (.int (if j < i then j else i)) H
theorem cS_max2 : ClS T rMax2 (f2 dMax2) := fun H vs ds c r h Q q => by
  obtain ⟨d, e, e0, hd⟩ := f2_inv h
  subst e0
  obtain ⟨v, w, e0, rv, rw'⟩ := reps2 r
  subst e0
  clear r h
  cases d <;> cases e <;> simp only [dMax2] at hd <;> try (cases hd; done)
  cases hd
  simp only [Rep] at rv rw'
  subst rv rw'
  exact ⟨_, _, rfl, q _ fun G => by simp only [Rep]⟩
theorem cS_min2 : ClS T rMin2 (f2 dMin2) := fun H vs ds c r h Q q => by
  obtain ⟨d, e, e0, hd⟩ := f2_inv h
  subst e0
  obtain ⟨v, w, e0, rv, rw'⟩ := reps2 r
  subst e0
  clear r h
  cases d <;> cases e <;> simp only [dMin2] at hd <;> try (cases hd; done)
  cases hd
  simp only [Rep] at rv rw'
  subst rv rw'
  exact ⟨_, _, rfl, q _ fun G => by simp only [Rep]⟩
/-- the least, the greatest of a list of ints -/
def leastI : Int → List Int → Int
  | m, [] => m
  | m, n :: ns => leastI (if n < m then n else m) ns
def mostI : Int → List Int → Int
  | m, [] => m
  | m, n :: ns => mostI (if m < n then n else m) ns
theorem leastI_le : ∀ (ns : List Int) (m : Int), leastI m ns ≤ m ∧ (∀ n ∈ ns, leastI m ns ≤ n) ∧ (leastI m ns = m ∨ leastI m ns ∈ ns)
  | [], m => ⟨Int.le_refl _, by simp, .inl rfl⟩
  | n :: ns, m => by
    obtain ⟨a, b, c⟩ := leastI_le ns (if n < m then n else m)
    unfold leastI
    refine ⟨?_, ?_, ?_⟩
    · split at a <;> rename_i h <;> simp only [h, if_true, if_false] <;> omega
    · intro x hx
      rcases List.mem_cons.mp hx with rfl | hx
      · split at a <;> rename_i h <;> simp only [h, if_true, if_false] <;> omega
      · exact b x hx
    · rcases c with c | c
      · split at c <;> rename_i h <;> simp only [h, if_true, if_false]
        · exact .inr (by rw [c]; exact List.mem_cons_self ..)
        · exact .inl c
      · exact .inr (List.mem_cons_of_mem _ c)
theorem mostI_ge : ∀ (ns : List Int) (m : Int), m ≤ mostI m ns ∧ (∀ n ∈ ns, n ≤ mostI m ns) ∧ (mostI m ns = m ∨ mostI m ns ∈ ns)
  | [], m => ⟨Int.le_refl _, by simp, .inl rfl⟩
  | n :: ns, m => by
    obtain ⟨a, b, c⟩ := mostI_ge ns (if m < n then n else m)
    unfold mostI
    refine ⟨?_, ?_, ?_⟩
    · split at a <;> rename_i h <;> simp only [h, if_true, if_false] <;> omega
    · intro x hx
      rcases List.mem_cons.mp hx with rfl | hx
      · split at a <;> rename_i h <;> simp only [h, if_true, if_false] <;> omega
      · exact b x hx
    · rcases c with c | c
      · split at c <;> rename_i h <;> simp only [h, if_true, if_false]
        · exact .inr (by rw [c]; exact List.mem_cons_self ..)
        · exact .inl c
      · exact .inr (List.mem_cons_of_mem _ c)
def dMinL : D → Option D
  | .lst ds => (asInts ds).bind fun ns => match ns with | [] => none | n :: ns => some (.int (leastI n ns))
  | _ => none
def dMaxL : D → Option D
  | .lst ds => (asInts ds).bind fun ns => match ns with | [] => none | n :: ns => some (.int (mostI n ns))
  | _ => none
theorem cS_min : ClS T (rMin T.K) (f1 dMinL) := fun H vs ds c r h Q q => by
  obtain ⟨d, e0, hd⟩ := f1_inv h
  subst e0
  obtain ⟨v, e0, rv⟩ := reps1 r
  subst e0
  clear r h
  cases d <;> simp only [dMinL] at hd <;> try (cases hd; done)
  obtain ⟨ns, e1, e2⟩ := bind_inv hd
  cases ns with
  | nil => cases e2
  | cons n ns =>
    cases e2
    obtain ⟨p, vs, rfl, hp, rr⟩ := rep_lst_inv rv
    rw [asInts_inv e1] at rr
    rw [rr.ints] at hp
    refine ⟨p, n :: ns, rfl, SqL.of hp, by simp, fun m hm hle => ?_⟩
    obtain ⟨a, b, c⟩ := leastI_le ns n
    have e : m = leastI n ns := by
      have h1 : m ≤ leastI n ns := by
        rcases c with c | c
        · rw [c]; exact hle n (List.mem_cons_self ..)
        · exact hle _ (List.mem_cons_of_mem _ c)
      have h2 : leastI n ns ≤ m := by
        rcases List.mem_cons.mp hm with rfl | hm
        · exact a
        · exact b m hm
      omega
    rw [e]
    exact q _ fun G => by simp only [Rep]
theorem cS_max : ClS T (rMax T.K) (f1 dMaxL) := fun H vs ds c r h Q q => by
  obtain ⟨d, e0, hd⟩ := f1_inv h
  subst e0
  obtain ⟨v, e0, rv⟩ := reps1 r
  subst e0
  clear r h
  cases d <;> simp only [dMaxL] at hd <;> try (cases hd; done)
  obtain ⟨ns, e1, e2⟩ := bind_inv hd
  cases ns with
  | nil => cases e2
  | cons n ns =>
    cases e2
    obtain ⟨p, vs, rfl, hp, rr⟩ := rep_lst_inv rv
    rw [asInts_inv e1] at rr
    rw [rr.ints] at hp
    refine ⟨p, n :: ns, rfl, SqL.of hp, by simp, fun m hm hle => ?_⟩
    obtain ⟨a, b, c⟩ := mostI_ge ns n
    have e : m = mostI n ns := by
      have h1 : mostI n ns ≤ m := by
        rcases c with c | c
        · rw [c]; exact hle n (List.mem_cons_self ..)
        · exact hle _ (List.mem_cons_of_mem _ c)
      have h2 : m ≤ mostI n ns := by
        rcases List.mem_cons.mp hm with rfl | hm
        · exact a
        · exact b m hm
      omega
    rw [e]
    exact q _ fun G => by simp only [Rep]
def dAbs : D → Option D
  | .int i => some (.int (if i < 0 then -i else i))
  | _ => none
def rAbs : List V → Hp → VK → Prop := fun xs H Q => ∃ i, xs = [.int i] ∧ Q (.int (if i < 0 then -i else i)) H
theorem cS_abs : ClS T rAbs (f1 dAbs) := fun H vs ds c r h Q q => by
  obtain ⟨d, e0, hd⟩ := f1_inv h
  subst e0
  obtain ⟨v, e0, rv⟩ := reps1 r
  subst e0
  clear r h
  cases d <;> simp only [dAbs] at hd <;> try (cases hd; done)
  cases hd
  simp only [Rep] at rv; subst rv
  exact ⟨_, rfl, q _ fun G => by simp only [Rep]⟩
/-! tuple(v), list(v) -/
def dTuple : D → Option D
  | .lst ds => some (.tup ds)
  | .tup ds => some (.tup ds)
  | _ => none
def dList : D → Option D
  | .lst ds => some (.lst ds)
  | .tup ds => some (.lst ds)
  | _ => none
/-- the same where the parts need not be held -/
def dListS : D → Option D
  | .lst ds => if ds.all flat = true then some (.lst ds) else none
  | .tup ds => if ds.all flat = true then some (.lst ds) else none
  | .scr ns => some (.lst (ns.map D.int))
  | _ => none
def rTupOf (K : PySem.W.Frag) : List V → Hp → VK → Prop := fun xs H Q => ∃ p ys, xs = [.ref p] ∧ ((SqL K H p ys ∧ ∀ l, H l = none → Q (.ref l) (upd H l (.tup ys))) ∨ (SqT K H p ys ∧ Q (.ref p) H))
def rLstOf (K : PySem.W.Frag) : List V → Hp → VK → Prop := fun xs H Q => ∃ p ys, xs = [.ref p] ∧ (SqL K H p ys ∨ SqT K H p ys) ∧ ∀ l, H l = none → Q (.ref l) (upd H l (.lst ys))
theorem cM_tuple : ClM T (rTupOf T.K) (f1 dTuple) := fun Z md F H vs ds c hm ex r h Q q => by
  obtain ⟨d, e0, hd⟩ := f1_inv h
  subst e0
  obtain ⟨v, e0, rv⟩ := reps1 r
  subst e0
  clear r h
  cases d <;> simp only [dTuple] at hd <;> try (cases hd; done)
  · cases hd
    obtain ⟨p, vs, rfl, hp, rr⟩ := rep_lst_inv rv
    refine ⟨p, vs, rfl, .inl ⟨SqL.of (sel_in' hm ex _ _ hp), fun n hn => ?_⟩⟩
    obtain ⟨F2, g, e2⟩ := sel_new (Z := Z) hm ex hn (.tup vs)
    exact q _ F2 _ g (rep_tup e2 (rr.mono (sel_grow g)))
  · cases hd
    obtain ⟨p, vs, rfl, hp, rr⟩ := rep_tup_inv rv
    exact ⟨p, vs, rfl, .inr ⟨SqT.of (sel_in' hm ex _ _ hp), q _ F H (Grow.refl ex) rv⟩⟩
/-- tuple(v) of flat things -/
def dTupleS : D → Option D
  | .lst ds => if ds.all flat = true then some (.tup ds) else none
  | _ => none
theorem flat_reps {H G : Hp} : ∀ {ds : List D} {vs : List V}, ds.all flat = true → Reps T H ds vs → Reps T G ds vs
  | [], vs, h, r => by simp only [Reps] at r; subst r; exact Reps.nil
  | d :: ds, vs, h, r => by
    obtain ⟨v, r', rfl, s, t⟩ := r.uncons
    simp only [List.all_cons, Bool.and_eq_true] at h
    exact Reps.cons (flat_rep h.1 s) (flat_reps h.2 t)
theorem ev_tupleS (ha : Ev T .h ta Γ ma) (hm : md.fh = true := by rfl) : Ev T md (tCB (rTupOf T.K) (tCons ta tNil)) Γ (o1 dTupleS ma) := fun Z F H σ ok c hd Q q => by
  obtain ⟨x, e1, e2⟩ := o1_inv hd
  refine ha Z F H σ ok x e1 _ fun v F2 H2 g r => ?_
  cases x <;> simp only [dTupleS] at e2 <;> try (cases e2; done)
  split at e2
  · rename_i hf
    cases e2
    obtain ⟨p, vs, rfl, hp, rr⟩ := rep_lst_inv r
    refine ⟨p, vs, rfl, .inl ⟨SqL.of hp, fun n hn => ?_⟩⟩
    obtain ⟨F3, g3, e3⟩ := sel_new (Z := Z) hm g.i hn (.tup vs)
    exact q _ F3 _ (g.trans g3) (rep_tup e3 (flat_reps hf rr))
  · cases e2
theorem evo_list (ha : Ev T .f ta Γ ma) : EvO T (tCB (rLstOf T.K) (tCons ta tNil)) Γ (o1 dList ma) := fun Z F H σ ok c hd Q q => by
  obtain ⟨x, e1, e2⟩ := o1_inv hd
  refine ha Z F H σ ok x e1 _ fun v F2 H2 g r => ?_
  cases x <;> simp only [dList] at e2 <;> try (cases e2; done)
  all_goals
    cases e2
    first
      | (obtain ⟨p, vs, rfl, hp, rr⟩ := rep_lst_inv r
         refine ⟨p, vs, rfl, .inl (SqL.of (g.i _ _ hp)), fun n hn => ?_⟩
         exact q n F2 _ (g.trans (Grow.lay g.i hn _)) (none_of_ex g.h hn) (none_of_ex g.i hn) (by simp only [OwnC]; exact ⟨vs, upd_same, rr⟩))
      | (obtain ⟨p, vs, rfl, hp, rr⟩ := rep_tup_inv r
         refine ⟨p, vs, rfl, .inr (SqT.of (g.i _ _ hp)), fun n hn => ?_⟩
         exact q n F2 _ (g.trans (Grow.lay g.i hn _)) (none_of_ex g.h hn) (none_of_ex g.i hn) (by simp only [OwnC]; exact ⟨vs, upd_same, rr⟩))
theorem evo_listS (ha : Ev T .h ta Γ ma) : EvO T (tCB (rLstOf T.K) (tCons ta tNil)) Γ (o1 dListS ma) := fun Z F H σ ok c hd Q q => by
  obtain ⟨x, e1, e2⟩ := o1_inv hd
  refine ha Z F H σ ok x e1 _ fun v F2 H2 g r => ?_
  cases x <;> simp only [dListS] at e2 <;> try (cases e2; done)
  · split at e2
    · rename_i hf
      cases e2
      obtain ⟨p, vs, rfl, hp, rr⟩ := rep_lst_inv r
      refine ⟨p, vs, rfl, .inl (SqL.of hp), fun n hn => ?_⟩
      exact q n F2 _ (g.trans (Grow.lay g.i hn _)) (none_of_ex g.h hn) (none_of_ex g.i hn) (by simp only [OwnC]; exact ⟨vs, upd_same, flat_reps hf rr⟩)
    · cases e2
  · split at e2
    · rename_i hf
      cases e2
      obtain ⟨p, vs, rfl, hp, rr⟩ := rep_tup_inv r
      refine ⟨p, vs, rfl, .inr (SqT.of hp), fun n hn => ?_⟩
      exact q n F2 _ (g.trans (Grow.lay g.i hn _)) (none_of_ex g.h hn) (none_of_ex g.i hn) (by simp only [OwnC]; exact ⟨vs, upd_same, flat_reps hf rr⟩)
    · cases e2
  · cases e2
    simp only [Rep] at r
    obtain ⟨p, rfl, hp⟩ := r
    refine ⟨p, _, rfl, .inl hp, fun n hn => ?_⟩
    exact q n F2 _ (g.trans (Grow.lay g.i hn _)) (none_of_ex g.h hn) (none_of_ex g.i hn) (ownN _ _)
/-! tuple(range(..)), list(range(..)) -/
def EvR (T : Th) (te : L2.St → Hp → (Int → Int → Hp → Prop) → Prop) (Γ : Ctx) (m : Option (Int × Int)) : Prop := ∀ Z F H σ, Ok T Z Γ F H σ → ∀ c, m = some c → ∀ Q : Int → Int → Hp → Prop, (∀ F2 H2, Grow F F2 H H2 → Q c.1 c.2 H2) → te σ H Q
theorem evr_1 (h : Ev T .h ta Γ ma) : EvR T (tRg1 ta) Γ ((o1 dI ma).map fun n => (0, n)) := fun Z F H σ ok c hc Q q => by
  obtain ⟨n, hn, rfl⟩ := Option.map_eq_some_iff.mp hc
  obtain ⟨x, e1, e2⟩ := o1_inv hn
  cases x <;> simp only [dI] at e2 <;> try (cases e2; done)
  cases e2
  refine h Z F H σ ok _ e1 _ fun v F2 H2 g r => ?_
  simp only [Rep] at r
  exact ⟨_, r, q F2 H2 g⟩
theorem evr_2 (h : Ev T .h ta Γ ma) (h' : Ev T .h tb Γ mb) : EvR T (tRg2 ta tb) Γ (o2 (fun a b => some (a, b)) (o1 dI ma) (o1 dI mb)) := fun Z F H σ ok c hc Q q => by
  obtain ⟨i, j, hi, hj, e⟩ := o2_inv hc
  cases e
  obtain ⟨x, e1, e2⟩ := o1_inv hi
  obtain ⟨y, e3, e4⟩ := o1_inv hj
  cases x <;> simp only [dI] at e2 <;> try (cases e2; done)
  cases e2
  cases y <;> simp only [dI] at e4 <;> try (cases e4; done)
  cases e4
  refine h Z F H σ ok _ e1 _ fun v F2 H2 g r => h' Z F2 H2 σ (ok.grow g) _ e3 _ fun w F3 H3 g' r' => ?_
  simp only [Rep] at r r'
  exact ⟨_, _, r, r', q F3 H3 (g.trans g')⟩
end
end Mi
/-! isinstance, stores, comprehensions -/
namespace Mi
open PySem L2
open PyProof.Rows
open Evl (Ex ex_t ex_l ex_rd fresh_back)
section
variable {ω α β : Type} {T : Th} {Γ : Ctx} {md : Md} {te ta tb : TE} {tt : TT} {tr : TA} {me ma mb : Option D} {ms : Option (List D)} {P : Base → Ends → ω → Prop} {i j : Nat} {wi : TI} {g : TG}
def dRg (c : Int × Int) : Option (List D) := if (-(2 ^ 62) ≤ c.1 ∧ c.1 < 2 ^ 62) ∧ (-(2 ^ 62) ≤ c.2 ∧ c.2 < 2 ^ 62) ∧ (c.2 - c.1).toNat ≤ 16777216 then some (ranged c.1 c.2) else none
theorem ranged_V {H : Hp} (a b : Int) : Reps T H (ranged a b) (rgV a b) := by
  unfold ranged rgV
  generalize (b - a).toNat = n
  induction n with
  | zero => exact Reps.nil
  | succ n ih =>
    rw [List.range_succ, List.map_append, List.map_append]
    exact ih.app (Reps.one (by simp only [Rep]))
variable {tR : L2.St → Hp → (Int → Int → Hp → Prop) → Prop} {mr : Option (Int × Int)}
theorem ev_tupRg (h : EvR T tR Γ mr) (hm : md.fh = true := by rfl) : Ev T md (tTupRg tR) Γ ((o1 dRg mr).map D.tup) := fun Z F H σ ok d hd Q q => by
  obtain ⟨ds, e1, rfl⟩ := Option.map_eq_some_iff.mp hd
  obtain ⟨c, e2, e3⟩ := o1_inv e1
  refine h Z F H σ ok c e2 _ fun F2 H2 g => ?_
  unfold dRg at e3
  split at e3
  · rename_i hc
    cases e3
    refine ⟨⟨hc.1.1, hc.1.2, hc.2.1.1, hc.2.1.2, by have := hc.2.2; omega⟩, fun n hn => ?_⟩
    obtain ⟨F3, g3, e3⟩ := sel_new (Z := Z) hm g.i hn (.tup (rgV c.1 c.2))
    exact q _ F3 _ (g.trans g3) (rep_tup e3 (ranged_V _ _))
  · cases e3
theorem evo_lstRg (h : EvR T tR Γ mr) : EvO T (tLstRg tR) Γ ((o1 dRg mr).map D.lst) := fun Z F H σ ok d hd Q q => by
  obtain ⟨ds, e1, rfl⟩ := Option.map_eq_some_iff.mp hd
  obtain ⟨c, e2, e3⟩ := o1_inv e1
  refine h Z F H σ ok c e2 _ fun F2 H2 g => ?_
  unfold dRg at e3
  split at e3
  · rename_i hc
    cases e3
    refine ⟨⟨hc.1.1, hc.1.2, hc.2.1.1, hc.2.1.2, by have := hc.2.2; omega⟩, fun n hn => ?_⟩
    exact q n F2 _ (g.trans (Grow.lay g.i hn _)) (none_of_ex g.h hn) (none_of_ex g.i hn) (by simp only [OwnC]; exact ⟨_, upd_same, ranged_V _ _⟩)
  · cases e3
/-! ### isinstance -/
def tyN : D → Option String
  | .non => some "NoneType" | .bl _ => some "bool" | .int _ => some "int" | .str _ => some "str" | .lst _ => some "list" | .tup _ => some "tuple" | .dic _ _ => some "dict" | .dit _ _ => some "dict" | .obj _ _ _ => none | .scr _ => some "list"
def isB (a b : String) : Bool := a == b || (a == "bool" && b == "int")
theorem tyX_of {H : Hp} {d : D} {v : V} {a : String} (r : Rep T H d v) (h : tyN d = some a) : TyX T.K H v (.type a) := by
  cases d <;> simp only [tyN] at h <;> cases h
  · simp only [Rep] at r; subst r; exact .base .non
  · simp only [Rep] at r; subst r; exact .base (.bl _)
  · simp only [Rep] at r; subst r; exact .base (.int _)
  · simp only [Rep] at r; subst r; exact .base (.str _)
  · obtain ⟨p, vs, rfl, hp, rr⟩ := rep_lst_inv r; exact .base (.lst hp)
  · obtain ⟨p, vs, rfl, hp, rr⟩ := rep_tup_inv r; exact .base (.tup hp)
  · simp only [Rep] at r; obtain ⟨p, vs, rfl, hp, _⟩ := r; exact .base (.dK hp)
  · simp only [Rep] at r; obtain ⟨p, vs, rfl, hp, _⟩ := r; exact .base (.dT hp)
  · simp only [Rep] at r
    obtain ⟨p, rfl, hp⟩ := r
    rcases hp with (hp | ⟨o, hp⟩) | ⟨o, its, n, h1, h2, _⟩
    · exact .base (.lst hp)
    · exact .base (.frz hp)
    · exact .kList h1 h2
/-- the types that isinstance is asked of here -/
def known (b : String) : Bool := b == "int" || b == "bool" || b == "str" || b == "list" || b == "tuple" || b == "dict"
theorem kit_all {d : D} {a b : String} (h : tyN d = some a) (hb : known b = true) : PySem.W.kitOne T.K (.type a) (.type b) = some (isB a b) := by
  have ha : a = "NoneType" ∨ a = "bool" ∨ a = "int" ∨ a = "str" ∨ a = "list" ∨ a = "tuple" ∨ a = "dict" := by
    cases d <;> simp only [tyN] at h <;> cases h <;> simp
  have hb' : b = "int" ∨ b = "bool" ∨ b = "str" ∨ b = "list" ∨ b = "tuple" ∨ b = "dict" := by
    unfold known at hb
    simp only [Bool.or_eq_true, beq_iff_eq] at hb
    rcases hb with ((((h | h) | h) | h) | h) | h <;> simp [h]
  refine kit_ty ?_
  rcases ha with rfl | rfl | rfl | rfl | rfl | rfl | rfl <;> rcases hb' with rfl | rfl | rfl | rfl | rfl | rfl <;> decide +kernel
def dIsi (b : String) (d : D) : Option D := (tyN d).bind fun a => if known b = true then some (.bl (isB a b)) else none
def dIsi2 (b c : String) (d : D) : Option D := (tyN d).bind fun a => if known b = true ∧ known c = true then some (.bl (isB a b || isB a c)) else none
theorem ev_isi {n : String} (ha : Ev T .h ta Γ ma) : Ev T md (tCB (rIsi T.K) (tCons ta (tCons (tC (.ty n)) tNil))) Γ (o1 (dIsi n) ma) := fun Z F H σ ok c hd Q q => by
  obtain ⟨x, e1, e2⟩ := o1_inv hd
  obtain ⟨a, e3, e4⟩ := bind_inv (show (tyN x).bind _ = some c from e2)
  split at e4
  · rename_i hk
    cases e4
    refine ha Z F H σ ok x e1 _ fun v F2 H2 g r => ?_
    exact ⟨v, .ty n, _, _, _, rfl, .ty n, tyX_of r e3, kit_all e3 hk, q _ F2 H2 g (by simp only [Rep])⟩
  · cases e4
theorem ev_isi2 {n k : String} (ha : Ev T .h ta Γ ma) : Ev T md (tCB (rIsiT T.K) (tCons ta (tCons (tTup (tCons (tC (.ty n)) (tCons (tC (.ty k)) tNil))) tNil))) Γ (o1 (dIsi2 n k) ma) := fun Z F H σ ok c hd Q q => by
  obtain ⟨x, e1, e2⟩ := o1_inv hd
  obtain ⟨a, e3, e4⟩ := bind_inv (show (tyN x).bind _ = some c from e2)
  split at e4
  · rename_i hk
    cases e4
    refine ha Z F H σ ok x e1 _ fun v F2 H2 g r => ⟨by show 2 ≤ sizeLine; rw [line_eq]; decide, fun p hp => ?_⟩
    refine ⟨v, p, _, _, [.type n, .type k], (isB a n || isB a k), rfl, upd_same, .cons (.ty n) (.cons (.ty k) .nil), tyX_of (r.mono (Ex.new hp)) e3, ?_, q _ F2 _ (g.trans (Grow.lay g.i hp _)) (by simp only [Rep])⟩
    unfold PySem.W.kitAny
    rw [kit_all (T := T) e3 hk.1]
    cases h1 : isB a n with
    | true => rfl
    | false =>
      show PySem.W.kitAny T.K (.type a) [.type k] = _
      unfold PySem.W.kitAny
      rw [kit_all (T := T) e3 hk.2]
      cases h2 : isB a k <;> rfl
  · cases e4
/-- isinstance of an own class: what the written part says of it -/
structure ClsI (T : Th) (c : Str) : Prop where
  no : ∀ d a, tyN d = some a → PySem.W.kitOne T.K (.type a) (.ref (T.C c)) = some false
  cl : Cls T.K (T.C c)
  ha : PySem.W.findIn T.K (.ref (T.C c)) "__class__" = some (some (.builtin "object.__class__"))
  hn : PySem.W.specialIn T.K (.builtin "object.__class__") "__get__" = some (some (.builtin "getset_descriptor.__get__"))
  ht : PySem.W.takesIn T.K (.builtin "object.__class__") = some true
  hm : PySem.W.mroIn T.K (T.C c) (.type "object") = some true
def dIsiC (c : Str) (d : D) : Option D := match d with
  | .obj c' _ _ => if c' = c then some (.bl true) else none
  | d => (tyN d).map fun _ => .bl false
theorem ev_isiC {c : Str} (I : ClsI T c) (ha : Ev T .h ta Γ ma) : Ev T md (tCB (rIsi T.K) (tCons ta (tCons (tC (.ref (T.C c))) tNil))) Γ (o1 (dIsiC c) ma) := fun Z F H σ ok e hd Q q => by
  obtain ⟨x, e1, e2⟩ := o1_inv hd
  refine ha Z F H σ ok x e1 _ fun v F2 H2 g r => ?_
  have hx : (∃ ns ds, x = .obj c ns ds ∧ e = .bl true) ∨ ∃ a, tyN x = some a ∧ e = .bl false := by
    cases x <;> simp only [dIsiC, tyN] at e2 <;> first | (cases e2; exact .inr ⟨_, rfl, rfl⟩) | skip
    split at e2
    · rename_i h; subst h; cases e2; exact .inl ⟨_, _, rfl, rfl⟩
    · cases e2
  rcases hx with ⟨ns, ds, rfl, rfl⟩ | ⟨a, h1, rfl⟩
  · simp only [Rep] at r
    obtain ⟨p, dx, vs, rfl, hp, _⟩ := r
    refine ⟨_, .ref (T.C c), .ref (T.C c), .ref (T.C c), true, rfl, .own _, .base (.ins hp I.cl I.ha I.hn I.ht I.hm), ?_, q _ F2 H2 g (by simp only [Rep])⟩
    unfold PySem.W.kitOne
    rw [if_pos (by simp)]
  · exact ⟨v, .ref (T.C c), _, _, _, rfl, .own _, tyX_of r h1, I.no x a h1, q _ F2 H2 g (by simp only [Rep])⟩
/-! ### stores -/
def dApp : D → D → Option D
  | .lst ds, d => if ds.length < 16777216 then some (.lst (ds ++ [d])) else none
  | _, _ => none
@[simp] theorem dApp_lst (ds : List D) (d : D) : dApp (.lst ds) d = if ds.length < 16777216 then some (.lst (ds ++ [d])) else none := id rfl
/-- what an owned slot holds -/
def Slot.isOwnD : Slot → D → Prop
  | .own d, e => d = e
  | .mu d, e => d = e
  | _, _ => False
def Slot.put : Slot → D → Slot
  | .own _, e => .own e
  | .mu _, e => .mu e
  | s, _ => s
theorem own_slot {Z : Base} {F H : Hp} {σ : L2.St} {s : Slot} {d : D} (ok : Ok T Z Γ F H σ) (hs : Γ[i]? = some s) (ho : s.isOwnD d) : ∃ p, σ[i]? = some (some (.ref p)) ∧ F p = none ∧ OwnC T F H p d ∧
    ∀ d' o, OwnC T F (upd H p o) p d' → Ok T Z (Γ.set i (s.put d')) F (upd H p o) σ := by
  have h := ok.at' i s hs
  cases s <;> simp only [Slot.isOwnD] at ho
  · subst ho
    obtain ⟨p, a, b, c, e, f⟩ := h
    exact ⟨p, a, c, e, fun d' o hc => ok.chg hs rfl a (.inl ⟨rfl, _, rfl⟩) hc⟩
  · subst ho
    obtain ⟨p, a, a', b, c, e⟩ := h
    exact ⟨p, a, c, e, fun d' o hc => ok.chg hs rfl a (.inr ⟨rfl, _, rfl⟩) hc⟩
theorem tyV_lst {K : PySem.W.Frag} {H : Hp} {p : Addr} {xs : List V} (h : H p = some (.lst xs)) : tyV K "list" (.ref p) H := Or.inl ⟨rfl, _, Or.inl (Or.inl h)⟩
/-- xs.append(e) -/
theorem bp_app {s : Slot} {d : D} (hs : Γ[i]? = some s) (ho : s.isOwnD d) (he : Ev T .f te Γ me) : B T (tDrop (tBM T.K "list" rAppend (tVar i) (tCons te tNil))) Γ (me.bind fun e => dApp d e) (PP T fun d' => Γ.set i (s.put d')) := fun Z F H σ ok d' hd E p => by
  obtain ⟨e, e1, e2⟩ := bind_inv hd
  cases d <;> simp only [dApp] at e2 <;> try (cases e2; done)
  split at e2
  · rename_i hl
    cases e2
    obtain ⟨q, a, b, c, k⟩ := own_slot ok hs ho
    simp only [OwnC] at c
    obtain ⟨vs, c1, c2⟩ := c
    refine ⟨_, a, tyV_lst c1, he Z F H σ ok e e1 _ fun v F2 H2 g r => ?_⟩
    obtain ⟨q', a', b', c', k'⟩ := own_slot (ok.grow g) hs ho
    rw [a] at a'; cases a'
    simp only [OwnC] at c'
    obtain ⟨vs', c1', c2'⟩ := c'
    refine ⟨q, vs', v, rfl, rfl, c1', by rw [line_eq, ← c2'.len]; exact hl, p F2 _ σ (k' _ _ (by simp only [OwnC]; exact ⟨_, upd_same, c2'.app (Reps.one r)⟩))⟩
  · cases e2
/-- xs[i] = e, d[k] = e -/
def rDSet : V → V → V → Hp → (Hp → Prop) → Prop := fun o i v H Q => ∃ a H', o = .ref a ∧ DPut H a i v H' ∧ Q H'
def rSetA : V → V → V → Hp → (Hp → Prop) → Prop := fun o i v H Q => rSetL o i v H Q ∨ rDSet o i v H Q
theorem set_A {X : Cx} (hu : X.A.units + 64 < cLine) : PSet X rSetA := fun pins s σ H o i v ov iv u Q I ro ri rv h => by
  rcases h with h | ⟨a, H', rfl, g, q⟩
  · exact set_list pins s σ H o i v ov iv u Q I ro ri rv h
  · cases (show ov = Value.ref a from ro)
    exact d_setItem (by omega) I g ri rv fun s' I' => ⟨H', I', q⟩
def putKD {κ : Type} [DecidableEq κ] (ks : List κ) (ds : List D) (k : κ) (d : D) : List κ × List D :=
  match ks, ds with
  | a :: ks, e :: ds => if a = k then (a :: ks, d :: ds) else let r := putKD ks ds k d; (a :: r.1, e :: r.2)
  | _, _ => ([k], [d])
def dSet : D → D → D → Option D
  | .lst ds, .int i, e => (ixN ds.length i).map fun j => .lst (ds.set j e)
  | .dic ks ds, k, e => (keyOf k).bind fun k => if ks.length < 16777216 ∧ ks.length = ds.length ∧ ks.Nodup then some (.dic (putKD ks ds k e).1 (putKD ks ds k e).2) else none
  | .dit ks ds, .tup es, e => (keysOf es).bind fun k => if ks.length < 16777216 ∧ ks.length = ds.length ∧ ks.Nodup then some (.dit (putKD ks ds k e).1 (putKD ks ds k e).2) else none
  | _, _, _ => none
theorem putK_eq {κ : Type} [DecidableEq κ] {H : Hp} {k : κ} {d : D} {v : V} (r : Rep T H d v) : ∀ {ks : List κ} {ds : List D} {vs : List V}, ks.Nodup → ks.length = ds.length → Reps T H ds vs →
    ∃ vs', putK (ks.zip vs) k v = (putKD ks ds k d).1.zip vs' ∧ (putKD ks ds k d).1.length = vs'.length ∧ Reps T H (putKD ks ds k d).2 vs' ∧ ((putKD ks ds k d).1 = ks ∨ (k ∉ ks ∧ (putKD ks ds k d).1 = ks ++ [k]))
  | [], [], vs, hn, hl, rr => by
    simp only [Reps] at rr; subst rr
    exact ⟨[v], rfl, rfl, Reps.one r, .inr ⟨by simp, rfl⟩⟩
  | [], _ :: _, vs, hn, hl, rr => by cases hl
  | _ :: _, [], vs, hn, hl, rr => by cases hl
  | a :: ks, e :: ds, vs, hn, hl, rr => by
    obtain ⟨w, r', rfl, s, t⟩ := rr.uncons
    obtain ⟨hn1, hn2⟩ := List.nodup_cons.mp hn
    by_cases h : a = k
    · subst h
      have e1 : putKD (a :: ks) (e :: ds) a d = (a :: ks, d :: ds) := by simp [putKD]
      rw [e1]
      refine ⟨v :: r', ?_, by simpa [← t.len] using hl, Reps.cons r t, .inl rfl⟩
      have nz : ∀ x ∈ ks.zip r', ¬ x.1 = a := fun x hx q => hn1 (by rw [← q]; exact (List.of_mem_zip hx).1)
      unfold putK
      have hany : ((a :: ks).zip (w :: r')).any (fun kv => decide (kv.1 = a)) = true := by simp
      first
        | (rw [if_pos hany]
           show (List.map _ ((a, w) :: ks.zip r')) = _
           rw [List.map_cons]
           have hm : (ks.zip r').map (fun kv => if kv.1 = a then (kv.1, v) else kv) = ks.zip r' := by
             refine (List.map_congr_left fun x hx => ?_).trans (List.map_id _)
             rw [if_neg (nz x hx)]; rfl
           simp [hm])
        | skip
    · have ih := putK_eq (k := k) r hn2 (by simpa using hl) t
      obtain ⟨vs', i1, i2, i3, i4⟩ := ih
      have e1 : putKD (a :: ks) (e :: ds) k d = (a :: (putKD ks ds k d).1, e :: (putKD ks ds k d).2) := by simp [putKD, h]
      rw [e1]
      refine ⟨w :: vs', ?_, by simp [i2], Reps.cons s i3, ?_⟩
      · show putK ((a, w) :: ks.zip r') k v = (a, w) :: (putKD ks ds k d).1.zip vs'
        rw [← i1]
        unfold putK
        simp only [List.any_cons, h, decide_false, Bool.false_or, List.map_cons, if_false, List.cons_append]
        split <;> rfl
      · rcases i4 with i4 | ⟨i4, i5⟩
        · exact .inl (by rw [i4])
        · exact .inr ⟨by simp only [List.mem_cons, not_or]; exact ⟨fun q => h q.symm, i4⟩, by rw [i5]; rfl⟩
/-- xs[i] = e, d[k] = e, the owner a slot; the value is read first -/
theorem bp_put {s : Slot} {d : D} {ti : TE} {mi : Option D} (hs : Γ[i]? = some s) (ho : s.isOwnD d) (he : Ev T .f te Γ me) (hi : Ev T .f ti Γ mi) :
    B T (tAsg te (gSub (tVar i) ti rSetA)) Γ (me.bind fun e => mi.bind fun k => dSet d k e) (PP T fun d' => Γ.set i (s.put d')) := fun Z F H σ ok d' hd E p => by
  obtain ⟨e, e1, hd⟩ := bind_inv hd
  obtain ⟨k, e2, hd⟩ := bind_inv hd
  refine he Z F H σ ok e e1 _ fun v F2 H2 g r => ?_
  obtain ⟨q, a, _, _, _⟩ := own_slot ok hs ho
  refine ⟨_, a, hi Z F2 H2 σ (ok.grow g) k e2 _ fun w F3 H3 g3 r3 => ?_⟩
  have r := r.mono g3.f
  obtain ⟨q', a', b, c, kk⟩ := own_slot ((ok.grow g).grow g3) hs ho
  rw [a] at a'; cases a'
  cases d <;> simp only [dSet] at hd <;> try (cases hd; done)
  · cases k <;> simp only at hd <;> try (cases hd; done)
    obtain ⟨j, hj, rfl⟩ := Option.map_eq_some_iff.mp hd
    simp only [OwnC] at c
    obtain ⟨vs, c1, c2⟩ := c
    simp only [Rep] at r3; subst r3
    refine .inl ⟨q, vs, _, j, rfl, rfl, c1, by rw [← c2.len]; exact hj, p F3 _ σ (kk _ _ (by simp only [OwnC]; exact ⟨_, upd_same, c2.set j r⟩))⟩
  · obtain ⟨ky, hk, hd⟩ := bind_inv hd
    split at hd
    · rename_i hz
      cases hd
      have ew := keyOf_V r3 hk
      simp only [OwnC] at c
      obtain ⟨vs, c1, cl, c2⟩ := c
      obtain ⟨vs', z1, z2, z3, _⟩ := putK_eq r hz.2.2 hz.2.1 c2 (k := ky)
      refine .inr ⟨q, _, rfl, .inl ⟨_, ky, c1, ew, by rw [List.length_zip, cl, Nat.min_self, line_eq, ← cl]; exact hz.1, rfl⟩, p F3 _ σ (kk _ _ ?_)⟩
      simp only [OwnC]
      exact ⟨vs', by rw [upd_same, z1], z2, z3⟩
    · cases hd
  · cases k <;> simp only at hd <;> try (cases hd; done)
    rename_i es
    obtain ⟨ky, hk, hd⟩ := bind_inv hd
    split at hd
    · rename_i hz
      cases hd
      obtain ⟨pt, ws, rfl, hpt, rr⟩ := rep_tup_inv r3
      have ew := keysOf_V rr hk
      subst ew
      simp only [OwnC] at c
      obtain ⟨vs, c1, cl, c2⟩ := c
      obtain ⟨vs', z1, z2, z3, _⟩ := putK_eq r hz.2.2 hz.2.1 c2 (k := ky)
      refine .inr ⟨q, _, rfl, .inr ⟨_, ky, pt, c1, rfl, g3.i _ _ hpt, by rw [List.length_zip, cl, Nat.min_self, line_eq, ← cl]; exact hz.1, rfl⟩, p F3 _ σ (kk _ _ ?_)⟩
      simp only [OwnC]
      exact ⟨vs', by rw [upd_same, z1], z2, z3⟩
    · cases hd
/-- x = xs.pop() -/
def dPop : D → Option (D × D)
  | .lst ds => match ds.getLast? with
    | some d => some (d, .lst ds.dropLast)
    | none => none
  | _ => none
theorem bp_pop {s : Slot} {d : D} (hij : i ≠ j) (hs : Γ[i]? = some s) (ho : s.isOwnD d) : B T (tAsg (tBM0 T.K "list" rPop (tVar i)) (gName j)) Γ (dPop d) (PP T fun c => (Γ.set i (s.put c.2)).set j (.val c.1)) := fun Z F H σ ok c' hd E p => by
  cases d <;> simp only [dPop] at hd <;> try (cases hd; done)
  rename_i ds
  split at hd
  · rename_i dl hl
    cases hd
    obtain ⟨q, a, b, c, k⟩ := own_slot ok hs ho
    simp only [OwnC] at c
    obtain ⟨vs, c1, c2⟩ := c
    have hl' : ds[ds.length - 1]? = some dl := by rw [← List.getLast?_eq_getElem?]; exact hl
    obtain ⟨v, hv, rv⟩ := c2.get hl'
    rw [c2.len] at hv
    refine ⟨_, a, tyV_lst c1, q, vs, v, rfl, rfl, c1, hv, p F _ _ ?_⟩
    have ok2 := k (.lst ds.dropLast) (.lst vs.dropLast) (by
      simp only [OwnC]
      refine ⟨_, upd_same, ?_⟩
      rw [List.dropLast_eq_take, List.dropLast_eq_take, c2.len]
      exact c2.take _)
    exact ok2.setVal rv
  · cases hd
/-- xs.sort() of ints, xs.reverse() -/
def dSortL : D → Option D
  | .lst ds => (asInts ds).map fun ns => .lst ((sortI ns).map D.int)
  | _ => none
theorem bp_sort {s : Slot} {d : D} (hs : Γ[i]? = some s) (ho : s.isOwnD d) : B T (tDrop (tBM0 T.K "list" rSortI (tVar i))) Γ (dSortL d) (PP T fun d' => Γ.set i (s.put d')) := fun Z F H σ ok c' hd E p => by
  cases d <;> simp only [dSortL] at hd <;> try (cases hd; done)
  obtain ⟨ns, e1, rfl⟩ := Option.map_eq_some_iff.mp hd
  obtain ⟨q, a, b, c, k⟩ := own_slot ok hs ho
  simp only [OwnC] at c
  obtain ⟨vs, c1, c2⟩ := c
  rw [asInts_inv e1] at c2
  have hv := c2.ints
  subst hv
  refine ⟨_, a, tyV_lst c1, q, ns, rfl, rfl, c1, fun ns' h1 h2 => p F _ σ (k _ _ ?_)⟩
  rw [sortI_of h1 h2]
  simp only [OwnC]
  exact ⟨_, upd_same, Reps.of_ints _⟩
theorem reps_rev {H : Hp} : ∀ {ds : List D} {vs : List V}, Reps T H ds vs → Reps T H ds.reverse vs.reverse
  | [], vs, h => by simp only [Reps] at h; subst h; exact Reps.nil
  | d :: ds, vs, h => by
    obtain ⟨w, r, rfl, s, t⟩ := h.uncons
    rw [List.reverse_cons, List.reverse_cons]
    exact (reps_rev t).app (Reps.one s)
def dRevL : D → Option D
  | .lst ds => some (.lst ds.reverse)
  | _ => none
theorem bp_rev {s : Slot} {d : D} (hs : Γ[i]? = some s) (ho : s.isOwnD d) : B T (tDrop (tBM0 T.K "list" rReverse (tVar i))) Γ (dRevL d) (PP T fun d' => Γ.set i (s.put d')) := fun Z F H σ ok c' hd E p => by
  cases d <;> simp only [dRevL] at hd <;> try (cases hd; done)
  cases hd
  obtain ⟨q, a, b, c, k⟩ := own_slot ok hs ho
  simp only [OwnC] at c
  obtain ⟨vs, c1, c2⟩ := c
  exact ⟨_, a, tyV_lst c1, q, vs, rfl, rfl, c1, p F _ σ (k _ _ (by simp only [OwnC]; exact ⟨_, upd_same, reps_rev c2⟩))⟩
/-- {} -/
theorem evo_dict : EvO T tDNewK Γ (some (.dic [] [])) := fun Z F H σ ok d hd Q q => by
  cases hd
  exact fun n hn => q n F _ (Grow.lay ok.hv.f hn _) hn (none_of_ex ok.hv.f hn) (by simp only [OwnC]; exact ⟨[], upd_same, rfl, Reps.nil⟩)
theorem evo_dictT : EvO T tDNewT Γ (some (.dit [] [])) := fun Z F H σ ok d hd Q q => by
  cases hd
  exact fun n hn => q n F _ (Grow.lay ok.hv.f hn _) hn (none_of_ex ok.hv.f hn) (by simp only [OwnC]; exact ⟨[], upd_same, rfl, Reps.nil⟩)
/-- x += e, x a name that holds an int -/
def dAddI : D → D → Option D
  | .int a, .int b => some (.int (a + b))
  | _, _ => none
theorem bp_aug {f : Int → Int → Int} {h : D → D → Option D} {ma : Option D} (hh : ∀ d e c, h d e = some c → ∃ a b, d = .int a ∧ e = .int b ∧ c = .int (f a b)) (ha : Ev T .h (tVar i) Γ ma) (he : Ev T .h te Γ me) :
    B T (tAug i te (ipI f)) Γ (o2 h ma me) (PP T fun d => Γ.set i (.val d)) := fun Z F H σ ok d hd E p => by
  obtain ⟨x, y, e1, e2, e3⟩ := o2_inv hd
  obtain ⟨a, b, rfl, rfl, rfl⟩ := hh _ _ _ e3
  have h1 := ha Z F H σ ok _ e1 (fun v H' => v = .int a ∧ H' = H ∨ True) (fun v F2 H2 g r => .inr trivial)
  obtain ⟨v, hv, _⟩ := h1
  have h2 := ha Z F H σ ok _ e1 (fun v H' => v = .int a) (fun v F2 H2 g r => by simpa only [Rep] using r)
  obtain ⟨v', hv', hv2⟩ := h2
  subst hv2
  refine ⟨_, hv', he Z F H σ ok _ e2 _ fun w F2 H2 g r => ?_⟩
  simp only [Rep] at r
  subst r
  exact ⟨a, b, rfl, rfl, p F2 H2 _ ((ok.grow g).setVal (by simp only [Rep]))⟩
theorem bp_augAdd {ma : Option D} (ha : Ev T .h (tVar i) Γ ma) (he : Ev T .h te Γ me) : B T (tAug i te (ipI fun i j => i + j)) Γ (o2 dAddI ma me) (PP T fun d => Γ.set i (.val d)) :=
  bp_aug (fun d e c h => by cases d <;> cases e <;> simp only [dAddI] at h <;> first | (cases h; exact ⟨_, _, rfl, rfl, rfl⟩) | cases h) ha he
theorem bp_augSub {ma : Option D} (ha : Ev T .h (tVar i) Γ ma) (he : Ev T .h te Γ me) : B T (tAug i te (ipI fun i j => i - j)) Γ (o2 dSub ma me) (PP T fun d => Γ.set i (.val d)) :=
  bp_aug (fun d e c h => by cases d <;> cases e <;> simp only [dSub] at h <;> first | (cases h; exact ⟨_, _, rfl, rfl, rfl⟩) | cases h) ha he
/-- xs[i] += e -/
def getIx (K : PySem.W.Frag) : V → V → Hp → VK → Prop := rIxA K
end
end Mi
/-! comprehensions, xs[i] += e -/
namespace Mi
open PySem L2
open PyProof.Rows
open Evl (Ex ex_t ex_l ex_rd fresh_back)
/-- all that is owned is only read -/
def Slot.frz : Slot → Slot
  | .own d => .bor d
  | .mu d => .bor d
  | s => s
def frz (Γ : Ctx) : Ctx := Γ.map Slot.frz
def noAt (Γ : Ctx) (vs : List Nat) : Bool := vs.all fun v => match Γ[v]? with | some .no => true | none => true | _ => false
section
variable {T : Th} {Z : Base} {Γ : Ctx} {F H F' H' : Hp} {σ : L2.St} {vs : List Nat}
theorem noAt_at (h : noAt Γ vs = true) {i : Nat} {s : Slot} (e : Γ[i]? = some s) (hi : i ∈ vs) : s = .no := by
  have := List.all_eq_true.mp h i hi
  rw [e] at this
  cases s <;> simp at this; rfl
theorem Ok.frzd (ok : Ok T Z Γ F H σ) (hw : noAt Γ vs = true) : Ok T ⟨H, F, H, fun _ => 0⟩ (frz Γ) F H (wipe σ vs) := by
  have hget : ∀ (i : Nat) (s : Slot), (frz Γ)[i]? = some s → ∃ s', Γ[i]? = some s' ∧ s = s'.frz := fun i s e => by
    unfold frz at e
    rw [List.getElem?_map] at e
    obtain ⟨s', h1, h2⟩ := Option.map_eq_some_iff.mp e
    exact ⟨s', h1, h2.symm⟩
  refine ⟨⟨Ex.refl H, Ex.refl F, ok.hv.f, fun _ q => q, fun a q => .inl q⟩, by unfold frz; rw [List.length_map, wipe_length]; exact ok.len, fun i s e => ?_, fun i j p s t e1 o1 => ?_⟩
  · obtain ⟨s', h1, rfl⟩ := hget i s e
    by_cases hi : i ∈ vs
    · have := noAt_at hw h1 hi
      subst this
      trivial
    · rw [wipe_out hi]
      have old := ok.at' i s' h1
      cases s' <;> simp only [Slot.frz, SlotOk] at old ⊢
      · exact old
      · obtain ⟨v, a, b⟩ := old; exact ⟨v, a, b.mono ok.hv.b⟩
      · obtain ⟨p, a, b, c, d, _⟩ := old; exact ⟨_, a, d.rep ok.hv.f⟩
      · obtain ⟨p, a, a', b, c, d⟩ := old; exact ⟨_, a, d.rep ok.hv.f⟩
  · obtain ⟨s', h1, rfl⟩ := hget i s e1
    cases s' <;> cases o1
theorem Ok.frzs (ok : Ok T Z Γ F H σ) : Ok T ⟨H, F, H, fun _ => 0⟩ (frz Γ) F H σ := by
  have := ok.frzd (vs := []) rfl
  exact this
theorem frz_own {s : Slot} {i : Nat} (h : (frz Γ)[i]? = some s) : s.isOwn = false := by
  unfold frz at h
  rw [List.getElem?_map] at h
  obtain ⟨s', _, rfl⟩ := Option.map_eq_some_iff.mp h
  cases s' <;> rfl
theorem Ok.ofHv (ok : Ok T Z (frz Γ) F H σ) (hz : Z.F = F) (hv : Hv Z F' H') : Ok T Z (frz Γ) F' H' σ := by
  subst hz
  refine ⟨hv, ok.len, fun i s e => ?_, fun i j p s t e1 o1 => ?_⟩
  · have old := ok.at' i s e
    have no := frz_own e
    cases s <;> simp only [SlotOk, Slot.isOwn] at old no ⊢ <;> first | exact old | (cases no; done) | skip
    obtain ⟨v, a, b⟩ := old; exact ⟨v, a, b.mono hv.f0⟩
  · have no := frz_own e1
    rw [no] at o1; cases o1
end
/-- a target stores the block's own names alone -/
def Tin (g : TG) (vs : List Nat) : Prop := ∀ x σ0 σ H (Q Q' : L2.St → Hp → Prop), wipe σ vs = wipe σ0 vs → (∀ σ2 H2, wipe σ2 vs = wipe σ0 vs → Q σ2 H2 → Q' σ2 H2) → g x σ H Q → g x σ H Q'
def Tins (g : TGs) (vs : List Nat) : Prop := ∀ xs σ0 σ H (Q Q' : L2.St → Hp → Prop), wipe σ vs = wipe σ0 vs → (∀ σ2 H2, wipe σ2 vs = wipe σ0 vs → Q σ2 H2 → Q' σ2 H2) → g xs σ H Q → g xs σ H Q'
theorem wipe_set_out {σ : L2.St} {j : Nat} {x : Option V} : ∀ {vs : List Nat}, j ∉ vs → wipe (σ.set j x) vs = (wipe σ vs).set j x
  | [], _ => rfl
  | v :: vs, h => by
    have h1 : v ≠ j := fun e => h (by rw [e]; exact List.mem_cons_self)
    have h2 : j ∉ vs := fun m => h (List.mem_cons_of_mem _ m)
    unfold wipe
    rw [wipe_set_out h2, List.set_comm _ _ h1.symm]
theorem wipe_set {σ : L2.St} {j : Nat} {x : Option V} : ∀ {vs : List Nat}, j ∈ vs → wipe (σ.set j x) vs = wipe σ vs
  | [], h => by cases h
  | v :: vs, h => by
    unfold wipe
    by_cases h2 : j ∈ vs
    · rw [wipe_set h2]
    · rcases List.mem_cons.mp h with e | h
      · subst e
        rw [wipe_set_out h2, List.set_set]
      · exact absurd h h2
theorem tin_name {j : Nat} {vs : List Nat} (h : j ∈ vs) : Tin (gName j) vs := fun x σ0 σ H Q Q' e k q => k _ _ (by rw [wipe_set h]; exact e) q
theorem tins_nil {vs : List Nat} : Tins gNil vs := fun xs σ0 σ H Q Q' e k q => ⟨q.1, k _ _ e q.2⟩
theorem tins_cons {g : TG} {u : TGs} {vs : List Nat} (hg : Tin g vs) (hu : Tins u vs) : Tins (gCons g u) vs := fun xs σ0 σ H Q Q' e k q => by
  obtain ⟨v, r, rfl, q⟩ := q
  exact ⟨v, r, rfl, hg v σ0 σ H _ _ e (fun σ2 H2 e2 z => hu r σ0 σ2 H2 Q Q' e2 k z) q⟩
theorem tin_tup {K : PySem.W.Frag} {n : Nat} {u : TGs} {vs : List Nat} (hu : Tins u vs) : Tin (gTup K n u) vs := fun x σ0 σ H Q Q' e k q => by
  obtain ⟨a, xs, h1, h2, h3, q⟩ := q
  exact ⟨a, xs, h1, h2, h3, hu xs σ0 σ H Q Q' e k q⟩
/-- the element behind its tests, as a block -/
def tCE (tt : TT) (te : TE) : TS := fun E σ H => tt σ H fun b H3 => if b = true then te σ H3 E.rt else E.nx σ H3
abbrev PC (T : Th) : Base → Ends → Option D → Prop := fun Z E o => match o with
  | some d => ∀ v F H, Hv Z F H → Rep T F d v → E.rt v H
  | none => ∀ F H σ, Hv Z F H → E.nx σ H
def optC : Option D → List D → List D
  | some e, r => e :: r
  | none, r => r
@[simp] theorem optC_s (e : D) (r : List D) : optC (some e) r = e :: r := id rfl
@[simp] theorem optC_n (r : List D) : optC none r = r := id rfl
def compO {ι : Type} (f : ι → Option (Option D)) : List ι → Option (List D)
  | [] => some []
  | d :: ds => (f d).bind fun o => (compO f ds).map fun r => optC o r
theorem compO_cons {ι : Type} (f : ι → Option (Option D)) (d : ι) (ds : List ι) : compO f (d :: ds) = (f d).bind fun o => (compO f ds).map fun r => optC o r := rfl
@[simp] theorem compO_nil {ι : Type} (f : ι → Option (Option D)) : compO f [] = some [] := id rfl
def dComp {ι : Type} (f : ι → Option (Option D)) (ds : List ι) : Option D := if ds.length ≤ 16777216 then (compO f ds).map D.lst else none
section
variable {T : Th} {Γ : Ctx} {md ma mb : Md} {te : TE} {tt : TT} {me : Option D} {mc : Option Bool} {wi : TI} {g : TG} {vs : List Nat}
theorem ce_if (hc : EvT T tt Γ mc) (he : Ev T .f te Γ me) : B T (tCE tt te) Γ (mc.bind fun c => if c = true then me.map some else some none) (PC T) := fun Z F H σ ok o ho E p => by
  obtain ⟨c, e1, e2⟩ := bind_inv ho
  refine hc Z F H σ ok c e1 _ fun F2 H2 g => ?_
  cases c with
  | true =>
    obtain ⟨d, e3, rfl⟩ := Option.map_eq_some_iff.mp (show me.map some = some o from e2)
    exact he Z F2 H2 σ (ok.grow g) d e3 _ fun v F3 H3 g' r => p v F3 H3 ((ok.hv.grow g).grow g') r
  | false =>
    cases e2
    exact p F2 H2 σ (ok.hv.grow g)
theorem ce_all (he : Ev T .f te Γ me) : B T (tCE tYes te) Γ (me.map some) (PC T) := fun Z F H σ ok o ho E p => by
  obtain ⟨d, e3, rfl⟩ := Option.map_eq_some_iff.mp ho
  exact he Z F H σ ok d e3 _ fun v F3 H3 g' r => p v F3 H3 (ok.hv.grow g') r
theorem Ok.reb {F0 H0 F H : Hp} {σ : L2.St} (ok : Ok T ⟨H0, F0, H0, fun _ => 0⟩ (frz Γ) F0 H0 σ) (ef : Ex F0 F) (ei : Ex F H) (eh : Ex H0 H) : Ok T ⟨H, F, H, fun _ => 0⟩ (frz Γ) F H σ := by
  refine ⟨⟨Ex.refl H, Ex.refl F, ei, fun _ q => q, fun a q => .inl q⟩, ok.len, fun i s e => ?_, fun i j p s t e1 o1 => ?_⟩
  · have old := ok.at' i s e
    have no := frz_own e
    cases s <;> simp only [SlotOk, Slot.isOwn] at old no ⊢ <;> first | (cases no; done) | skip
    · obtain ⟨v, a, b⟩ := old; exact ⟨v, a, b.mono ef⟩
    · obtain ⟨v, a, b⟩ := old; exact ⟨v, a, b.mono eh⟩
  · have no := frz_own e1
    rw [no] at o1; cases o1
/-- the engine of both comprehensions -/
theorem comp_go {ι : Type} {f : ι → Option (Option D)} {J : It} {ds : List ι} {F0 H0 : Hp} {σ : L2.St} {Q : VK} (hg : Tin g vs)
    (ok : Ok T ⟨H0, F0, H0, fun _ => 0⟩ (frz Γ) F0 H0 (wipe σ vs)) {F1 H1 : Hp} (gr : Grow F0 F1 H0 H1) {L : Addr} (hL : H1 L = none)
    (go : ∀ i F H, i < ds.length → Ex F1 F → Ex F H → Ex H0 H → J.go i H) (stop : ∀ F H, Ex F1 F → Ex F H → Ex H0 H → J.stop ds.length H)
    (turn : ∀ (i : Nat) F H d, ds[i]? = some d → Ex F1 F → Ex F H → Ex H0 H → ∀ x H', J.yld i H x H' → ∃ F', Grow F F' H H' ∧ (∀ o, f d = some o → ∀ E' : Ends, PC T ⟨H', F', H', fun _ => 0⟩ E' o → ∀ Q' : L2.St → Hp → Prop, (∀ σ2 H2, tCE tt te E' σ2 H2 → Q' σ2 H2) → g x (wipe σ vs) H' Q'))
    (hz : ds.length ≤ 16777216) {total : List D} (ht : compO f ds = some total) (q : ∀ p F2 H2, Grow F0 F2 H0 H2 → H0 p = none → F2 p = none → OwnC T F2 H2 p (.lst total) → Q (.ref p) H2) :
    ∃ W : Nat → Nat → Hp → Prop, (∃ m, W 0 m (upd H1 L (.lst []))) ∧ ∀ i m H, W i m H →
      (J.stop i H ∧ Q (.ref L) H) ∨ (J.go i H ∧ ∃ Nx : Hp → Prop, (∀ H', Nx H' → ∃ m', m' < m ∧ W (i + 1) m' H') ∧ ∀ x H', J.yld i H x H' → g x (wipe σ vs) H' fun σ2 H2 => wipe σ2 vs = wipe σ vs ∧ tt σ2 H2 fun b H3 =>
        if b = true then te σ2 H3 fun y H4 => ∃ acc, H4 L = some (.lst acc) ∧ acc.length < sizeLine ∧ Nx (upd H4 L (.lst (acc ++ [y]))) else Nx H3) := by
  have hL0 : H0 L = none := none_of_ex gr.h hL
  have ww : wipe (wipe σ vs) vs = wipe σ vs := by
    have : ∀ (us : List Nat) (τ : L2.St), (∀ u ∈ us, u ∈ vs) → wipe (wipe τ us) vs = wipe τ vs := by
      intro us
      induction us with
      | nil => intro τ _; rfl
      | cons u us ih =>
        intro τ h
        show wipe ((wipe τ us).set u none) vs = _
        rw [wipe_set (h u (List.mem_cons_self ..)), ih τ fun x hx => h x (List.mem_cons_of_mem _ hx)]
    exact this vs σ fun _ h => h
  refine ⟨fun i m H => m = ds.length - i ∧ i ≤ ds.length ∧ ∃ F acc dacc rest, Ex F1 F ∧ Ex F H ∧ Ex H0 H ∧ (∀ a, F a ≠ none → F0 a ≠ none ∨ H0 a = none) ∧ H L = some (.lst acc) ∧ F L = none ∧ Reps T F dacc acc ∧ dacc.length ≤ i ∧ compO f (ds.drop i) = some rest ∧ total = dacc ++ rest,
    ⟨ds.length, by simp, Nat.zero_le _, F1, [], [], total, Ex.refl F1, gr.i.trans (Ex.new hL), gr.h.trans (Ex.new hL), gr.new, upd_same, none_of_ex gr.i hL, Reps.nil, Nat.le_refl _, by simpa using ht, by simp⟩, ?_⟩
  rintro i m H ⟨rfl, hi, F, acc, dacc, rest, e1, e2, e3, e4, e5, e6, e7, e8, e9, e10⟩
  by_cases hlt : i < ds.length
  · refine .inr ⟨go i F H hlt e1 e2 e3, fun H' => ∃ F' acc dacc rest, Ex F1 F' ∧ Ex F' H' ∧ Ex H0 H' ∧ (∀ a, F' a ≠ none → F0 a ≠ none ∨ H0 a = none) ∧ H' L = some (.lst acc) ∧ F' L = none ∧ Reps T F' dacc acc ∧ dacc.length ≤ i + 1 ∧ compO f (ds.drop (i + 1)) = some rest ∧ total = dacc ++ rest,
      fun H' h => ⟨ds.length - (i + 1), by omega, rfl, hlt, h⟩, fun x H' y => ?_⟩
    have hd : ds.drop i = ds[i] :: ds.drop (i + 1) := List.drop_eq_getElem_cons hlt
    rw [hd, compO_cons] at e9
    obtain ⟨o, f1, f2⟩ := bind_inv e9
    obtain ⟨rest', f3, rfl⟩ := Option.map_eq_some_iff.mp f2
    obtain ⟨F', gr', tn⟩ := turn i F H ds[i] (by simp [hlt]) e1 e2 e3 x H' y
    have hL' : H' L = some (.lst acc) := gr'.h _ _ e5
    have hF' : F' L = none := by
      cases q : F' L with
      | none => rfl
      | some u =>
        rcases gr'.new L (by rw [q]; simp) with z | z
        · exact absurd e6 z
        · rw [e5] at z; cases z
    have new' : ∀ a, F' a ≠ none → F0 a ≠ none ∨ H0 a = none := fun a h => by
      rcases gr'.new a h with z | z
      · exact e4 a z
      · exact .inr (none_of_ex e3 z)
    refine hg x σ (wipe σ vs) H' (fun σ2 H2 => tt σ2 H2 fun b H3 => if b = true then te σ2 H3 fun y H4 => ∃ acc, H4 L = some (.lst acc) ∧ acc.length < sizeLine ∧ (∃ F' acc' dacc rest, Ex F1 F' ∧ Ex F' (upd H4 L (.lst (acc ++ [y]))) ∧ Ex H0 (upd H4 L (.lst (acc ++ [y]))) ∧ (∀ a, F' a ≠ none → F0 a ≠ none ∨ H0 a = none) ∧ upd H4 L (.lst (acc ++ [y])) L = some (.lst acc') ∧ F' L = none ∧ Reps T F' dacc acc' ∧ dacc.length ≤ i + 1 ∧ compO f (ds.drop (i + 1)) = some rest ∧ total = dacc ++ rest)
        else ∃ F' acc dacc rest, Ex F1 F' ∧ Ex F' H3 ∧ Ex H0 H3 ∧ (∀ a, F' a ≠ none → F0 a ≠ none ∨ H0 a = none) ∧ H3 L = some (.lst acc) ∧ F' L = none ∧ Reps T F' dacc acc ∧ dacc.length ≤ i + 1 ∧ compO f (ds.drop (i + 1)) = some rest ∧ total = dacc ++ rest) _ ww (fun σ2 H2 z1 z2 => ⟨z1, z2⟩) ?_
    refine tn o f1 { nx := fun _ H3 => ∃ F' acc dacc rest, Ex F1 F' ∧ Ex F' H3 ∧ Ex H0 H3 ∧ (∀ a, F' a ≠ none → F0 a ≠ none ∨ H0 a = none) ∧ H3 L = some (.lst acc) ∧ F' L = none ∧ Reps T F' dacc acc ∧ dacc.length ≤ i + 1 ∧ compO f (ds.drop (i + 1)) = some rest ∧ total = dacc ++ rest, rt := fun y H4 => ∃ acc, H4 L = some (.lst acc) ∧ acc.length < sizeLine ∧ (∃ F' acc' dacc rest, Ex F1 F' ∧ Ex F' (upd H4 L (.lst (acc ++ [y]))) ∧ Ex H0 (upd H4 L (.lst (acc ++ [y]))) ∧ (∀ a, F' a ≠ none → F0 a ≠ none ∨ H0 a = none) ∧ upd H4 L (.lst (acc ++ [y])) L = some (.lst acc') ∧ F' L = none ∧ Reps T F' dacc acc' ∧ dacc.length ≤ i + 1 ∧ compO f (ds.drop (i + 1)) = some rest ∧ total = dacc ++ rest) } ?_ _ (fun σ2 H2 z => z)
    have e7' := e7.mono gr'.f
    have fin : ∀ {F4 H4 : Hp}, Hv ⟨H', F', H', fun _ => 0⟩ F4 H4 → Ex F1 F4 ∧ Ex F4 H4 ∧ Ex H0 H4 ∧ (∀ a, F4 a ≠ none → F0 a ≠ none ∨ H0 a = none) ∧ H4 L = some (.lst acc) ∧ F4 L = none := fun {F4 H4} hv => by
      refine ⟨(e1.trans gr'.f).trans hv.f0, hv.f, (e3.trans gr'.h).trans hv.b, fun a h => ?_, hv.b _ _ hL', ?_⟩
      · rcases hv.new a h with z | z
        · exact new' a z
        · exact .inr (none_of_ex (e3.trans gr'.h) z)
      · cases q : F4 L with
        | none => rfl
        | some u =>
          rcases hv.new L (by rw [q]; simp) with z | z
          · exact absurd hF' z
          · have z' : H' L = none := z
            rw [hL'] at z'; cases z'
    cases o with
    | none =>
      intro F4 H4 σ4 hv
      obtain ⟨k1, k2, k3, k4, k5, k6⟩ := fin hv
      exact ⟨F4, acc, dacc, rest', k1, k2, k3, k4, k5, k6, e7'.mono hv.f0, Nat.le_succ_of_le e8, f3, by rw [e10]; rfl⟩
    | some d =>
      intro v F4 H4 hv rv
      obtain ⟨k1, k2, k3, k4, k5, k6⟩ := fin hv
      refine ⟨acc, k5, by rw [line_eq, ← e7.len]; omega, F4, acc ++ [v], dacc ++ [d], rest', k1, fun a u h => ?_, fun a u h => ?_, k4, upd_same, k6, (e7'.mono hv.f0).app (Reps.one rv), by simp; exact e8, f3, by rw [e10]; simp⟩
      · rw [upd_ne (ne_of_none h k6)]; exact k2 a u h
      · rw [upd_ne (ne_of_none h hL0)]; exact k3 a u h
  · have e : i = ds.length := by omega
    subst e
    rw [List.drop_length] at e9
    cases e9
    refine .inl ⟨stop F H e1 e2 e3, q L F H ⟨gr.f.trans e1, e2, e3, e4⟩ hL0 e6 ?_⟩
    simp only [OwnC]
    exact ⟨acc, e5, by rw [e10]; simpa using e7⟩
theorem evo_comp {f : D → Option (Option D)} {mi : Option (List D)} (hw : noAt Γ vs = true) (hg : Tin g vs) (hi : EvI T wi (frz Γ) md mi) (hb : ∀ d, Bg T g (tCE tt te) (frz Γ) md d (f d) (PC T)) : EvO T (tLc wi g tt te vs) Γ (mi.bind fun ds => dComp f ds) := fun Z F H σ ok d hd Q q => by
  obtain ⟨ds, e1, e2⟩ := bind_inv hd
  unfold dComp at e2
  split at e2
  · rename_i hz
    obtain ⟨total, ht, rfl⟩ := Option.map_eq_some_iff.mp e2
    have okz := ok.frzd hw
    -- the source is read with the block's slots forgotten or not alike
    have oks : Ok T ⟨H, F, H, fun _ => 0⟩ (frz Γ) F H σ := ok.frzs
    refine hi ⟨H, F, H, fun _ => 0⟩ F H σ oks ds e1 _ fun J F1 H1 gr wk => ?_
    intro L hL
    exact comp_go hg okz gr hL wk.go wk.stop (fun i F3 H3 d hd e1 e2 e3 x H4 y => by
      have hi : i < ds.length := (List.getElem?_eq_some_iff.mp hd).1
      obtain ⟨F4, g4, r4⟩ := wk.yld i F3 H3 x H4 hi e1 e2 e3 y
      refine ⟨F4, g4, fun o ho E' pc Q' qq => ?_⟩
      have okr := okz.reb ((gr.f.trans e1).trans g4.f) g4.i (e3.trans g4.h)
      refine hb d ⟨H4, F4, H4, fun _ => 0⟩ F4 H4 _ x okr ?_ o ho E' pc Q' qq
      have r5 := r4 d hd
      cases md with
      | f => exact r5
      | b => exact Rep.mono (e3.trans g4.h) r5
      | h => exact r5) hz ht q
  · cases e2
theorem evo_comp2 {f : D × D → Option (Option D)} {mi : Option (List (D × D))} (hw : noAt Γ vs = true) (hg : Tin g vs) (hi : EvI2 T wi (frz Γ) ma mb mi) (hb : ∀ d e, Bg2 T g (tCE tt te) (frz Γ) ma mb d e (f (d, e)) (PC T)) : EvO T (tLc wi g tt te vs) Γ (mi.bind fun ds => dComp f ds) := fun Z F H σ ok d hd Q q => by
  obtain ⟨ds, e1, e2⟩ := bind_inv hd
  unfold dComp at e2
  split at e2
  · rename_i hz
    obtain ⟨total, ht, rfl⟩ := Option.map_eq_some_iff.mp e2
    have okz := ok.frzd hw
    have oks : Ok T ⟨H, F, H, fun _ => 0⟩ (frz Γ) F H σ := ok.frzs
    refine hi ⟨H, F, H, fun _ => 0⟩ F H σ oks ds e1 _ fun J F1 H1 gr wk => ?_
    intro L hL
    exact comp_go hg okz gr hL wk.go wk.stop (fun i F3 H3 d hd e1 e2 e3 x H4 y => by
      have hi : i < ds.length := (List.getElem?_eq_some_iff.mp hd).1
      obtain ⟨F4, g4, p, v, w, rfl, hq, r4⟩ := wk.yld i F3 H3 x H4 hi e1 e2 e3 y
      refine ⟨F4, g4, fun o ho E' pc Q' qq => ?_⟩
      have okr := okz.reb ((gr.f.trans e1).trans g4.f) g4.i (e3.trans g4.h)
      obtain ⟨r5, r6⟩ := r4 d hd
      refine hb d.1 d.2 ⟨H4, F4, H4, fun _ => 0⟩ F4 H4 _ p v w okr hq ?_ ?_ o ho E' pc Q' qq
      · cases ma with
        | f => exact r5
        | b => exact Rep.mono (e3.trans g4.h) r5
        | h => exact r5
      · cases mb with
        | f => exact r6
        | b => exact Rep.mono (e3.trans g4.h) r6
        | h => exact r6) hz ht q
  · cases e2
end
end Mi
/-! defs, their promises, their calls; instances -/
namespace Mi
open PySem L2
open PyProof.Rows
open Evl (Ex ex_t ex_l ex_rd fresh_back)
/-! ### the ends of a def's body -/
/-- a def that changes nothing: what it hands back -/
abbrev PD (T : Th) : Base → Ends → D → Prop := fun Z E d => ∀ v F H, RetOk T Z d [] v F H → E.rt v H
/-- the same where the body may run to its end -/
abbrev PN (T : Th) : Base → Ends → D → Prop := fun Z E d => PD T Z E d ∧ (d = .non → ∀ F H σ, Hv Z F H → E.nx σ H)
/-- a def that changes parameters: what they hold behind it -/
abbrev UR := D × List (Nat × D)
abbrev PU (T : Th) : Base → Ends → UR → Prop := fun Z E o => ∀ v F H, RetOk T Z o.1 o.2 v F H → E.rt v H
abbrev PV (T : Th) : Base → Ends → UR → Prop := fun Z E o => PU T Z E o ∧ (o.1 = .non → ∀ v F H σ, RetOk T Z o.1 o.2 v F H → E.nx σ H)
section
variable {ω α β γ : Type} {T : Th} {Γ Γ' : Ctx} {md : Md} {te ta tb : TE} {tc : TT} {t u v : TS} {me : Option D} {mc : Option Bool} {i j : Nat}
theorem RetOk.less {Z : Base} {d : D} {ms ms' : List (Nat × D)} {v : V} {F H : Hp} (r : RetOk T Z d ms v F H) (h : ∀ x ∈ ms', x ∈ ms) : RetOk T Z d ms' v F H := ⟨r.hv, r.rep, fun x hx => r.mus x (h x hx)⟩
theorem bd_ret (h : Ev T .f te Γ me) : B T (tRet te) Γ me (PD T) := fun Z F H σ ok d hd E p =>
  h Z F H σ ok d hd _ fun v F2 H2 g r => p v F2 H2 ⟨ok.hv.grow g, r, fun x hx => by cases hx⟩
theorem bd_retN : B T tRetN Γ (some .non) (PD T) := fun Z F H σ ok d hd E p => by
  cases hd
  exact p _ F H ⟨ok.hv, by simp only [Rep], fun x hx => by cases hx⟩
theorem bn_of {m : Option D} (h : B T t Γ m (PD T)) : B T t Γ m (PN T) := fun Z F H σ ok d hd E p => h Z F H σ ok d hd E p.1
theorem bn_end : B T tNext Γ (some .non) (PN T) := fun Z F H σ ok d hd E p => by
  cases hd
  exact p.2 rfl F H σ ok.hv
theorem bu_ret (h : Ev T .f te Γ me) {ms : List (Nat × D)} (hm : mus 0 Γ = ms := by rfl) : B T (tRet te) Γ (me.bind fun d => some (d, ms)) (PU T) := fun Z F H σ ok o ho E p => by
  subst hm
  obtain ⟨d, e1, e2⟩ := bind_inv ho
  cases e2
  refine h Z F H σ ok d e1 _ fun v F2 H2 g r => p v F2 H2 ⟨ok.hv.grow g, r, fun x hx => ?_⟩
  obtain ⟨_, q⟩ := mus_at hx
  obtain ⟨p', a, b, c, e, f⟩ := (ok.grow g).at' _ _ q
  simp only [Nat.sub_zero] at b
  rw [← b]
  exact ⟨e, f⟩
theorem bu_retN {ms : List (Nat × D)} (hm : mus 0 Γ = ms := by rfl) : B T tRetN Γ (some (.non, ms)) (PU T) := fun Z F H σ ok o ho E p => by
  subst hm
  cases ho
  refine p _ F H ⟨ok.hv, by simp only [Rep], fun x hx => ?_⟩
  obtain ⟨_, q⟩ := mus_at hx
  obtain ⟨p', a, b, c, e, f⟩ := ok.at' _ _ q
  simp only [Nat.sub_zero] at b
  rw [← b]
  exact ⟨e, f⟩
theorem bv_of {m : Option UR} (h : B T t Γ m (PU T)) : B T t Γ m (PV T) := fun Z F H σ ok d hd E p => h Z F H σ ok d hd E p.1
theorem bv_end {ms : List (Nat × D)} (hm : mus 0 Γ = ms := by rfl) : B T tNext Γ (some (.non, ms)) (PV T) := fun Z F H σ ok d hd E p => by
  subst hm
  cases hd
  refine p.2 rfl .non F H σ ⟨ok.hv, by simp only [Rep], fun x hx => ?_⟩
  obtain ⟨_, q⟩ := mus_at hx
  obtain ⟨p', a, b, c, e, f⟩ := ok.at' _ _ q
  simp only [Nat.sub_zero] at b
  rw [← b]
  exact ⟨e, f⟩
/-- if, the first branch hands back -/
theorem bd_ifx {m1 m2 : Option D} (hc : EvT T tc Γ mc) (ha : B T t Γ m1 (PD T)) (hb : B T (tSeq u v) Γ m2 (PD T)) : B T (tSeq (tIfS tc t u) v) Γ (mc.bind fun c => if c = true then m1 else m2) (PD T) := fun Z F H σ ok o ho E p => by
  obtain ⟨c, e1, e2⟩ := bind_inv ho
  refine hc Z F H σ ok c e1 _ fun F2 H2 g => ?_
  cases c with
  | true => exact ha Z F2 H2 σ (ok.grow g) o e2 { E with nx := v E } p
  | false => exact hb Z F2 H2 σ (ok.grow g) o e2 E p
theorem bd_ifx0 {m1 m2 : Option D} (hc : EvT T tc Γ mc) (ha : B T t Γ m1 (PD T)) (hb : B T v Γ m2 (PD T)) : B T (tSeq (tIfS tc t tNext) v) Γ (mc.bind fun c => if c = true then m1 else m2) (PD T) := bd_ifx hc ha hb
theorem bn_ifx {m1 m2 : Option D} (hc : EvT T tc Γ mc) (ha : B T t Γ m1 (PD T)) (hb : B T (tSeq u v) Γ m2 (PN T)) : B T (tSeq (tIfS tc t u) v) Γ (mc.bind fun c => if c = true then m1 else m2) (PN T) := fun Z F H σ ok o ho E p => by
  obtain ⟨c, e1, e2⟩ := bind_inv ho
  refine hc Z F H σ ok c e1 _ fun F2 H2 g => ?_
  cases c with
  | true => exact ha Z F2 H2 σ (ok.grow g) o e2 { E with nx := v E } p.1
  | false => exact hb Z F2 H2 σ (ok.grow g) o e2 E p
theorem bn_ifx0 {m1 m2 : Option D} (hc : EvT T tc Γ mc) (ha : B T t Γ m1 (PD T)) (hb : B T v Γ m2 (PN T)) : B T (tSeq (tIfS tc t tNext) v) Γ (mc.bind fun c => if c = true then m1 else m2) (PN T) := bn_ifx hc ha hb
theorem bu_ifx {m1 m2 : Option UR} (hc : EvT T tc Γ mc) (ha : B T t Γ m1 (PU T)) (hb : B T (tSeq u v) Γ m2 (PU T)) : B T (tSeq (tIfS tc t u) v) Γ (mc.bind fun c => if c = true then m1 else m2) (PU T) := fun Z F H σ ok o ho E p => by
  obtain ⟨c, e1, e2⟩ := bind_inv ho
  refine hc Z F H σ ok c e1 _ fun F2 H2 g => ?_
  cases c with
  | true => exact ha Z F2 H2 σ (ok.grow g) o e2 { E with nx := v E } p
  | false => exact hb Z F2 H2 σ (ok.grow g) o e2 E p
theorem bu_ifx0 {m1 m2 : Option UR} (hc : EvT T tc Γ mc) (ha : B T t Γ m1 (PU T)) (hb : B T v Γ m2 (PU T)) : B T (tSeq (tIfS tc t tNext) v) Γ (mc.bind fun c => if c = true then m1 else m2) (PU T) := bu_ifx hc ha hb
theorem bv_ifx {m1 m2 : Option UR} (hc : EvT T tc Γ mc) (ha : B T t Γ m1 (PU T)) (hb : B T (tSeq u v) Γ m2 (PV T)) : B T (tSeq (tIfS tc t u) v) Γ (mc.bind fun c => if c = true then m1 else m2) (PV T) := fun Z F H σ ok o ho E p => by
  obtain ⟨c, e1, e2⟩ := bind_inv ho
  refine hc Z F H σ ok c e1 _ fun F2 H2 g => ?_
  cases c with
  | true => exact ha Z F2 H2 σ (ok.grow g) o e2 { E with nx := v E } p.1
  | false => exact hb Z F2 H2 σ (ok.grow g) o e2 E p
theorem bv_ifx0 {m1 m2 : Option UR} (hc : EvT T tc Γ mc) (ha : B T t Γ m1 (PU T)) (hb : B T v Γ m2 (PV T)) : B T (tSeq (tIfS tc t tNext) v) Γ (mc.bind fun c => if c = true then m1 else m2) (PV T) := bv_ifx hc ha hb
/-- a loop that may hand back, then the rest -/
def Out.thnD (o : Out γ Empty) (k : γ → Option D) : Option D := match o with
  | .nx a => k a
  | .rt d _ => some d
@[simp] theorem Out.thnD_nx (a : γ) (k : γ → Option D) : Out.thnD (.nx a) k = k a := id rfl
@[simp] theorem Out.thnD_rt (d : D) (ms : List (Nat × D)) (k : γ → Option D) : Out.thnD (.rt d ms) k = some d := id rfl
def Out.thnU (o : Out γ Empty) (k : γ → Option UR) : Option UR := match o with
  | .nx a => k a
  | .rt d ms => some (d, ms)
@[simp] theorem Out.thnU_nx (a : γ) (k : γ → Option UR) : Out.thnU (.nx a) k = k a := id rfl
@[simp] theorem Out.thnU_rt (d : D) (ms : List (Nat × D)) (k : γ → Option UR) : Out.thnU (.rt d ms) k = some (d, ms) := id rfl
abbrev noL : Empty → Ctx := fun e => nomatch e
theorem bd_seqx {m1 : Option (Out γ Empty)} {Γ1 : γ → Ctx} {m2 : γ → Option D} (h1 : B T t Γ m1 (PT T Γ1 noL)) (h2 : ∀ a, B T u (Γ1 a) (m2 a) (PD T)) : B T (tSeq t u) Γ (m1.bind fun o => o.thnD m2) (PD T) := fun Z F H σ ok o ho E p => by
  obtain ⟨a, e1, e2⟩ := bind_inv ho
  refine h1 Z F H σ ok a e1 _ ?_
  cases a with
  | nx a => exact fun F2 H2 σ2 ok2 => h2 a Z F2 H2 σ2 ok2 o e2 E p
  | ct b => exact nomatch b
  | bk b => exact nomatch b
  | rt d ms => cases e2; exact fun v F2 H2 r => p v F2 H2 (r.less fun x hx => by cases hx)
theorem bn_seqx {m1 : Option (Out γ Empty)} {Γ1 : γ → Ctx} {m2 : γ → Option D} (h1 : B T t Γ m1 (PT T Γ1 noL)) (h2 : ∀ a, B T u (Γ1 a) (m2 a) (PN T)) : B T (tSeq t u) Γ (m1.bind fun o => o.thnD m2) (PN T) := fun Z F H σ ok o ho E p => by
  obtain ⟨a, e1, e2⟩ := bind_inv ho
  refine h1 Z F H σ ok a e1 _ ?_
  cases a with
  | nx a => exact fun F2 H2 σ2 ok2 => h2 a Z F2 H2 σ2 ok2 o e2 E p
  | ct b => exact nomatch b
  | bk b => exact nomatch b
  | rt d ms => cases e2; exact fun v F2 H2 r => p.1 v F2 H2 (r.less fun x hx => by cases hx)
theorem bu_seqx {m1 : Option (Out γ Empty)} {Γ1 : γ → Ctx} {m2 : γ → Option UR} (h1 : B T t Γ m1 (PT T Γ1 noL)) (h2 : ∀ a, B T u (Γ1 a) (m2 a) (PU T)) : B T (tSeq t u) Γ (m1.bind fun o => o.thnU m2) (PU T) := fun Z F H σ ok o ho E p => by
  obtain ⟨a, e1, e2⟩ := bind_inv ho
  refine h1 Z F H σ ok a e1 _ ?_
  cases a with
  | nx a => exact fun F2 H2 σ2 ok2 => h2 a Z F2 H2 σ2 ok2 o e2 E p
  | ct b => exact nomatch b
  | bk b => exact nomatch b
  | rt d ms => cases e2; exact p
theorem bv_seqx {m1 : Option (Out γ Empty)} {Γ1 : γ → Ctx} {m2 : γ → Option UR} (h1 : B T t Γ m1 (PT T Γ1 noL)) (h2 : ∀ a, B T u (Γ1 a) (m2 a) (PV T)) : B T (tSeq t u) Γ (m1.bind fun o => o.thnU m2) (PV T) := fun Z F H σ ok o ho E p => by
  obtain ⟨a, e1, e2⟩ := bind_inv ho
  refine h1 Z F H σ ok a e1 _ ?_
  cases a with
  | nx a => exact fun F2 H2 σ2 ok2 => h2 a Z F2 H2 σ2 ok2 o e2 E p
  | ct b => exact nomatch b
  | bk b => exact nomatch b
  | rt d ms => cases e2; exact p.1
/-- the last statement is such a loop (while True) -/
theorem bd_lastx {m1 : Option (Out γ Empty)} (h1 : B T t Γ m1 (PT T (fun _ : γ => [.bad]) noL)) : B T t Γ (m1.bind fun o => o.thnD fun _ => none) (PD T) := fun Z F H σ ok o ho E p => by
  obtain ⟨a, e1, e2⟩ := bind_inv ho
  refine h1 Z F H σ ok a e1 _ ?_
  cases a with
  | nx a => cases e2
  | ct b => exact nomatch b
  | bk b => exact nomatch b
  | rt d ms => cases e2; exact fun v F2 H2 r => p v F2 H2 (r.less fun x hx => by cases hx)
theorem bu_lastx {m1 : Option (Out γ Empty)} (h1 : B T t Γ m1 (PT T (fun _ : γ => [.bad]) noL)) : B T t Γ (m1.bind fun o => o.thnU fun _ => none) (PU T) := fun Z F H σ ok o ho E p => by
  obtain ⟨a, e1, e2⟩ := bind_inv ho
  refine h1 Z F H σ ok a e1 _ ?_
  cases a with
  | nx a => cases e2
  | ct b => exact nomatch b
  | bk b => exact nomatch b
  | rt d ms => cases e2; exact p
theorem bt_ret' {Γn : α → Ctx} {Γl : β → Ctx} (h : Ev T .f te Γ me) {ms : List (Nat × D)} (hm : mus 0 Γ = ms := by rfl) : B T (tRet te) Γ (me.bind fun d => some (.rt d ms)) (PT T Γn Γl) := by
  subst hm
  exact bt_ret h
theorem b_never {P : Base → Ends → ω → Prop} : B T tNever Γ none P := fun Z F H σ ok o ho => by cases ho
end
/-! ### promises -/
inductive PK where
  | f | h | u
def RepsK (T : Th) (Z : Base) (F H : Hp) : Nat → List PK → List D → List V → Prop
  | _, [], ds, vs => ds = [] ∧ vs = []
  | i, k :: ks, ds, vs => ∃ d ds' v vs', ds = d :: ds' ∧ vs = v :: vs' ∧ (match k with
      | .f => Rep T F d v
      | .h => Rep T Z.B d v
      | .u => v = .ref (Z.P i) ∧ Z.B (Z.P i) = none ∧ F (Z.P i) = none ∧ OwnC T F H (Z.P i) d) ∧ RepsK T Z F H (i + 1) ks ds' vs'
theorem RepsK.len {T : Th} {Z : Base} {F H : Hp} : ∀ {ks : List PK} {i : Nat} {ds : List D} {vs : List V}, RepsK T Z F H i ks ds vs → vs.length = ks.length ∧ ds.length = ks.length
  | [], _, _, _, ⟨a, b⟩ => by subst a b; exact ⟨rfl, rfl⟩
  | k :: ks, i, _, _, ⟨d, ds', v, vs', a, b, _, r⟩ => by subst a b; simp [RepsK.len r]
def spU (T : Th) (ks : List PK) (m : List D → Option UR) : Sp := fun vs H Q _ => ∃ (Z : Base) (F : Hp) (ds : List D), Z.F = F ∧ Z.H = H ∧ Hv Z F H ∧ RepsK T Z F H 0 ks ds vs ∧ (∀ i j, ks[i]? = some PK.u → ks[j]? = some PK.u → Z.P i = Z.P j → i = j) ∧
  ∃ o, m ds = some o ∧ ∀ v F2 H2, RetOk T Z o.1 o.2 v F2 H2 → Q v H2
/-- a def that changes nothing -/
def pur (f : List D → Option D) : List D → Option UR := fun ds => (f ds).map fun d => (d, [])
def ctx0 : List PK → List D → Ctx
  | .f :: ks, d :: ds => .val d :: ctx0 ks ds
  | .h :: ks, d :: ds => .bor d :: ctx0 ks ds
  | .u :: ks, d :: ds => .mu d :: ctx0 ks ds
  | _, _ => []
theorem ctx0_slot {T : Th} {Z : Base} {F H : Hp} : ∀ {ks : List PK} {n : Nat} {ds : List D} {vs : List V}, RepsK T Z F H n ks ds vs → ∀ (i : Nat) (s : Slot), (ctx0 ks ds)[i]? = some s → SlotOk T Z F H (n + i) (some vs[i]?) s
  | [], n, _, _, ⟨a, b⟩, i, s, e => by subst a b; simp [ctx0] at e
  | k :: ks, n, _, _, ⟨d, ds', v, vs', a, b, c, r⟩, i, s, e => by
    subst a b
    cases i with
    | zero =>
      cases k <;> simp only [ctx0, List.getElem?_cons_zero, Option.some.injEq] at e <;> subst e
      · exact ⟨v, rfl, c⟩
      · exact ⟨v, rfl, c⟩
      · obtain ⟨c1, c2, c3, c4⟩ := c
        exact ⟨_, by rw [c1]; rfl, rfl, c2, c3, c4⟩
    | succ i =>
      have e' : (ctx0 ks ds')[i]? = some s := by
        cases k <;> simpa [ctx0] using e
      have := ctx0_slot r i s e'
      have h1 : n + 1 + i = n + (i + 1) := by omega
      rw [h1] at this
      simpa using this
theorem ctx0_len : ∀ {ks : List PK} {ds : List D}, (ctx0 ks ds).length ≤ ds.length
  | [], ds => by simp [ctx0]
  | k :: ks, [] => by cases k <;> simp [ctx0]
  | k :: ks, d :: ds => by cases k <;> simp [ctx0, ctx0_len]
theorem ctx0_own : ∀ {ks : List PK} {ds : List D} {i : Nat} {s : Slot}, (ctx0 ks ds)[i]? = some s → s.isOwn = true → ks[i]? = some .u
  | [], ds, i, s, e, o => by simp [ctx0] at e
  | k :: ks, [], i, s, e, o => by cases k <;> simp [ctx0] at e
  | k :: ks, d :: ds, 0, s, e, o => by
    cases k <;> simp only [ctx0, List.getElem?_cons_zero, Option.some.injEq] at e <;> subst e <;> first | rfl | cases o
  | k :: ks, d :: ds, i + 1, s, e, o => by
    have e' : (ctx0 ks ds)[i]? = some s := by cases k <;> simpa [ctx0] using e
    simpa using ctx0_own e' o
theorem start_at {N : List Str} {vs : List V} {i : Nat} (h : i < vs.length) : (L2.start N vs)[i]? = some vs[i]? := by
  unfold L2.start
  rw [List.getElem?_append_left (by simpa using h), List.getElem?_map]
  simp [h]
theorem ok_start {T : Th} {Z : Base} {F H : Hp} {ks : List PK} {ds : List D} {vs : List V} {N : List Str} {Γ : Ctx} (hv : Hv Z F H) (r : RepsK T Z F H 0 ks ds vs) (sep : ∀ i j, ks[i]? = some PK.u → ks[j]? = some PK.u → Z.P i = Z.P j → i = j)
    (hN : ks.length ≤ N.length) (hΓ : Γ = ctx0 ks ds ++ List.replicate (N.length - ks.length) .no) : Ok T Z Γ F H (L2.start N vs) := by
  subst hΓ
  obtain ⟨lv, ld⟩ := r.len
  have lc : (ctx0 ks ds).length ≤ vs.length := by have := ctx0_len (ks := ks) (ds := ds); omega
  have split : ∀ {i : Nat} {s : Slot}, (ctx0 ks ds ++ List.replicate (N.length - ks.length) .no)[i]? = some s → (ctx0 ks ds)[i]? = some s ∨ s = .no := fun {i s} e => by
    by_cases hi : i < (ctx0 ks ds).length
    · rw [List.getElem?_append_left hi] at e; exact .inl e
    · rw [List.getElem?_append_right (by omega), List.getElem?_replicate] at e
      split at e
      · exact .inr (by simpa using e.symm)
      · cases e
  refine ⟨hv, ?_, fun i s e => ?_, fun i j p s t e1 o1 e2 o2 a b => ?_⟩
  · unfold L2.start
    simp only [List.length_append, List.length_replicate, List.length_map]
    omega
  · rcases split e with q | q
    · have hi : i < vs.length := by
        have := (List.getElem?_eq_some_iff.mp q).1
        omega
      rw [start_at hi]
      have := ctx0_slot r i s q
      simpa using this
    · subst q; trivial
  · have f : ∀ {i : Nat} {s : Slot} {p : Addr}, (ctx0 ks ds ++ List.replicate (N.length - ks.length) .no)[i]? = some s → s.isOwn = true → (L2.start N vs)[i]? = some (some (V.ref p)) → ks[i]? = some .u ∧ p = Z.P i := fun {i s p} e o a => by
      rcases split e with q | q
      · have hu := ctx0_own q o
        have hi : i < vs.length := by
          have := (List.getElem?_eq_some_iff.mp q).1
          omega
        have sl := ctx0_slot r i s q
        rw [start_at hi] at a
        refine ⟨hu, ?_⟩
        cases s <;> simp only [Slot.isOwn] at o <;> first | (cases o; done) | skip
        · -- an own slot stands in no start
          exfalso
          have : ∀ {ks : List PK} {ds : List D} {i : Nat} {d : D}, (ctx0 ks ds)[i]? = some (.own d) → False := by
            intro ks
            induction ks with
            | nil => intro ds i d e; simp [ctx0] at e
            | cons k ks ih =>
              intro ds i d e
              cases ds with
              | nil => cases k <;> simp [ctx0] at e
              | cons d0 ds =>
                cases i with
                | zero => cases k <;> simp [ctx0] at e
                | succ i => exact ih (ds := ds) (i := i) (d := d) (by cases k <;> simpa [ctx0] using e)
          exact this q
        · obtain ⟨p', z1, z2, _⟩ := sl
          simp only [Nat.zero_add] at z2
          rw [a] at z1
          cases z1
          exact z2
      · subst q; cases o
    obtain ⟨u1, p1⟩ := f e1 o1 a
    obtain ⟨u2, p2⟩ := f e2 o2 b
    exact sep i j u1 u2 (by rw [← p1, ← p2])
/-- a def keeps its promise -/
theorem fn_ok {P : Program} {w : World} {K : PySem.W.Frag} {mg : Str → Option Value} {base : Heap} {T : Th} {x qual : Str} {st : Stmt} {f : Addr} {fd : FuncData} {N ps : List Str} {k : Nat} {ks : List PK} {m : List D → Option UR} (F : Fun K x qual st f fd) (S : FnScope N ps (defScope st)) (hk : ks.length = ps.length) (hN : ks.length ≤ N.length)
    (hbody : ∀ (cdv : Value) (A : Around) (outer : List Env) (s : Shared) (H : Hp) (E : XK), Room k (A.deeper (envOfC qual (defScope st) s.heap.objs.size f cdv)) →
      ∃ t, PSs (cxOf CX0 P w K mg base N qual (defScope st) f cdv A outer s H E).nox (defBody st) t ∧ ∀ ds, ds.length = ks.length → B T t (ctx0 ks ds ++ List.replicate (N.length - ks.length) .no) (m ds) (PV T)) :
    FnOk P w K mg base CX0 (k + 1) f fd ps (spU T ks m) := by
  refine F.ok S (fun vs H Q E h => ?_) (fun cdv A outer s H vs Q E hr h => ?_)
  · obtain ⟨Z, F', ds, _, _, _, r, _⟩ := h
    rw [← hk]; exact r.len.1
  · obtain ⟨t, ht, hb⟩ := hbody cdv A outer s H E hr
    obtain ⟨Z, F', ds, _, _, hv, r, sep, o, ho, q⟩ := h
    refine ⟨t, ht, hb ds r.len.2 Z F' H _ (ok_start hv r sep hN rfl) o ho _ ⟨q, fun e v F2 H2 σ r => ?_⟩⟩
    show Q .non H2
    have rv := r.rep
    rw [e] at rv
    simp only [Rep] at rv
    subst rv
    exact q _ F2 H2 r
theorem bv_pur {T : Th} {t : TS} {Γ : Ctx} {m : Option D} (h : B T t Γ m (PN T)) : B T t Γ (m.map fun d => (d, [])) (PV T) := fun Z F H σ ok o ho E p => by
  obtain ⟨d, e1, rfl⟩ := Option.map_eq_some_iff.mp ho
  refine h Z F H σ ok d e1 E ⟨p.1, fun hd F2 H2 σ2 hv => ?_⟩
  subst hd
  exact p.2 rfl .non F2 H2 σ2 ⟨hv, by simp only [Rep], fun x hx => by cases hx⟩
/-! ### calls of defs that change nothing -/
def kMd : PK → Md
  | .f => .f
  | _ => .h
def noU (ks : List PK) : Bool := ks.all fun k => match k with | .u => false | _ => true
section
variable {T : Th} {Γ : Ctx} {md : Md} {ta : TA} {te : TE} {ks : List PK} {ms : Option (List D)} {f : List D → Option D} {me : Option D}
theorem repsK_of {F H : Hp} : ∀ {ks : List PK} {n : Nat} {ds : List D} {vs : List V} {Z : Base}, noU ks = true → RepsM T Z F H (ks.map kMd) ds vs → RepsK T ⟨H, F, H, fun _ => 0⟩ F H n ks ds vs
  | [], n, _, _, Z, _, ⟨a, b⟩ => ⟨a, b⟩
  | k :: ks, n, _, _, Z, h, ⟨d, ds', v, vs', a, b, c, r⟩ => by
    simp only [noU, List.all_cons, Bool.and_eq_true] at h
    refine ⟨d, ds', v, vs', a, b, ?_, repsK_of (Z := Z) (by simpa [noU] using h.2) r⟩
    cases k with
    | f => exact c
    | h => exact c
    | u => cases h.1
theorem noU_at {ks : List PK} (h : noU ks = true) {i : Nat} (e : ks[i]? = some PK.u) : False := by
  have := List.all_eq_true.mp h PK.u (List.mem_of_getElem? e)
  cases this
theorem sp_pur {F H : Hp} {Z : Base} {ds : List D} {vs : List V} {d : D} {Q : VK} {E : XK} (hu : noU ks = true) (ex : Ex F H) (r : RepsM T Z F H (ks.map kMd) ds vs) (hd : f ds = some d) (q : ∀ v F2 H2, Grow F F2 H H2 → Rep T F2 d v → Q v H2) :
    spU T ks (pur f) vs H Q E := by
  refine ⟨⟨H, F, H, fun _ => 0⟩, F, ds, rfl, rfl, ⟨Ex.refl H, Ex.refl F, ex, fun _ h => h, fun _ h => .inl h⟩, repsK_of hu r, fun i j h => (noU_at hu h).elim, (d, []), by unfold pur; rw [hd]; rfl, fun v F2 H2 ro => ?_⟩
  exact q v F2 H2 ⟨ro.hv.f0, ro.hv.f, ro.hv.b, ro.hv.new⟩ ro.rep
theorem ev_call {E : XK} (hu : noU ks = true) (ha : EvA T ta Γ (ks.map kMd) ms) (hm : md.fh = true := by rfl) : Ev T md (tCall (spU T ks (pur f)) [] E ta) Γ (ms.bind f) := fun Z F H σ ok d hd Q q => by
  obtain ⟨ds, e1, e2⟩ := bind_inv hd
  refine ha Z F H σ ok ds e1 _ fun vs F2 H2 g r => ?_
  rw [List.append_nil]
  exact sp_pur hu g.i r e2 fun v F3 H3 g3 rv => q v F3 H3 (g.trans g3) (rv.mono (sel_out g3.i hm))
/-- o.m(..), o an instance of the class c, m no field -/
def dSelf (c m : Str) (d : D) : Option D := match d with
  | .obj c' ns ds => if c' = c ∧ m ∉ ns then some d else none
  | _ => none
theorem lookup_zip_none {ns : List Str} {vs : List V} {m : Str} (h : m ∉ ns) : (ns.zip vs).lookup m = none := by
  induction ns generalizing vs with
  | nil => rfl
  | cons n ns ih =>
    cases vs with
    | nil => rfl
    | cons v vs =>
      simp only [List.mem_cons, not_or] at h
      have : (m == n) = false := by simpa using h.1
      simp [List.lookup, this, ih h.2]
theorem ev_meth {c m : Str} {E : XK} {k : PK} (hu : noU (k :: ks) = true) (ho : Ev T (kMd k) te Γ me) (ha : EvA T ta Γ (ks.map kMd) ms) (hm : md.fh = true := by rfl) :
    Ev T md (tMeth (T.C c) m (spU T (k :: ks) (pur f)) [] E te ta) Γ ((oCons (o1 (dSelf c m) me) ms).bind f) := fun Z F H σ ok d hd Q q => by
  obtain ⟨ds, e1, e2⟩ := bind_inv hd
  obtain ⟨o, r, e3, e4, e5⟩ := o2_inv e1
  cases e5
  obtain ⟨x, e6, e7⟩ := o1_inv e3
  refine ho Z F H σ ok x e6 _ fun v F2 H2 g rv => ?_
  cases x <;> simp only [dSelf] at e7 <;> try (cases e7; done)
  split at e7
  · rename_i hc
    cases e7
    obtain ⟨rfl, hn⟩ := hc
    have rh := rv.mono (sel_in g.i (ok.grow g).hv.b)
    simp only [Rep] at rh
    obtain ⟨p, dx, vs, rfl, hp, hl, rr⟩ := rh
    refine ⟨p, dx, _, rfl, hp, lookup_zip_none hn, ha Z F2 H2 σ (ok.grow g) r e4 _ fun ws F3 H3 g3 r3 => ?_⟩
    rw [List.append_nil]
    refine sp_pur (Z := Z) (ds := _ :: r) hu g3.i ?_ e2 fun v F4 H4 g4 rv => q v F4 H4 ((g.trans g3).trans g4) (rv.mono (sel_out g4.i hm))
    exact ⟨_, _, _, _, rfl, rfl, rv.mono (sel_grow g3), r3⟩
  · cases e7
/-- o.f -/
def dFld (c f : Str) (d : D) : Option D := match d with
  | .obj c' ns ds => if c' = c then look ns ds f else none
  | _ => none
theorem look_lookup {H : Hp} {k : Str} : ∀ {ks : List Str} {ds : List D} {vs : List V} {d : D}, Reps T H ds vs → look ks ds k = some d → ∃ v, (ks.zip vs).lookup k = some v ∧ Rep T H d v
  | [], ds, vs, d, r, h => by simp [look] at h
  | a :: ks, [], vs, d, r, h => by simp [look] at h
  | a :: ks, e :: ds, vs, d, r, h => by
    obtain ⟨v, r', rfl, s, t⟩ := r.uncons
    by_cases hk : a = k
    · subst hk
      have : look (a :: ks) (e :: ds) a = some e := by simp [look, List.find?_cons]
      rw [this] at h; cases h
      exact ⟨v, by simp [List.lookup], s⟩
    · have e1 : look (a :: ks) (e :: ds) k = look ks ds k := by simp [look, List.find?_cons, hk]
      rw [e1] at h
      obtain ⟨w, hw, rw'⟩ := look_lookup t h
      have hk' : (k == a) = false := by simpa using fun q => hk q.symm
      exact ⟨w, by simp [List.lookup, hk', hw], rw'⟩
theorem ev_fld {c n : Str} (hc : Cls T.K (T.C c)) (hn : NoAttr T.K (T.C c) n) (ho : Ev T md te Γ me) : Ev T md (tFld T.K te n) Γ (o1 (dFld c n) me) := fun Z F H σ ok d hd Q q => by
  obtain ⟨x, e1, e2⟩ := o1_inv hd
  refine ho Z F H σ ok x e1 _ fun v F2 H2 g rv => ?_
  cases x <;> simp only [dFld] at e2 <;> try (cases e2; done)
  split at e2
  · rename_i hcc
    subst hcc
    simp only [Rep] at rv
    obtain ⟨p, dx, vs, rfl, hp, hl, rr⟩ := rv
    obtain ⟨w, hw, rw'⟩ := look_lookup rr e2
    exact ⟨p, _, dx, _, w, rfl, sel_in g.i (ok.grow g).hv.b _ _ hp, hc, hn, hw, q w F2 H2 g rw'⟩
  · cases e2
end
end Mi
/-! instances made, fields stored, calls that change arguments, a law's end -/
namespace Mi
open PySem L2
open PyProof.Rows
open Evl (Ex ex_t ex_l ex_rd fresh_back)
section
variable {ω : Type} {T : Th} {Γ : Ctx} {md : Md} {ta : TA} {te ti : TE} {ks : List PK} {ms : Option (List D)} {me mi : Option D} {i j : Nat}
/-! ### o.f = e -/
theorem putF_eq {H : Hp} {k : Str} {d : D} {v : V} (r : Rep T H d v) : ∀ {ks : List Str} {ds : List D} {vs : List V}, ks.length = ds.length → Reps T H ds vs →
    ∃ vs', putF k v (ks.zip vs) = (putKD ks ds k d).1.zip vs' ∧ (putKD ks ds k d).1.length = vs'.length ∧ Reps T H (putKD ks ds k d).2 vs'
  | [], [], vs, hl, rr => by
    simp only [Reps] at rr; subst rr
    exact ⟨[v], rfl, rfl, Reps.one r⟩
  | [], _ :: _, vs, hl, rr => by cases hl
  | _ :: _, [], vs, hl, rr => by cases hl
  | a :: ks, e :: ds, vs, hl, rr => by
    obtain ⟨w, r', rfl, s, t⟩ := rr.uncons
    by_cases h : a = k
    · subst h
      have e1 : putKD (a :: ks) (e :: ds) a d = (a :: ks, d :: ds) := by simp [putKD]
      rw [e1]
      refine ⟨v :: r', ?_, by simpa [← t.len] using hl, Reps.cons r t⟩
      show (if a = a then (a, v) :: ks.zip r' else _) = _
      rw [if_pos rfl]; rfl
    · obtain ⟨vs', i1, i2, i3⟩ := putF_eq (k := k) r (by simpa using hl) t
      have e1 : putKD (a :: ks) (e :: ds) k d = (a :: (putKD ks ds k d).1, e :: (putKD ks ds k d).2) := by simp [putKD, h]
      rw [e1]
      refine ⟨w :: vs', ?_, by simp [i2], Reps.cons s i3⟩
      show (if a = k then (a, v) :: ks.zip r' else (a, w) :: putF k v (ks.zip r')) = _
      rw [if_neg h, i1]; rfl
def dSetF (c f : Str) (d e : D) : Option D := match d with
  | .obj c' ns ds => if c' = c ∧ ns.length = ds.length ∧ ns.length < 1000 then some (.obj c' (putKD ns ds f e).1 (putKD ns ds f e).2) else none
  | _ => none
theorem bp_fld {s : Slot} {d : D} {c f : Str} (hc : Cls T.K (T.C c)) (hn : NoAttr T.K (T.C c) f) (hs : Γ[i]? = some s) (ho : s.isOwnD d) (he : Ev T .f te Γ me) :
    B T (sFld T.K (tVar i) te f) Γ (me.bind fun e => dSetF c f d e) (PP T fun d' => Γ.set i (s.put d')) := fun Z F H σ ok d' hd E p => by
  obtain ⟨e, e1, e2⟩ := bind_inv hd
  refine he Z F H σ ok e e1 _ fun v F2 H2 g r => ?_
  obtain ⟨q, a, b, cc, k⟩ := own_slot (ok.grow g) hs ho
  refine ⟨_, a, ?_⟩
  cases d <;> simp only [dSetF] at e2 <;> try (cases e2; done)
  split at e2
  · rename_i hz
    cases e2
    obtain ⟨rfl, h1, h2⟩ := hz
    simp only [OwnC] at cc
    obtain ⟨dx, vs, c1, c2, c3⟩ := cc
    obtain ⟨vs', z1, z2, z3⟩ := putF_eq (k := f) r h1 c3
    refine ⟨q, _, dx, _, rfl, c1, hc, hn, by rw [List.length_zip, ← c2, Nat.min_self]; exact h2, p F2 _ σ (k _ _ ?_)⟩
    simp only [OwnC]
    exact ⟨dx, vs', by rw [upd_same, z1], z2, z3⟩
  · cases e2
/-! ### C(..) -/
def dMake (c : Str) (m : List D → Option UR) (ds : List D) : Option D := (m (.obj c [] [] :: ds)).bind fun o => match o with
  | (.non, [(0, d)]) => some d
  | _ => none
theorem evo_make {c : Str} {m : List D → Option UR} {E : XK} (hu : noU ks = true) (ha : EvA T ta Γ (ks.map kMd) ms) : EvO T (tMake (T.C c) (spU T (.u :: ks) m) [] E ta) Γ (ms.bind (dMake c m)) := fun Z F H σ ok d hd Q q => by
  obtain ⟨ds, e1, e2⟩ := bind_inv hd
  refine ha Z F H σ ok ds e1 _ fun vs F2 H2 g r => ?_
  intro x dx hx hdx hne
  rw [List.append_nil]
  obtain ⟨o, e3, e4⟩ := bind_inv (show (m (.obj c [] [] :: ds)).bind _ = some d from e2)
  split at e4
  · rename_i d'
    cases e4
    have hx1 : upd H2 dx (.own x) x = none := by rw [upd_ne hne.symm]; exact hx
    have eB : Ex H2 (upd H2 dx (.own x)) := Ex.new hdx
    have eH : Ex (upd H2 dx (.own x)) (upd (upd H2 dx (.own x)) x (.ins (T.C c) dx [])) := Ex.new hx1
    have hfx : F2 x = none := none_of_ex g.i hx
    refine ⟨⟨upd H2 dx (.own x), F2, upd (upd H2 dx (.own x)) x (.ins (T.C c) dx []), fun _ => x⟩, F2, _, rfl, rfl, ⟨eH, Ex.refl F2, g.i.trans (eB.trans eH), fun _ h => h, fun _ h => .inl h⟩, ?_, fun i j h1 h2 _ => ?_, _, e3, fun v F3 H3 ro => ?_⟩
    · refine ⟨_, ds, _, vs, rfl, rfl, ⟨rfl, hx1, hfx, ?_⟩, ?_⟩
      · simp only [OwnC]
        exact ⟨dx, [], by rw [upd_same]; rfl, rfl, Reps.nil⟩
      · -- the other arguments: read in the heap without the new instance
        have go : ∀ {ks : List PK} {n : Nat} {ds : List D} {vs : List V}, noU ks = true → RepsM T Z F2 H2 (ks.map kMd) ds vs → RepsK T ⟨upd H2 dx (.own x), F2, upd (upd H2 dx (.own x)) x (.ins (T.C c) dx []), fun _ => x⟩ F2 (upd (upd H2 dx (.own x)) x (.ins (T.C c) dx [])) n ks ds vs := by
          intro ks
          induction ks with
          | nil => intro n ds vs _ h; exact h
          | cons k ks ih =>
            intro n ds vs h r
            obtain ⟨d1, ds', v1, vs', a, b, c, r⟩ := r
            simp only [noU, List.all_cons, Bool.and_eq_true] at h
            refine ⟨d1, ds', v1, vs', a, b, ?_, ih (by simpa [noU] using h.2) r⟩
            cases k with
            | f => exact c
            | h => exact Rep.mono eB c
            | u => cases h.1
        exact go hu r
    · have z : ∀ {i : Nat}, (PK.u :: ks)[i]? = some PK.u → i = 0 := fun {i} h => by
        cases i with
        | zero => rfl
        | succ i => exact (noU_at hu (by simpa using h)).elim
      rw [z h1, z h2]
    · refine ⟨?_, ?_⟩
      · have := ro.rep; simpa only [Rep] using this
      · obtain ⟨m1, m2⟩ := ro.mus (0, d) (by simp)
        refine q x F3 H3 (g.trans ⟨ro.hv.f0, ro.hv.f, eB.trans ro.hv.b, fun a h => ?_⟩) (none_of_ex g.h hx) m1 m2
        rcases ro.hv.new a h with z | z
        · exact .inl z
        · exact .inr (none_of_ex (eB.trans eH) z)
  · cases e4
/-! ### f(.., xs, ..), xs changed -/
inductive AK where
  | f | hf | hb | ho (j : Nat) | u (i : Nat)
def AK.pk : AK → PK
  | .f => .f
  | .u _ => .u
  | _ => .h
def RepsA (T : Th) (Z : Base) (F H : Hp) (σ : L2.St) : List AK → List D → List V → Prop
  | [], ds, vs => ds = [] ∧ vs = []
  | a :: as, ds, vs => ∃ d ds' v vs', ds = d :: ds' ∧ vs = v :: vs' ∧ (match a with
      | .f => Rep T F d v
      | .hf => Rep T F d v
      | .hb => Rep T Z.B d v
      | .ho j => ∃ p, v = .ref p ∧ σ[j]? = some (some (.ref p)) ∧ OwnC T F H p d
      | .u i => ∃ p, v = .ref p ∧ σ[i]? = some (some (.ref p)) ∧ OwnC T F H p d) ∧ RepsA T Z F H σ as ds' vs'
theorem RepsA.grow {Z : Base} {F F2 H H2 : Hp} {σ : L2.St} (g : Grow F F2 H H2) : ∀ {as : List AK} {ds : List D} {vs : List V}, RepsA T Z F H σ as ds vs → RepsA T Z F2 H2 σ as ds vs
  | [], _, _, h => h
  | a :: as, _, _, ⟨d, ds', v, vs', h1, h2, h3, r⟩ => by
    refine ⟨d, ds', v, vs', h1, h2, ?_, RepsA.grow g r⟩
    cases a with
    | f => exact Rep.mono g.f h3
    | hf => exact Rep.mono g.f h3
    | hb => exact h3
    | ho j => obtain ⟨p, a, b, c⟩ := h3; exact ⟨p, a, b, c.grow g.f g.h⟩
    | u i => obtain ⟨p, a, b, c⟩ := h3; exact ⟨p, a, b, c.grow g.f g.h⟩
def EvK (T : Th) (ta : TA) (Γ : Ctx) (as : List AK) (m : Option (List D)) : Prop := ∀ Z F H σ, Ok T Z Γ F H σ → ∀ ds, m = some ds → ∀ Q : List V → Hp → Prop, (∀ vs F2 H2, Grow F F2 H H2 → RepsA T Z F2 H2 σ as ds vs → Q vs H2) → ta σ H Q
variable {as : List AK} {tr : TA}
theorem evk_nil : EvK T tNil Γ [] (some []) := fun Z F H σ ok ds hd Q q => by
  cases hd
  exact q [] F H (Grow.refl ok.hv.f) ⟨rfl, rfl⟩
theorem evk_f (h : Ev T .f te Γ me) (hr : EvK T tr Γ as ms) : EvK T (tCons te tr) Γ (.f :: as) (oCons me ms) := fun Z F H σ ok ds hd Q q => by
  obtain ⟨x, y, e1, e2, e3⟩ := o2_inv hd
  cases e3
  exact h Z F H σ ok x e1 _ fun v F2 H2 g r => hr Z F2 H2 σ (ok.grow g) y e2 _ fun vs F3 H3 g' r' => q (v :: vs) F3 H3 (g.trans g') ⟨x, y, v, vs, rfl, rfl, r.mono g'.f, r'⟩
theorem evk_hf (h : Ev T .f te Γ me) (hr : EvK T tr Γ as ms) : EvK T (tCons te tr) Γ (.hf :: as) (oCons me ms) := fun Z F H σ ok ds hd Q q => by
  obtain ⟨x, y, e1, e2, e3⟩ := o2_inv hd
  cases e3
  exact h Z F H σ ok x e1 _ fun v F2 H2 g r => hr Z F2 H2 σ (ok.grow g) y e2 _ fun vs F3 H3 g' r' => q (v :: vs) F3 H3 (g.trans g') ⟨x, y, v, vs, rfl, rfl, r.mono g'.f, r'⟩
theorem evk_hb (h : Ev T .b te Γ me) (hr : EvK T tr Γ as ms) : EvK T (tCons te tr) Γ (.hb :: as) (oCons me ms) := fun Z F H σ ok ds hd Q q => by
  obtain ⟨x, y, e1, e2, e3⟩ := o2_inv hd
  cases e3
  exact h Z F H σ ok x e1 _ fun v F2 H2 g r => hr Z F2 H2 σ (ok.grow g) y e2 _ fun vs F3 H3 g' r' => q (v :: vs) F3 H3 (g.trans g') ⟨x, y, v, vs, rfl, rfl, r, r'⟩
theorem evk_ho {s : Slot} {d : D} (hs : Γ[j]? = some s) (ho : s.isOwnD d) (hr : EvK T tr Γ as ms) : EvK T (tCons (tVar j) tr) Γ (.ho j :: as) (oCons (some d) ms) := fun Z F H σ ok ds hd Q q => by
  obtain ⟨x, y, e1, e2, e3⟩ := o2_inv hd
  cases e3
  cases e1
  obtain ⟨p, a, b, c, _⟩ := own_slot ok hs ho
  exact ⟨_, a, hr Z F H σ ok y e2 _ fun vs F3 H3 g' r' => q (_ :: vs) F3 H3 g' ⟨_, y, _, vs, rfl, rfl, ⟨p, rfl, a, c.grow g'.f g'.h⟩, r'⟩⟩
theorem evk_u {s : Slot} {d : D} (hs : Γ[i]? = some s) (ho : s.isOwnD d) (hr : EvK T tr Γ as ms) : EvK T (tCons (tVar i) tr) Γ (.u i :: as) (oCons (some d) ms) := fun Z F H σ ok ds hd Q q => by
  obtain ⟨x, y, e1, e2, e3⟩ := o2_inv hd
  cases e3
  cases e1
  obtain ⟨p, a, b, c, _⟩ := own_slot ok hs ho
  exact ⟨_, a, hr Z F H σ ok y e2 _ fun vs F3 H3 g' r' => q (_ :: vs) F3 H3 g' ⟨_, y, _, vs, rfl, rfl, ⟨p, rfl, a, c.grow g'.f g'.h⟩, r'⟩⟩
/-- which slots are changed: by the arguments' places -/
def usOf : Nat → List AK → List (Nat × Nat)
  | _, [] => []
  | n, .u i :: as => (n, i) :: usOf (n + 1) as
  | n, _ :: as => usOf (n + 1) as
def hosOf : List AK → List Nat
  | [] => []
  | .ho j :: as => j :: hosOf as
  | _ :: as => hosOf as
/-- what the k-th argument holds behind the call -/
def cU (o : UR) (k : Nat) : D := (o.2.lookup k).getD .non
def chkU (us : List (Nat × Nat)) (o : UR) : Option UR := if us.all fun u => (o.2.lookup u.1).isSome then some o else none
def updU (Γ : Ctx) (us : List (Nat × Nat)) (o : UR) : Ctx := us.foldl (fun Γ u => match Γ[u.2]? with
  | some s => Γ.set u.2 (s.put (cU o u.1))
  | none => Γ) Γ
def ownAt (Γ : Ctx) (i : Nat) : Bool := match Γ[i]? with
  | some s => s.isOwn
  | none => false
theorem Slot.put_own (s : Slot) (d : D) : (s.put d).isOwn = s.isOwn := by cases s <;> rfl
theorem updU_len {us : List (Nat × Nat)} {o : UR} : ∀ {Γ : Ctx}, (updU Γ us o).length = Γ.length := by
  induction us with
  | nil => intro Γ; rfl
  | cons u us ih =>
    intro Γ
    show (updU (match Γ[u.2]? with | some s => Γ.set u.2 (s.put (cU o u.1)) | none => Γ) us o).length = _
    rw [ih]
    split <;> simp
theorem updU_at {us : List (Nat × Nat)} {o : UR} : ∀ {Γ : Ctx} {i : Nat} {s : Slot}, (us.map (·.2)).Nodup → (updU Γ us o)[i]? = some s →
    (i ∉ us.map (·.2) ∧ Γ[i]? = some s) ∨ ∃ k s', (k, i) ∈ us ∧ Γ[i]? = some s' ∧ s = s'.put (cU o k) := by
  induction us with
  | nil => intro Γ i s _ h; exact .inl ⟨by simp, h⟩
  | cons u us ih =>
    intro Γ i s hn h
    simp only [List.map_cons, List.nodup_cons] at hn
    have h' : (updU (match Γ[u.2]? with | some s => Γ.set u.2 (s.put (cU o u.1)) | none => Γ) us o)[i]? = some s := h
    rcases ih hn.2 h' with ⟨a, b⟩ | ⟨k, s', a, b, c⟩
    · by_cases e : i = u.2
      · subst e
        cases q : Γ[u.2]? with
        | none => rw [q] at b; simp only at b; rw [q] at b; cases b
        | some s0 =>
          rw [q] at b
          simp only at b
          have hl : u.2 < Γ.length := (List.getElem?_eq_some_iff.mp q).1
          rw [List.getElem?_set_self hl] at b
          cases b
          exact .inr ⟨u.1, s0, by simp, rfl, rfl⟩
      · refine .inl ⟨by simp only [List.map_cons, List.mem_cons, not_or]; exact ⟨e, a⟩, ?_⟩
        cases q : Γ[u.2]? with
        | none => rw [q] at b; exact b
        | some s0 =>
          rw [q] at b
          simp only at b
          rw [List.getElem?_set_ne (Ne.symm e)] at b
          exact b
    · have e : i ≠ u.2 := fun e => hn.1 (by rw [← e]; exact List.mem_map.mpr ⟨(k, i), a, rfl⟩)
      refine .inr ⟨k, s', by simp [a], ?_, c⟩
      cases q : Γ[u.2]? with
      | none => rw [q] at b; exact b
      | some s0 =>
        rw [q] at b
        simp only at b
        rw [List.getElem?_set_ne (Ne.symm e)] at b
        exact b
/-- the heap without some addresses -/
noncomputable def less (H : Hp) (P : Addr → Prop) : Hp := open Classical in fun a => if P a then none else H a
theorem less_ex {H : Hp} {P : Addr → Prop} : Ex (less H P) H := fun a o h => by
  unfold less at h
  split at h
  · cases h
  · exact h
theorem less_of {G H : Hp} {P : Addr → Prop} (e : Ex G H) (h : ∀ a, P a → G a = none) : Ex G (less H P) := fun a o q => by
  unfold less
  split
  · rename_i hp; rw [h a hp] at q; cases q
  · exact e a o q
theorem less_no {H : Hp} {P : Addr → Prop} {a : Addr} (h : P a) : less H P a = none := by
  unfold less; rw [if_pos h]
theorem less_at {H : Hp} {P : Addr → Prop} {a : Addr} (h : ¬ P a) : less H P a = H a := by
  unfold less; rw [if_neg h]
/-- the engine: the call itself, then what is known behind it -/
theorem callU_go {m : List D → Option UR} {E : XK} (hu : ((usOf 0 as).map (·.2)).Nodup) (hh : ∀ j ∈ hosOf as, j ∉ (usOf 0 as).map (·.2)) (ho : ∀ j ∈ (usOf 0 as).map (·.2) ++ hosOf as, ownAt Γ j = true)
    (ha : EvK T ta Γ as ms) {Z : Base} {F H : Hp} {σ : L2.St} (ok : Ok T Z Γ F H σ) {o : UR} (hm : (ms.bind m).bind (chkU (usOf 0 as)) = some o) {Q : VK}
    (q : ∀ v F2 H2, Ok T Z (updU Γ (usOf 0 as) o) F2 H2 σ → Rep T F2 o.1 v → Q v H2) : tCall (spU T (as.map AK.pk) m) [] E ta σ H Q := by
  obtain ⟨o', h1, h2⟩ := bind_inv hm
  unfold chkU at h2
  split at h2
  · rename_i hall
    cases h2
    obtain ⟨ds, e1, e2⟩ := bind_inv h1
    refine ha Z F H σ ok ds e1 _ fun vs F2 H2 g r => ?_
    rw [List.append_nil]
    have ok2 := ok.grow g
    -- addresses of the changed ones
    let isU : Addr → Prop := fun a => ∃ u ∈ usOf 0 as, σ[u.2]? = some (some (.ref a))
    have adr : ∀ j, ownAt Γ j = true → ∃ s p d, Γ[j]? = some s ∧ s.isOwn = true ∧ σ[j]? = some (some (.ref p)) ∧ Z.B p = none ∧ F2 p = none ∧ OwnC T F2 H2 p d := fun j h => by
      unfold ownAt at h
      cases e : Γ[j]? with
      | none => rw [e] at h; cases h
      | some s =>
        rw [e] at h
        obtain ⟨p, d, a, b, c, k⟩ := (ok2.at' j s e).own_at h
        exact ⟨s, p, d, rfl, h, a, b, c, k⟩
    have uAdr : ∀ u ∈ usOf 0 as, ∃ s p d, Γ[u.2]? = some s ∧ s.isOwn = true ∧ σ[u.2]? = some (some (.ref p)) ∧ Z.B p = none ∧ F2 p = none ∧ OwnC T F2 H2 p d := fun u hu => adr u.2 (ho _ (List.mem_append_left _ (List.mem_map.mpr ⟨u, hu, rfl⟩)))
    have uB : ∀ a, isU a → Z.B a = none ∧ F2 a = none := fun a ⟨u, hu, e⟩ => by
      obtain ⟨s, p, d, _, _, a1, b, c, _⟩ := uAdr u hu
      rw [e] at a1; cases a1
      exact ⟨b, c⟩
    have notU : ∀ {j : Nat} {p : Addr} {s : Slot}, Γ[j]? = some s → s.isOwn = true → σ[j]? = some (some (.ref p)) → j ∉ (usOf 0 as).map (·.2) → ¬ isU p := fun {j p s} hs hso e hj ⟨u, hu', e'⟩ => by
      obtain ⟨s', p', d, q1, q2, q3, _⟩ := uAdr u hu'
      exact hj (by rw [ok2.sep j u.2 p s s' hs hso q1 q2 e e']; exact List.mem_map.mpr ⟨u, hu', rfl⟩)
    -- P: the address by the argument's place
    let Pa : Nat → Addr := fun n => match (usOf 0 as).find? fun u => u.1 == n with
      | some u => (match σ[u.2]? with | some (some (.ref p)) => p | _ => 0)
      | none => 0
    have firsts : ∀ {as : List AK} {n : Nat}, ((usOf n as).map (·.1)).Nodup ∧ ∀ u ∈ usOf n as, n ≤ u.1 := by
      intro as
      induction as with
      | nil => intro n; exact ⟨by simp [usOf], fun u h => by cases h⟩
      | cons a as ih =>
        intro n
        obtain ⟨i1, i2⟩ := ih (n := n + 1)
        cases a <;> simp only [usOf] <;> first | exact ⟨i1, fun u h => by have := i2 u h; omega⟩ | skip
        refine ⟨?_, fun u h => ?_⟩
        · simp only [List.map_cons, List.nodup_cons]
          refine ⟨fun hm => ?_, i1⟩
          obtain ⟨u, hu, e⟩ := List.mem_map.mp hm
          have := i2 u hu
          omega
        · rcases List.mem_cons.mp h with rfl | h
          · exact Nat.le_refl _
          · have := i2 u h; omega
    have findU : ∀ {l : List (Nat × Nat)} {u : Nat × Nat}, (l.map (·.1)).Nodup → u ∈ l → l.find? (fun x => x.1 == u.1) = some u := by
      intro l
      induction l with
      | nil => intro u _ h; cases h
      | cons x l ih =>
        intro u hn h
        simp only [List.map_cons, List.nodup_cons] at hn
        rcases List.mem_cons.mp h with rfl | h
        · simp [List.find?_cons]
        · have : x.1 ≠ u.1 := fun e => hn.1 (by rw [e]; exact List.mem_map.mpr ⟨u, h, rfl⟩)
          simp [List.find?_cons, this, ih hn.2 h]
    have PaU : ∀ u ∈ usOf 0 as, ∀ p, σ[u.2]? = some (some (.ref p)) → Pa u.1 = p := fun u hu' p e => by
      show (match (usOf 0 as).find? fun x => x.1 == u.1 with | some u => (match σ[u.2]? with | some (some (.ref p)) => p | _ => 0) | none => 0) = p
      rw [findU (firsts (as := as) (n := 0)).1 hu']
      simp only [e]
    have hvB : Ex Z.B (less H2 isU) := less_of ok2.hv.b fun a h => (uB a h).1
    have hvF : Ex F2 (less H2 isU) := less_of ok2.hv.f fun a h => (uB a h).2
    refine ⟨⟨less H2 isU, F2, H2, Pa⟩, F2, ds, rfl, rfl, ⟨less_ex, Ex.refl F2, ok2.hv.f, fun _ h => h, fun _ h => .inl h⟩, ?_, fun i j h1 h2 h3 => ?_, o, e2, fun v F3 H3 ro => ?_⟩
    · -- the arguments
      have go : ∀ {bs : List AK} {n : Nat} {ds : List D} {vs : List V}, (∀ u ∈ usOf n bs, u ∈ usOf 0 as) → (∀ j ∈ hosOf bs, j ∈ hosOf as) → RepsA T Z F2 H2 σ bs ds vs → RepsK T ⟨less H2 isU, F2, H2, Pa⟩ F2 H2 n (bs.map AK.pk) ds vs := by
        intro bs
        induction bs with
        | nil => intro n ds vs _ _ h; exact h
        | cons b bs ih =>
          intro n ds vs hs hj r
          obtain ⟨d, ds', v, vs', a1, a2, c, r⟩ := r
          have hs' : ∀ u ∈ usOf (n + 1) bs, u ∈ usOf 0 as := fun u h => hs u (by cases b <;> simp only [usOf] <;> first | exact h | exact List.mem_cons_of_mem _ h)
          have hj' : ∀ j ∈ hosOf bs, j ∈ hosOf as := fun j h => hj j (by cases b <;> simp only [hosOf] <;> first | exact h | exact List.mem_cons_of_mem _ h)
          refine ⟨d, ds', v, vs', a1, a2, ?_, ih hs' hj' r⟩
          cases b with
          | f => exact c
          | hf => exact Rep.mono hvF c
          | hb => exact Rep.mono hvB c
          | ho j =>
            obtain ⟨p, rfl, e, k⟩ := c
            have hjm : j ∈ hosOf as := hj j (by simp [hosOf])
            obtain ⟨s, p', d', q1, q2, q3, _⟩ := adr j (ho _ (List.mem_append_right _ hjm))
            have np := notU q1 q2 e (hh j hjm)
            obtain ⟨o', z1, z2⟩ := k.there
            exact z2 _ hvF (by show less H2 isU p = some o'; rw [less_at np]; exact z1)
          | u i =>
            obtain ⟨p, rfl, e, k⟩ := c
            have hum : (n, i) ∈ usOf 0 as := hs _ (by simp [usOf])
            have ep : Pa n = p := PaU (n, i) hum p e
            have hup : isU p := ⟨(n, i), hum, e⟩
            refine ⟨by show V.ref p = V.ref (Pa n); rw [ep], ?_, ?_, ?_⟩
            · show less H2 isU (Pa n) = none; rw [ep]; exact less_no hup
            · show F2 (Pa n) = none; rw [ep]; exact (uB p hup).2
            · show OwnC T F2 H2 (Pa n) d; rw [ep]; exact k
      exact go (fun u h => h) (fun j h => h) r
    · -- different places, different addresses
      have fu : ∀ {i : Nat}, (as.map AK.pk)[i]? = some PK.u → ∃ sl, (i, sl) ∈ usOf 0 as := by
        have : ∀ {bs : List AK} {n i : Nat}, (bs.map AK.pk)[i]? = some PK.u → ∃ sl, (n + i, sl) ∈ usOf n bs := by
          intro bs
          induction bs with
          | nil => intro n i h; simp at h
          | cons b bs ih =>
            intro n i h
            cases i with
            | zero =>
              cases b <;> simp only [List.map_cons, List.getElem?_cons_zero, AK.pk, Option.some.injEq] at h <;> first | (cases h; done) | skip
              exact ⟨_, by simp [usOf]; exact .inl rfl⟩
            | succ i =>
              obtain ⟨sl, hsl⟩ := ih (n := n + 1) (i := i) (by simpa using h)
              have e : n + 1 + i = n + (i + 1) := by omega
              rw [e] at hsl
              exact ⟨sl, by cases b <;> simp only [usOf] <;> first | exact hsl | exact List.mem_cons_of_mem _ hsl⟩
        intro i h
        have := this (n := 0) h
        simpa using this
      obtain ⟨s1, m1⟩ := fu h1
      obtain ⟨s2, m2⟩ := fu h2
      obtain ⟨t1, p1, d1, a1, a2, a3, _⟩ := uAdr _ m1
      obtain ⟨t2, p2, d2, b1, b2, b3, _⟩ := uAdr _ m2
      have x1 := PaU _ m1 p1 a3
      have x2 := PaU _ m2 p2 b3
      simp only at x1 x2
      have h3' : Pa i = Pa j := h3
      rw [x1, x2] at h3'
      subst h3'
      have es : s1 = s2 := ok2.sep _ _ p1 t1 t2 a1 a2 b1 b2 a3 b3
      subst es
      -- the same slot stands once
      have := hu
      have uniq : ∀ {l : List (Nat × Nat)} {x y : Nat × Nat}, (l.map (·.2)).Nodup → x ∈ l → y ∈ l → x.2 = y.2 → x = y := by
        intro l
        induction l with
        | nil => intro x y _ h; cases h
        | cons z l ih =>
          intro x y hn hx hy e
          simp only [List.map_cons, List.nodup_cons] at hn
          rcases List.mem_cons.mp hx with x1 | x1
          · rcases List.mem_cons.mp hy with y1 | y1
            · rw [x1, y1]
            · exact (hn.1 (List.mem_map.mpr ⟨y, y1, by rw [← e, x1]⟩)).elim
          · rcases List.mem_cons.mp hy with y1 | y1
            · exact (hn.1 (List.mem_map.mpr ⟨x, x1, by rw [e, y1]⟩)).elim
            · exact ih hn.2 x1 y1 e
      have := uniq hu m1 m2 rfl
      exact (Prod.mk.inj this).1
    · -- behind the call
      refine q v F3 H3 ?_ ro.rep
      have cont : ∀ u ∈ usOf 0 as, F3 (Pa u.1) = none ∧ OwnC T F3 H3 (Pa u.1) (cU o u.1) := fun u hu' => by
        have h := List.all_eq_true.mp hall u hu'
        obtain ⟨c, hc⟩ := Option.isSome_iff_exists.mp h
        have hmem : (u.1, c) ∈ o.2 := by
          have : ∀ {l : List (Nat × D)}, l.lookup u.1 = some c → (u.1, c) ∈ l := by
            intro l
            induction l with
            | nil => intro h; cases h
            | cons x l ih =>
              intro h
              obtain ⟨x1, x2⟩ := x
              by_cases e : u.1 = x1
              · have e' : (u.1 == x1) = true := by simp [e]
                rw [List.lookup, e'] at h
                cases h
                rw [e]; exact List.mem_cons_self ..
              · have e' : (u.1 == x1) = false := by simpa using e
                rw [List.lookup, e'] at h
                exact List.mem_cons_of_mem _ (ih h)
          exact this hc
        have := ro.mus _ hmem
        unfold cU
        rw [hc]
        exact this
      refine ⟨⟨hvB.trans ro.hv.b, ok2.hv.f0.trans ro.hv.f0, ro.hv.f, fun a h => ro.hv.dom a (ok2.hv.dom a h), fun a h => ?_⟩, by rw [updU_len]; exact ok2.len, fun i s e => ?_, fun i j p s t x1 o1 x2 o2 y1 y2 => ?_⟩
      · rcases ro.hv.new a h with z | z
        · exact ok2.hv.new a z
        · refine .inr ?_
          cases y : Z.H a with
          | none => rfl
          | some u => exact absurd z (ok2.hv.dom a (by rw [y]; simp))
      · rcases updU_at hu e with ⟨a, b⟩ | ⟨k, s', a, b, rfl⟩
        · have old := ok2.at' i s b
          cases s <;> simp only [SlotOk] at old ⊢
          · obtain ⟨v, c1, c2⟩ := old; exact ⟨v, c1, c2.mono ro.hv.f0⟩
          · exact old
          · obtain ⟨p, c1, c2, c3, c4, c5⟩ := old
            have np := notU b rfl c1 a
            obtain ⟨ob, z1, z2⟩ := c4.there
            have h3 : H3 p = some ob := ro.hv.b p ob (by show less H2 isU p = some ob; rw [less_at np]; exact z1)
            have f3 : F3 p = none := by
              cases y : F3 p with
              | none => rfl
              | some u =>
                rcases ro.hv.new p (by rw [y]; simp) with z | z
                · exact absurd c3 z
                · have z' : H2 p = none := z
                  rw [z1] at z'; cases z'
            exact ⟨p, c1, c2, f3, c4.same ro.hv.f0 z1 h3, c5⟩
          · obtain ⟨p, c1, c0, c2, c3, c4⟩ := old
            have np := notU b rfl c1 a
            obtain ⟨ob, z1, z2⟩ := c4.there
            have h3 : H3 p = some ob := ro.hv.b p ob (by show less H2 isU p = some ob; rw [less_at np]; exact z1)
            have f3 : F3 p = none := by
              cases y : F3 p with
              | none => rfl
              | some u =>
                rcases ro.hv.new p (by rw [y]; simp) with z | z
                · exact absurd c3 z
                · have z' : H2 p = none := z
                  rw [z1] at z'; cases z'
            exact ⟨p, c1, c0, c2, f3, c4.same ro.hv.f0 z1 h3⟩
        · obtain ⟨s0, p, d, q1, q2, q3, q4, q5, q6⟩ := uAdr _ a
          simp only at q1 q3
          rw [b] at q1; cases q1
          have pa := PaU _ a p q3
          obtain ⟨k1, k2⟩ := cont _ a
          rw [pa] at k1 k2
          have old := ok2.at' i s' b
          cases s' <;> simp only [Slot.isOwn] at q2 <;> first | (cases q2; done) | skip
          · obtain ⟨p', c1, c2, c3, c4, c5⟩ := old
            rw [q3] at c1; cases c1
            exact ⟨p, q3, c2, k1, k2, c5⟩
          · obtain ⟨p', c1, c0, c2, c3, c4⟩ := old
            rw [q3] at c1; cases c1
            exact ⟨p, q3, c0, c2, k1, k2⟩
      · have f : ∀ {i : Nat} {s : Slot}, (updU Γ (usOf 0 as) o)[i]? = some s → s.isOwn = true → ∃ s', Γ[i]? = some s' ∧ s'.isOwn = true := fun {i s} e w => by
          rcases updU_at hu e with ⟨_, b⟩ | ⟨k, s', _, b, rfl⟩
          · exact ⟨s, b, w⟩
          · exact ⟨s', b, by rw [Slot.put_own] at w; exact w⟩
        obtain ⟨s', q1, q2⟩ := f x1 o1
        obtain ⟨t', q3, q4⟩ := f x2 o2
        exact ok2.sep i j p s' t' q1 q2 q3 q4 y1 y2
  · cases h2
end
end Mi
/-! small things: chains, signs, calls by arity, the order of blocks -/
namespace Mi
open PySem L2
open PyProof.Rows
open Evl (Ex ex_t ex_l ex_rd fresh_back)
section
variable {ω α β : Type} {T : Th} {Γ : Ctx} {md : Md} {ta tb tc te : TE} {ma mb mc m : Option D} {r r' : R2} {f g : D → D → Option D} {t u v : TS} {P : Base → Ends → ω → Prop}
/-- a < b < c -/
def oChain (f g : D → D → Option D) (a b c : Option D) : Option D := a.bind fun x => b.bind fun y => (f x y).bind fun z => (tru z).bind fun k => if k = true then c.bind fun w => g y w else some (.bl false)
theorem ev_chain (hf : OpS T r f) (hg : OpS T r' g) (ha : Ev T .h ta Γ ma) (hb : Ev T .h tb Γ mb) (hc : Ev T .h tc Γ mc) : Ev T md (tChain r r' ta tb tc) Γ (oChain f g ma mb mc) := fun Z F H σ ok d hd Q q => by
  obtain ⟨x, e1, n1⟩ := bind_inv hd
  obtain ⟨y, e2, n2⟩ := bind_inv n1
  obtain ⟨z, e3, n3⟩ := bind_inv n2
  obtain ⟨k, e4, n4⟩ := bind_inv n3
  refine ha Z F H σ ok x e1 _ fun v F2 H2 g1 r1 => hb Z F2 H2 σ (ok.grow g1) y e2 _ fun w F3 H3 g2 r2 => ?_
  refine hf H3 v w x y z (r1.mono g2.h) r2 e3 _ fun z' hz => ?_
  have hzb := tru_inv e4
  subst hzb
  have := hz H3
  simp only [Rep] at this
  subst this
  refine ⟨k, rfl, ?_⟩
  cases k with
  | false =>
    cases n4
    exact q _ F3 H3 (g1.trans g2) (by simp only [Rep])
  | true =>
    simp only [if_true] at n4 ⊢
    obtain ⟨w', e5, e6⟩ := bind_inv n4
    refine hc Z F3 H3 σ ((ok.grow g1).grow g2) w' e5 _ fun u' F4 H4 g3 r3 => ?_
    exact hg H4 w u' y w' d (r2.mono g3.h) r3 e6 Q fun o ho => q o F4 H4 ((g1.trans g2).trans g3) (ho _)
theorem ev_neg (ha : Ev T .h ta Γ ma) : Ev T md (tUn (rU fun i => .int (-i)) ta) Γ (o1 dNeg ma) := fun Z F H σ ok d hd Q q => by
  obtain ⟨x, e1, e2⟩ := o1_inv hd
  refine ha Z F H σ ok x e1 _ fun v F2 H2 g r => ?_
  cases x <;> simp only [dNeg] at e2 <;> try (cases e2; done)
  cases e2
  simp only [Rep] at r
  exact ⟨_, r, q _ F2 H2 g (by simp only [Rep])⟩
theorem b_assoc {m : Option ω} (h : B T (tSeq t (tSeq u v)) Γ m P) : B T (tSeq (tSeq t u) v) Γ m P := h
theorem b_nextv {m : Option ω} (h : B T v Γ m P) : B T (tSeq tNext v) Γ m P := h
end
def f0 {α : Type} (f : Option α) : List D → Option α
  | [] => f
  | _ => none
def f3 {α : Type} (f : D → D → D → Option α) : List D → Option α
  | [a, b, c] => f a b c
  | _ => none
def f4 {α : Type} (f : D → D → D → D → Option α) : List D → Option α
  | [a, b, c, d] => f a b c d
  | _ => none
def f5 {α : Type} (f : D → D → D → D → D → Option α) : List D → Option α
  | [a, b, c, d, e] => f a b c d e
  | _ => none
def f6 {α : Type} (f : D → D → D → D → D → D → Option α) : List D → Option α
  | [a, b, c, d, e, g] => f a b c d e g
  | _ => none
def f7 {α : Type} (f : D → D → D → D → D → D → D → Option α) : List D → Option α
  | [a, b, c, d, e, g, h] => f a b c d e g h
  | _ => none
def f8 {α : Type} (f : D → D → D → D → D → D → D → D → Option α) : List D → Option α
  | [a, b, c, d, e, g, h, i] => f a b c d e g h i
  | _ => none

/-! ### what the rules of a name ask, a def that may be called, the law's end -/
section
variable {P : Program} {w : World} {K : PySem.W.Frag} {mg : Str → Option Value} {base : Heap} {X : Cx}
theorem pe_gint {x : Str} {n : Int} {pos : Pos} (hg : Gl X x) (hm : ∃ t, X.mg x = some (.int n t)) (hd : (x == ("__debug__" : Str)) = false := by decide) : PE X (.Name x pos) (tC (.int n)) := by
  obtain ⟨t, h⟩ := hm
  exact pe_glob hg h ⟨_, rfl⟩ hd
theorem pe_gstr {x : Str} {n : Str} {pos : Pos} (hg : Gl X x) (hm : ∃ t, X.mg x = some (.str n t)) (hd : (x == ("__debug__" : Str)) = false := by decide) : PE X (.Name x pos) (tC (.str n)) := by
  obtain ⟨t, h⟩ := hm
  exact pe_glob hg h ⟨_, rfl⟩ hd
/-- a def that may be called by its name -/
structure Cl (P : Program) (w : World) (K : PySem.W.Frag) (mg : Str → Option Value) (base : Heap) (k : Nat) (x : Str) (ps : List Str) (sp : Sp) : Prop where
  ex : ∃ f fd, FnOk P w K mg base CX0 k f fd ps sp ∧ mg x = some (.ref f) ∧ PySem.W.keepIn K (.ref f) = true ∧ Binds K fd ps []
theorem pe_cl {k j : Nat} {x : Str} {ps : List Str} {sp : Sp} {e : Expr} {es : List Expr} {t : TA} {p pos : Pos} (C : Cl X.prog X.w X.K X.mg X.base j x ps sp) (hr : Room k X.A) (hg : Gl X x) (ha : PA X (e :: es) t) (hjk : j ≤ k := by decide)
    (hd : (x == ("__debug__" : Str)) = false := by decide) (he : starEach (e :: es) X.env = (false, eval e X.env) :: starEach es X.env := by rfl) (hpl : (backTo pos (starEach es X.env)).any (·.1) = false := by rfl) : PE X (.Call (.Name x p) (e :: es) [] pos) (tCall sp [] (fun _ _ _ => False) t) := by
  obtain ⟨f, fd, F, hm, hk, hb⟩ := C.ex
  exact pe_call (F.mono hjk) hr hg hm hk hb .nil pass0 ha hd he hpl
def spTrue (K : PySem.W.Frag) : Sp := fun vs H Q _ => ∃ (a : Addr) (ns : List Int), vs = [.ref a] ∧ SqL K H a (ns.map V.int) ∧ ns.length ≤ 63 ∧ ∀ H', Q (.bl true) H'
theorem law_true {T : Th} {f : Addr} {fd : FuncData} {k : Nat} {m : D → Option D} {ps : List Str} (F : FnOk P w T.K mg base CX0 k f fd ps (spU T [.f] (pur (f1 m)))) (h : ∀ ns : List Int, ns.length ≤ 63 → m (.scr ns) = some (.bl true)) :
    FnOk P w T.K mg base CX0 k f fd ps (spTrue T.K) := F.imp fun vs H Q E hq => by
  obtain ⟨a, ns, hv, hs, hl, q⟩ := hq
  subst hv
  refine ⟨⟨H, H, H, fun _ => 0⟩, H, [.scr ns], rfl, rfl, ⟨Ex.refl _, Ex.refl _, Ex.refl _, fun _ h => h, fun _ h => .inl h⟩, ⟨_, _, _, _, rfl, rfl, ?_, rfl, rfl⟩, fun i j h1 => ?_, (.bl true, []), ?_, fun v F2 H2 r => ?_⟩
  · simp only [Rep]; exact ⟨a, rfl, hs⟩
  · cases i with
    | zero => simp at h1
    | succ i => simp at h1
  · show (m (.scr ns)).map (fun d => (d, [])) = _
    rw [h ns hl]; rfl
  · have := r.rep
    simp only [Rep] at this
    subst this
    exact q H2
end
theorem law_walk {l : PySem.W.OpenLaw} {q : Program} {loose : List Str} {XP : (Str → Option Value) → Heap → Prop} {YP : World → Heap → Prop} {d : DefRec} {K : Params → PySem.W.Frag} {k : Nat} (hn : l.most = some 63) (hdf : d.params.defaults = []) (hr : Room k callerA)
    (hY : ∀ (w : World) (h : Heap), YP w h → (K w.params).In h)
    (F : ∀ (w : World) (mg : Str → Option Value) (fa : Addr) (h : Heap), (K w.params).In h → h.Ns mainGlobals mg → mg d.name = some (.ref fa) →
      ∃ fd : FuncData, (∀ (s : Shared) (u : Value), BindsTo s fd ⟨[u], []⟩ [("script", u)]) ∧ ∀ base : Heap, (K w.params).In base → base.Ns mainGlobals mg → FnOk l.prog w (K w.params) mg base CX0 k fa fd ["script"] (spTrue (K w.params))) :
    PySem.W.WalkO q loose XP YP l.row.toRowW d [] (fun f vs => PySem.call f vs) :=
  L2.walk_of (n := 63) (k := k) (x := "script") (CX := fun _ => CX0) (sp := fun w => spTrue (K w.params)) hn (by decide) hdf hr hY F (fun _ _ a ns hl _ hS => ⟨a, ns, rfl, hS, hl, fun _ => rfl⟩) fun _ _ _ _ _ z => z
end Mi
/-! calls by arity -/
namespace Mi
instance : DecidableEq Md := fun a b => by cases a <;> cases b <;> first | exact isTrue rfl | exact isFalse (fun h => by cases h)
open PySem L2
abbrev c1 {α : Type} (f : D → Option α) (a : Option D) : Option α := o1 (f1 f) (oCons a (some []))
abbrev c2 {α : Type} (f : D → D → Option α) (a b : Option D) : Option α := o1 (f2 f) (oCons a (oCons b (some [])))
abbrev c3 {α : Type} (f : D → D → D → Option α) (a b c : Option D) : Option α := o1 (f3 f) (oCons a (oCons b (oCons c (some []))))
abbrev c4 {α : Type} (f : D → D → D → D → Option α) (a b c d : Option D) : Option α := o1 (f4 f) (oCons a (oCons b (oCons c (oCons d (some [])))))
abbrev c5 {α : Type} (f : D → D → D → D → D → Option α) (a b c d e : Option D) : Option α := o1 (f5 f) (oCons a (oCons b (oCons c (oCons d (oCons e (some []))))))
abbrev c6 {α : Type} (f : D → D → D → D → D → D → Option α) (a b c d e g : Option D) : Option α := o1 (f6 f) (oCons a (oCons b (oCons c (oCons d (oCons e (oCons g (some [])))))))
abbrev c7 {α : Type} (f : D → D → D → D → D → D → D → Option α) (a b c d e g h : Option D) : Option α := o1 (f7 f) (oCons a (oCons b (oCons c (oCons d (oCons e (oCons g (oCons h (some []))))))))
abbrev c8 {α : Type} (f : D → D → D → D → D → D → D → D → Option α) (a b c d e g h i : Option D) : Option α := o1 (f8 f) (oCons a (oCons b (oCons c (oCons d (oCons e (oCons g (oCons h (oCons i (some [])))))))))
@[simp] theorem c1_s {α : Type} (f : D → Option α) (a : D) : c1 f (some a) = f a := id rfl
@[simp] theorem c2_s {α : Type} (f : D → D → Option α) (a b : D) : c2 f (some a) (some b) = f a b := id rfl
@[simp] theorem c3_s {α : Type} (f : D → D → D → Option α) (a b c : D) : c3 f (some a) (some b) (some c) = f a b c := id rfl
@[simp] theorem c4_s {α : Type} (f : D → D → D → D → Option α) (a b c d : D) : c4 f (some a) (some b) (some c) (some d) = f a b c d := id rfl
@[simp] theorem c5_s {α : Type} (f : D → D → D → D → D → Option α) (a b c d e : D) : c5 f (some a) (some b) (some c) (some d) (some e) = f a b c d e := id rfl
@[simp] theorem c6_s {α : Type} (f : D → D → D → D → D → D → Option α) (a b c d e g : D) : c6 f (some a) (some b) (some c) (some d) (some e) (some g) = f a b c d e g := id rfl
@[simp] theorem c7_s {α : Type} (f : D → D → D → D → D → D → D → Option α) (a b c d e g h : D) : c7 f (some a) (some b) (some c) (some d) (some e) (some g) (some h) = f a b c d e g h := id rfl
@[simp] theorem c8_s {α : Type} (f : D → D → D → D → D → D → D → D → Option α) (a b c d e g h i : D) : c8 f (some a) (some b) (some c) (some d) (some e) (some g) (some h) (some i) = f a b c d e g h i := id rfl
section
variable {T : Th} {Γ Γ' : Ctx} {md : Md} {te : TE} {m : Option D} {ta : TA} {ks : List PK} {ms : Option (List D)} {f : List D → Option D}
theorem ev_le (h : Le Γ Γ') (he : Ev T md te Γ' m) : Ev T md te Γ m := fun Z F H σ ok => he Z F H σ (ok.le h)
theorem evo_le (h : Le Γ Γ') (he : EvO T te Γ' m) : EvO T te Γ m := fun Z F H σ ok => he Z F H σ (ok.le h)
theorem ev_callO {E : XK} (hu : noU ks = true) (ha : EvA T ta Γ (ks.map kMd) ms) (hm : md.fh = true := by rfl) : Ev T md (tCall (spU T ks (pur f)) [] E ta) Γ (o1 f ms) := ev_call hu ha hm
end
end Mi
/-! plain laws of the mirrors' parts -/
namespace Mi
open PySem L2
@[simp] theorem oCons_some (a : D) (l : List D) : oCons (some a) (some l) = some (a :: l) := id rfl
@[simp] theorem f1_s {α : Type} (f : D → Option α) (a : D) : f1 f [a] = f a := id rfl
@[simp] theorem f2_s {α : Type} (f : D → D → Option α) (a b : D) : f2 f [a, b] = f a b := id rfl
@[simp] theorem f3_s {α : Type} (f : D → D → D → Option α) (a b c : D) : f3 f [a, b, c] = f a b c := id rfl
@[simp] theorem f4_s {α : Type} (f : D → D → D → D → Option α) (a b c d : D) : f4 f [a, b, c, d] = f a b c d := id rfl
@[simp] theorem f5_s {α : Type} (f : D → D → D → D → D → Option α) (a b c d e : D) : f5 f [a, b, c, d, e] = f a b c d e := id rfl
@[simp] theorem f6_s {α : Type} (f : D → D → D → D → D → D → Option α) (a b c d e g : D) : f6 f [a, b, c, d, e, g] = f a b c d e g := id rfl
@[simp] theorem f7_s {α : Type} (f : D → D → D → D → D → D → D → Option α) (a b c d e g h : D) : f7 f [a, b, c, d, e, g, h] = f a b c d e g h := id rfl
@[simp] theorem f8_s {α : Type} (f : D → D → D → D → D → D → D → D → Option α) (a b c d e g h i : D) : f8 f [a, b, c, d, e, g, h, i] = f a b c d e g h i := id rfl
@[simp] theorem dAdd_ii (a b : Int) : dAdd (.int a) (.int b) = some (.int (a + b)) := id rfl
@[simp] theorem dAddI_ii (a b : Int) : dAddI (.int a) (.int b) = some (.int (a + b)) := id rfl
@[simp] theorem dSub_ii (a b : Int) : dSub (.int a) (.int b) = some (.int (a - b)) := id rfl
@[simp] theorem dNeg_i (a : Int) : dNeg (.int a) = some (.int (-a)) := id rfl
@[simp] theorem dInt_i (a : Int) : dInt (.int a) = some (.int a) := id rfl
@[simp] theorem dInt_b (b : Bool) : dInt (.bl b) = some (.int (if b then 1 else 0)) := id rfl
@[simp] theorem dLt_ii (a b : Int) : dLt (.int a) (.int b) = some (.bl (decide (a < b))) := id rfl
@[simp] theorem dLe_ii (a b : Int) : dLe (.int a) (.int b) = some (.bl (decide (a ≤ b))) := id rfl
@[simp] theorem dGt_ii (a b : Int) : dGt (.int a) (.int b) = some (.bl (decide (b < a))) := id rfl
@[simp] theorem dGe_ii (a b : Int) : dGe (.int a) (.int b) = some (.bl (decide (b ≤ a))) := id rfl
theorem dMod_ii {a b : Int} (h : 0 < b) : dMod (.int a) (.int b) = some (.int (a % b)) := if_pos h
theorem dDiv_ii {a b : Int} (h : 0 < b) (h2 : b < 1073741824) : dDiv (.int a) (.int b) = some (.int (a / b)) := if_pos ⟨h, h2⟩
theorem dMul_l {a b : Int} (h : smallI a) : dMul (.int a) (.int b) = some (.int (a * b)) := if_pos (.inl h)
theorem dMul_r {a b : Int} (h : smallI b) : dMul (.int a) (.int b) = some (.int (a * b)) := if_pos (.inr h)
theorem dPow_ii {a b : Int} (h : 0 ≤ b ∧ b ≤ 1000000 ∧ a.natAbs < 18446744073709551616) : dPow (.int a) (.int b) = some (.int (a ^ b.toNat)) := if_pos h
@[simp] theorem dLen_lst (ds : List D) : dLen (.lst ds) = some (.int ds.length) := id rfl
@[simp] theorem dLen_tup (ds : List D) : dLen (.tup ds) = some (.int ds.length) := id rfl
@[simp] theorem dLen_scr (ds : List Int) : dLen (.scr ds) = some (.int ds.length) := id rfl
@[simp] theorem dItems_lst (ds : List D) : dItems (.lst ds) = some ds := id rfl
@[simp] theorem dItems_tup (ds : List D) : dItems (.tup ds) = some ds := id rfl
@[simp] theorem dSeq_lst (ds : List D) : dSeq (.lst ds) = some ds := id rfl
@[simp] theorem dSeq_tup (ds : List D) : dSeq (.tup ds) = some ds := id rfl
theorem dLst_s {ds : List D} (h : ds.length ≤ 16777216) : dLst ds = some (.lst ds) := if_pos h
theorem dTup_s {ds : List D} (h : ds.length ≤ 16777216) : dTup ds = some (.tup ds) := if_pos h
theorem dApp_s {ds : List D} {d : D} (h : ds.length < 16777216) : dApp (.lst ds) d = some (.lst (ds ++ [d])) := if_pos h
@[simp] theorem oChain_s (f g : D → D → Option D) (x y : D) (c : Option D) : oChain f g (some x) (some y) c = (f x y).bind fun z => (tru z).bind fun k => if k = true then c.bind fun w => g y w else some (.bl false) := id rfl
@[simp] theorem chk_non : chk .non = some .non := id rfl
theorem atI_at {α : Type} {xs : List α} {j : Nat} (h : j < xs.length) : atI xs (j : Int) = some xs[j] := atI_nat (List.getElem?_eq_getElem h)
theorem atI_int {α : Type} {xs : List α} {i : Int} (h0 : 0 ≤ i) (h : i.toNat < xs.length) : atI xs i = some xs[i.toNat] := by
  have : i = (i.toNat : Int) := by omega
  conv => lhs; rw [this]
  exact atI_at h
@[simp] theorem atI_0 {α : Type} (x : α) (xs : List α) : atI (x :: xs) 0 = some x := atI_nat (j := 0) rfl
@[simp] theorem atI_1 {α : Type} (x y : α) (xs : List α) : atI (x :: y :: xs) 1 = some y := atI_nat (j := 1) rfl
@[simp] theorem atI_2 {α : Type} (x y z : α) (xs : List α) : atI (x :: y :: z :: xs) 2 = some z := atI_nat (j := 2) rfl
@[simp] theorem atI_3 {α : Type} (x y z a : α) (xs : List α) : atI (x :: y :: z :: a :: xs) 3 = some a := atI_nat (j := 3) rfl
@[simp] theorem atI_4 {α : Type} (x y z a b : α) (xs : List α) : atI (x :: y :: z :: a :: b :: xs) 4 = some b := atI_nat (j := 4) rfl
@[simp] theorem atI_5 {α : Type} (x y z a b c : α) (xs : List α) : atI (x :: y :: z :: a :: b :: c :: xs) 5 = some c := atI_nat (j := 5) rfl
@[simp] theorem atI_6 {α : Type} (x y z a b c d : α) (xs : List α) : atI (x :: y :: z :: a :: b :: c :: d :: xs) 6 = some d := atI_nat (j := 6) rfl
@[simp] theorem atI_7 {α : Type} (x y z a b c d e : α) (xs : List α) : atI (x :: y :: z :: a :: b :: c :: d :: e :: xs) 7 = some e := atI_nat (j := 7) rfl
@[simp] theorem atI_8 {α : Type} (x y z a b c d e f : α) (xs : List α) : atI (x :: y :: z :: a :: b :: c :: d :: e :: f :: xs) 8 = some f := atI_nat (j := 8) rfl
@[simp] theorem dIx_lst (ds : List D) (i : Int) : dIx (.lst ds) (.int i) = atI ds i := id rfl
@[simp] theorem dIx_tup (ds : List D) (i : Int) : dIx (.tup ds) (.int i) = atI ds i := id rfl
@[simp] theorem dIx_scr (ds : List Int) (i : Int) : dIx (.scr ds) (.int i) = (atI ds i).map D.int := id rfl
/-! loops -/
theorem foldO_inv {β ι : Type} {f : β → ι → Option β} (I : Nat → β → Prop) : ∀ (ds : List ι) (k : Nat) (b : β), I k b → (∀ i (h : i < ds.length) b, I (k + i) b → ∃ b', f b ds[i] = some b' ∧ I (k + i + 1) b') → ∃ b', foldO f ds b = some b' ∧ I (k + ds.length) b'
  | [], k, b, h, _ => ⟨b, rfl, h⟩
  | d :: ds, k, b, h, hs => by
    obtain ⟨b1, e1, i1⟩ := hs 0 (by simp) b h
    obtain ⟨b2, e2, i2⟩ := foldO_inv I ds (k + 1) b1 i1 fun i hi b hb => by
      have := hs (i + 1) (by simpa using hi) b (by rw [show k + (i + 1) = k + 1 + i by omega]; exact hb)
      rw [show k + (i + 1) + 1 = k + 1 + i + 1 by omega] at this
      simpa using this
    refine ⟨b2, ?_, by rw [show k + (d :: ds).length = k + 1 + ds.length by simp; omega]; exact i2⟩
    rw [foldO_cons]
    have e1' : f b d = some b1 := e1
    rw [e1']
    exact e2
theorem foldO_inv0 {β ι : Type} {f : β → ι → Option β} (I : Nat → β → Prop) (ds : List ι) (b : β) (h0 : I 0 b) (hs : ∀ i (h : i < ds.length) b, I i b → ∃ b', f b ds[i] = some b' ∧ I (i + 1) b') : ∃ b', foldO f ds b = some b' ∧ I ds.length b' := by
  obtain ⟨b', e, i⟩ := foldO_inv I ds 0 b h0 fun i h b hb => by
    have := hs i h b (by simpa using hb)
    simpa using this
  exact ⟨b', e, by simpa using i⟩
theorem ranged_len (a b : Int) : (ranged a b).length = (b - a).toNat := by simp [ranged]
theorem ranged_get {a b : Int} {i : Nat} (h : i < (ranged a b).length) : (ranged a b)[i] = .int (a + (i : Nat)) := by simp [ranged]
theorem dRange1_s {n : Int} (h : -(2 ^ 62) ≤ n ∧ n < 2 ^ 62) : dRange1 [.int n] = some (ranged 0 n) := if_pos h
theorem dRange2_s {a b : Int} (h : (-(2 ^ 62) ≤ a ∧ a < 2 ^ 62) ∧ -(2 ^ 62) ≤ b ∧ b < 2 ^ 62) : dRange2 [.int a, .int b] = some (ranged a b) := if_pos h
/-- a comprehension that keeps by p -/
theorem compO_filter {ι : Type} {f : ι → Option (Option D)} {p : ι → Bool} {g : ι → D} : ∀ {ds : List ι}, (∀ d ∈ ds, f d = some (if p d = true then some (g d) else none)) → compO f ds = some ((ds.filter p).map g)
  | [], _ => rfl
  | d :: ds, h => by
    rw [compO_cons, h d (by simp), compO_filter (ds := ds) fun e he => h e (by simp [he])]
    cases q : p d <;> simp [q, optC]
theorem compO_map {ι : Type} {f : ι → Option (Option D)} {g : ι → D} {ds : List ι} (h : ∀ d ∈ ds, f d = some (some (g d))) : compO f ds = some (ds.map g) := by
  rw [compO_filter (p := fun _ => true) (g := g) (by intro d hd; rw [h d hd]; rfl)]
  have : List.filter (fun _ => true) ds = ds := by
    rw [List.filter_eq_self]; intro a _; rfl
  rw [this]
theorem dComp_filter {ι : Type} {f : ι → Option (Option D)} {p : ι → Bool} {g : ι → D} {ds : List ι} (hl : ds.length ≤ 16777216) (h : ∀ d ∈ ds, f d = some (if p d = true then some (g d) else none)) : dComp f ds = some (.lst ((ds.filter p).map g)) := by
  unfold dComp; rw [if_pos hl, compO_filter h]; rfl
theorem dComp_map {ι : Type} {f : ι → Option (Option D)} {g : ι → D} {ds : List ι} (hl : ds.length ≤ 16777216) (h : ∀ d ∈ ds, f d = some (some (g d))) : dComp f ds = some (.lst (ds.map g)) := by
  unfold dComp; rw [if_pos hl, compO_map h]; rfl
/-- a loop that leaves at the first bad one -/
theorem loopO_all {β ι γ : Type} {f : β → ι → Option (Out β β)} {p : ι → Bool} {b : β} {r : D} : ∀ {ds : List ι}, (∀ d ∈ ds, f b d = some (if p d = true then .nx b else .rt r [])) → loopO (γ := γ) f ds b = some (if ds.all p = true then .nx b else .rt r [])
  | [], _ => rfl
  | d :: ds, h => by
    rw [loopO_cons, h d (by simp)]
    cases q : p d with
    | false => simp [q]
    | true =>
      simp only [if_true, Option.bind_some, List.all_cons, q, Bool.true_and]
      exact loopO_all fun e he => h e (by simp [he])
end Mi
/-! what the defs compute -/
namespace Mi
open PySem L2
def m_law_draw_L1 (x_cell : D) (x_bounds : D) (x_b3 : D × D) (x_d5 : D) : Option (D × D) :=
  (((o1 tru (o2 dGe (some x_cell) (o2 dPow (some (.int 10)) (some (.int 18))))).bind fun c => if c = true then
  (((o2 dMod (c1 dInt (some x_b3.1)) (o2 dIx (some x_bounds) (some x_d5))).bind fun e => dApp x_b3.2 e).bind fun x_found7 =>
  ((o2 dDiv (some x_b3.1) (o2 dIx (some x_bounds) (some x_d5))).bind fun x_rest8 =>
  (some (x_rest8, x_found7))))
  else
  ((o2 dMod (c1 dInt (o2 dAdd (o2 dAdd (o2 dMul (o2 dMod (c1 dInt (some x_cell)) (some (.int 1000003))) (some (.int 48271))) (o2 dMul (some x_d5) (some (.int 69621)))) (some (.int 11)))) (some (.int 2147483647))).bind fun x_mixed9 =>
  ((o2 dMod (c1 dInt (o2 dAdd (o2 dMul (some x_mixed9) (some (.int 16807))) (some x_d5))) (some (.int 2147483647))).bind fun x_mixed10 =>
  (((o2 dMod (c1 dInt (o2 dDiv (some x_mixed10) (some (.int 7)))) (o2 dIx (some x_bounds) (some x_d5))).bind fun e => dApp x_b3.2 e).bind fun x_found11 =>
  (some (x_b3.1, x_found11)))))).bind fun (x_j6 : D × D) =>
  (some (x_j6.1, x_j6.2)))
def m_law_draw (x_cell x_bounds : D) : Option D :=
  ((o1 dLst (some [])).bind fun x_found1 =>
  ((o2 dSub (some x_cell) (o2 dPow (some (.int 10)) (some (.int 18)))).bind fun x_rest2 =>
  (((o1 dRange1 (oCons (c1 dLen (some x_bounds)) (some []))).bind fun ds => foldO (m_law_draw_L1 x_cell x_bounds) ds (x_rest2, x_found1)).bind fun (x_b3 : D × D) =>
  (some x_b3.2))))
def m_law_cell (x_script x_k : D) : Option D :=
  ((o1 tru (o2 dLt (some x_k) (c1 dLen (some x_script)))).bind fun c => if c = true then
  (o2 dIx (some x_script) (some x_k))
  else
  (some (.int 0)))
def m_law_word_L1 (x_cell : D) (x_signs1 : D) (x_plain : D) (x_place : D) (x_b3 : D) (x_d5 : D) : Option (D) :=
  ((c2 m_law_draw (o2 dAdd (some x_cell) (some x_d5)) (o1 dLst (oCons (some (.int 36)) (oCons (c1 dLen (some x_signs1)) (oCons (some (.int 26)) (some [])))))).bind fun x_draw6 =>
  (((oOr (o1 tru (o2 dEq (some x_plain) (some (.int 0)))) (o1 tru (o2 dEq (some x_d5) (some x_place)))).bind fun c => if c = true then
  ((o2 dAdd (some x_b3) (o2 dIx (some x_signs1) (o2 dIx (some x_draw6) (some (.int 1))))).bind fun x_word8 =>
  (some x_word8))
  else
  (((o1 tru (o2 dEq (some x_d5) (some (.int 0)))).bind fun c => if c = true then
  ((o2 dAdd (some x_b3) (o2 dIx (some x_signs1) (o2 dIx (some x_draw6) (some (.int 2))))).bind fun x_word10 =>
  (some x_word10))
  else
  ((o2 dAdd (some x_b3) (o2 dIx (some x_signs1) (o2 dIx (some x_draw6) (some (.int 0))))).bind fun x_word11 =>
  (some x_word11))).bind fun (x_j9 : D) =>
  (some x_j9))).bind fun (x_j7 : D) =>
  (some x_j7)))
def m_law_word (x_cell x_size x_plain x_place : D) : Option D :=
  ((some (.str "abcdefghijklmnopqrstuvwxyz0123456789ABCDEFGHIJKLMNOPQRSTUVWXYZ !\"#$&'()*+,-./:;<=>?\x40[]^_`{|}~\n")).bind fun x_signs1 =>
  ((some (.str "")).bind fun x_word2 =>
  (((o1 dRange1 (oCons (some x_size) (some []))).bind fun ds => foldO (m_law_word_L1 x_cell x_signs1 x_plain x_place) ds x_word2).bind fun (x_b3 : D) =>
  (some x_b3))))
def m_law_says (x_told x_due : D) : Option D :=
  (oAndV (o1 (dIsi "bool") (some x_told)) (o2 dEq (some x_told) (some x_due)))
def m_is_name_L1 (x_b1 : Unit) (x_d3 : D) : Option (Out (Unit) (Unit)) :=
  ((oAnd (o1 tru (o2 dNotIn (some x_d3) (some (.str "abcdefghijklmnopqrstuvwxyz")))) (o1 tru (o2 dNotIn (some x_d3) (some (.str "0123456789"))))).bind fun c => if c = true then
  ((some (.bl false)).bind fun d => some (.rt d []))
  else
  (some (.nx ())))
def m_is_name (x_value : D) : Option D :=
  ((oOr (oNot (o1 tru (o1 (dIsi "str") (some x_value)))) (oNot (o1 tru (oChain dLe dLe (some (.int 1)) (c1 dLen (some x_value)) (some (.int 12)))))).bind fun c => if c = true then
  (some (.bl false))
  else
  ((o1 tru (o2 dNotIn (o2 dIx (some x_value) (some (.int 0))) (some (.str "abcdefghijklmnopqrstuvwxyz")))).bind fun c => if c = true then
  (some (.bl false))
  else
  (((o1 dItems (some x_value)).bind fun ds => loopO m_is_name_L1 ds ()).bind fun (o : Out (Unit) (Empty)) => o.thnD fun x_b1 =>
  (some (.bl true)))))
def m_is_integer (x_value : D) : Option D :=
  (oAndV (o1 (dIsi "int") (some x_value)) (dBl (oNot (o1 tru (o1 (dIsi "bool") (some x_value))))))
def m_is_between (x_value x_least x_most : D) : Option D :=
  (oAndV (c1 m_is_integer (some x_value)) (oChain dLe dLe (some x_least) (some x_value) (some x_most)))
def m_is_table_L1 (x_least : D) (x_most : D) (x_b1 : Unit) (x_d3 : D) : Option (Out (Unit) (Unit)) :=
  ((oNot (o1 tru (c3 m_is_between (some x_d3) (some x_least) (some x_most)))).bind fun c => if c = true then
  ((some (.bl false)).bind fun d => some (.rt d []))
  else
  (some (.nx ())))
def m_is_table (x_value x_size x_least x_most : D) : Option D :=
  ((oOr (oNot (o1 tru (o1 (dIsi2 "list" "tuple") (some x_value)))) (o1 tru (o2 dNe (c1 dLen (some x_value)) (some x_size)))).bind fun c => if c = true then
  (some (.bl false))
  else
  (((o1 dItems (some x_value)).bind fun ds => loopO (m_is_table_L1 x_least x_most) ds ()).bind fun (o : Out (Unit) (Empty)) => o.thnD fun x_b1 =>
  (some (.bl true))))
def m_law_integer (x_value : D) : Option D :=
  (oAndV (o1 (dIsi "int") (some x_value)) (dBl (oNot (o1 tru (o1 (dIsi "bool") (some x_value))))))
def m_law_table_C1 (x_least : D) (x_most : D) (x_d2 : D) : Option (Option D) :=
  ((oOr (oNot (o1 tru (c1 m_law_integer (some x_d2)))) (oOr (o1 tru (o2 dLt (some x_d2) (some x_least))) (o1 tru (o2 dGt (some x_d2) (some x_most))))).bind fun c => if c = true then (some x_d2).map some else some none)
def m_law_table (x_value x_size x_least x_most : D) : Option D :=
  ((oOr (oNot (o1 tru (o1 (dIsi2 "list" "tuple") (some x_value)))) (o1 tru (o2 dNe (c1 dLen (some x_value)) (some x_size)))).bind fun c => if c = true then
  (some (.bl false))
  else
  (((o1 dItems (some x_value)).bind fun ds => dComp (m_law_table_C1 x_least x_most) ds).bind fun x_wrong1 =>
  (o2 dEq (c1 dLen (some x_wrong1)) (some (.int 0)))))
def m_law_name_C1 (x_letters1 : D) (x_d3 : D) : Option (Option D) :=
  ((o1 tru (o2 dNotIn (some x_d3) (o2 dAdd (some x_letters1) (some (.str "0123456789"))))).bind fun c => if c = true then (some x_d3).map some else some none)
def m_law_name (x_value : D) : Option D :=
  ((some (.str "abcdefghijklmnopqrstuvwxyz")).bind fun x_letters1 =>
  ((oOr (oNot (o1 tru (o1 (dIsi "str") (some x_value)))) (oOr (o1 tru (o2 dLt (c1 dLen (some x_value)) (some (.int 1)))) (o1 tru (o2 dGt (c1 dLen (some x_value)) (some (.int 12)))))).bind fun c => if c = true then
  (some (.bl false))
  else
  (((o1 dItems (some x_value)).bind fun ds => dComp (m_law_name_C1 x_letters1) ds).bind fun x_odd2 =>
  (oAndV (o2 dEq (c1 dLen (some x_odd2)) (some (.int 0))) (o2 dIn (o2 dIx (some x_value) (some (.int 0))) (some x_letters1))))))
def m_law_L1 (x_b3 : Unit) (x_d5 : D) : Option (Out (Unit) (Unit)) :=
  ((oOr (o1 tru (o2 dIsNot (c1 m_is_integer (some x_d5)) (some (.bl false)))) (oNot (o1 tru (c2 m_law_says (c4 m_is_table (some x_d5) (some (.int 1)) (o1 dNeg (some (.int 1))) (some (.int 1))) (c4 m_law_table (some x_d5) (some (.int 1)) (o1 dNeg (some (.int 1))) (some (.int 1))))))).bind fun c => if c = true then
  ((some (.bl false)).bind fun d => some (.rt d []))
  else
  ((o1 tru (o2 dIsNot (c1 m_is_name (some x_d5)) (some (.bl false)))).bind fun c => if c = true then
  ((some (.bl false)).bind fun d => some (.rt d []))
  else
  (some (.nx ()))))
def m_law_C2 (x_least7 : D) (x_d10 : D) : Option (Option D) :=
  ((o2 dAdd (some x_least7) (some x_d10)).map some)
def m_law_C3 (x_d21 : D) : Option (Option D) :=
  ((oNot (o1 tru (c1 m_law_integer (some x_d21)))).bind fun c => if c = true then (some x_d21).map some else some none)
def m_law (x_script : D) : Option D :=
  ((c2 m_law_draw (c2 m_law_cell (some x_script) (some (.int 0))) (o1 dLst (oCons (some (.int 10)) (oCons (some (.int 12)) (oCons (some (.int 10)) (oCons (some (.int 2)) (oCons (some (.int 3)) (oCons (some (.int 15)) (oCons (some (.int 2)) (oCons (some (.int 16)) (oCons (some (.int 8)) (some [])))))))))))).bind fun x_head1 =>
  ((c2 m_law_cell (some x_script) (some (.int 1))).bind fun x_number2 =>
  ((oOr (oNot (o1 tru (c2 m_law_says (c1 m_is_integer (some x_number2)) (some (.bl true))))) (oNot (o1 tru (c2 m_law_says (c1 m_is_integer (o2 dSub (some (.int 0)) (some x_number2))) (some (.bl true)))))).bind fun c => if c = true then
  (some (.bl false))
  else
  (((o1 dItems (o1 dLst (oCons (some (.bl true)) (oCons (some (.bl false)) (oCons (some .non) (oCons (some (.str "1")) (oCons (o1 dLst (oCons (some (.int 1)) (some []))) (oCons (o1 dTup (oCons (some (.int 1)) (some []))) (oCons (some (.str "")) (oCons (o1 dLst (oCons (some x_number2) (some []))) (oCons (some (.dic [] [])) (some [])))))))))))).bind fun ds => loopO m_law_L1 ds ()).bind fun (o : Out (Unit) (Empty)) => o.thnD fun x_b3 =>
  ((o1 dLst (oCons (o2 dSub (o2 dIx (c2 m_law_draw (c2 m_law_cell (some x_script) (some (.int 2))) (o1 dLst (oCons (some (.int 401)) (some [])))) (some (.int 0))) (some (.int 200))) (oCons (o2 dIx (c2 m_law_draw (c2 m_law_cell (some x_script) (some (.int 3))) (o1 dLst (oCons (some (.int 300)) (some [])))) (some (.int 0))) (some [])))).bind fun x_ends6 =>
  ((o2 dIx (some x_ends6) (some (.int 0))).bind fun x_least7 =>
  ((o2 dAdd (o2 dIx (some x_ends6) (some (.int 0))) (o2 dIx (some x_ends6) (some (.int 1)))).bind fun x_most8 =>
  (((o1 dItems (c2 m_law_draw (c2 m_law_cell (some x_script) (some (.int 4))) (o2 dMul (o1 dLst (oCons (o2 dAdd (o2 dIx (some x_ends6) (some (.int 1))) (some (.int 1))) (some []))) (o2 dIx (some x_head1) (some (.int 0)))))).bind fun ds => dComp (m_law_C2 x_least7) ds).bind fun x_value9 =>
  (((o1 tru (o2 dGt (o2 dIx (some x_head1) (some (.int 0))) (some (.int 0)))).bind fun c => if c = true then
  ((o1 dLst (oCons (some x_least7) (oCons (some x_most8) (oCons (o2 dSub (some x_least7) (some (.int 1))) (oCons (o2 dAdd (some x_most8) (some (.int 1))) (oCons (some (.bl true)) (oCons (some (.bl false)) (oCons (some .non) (oCons (some (.str "1")) (oCons (o1 dLst (oCons (some x_least7) (some []))) (oCons (o2 dPow (some (.int 10)) (some (.int 40))) (oCons (some x_most8) (oCons (o2 dSub (some (.int 0)) (o2 dPow (some (.int 10)) (some (.int 40)))) (some [])))))))))))))).bind fun x_spoils12 =>
  (((o2 dIx (some x_spoils12) (o2 dIx (some x_head1) (some (.int 1)))).bind fun e => (o2 dMod (c1 dInt (o2 dIx (some x_head1) (some (.int 2)))) (o2 dIx (some x_head1) (some (.int 0)))).bind fun k => dSet x_value9 k e).bind fun x_value13 =>
  (some x_value13)))
  else
  (some x_value9)).bind fun (x_j11 : D) =>
  ((o2 dAdd (o2 dIx (some x_head1) (some (.int 0))) (o2 dMul (o2 dIx (o1 dLst (oCons (some (.int 0)) (oCons (some (.int 1)) (oCons (o1 dNeg (some (.int 1))) (some []))))) (o2 dIx (some x_head1) (some (.int 4)))) (o2 dIx (some x_head1) (some (.int 3))))).bind fun x_size14 =>
  ((o1 dList (some x_j11)).bind fun x_passed15 =>
  (((o1 tru (o2 dEq (o2 dIx (some x_head1) (some (.int 6))) (some (.int 1)))).bind fun c => if c = true then
  ((c1 dTuple (some x_j11)).bind fun x_passed17 =>
  (some x_passed17))
  else
  (some x_passed15)).bind fun (x_j16 : D) =>
  ((oNot (o1 tru (c2 m_law_says (c4 m_is_table (some x_j16) (some x_size14) (some x_least7) (some x_most8)) (c4 m_law_table (some x_j11) (some x_size14) (some x_least7) (some x_most8))))).bind fun c => if c = true then
  (some (.bl false))
  else
  ((oOr (o1 tru (o2 dNe (o1 dList (some x_j16)) (some x_j11))) (oNot (o1 tru (c2 m_law_says (c4 m_is_table (o1 dList (some x_j11)) (o2 dIx (some x_head1) (some (.int 0))) (some x_least7) (some x_most8)) (c4 m_law_table (some x_j11) (o2 dIx (some x_head1) (some (.int 0))) (some x_least7) (some x_most8)))))).bind fun c => if c = true then
  (some (.bl false))
  else
  ((c4 m_law_word (c2 m_law_cell (some x_script) (some (.int 5))) (o2 dIx (some x_head1) (some (.int 5))) (o2 dIx (some x_head1) (some (.int 3))) (o2 dIx (some x_head1) (some (.int 7)))).bind fun x_word18 =>
  ((oOr (oNot (o1 tru (c2 m_law_says (c1 m_is_name (some x_word18)) (c1 m_law_name (some x_word18))))) (oNot (o1 tru (c2 m_law_says (c1 m_is_name (o2 dAdd (some (.str "a")) (some x_word18))) (c1 m_law_name (o2 dAdd (some (.str "a")) (some x_word18))))))).bind fun c => if c = true then
  (some (.bl false))
  else
  ((o1 dTup (oCons (some (.int 8)) (oCons (some (.int 16)) (oCons (some (.int 6)) (oCons (some (.int 200)) (oCons (some (.int 1000000)) (oCons (some (.int 200)) (oCons (some (.int 8000)) (some []))))))))).bind fun x_told19 =>
  (((o1 dItems (some x_told19)).bind fun ds => dComp m_law_C3 ds).bind fun x_odd20 =>
  (oAndV (o2 dEq (c1 dLen (some x_odd20)) (some (.int 0))) (o2 dEq (some x_told19) (o1 dTup (oCons (some (.int 8)) (oCons (some (.int 16)) (oCons (some (.int 6)) (oCons (some (.int 200)) (oCons (some (.int 1000000)) (oCons (some (.int 200)) (oCons (some (.int 8000)) (some [])))))))))))))))))))))))))))))
end Mi
namespace Mi
open PySem L2
/-! cells and draws -/
def cell (ns : List Int) (k : Nat) : Int := ns.getD k 0
theorem cell_ok (ns : List Int) (k : Nat) : m_law_cell (.scr ns) (.int (k : Int)) = some (.int (cell ns k)) := by
  unfold m_law_cell cell
  by_cases h : k < ns.length
  · have h' : (k : Int) < (ns.length : Int) := by omega
    simp [h', atI_at h, h]
  · have h' : ¬ (k : Int) < (ns.length : Int) := by omega
    simp [h', h]
/-- numbers below their bounds -/
def Low : List Int → List Int → Prop
  | [], [] => True
  | x :: xs, b :: bs => (0 ≤ x ∧ x < b) ∧ Low xs bs
  | _, _ => False
theorem Low.len : ∀ {xs bs : List Int}, Low xs bs → xs.length = bs.length
  | [], [], _ => rfl
  | _ :: _, _ :: _, h => by simp [Low.len h.2]
theorem Low.snoc : ∀ {xs bs : List Int} {x b : Int}, Low xs bs → 0 ≤ x → x < b → Low (xs ++ [x]) (bs ++ [b])
  | [], [], x, b, _, h1, h2 => ⟨⟨h1, h2⟩, trivial⟩
  | _ :: _, _ :: _, x, b, h, h1, h2 => ⟨h.1, h.2.snoc h1 h2⟩
theorem p18 : (10 : Int) ^ 18 = 1000000000000000000 := by simp
theorem p40 : (10 : Int) ^ 40 = 10000000000000000000000000000000000000000 := by simp
theorem ten18 : dPow (.int 10) (.int 18) = some (.int 1000000000000000000) := by
  rw [dPow_ii ⟨by omega, by omega, by omega⟩, show (18 : Int).toNat = 18 from rfl, p18]
theorem ten40 : dPow (.int 10) (.int 40) = some (.int 10000000000000000000000000000000000000000) := by
  rw [dPow_ii ⟨by omega, by omega, by omega⟩, show (40 : Int).toNat = 40 from rfl, p40]
theorem dAdd_ss {a b : Str} (h : a.length + b.length ≤ 16777216) : dAdd (.str a) (.str b) = some (.str (a ++ b)) := if_pos h
theorem dIx_str {z : Str} (h : z.length ≤ 16777216) (i : Int) : dIx (.str z) (.int i) = (atI z.cps.toList i).map chr1 := if_pos h
theorem draw_ok (c : Int) (bs : List Int) (hb : ∀ b ∈ bs, 0 < b ∧ b < 1073741824) (hl : bs.length ≤ 100000) : ∃ xs : List Int, m_law_draw (.int c) (.lst (bs.map D.int)) = some (.lst (xs.map D.int)) ∧ Low xs bs := by
  have hr : dRange1 [.int ((bs.map D.int).length : Nat)] = some (ranged 0 (bs.length : Nat)) := by rw [dRange1_s (by rw [List.length_map]; omega), List.length_map]
  have hlen : (ranged 0 (bs.length : Nat)).length = bs.length := by rw [ranged_len]; omega
  obtain ⟨b', e, r, xs, hbx, hlow⟩ := foldO_inv0 (f := m_law_draw_L1 (.int c) (.lst (bs.map D.int)))
    (fun i b => ∃ (r : Int) (xs : List Int), b = (.int r, .lst (xs.map D.int)) ∧ Low xs (bs.take i))
    (ranged 0 (bs.length : Nat)) (.int (c - 1000000000000000000), .lst []) ⟨_, [], rfl, by simp [Low]⟩ (fun i hi b ⟨r, xs, hbx, hlow⟩ => by
      subst hbx
      rw [hlen] at hi
      have e0 : (ranged 0 (bs.length : Nat))[i]'(by rw [hlen]; exact hi) = .int (i : Int) := by rw [ranged_get]; simp
      have hib : dIx (.lst (bs.map D.int)) (.int (i : Int)) = some (.int bs[i]) := by
        rw [dIx_lst, atI_at (by simpa using hi)]; simp
      obtain ⟨p1, p2⟩ := hb bs[i] (List.getElem_mem hi)
      have hxl : (xs.map D.int).length < 16777216 := by
        have := hlow.len
        rw [List.length_map]
        simp at this
        omega
      have tk : bs.take (i + 1) = bs.take i ++ [bs[i]] := by rw [List.take_succ_eq_append_getElem hi]
      have low : ∀ z : Int, Low (xs ++ [z % bs[i]]) (bs.take (i + 1)) := fun z => by
        rw [tk]
        exact hlow.snoc (Int.emod_nonneg _ (by omega)) (Int.emod_lt_of_pos _ p1)
      rw [e0]
      unfold m_law_draw_L1
      by_cases hc : (1000000000000000000 : Int) ≤ c
      · refine ⟨_, ?_, r / bs[i], xs ++ [r % bs[i]], rfl, low r⟩
        simp [ten18, hc, hib, dMod_ii p1, dApp_s hxl, dDiv_ii p1 p2]
      · refine ⟨_, ?_, r, xs ++ [((((c % 1000003 * 48271 + (i : Int) * 69621 + 11) % 2147483647) * 16807 + (i : Int)) % 2147483647) / 7 % bs[i]], rfl, low _⟩
        simp only [o2_some, ten18, dGe_ii, hc, decide_false, o1_some, tru_bl, Option.bind_some, c1_s, dInt_i, hib]
        rw [if_neg (by decide)]
        rw [dMod_ii (by decide), o2_some, dMul_r (by decide), dMul_r (by decide)]
        simp only [o2_some, dAdd_ii, c1_s, dInt_i, Option.bind_some]
        rw [dMod_ii (by decide), Option.bind_some, dMul_r (by decide)]
        simp only [o2_some, dAdd_ii, c1_s, dInt_i, Option.bind_some]
        rw [dMod_ii (by decide), Option.bind_some, dDiv_ii (by decide) (by decide)]
        simp only [o2_some, dAdd_ii, c1_s, dInt_i, Option.bind_some]
        rw [dMod_ii p1, Option.bind_some, dApp_s hxl]
        simp)
  subst hbx
  rw [hlen, List.take_length] at hlow
  refine ⟨xs, ?_, hlow⟩
  unfold m_law_draw
  rw [List.length_map] at hr
  have h0 : dLst [] = some (.lst []) := dLst_s (Nat.zero_le _)
  simp only [o1_some, h0, Option.bind_some, o2_some, ten18, dSub_ii, c1_s, dLen_lst, oCons_some, List.length_map, hr, e]
/-! the table test, twice -/
/-- it has a type -/
def ty (d : D) : Bool := (tyN d).isSome
def okI (l m : Int) : D → Bool
  | .int i => decide (l ≤ i) && decide (i ≤ m)
  | _ => false
theorem isint_ok {d : D} (h : ty d = true) : m_is_integer d = some (.bl (match d with | .int _ => true | _ => false)) ∧ m_law_integer d = some (.bl (match d with | .int _ => true | _ => false)) := by
  cases d <;> simp [ty, tyN] at h <;> simp [m_is_integer, m_law_integer, dIsi, tyN, known, isB, dBl]
theorem between_ok {d : D} {l m : Int} (h : ty d = true) : m_is_between d (.int l) (.int m) = some (.bl (okI l m d)) := by
  unfold m_is_between
  simp only [c1_s, (isint_ok h).1]
  cases d <;> simp [okI]
  rename_i i
  by_cases h1 : l ≤ i <;> simp [h1]
def asSeq : D → Option (List D)
  | .lst ds => some ds
  | .tup ds => some ds
  | .scr ns => some (ns.map D.int)
  | _ => none
def tabB (d : D) (s l m : Int) : Bool := match asSeq d with
  | some ds => decide ((ds.length : Int) = s) && ds.all (okI l m)
  | none => false
theorem eqI (a b : Int) : dEq (.int a) (.int b) = some (.bl (decide (a = b))) := id rfl
theorem neI (a b : Int) : dNe (.int a) (.int b) = some (.bl (!decide (a = b))) := id rfl
theorem eqBl (a b : Bool) : dEq (.bl a) (.bl b) = some (.bl (decide (a = b))) := by cases a <;> cases b <;> rfl
/-- what is equal to itself -/
def Self (k : Nat) (d : D) : Prop := ∃ p, py d = some p ∧ p.canLay0 = true ∧ p.depth ≤ k ∧ PyData.eqv p p = true
theorem self_int (k : Nat) (a : Int) : Self k (.int a) := ⟨.int a, rfl, rfl, Nat.zero_le _, by show decide (a = a) = true; simp⟩
theorem self_bl (k : Nat) (a : Bool) : Self k (.bl a) := ⟨.bool a, rfl, rfl, Nat.zero_le _, by cases a <;> rfl⟩
theorem self_non (k : Nat) : Self k .non := ⟨.none, rfl, rfl, Nat.zero_le _, rfl⟩
theorem selfs {k : Nat} : ∀ {ds : List D}, (∀ d ∈ ds, Self k d) → ∃ ps, pys ds = some ps ∧ PyData.canLayAll0 ps = true ∧ PyData.depthAll ps ≤ k ∧ PyData.eqvAll ps ps = true
  | [], _ => ⟨[], rfl, rfl, Nat.zero_le _, rfl⟩
  | d :: ds, h => by
    obtain ⟨p, a, b, c, e⟩ := h d (by simp)
    obtain ⟨ps, a2, b2, c2, e2⟩ := selfs (ds := ds) fun x hx => h x (by simp [hx])
    refine ⟨p :: ps, by simp [pys, a, a2], by simp [PyData.canLayAll0, b, b2], by simp only [PyData.depthAll]; omega, by simp [PyData.eqvAll, e, e2]⟩
theorem self_lst {k : Nat} {ds : List D} (h : ∀ d ∈ ds, Self k d) : Self (k + 1) (.lst ds) := by
  obtain ⟨ps, a, b, c, e⟩ := selfs h
  exact ⟨.list ps, by simp [py, a], by simp only [PyData.canLay0]; exact b, by simp only [PyData.depth]; omega, by simp only [PyData.eqv]; exact e⟩
theorem self_ne {k : Nat} {d : D} (h : Self k d) (hk : k ≤ 64) : dNe d d = some (.bl false) := by
  obtain ⟨p, a, b, c, e⟩ := h
  have hs : SeqAt.shaped p = true := by unfold SeqAt.shaped; rw [b]; simp; omega
  unfold dNe dEqB
  simp [a, hs, e]
theorem table_ok {d : D} {s l m : Int} (ht : ty d = true) (hd : ∀ ds, asSeq d = some ds → (∀ e ∈ ds, ty e = true) ∧ ds.length ≤ 16777216) : m_is_table d (.int s) (.int l) (.int m) = some (.bl (tabB d s l m)) ∧ m_law_table d (.int s) (.int l) (.int m) = some (.bl (tabB d s l m)) := by
  have seq : ∀ ds, asSeq d = some ds → (∀ e ∈ ds, ty e = true) ∧ ds.length ≤ 16777216 → dItems d = some ds → dLen d = some (.int ds.length) → dIsi2 "list" "tuple" d = some (.bl true) → m_is_table d (.int s) (.int l) (.int m) = some (.bl (tabB d s l m)) ∧ m_law_table d (.int s) (.int l) (.int m) = some (.bl (tabB d s l m)) := fun ds hds ⟨h1, h2⟩ hi hl hty => by
    unfold m_is_table m_law_table tabB
    simp only [hty, hi, hl, hds, o1_some, tru_bl, oNot_s, Bool.not_true, oOr_f, c1_s, o2_some, neI, Option.bind_some]
    by_cases hs : (ds.length : Int) = s
    · simp only [hs, decide_true, Bool.not_true, Bool.true_and]
      rw [if_neg (by decide), if_neg (by decide)]
      constructor
      · rw [loopO_all (p := okI l m) (r := .bl false) fun e he => ?_]
        · simp only [Option.bind_some]
          cases hq : ds.all (okI l m) <;> simp [Out.thnD]
        · unfold m_is_table_L1
          simp only [c3_s, between_ok (h1 e he), o1_some, tru_bl, oNot_s, Option.bind_some]
          cases okI l m e <;> simp
      · rw [dComp_filter (p := fun e => !okI l m e) (g := id) h2 fun e he => ?_]
        · simp only [Option.bind_some, c1_s, dLen_lst, eqI, o2_some]
          congr 2
          rw [Bool.eq_iff_iff]
          simp only [List.map_id_fun, id_eq, decide_eq_true_eq, List.all_eq_true]
          constructor
          · intro h e he
            have h0 : (ds.filter fun e => !okI l m e) = [] := List.length_eq_zero_iff.mp (by omega)
            have := List.filter_eq_nil_iff.mp h0 e he
            simpa using this
          · intro h
            have h0 : (ds.filter fun e => !okI l m e) = [] := List.filter_eq_nil_iff.mpr fun e he => by simp [h e he]
            rw [h0]; rfl
        · unfold m_law_table_C1
          have ht := (isint_ok (h1 e he)).2
          simp only [c1_s, ht, o1_some, tru_bl, oNot_s]
          cases e <;> simp [okI]
          rename_i i
          by_cases a : l ≤ i <;> by_cases b : i ≤ m <;> simp [a, b, Int.not_lt.mpr, Int.not_le.mp, Int.not_lt.mpr] <;> omega
    · simp [hs]
  cases d with
  | lst ds => exact seq ds rfl (hd ds rfl) rfl rfl rfl
  | tup ds => exact seq ds rfl (hd ds rfl) rfl rfl rfl
  | scr ns => exact seq (ns.map D.int) rfl (hd _ rfl) rfl (by simp) rfl
  | _ => first | (simp [m_is_table, m_law_table, dIsi2, tyN, known, isB, tabB, asSeq]; done) | (simp [ty, tyN] at ht)
/-! names -/
def inA (c : Nat) : Bool := decide (c ∈ ("abcdefghijklmnopqrstuvwxyz" : Str).cps.toList)
def inN (c : Nat) : Bool := decide (c ∈ ("0123456789" : Str).cps.toList)
def nameB (z : Str) : Bool := decide (1 ≤ z.length) && decide (z.length ≤ 12) && inA (z.cps.toList.headD 0) && z.cps.toList.all fun c => inA c || inN c
theorem in1 (c : Nat) (z : Str) : dIn (chr1 c) (.str z) = some (.bl (decide (c ∈ z.cps.toList))) := id rfl
theorem notIn1 (c : Nat) (z : Str) : dNotIn (chr1 c) (.str z) = some (.bl (!decide (c ∈ z.cps.toList))) := id rfl
theorem len_str {z : Str} (h : z.length ≤ 16777216) : dLen (.str z) = some (.int z.length) := if_pos h
theorem str_len (z : Str) : z.cps.toList.length = z.length := rfl
theorem name_ok {z : Str} (h : z.length ≤ 16777216) : m_is_name (.str z) = some (.bl (nameB z)) ∧ m_law_name (.str z) = some (.bl (nameB z)) := by
  have hty : dIsi "str" (.str z) = some (.bl true) := rfl
  have hit : dItems (.str z) = some (z.cps.toList.map chr1) := rfl
  have hap : dAdd (.str "abcdefghijklmnopqrstuvwxyz") (.str "0123456789") = some (.str (("abcdefghijklmnopqrstuvwxyz" : Str) ++ "0123456789")) := by
    exact dAdd_ss (by decide)
  have hcat : ∀ c, decide (c ∈ (("abcdefghijklmnopqrstuvwxyz" : Str) ++ "0123456789").cps.toList) = (inA c || inN c) := fun c => by
    unfold inA inN
    rw [show (("abcdefghijklmnopqrstuvwxyz" : Str) ++ "0123456789").cps.toList = ("abcdefghijklmnopqrstuvwxyz" : Str).cps.toList ++ ("0123456789" : Str).cps.toList by decide]
    simp
  unfold m_is_name m_law_name nameB
  simp only [hty, len_str h, o1_some, tru_bl, oNot_s, Bool.not_true, oOr_f, c1_s, oChain_s, dLe_ii, dLt_ii, dGt_ii, o2_some, Option.bind_some, hit]
  by_cases h1 : 1 ≤ z.length
  · have h1' : (1 : Int) ≤ (z.length : Int) := by omega
    have h1'' : ¬ (z.length : Int) < 1 := by omega
    simp only [h1', h1'', decide_true, decide_false, if_true, Option.bind_some, tru_bl, oOr_f, o1_some, h1, Bool.true_and]
    by_cases h2 : z.length ≤ 12
    · have h2' : (z.length : Int) ≤ 12 := by omega
      have h2'' : ¬ (12 : Int) < (z.length : Int) := by omega
      simp only [h2', h2'', decide_true, decide_false, tru_bl, o1_some, oNot_s, Bool.not_true, Option.bind_some, h2, Bool.true_and]
      rw [if_neg (by decide), if_neg (by decide)]
      obtain ⟨c, cs, hc⟩ : ∃ c cs, z.cps.toList = c :: cs := by
        cases hq : z.cps.toList with
        | nil => have := str_len z; rw [hq] at this; simp at this; omega
        | cons c cs => exact ⟨c, cs, rfl⟩
      have hix : dIx (.str z) (.int 0) = some (chr1 c) := by
        rw [dIx_str h, hc, atI_0]; rfl
      simp only [hix, o2_some, notIn1, in1, o1_some, tru_bl, Option.bind_some, hc, List.headD_cons]
      constructor
      · cases ha : inA c with
        | false =>
          have : decide (c ∈ ("abcdefghijklmnopqrstuvwxyz" : Str).cps.toList) = false := ha
          rw [this]
          rfl
        | true =>
          have : decide (c ∈ ("abcdefghijklmnopqrstuvwxyz" : Str).cps.toList) = true := ha
          simp only [this, Bool.not_true, Bool.true_and]
          rw [if_neg (by decide), loopO_all (p := fun d => match d with | .str w => (w.cps.toList.all fun c => inA c || inN c) | _ => false) (r := .bl false) fun e he => ?_]
          · simp only [Option.bind_some, List.all_map]
            have : ((c :: cs).all ((fun d => match d with | .str w => (w.cps.toList.all fun c => inA c || inN c) | _ => false) ∘ chr1)) = (c :: cs).all fun c => inA c || inN c := by
              congr 1
              funext x
              simp [chr1]
            rw [this]
            cases (c :: cs).all fun c => inA c || inN c <;> simp [Out.thnD]
          · obtain ⟨x, _, rfl⟩ := List.mem_map.mp he
            unfold m_is_name_L1
            simp only [o2_some, notIn1, o1_some, tru_bl]
            show (oAnd (some !inA x) (some !inN x)).bind _ = _
            have : (match chr1 x with | .str w => (w.cps.toList.all fun c => inA c || inN c) | _ => false) = (inA x || inN x) := by simp [chr1]
            rw [this]
            cases inA x <;> cases inN x <;> simp
      · rw [dComp_filter (p := fun d => match d with | .str w => !(w.cps.toList.all fun c => inA c || inN c) | _ => false) (g := id) (ds := (c :: cs).map chr1) (by rw [List.length_map, ← hc, str_len]; omega) fun e he => ?_]
        · simp only [Option.bind_some, c1_s, dLen_lst, eqI, o2_some, List.map_id_fun, id_eq]
          have e1 : decide (((((c :: cs).map chr1).filter fun d => match d with | .str w => !(w.cps.toList.all fun c => inA c || inN c) | _ => false).length : Int) = 0) = (c :: cs).all fun c => inA c || inN c := by
            rw [Bool.eq_iff_iff]
            simp only [decide_eq_true_eq, List.all_eq_true]
            constructor
            · intro h x hx
              have h0 := List.length_eq_zero_iff.mp (Int.natCast_eq_zero.mp h)
              have := List.filter_eq_nil_iff.mp h0 (chr1 x) (List.mem_map.mpr ⟨x, hx, rfl⟩)
              have h3 : inA x = false → inN x = true := by simpa [chr1] using this
              cases q : inA x
              · simp [h3 q]
              · rfl
            · intro h
              rw [List.filter_eq_nil_iff.mpr]
              · rfl
              · intro e he
                obtain ⟨x, hx, rfl⟩ := List.mem_map.mp he
                have := h x hx
                simp only [chr1, List.all_cons, List.all_nil, Bool.and_true, this]
                decide
          rw [e1]
          show oAndV (some (.bl _)) (some (.bl (inA c))) = _
          cases ((c :: cs).all fun c => inA c || inN c) <;> cases inA c <;> simp
        · obtain ⟨x, _, rfl⟩ := List.mem_map.mp he
          unfold m_law_name_C1
          simp only [o2_some, hap, notIn1, o1_some, tru_bl, hcat, Option.bind_some]
          cases hx : (inA x || inN x) <;> simp [chr1, hx]
    · have h2' : ¬ (z.length : Int) ≤ 12 := by omega
      have h2'' : (12 : Int) < (z.length : Int) := by omega
      simp [h2', h2'', h2]
  · have h1' : ¬ (1 : Int) ≤ (z.length : Int) := by omega
    have h1'' : (z.length : Int) < 1 := by omega
    simp [h1', h1'', h1]
/-! words -/
theorem str_add_len (a b : Str) : (a ++ b).length = a.length + b.length := by
  show (a.cps ++ b.cps).size = _
  rw [Array.size_append]; rfl
def signs : Str := "abcdefghijklmnopqrstuvwxyz0123456789ABCDEFGHIJKLMNOPQRSTUVWXYZ !\"#$&'()*+,-./:;<=>?\x40[]^_`{|}~\n"
theorem signs_len : signs.cps.toList.length = 95 - 1 := by decide
theorem add_chr {z : Str} {c : Nat} (h : z.length ≤ 1000) : dAdd (.str z) (chr1 c) = some (.str (z ++ ⟨#[c]⟩)) := dAdd_ss (by show z.length + 1 ≤ _; omega)
theorem eqInt (x y : Int) : o1 tru (dEq (.int x) (.int y)) = some (decide (x = y)) := by rw [eqI]; simp
theorem word_ok (c n p q : Int) (h0 : 0 ≤ n) (hn : n ≤ 100) : ∃ z : Str, m_law_word (.int c) (.int n) (.int p) (.int q) = some (.str z) ∧ z.length ≤ 100 := by
  have hlen : (ranged 0 n).length = n.toNat := by rw [ranged_len, Int.sub_zero]
  obtain ⟨b', e, z, hb, hz⟩ := foldO_inv0 (f := m_law_word_L1 (.int c) (.str signs) (.int p) (.int q)) (fun i b => ∃ z : Str, b = .str z ∧ z.length = i) (ranged 0 n) (.str "") ⟨_, rfl, rfl⟩ (fun i hi b ⟨z, hb, hz⟩ => by
    subst hb
    rw [hlen] at hi
    have e0 : (ranged 0 n)[i]'(by rw [hlen]; exact hi) = .int (i : Int) := by rw [ranged_get]; simp
    rw [e0]
    obtain ⟨xs, hd, hl⟩ := draw_ok (c + (i : Int)) [36, 94, 26] (by decide) (by decide)
    match xs, hl with
    | [d0, d1, d2], hl =>
    obtain ⟨⟨a0, a1⟩, ⟨b0, b1⟩, ⟨c0, c1'⟩, _⟩ := hl
    have sl : (signs.length : Int) = 94 := by decide
    have hls : dLen (.str signs) = some (.int 94) := by rw [len_str (by decide), sl]
    have hdl : dLst [.int 36, .int 94, .int 26] = some (.lst [.int 36, .int 94, .int 26]) := dLst_s (by decide)
    have hd' : m_law_draw (.int (c + (i : Int))) (.lst [.int 36, .int 94, .int 26]) = some (.lst [.int d0, .int d1, .int d2]) := hd
    have ix : ∀ d : Int, 0 ≤ d → d < 94 → ∃ ch : Nat, dIx (.str signs) (.int d) = some (chr1 ch) := fun d h1 h2 => by
      rw [dIx_str (by decide), atI_int h1 (by rw [signs_len]; omega)]
      exact ⟨_, rfl⟩
    obtain ⟨ch0, x0⟩ := ix d0 a0 (by omega)
    obtain ⟨ch1, x1⟩ := ix d1 b0 b1
    obtain ⟨ch2, x2⟩ := ix d2 c0 (by omega)
    have zl : z.length ≤ 1000 := by omega
    have go : ∀ ch : Nat, ∃ b', some (D.str (z ++ ⟨#[ch]⟩)) = some b' ∧ ∃ z', b' = .str z' ∧ z'.length = i + 1 := fun ch => ⟨_, rfl, _, rfl, by rw [str_add_len, hz]; rfl⟩
    unfold m_law_word_L1
    simp only [o2_some, dAdd_ii, c1_s, hls, oCons_some, o1_some, hdl, c2_s, hd', Option.bind_some, List.map_cons, List.map_nil, dIx_lst, atI_0, atI_1, atI_2, eqInt, x0, x1, x2, add_chr zl]
    cases decide (p = 0) <;> cases decide ((i : Int) = q) <;> cases decide ((i : Int) = 0) <;> simp only [oOr_t, oOr_f, Option.bind_some, if_true, Bool.false_eq_true, if_false] <;> exact go _)
  subst hb
  refine ⟨z, ?_, by rw [hz, hlen]; omega⟩
  unfold m_law_word
  simp only [Option.bind_some, oCons_some, o1_some]
  rw [dRange1_s (by omega)]
  simp only [Option.bind_some]
  have e' : foldO (m_law_word_L1 (.int c) (.str "abcdefghijklmnopqrstuvwxyz0123456789ABCDEFGHIJKLMNOPQRSTUVWXYZ !\"#$&'()*+,-./:;<=>?\x40[]^_`{|}~\n") (.int p) (.int q)) (ranged 0 n) (.str "") = some (.str z) := e
  rw [e']
  simp only [Option.bind_some]
/-! the law -/
def Good (d : D) : Prop := ty d = true ∧ Self 1 d
theorem good_int (i : Int) : Good (.int i) := ⟨rfl, self_int 1 i⟩
theorem good_all (l : Int) (m : Int) : ∀ d ∈ [D.int l, .int m, .int (l - 1), .int (m + 1), .bl true, .bl false, .non, .str "1", .lst [.int l], .int 10000000000000000000000000000000000000000, .int m, .int (0 - 10000000000000000000000000000000000000000)], Good d := by
  intro d hd
  simp only [List.mem_cons, List.not_mem_nil, or_false] at hd
  rcases hd with h | h | h | h | h | h | h | h | h | h | h | h <;> subst h <;> first | exact good_int _ | exact ⟨rfl, self_bl 1 _⟩ | exact ⟨rfl, self_non 1⟩ | skip
  · exact ⟨rfl, .str "1", rfl, by decide +kernel, by decide +kernel, by decide +kernel⟩
  · exact ⟨rfl, self_lst (k := 0) fun d hd => by simp at hd; subst hd; exact self_int 0 _⟩
theorem says_eq (b : Bool) : m_law_says (.bl b) (.bl b) = some (.bl true) := by
  unfold m_law_says
  have : dIsi "bool" (.bl b) = some (.bl true) := rfl
  simp only [o1_some, this, oAndV_t, o2_some, eqBl, decide_true]
theorem says_it (b : Bool) : o1 tru (m_law_says (.bl b) (.bl b)) = some true := by rw [says_eq]; simp
theorem int_t (i : Int) : m_is_integer (.int i) = some (.bl true) := (isint_ok (d := .int i) rfl).1
theorem name_no {d : D} (h : ty d = true) (hs : ∀ z, d ≠ .str z) : m_is_name d = some (.bl false) := by
  unfold m_is_name
  have : dIsi "str" d = some (.bl false) := by
    cases d <;> first | rfl | exact absurd rfl (hs _) | (simp [ty, tyN] at h)
  simp only [o1_some, this, tru_bl, oNot_s, Bool.not_false, oOr_t, Option.bind_some, if_true]
theorem isNotF : dIsNot (.bl false) (.bl false) = some (.bl false) := rfl
theorem neg1 : dNeg (.int 1) = some (.int (-1)) := rfl
theorem first_ok (d : D) (h : ty d = true) (hi : ∀ i, d ≠ .int i) (hs : m_is_name d = some (.bl false)) (hq : ∀ ds, asSeq d = some ds → (∀ e ∈ ds, ty e = true) ∧ ds.length ≤ 16777216) : m_law_L1 () d = some (.nx ()) := by
  unfold m_law_L1
  have h1 : m_is_integer d = some (.bl false) := by
    rw [(isint_ok h).1]
    cases d <;> first | rfl | exact absurd rfl (hi _)
  obtain ⟨t1, t2⟩ := table_ok (s := 1) (l := -1) (m := 1) h hq
  simp only [c1_s, h1, o2_some, isNotF, o1_some, tru_bl, oOr_f, neg1, c4_s, t1, t2, c2_s, says_it, oNot_s, Bool.not_true, Option.bind_some, hs]
  rfl
theorem isInt_says (i : Int) : o1 tru (m_law_says (.bl true) (.bl true)) = some true := says_it true
theorem ixN_at {n : Nat} {i : Int} (h0 : 0 ≤ i) (h : i < n) : ixN n i = some i.toNat := by
  unfold ixN
  rw [if_pos h0, if_pos h]
theorem dSet_lst {ds : List D} {i : Int} {e : D} (h0 : 0 ≤ i) (h : i < ds.length) : dSet (.lst ds) (.int i) e = some (.lst (ds.set i.toNat e)) := by
  show (ixN ds.length i).map _ = _
  rw [ixN_at h0 h]; rfl
theorem law_holds (ns : List Int) (hns : ns.length ≤ 63) : m_law (.scr ns) = some (.bl true) := by
  have cl : ∀ k : Nat, m_law_cell (.scr ns) (.int (k : Int)) = some (.int (cell ns k)) := cell_ok ns
  have c0 : m_law_cell (.scr ns) (.int 0) = some (.int (cell ns 0)) := cl 0
  have c1' : m_law_cell (.scr ns) (.int 1) = some (.int (cell ns 1)) := cl 1
  have c2' : m_law_cell (.scr ns) (.int 2) = some (.int (cell ns 2)) := cl 2
  have c3' : m_law_cell (.scr ns) (.int 3) = some (.int (cell ns 3)) := cl 3
  have c4' : m_law_cell (.scr ns) (.int 4) = some (.int (cell ns 4)) := cl 4
  have c5' : m_law_cell (.scr ns) (.int 5) = some (.int (cell ns 5)) := cl 5
  obtain ⟨hs, d0, l0⟩ := draw_ok (cell ns 0) [10, 12, 10, 2, 3, 15, 2, 16, 8] (by decide) (by decide)
  match hs, l0 with
  | [h0, h1, h2, h3, h4, h5, h6, h7, h8], l0 =>
  obtain ⟨⟨a0, b0⟩, ⟨a1, b1⟩, ⟨a2, b2⟩, ⟨a3, b3⟩, ⟨a4, b4⟩, ⟨a5, b5⟩, ⟨a6, b6⟩, ⟨a7, b7⟩, ⟨a8, b8⟩, _⟩ := l0
  have d0' : m_law_draw (.int (cell ns 0)) (.lst [.int 10, .int 12, .int 10, .int 2, .int 3, .int 15, .int 2, .int 16, .int 8]) = some (.lst [.int h0, .int h1, .int h2, .int h3, .int h4, .int h5, .int h6, .int h7, .int h8]) := d0
  obtain ⟨e0s, d1, l1⟩ := draw_ok (cell ns 2) [401] (by decide) (by decide)
  match e0s, l1 with
  | [e0], l1 =>
  obtain ⟨⟨f0, g0⟩, _⟩ := l1
  have d1' : m_law_draw (.int (cell ns 2)) (.lst [.int 401]) = some (.lst [.int e0]) := d1
  obtain ⟨e1s, d2, l2⟩ := draw_ok (cell ns 3) [300] (by decide) (by decide)
  match e1s, l2 with
  | [e1], l2 =>
  obtain ⟨⟨f1', g1⟩, _⟩ := l2
  have d2' : m_law_draw (.int (cell ns 3)) (.lst [.int 300]) = some (.lst [.int e1]) := d2
  obtain ⟨vs, d3, l3⟩ := draw_ok (cell ns 4) (List.replicate h0.toNat (e1 + 1)) (by intro b hb; rw [List.mem_replicate] at hb; omega) (by rw [List.length_replicate]; omega)
  have vl : vs.length = h0.toNat := by rw [l3.len, List.length_replicate]
  have d3' : m_law_draw (.int (cell ns 4)) (.lst ((List.replicate h0.toNat (e1 + 1)).map D.int)) = some (.lst (vs.map D.int)) := d3
  have rep : dMul (.lst [.int (e1 + 1)]) (.int h0) = some (.lst ((List.replicate h0.toNat (e1 + 1)).map D.int)) := by
    have : (List.replicate h0.toNat [D.int (e1 + 1)]).flatten = (List.replicate h0.toNat (e1 + 1)).map D.int := by
      rw [List.map_replicate, List.flatten_replicate_singleton]
    rw [← this]
    exact if_pos ⟨by omega, by omega, by simp; omega⟩
  -- the first checks
  have first : loopO (γ := Empty) m_law_L1 [.bl true, .bl false, .non, .str "1", .lst [.int 1], .tup [.int 1], .str "", .lst [.int (cell ns 1)], .dic [] []] () = some (.nx ()) := by
    have := loopO_all (γ := Empty) (f := m_law_L1) (b := ()) (p := fun _ => true) (r := .non) (ds := [.bl true, .bl false, .non, .str "1", .lst [.int 1], .tup [.int 1], .str "", .lst [.int (cell ns 1)], .dic [] []]) (fun d hd => by
      rw [if_pos rfl]
      simp only [List.mem_cons, List.not_mem_nil, or_false] at hd
      have one : ∀ i : Int, (∀ e ∈ [D.int i], ty e = true) ∧ [D.int i].length ≤ 16777216 := fun i => ⟨fun e he => by simp at he; subst he; rfl, by simp⟩
      rcases hd with h | h | h | h | h | h | h | h | h <;> subst h
      · exact first_ok _ rfl (fun i => by simp) (name_no rfl fun z => by simp) (fun ds hds => by simp [asSeq] at hds)
      · exact first_ok _ rfl (fun i => by simp) (name_no rfl fun z => by simp) (fun ds hds => by simp [asSeq] at hds)
      · exact first_ok _ rfl (fun i => by simp) (name_no rfl fun z => by simp) (fun ds hds => by simp [asSeq] at hds)
      · exact first_ok _ rfl (fun i => by simp) ((name_ok (by decide)).1.trans (by rw [show nameB "1" = false by decide +kernel])) (fun ds hds => by simp [asSeq] at hds)
      · exact first_ok _ rfl (fun i => by simp) (name_no rfl fun z => by simp) (fun ds hds => by simp [asSeq] at hds; subst hds; exact one 1)
      · exact first_ok _ rfl (fun i => by simp) (name_no rfl fun z => by simp) (fun ds hds => by simp [asSeq] at hds; subst hds; exact one 1)
      · exact first_ok _ rfl (fun i => by simp) ((name_ok (by decide)).1.trans (by rw [show nameB "" = false by decide +kernel])) (fun ds hds => by simp [asSeq] at hds)
      · exact first_ok _ rfl (fun i => by simp) (name_no rfl fun z => by simp) (fun ds hds => by simp [asSeq] at hds; subst hds; exact one _)
      · exact first_ok _ rfl (fun i => by simp) (name_no rfl fun z => by simp) (fun ds hds => by simp [asSeq] at hds))
    rw [this]; simp
  have comp : dComp (m_law_C2 (.int (e0 - 200))) (vs.map D.int) = some (.lst ((vs.map fun v => e0 - 200 + v).map D.int)) := by
    rw [dComp_map (g := fun d => match d with | .int v => .int (e0 - 200 + v) | _ => .non) (by rw [List.length_map]; omega)]
    · simp [List.map_map, Function.comp_def]
    · intro d hd
      obtain ⟨v, _, rfl⟩ := List.mem_map.mp hd
      unfold m_law_C2
      simp
  -- value, spoiled
  have spoil : ∀ ws : List Int, ws.length = h0.toNat → ∃ ds : List D, (∀ d ∈ ds, Good d) ∧ ds.length ≤ 1000 ∧ ∀ k : D → Option D,
      (if decide (0 < h0) = true then ((atI [D.int (e0 - 200), .int (e0 - 200 + e1), .int (e0 - 200 - 1), .int (e0 - 200 + e1 + 1), .bl true, .bl false, .non, .str "1", .lst [.int (e0 - 200)], .int 10000000000000000000000000000000000000000, .int (e0 - 200 + e1), .int (0 - 10000000000000000000000000000000000000000)] h1).bind fun e => (dMod (.int h2) (.int h0)).bind fun k => dSet (.lst (ws.map D.int)) k e).bind (fun x => some x) else some (.lst (ws.map D.int))).bind k = k (.lst ds) := fun ws hw => by
    have gi : ∀ d ∈ ws.map D.int, Good d := fun d hd => by
      obtain ⟨v, _, rfl⟩ := List.mem_map.mp hd
      exact good_int v
    by_cases hp : 0 < h0
    · have hm : 0 ≤ h2 % h0 := Int.emod_nonneg _ (by omega)
      have hm2 : h2 % h0 < h0 := Int.emod_lt_of_pos _ hp
      refine ⟨(ws.map D.int).set (h2 % h0).toNat (([D.int (e0 - 200), .int (e0 - 200 + e1), .int (e0 - 200 - 1), .int (e0 - 200 + e1 + 1), .bl true, .bl false, .non, .str "1", .lst [.int (e0 - 200)], .int 10000000000000000000000000000000000000000, .int (e0 - 200 + e1), .int (0 - 10000000000000000000000000000000000000000)] : List D)[h1.toNat]'(by simp; omega)), fun d hd => ?_, by simp; omega, fun k => ?_⟩
      · rcases List.mem_or_eq_of_mem_set hd with z | z
        · exact gi d z
        · rw [z]
          exact good_all (e0 - 200) (e0 - 200 + e1) _ (List.getElem_mem _)
      · rw [atI_int a1 (by simp; omega)]
        simp only [hp, decide_true, Option.bind_some, if_true, dMod_ii hp]
        rw [dSet_lst hm (by rw [List.length_map]; omega)]
        simp only [Option.bind_some]
    · exact ⟨ws.map D.int, gi, by rw [List.length_map]; omega, fun k => by simp [hp]⟩
  obtain ⟨ds, hg, hdl, hk⟩ := spoil (vs.map fun v => e0 - 200 + v) (by rw [List.length_map, vl])
  have tq : ∀ (d : D), (d = .lst ds ∨ d = .tup ds) → ∀ es, asSeq d = some es → (∀ e ∈ es, ty e = true) ∧ es.length ≤ 16777216 := fun d hd es he => by
    have : es = ds := by rcases hd with h | h <;> subst h <;> simp [asSeq] at he <;> exact he.symm
    subst this
    exact ⟨fun e he => (hg e he).1, by omega⟩
  have tabL : ∀ s l m : Int, m_is_table (.lst ds) (.int s) (.int l) (.int m) = some (.bl (tabB (.lst ds) s l m)) ∧ m_law_table (.lst ds) (.int s) (.int l) (.int m) = some (.bl (tabB (.lst ds) s l m)) := fun s l m => table_ok rfl (tq _ (.inl rfl))
  have tabT : ∀ s l m : Int, m_is_table (.tup ds) (.int s) (.int l) (.int m) = some (.bl (tabB (.lst ds) s l m)) := fun s l m => (table_ok (d := .tup ds) rfl (tq _ (.inr rfl))).1
  have ne : dNe (.lst ds) (.lst ds) = some (.bl false) := self_ne (k := 2) (self_lst fun d hd => (hg d hd).2) (by decide)
  obtain ⟨w, hw, hws⟩ : ∃ w : Int, atI [D.int 0, .int 1, .int (-1)] h4 = some (.int w) ∧ smallI w := by
    have : h4 = 0 ∨ h4 = 1 ∨ h4 = 2 := by omega
    rcases this with h | h | h <;> subst h
    · exact ⟨0, rfl, by decide⟩
    · exact ⟨1, rfl, by decide⟩
    · exact ⟨-1, rfl, by decide⟩
  obtain ⟨z, hz, hzl⟩ := word_ok (cell ns 5) h5 h3 h7 a5 (by omega)
  have nz := name_ok (z := z) (by omega)
  have az : dAdd (.str "a") (.str z) = some (.str ("a" ++ z)) := dAdd_ss (by show 1 + z.length ≤ _; omega)
  have nza := name_ok (z := "a" ++ z) (by rw [str_add_len]; show 1 + z.length ≤ _; omega)
  have k1 : dLst [.int 10, .int 12, .int 10, .int 2, .int 3, .int 15, .int 2, .int 16, .int 8] = some (.lst [.int 10, .int 12, .int 10, .int 2, .int 3, .int 15, .int 2, .int 16, .int 8]) := dLst_s (by simp)
  have k2 : dLst [.bl true, .bl false, .non, .str "1", .lst [.int 1], .tup [.int 1], .str "", .lst [.int (cell ns 1)], .dic [] []] = some (.lst [.bl true, .bl false, .non, .str "1", .lst [.int 1], .tup [.int 1], .str "", .lst [.int (cell ns 1)], .dic [] []]) := dLst_s (by simp)
  have k3 : ∀ d : D, dLst [d] = some (.lst [d]) := fun d => dLst_s (by simp)
  have k4 : ∀ d e : D, dLst [d, e] = some (.lst [d, e]) := fun d e => dLst_s (by simp)
  have k5 : ∀ d e f : D, dLst [d, e, f] = some (.lst [d, e, f]) := fun d e f => dLst_s (by simp)
  have k6 : ∀ a b c d e f g h i j k l : D, dLst [a, b, c, d, e, f, g, h, i, j, k, l] = some (.lst [a, b, c, d, e, f, g, h, i, j, k, l]) := fun a b c d e f g h i j k l => dLst_s (by simp)
  have k7 : ∀ d : D, dTup [d] = some (.tup [d]) := fun d => dTup_s (by simp)
  have dl : dList (.lst ds) = some (.lst ds) := rfl
  have dlt : dList (.tup ds) = some (.lst ds) := rfl
  have dt : dTuple (.lst ds) = some (.tup ds) := rfl
  have last : ((o1 dTup (oCons (some (.int 8)) (oCons (some (.int 16)) (oCons (some (.int 6)) (oCons (some (.int 200)) (oCons (some (.int 1000000)) (oCons (some (.int 200)) (oCons (some (.int 8000)) (some []))))))))).bind fun x_told20 =>
      (((o1 dItems (some x_told20)).bind fun ds => dComp m_law_C3 ds).bind fun x_odd21 =>
      (oAndV (o2 dEq (c1 dLen (some x_odd21)) (some (.int 0))) (o2 dEq (some x_told20) (o1 dTup (oCons (some (.int 8)) (oCons (some (.int 16)) (oCons (some (.int 6)) (oCons (some (.int 200)) (oCons (some (.int 1000000)) (oCons (some (.int 200)) (oCons (some (.int 8000)) (some []))))))))))))) = some (.bl true) := by
    rfl
  unfold m_law
  rw [last]
  simp only [c2_s, c1_s, c4_s, o1_some, o2_some, oCons_some, Option.bind_some, c0, c1', c2', c3', c4', c5', k1, d0', int_t, dSub_ii, isInt_says, oNot_s, Bool.not_true, oOr_f, Bool.false_eq_true, if_false, k3, k7, k2, dItems_lst, first, Out.thnD, d1', d2', dIx_lst, atI_0, atI_1, atI_2, atI_3, atI_4, atI_5, atI_6, atI_7, dAdd_ii, k4, rep, d3', comp, dGt_ii, tru_bl, ten40, k6, dInt_i, hk]
  simp only [says_it, oNot_s, Bool.not_true, oOr_f, Option.bind_some, Bool.false_eq_true, if_false, dNeg_i, oCons_some, o1_some, k5, o2_some, dIx_lst, hw, dMul_l hws, dAdd_ii, dl, eqInt, dt, hz]
  have fin : ((oOr (oNot (o1 tru (c2 m_law_says (m_is_name (.str z)) (m_law_name (.str z))))) (oNot (o1 tru (c2 m_law_says (c1 m_is_name (dAdd (.str "a") (.str z))) (c1 m_law_name (dAdd (.str "a") (.str z))))))).bind fun c => if c = true then some (D.bl false) else some (D.bl true)) = some (.bl true) := by
    simp only [nz.1, nz.2, c2_s, says_it, oNot_s, Bool.not_true, oOr_f, az, c1_s, nza.1, nza.2, Option.bind_some, Bool.false_eq_true, if_false]
  rw [fin]
  cases decide (h6 = 1)
  · simp only [Bool.false_eq_true, if_false, Option.bind_some, (tabL _ _ _).1, (tabL _ _ _).2, c2_s, says_it, oNot_s, Bool.not_true, dl, o2_some, ne, o1_some, tru_bl, oOr_f, c4_s]
  · simp only [if_true, Bool.false_eq_true, if_false, Option.bind_some, tabT, (tabL _ _ _).1, (tabL _ _ _).2, c2_s, says_it, oNot_s, Bool.not_true, dlt, dl, o2_some, ne, o1_some, tru_bl, oOr_f, c4_s]
end Mi
/-! the walks -/
namespace Mi
open PySem L2
open PyProof.Rows
theorem b0_bool : bootBuiltins "bool" = some (.type "bool") := by decide +kernel
theorem b0_int : bootBuiltins "int" = some (.type "int") := by decide +kernel
theorem b0_isinstance : bootBuiltins "isinstance" = some (.builtin "isinstance") := by decide +kernel
theorem b0_len : bootBuiltins "len" = some (.builtin "len") := by decide +kernel
theorem b0_list : bootBuiltins "list" = some (.type "list") := by decide +kernel
theorem b0_range : bootBuiltins "range" = some (.type "range") := by decide +kernel
theorem b0_str : bootBuiltins "str" = some (.type "str") := by decide +kernel
theorem b0_tuple : bootBuiltins "tuple" = some (.type "tuple") := by decide +kernel
def top (i : Nat) : Stmt := PySem.Challenge.pw_warmhold_k78_checks_and_limits.main.body.getD i (.Pass ⟨0, 0, 0, 0⟩)
structure Txt (K : PySem.W.Frag) (mg : Str → Option Value) : Prop where
  b_bool : mg "bool" = none
  b_int : mg "int" = none
  b_isinstance : mg "isinstance" = none
  b_len : mg "len" = none
  b_list : mg "list" = none
  b_range : mg "range" = none
  b_str : mg "str" = none
  b_tuple : mg "tuple" = none
  g_DIGITS : ∃ t, mg "DIGITS" = some (.str "0123456789" t)
  g_LETTERS : ∃ t, mg "LETTERS" = some (.str "abcdefghijklmnopqrstuvwxyz" t)
  g_MOST_DEEDS : ∃ t, mg "MOST_DEEDS" = some (.int 200 t)
  g_MOST_DUCTS : ∃ t, mg "MOST_DUCTS" = some (.int 16 t)
  g_MOST_NAME : ∃ t, mg "MOST_NAME" = some (.int 12 t)
  g_MOST_ROOMS : ∃ t, mg "MOST_ROOMS" = some (.int 8 t)
  g_MOST_TEXT : ∃ t, mg "MOST_TEXT" = some (.int 8000 t)
  g_MOST_UNITS : ∃ t, mg "MOST_UNITS" = some (.int 200 t)
  g_MOST_VENTS : ∃ t, mg "MOST_VENTS" = some (.int 1000000 t)
  g_MOST_WIDTH : ∃ t, mg "MOST_WIDTH" = some (.int 6 t)
section
variable {P : Program} {w : World} {K : PySem.W.Frag} {mg : Str → Option Value} {base : Heap} {C : Str → Addr}
abbrev s_law_draw : Stmt := top 17
abbrev N_law_draw : List Str := ["cell", "bounds", "found", "rest", "place", "mixed"]
theorem sc_law_draw : FnScope N_law_draw ["cell", "bounds"] (defScope s_law_draw) := ⟨rfl, rfl, rfl, by decide +kernel, rfl, by decide +kernel, by decide +kernel⟩
theorem ok_law_draw {f : Addr} {fd : FuncData} (F : Fun K "_law_draw" "_law_draw" s_law_draw f fd) (TX : Txt K mg) : FnOk P w K mg base CX0 1 f fd ["cell", "bounds"] (spU ⟨K, C⟩ [.f, .f] (pur (f2 m_law_draw))) := by
  have nd := sc_law_draw.nd
  refine fn_ok (T := ⟨K, C⟩) F sc_law_draw rfl (by decide) (fun cdv A outer s H E hr => ?_)
  have hu := hr.units
  refine ⟨_, (pss_cons (ps_set (i := 2) nd rfl (Or.inl rfl) (pe_lst pa_nil))
  (pss_cons (ps_set (i := 3) nd rfl (Or.inl rfl) (pe_op op_sub (pv 0) (pe_op op_pow pe_int pe_int)))
  (pss_cons (ps_for PassesOwn.never rfl (pi_range1 rfl TX.b_range (pa_cons (pe_callB cl_len rfl TX.b_len b0_len (pa_cons (pv 1) pa_nil)) pa_nil)) (pg_name (i := 4) nd rfl (Or.inl rfl))
  (pss_cons (ps_if (pt_cmpR op_ge (pv 0) (pe_op op_pow pe_int pe_int) (nomark _))
  (pss_cons (ps_expr (pe_bm PySem.F.plainAttrs_list PySem.F.slot_list_append PySem.F.type_list_append mt_append (pv 2) (pa_cons (pe_op op_mod (pe_callTy call_int1 rfl TX.b_int b0_int (pa_cons (pv 3) pa_nil)) (pe_ix (ix_A hu) (pv 1) (pv 4) (fun _ _ => rfl))) pa_nil)))
  (pss_cons (ps_set (i := 3) nd rfl (Or.inl rfl) (pe_op op_fdiv (pv 3) (pe_ix (ix_A hu) (pv 1) (pv 4) (fun _ _ => rfl))))
  pss_nil))
  (pss_cons (ps_set (i := 5) nd rfl (Or.inl rfl) (pe_op op_mod (pe_callTy call_int1 rfl TX.b_int b0_int (pa_cons (pe_op op_addA (pe_op op_addA (pe_op op_mulA (pe_op op_mod (pe_callTy call_int1 rfl TX.b_int b0_int (pa_cons (pv 0) pa_nil)) pe_int) pe_int) (pe_op op_mulA (pv 4) pe_int)) pe_int) pa_nil)) pe_int))
  (pss_cons (ps_set (i := 5) nd rfl (Or.inl rfl) (pe_op op_mod (pe_callTy call_int1 rfl TX.b_int b0_int (pa_cons (pe_op op_addA (pe_op op_mulA (pv 5) pe_int) (pv 4)) pa_nil)) pe_int))
  (pss_cons (ps_expr (pe_bm PySem.F.plainAttrs_list PySem.F.slot_list_append PySem.F.type_list_append mt_append (pv 2) (pa_cons (pe_op op_mod (pe_callTy call_int1 rfl TX.b_int b0_int (pa_cons (pe_op op_fdiv (pv 5) pe_int) pa_nil)) (pe_ix (ix_A hu) (pv 1) (pv 4) (fun _ _ => rfl))) pa_nil)))
  pss_nil))))
  pss_nil))
  (pss_one (ps_ret (pv 2)))))), fun ds hds => ?_⟩
  match ds, hds with
  | [x_cell, x_bounds], _ =>
    refine bv_pur ?_
    show B _ _ _ (m_law_draw x_cell x_bounds) _
    unfold m_law_draw
    exact (bn_of (b_seq (bp_setO (i := 2) (evo_lst evl_nil)) fun x_found1 =>
  (b_seq (bp_set (i := 3) (ev_opS opS_sub (ev_val rfl) (ev_opS opS_pow ev_int ev_int))) fun x_rest2 =>
  (b_seq (bp_for (md := .f) (Γl := fun (x_b3 : D × D) => [.val x_cell, .val x_bounds, .own x_b3.2, .val x_b3.1, .no, .no]) (evi_range1 (evl_cons (ev_clS cS_len (evl_cons (ev_val rfl) evl_nil)) evl_nil)) (.keep (.keep (.keep (.keep (.skip (.skip .nil)))))) (fun x_b3 x_d5 =>
  (bg_name (b_seq (Γ1 := fun (x_j6 : D × D) => [.val x_cell, .val x_bounds, .own x_j6.2, .val x_j6.1, .val x_d5, .no]) (b_if (evt_test (ev_opS opS_ge (ev_val rfl) (ev_opS opS_pow ev_int ev_int)))
  (b_seq (bp_app (i := 2) rfl rfl (ev_opS opS_mod (ev_clS cS_int (evl_cons (ev_val rfl) evl_nil)) (ev_opP opP_ix (ev_val rfl) (ev_val rfl)))) fun x_found7 =>
  (b_seq (bp_set (i := 3) (ev_opS opS_div (ev_val rfl) (ev_opP opP_ix (ev_val rfl) (ev_val rfl)))) fun x_rest8 =>
  (bp_end (.keep (.keep (.keep (.keep (.keep (.skip .nil)))))))))
  (b_seq (bp_set (i := 5) (ev_opS opS_mod (ev_clS cS_int (evl_cons (ev_opM opM_add (ev_opM opM_add (ev_opM opM_mul (ev_opS opS_mod (ev_clS cS_int (evl_cons (ev_val rfl) evl_nil)) ev_int) ev_int) (ev_opM opM_mul (ev_val rfl) ev_int)) ev_int) evl_nil)) ev_int)) fun x_mixed9 =>
  (b_seq (bp_set (i := 5) (ev_opS opS_mod (ev_clS cS_int (evl_cons (ev_opM opM_add (ev_opM opM_mul (ev_val rfl) ev_int) (ev_val rfl)) evl_nil)) ev_int)) fun x_mixed10 =>
  (b_seq (bp_app (i := 2) rfl rfl (ev_opS opS_mod (ev_clS cS_int (evl_cons (ev_opS opS_div (ev_val rfl) ev_int) evl_nil)) (ev_opP opP_ix (ev_val rfl) (ev_val rfl)))) fun x_found11 =>
  (bp_end (.keep (.keep (.keep (.keep (.keep (.skip .nil))))))))))) fun x_j6 =>
  (bp_end (.keep (.keep (.keep (.keep (.skip (.skip .nil))))))))))) fun x_b3 =>
  (b_freeze 2 rfl (bd_ret (ev_val rfl)))))))

abbrev s_law_cell : Stmt := top 16
abbrev N_law_cell : List Str := ["script", "k"]
theorem sc_law_cell : FnScope N_law_cell ["script", "k"] (defScope s_law_cell) := ⟨rfl, rfl, rfl, by decide +kernel, rfl, by decide +kernel, by decide +kernel⟩
theorem ok_law_cell {f : Addr} {fd : FuncData} (F : Fun K "_law_cell" "_law_cell" s_law_cell f fd) (TX : Txt K mg) : FnOk P w K mg base CX0 1 f fd ["script", "k"] (spU ⟨K, C⟩ [.f, .f] (pur (f2 m_law_cell))) := by
  have nd := sc_law_cell.nd
  refine fn_ok (T := ⟨K, C⟩) F sc_law_cell rfl (by decide) (fun cdv A outer s H E hr => ?_)
  have hu := hr.units
  refine ⟨_, (pss_cons (ps_if (pt_cmpR op_lt (pv 1) (pe_callB cl_len rfl TX.b_len b0_len (pa_cons (pv 0) pa_nil)) (nomark _))
  (pss_one (ps_ret (pe_ix (ix_A hu) (pv 0) (pv 1) (fun _ _ => rfl))))
  pss_nil)
  (pss_one (ps_ret pe_int))), fun ds hds => ?_⟩
  match ds, hds with
  | [x_script, x_k], _ =>
    refine bv_pur ?_
    show B _ _ _ (m_law_cell x_script x_k) _
    unfold m_law_cell
    exact (bn_of (bd_ifx0 (evt_test (ev_opS opS_lt (ev_val rfl) (ev_clS cS_len (evl_cons (ev_val rfl) evl_nil))))
  (bd_ret (ev_opP opP_ix (ev_val rfl) (ev_val rfl)))
  (bd_ret ev_int)))

abbrev s_law_word : Stmt := top 22
abbrev N_law_word : List Str := ["cell", "size", "plain", "place", "signs", "word", "k", "draw"]
theorem sc_law_word : FnScope N_law_word ["cell", "size", "plain", "place"] (defScope s_law_word) := ⟨rfl, rfl, rfl, by decide +kernel, rfl, by decide +kernel, by decide +kernel⟩
theorem ok_law_word {f : Addr} {fd : FuncData} (F : Fun K "_law_word" "_law_word" s_law_word f fd) (TX : Txt K mg) (C_law_draw : Cl P w K mg base 1 "_law_draw" ["cell", "bounds"] (spU ⟨K, C⟩ [.f, .f] (pur (f2 m_law_draw)))) : FnOk P w K mg base CX0 2 f fd ["cell", "size", "plain", "place"] (spU ⟨K, C⟩ [.f, .f, .f, .f] (pur (f4 m_law_word))) := by
  have nd := sc_law_word.nd
  refine fn_ok (T := ⟨K, C⟩) F sc_law_word rfl (by decide) (fun cdv A outer s H E hr => ?_)
  have hu := hr.units
  refine ⟨_, (pss_cons (ps_set (i := 4) nd rfl (Or.inl rfl) pe_str)
  (pss_cons (ps_set (i := 5) nd rfl (Or.inl rfl) pe_str)
  (pss_cons (ps_for PassesOwn.never rfl (pi_range1 rfl TX.b_range (pa_cons (pv 1) pa_nil)) (pg_name (i := 6) nd rfl (Or.inl rfl))
  (pss_cons (ps_set (i := 7) nd rfl (Or.inl rfl) (pe_cl C_law_draw hr rfl (pa_cons (pe_op op_addA (pv 0) (pv 6)) (pa_cons (pe_lst (pa_cons pe_int (pa_cons (pe_callB cl_len rfl TX.b_len b0_len (pa_cons (pv 4) pa_nil)) (pa_cons pe_int pa_nil)))) pa_nil))))
  (pss_cons (ps_if (PW.pt (pw_or (pt_cmpR (op_eqD hu) (pv 2) pe_int (nomark _)) (pw_or1 (pt_cmpR (op_eqD hu) (pv 6) (pv 3) (nomark _)))))
  (pss_cons (ps_set (i := 5) nd rfl (Or.inl rfl) (pe_op op_addA (pv 5) (pe_ix (ix_A hu) (pv 4) (pe_ix (ix_A hu) (pv 7) pe_int (fun _ _ => rfl)) (fun _ _ => rfl))))
  pss_nil)
  (pss_cons (ps_if (pt_cmpR (op_eqD hu) (pv 6) pe_int (nomark _))
  (pss_cons (ps_set (i := 5) nd rfl (Or.inl rfl) (pe_op op_addA (pv 5) (pe_ix (ix_A hu) (pv 4) (pe_ix (ix_A hu) (pv 7) pe_int (fun _ _ => rfl)) (fun _ _ => rfl))))
  pss_nil)
  (pss_cons (ps_set (i := 5) nd rfl (Or.inl rfl) (pe_op op_addA (pv 5) (pe_ix (ix_A hu) (pv 4) (pe_ix (ix_A hu) (pv 7) pe_int (fun _ _ => rfl)) (fun _ _ => rfl))))
  pss_nil))
  pss_nil))
  pss_nil)))
  (pss_one (ps_ret (pv 5)))))), fun ds hds => ?_⟩
  match ds, hds with
  | [x_cell, x_size, x_plain, x_place], _ =>
    refine bv_pur ?_
    show B _ _ _ (m_law_word x_cell x_size x_plain x_place) _
    unfold m_law_word
    exact (bn_of (b_seq (bp_set (i := 4) ev_str) fun x_signs1 =>
  (b_seq (bp_set (i := 5) ev_str) fun x_word2 =>
  (b_seq (bp_for (md := .f) (Γl := fun (x_b3 : D) => [.val x_cell, .val x_size, .val x_plain, .val x_place, .val x_signs1, .val x_b3, .no, .no]) (evi_range1 (evl_cons (ev_val rfl) evl_nil)) (.keep (.keep (.keep (.keep (.keep (.keep (.skip (.skip .nil)))))))) (fun x_b3 x_d5 =>
  (bg_name (b_seq (bp_set (i := 7) (ev_callO rfl (eva_cons (ev_opM opM_add (ev_val rfl) (ev_val rfl)) (eva_cons (ev_new (evo_lst (evl_cons ev_int (evl_cons (ev_clS cS_len (evl_cons (ev_val rfl) evl_nil)) (evl_cons ev_int evl_nil))))) eva_nil)))) fun x_draw6 =>
  (b_seq (Γ1 := fun (x_j7 : D) => [.val x_cell, .val x_size, .val x_plain, .val x_place, .val x_signs1, .val x_j7, .val x_d5, .val x_draw6]) (b_if (evt_or (evt_test (ev_opS opS_eq (ev_val rfl) ev_int)) (evt_test (ev_opS opS_eq (ev_val rfl) (ev_val rfl))))
  (b_seq (bp_set (i := 5) (ev_opM opM_add (ev_val rfl) (ev_opP opP_ix (ev_val rfl) (ev_opP opP_ix (ev_val rfl) ev_int)))) fun x_word8 =>
  (bp_end (.keep (.keep (.keep (.keep (.keep (.keep (.keep (.keep .nil))))))))))
  (b_seq (Γ1 := fun (x_j9 : D) => [.val x_cell, .val x_size, .val x_plain, .val x_place, .val x_signs1, .val x_j9, .val x_d5, .val x_draw6]) (b_if (evt_test (ev_opS opS_eq (ev_val rfl) ev_int))
  (b_seq (bp_set (i := 5) (ev_opM opM_add (ev_val rfl) (ev_opP opP_ix (ev_val rfl) (ev_opP opP_ix (ev_val rfl) ev_int)))) fun x_word10 =>
  (bp_end (.keep (.keep (.keep (.keep (.keep (.keep (.keep (.keep .nil))))))))))
  (b_seq (bp_set (i := 5) (ev_opM opM_add (ev_val rfl) (ev_opP opP_ix (ev_val rfl) (ev_opP opP_ix (ev_val rfl) ev_int)))) fun x_word11 =>
  (bp_end (.keep (.keep (.keep (.keep (.keep (.keep (.keep (.keep .nil))))))))))) fun x_j9 =>
  (bp_end (.keep (.keep (.keep (.keep (.keep (.keep (.keep (.keep .nil))))))))))) fun x_j7 =>
  (bp_end (.keep (.keep (.keep (.keep (.keep (.keep (.skip (.skip .nil)))))))))))))) fun x_b3 =>
  (bd_ret (ev_val rfl))))))

abbrev s_law_says : Stmt := top 19
abbrev N_law_says : List Str := ["told", "due"]
theorem sc_law_says : FnScope N_law_says ["told", "due"] (defScope s_law_says) := ⟨rfl, rfl, rfl, by decide +kernel, rfl, by decide +kernel, by decide +kernel⟩
theorem ok_law_says {f : Addr} {fd : FuncData} (F : Fun K "_law_says" "_law_says" s_law_says f fd) (TX : Txt K mg) : FnOk P w K mg base CX0 1 f fd ["told", "due"] (spU ⟨K, C⟩ [.f, .f] (pur (f2 m_law_says))) := by
  have nd := sc_law_says.nd
  refine fn_ok (T := ⟨K, C⟩) F sc_law_says rfl (by decide) (fun cdv A outer s H E hr => ?_)
  have hu := hr.units
  refine ⟨_, (pss_one (ps_ret (pe_and (pe_callB call_isi rfl TX.b_isinstance b0_isinstance (pa_cons (pv 0) (pa_cons (pe_bltn (v := .ty "bool") rfl TX.b_bool b0_bool rfl) pa_nil))) (pe_one (pe_cmpR (op_eqD hu) (pv 0) (pv 1) (nomark _)))))), fun ds hds => ?_⟩
  match ds, hds with
  | [x_told, x_due], _ =>
    refine bv_pur ?_
    show B _ _ _ (m_law_says x_told x_due) _
    unfold m_law_says
    exact (bn_of (bd_ret (ev_andV (ev_isi (ev_val rfl)) (ev_opS opS_eq (ev_val rfl) (ev_val rfl)))))

abbrev s_is_name : Stmt := top 14
abbrev N_is_name : List Str := ["value", "sign"]
theorem sc_is_name : FnScope N_is_name ["value"] (defScope s_is_name) := ⟨rfl, rfl, rfl, by decide +kernel, rfl, by decide +kernel, by decide +kernel⟩
theorem ok_is_name {f : Addr} {fd : FuncData} (F : Fun K "is_name" "is_name" s_is_name f fd) (TX : Txt K mg) : FnOk P w K mg base CX0 1 f fd ["value"] (spU ⟨K, C⟩ [.f] (pur (f1 m_is_name))) := by
  have nd := sc_is_name.nd
  refine fn_ok (T := ⟨K, C⟩) F sc_is_name rfl (by decide) (fun cdv A outer s H E hr => ?_)
  have hu := hr.units
  refine ⟨_, (pss_cons (ps_if (PW.pt (pw_or (pt_not (pt_val (pe_callB call_isi rfl TX.b_isinstance b0_isinstance (pa_cons (pv 0) (pa_cons (pe_bltn (v := .ty "str") rfl TX.b_str b0_str rfl) pa_nil))))) (pw_or1 (pt_not (pt_chain op_le op_le pe_int (pe_callB cl_len rfl TX.b_len b0_len (pa_cons (pv 0) pa_nil)) (pe_gint rfl TX.g_MOST_NAME))))))
  (pss_one (ps_ret pe_bl))
  pss_nil)
  (pss_cons (ps_if (pt_cmpR (op_notInA hu) (pe_ix (ix_A hu) (pv 0) pe_int (fun _ _ => rfl)) (pe_gstr rfl TX.g_LETTERS) (by rfl))
  (pss_one (ps_ret pe_bl))
  pss_nil)
  (pss_cons (ps_for PassesOwn.never rfl (pi_seqK (pv 0)) (pg_name (i := 1) nd rfl (Or.inl rfl))
  (pss_cons (ps_if (PW.pt (pw_and (pt_cmpR (op_notInA hu) (pv 1) (pe_gstr rfl TX.g_LETTERS) (by rfl)) (pw_and1 (pt_cmpR (op_notInA hu) (pv 1) (pe_gstr rfl TX.g_DIGITS) (by rfl)))))
  (pss_one (ps_ret pe_bl))
  pss_nil)
  pss_nil))
  (pss_one (ps_ret pe_bl))))), fun ds hds => ?_⟩
  match ds, hds with
  | [x_value], _ =>
    refine bv_pur ?_
    show B _ _ _ (m_is_name x_value) _
    unfold m_is_name
    exact (bn_of (bd_ifx0 (evt_or (evt_not (evt_B (ev_isi (ev_val rfl)))) (evt_not (evt_test (ev_chain opS_le opS_le ev_int (ev_clS cS_len (evl_cons (ev_val rfl) evl_nil)) ev_int))))
  (bd_ret ev_bl)
  (bd_ifx0 (evt_test (ev_opS opS_notIn (ev_opP opP_ix (ev_val rfl) ev_int) ev_str))
  (bd_ret ev_bl)
  (bd_seqx (bt_for (md := .f) (Γl := fun (x_b1 : Unit) => [.val x_value, .no]) (evi_seq (ev_val rfl)) (.keep (.skip .nil)) (fun x_b1 x_d3 =>
  (bg_name (b_ifx0 (evt_and (evt_test (ev_opS opS_notIn (ev_val rfl) ev_str)) (evt_test (ev_opS opS_notIn (ev_val rfl) ev_str)))
  (bt_ret' ev_bl)
  (bt_end (.keep (.skip .nil))))))) fun x_b1 =>
  (bd_ret ev_bl)))))

abbrev s_is_integer : Stmt := top 11
abbrev N_is_integer : List Str := ["value"]
theorem sc_is_integer : FnScope N_is_integer ["value"] (defScope s_is_integer) := ⟨rfl, rfl, rfl, by decide +kernel, rfl, by decide +kernel, by decide +kernel⟩
theorem ok_is_integer {f : Addr} {fd : FuncData} (F : Fun K "is_integer" "is_integer" s_is_integer f fd) (TX : Txt K mg) : FnOk P w K mg base CX0 1 f fd ["value"] (spU ⟨K, C⟩ [.f] (pur (f1 m_is_integer))) := by
  have nd := sc_is_integer.nd
  refine fn_ok (T := ⟨K, C⟩) F sc_is_integer rfl (by decide) (fun cdv A outer s H E hr => ?_)
  have hu := hr.units
  refine ⟨_, (pss_one (ps_ret (pe_and (pe_callB call_isi rfl TX.b_isinstance b0_isinstance (pa_cons (pv 0) (pa_cons (pe_bltn (v := .ty "int") rfl TX.b_int b0_int rfl) pa_nil))) (pe_one (pe_not (pe_callB call_isi rfl TX.b_isinstance b0_isinstance (pa_cons (pv 0) (pa_cons (pe_bltn (v := .ty "bool") rfl TX.b_bool b0_bool rfl) pa_nil)))))))), fun ds hds => ?_⟩
  match ds, hds with
  | [x_value], _ =>
    refine bv_pur ?_
    show B _ _ _ (m_is_integer x_value) _
    unfold m_is_integer
    exact (bn_of (bd_ret (ev_andV (ev_isi (ev_val rfl)) (ev_notV (ev_isi (ev_val rfl))))))

abbrev s_is_between : Stmt := top 12
abbrev N_is_between : List Str := ["value", "least", "most"]
theorem sc_is_between : FnScope N_is_between ["value", "least", "most"] (defScope s_is_between) := ⟨rfl, rfl, rfl, by decide +kernel, rfl, by decide +kernel, by decide +kernel⟩
theorem ok_is_between {f : Addr} {fd : FuncData} (F : Fun K "is_between" "is_between" s_is_between f fd) (TX : Txt K mg) (C_is_integer : Cl P w K mg base 1 "is_integer" ["value"] (spU ⟨K, C⟩ [.f] (pur (f1 m_is_integer)))) : FnOk P w K mg base CX0 2 f fd ["value", "least", "most"] (spU ⟨K, C⟩ [.f, .f, .f] (pur (f3 m_is_between))) := by
  have nd := sc_is_between.nd
  refine fn_ok (T := ⟨K, C⟩) F sc_is_between rfl (by decide) (fun cdv A outer s H E hr => ?_)
  have hu := hr.units
  refine ⟨_, (pss_one (ps_ret (pe_and (pe_cl C_is_integer hr rfl (pa_cons (pv 0) pa_nil)) (pe_one (pe_chain op_le op_le (pv 1) (pv 0) (pv 2)))))), fun ds hds => ?_⟩
  match ds, hds with
  | [x_value, x_least, x_most], _ =>
    refine bv_pur ?_
    show B _ _ _ (m_is_between x_value x_least x_most) _
    unfold m_is_between
    exact (bn_of (bd_ret (ev_andV (ev_callO rfl (eva_cons (ev_val rfl) eva_nil)) (ev_chain opS_le opS_le (ev_val rfl) (ev_val rfl) (ev_val rfl)))))

abbrev s_is_table : Stmt := top 13
abbrev N_is_table : List Str := ["value", "size", "least", "most", "entry"]
theorem sc_is_table : FnScope N_is_table ["value", "size", "least", "most"] (defScope s_is_table) := ⟨rfl, rfl, rfl, by decide +kernel, rfl, by decide +kernel, by decide +kernel⟩
theorem ok_is_table {f : Addr} {fd : FuncData} (F : Fun K "is_table" "is_table" s_is_table f fd) (TX : Txt K mg) (C_is_between : Cl P w K mg base 2 "is_between" ["value", "least", "most"] (spU ⟨K, C⟩ [.f, .f, .f] (pur (f3 m_is_between)))) : FnOk P w K mg base CX0 3 f fd ["value", "size", "least", "most"] (spU ⟨K, C⟩ [.f, .f, .f, .f] (pur (f4 m_is_table))) := by
  have nd := sc_is_table.nd
  refine fn_ok (T := ⟨K, C⟩) F sc_is_table rfl (by decide) (fun cdv A outer s H E hr => ?_)
  have hu := hr.units
  refine ⟨_, (pss_cons (ps_if (PW.pt (pw_or (pt_not (pt_val (pe_callB call_isiT rfl TX.b_isinstance b0_isinstance (pa_cons (pv 0) (pa_cons (pe_tup (pa_cons (pe_bltn (v := .ty "list") rfl TX.b_list b0_list rfl) (pa_cons (pe_bltn (v := .ty "tuple") rfl TX.b_tuple b0_tuple rfl) pa_nil))) pa_nil))))) (pw_or1 (pt_cmpR (op_neD hu) (pe_callB cl_len rfl TX.b_len b0_len (pa_cons (pv 0) pa_nil)) (pv 1) (nomark _)))))
  (pss_one (ps_ret pe_bl))
  pss_nil)
  (pss_cons (ps_for PassesOwn.never rfl (pi_seqK (pv 0)) (pg_name (i := 4) nd rfl (Or.inl rfl))
  (pss_cons (ps_if (pt_not (pt_val (pe_cl C_is_between hr rfl (pa_cons (pv 4) (pa_cons (pv 2) (pa_cons (pv 3) pa_nil))))))
  (pss_one (ps_ret pe_bl))
  pss_nil)
  pss_nil))
  (pss_one (ps_ret pe_bl)))), fun ds hds => ?_⟩
  match ds, hds with
  | [x_value, x_size, x_least, x_most], _ =>
    refine bv_pur ?_
    show B _ _ _ (m_is_table x_value x_size x_least x_most) _
    unfold m_is_table
    exact (bn_of (bd_ifx0 (evt_or (evt_not (evt_B (ev_isi2 (ev_val rfl)))) (evt_test (ev_opS opS_ne (ev_clS cS_len (evl_cons (ev_val rfl) evl_nil)) (ev_val rfl))))
  (bd_ret ev_bl)
  (bd_seqx (bt_for (md := .f) (Γl := fun (x_b1 : Unit) => [.val x_value, .val x_size, .val x_least, .val x_most, .no]) (evi_seq (ev_val rfl)) (.keep (.keep (.keep (.keep (.skip .nil))))) (fun x_b1 x_d3 =>
  (bg_name (b_ifx0 (evt_not (evt_B (ev_callO rfl (eva_cons (ev_val rfl) (eva_cons (ev_val rfl) (eva_cons (ev_val rfl) eva_nil))))))
  (bt_ret' ev_bl)
  (bt_end (.keep (.keep (.keep (.keep (.skip .nil)))))))))) fun x_b1 =>
  (bd_ret ev_bl))))

abbrev s_law_integer : Stmt := top 18
abbrev N_law_integer : List Str := ["value"]
theorem sc_law_integer : FnScope N_law_integer ["value"] (defScope s_law_integer) := ⟨rfl, rfl, rfl, by decide +kernel, rfl, by decide +kernel, by decide +kernel⟩
theorem ok_law_integer {f : Addr} {fd : FuncData} (F : Fun K "_law_integer" "_law_integer" s_law_integer f fd) (TX : Txt K mg) : FnOk P w K mg base CX0 1 f fd ["value"] (spU ⟨K, C⟩ [.f] (pur (f1 m_law_integer))) := by
  have nd := sc_law_integer.nd
  refine fn_ok (T := ⟨K, C⟩) F sc_law_integer rfl (by decide) (fun cdv A outer s H E hr => ?_)
  have hu := hr.units
  refine ⟨_, (pss_one (ps_ret (pe_and (pe_callB call_isi rfl TX.b_isinstance b0_isinstance (pa_cons (pv 0) (pa_cons (pe_bltn (v := .ty "int") rfl TX.b_int b0_int rfl) pa_nil))) (pe_one (pe_not (pe_callB call_isi rfl TX.b_isinstance b0_isinstance (pa_cons (pv 0) (pa_cons (pe_bltn (v := .ty "bool") rfl TX.b_bool b0_bool rfl) pa_nil)))))))), fun ds hds => ?_⟩
  match ds, hds with
  | [x_value], _ =>
    refine bv_pur ?_
    show B _ _ _ (m_law_integer x_value) _
    unfold m_law_integer
    exact (bn_of (bd_ret (ev_andV (ev_isi (ev_val rfl)) (ev_notV (ev_isi (ev_val rfl))))))

abbrev s_law_table : Stmt := top 20
abbrev N_law_table : List Str := ["value", "size", "least", "most", "wrong", "entry"]
theorem sc_law_table : FnScope N_law_table ["value", "size", "least", "most"] (defScope s_law_table) := ⟨rfl, rfl, rfl, by decide +kernel, rfl, by decide +kernel, by decide +kernel⟩
theorem ok_law_table {f : Addr} {fd : FuncData} (F : Fun K "_law_table" "_law_table" s_law_table f fd) (TX : Txt K mg) (C_law_integer : Cl P w K mg base 1 "_law_integer" ["value"] (spU ⟨K, C⟩ [.f] (pur (f1 m_law_integer)))) : FnOk P w K mg base CX0 2 f fd ["value", "size", "least", "most"] (spU ⟨K, C⟩ [.f, .f, .f, .f] (pur (f4 m_law_table))) := by
  have nd := sc_law_table.nd
  refine fn_ok (T := ⟨K, C⟩) F sc_law_table rfl (by decide) (fun cdv A outer s H E hr => ?_)
  have hu := hr.units
  refine ⟨_, (pss_cons (ps_if (PW.pt (pw_or (pt_not (pt_val (pe_callB call_isiT rfl TX.b_isinstance b0_isinstance (pa_cons (pv 0) (pa_cons (pe_tup (pa_cons (pe_bltn (v := .ty "list") rfl TX.b_list b0_list rfl) (pa_cons (pe_bltn (v := .ty "tuple") rfl TX.b_tuple b0_tuple rfl) pa_nil))) pa_nil))))) (pw_or1 (pt_cmpR (op_neD hu) (pe_callB cl_len rfl TX.b_len b0_len (pa_cons (pv 0) pa_nil)) (pv 1) (nomark _)))))
  (pss_one (ps_ret pe_bl))
  pss_nil)
  (pss_cons (ps_setLc (i := 4) (own := [("entry", 5)]) (g := (gName 5)) (tt := (tOr (tNot (tB (tCall (spU ⟨K, C⟩ [.f] (pur (f1 m_law_integer))) [] (fun _ _ _ => False) (tCons (tVar 5) tNil)))) (tOr (tTest (tOp (rI0 fun i j => .bl (decide (i < j))) (tVar 5) (tVar 2))) (tTest (tOp (rI0 fun i j => .bl (decide (j < i))) (tVar 5) (tVar 3)))))) (te := (tVar 5)) rfl nd rfl rfl (sw_true rfl rfl rfl (by decide +kernel)) (pi_seqK (pv 0)) (blkOk_by (own := [("entry", 5)]) (N := N_law_table) (sc := defScope s_law_table) (by decide +kernel)) (fun _ _ _ _ _ => (pg_name (i := 5) nd rfl (Or.inl rfl))) (fun _ _ _ _ _ => (pts_one (PW.pt (pw_or (pt_not (pt_val (pe_cl C_law_integer hr rfl (pa_cons (pv 5) pa_nil)))) (pw_or (pt_cmpR op_lt (pv 5) (pv 2) (nomark _)) (pw_or1 (pt_cmpR op_gt (pv 5) (pv 3) (nomark _)))))))) (fun _ _ _ _ _ => (pv 5)))
  (pss_one (ps_ret (pe_cmpR (op_eqD hu) (pe_callB cl_len rfl TX.b_len b0_len (pa_cons (pv 4) pa_nil)) pe_int (nomark _)))))), fun ds hds => ?_⟩
  match ds, hds with
  | [x_value, x_size, x_least, x_most], _ =>
    refine bv_pur ?_
    show B _ _ _ (m_law_table x_value x_size x_least x_most) _
    unfold m_law_table
    exact (bn_of (bd_ifx0 (evt_or (evt_not (evt_B (ev_isi2 (ev_val rfl)))) (evt_test (ev_opS opS_ne (ev_clS cS_len (evl_cons (ev_val rfl) evl_nil)) (ev_val rfl))))
  (bd_ret ev_bl)
  (b_seq (bp_set (i := 4) (ev_new (evo_comp (md := .f) rfl (tin_name (by decide)) (evi_seq (ev_val rfl)) (fun x_d2 => (bg_name (ce_if (evt_or (evt_not (evt_B (ev_callO rfl (eva_cons (ev_val rfl) eva_nil)))) (evt_or (evt_test (ev_opS opS_lt (ev_val rfl) (ev_val rfl))) (evt_test (ev_opS opS_gt (ev_val rfl) (ev_val rfl))))) (ev_val rfl))))))) fun x_wrong1 =>
  (bd_ret (ev_opS opS_eq (ev_clS cS_len (evl_cons (ev_val rfl) evl_nil)) ev_int)))))

abbrev s_law_name : Stmt := top 21
abbrev N_law_name : List Str := ["value", "letters", "odd", "sign"]
theorem sc_law_name : FnScope N_law_name ["value"] (defScope s_law_name) := ⟨rfl, rfl, rfl, by decide +kernel, rfl, by decide +kernel, by decide +kernel⟩
theorem ok_law_name {f : Addr} {fd : FuncData} (F : Fun K "_law_name" "_law_name" s_law_name f fd) (TX : Txt K mg) : FnOk P w K mg base CX0 1 f fd ["value"] (spU ⟨K, C⟩ [.f] (pur (f1 m_law_name))) := by
  have nd := sc_law_name.nd
  refine fn_ok (T := ⟨K, C⟩) F sc_law_name rfl (by decide) (fun cdv A outer s H E hr => ?_)
  have hu := hr.units
  refine ⟨_, (pss_cons (ps_set (i := 1) nd rfl (Or.inr rfl) pe_str)
  (pss_cons (ps_if (PW.pt (pw_or (pt_not (pt_val (pe_callB call_isi rfl TX.b_isinstance b0_isinstance (pa_cons (pv 0) (pa_cons (pe_bltn (v := .ty "str") rfl TX.b_str b0_str rfl) pa_nil))))) (pw_or (pt_cmpR op_lt (pe_callB cl_len rfl TX.b_len b0_len (pa_cons (pv 0) pa_nil)) pe_int (nomark _)) (pw_or1 (pt_cmpR op_gt (pe_callB cl_len rfl TX.b_len b0_len (pa_cons (pv 0) pa_nil)) pe_int (nomark _))))))
  (pss_one (ps_ret pe_bl))
  pss_nil)
  (pss_cons (ps_setLc (i := 2) (own := [("sign", 3)]) (g := (gName 3)) (tt := (tTest (tOp (rNotInA K) (tVar 3) (tOp (rAddA K) (tVar 1) (tC (.str "0123456789")))))) (te := (tVar 3)) rfl nd rfl rfl (sw_true rfl rfl rfl (by decide +kernel)) (pi_seqK (pv 0)) (blkOk_by (own := [("sign", 3)]) (N := N_law_name) (sc := defScope s_law_name) (by decide +kernel)) (fun _ _ _ _ _ => (pg_name (i := 3) nd rfl (Or.inl rfl))) (fun _ _ _ _ _ => (pts_one (pt_cmpR (op_notInA hu) (pv 3) (pe_op op_addA (pv 1) pe_str) (by rfl)))) (fun _ _ _ _ _ => (pv 3)))
  (pss_one (ps_ret (pe_and (pe_cmpR (op_eqD hu) (pe_callB cl_len rfl TX.b_len b0_len (pa_cons (pv 2) pa_nil)) pe_int (nomark _)) (pe_one (pe_cmpR (op_inA hu) (pe_ix (ix_A hu) (pv 0) pe_int (fun _ _ => rfl)) (pv 1) (by rfl))))))))), fun ds hds => ?_⟩
  match ds, hds with
  | [x_value], _ =>
    refine bv_pur ?_
    show B _ _ _ (m_law_name x_value) _
    unfold m_law_name
    exact (bn_of (b_seq (bp_set (i := 1) ev_str) fun x_letters1 =>
  (bd_ifx0 (evt_or (evt_not (evt_B (ev_isi (ev_val rfl)))) (evt_or (evt_test (ev_opS opS_lt (ev_clS cS_len (evl_cons (ev_val rfl) evl_nil)) ev_int)) (evt_test (ev_opS opS_gt (ev_clS cS_len (evl_cons (ev_val rfl) evl_nil)) ev_int))))
  (bd_ret ev_bl)
  (b_seq (bp_set (i := 2) (ev_new (evo_comp (md := .f) rfl (tin_name (by decide)) (evi_seq (ev_val rfl)) (fun x_d3 => (bg_name (ce_if (evt_test (ev_opS opS_notIn (ev_val rfl) (ev_opM opM_add (ev_val rfl) ev_str))) (ev_val rfl))))))) fun x_odd2 =>
  (bd_ret (ev_andV (ev_opS opS_eq (ev_clS cS_len (evl_cons (ev_val rfl) evl_nil)) ev_int) (ev_opS opS_in (ev_opP opP_ix (ev_val rfl) ev_int) (ev_val rfl))))))))

abbrev s_law : Stmt := top 23
abbrev N_law : List Str := ["script", "head", "number", "value", "ends", "least", "most", "spoils", "size", "passed", "word", "told", "odd", "draw", "limit"]
theorem sc_law : FnScope N_law ["script"] (defScope s_law) := ⟨rfl, rfl, rfl, by decide +kernel, rfl, by decide +kernel, by decide +kernel⟩
theorem ok_law {f : Addr} {fd : FuncData} (F : Fun K "law" "law" s_law f fd) (TX : Txt K mg) (C_law_draw : Cl P w K mg base 1 "_law_draw" ["cell", "bounds"] (spU ⟨K, C⟩ [.f, .f] (pur (f2 m_law_draw)))) (C_law_cell : Cl P w K mg base 1 "_law_cell" ["script", "k"] (spU ⟨K, C⟩ [.f, .f] (pur (f2 m_law_cell)))) (C_law_word : Cl P w K mg base 2 "_law_word" ["cell", "size", "plain", "place"] (spU ⟨K, C⟩ [.f, .f, .f, .f] (pur (f4 m_law_word)))) (C_law_says : Cl P w K mg base 1 "_law_says" ["told", "due"] (spU ⟨K, C⟩ [.f, .f] (pur (f2 m_law_says)))) (C_is_name : Cl P w K mg base 1 "is_name" ["value"] (spU ⟨K, C⟩ [.f] (pur (f1 m_is_name)))) (C_is_integer : Cl P w K mg base 1 "is_integer" ["value"] (spU ⟨K, C⟩ [.f] (pur (f1 m_is_integer)))) (C_is_table : Cl P w K mg base 3 "is_table" ["value", "size", "least", "most"] (spU ⟨K, C⟩ [.f, .f, .f, .f] (pur (f4 m_is_table)))) (C_law_integer : Cl P w K mg base 1 "_law_integer" ["value"] (spU ⟨K, C⟩ [.f] (pur (f1 m_law_integer)))) (C_law_table : Cl P w K mg base 2 "_law_table" ["value", "size", "least", "most"] (spU ⟨K, C⟩ [.f, .f, .f, .f] (pur (f4 m_law_table)))) (C_law_name : Cl P w K mg base 1 "_law_name" ["value"] (spU ⟨K, C⟩ [.f] (pur (f1 m_law_name)))) : FnOk P w K mg base CX0 4 f fd ["script"] (spU ⟨K, C⟩ [.f] (pur (f1 m_law))) := by
  have nd := sc_law.nd
  refine fn_ok (T := ⟨K, C⟩) F sc_law rfl (by decide) (fun cdv A outer s H E hr => ?_)
  have hu := hr.units
  refine ⟨_, (pss_cons (ps_set (i := 1) nd rfl (Or.inl rfl) (pe_cl C_law_draw hr rfl (pa_cons (pe_cl C_law_cell hr rfl (pa_cons (pv 0) (pa_cons pe_int pa_nil))) (pa_cons (pe_lst (pa_cons pe_int (pa_cons pe_int (pa_cons pe_int (pa_cons pe_int (pa_cons pe_int (pa_cons pe_int (pa_cons pe_int (pa_cons pe_int (pa_cons pe_int pa_nil)))))))))) pa_nil))))
  (pss_cons (ps_set (i := 2) nd rfl (Or.inl rfl) (pe_cl C_law_cell hr rfl (pa_cons (pv 0) (pa_cons pe_int pa_nil))))
  (pss_cons (ps_if (PW.pt (pw_or (pt_not (pt_val (pe_cl C_law_says hr rfl (pa_cons (pe_cl C_is_integer hr rfl (pa_cons (pv 2) pa_nil)) (pa_cons pe_bl pa_nil))))) (pw_or1 (pt_not (pt_val (pe_cl C_law_says hr rfl (pa_cons (pe_cl C_is_integer hr rfl (pa_cons (pe_op op_sub pe_int (pv 2)) pa_nil)) (pa_cons pe_bl pa_nil))))))))
  (pss_one (ps_ret pe_bl))
  pss_nil)
  (pss_cons (ps_for PassesOwn.never rfl (pi_seqK (pe_lst (pa_cons pe_bl (pa_cons pe_bl (pa_cons pe_non (pa_cons pe_str (pa_cons (pe_lst (pa_cons pe_int pa_nil)) (pa_cons (pe_tup (pa_cons pe_int pa_nil)) (pa_cons pe_str (pa_cons (pe_lst (pa_cons (pv 2) pa_nil)) (pa_cons pe_dnewK pa_nil))))))))))) (pg_name (i := 3) nd rfl (Or.inl rfl))
  (pss_cons (ps_if (PW.pt (pw_or (pt_cmpR op_isNotA (pe_cl C_is_integer hr rfl (pa_cons (pv 3) pa_nil)) pe_bl (nomark _)) (pw_or1 (pt_not (pt_val (pe_cl C_law_says hr rfl (pa_cons (pe_cl C_is_table hr rfl (pa_cons (pv 3) (pa_cons pe_int (pa_cons (pe_un un_neg pe_int) (pa_cons pe_int pa_nil))))) (pa_cons (pe_cl C_law_table hr rfl (pa_cons (pv 3) (pa_cons pe_int (pa_cons (pe_un un_neg pe_int) (pa_cons pe_int pa_nil))))) pa_nil))))))))
  (pss_one (ps_ret pe_bl))
  pss_nil)
  (pss_cons (ps_if (pt_cmpR op_isNotA (pe_cl C_is_name hr rfl (pa_cons (pv 3) pa_nil)) pe_bl (nomark _))
  (pss_one (ps_ret pe_bl))
  pss_nil)
  pss_nil)))
  (pss_cons (ps_set (i := 4) nd rfl (Or.inl rfl) (pe_lst (pa_cons (pe_op op_sub (pe_ix (ix_A hu) (pe_cl C_law_draw hr rfl (pa_cons (pe_cl C_law_cell hr rfl (pa_cons (pv 0) (pa_cons pe_int pa_nil))) (pa_cons (pe_lst (pa_cons pe_int pa_nil)) pa_nil))) pe_int (fun _ _ => rfl)) pe_int) (pa_cons (pe_ix (ix_A hu) (pe_cl C_law_draw hr rfl (pa_cons (pe_cl C_law_cell hr rfl (pa_cons (pv 0) (pa_cons pe_int pa_nil))) (pa_cons (pe_lst (pa_cons pe_int pa_nil)) pa_nil))) pe_int (fun _ _ => rfl)) pa_nil))))
  (pss_cons (ps_set (i := 5) nd rfl (Or.inr rfl) (pe_ix (ix_A hu) (pv 4) pe_int (fun _ _ => rfl)))
  (pss_cons (ps_set (i := 6) nd rfl (Or.inl rfl) (pe_op op_addA (pe_ix (ix_A hu) (pv 4) pe_int (fun _ _ => rfl)) (pe_ix (ix_A hu) (pv 4) pe_int (fun _ _ => rfl))))
  (pss_cons (ps_setLc (i := 3) (own := [("draw", 13)]) (g := (gName 13)) (tt := tYes) (te := (tOp (rAddA K) (tVar 5) (tVar 13))) rfl nd rfl rfl (sw_true rfl rfl rfl (by decide +kernel)) (pi_seqK (pe_cl C_law_draw hr rfl (pa_cons (pe_cl C_law_cell hr rfl (pa_cons (pv 0) (pa_cons pe_int pa_nil))) (pa_cons (pe_op op_mulA (pe_lst (pa_cons (pe_op op_addA (pe_ix (ix_A hu) (pv 4) pe_int (fun _ _ => rfl)) pe_int) pa_nil)) (pe_ix (ix_A hu) (pv 1) pe_int (fun _ _ => rfl))) pa_nil)))) (blkOk_by (own := [("draw", 13)]) (N := N_law) (sc := defScope s_law) (by decide +kernel)) (fun _ _ _ _ _ => (pg_name (i := 13) nd rfl (Or.inl rfl))) (fun _ _ _ _ _ => pts_nil) (fun _ _ _ _ _ => (pe_op op_addA (pv 5) (pv 13))))
  (pss_cons (ps_if (pt_cmpR op_gt (pe_ix (ix_A hu) (pv 1) pe_int (fun _ _ => rfl)) pe_int (nomark _))
  (pss_cons (ps_set (i := 7) nd rfl (Or.inl rfl) (pe_lst (pa_cons (pv 5) (pa_cons (pv 6) (pa_cons (pe_op op_sub (pv 5) pe_int) (pa_cons (pe_op op_addA (pv 6) pe_int) (pa_cons pe_bl (pa_cons pe_bl (pa_cons pe_non (pa_cons pe_str (pa_cons (pe_lst (pa_cons (pv 5) pa_nil)) (pa_cons (pe_op op_pow pe_int pe_int) (pa_cons (pv 6) (pa_cons (pe_op op_sub pe_int (pe_op op_pow pe_int pe_int)) pa_nil))))))))))))))
  (pss_cons (ps_asg (pe_ix (ix_A hu) (pv 7) (pe_ix (ix_A hu) (pv 1) pe_int (fun _ _ => rfl)) (fun _ _ => rfl)) (pg_sub (pv 3) (pe_op op_mod (pe_callTy call_int1 rfl TX.b_int b0_int (pa_cons (pe_ix (ix_A hu) (pv 1) pe_int (fun _ _ => rfl)) pa_nil)) (pe_ix (ix_A hu) (pv 1) pe_int (fun _ _ => rfl))) (set_A hu)))
  pss_nil))
  pss_nil)
  (pss_cons (ps_set (i := 8) nd rfl (Or.inl rfl) (pe_op op_addA (pe_ix (ix_A hu) (pv 1) pe_int (fun _ _ => rfl)) (pe_op op_mulA (pe_ix (ix_A hu) (pe_lst (pa_cons pe_int (pa_cons pe_int (pa_cons (pe_un un_neg pe_int) pa_nil)))) (pe_ix (ix_A hu) (pv 1) pe_int (fun _ _ => rfl)) (fun _ _ => rfl)) (pe_ix (ix_A hu) (pv 1) pe_int (fun _ _ => rfl)))))
  (pss_cons (ps_set (i := 9) nd rfl (Or.inl rfl) (pe_callTy call_list_of rfl TX.b_list b0_list (pa_cons (pv 3) pa_nil)))
  (pss_cons (ps_if (pt_cmpR (op_eqD hu) (pe_ix (ix_A hu) (pv 1) pe_int (fun _ _ => rfl)) pe_int (nomark _))
  (pss_cons (ps_set (i := 9) nd rfl (Or.inl rfl) (pe_callTy call_tuple_of rfl TX.b_tuple b0_tuple (pa_cons (pv 3) pa_nil)))
  pss_nil)
  pss_nil)
  (pss_cons (ps_if (pt_not (pt_val (pe_cl C_law_says hr rfl (pa_cons (pe_cl C_is_table hr rfl (pa_cons (pv 9) (pa_cons (pv 8) (pa_cons (pv 5) (pa_cons (pv 6) pa_nil))))) (pa_cons (pe_cl C_law_table hr rfl (pa_cons (pv 3) (pa_cons (pv 8) (pa_cons (pv 5) (pa_cons (pv 6) pa_nil))))) pa_nil)))))
  (pss_one (ps_ret pe_bl))
  pss_nil)
  (pss_cons (ps_if (PW.pt (pw_or (pt_cmpR (op_neD hu) (pe_callTy call_list_of rfl TX.b_list b0_list (pa_cons (pv 9) pa_nil)) (pv 3) (nomark _)) (pw_or1 (pt_not (pt_val (pe_cl C_law_says hr rfl (pa_cons (pe_cl C_is_table hr rfl (pa_cons (pe_callTy call_list_of rfl TX.b_list b0_list (pa_cons (pv 3) pa_nil)) (pa_cons (pe_ix (ix_A hu) (pv 1) pe_int (fun _ _ => rfl)) (pa_cons (pv 5) (pa_cons (pv 6) pa_nil))))) (pa_cons (pe_cl C_law_table hr rfl (pa_cons (pv 3) (pa_cons (pe_ix (ix_A hu) (pv 1) pe_int (fun _ _ => rfl)) (pa_cons (pv 5) (pa_cons (pv 6) pa_nil))))) pa_nil))))))))
  (pss_one (ps_ret pe_bl))
  pss_nil)
  (pss_cons (ps_set (i := 10) nd rfl (Or.inl rfl) (pe_cl C_law_word hr rfl (pa_cons (pe_cl C_law_cell hr rfl (pa_cons (pv 0) (pa_cons pe_int pa_nil))) (pa_cons (pe_ix (ix_A hu) (pv 1) pe_int (fun _ _ => rfl)) (pa_cons (pe_ix (ix_A hu) (pv 1) pe_int (fun _ _ => rfl)) (pa_cons (pe_ix (ix_A hu) (pv 1) pe_int (fun _ _ => rfl)) pa_nil))))))
  (pss_cons (ps_if (PW.pt (pw_or (pt_not (pt_val (pe_cl C_law_says hr rfl (pa_cons (pe_cl C_is_name hr rfl (pa_cons (pv 10) pa_nil)) (pa_cons (pe_cl C_law_name hr rfl (pa_cons (pv 10) pa_nil)) pa_nil))))) (pw_or1 (pt_not (pt_val (pe_cl C_law_says hr rfl (pa_cons (pe_cl C_is_name hr rfl (pa_cons (pe_op op_addA pe_str (pv 10)) pa_nil)) (pa_cons (pe_cl C_law_name hr rfl (pa_cons (pe_op op_addA pe_str (pv 10)) pa_nil)) pa_nil))))))))
  (pss_one (ps_ret pe_bl))
  pss_nil)
  (pss_cons (ps_set (i := 11) nd rfl (Or.inl rfl) (pe_tup (pa_cons (pe_gint rfl TX.g_MOST_ROOMS) (pa_cons (pe_gint rfl TX.g_MOST_DUCTS) (pa_cons (pe_gint rfl TX.g_MOST_WIDTH) (pa_cons (pe_gint rfl TX.g_MOST_UNITS) (pa_cons (pe_gint rfl TX.g_MOST_VENTS) (pa_cons (pe_gint rfl TX.g_MOST_DEEDS) (pa_cons (pe_gint rfl TX.g_MOST_TEXT) pa_nil)))))))))
  (pss_cons (ps_setLc (i := 12) (own := [("limit", 14)]) (g := (gName 14)) (tt := (tNot (tB (tCall (spU ⟨K, C⟩ [.f] (pur (f1 m_law_integer))) [] (fun _ _ _ => False) (tCons (tVar 14) tNil))))) (te := (tVar 14)) rfl nd rfl rfl (sw_true rfl rfl rfl (by decide +kernel)) (pi_seqK (pv 11)) (blkOk_by (own := [("limit", 14)]) (N := N_law) (sc := defScope s_law) (by decide +kernel)) (fun _ _ _ _ _ => (pg_name (i := 14) nd rfl (Or.inl rfl))) (fun _ _ _ _ _ => (pts_one (pt_not (pt_val (pe_cl C_law_integer hr rfl (pa_cons (pv 14) pa_nil)))))) (fun _ _ _ _ _ => (pv 14)))
  (pss_one (ps_ret (pe_and (pe_cmpR (op_eqD hu) (pe_callB cl_len rfl TX.b_len b0_len (pa_cons (pv 12) pa_nil)) pe_int (nomark _)) (pe_one (pe_cmpR (op_eqD hu) (pv 11) (pe_tup (pa_cons pe_int (pa_cons pe_int (pa_cons pe_int (pa_cons pe_int (pa_cons pe_int (pa_cons pe_int (pa_cons pe_int pa_nil)))))))) (nomark _)))))))))))))))))))))))), fun ds hds => ?_⟩
  match ds, hds with
  | [x_script], _ =>
    refine bv_pur ?_
    show B _ _ _ (m_law x_script) _
    unfold m_law
    exact (bn_of (b_seq (bp_set (i := 1) (ev_callO rfl (eva_cons (ev_callO rfl (eva_cons (ev_val rfl) (eva_cons ev_int eva_nil))) (eva_cons (ev_new (evo_lst (evl_cons ev_int (evl_cons ev_int (evl_cons ev_int (evl_cons ev_int (evl_cons ev_int (evl_cons ev_int (evl_cons ev_int (evl_cons ev_int (evl_cons ev_int evl_nil))))))))))) eva_nil)))) fun x_head1 =>
  (b_seq (bp_set (i := 2) (ev_callO rfl (eva_cons (ev_val rfl) (eva_cons ev_int eva_nil)))) fun x_number2 =>
  (bd_ifx0 (evt_or (evt_not (evt_B (ev_callO rfl (eva_cons (ev_callO rfl (eva_cons (ev_val rfl) eva_nil)) (eva_cons ev_bl eva_nil))))) (evt_not (evt_B (ev_callO rfl (eva_cons (ev_callO rfl (eva_cons (ev_opS opS_sub ev_int (ev_val rfl)) eva_nil)) (eva_cons ev_bl eva_nil))))))
  (bd_ret ev_bl)
  (bd_seqx (bt_for (md := .f) (Γl := fun (x_b3 : Unit) => [.val x_script, .val x_head1, .val x_number2, .no, .no, .no, .no, .no, .no, .no, .no, .no, .no, .no, .no]) (evi_seq (ev_new (evo_lst (evl_cons ev_bl (evl_cons ev_bl (evl_cons ev_non (evl_cons ev_str (evl_cons (ev_new (evo_lst (evl_cons ev_int evl_nil))) (evl_cons (ev_tup (evl_cons ev_int evl_nil)) (evl_cons ev_str (evl_cons (ev_new (evo_lst (evl_cons (ev_val rfl) evl_nil))) (evl_cons (ev_new evo_dict) evl_nil)))))))))))) (.keep (.keep (.keep (.skip (.skip (.skip (.skip (.skip (.skip (.skip (.skip (.skip (.skip (.skip (.skip .nil))))))))))))))) (fun x_b3 x_d5 =>
  (bg_name (b_ifx0 (evt_or (evt_test (ev_opS opS_isNot (ev_callO rfl (eva_cons (ev_val rfl) eva_nil)) ev_bl)) (evt_not (evt_B (ev_callO rfl (eva_cons (ev_callO rfl (eva_cons (ev_val rfl) (eva_cons ev_int (eva_cons (ev_neg ev_int) (eva_cons ev_int eva_nil))))) (eva_cons (ev_callO rfl (eva_cons (ev_val rfl) (eva_cons ev_int (eva_cons (ev_neg ev_int) (eva_cons ev_int eva_nil))))) eva_nil))))))
  (bt_ret' ev_bl)
  (b_ifx0 (evt_test (ev_opS opS_isNot (ev_callO rfl (eva_cons (ev_val rfl) eva_nil)) ev_bl))
  (bt_ret' ev_bl)
  (bt_end (.keep (.keep (.keep (.skip (.skip (.skip (.skip (.skip (.skip (.skip (.skip (.skip (.skip (.skip (.skip .nil))))))))))))))))))))) fun x_b3 =>
  (b_seq (bp_set (i := 4) (ev_new (evo_lst (evl_cons (ev_opS opS_sub (ev_opP opP_ix (ev_callO rfl (eva_cons (ev_callO rfl (eva_cons (ev_val rfl) (eva_cons ev_int eva_nil))) (eva_cons (ev_new (evo_lst (evl_cons ev_int evl_nil))) eva_nil))) ev_int) ev_int) (evl_cons (ev_opP opP_ix (ev_callO rfl (eva_cons (ev_callO rfl (eva_cons (ev_val rfl) (eva_cons ev_int eva_nil))) (eva_cons (ev_new (evo_lst (evl_cons ev_int evl_nil))) eva_nil))) ev_int) evl_nil))))) fun x_ends6 =>
  (b_seq (bp_set (i := 5) (ev_opP opP_ix (ev_val rfl) ev_int)) fun x_least7 =>
  (b_seq (bp_set (i := 6) (ev_opM opM_add (ev_opP opP_ix (ev_val rfl) ev_int) (ev_opP opP_ix (ev_val rfl) ev_int))) fun x_most8 =>
  (b_seq (bp_setO (i := 3) (evo_comp (md := .f) rfl (tin_name (by decide)) (evi_seq (ev_callO rfl (eva_cons (ev_callO rfl (eva_cons (ev_val rfl) (eva_cons ev_int eva_nil))) (eva_cons (ev_opM opM_mul (ev_new (evo_lst (evl_cons (ev_opM opM_add (ev_opP opP_ix (ev_val rfl) ev_int) ev_int) evl_nil))) (ev_opP opP_ix (ev_val rfl) ev_int)) eva_nil)))) (fun x_d10 => (bg_name (ce_all (ev_opM opM_add (ev_val rfl) (ev_val rfl))))))) fun x_value9 =>
  (b_seq (Γ1 := fun (x_j11 : D) => [.val x_script, .val x_head1, .val x_number2, .own x_j11, .val x_ends6, .val x_least7, .val x_most8, .no, .no, .no, .no, .no, .no, .no, .no]) (b_if (evt_test (ev_opS opS_gt (ev_opP opP_ix (ev_val rfl) ev_int) ev_int))
  (b_seq (bp_set (i := 7) (ev_new (evo_lst (evl_cons (ev_val rfl) (evl_cons (ev_val rfl) (evl_cons (ev_opS opS_sub (ev_val rfl) ev_int) (evl_cons (ev_opM opM_add (ev_val rfl) ev_int) (evl_cons ev_bl (evl_cons ev_bl (evl_cons ev_non (evl_cons ev_str (evl_cons (ev_new (evo_lst (evl_cons (ev_val rfl) evl_nil))) (evl_cons (ev_opS opS_pow ev_int ev_int) (evl_cons (ev_val rfl) (evl_cons (ev_opS opS_sub ev_int (ev_opS opS_pow ev_int ev_int)) evl_nil))))))))))))))) fun x_spoils12 =>
  (b_seq (bp_put (i := 3) rfl rfl (ev_opP opP_ix (ev_val rfl) (ev_opP opP_ix (ev_val rfl) ev_int)) (ev_opS opS_mod (ev_clS cS_int (evl_cons (ev_opP opP_ix (ev_val rfl) ev_int) evl_nil)) (ev_opP opP_ix (ev_val rfl) ev_int))) fun x_value13 =>
  (bp_end (.keep (.keep (.keep (.keep (.keep (.keep (.keep (.skip (.skip (.skip (.skip (.skip (.skip (.skip (.skip .nil))))))))))))))))))
  (bp_end (.keep (.keep (.keep (.keep (.keep (.keep (.keep (.skip (.skip (.skip (.skip (.skip (.skip (.skip (.skip .nil))))))))))))))))) fun x_j11 =>
  (b_seq (bp_set (i := 8) (ev_opM opM_add (ev_opP opP_ix (ev_val rfl) ev_int) (ev_opM opM_mul (ev_opP opP_ix (ev_new (evo_lst (evl_cons ev_int (evl_cons ev_int (evl_cons (ev_neg ev_int) evl_nil))))) (ev_opP opP_ix (ev_val rfl) ev_int)) (ev_opP opP_ix (ev_val rfl) ev_int)))) fun x_size14 =>
  (b_freeze 3 rfl (b_seq (bp_set (i := 9) (ev_new (evo_list (ev_val rfl)))) fun x_passed15 =>
  (b_seq (Γ1 := fun (x_j16 : D) => [.val x_script, .val x_head1, .val x_number2, .val x_j11, .val x_ends6, .val x_least7, .val x_most8, .no, .val x_size14, .val x_j16, .no, .no, .no, .no, .no]) (b_if (evt_test (ev_opS opS_eq (ev_opP opP_ix (ev_val rfl) ev_int) ev_int))
  (b_seq (bp_set (i := 9) (ev_clM cM_tuple (evl_cons (ev_val rfl) evl_nil))) fun x_passed17 =>
  (bp_end (.keep (.keep (.keep (.keep (.keep (.keep (.keep (.skip (.keep (.keep (.skip (.skip (.skip (.skip (.skip .nil)))))))))))))))))
  (bp_end (.keep (.keep (.keep (.keep (.keep (.keep (.keep (.skip (.keep (.keep (.skip (.skip (.skip (.skip (.skip .nil))))))))))))))))) fun x_j16 =>
  (bd_ifx0 (evt_not (evt_B (ev_callO rfl (eva_cons (ev_callO rfl (eva_cons (ev_val rfl) (eva_cons (ev_val rfl) (eva_cons (ev_val rfl) (eva_cons (ev_val rfl) eva_nil))))) (eva_cons (ev_callO rfl (eva_cons (ev_val rfl) (eva_cons (ev_val rfl) (eva_cons (ev_val rfl) (eva_cons (ev_val rfl) eva_nil))))) eva_nil)))))
  (bd_ret ev_bl)
  (bd_ifx0 (evt_or (evt_test (ev_opS opS_ne (ev_new (evo_list (ev_val rfl))) (ev_val rfl))) (evt_not (evt_B (ev_callO rfl (eva_cons (ev_callO rfl (eva_cons (ev_new (evo_list (ev_val rfl))) (eva_cons (ev_opP opP_ix (ev_val rfl) ev_int) (eva_cons (ev_val rfl) (eva_cons (ev_val rfl) eva_nil))))) (eva_cons (ev_callO rfl (eva_cons (ev_val rfl) (eva_cons (ev_opP opP_ix (ev_val rfl) ev_int) (eva_cons (ev_val rfl) (eva_cons (ev_val rfl) eva_nil))))) eva_nil))))))
  (bd_ret ev_bl)
  (b_seq (bp_set (i := 10) (ev_callO rfl (eva_cons (ev_callO rfl (eva_cons (ev_val rfl) (eva_cons ev_int eva_nil))) (eva_cons (ev_opP opP_ix (ev_val rfl) ev_int) (eva_cons (ev_opP opP_ix (ev_val rfl) ev_int) (eva_cons (ev_opP opP_ix (ev_val rfl) ev_int) eva_nil)))))) fun x_word18 =>
  (bd_ifx0 (evt_or (evt_not (evt_B (ev_callO rfl (eva_cons (ev_callO rfl (eva_cons (ev_val rfl) eva_nil)) (eva_cons (ev_callO rfl (eva_cons (ev_val rfl) eva_nil)) eva_nil))))) (evt_not (evt_B (ev_callO rfl (eva_cons (ev_callO rfl (eva_cons (ev_opM opM_add ev_str (ev_val rfl)) eva_nil)) (eva_cons (ev_callO rfl (eva_cons (ev_opM opM_add ev_str (ev_val rfl)) eva_nil)) eva_nil))))))
  (bd_ret ev_bl)
  (b_seq (bp_set (i := 11) (ev_tup (evl_cons ev_int (evl_cons ev_int (evl_cons ev_int (evl_cons ev_int (evl_cons ev_int (evl_cons ev_int (evl_cons ev_int evl_nil))))))))) fun x_told19 =>
  (b_seq (bp_set (i := 12) (ev_new (evo_comp (md := .f) rfl (tin_name (by decide)) (evi_seq (ev_val rfl)) (fun x_d21 => (bg_name (ce_if (evt_not (evt_B (ev_callO rfl (eva_cons (ev_val rfl) eva_nil)))) (ev_val rfl))))))) fun x_odd20 =>
  (bd_ret (ev_andV (ev_opS opS_eq (ev_clS cS_len (evl_cons (ev_val rfl) evl_nil)) ev_int) (ev_opS opS_eq (ev_val rfl) (ev_tup (evl_cons ev_int (evl_cons ev_int (evl_cons ev_int (evl_cons ev_int (evl_cons ev_int (evl_cons ev_int (evl_cons ev_int evl_nil)))))))))))))))))))))))))))))))
end
end Mi
namespace Mi
open PySem L2
open PyProof.Rows
theorem all_mk {l : PySem.W.OpenLaw} {w : World} {K : PySem.W.Frag} {h : Heap} {mg : Str → Option Value} {fa : Addr} (HL : ∀ ns : List Int, ns.length ≤ 63 → m_law (.scr ns) = some (.bl true)) (X : K.In h) (G : h.Ns mainGlobals mg) (hfa : mg "law" = some (.ref fa))
    {f_law_draw : Addr} {od_law_draw an_law_draw : Option Addr} {sl_law_draw : Array (Option Value)} {oc_law_draw kV_law_draw dc_law_draw pm_law_draw cd_law_draw ct_law_draw : Value}
    {f_law_cell : Addr} {od_law_cell an_law_cell : Option Addr} {sl_law_cell : Array (Option Value)} {oc_law_cell kV_law_cell dc_law_cell pm_law_cell cd_law_cell ct_law_cell : Value}
    {f_law_word : Addr} {od_law_word an_law_word : Option Addr} {sl_law_word : Array (Option Value)} {oc_law_word kV_law_word dc_law_word pm_law_word cd_law_word ct_law_word : Value}
    {f_law_says : Addr} {od_law_says an_law_says : Option Addr} {sl_law_says : Array (Option Value)} {oc_law_says kV_law_says dc_law_says pm_law_says cd_law_says ct_law_says : Value}
    {f_is_name : Addr} {od_is_name an_is_name : Option Addr} {sl_is_name : Array (Option Value)} {oc_is_name kV_is_name dc_is_name pm_is_name cd_is_name ct_is_name : Value}
    {f_is_integer : Addr} {od_is_integer an_is_integer : Option Addr} {sl_is_integer : Array (Option Value)} {oc_is_integer kV_is_integer dc_is_integer pm_is_integer cd_is_integer ct_is_integer : Value}
    {f_is_between : Addr} {od_is_between an_is_between : Option Addr} {sl_is_between : Array (Option Value)} {oc_is_between kV_is_between dc_is_between pm_is_between cd_is_between ct_is_between : Value}
    {f_is_table : Addr} {od_is_table an_is_table : Option Addr} {sl_is_table : Array (Option Value)} {oc_is_table kV_is_table dc_is_table pm_is_table cd_is_table ct_is_table : Value}
    {f_law_integer : Addr} {od_law_integer an_law_integer : Option Addr} {sl_law_integer : Array (Option Value)} {oc_law_integer kV_law_integer dc_law_integer pm_law_integer cd_law_integer ct_law_integer : Value}
    {f_law_table : Addr} {od_law_table an_law_table : Option Addr} {sl_law_table : Array (Option Value)} {oc_law_table kV_law_table dc_law_table pm_law_table cd_law_table ct_law_table : Value}
    {f_law_name : Addr} {od_law_name an_law_name : Option Addr} {sl_law_name : Array (Option Value)} {oc_law_name kV_law_name dc_law_name pm_law_name cd_law_name ct_law_name : Value}
    {f_law : Addr} {od_law an_law : Option Addr} {sl_law : Array (Option Value)} {oc_law kV_law dc_law pm_law cd_law ct_law : Value}
    {t_DIGITS : _}
    {t_LETTERS : _}
    {t_MOST_DEEDS : _}
    {t_MOST_DUCTS : _}
    {t_MOST_NAME : _}
    {t_MOST_ROOMS : _}
    {t_MOST_TEXT : _}
    {t_MOST_UNITS : _}
    {t_MOST_VENTS : _}
    {t_MOST_WIDTH : _}
    (a_law_draw : PySem.W.nsIn K mainGlobals "_law_draw" = some (some (.ref f_law_draw)))
    (l_law_draw : K.lookup f_law_draw = some ⟨oc_law_draw, od_law_draw, .func (PySem.W.fnOf "_law_draw" "_law_draw" (defArgs s_law_draw) (defBody s_law_draw) (defScope s_law_draw) .none kV_law_draw dc_law_draw pm_law_draw an_law_draw cd_law_draw ct_law_draw), sl_law_draw⟩)
    (c_law_draw : PySem.W.codeIn K cd_law_draw "_law_draw" = true)
    (k_law_draw : PySem.W.keepIn K (.ref f_law_draw) = true)
    (a_law_cell : PySem.W.nsIn K mainGlobals "_law_cell" = some (some (.ref f_law_cell)))
    (l_law_cell : K.lookup f_law_cell = some ⟨oc_law_cell, od_law_cell, .func (PySem.W.fnOf "_law_cell" "_law_cell" (defArgs s_law_cell) (defBody s_law_cell) (defScope s_law_cell) .none kV_law_cell dc_law_cell pm_law_cell an_law_cell cd_law_cell ct_law_cell), sl_law_cell⟩)
    (c_law_cell : PySem.W.codeIn K cd_law_cell "_law_cell" = true)
    (k_law_cell : PySem.W.keepIn K (.ref f_law_cell) = true)
    (a_law_word : PySem.W.nsIn K mainGlobals "_law_word" = some (some (.ref f_law_word)))
    (l_law_word : K.lookup f_law_word = some ⟨oc_law_word, od_law_word, .func (PySem.W.fnOf "_law_word" "_law_word" (defArgs s_law_word) (defBody s_law_word) (defScope s_law_word) .none kV_law_word dc_law_word pm_law_word an_law_word cd_law_word ct_law_word), sl_law_word⟩)
    (c_law_word : PySem.W.codeIn K cd_law_word "_law_word" = true)
    (k_law_word : PySem.W.keepIn K (.ref f_law_word) = true)
    (a_law_says : PySem.W.nsIn K mainGlobals "_law_says" = some (some (.ref f_law_says)))
    (l_law_says : K.lookup f_law_says = some ⟨oc_law_says, od_law_says, .func (PySem.W.fnOf "_law_says" "_law_says" (defArgs s_law_says) (defBody s_law_says) (defScope s_law_says) .none kV_law_says dc_law_says pm_law_says an_law_says cd_law_says ct_law_says), sl_law_says⟩)
    (c_law_says : PySem.W.codeIn K cd_law_says "_law_says" = true)
    (k_law_says : PySem.W.keepIn K (.ref f_law_says) = true)
    (a_is_name : PySem.W.nsIn K mainGlobals "is_name" = some (some (.ref f_is_name)))
    (l_is_name : K.lookup f_is_name = some ⟨oc_is_name, od_is_name, .func (PySem.W.fnOf "is_name" "is_name" (defArgs s_is_name) (defBody s_is_name) (defScope s_is_name) .none kV_is_name dc_is_name pm_is_name an_is_name cd_is_name ct_is_name), sl_is_name⟩)
    (c_is_name : PySem.W.codeIn K cd_is_name "is_name" = true)
    (k_is_name : PySem.W.keepIn K (.ref f_is_name) = true)
    (a_is_integer : PySem.W.nsIn K mainGlobals "is_integer" = some (some (.ref f_is_integer)))
    (l_is_integer : K.lookup f_is_integer = some ⟨oc_is_integer, od_is_integer, .func (PySem.W.fnOf "is_integer" "is_integer" (defArgs s_is_integer) (defBody s_is_integer) (defScope s_is_integer) .none kV_is_integer dc_is_integer pm_is_integer an_is_integer cd_is_integer ct_is_integer), sl_is_integer⟩)
    (c_is_integer : PySem.W.codeIn K cd_is_integer "is_integer" = true)
    (k_is_integer : PySem.W.keepIn K (.ref f_is_integer) = true)
    (a_is_between : PySem.W.nsIn K mainGlobals "is_between" = some (some (.ref f_is_between)))
    (l_is_between : K.lookup f_is_between = some ⟨oc_is_between, od_is_between, .func (PySem.W.fnOf "is_between" "is_between" (defArgs s_is_between) (defBody s_is_between) (defScope s_is_between) .none kV_is_between dc_is_between pm_is_between an_is_between cd_is_between ct_is_between), sl_is_between⟩)
    (c_is_between : PySem.W.codeIn K cd_is_between "is_between" = true)
    (k_is_between : PySem.W.keepIn K (.ref f_is_between) = true)
    (a_is_table : PySem.W.nsIn K mainGlobals "is_table" = some (some (.ref f_is_table)))
    (l_is_table : K.lookup f_is_table = some ⟨oc_is_table, od_is_table, .func (PySem.W.fnOf "is_table" "is_table" (defArgs s_is_table) (defBody s_is_table) (defScope s_is_table) .none kV_is_table dc_is_table pm_is_table an_is_table cd_is_table ct_is_table), sl_is_table⟩)
    (c_is_table : PySem.W.codeIn K cd_is_table "is_table" = true)
    (k_is_table : PySem.W.keepIn K (.ref f_is_table) = true)
    (a_law_integer : PySem.W.nsIn K mainGlobals "_law_integer" = some (some (.ref f_law_integer)))
    (l_law_integer : K.lookup f_law_integer = some ⟨oc_law_integer, od_law_integer, .func (PySem.W.fnOf "_law_integer" "_law_integer" (defArgs s_law_integer) (defBody s_law_integer) (defScope s_law_integer) .none kV_law_integer dc_law_integer pm_law_integer an_law_integer cd_law_integer ct_law_integer), sl_law_integer⟩)
    (c_law_integer : PySem.W.codeIn K cd_law_integer "_law_integer" = true)
    (k_law_integer : PySem.W.keepIn K (.ref f_law_integer) = true)
    (a_law_table : PySem.W.nsIn K mainGlobals "_law_table" = some (some (.ref f_law_table)))
    (l_law_table : K.lookup f_law_table = some ⟨oc_law_table, od_law_table, .func (PySem.W.fnOf "_law_table" "_law_table" (defArgs s_law_table) (defBody s_law_table) (defScope s_law_table) .none kV_law_table dc_law_table pm_law_table an_law_table cd_law_table ct_law_table), sl_law_table⟩)
    (c_law_table : PySem.W.codeIn K cd_law_table "_law_table" = true)
    (k_law_table : PySem.W.keepIn K (.ref f_law_table) = true)
    (a_law_name : PySem.W.nsIn K mainGlobals "_law_name" = some (some (.ref f_law_name)))
    (l_law_name : K.lookup f_law_name = some ⟨oc_law_name, od_law_name, .func (PySem.W.fnOf "_law_name" "_law_name" (defArgs s_law_name) (defBody s_law_name) (defScope s_law_name) .none kV_law_name dc_law_name pm_law_name an_law_name cd_law_name ct_law_name), sl_law_name⟩)
    (c_law_name : PySem.W.codeIn K cd_law_name "_law_name" = true)
    (k_law_name : PySem.W.keepIn K (.ref f_law_name) = true)
    (a_law : PySem.W.nsIn K mainGlobals "law" = some (some (.ref f_law)))
    (l_law : K.lookup f_law = some ⟨oc_law, od_law, .func (PySem.W.fnOf "law" "law" (defArgs s_law) (defBody s_law) (defScope s_law) .none kV_law dc_law pm_law an_law cd_law ct_law), sl_law⟩)
    (c_law : PySem.W.codeIn K cd_law "law" = true)
    (k_law : PySem.W.keepIn K (.ref f_law) = true)
    (z_bool : PySem.W.nsIn K mainGlobals "bool" = some none)
    (z_int : PySem.W.nsIn K mainGlobals "int" = some none)
    (z_isinstance : PySem.W.nsIn K mainGlobals "isinstance" = some none)
    (z_len : PySem.W.nsIn K mainGlobals "len" = some none)
    (z_list : PySem.W.nsIn K mainGlobals "list" = some none)
    (z_range : PySem.W.nsIn K mainGlobals "range" = some none)
    (z_str : PySem.W.nsIn K mainGlobals "str" = some none)
    (z_tuple : PySem.W.nsIn K mainGlobals "tuple" = some none)
    (g_DIGITS : PySem.W.nsIn K mainGlobals "DIGITS" = some (some (.str "0123456789" t_DIGITS)))
    (g_LETTERS : PySem.W.nsIn K mainGlobals "LETTERS" = some (some (.str "abcdefghijklmnopqrstuvwxyz" t_LETTERS)))
    (g_MOST_DEEDS : PySem.W.nsIn K mainGlobals "MOST_DEEDS" = some (some (.int 200 t_MOST_DEEDS)))
    (g_MOST_DUCTS : PySem.W.nsIn K mainGlobals "MOST_DUCTS" = some (some (.int 16 t_MOST_DUCTS)))
    (g_MOST_NAME : PySem.W.nsIn K mainGlobals "MOST_NAME" = some (some (.int 12 t_MOST_NAME)))
    (g_MOST_ROOMS : PySem.W.nsIn K mainGlobals "MOST_ROOMS" = some (some (.int 8 t_MOST_ROOMS)))
    (g_MOST_TEXT : PySem.W.nsIn K mainGlobals "MOST_TEXT" = some (some (.int 8000 t_MOST_TEXT)))
    (g_MOST_UNITS : PySem.W.nsIn K mainGlobals "MOST_UNITS" = some (some (.int 200 t_MOST_UNITS)))
    (g_MOST_VENTS : PySem.W.nsIn K mainGlobals "MOST_VENTS" = some (some (.int 1000000 t_MOST_VENTS)))
    (g_MOST_WIDTH : PySem.W.nsIn K mainGlobals "MOST_WIDTH" = some (some (.int 6 t_MOST_WIDTH))) :
    ∃ fd : FuncData, (∀ (s : Shared) (v : Value), BindsTo s fd ⟨[v], []⟩ [("script", v)]) ∧ ∀ base : Heap, K.In base → base.Ns mainGlobals mg → FnOk l.prog w K mg base CX0 4 fa fd ["script"] (spTrue K) := by
  have e := hfa.symm.trans (PySem.W.mg_of X G a_law)
  cases e
  have TX : Txt K mg := ⟨PySem.W.mg_none_of X G z_bool, PySem.W.mg_none_of X G z_int, PySem.W.mg_none_of X G z_isinstance, PySem.W.mg_none_of X G z_len, PySem.W.mg_none_of X G z_list, PySem.W.mg_none_of X G z_range, PySem.W.mg_none_of X G z_str, PySem.W.mg_none_of X G z_tuple, ⟨_, PySem.W.mg_of X G g_DIGITS⟩, ⟨_, PySem.W.mg_of X G g_LETTERS⟩, ⟨_, PySem.W.mg_of X G g_MOST_DEEDS⟩, ⟨_, PySem.W.mg_of X G g_MOST_DUCTS⟩, ⟨_, PySem.W.mg_of X G g_MOST_NAME⟩, ⟨_, PySem.W.mg_of X G g_MOST_ROOMS⟩, ⟨_, PySem.W.mg_of X G g_MOST_TEXT⟩, ⟨_, PySem.W.mg_of X G g_MOST_UNITS⟩, ⟨_, PySem.W.mg_of X G g_MOST_VENTS⟩, ⟨_, PySem.W.mg_of X G g_MOST_WIDTH⟩⟩
  have F_law_draw := fun_mk (st := s_law_draw) l_law_draw c_law_draw k_law_draw
  have b_law_draw := F_law_draw.binds (ps := ["cell", "bounds"]) fun _ _ _ _ _ _ us hl => match us, hl with | [_, _], _ => rfl
  have F_law_cell := fun_mk (st := s_law_cell) l_law_cell c_law_cell k_law_cell
  have b_law_cell := F_law_cell.binds (ps := ["script", "k"]) fun _ _ _ _ _ _ us hl => match us, hl with | [_, _], _ => rfl
  have F_law_word := fun_mk (st := s_law_word) l_law_word c_law_word k_law_word
  have b_law_word := F_law_word.binds (ps := ["cell", "size", "plain", "place"]) fun _ _ _ _ _ _ us hl => match us, hl with | [_, _, _, _], _ => rfl
  have F_law_says := fun_mk (st := s_law_says) l_law_says c_law_says k_law_says
  have b_law_says := F_law_says.binds (ps := ["told", "due"]) fun _ _ _ _ _ _ us hl => match us, hl with | [_, _], _ => rfl
  have F_is_name := fun_mk (st := s_is_name) l_is_name c_is_name k_is_name
  have b_is_name := F_is_name.binds (ps := ["value"]) fun _ _ _ _ _ _ us hl => match us, hl with | [_], _ => rfl
  have F_is_integer := fun_mk (st := s_is_integer) l_is_integer c_is_integer k_is_integer
  have b_is_integer := F_is_integer.binds (ps := ["value"]) fun _ _ _ _ _ _ us hl => match us, hl with | [_], _ => rfl
  have F_is_between := fun_mk (st := s_is_between) l_is_between c_is_between k_is_between
  have b_is_between := F_is_between.binds (ps := ["value", "least", "most"]) fun _ _ _ _ _ _ us hl => match us, hl with | [_, _, _], _ => rfl
  have F_is_table := fun_mk (st := s_is_table) l_is_table c_is_table k_is_table
  have b_is_table := F_is_table.binds (ps := ["value", "size", "least", "most"]) fun _ _ _ _ _ _ us hl => match us, hl with | [_, _, _, _], _ => rfl
  have F_law_integer := fun_mk (st := s_law_integer) l_law_integer c_law_integer k_law_integer
  have b_law_integer := F_law_integer.binds (ps := ["value"]) fun _ _ _ _ _ _ us hl => match us, hl with | [_], _ => rfl
  have F_law_table := fun_mk (st := s_law_table) l_law_table c_law_table k_law_table
  have b_law_table := F_law_table.binds (ps := ["value", "size", "least", "most"]) fun _ _ _ _ _ _ us hl => match us, hl with | [_, _, _, _], _ => rfl
  have F_law_name := fun_mk (st := s_law_name) l_law_name c_law_name k_law_name
  have b_law_name := F_law_name.binds (ps := ["value"]) fun _ _ _ _ _ _ us hl => match us, hl with | [_], _ => rfl
  have F_law := fun_mk (st := s_law) l_law c_law k_law
  refine ⟨PySem.W.fnOf "law" "law" (defArgs s_law) (defBody s_law) (defScope s_law) .none kV_law dc_law pm_law an_law cd_law ct_law, fun s v => .of_eq rfl, fun base _ _ => ?_⟩
  have C_law_draw : Cl l.prog w K mg base 1 "_law_draw" ["cell", "bounds"] (spU ⟨K, fun _ => 0⟩ [.f, .f] (pur (f2 m_law_draw))) := ⟨_, _, ok_law_draw F_law_draw TX , PySem.W.mg_of X G a_law_draw, k_law_draw, b_law_draw⟩
  have C_law_cell : Cl l.prog w K mg base 1 "_law_cell" ["script", "k"] (spU ⟨K, fun _ => 0⟩ [.f, .f] (pur (f2 m_law_cell))) := ⟨_, _, ok_law_cell F_law_cell TX , PySem.W.mg_of X G a_law_cell, k_law_cell, b_law_cell⟩
  have C_law_word : Cl l.prog w K mg base 2 "_law_word" ["cell", "size", "plain", "place"] (spU ⟨K, fun _ => 0⟩ [.f, .f, .f, .f] (pur (f4 m_law_word))) := ⟨_, _, ok_law_word F_law_word TX C_law_draw, PySem.W.mg_of X G a_law_word, k_law_word, b_law_word⟩
  have C_law_says : Cl l.prog w K mg base 1 "_law_says" ["told", "due"] (spU ⟨K, fun _ => 0⟩ [.f, .f] (pur (f2 m_law_says))) := ⟨_, _, ok_law_says F_law_says TX , PySem.W.mg_of X G a_law_says, k_law_says, b_law_says⟩
  have C_is_name : Cl l.prog w K mg base 1 "is_name" ["value"] (spU ⟨K, fun _ => 0⟩ [.f] (pur (f1 m_is_name))) := ⟨_, _, ok_is_name F_is_name TX , PySem.W.mg_of X G a_is_name, k_is_name, b_is_name⟩
  have C_is_integer : Cl l.prog w K mg base 1 "is_integer" ["value"] (spU ⟨K, fun _ => 0⟩ [.f] (pur (f1 m_is_integer))) := ⟨_, _, ok_is_integer F_is_integer TX , PySem.W.mg_of X G a_is_integer, k_is_integer, b_is_integer⟩
  have C_is_between : Cl l.prog w K mg base 2 "is_between" ["value", "least", "most"] (spU ⟨K, fun _ => 0⟩ [.f, .f, .f] (pur (f3 m_is_between))) := ⟨_, _, ok_is_between F_is_between TX C_is_integer, PySem.W.mg_of X G a_is_between, k_is_between, b_is_between⟩
  have C_is_table : Cl l.prog w K mg base 3 "is_table" ["value", "size", "least", "most"] (spU ⟨K, fun _ => 0⟩ [.f, .f, .f, .f] (pur (f4 m_is_table))) := ⟨_, _, ok_is_table F_is_table TX C_is_between, PySem.W.mg_of X G a_is_table, k_is_table, b_is_table⟩
  have C_law_integer : Cl l.prog w K mg base 1 "_law_integer" ["value"] (spU ⟨K, fun _ => 0⟩ [.f] (pur (f1 m_law_integer))) := ⟨_, _, ok_law_integer F_law_integer TX , PySem.W.mg_of X G a_law_integer, k_law_integer, b_law_integer⟩
  have C_law_table : Cl l.prog w K mg base 2 "_law_table" ["value", "size", "least", "most"] (spU ⟨K, fun _ => 0⟩ [.f, .f, .f, .f] (pur (f4 m_law_table))) := ⟨_, _, ok_law_table F_law_table TX C_law_integer, PySem.W.mg_of X G a_law_table, k_law_table, b_law_table⟩
  have C_law_name : Cl l.prog w K mg base 1 "_law_name" ["value"] (spU ⟨K, fun _ => 0⟩ [.f] (pur (f1 m_law_name))) := ⟨_, _, ok_law_name F_law_name TX , PySem.W.mg_of X G a_law_name, k_law_name, b_law_name⟩
  exact law_true (T := ⟨K, fun _ => 0⟩) (ok_law F_law TX C_law_draw C_law_cell C_law_word C_law_says C_is_name C_is_integer C_is_table C_law_integer C_law_table C_law_name) HL
end Mi

open PySem PySem.W PyProof.Rows in
set_option maxRecDepth 100000 in
set_option maxHeartbeats 0 in
theorem PySem.Challenge.cw_warmhold_k78_checks_and_limits_holds : PySem.Challenge.rw_warmhold_k78_checks_and_limits.Holds := by
  w_on; o_law; k_head; (case hw => w_witness2)
  k_fill
  refine Mi.law_walk (l := PySem.Challenge.rw_warmhold_k78_checks_and_limits) (k := 4) rfl rfl ⟨rfl, by decide, by decide⟩ (fun w h Y => PySem.W.kIn_of Y) ?F
  case F =>
    intro w mg fa h KX G hmg
    refine' Mi.all_mk Mi.law_holds KX G hmg ?a_law_draw ?l_law_draw ?c_law_draw ?k_law_draw ?a_law_cell ?l_law_cell ?c_law_cell ?k_law_cell ?a_law_word ?l_law_word ?c_law_word ?k_law_word ?a_law_says ?l_law_says ?c_law_says ?k_law_says ?a_is_name ?l_is_name ?c_is_name ?k_is_name ?a_is_integer ?l_is_integer ?c_is_integer ?k_is_integer ?a_is_between ?l_is_between ?c_is_between ?k_is_between ?a_is_table ?l_is_table ?c_is_table ?k_is_table ?a_law_integer ?l_law_integer ?c_law_integer ?k_law_integer ?a_law_table ?l_law_table ?c_law_table ?k_law_table ?a_law_name ?l_law_name ?c_law_name ?k_law_name ?a_law ?l_law ?c_law ?k_law ?z_bool ?z_int ?z_isinstance ?z_len ?z_list ?z_range ?z_str ?z_tuple ?g_DIGITS ?g_LETTERS ?g_MOST_DEEDS ?g_MOST_DUCTS ?g_MOST_NAME ?g_MOST_ROOMS ?g_MOST_TEXT ?g_MOST_UNITS ?g_MOST_VENTS ?g_MOST_WIDTH
    (case a_law_draw => k_is)
    (case l_law_draw => k_is)
    (case c_law_draw => k_is)
    (case k_law_draw => k_is)
    (case a_law_cell => k_is)
    (case l_law_cell => k_is)
    (case c_law_cell => k_is)
    (case k_law_cell => k_is)
    (case a_law_word => k_is)
    (case l_law_word => k_is)
    (case c_law_word => k_is)
    (case k_law_word => k_is)
    (case a_law_says => k_is)
    (case l_law_says => k_is)
    (case c_law_says => k_is)
    (case k_law_says => k_is)
    (case a_is_name => k_is)
    (case l_is_name => k_is)
    (case c_is_name => k_is)
    (case k_is_name => k_is)
    (case a_is_integer => k_is)
    (case l_is_integer => k_is)
    (case c_is_integer => k_is)
    (case k_is_integer => k_is)
    (case a_is_between => k_is)
    (case l_is_between => k_is)
    (case c_is_between => k_is)
    (case k_is_between => k_is)
    (case a_is_table => k_is)
    (case l_is_table => k_is)
    (case c_is_table => k_is)
    (case k_is_table => k_is)
    (case a_law_integer => k_is)
    (case l_law_integer => k_is)
    (case c_law_integer => k_is)
    (case k_law_integer => k_is)
    (case a_law_table => k_is)
    (case l_law_table => k_is)
    (case c_law_table => k_is)
    (case k_law_table => k_is)
    (case a_law_name => k_is)
    (case l_law_name => k_is)
    (case c_law_name => k_is)
    (case k_law_name => k_is)
    (case a_law => k_is)
    (case l_law => k_is)
    (case c_law => k_is)
    (case k_law => k_is)
    (case z_bool => k_is)
    (case z_int => k_is)
    (case z_isinstance => k_is)
    (case z_len => k_is)
    (case z_list => k_is)
    (case z_range => k_is)
    (case z_str => k_is)
    (case z_tuple => k_is)
    (case g_DIGITS => k_is)
    (case g_LETTERS => k_is)
    (case g_MOST_DEEDS => k_is)
    (case g_MOST_DUCTS => k_is)
    (case g_MOST_NAME => k_is)
    (case g_MOST_ROOMS => k_is)
    (case g_MOST_TEXT => k_is)
    (case g_MOST_UNITS => k_is)
    (case g_MOST_VENTS => k_is)
    (case g_MOST_WIDTH => k_is)
