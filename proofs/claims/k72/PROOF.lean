import PyProof.Rows.All
import Wide.All
import OpenK.AllK
import Wide.FinOn
import HandS.ForMost
import HandS.IsInst
import HandS.Zip
import HandS.Walk
import HandS.Evl
import KE.GoesEnum
import HandS.TupAny
import HandS.TupLe
import HandS.SortInts
import HandS.Conv
import HandS.More
import KE.KSortedM
import HandS.TupMul
import PySem.Challenge.RW_warmhold_k72_airs_as_streams
set_option Elab.async false
set_option linter.all false
set_option maxRecDepth 100000
set_option maxHeartbeats 4000000
/-! Mirrors: data without addresses, how a value stands for data, frames of slots, what an expression or a block computes. -/
namespace Mi
open PySem L2
open Evl (Ex ex_t ex_l ex_rd fresh_back)

inductive D where
  | non | bl (b : Bool) | int (i : Int) | str (s : Str)
  | lst (ds : List D) | tup (ds : List D)
  | dic (ks : List Key) (ds : List D)
  | dit (ks : List (List Key)) (ds : List D)
  | obj (c : Str) (ns : List Str) (ds : List D)
  | scr (ns : List Int)

/-- what the text's classes are at: the written part, the address of each class -/
structure Th where
  K : PySem.W.Frag
  C : Str → Addr

mutual
def Rep (T : Th) (H : Hp) : D → V → Prop
  | .non, v => v = .non
  | .bl b, v => v = .bl b
  | .int i, v => v = .int i
  | .str s, v => v = .str s
  | .lst ds, v => ∃ p vs, v = .ref p ∧ H p = some (.lst vs) ∧ Reps T H ds vs
  | .tup ds, v => ∃ p vs, v = .ref p ∧ H p = some (.tup vs) ∧ Reps T H ds vs
  | .dic ks ds, v => ∃ p vs, v = .ref p ∧ H p = some (.dK (ks.zip vs)) ∧ ks.length = vs.length ∧ Reps T H ds vs
  | .dit ks ds, v => ∃ p vs, v = .ref p ∧ H p = some (.dT (ks.zip vs)) ∧ ks.length = vs.length ∧ Reps T H ds vs
  | .obj c ns ds, v => ∃ p dx vs, v = .ref p ∧ H p = some (.ins (T.C c) dx (ns.zip vs)) ∧ ns.length = vs.length ∧ Reps T H ds vs
  | .scr ns, v => ∃ p, v = .ref p ∧ SqL T.K H p (ns.map V.int)
def Reps (T : Th) (H : Hp) : List D → List V → Prop
  | [], vs => vs = []
  | d :: ds, vs => ∃ v r, vs = v :: r ∧ Rep T H d v ∧ Reps T H ds r
end

section
variable {T : Th} {H H' : Hp}
mutual
theorem Rep.mono (e : Ex H H') : ∀ {d : D} {v : V}, Rep T H d v → Rep T H' d v
  | .non, v, h => by simpa only [Rep] using h
  | .bl b, v, h => by simpa only [Rep] using h
  | .int i, v, h => by simpa only [Rep] using h
  | .str s, v, h => by simpa only [Rep] using h
  | .lst ds, v, h => by
    simp only [Rep] at h ⊢
    obtain ⟨p, vs, q, r, s⟩ := h
    exact ⟨p, vs, q, e _ _ r, Reps.mono e s⟩
  | .tup ds, v, h => by
    simp only [Rep] at h ⊢
    obtain ⟨p, vs, q, r, s⟩ := h
    exact ⟨p, vs, q, e _ _ r, Reps.mono e s⟩
  | .dic ks ds, v, h => by
    simp only [Rep] at h ⊢
    obtain ⟨p, vs, q, r, l, s⟩ := h
    exact ⟨p, vs, q, e _ _ r, l, Reps.mono e s⟩
  | .dit ks ds, v, h => by
    simp only [Rep] at h ⊢
    obtain ⟨p, vs, q, r, l, s⟩ := h
    exact ⟨p, vs, q, e _ _ r, l, Reps.mono e s⟩
  | .obj c ns ds, v, h => by
    simp only [Rep] at h ⊢
    obtain ⟨p, dx, vs, q, r, l, s⟩ := h
    exact ⟨p, dx, vs, q, e _ _ r, l, Reps.mono e s⟩
  | .scr ns, v, h => by
    simp only [Rep] at h ⊢
    obtain ⟨p, q, r⟩ := h
    exact ⟨p, q, ex_l e r⟩
theorem Reps.mono (e : Ex H H') : ∀ {ds : List D} {vs : List V}, Reps T H ds vs → Reps T H' ds vs
  | [], vs, h => by simpa only [Reps] using h
  | d :: ds, vs, h => by
    simp only [Reps] at h ⊢
    obtain ⟨v, r, q, s, t⟩ := h
    exact ⟨v, r, q, Rep.mono e s, Reps.mono e t⟩
end
theorem Reps.len : ∀ {ds : List D} {vs : List V}, Reps T H ds vs → ds.length = vs.length
  | [], vs, h => by simp only [Reps] at h; subst h; rfl
  | d :: ds, vs, h => by
    simp only [Reps] at h
    obtain ⟨v, r, q, s, t⟩ := h
    subst q
    simp [Reps.len t]
theorem Reps.get : ∀ {ds : List D} {vs : List V} {i : Nat} {d : D}, Reps T H ds vs → ds[i]? = some d → ∃ v, vs[i]? = some v ∧ Rep T H d v
  | [], vs, i, d, h, e => by simp at e
  | d :: ds, vs, 0, d', h, e => by
    simp only [Reps] at h
    obtain ⟨v, r, q, s, t⟩ := h
    subst q
    simp at e; subst e
    exact ⟨v, rfl, s⟩
  | d :: ds, vs, i + 1, d', h, e => by
    simp only [Reps] at h
    obtain ⟨v, r, q, s, t⟩ := h
    subst q
    simpa using Reps.get (i := i) t (by simpa using e)
theorem Reps.get' : ∀ {ds : List D} {vs : List V} {i : Nat} {v : V}, Reps T H ds vs → vs[i]? = some v → ∃ d, ds[i]? = some d ∧ Rep T H d v := fun {ds vs i v} h e => by
  have hl := h.len
  have hi : i < vs.length := (List.getElem?_eq_some_iff.mp e).1
  obtain ⟨w, hw, r⟩ := h.get (i := i) (d := ds[i]'(by omega)) (by simp [hl, hi])
  rw [e] at hw; cases hw
  exact ⟨_, by simp [hl, hi], r⟩
theorem Reps.app : ∀ {ds es : List D} {vs ws : List V}, Reps T H ds vs → Reps T H es ws → Reps T H (ds ++ es) (vs ++ ws)
  | [], es, vs, ws, h, k => by simp only [Reps] at h; subst h; simpa using k
  | d :: ds, es, vs, ws, h, k => by
    simp only [Reps] at h
    obtain ⟨v, r, q, s, t⟩ := h
    subst q
    show Reps T H (d :: (ds ++ es)) (v :: (r ++ ws))
    simp only [Reps]
    exact ⟨v, _, rfl, s, Reps.app t k⟩
theorem Reps.one {d : D} {v : V} (h : Rep T H d v) : Reps T H [d] [v] := by
  simp only [Reps]
  exact ⟨v, [], rfl, h, rfl⟩
theorem Reps.nil : Reps T H [] [] := by simp only [Reps]
theorem Reps.cons {d : D} {v : V} {ds : List D} {vs : List V} (h : Rep T H d v) (k : Reps T H ds vs) : Reps T H (d :: ds) (v :: vs) := by
  simp only [Reps]
  exact ⟨v, vs, rfl, h, k⟩
theorem Reps.uncons {d : D} {ds : List D} {vs : List V} (h : Reps T H (d :: ds) vs) : ∃ v r, vs = v :: r ∧ Rep T H d v ∧ Reps T H ds r := by
  simpa only [Reps] using h
theorem Reps.set : ∀ {ds : List D} {vs : List V} {d : D} {v : V} (i : Nat), Reps T H ds vs → Rep T H d v → Reps T H (ds.set i d) (vs.set i v)
  | [], vs, d, v, i, h, k => by simp only [Reps] at h; subst h; simpa using Reps.nil
  | e :: ds, vs, d, v, 0, h, k => by
    obtain ⟨w, r, rfl, s, t⟩ := h.uncons
    exact Reps.cons k t
  | e :: ds, vs, d, v, i + 1, h, k => by
    obtain ⟨w, r, rfl, s, t⟩ := h.uncons
    exact Reps.cons s (Reps.set i t k)
theorem Reps.take : ∀ {ds : List D} {vs : List V} (n : Nat), Reps T H ds vs → Reps T H (ds.take n) (vs.take n)
  | ds, vs, 0, h => by simpa using Reps.nil
  | [], vs, n + 1, h => by simp only [Reps] at h; subst h; simpa using Reps.nil
  | d :: ds, vs, n + 1, h => by
    obtain ⟨w, r, rfl, s, t⟩ := h.uncons
    exact Reps.cons s (Reps.take n t)
theorem Reps.drop : ∀ {ds : List D} {vs : List V} (n : Nat), Reps T H ds vs → Reps T H (ds.drop n) (vs.drop n)
  | ds, vs, 0, h => by simpa using h
  | [], vs, n + 1, h => by simp only [Reps] at h; subst h; simpa using Reps.nil
  | d :: ds, vs, n + 1, h => by
    obtain ⟨w, r, rfl, s, t⟩ := h.uncons
    exact Reps.drop n t
theorem Reps.ints : ∀ {ns : List Int} {vs : List V}, Reps T H (ns.map D.int) vs → vs = ns.map V.int
  | [], vs, h => by simpa only [List.map_nil, Reps] using h
  | n :: ns, vs, h => by
    obtain ⟨w, r, rfl, s, t⟩ := h.uncons
    simp only [Rep] at s
    subst s
    rw [Reps.ints t]; rfl
theorem Reps.of_ints : ∀ (ns : List Int), Reps T H (ns.map D.int) (ns.map V.int)
  | [] => Reps.nil
  | n :: ns => Reps.cons (by simp only [Rep]) (Reps.of_ints ns)
end

/-- the frozen part F grows to F2 while the heap grows from H to H2: what is new in F2 was not in H -/
structure Grow (F F2 H H2 : Hp) : Prop where
  f : Ex F F2
  i : Ex F2 H2
  h : Ex H H2
  new : ∀ a, F2 a ≠ none → F a ≠ none ∨ H a = none
theorem Ex.some' {F F2 : Hp} (e : Ex F F2) {a : Addr} (h : F a ≠ none) : F2 a ≠ none := by
  cases q : F a with
  | none => exact absurd q h
  | some o => rw [e a o q]; simp
theorem Grow.refl {F H : Hp} (e : Ex F H) : Grow F F H H := ⟨Ex.refl F, e, Ex.refl H, fun _ h => .inl h⟩
theorem Grow.trans {F F2 F3 H H2 H3 : Hp} (a : Grow F F2 H H2) (b : Grow F2 F3 H2 H3) : Grow F F3 H H3 :=
  ⟨a.f.trans b.f, b.i, a.h.trans b.h, fun x h => by
    rcases b.new x h with q | q
    · exact a.new x q
    · exact .inr (by
        cases z : H x with
        | none => rfl
        | some o => rw [a.h x o z] at q; cases q)⟩
theorem Grow.lay {F H : Hp} (e : Ex F H) {p : Addr} (hp : H p = none) (o : HO) : Grow F F H (upd H p o) :=
  ⟨Ex.refl F, e.trans (Ex.new hp), Ex.new hp, fun _ h => .inl h⟩
theorem none_of_ex {F H : Hp} (e : Ex F H) {p : Addr} (hp : H p = none) : F p = none := fresh_back e hp
/-- what stands in H but not in F is taken into F -/
theorem Grow.freeze {F F2 H H2 : Hp} (g : Grow F F2 H H2) {p : Addr} {o : HO} (hp : H p = none) (h2 : H2 p = some o) (hf : F2 p = none) : Grow F (upd F2 p o) H H2 where
  f := g.f.trans (Ex.new hf)
  i := fun a u h => by
    by_cases e : a = p
    · subst e; rw [upd_same] at h; rw [h2, h]
    · rw [upd_ne e] at h; exact g.i a u h
  h := g.h
  new := fun a h => by
    by_cases e : a = p
    · subst e; exact .inr hp
    · rw [upd_ne e] at h; exact g.new a h

/-! ### slots -/
inductive Slot where
  | no | bad | val (d : D) | bor (d : D) | own (d : D) | mu (d : D)
abbrev Ctx := List Slot
def Slot.isOwn : Slot → Bool
  | .own _ => true
  | .mu _ => true
  | _ => false
/-- what stood at the entry: the part that may be read, the part that may be kept, the heap, the addresses of what may be changed -/
structure Base where
  B : Hp
  F : Hp
  H : Hp
  P : Nat → Addr
/-- where an answer's parts are held: in what may be kept (f), in what stood at the entry (b), in the heap as it is (h) -/
inductive Md where
  | f | b | h
def Md.fh : Md → Bool
  | .b => false
  | _ => true
def sel (Z : Base) (md : Md) (F H : Hp) : Hp := match md with | .f => F | .b => Z.B | .h => H
theorem sel_grow {Z : Base} {md : Md} {F F2 H H2 : Hp} (g : Grow F F2 H H2) : Ex (sel Z md F H) (sel Z md F2 H2) := by
  cases md
  · exact g.f
  · exact Ex.refl _
  · exact g.h
theorem sel_in {Z : Base} {md : Md} {F H : Hp} (e : Ex F H) (b : Ex Z.B H) : Ex (sel Z md F H) H := by
  cases md
  · exact e
  · exact b
  · exact Ex.refl H
theorem sel_out {Z : Base} {md : Md} {F H : Hp} (e : Ex F H) (hm : md.fh = true) : Ex F (sel Z md F H) := by
  cases md
  · exact Ex.refl F
  · cases hm
  · exact e
/-- a thing that is owned: its own object in H, its parts in F -/
def OwnC (T : Th) (F H : Hp) (p : Addr) : D → Prop
  | .lst ds => ∃ vs, H p = some (.lst vs) ∧ Reps T F ds vs
  | .dic ks ds => ∃ vs, H p = some (.dK (ks.zip vs)) ∧ ks.length = vs.length ∧ Reps T F ds vs
  | .dit ks ds => ∃ vs, H p = some (.dT (ks.zip vs)) ∧ ks.length = vs.length ∧ Reps T F ds vs
  | .obj c ns ds => ∃ dx vs, H p = some (.ins (T.C c) dx (ns.zip vs)) ∧ ns.length = vs.length ∧ Reps T F ds vs
  | _ => False
theorem OwnC.grow {T : Th} {F F2 H H2 : Hp} {p : Addr} {d : D} (h : OwnC T F H p d) (ef : Ex F F2) (eh : Ex H H2) : OwnC T F2 H2 p d := by
  cases d <;> simp only [OwnC] at h ⊢
  · obtain ⟨vs, a, b⟩ := h; exact ⟨vs, eh _ _ a, b.mono ef⟩
  · obtain ⟨vs, a, l, b⟩ := h; exact ⟨vs, eh _ _ a, l, b.mono ef⟩
  · obtain ⟨vs, a, l, b⟩ := h; exact ⟨vs, eh _ _ a, l, b.mono ef⟩
  · obtain ⟨dx, vs, a, l, b⟩ := h; exact ⟨dx, vs, eh _ _ a, l, b.mono ef⟩
theorem OwnC.there {T : Th} {F H : Hp} {p : Addr} {d : D} (h : OwnC T F H p d) : ∃ o, H p = some o ∧ ∀ F', Ex F F' → F' p = some o → Rep T F' d (.ref p) := by
  cases d <;> simp only [OwnC] at h
  · obtain ⟨vs, a, b⟩ := h; exact ⟨_, a, fun F' e q => by simp only [Rep]; exact ⟨p, vs, rfl, q, b.mono e⟩⟩
  · obtain ⟨vs, a, l, b⟩ := h; exact ⟨_, a, fun F' e q => by simp only [Rep]; exact ⟨p, vs, rfl, q, l, b.mono e⟩⟩
  · obtain ⟨vs, a, l, b⟩ := h; exact ⟨_, a, fun F' e q => by simp only [Rep]; exact ⟨p, vs, rfl, q, l, b.mono e⟩⟩
  · obtain ⟨dx, vs, a, l, b⟩ := h; exact ⟨_, a, fun F' e q => by simp only [Rep]; exact ⟨p, dx, vs, rfl, q, l, b.mono e⟩⟩
theorem OwnC.rep {T : Th} {F H : Hp} {p : Addr} {d : D} (h : OwnC T F H p d) (e : Ex F H) : Rep T H d (.ref p) := by
  obtain ⟨o, a, k⟩ := h.there
  exact k H e a
theorem OwnC.same {T : Th} {F F2 H H2 : Hp} {p : Addr} {o : HO} {d : D} (h : OwnC T F H p d) (ef : Ex F F2) (h1 : H p = some o) (h2 : H2 p = some o) : OwnC T F2 H2 p d := by
  cases d <;> simp only [OwnC] at h ⊢
  · obtain ⟨vs, a, b⟩ := h; exact ⟨vs, by rw [h2, ← h1, a], b.mono ef⟩
  · obtain ⟨vs, a, l, b⟩ := h; exact ⟨vs, by rw [h2, ← h1, a], l, b.mono ef⟩
  · obtain ⟨vs, a, l, b⟩ := h; exact ⟨vs, by rw [h2, ← h1, a], l, b.mono ef⟩
  · obtain ⟨dx, vs, a, l, b⟩ := h; exact ⟨dx, vs, by rw [h2, ← h1, a], l, b.mono ef⟩
/-- an other object is changed -/
theorem OwnC.upd {T : Th} {F H : Hp} {p q : Addr} {o : HO} {d : D} (h : OwnC T F H p d) (ne : p ≠ q) : OwnC T F (upd H q o) p d := by
  cases d <;> simp only [OwnC] at h ⊢
  · obtain ⟨vs, a, b⟩ := h; exact ⟨vs, by rw [upd_ne ne]; exact a, b⟩
  · obtain ⟨vs, a, l, b⟩ := h; exact ⟨vs, by rw [upd_ne ne]; exact a, l, b⟩
  · obtain ⟨vs, a, l, b⟩ := h; exact ⟨vs, by rw [upd_ne ne]; exact a, l, b⟩
  · obtain ⟨dx, vs, a, l, b⟩ := h; exact ⟨dx, vs, by rw [upd_ne ne]; exact a, l, b⟩

def SlotOk (T : Th) (Z : Base) (F H : Hp) (i : Nat) (o : Option (Option V)) : Slot → Prop
  | .no => True
  | .bad => False
  | .val d => ∃ v, o = some (some v) ∧ Rep T F d v
  | .bor d => ∃ v, o = some (some v) ∧ Rep T Z.B d v
  | .own d => ∃ p, o = some (some (.ref p)) ∧ Z.B p = none ∧ F p = none ∧ OwnC T F H p d ∧ Z.H p = none
  | .mu d => ∃ p, o = some (some (.ref p)) ∧ p = Z.P i ∧ Z.B p = none ∧ F p = none ∧ OwnC T F H p d
/-- the heap behind some steps of a body -/
structure Hv (Z : Base) (F H : Hp) : Prop where
  b : Ex Z.B H
  f0 : Ex Z.F F
  f : Ex F H
  dom : ∀ a, Z.H a ≠ none → H a ≠ none
  new : ∀ a, F a ≠ none → Z.F a ≠ none ∨ Z.H a = none
theorem Hv.grow {Z : Base} {F F2 H H2 : Hp} (h : Hv Z F H) (g : Grow F F2 H H2) : Hv Z F2 H2 :=
  ⟨h.b.trans g.h, h.f0.trans g.f, g.i, fun a q => Ex.some' g.h (h.dom a q), fun a q => by
    rcases g.new a q with z | z
    · exact h.new a z
    · refine .inr ?_
      cases y : Z.H a with
      | none => rfl
      | some o => exact absurd z (h.dom a (by rw [y]; simp))⟩
structure Ok (T : Th) (Z : Base) (Γ : Ctx) (F H : Hp) (σ : L2.St) : Prop where
  hv : Hv Z F H
  len : Γ.length ≤ σ.length
  at' : ∀ (i : Nat) (s : Slot), Γ[i]? = some s → SlotOk T Z F H i σ[i]? s
  sep : ∀ (i j : Nat) (p : Addr) (s t : Slot), Γ[i]? = some s → s.isOwn = true → Γ[j]? = some t → t.isOwn = true → σ[i]? = some (some (V.ref p)) → σ[j]? = some (some (V.ref p)) → i = j
section
variable {T : Th} {Z : Base} {Γ : Ctx} {F F2 H H2 : Hp} {σ : L2.St}
theorem SlotOk.grow {i : Nat} {o : Option (Option V)} {s : Slot} (h : SlotOk T Z F H i o s) (g : Grow F F2 H H2) : SlotOk T Z F2 H2 i o s := by
  have fr : ∀ {p : Addr} {d : D}, F p = none → OwnC T F H p d → F2 p = none := fun {p d} hf hc => by
    obtain ⟨u, hu, _⟩ := hc.there
    cases q : F2 p with
    | none => rfl
    | some u' =>
      rcases g.new p (by rw [q]; simp) with z | z
      · exact absurd hf z
      · rw [hu] at z; cases z
  cases s <;> simp only [SlotOk] at h ⊢
  · obtain ⟨v, a, b⟩ := h; exact ⟨v, a, b.mono g.f⟩
  · exact h
  · obtain ⟨p, a, b, c, d, z⟩ := h; exact ⟨p, a, b, fr c d, d.grow g.f g.h, z⟩
  · obtain ⟨p, a, a', b, c, d⟩ := h; exact ⟨p, a, a', b, fr c d, d.grow g.f g.h⟩
theorem Ok.grow (h : Ok T Z Γ F H σ) (g : Grow F F2 H H2) : Ok T Z Γ F2 H2 σ :=
  ⟨h.hv.grow g, h.len, fun i s e => (h.at' i s e).grow g, h.sep⟩
end

/-! ### what an expression, a test, an argument list computes -/
def Ev (T : Th) (md : Md) (te : TE) (Γ : Ctx) (m : Option D) : Prop := ∀ Z F H σ, Ok T Z Γ F H σ → ∀ d, m = some d → ∀ Q : VK, (∀ v F2 H2, Grow F F2 H H2 → Rep T (sel Z md F2 H2) d v → Q v H2) → te σ H Q
/-- a new thing, owned by who asked for it -/
def EvO (T : Th) (te : TE) (Γ : Ctx) (m : Option D) : Prop := ∀ Z F H σ, Ok T Z Γ F H σ → ∀ d, m = some d → ∀ Q : VK, (∀ p F2 H2, Grow F F2 H H2 → H p = none → F2 p = none → OwnC T F2 H2 p d → Q (.ref p) H2) → te σ H Q
def EvT (T : Th) (tt : TT) (Γ : Ctx) (m : Option Bool) : Prop := ∀ Z F H σ, Ok T Z Γ F H σ → ∀ b, m = some b → ∀ Q : Bool → Hp → Prop, (∀ F2 H2, Grow F F2 H H2 → Q b H2) → tt σ H Q
def RepsM (T : Th) (Z : Base) (F H : Hp) : List Md → List D → List V → Prop
  | [], ds, vs => ds = [] ∧ vs = []
  | md :: ms, ds, vs => ∃ d ds' v vs', ds = d :: ds' ∧ vs = v :: vs' ∧ Rep T (sel Z md F H) d v ∧ RepsM T Z F H ms ds' vs'
def EvA (T : Th) (ta : TA) (Γ : Ctx) (mds : List Md) (m : Option (List D)) : Prop := ∀ Z F H σ, Ok T Z Γ F H σ → ∀ ds, m = some ds → ∀ Q : List V → Hp → Prop, (∀ vs F2 H2, Grow F F2 H H2 → RepsM T Z F2 H2 mds ds vs → Q vs H2) → ta σ H Q
theorem RepsM.mono {T : Th} {Z : Base} {F F2 H H2 : Hp} (g : Grow F F2 H H2) : ∀ {mds : List Md} {ds : List D} {vs : List V}, RepsM T Z F H mds ds vs → RepsM T Z F2 H2 mds ds vs
  | [], _, _, h => h
  | md :: ms, _, _, ⟨d, ds', v, vs', a, b, c, e⟩ => ⟨d, ds', v, vs', a, b, c.mono (sel_grow g), RepsM.mono g e⟩

/-! two-place and one-place operations lifted -/
def o1 {α β : Type} (f : α → Option β) (a : Option α) : Option β := a.bind f
def o2 {α β γ : Type} (f : α → β → Option γ) (a : Option α) (b : Option β) : Option γ := a.bind fun x => b.bind fun y => f x y
@[simp] theorem o1_some {α β : Type} (f : α → Option β) (a : α) : o1 f (some a) = f a := id rfl
@[simp] theorem o2_some {α β γ : Type} (f : α → β → Option γ) (a : α) (b : β) : o2 f (some a) (some b) = f a b := id rfl
theorem o1_inv {α β : Type} {f : α → Option β} {a : Option α} {c : β} (h : o1 f a = some c) : ∃ x, a = some x ∧ f x = some c := by
  cases a with
  | none => cases h
  | some x => exact ⟨x, rfl, h⟩
theorem o2_inv {α β γ : Type} {f : α → β → Option γ} {a : Option α} {b : Option β} {c : γ} (h : o2 f a b = some c) : ∃ x y, a = some x ∧ b = some y ∧ f x y = some c := by
  cases a with
  | none => cases h
  | some x =>
    cases b with
    | none => cases h
    | some y => exact ⟨x, y, rfl, rfl, h⟩
theorem bind_inv {α β : Type} {f : α → Option β} {a : Option α} {c : β} (h : a.bind f = some c) : ∃ x, a = some x ∧ f x = some c := o1_inv h

/-- an operation upon two values: both read anywhere, the answer needs nothing of them (a number, a text, ..) -/
def OpS (T : Th) (r : R2) (f : D → D → Option D) : Prop := ∀ (H : Hp) (x y : V) (d e c : D), Rep T H d x → Rep T H e y → f d e = some c → ∀ Q : VK, (∀ v, (∀ G, Rep T G c v) → Q v H) → r x y H Q
/-- the answer is a part of the first operand, wherever that is held; the second one is read -/
def OpP (T : Th) (r : R2) (f : D → D → Option D) : Prop := ∀ (H : Hp) (x y : V) (d e c : D), Rep T H d x → Rep T H e y → f d e = some c → ∀ Q : VK, (∀ v, (∀ G, Ex G H → Rep T G d x → Rep T G c v) → Q v H) → r x y H Q
/-- the answer may be new; its parts are parts of the operands -/
def OpM (T : Th) (r : R2) (f : D → D → Option D) : Prop := ∀ (Z : Base) (md : Md) (F H : Hp) (x y : V) (d e c : D), md.fh = true → Ex F H → Rep T (sel Z md F H) d x → Rep T (sel Z md F H) e y → f d e = some c → ∀ Q : VK, (∀ v F2 H2, Grow F F2 H H2 → Rep T (sel Z md F2 H2) c v → Q v H2) → r x y H Q
section
variable {T : Th} {Γ : Ctx} {md : Md} {ta tb te : TE} {ma mb m : Option D} {r : R2} {f : D → D → Option D}
theorem Ev.low (h : Ev T md te Γ m) : Ev T .h te Γ m := fun Z F H σ ok d hd Q q => h Z F H σ ok d hd Q fun v F2 H2 g r => q v F2 H2 g (r.mono (sel_in g.i (ok.grow g).hv.b))
theorem ev_opS (ho : OpS T r f) (ha : Ev T .h ta Γ ma) (hb : Ev T .h tb Γ mb) : Ev T md (tOp r ta tb) Γ (o2 f ma mb) := fun Z F H σ ok d hd Q q => by
  obtain ⟨x, y, e1, e2, e3⟩ := o2_inv hd
  refine ha Z F H σ ok x e1 _ fun v F2 H2 g1 r1 => hb Z F2 H2 σ (ok.grow g1) y e2 _ fun w F3 H3 g2 r2 => ?_
  exact ho H3 v w x y d (r1.mono g2.h) r2 e3 Q fun u hu => q u F3 H3 (g1.trans g2) (hu _)
theorem ev_opP (ho : OpP T r f) (ha : Ev T md ta Γ ma) (hb : Ev T .h tb Γ mb) : Ev T md (tOp r ta tb) Γ (o2 f ma mb) := fun Z F H σ ok d hd Q q => by
  obtain ⟨x, y, e1, e2, e3⟩ := o2_inv hd
  refine ha Z F H σ ok x e1 _ fun v F2 H2 g1 r1 => hb Z F2 H2 σ (ok.grow g1) y e2 _ fun w F3 H3 g2 r2 => ?_
  have ok3 := (ok.grow g1).grow g2
  have r1' := r1.mono (sel_grow g2)
  have ei : Ex (sel Z md F3 H3) H3 := sel_in g2.i ok3.hv.b
  exact ho H3 v w x y d (r1'.mono ei) r2 e3 Q fun u hu => q u F3 H3 (g1.trans g2) (hu _ ei r1')
theorem ev_opM (ho : OpM T r f) (ha : Ev T md ta Γ ma) (hb : Ev T md tb Γ mb) (hm : md.fh = true := by rfl) : Ev T md (tOp r ta tb) Γ (o2 f ma mb) := fun Z F H σ ok d hd Q q => by
  obtain ⟨x, y, e1, e2, e3⟩ := o2_inv hd
  refine ha Z F H σ ok x e1 _ fun v F2 H2 g1 r1 => hb Z F2 H2 σ (ok.grow g1) y e2 _ fun w F3 H3 g2 r2 => ?_
  exact ho Z md F3 H3 v w x y d hm g2.i (r1.mono (sel_grow g2)) r2 e3 Q fun u F4 H4 g3 hu => q u F4 H4 ((g1.trans g2).trans g3) hu
theorem ev_val {i : Nat} {d : D} (h : Γ[i]? = some (.val d)) (hm : md.fh = true := by rfl) : Ev T md (tVar i) Γ (some d) := fun Z F H σ ok d' hd Q q => by
  cases hd
  obtain ⟨v, a, b⟩ := ok.at' i _ h
  exact ⟨v, a, q v F H (Grow.refl ok.hv.f) (b.mono (sel_out ok.hv.f hm))⟩
theorem ev_borB {i : Nat} {d : D} (h : Γ[i]? = some (.bor d)) : Ev T .b (tVar i) Γ (some d) := fun Z F H σ ok d' hd Q q => by
  cases hd
  obtain ⟨v, a, b⟩ := ok.at' i _ h
  exact ⟨v, a, q v F H (Grow.refl ok.hv.f) b⟩
theorem ev_bor {i : Nat} {d : D} (h : Γ[i]? = some (.bor d)) : Ev T .h (tVar i) Γ (some d) := (ev_borB h).low
theorem ev_own {i : Nat} {d : D} (h : Γ[i]? = some (.own d)) : Ev T .h (tVar i) Γ (some d) := fun Z F H σ ok d' hd Q q => by
  cases hd
  obtain ⟨p, a, b, c, e, _⟩ := ok.at' i _ h
  exact ⟨_, a, q _ F H (Grow.refl ok.hv.f) (e.rep ok.hv.f)⟩
theorem ev_mu {i : Nat} {d : D} (h : Γ[i]? = some (.mu d)) : Ev T .h (tVar i) Γ (some d) := fun Z F H σ ok d' hd Q q => by
  cases hd
  obtain ⟨p, a, a', b, c, e⟩ := ok.at' i _ h
  exact ⟨_, a, q _ F H (Grow.refl ok.hv.f) (e.rep ok.hv.f)⟩
/-- a number, a text, a truth value, None -/
def flat : D → Bool
  | .non => true | .bl _ => true | .int _ => true | .str _ => true | _ => false
def chk (d : D) : Option D := if flat d = true then some d else none
@[simp] theorem chk_int (i : Int) : chk (.int i) = some (.int i) := id rfl
@[simp] theorem chk_bl (i : Bool) : chk (.bl i) = some (.bl i) := id rfl
@[simp] theorem chk_str (i : Str) : chk (.str i) = some (.str i) := id rfl
theorem flat_rep {H G : Hp} {d : D} {v : V} (h : flat d = true) (r : Rep T H d v) : Rep T G d v := by
  cases d <;> simp only [flat, Rep] at h r ⊢ <;> first | exact r | cases h
theorem ev_chk (ha : Ev T .h ta Γ ma) : Ev T md ta Γ (o1 chk ma) := fun Z F H σ ok d hd Q q => by
  obtain ⟨x, e1, e2⟩ := o1_inv hd
  unfold chk at e2
  split at e2
  · rename_i hf
    cases e2
    exact ha Z F H σ ok _ e1 _ fun v F2 H2 g r => q v F2 H2 g (flat_rep hf r)
  · cases e2
theorem ev_c {v : V} {d : D} (h : ∀ G, Rep T G d v) : Ev T md (tC v) Γ (some d) := fun Z F H σ ok d' hd Q q => by
  cases hd
  exact q v F H (Grow.refl ok.hv.f) (h _)
theorem ev_int {i : Int} : Ev T md (tC (.int i)) Γ (some (.int i)) := ev_c fun _ => by simp only [Rep]
theorem ev_bl {i : Bool} : Ev T md (tC (.bl i)) Γ (some (.bl i)) := ev_c fun _ => by simp only [Rep]
theorem ev_str {i : Str} : Ev T md (tC (.str i)) Γ (some (.str i)) := ev_c fun _ => by simp only [Rep]
theorem ev_non : Ev T md (tC .non) Γ (some .non) := ev_c fun _ => by simp only [Rep]
/-- what is new may be kept -/
theorem ev_new (h : EvO T te Γ m) (hm : md.fh = true := by rfl) : Ev T md te Γ m := fun Z F H σ ok d hd Q q => by
  refine h Z F H σ ok d hd Q fun p F2 H2 g hp hf hc => ?_
  cases md with
  | h => exact q _ F2 H2 g (hc.rep g.i)
  | b => cases hm
  | f =>
    obtain ⟨o, ho, k⟩ := hc.there
    exact q _ (upd F2 p o) H2 (g.freeze hp ho hf) (k _ (Ex.new hf) upd_same)

/-! tests -/
def tru (d : D) : Option Bool := match d with | .bl b => some b | _ => none
@[simp] theorem tru_bl (b : Bool) : tru (.bl b) = some b := id rfl
theorem tru_inv {d : D} {b : Bool} (h : tru d = some b) : d = .bl b := by
  cases d <;> simp [tru] at h
  subst h; rfl
theorem evt_test (h : Ev T .h te Γ m) : EvT T (tTest te) Γ (o1 tru m) := fun Z F H σ ok b hb Q q => by
  obtain ⟨x, e1, e2⟩ := o1_inv hb
  rw [tru_inv e2] at e1
  refine h Z F H σ ok _ e1 _ fun v F2 H2 g r => ?_
  simp only [Rep] at r
  exact ⟨b, r, q F2 H2 g⟩
theorem evt_B (h : Ev T .h te Γ m) : EvT T (tB te) Γ (o1 tru m) := fun Z F H σ ok b hb Q q => by
  obtain ⟨x, e1, e2⟩ := o1_inv hb
  rw [tru_inv e2] at e1
  refine h Z F H σ ok _ e1 _ fun v F2 H2 g r => ?_
  simp only [Rep] at r
  exact ⟨b, r, q F2 H2 g⟩
def oAnd (a b : Option Bool) : Option Bool := a.bind fun x => if x = true then b else some false
def oOr (a b : Option Bool) : Option Bool := a.bind fun x => if x = true then some true else b
def oNot (a : Option Bool) : Option Bool := a.map not
@[simp] theorem oAnd_t (b : Option Bool) : oAnd (some true) b = b := id rfl
@[simp] theorem oAnd_f (b : Option Bool) : oAnd (some false) b = some false := id rfl
@[simp] theorem oOr_t (b : Option Bool) : oOr (some true) b = some true := id rfl
@[simp] theorem oOr_f (b : Option Bool) : oOr (some false) b = b := id rfl
@[simp] theorem oNot_s (b : Bool) : oNot (some b) = some (!b) := id rfl
variable {t u : TT} {mt mu : Option Bool}
theorem evt_and (h1 : EvT T t Γ mt) (h2 : EvT T u Γ mu) : EvT T (tAnd t u) Γ (oAnd mt mu) := fun Z F H σ ok b hb Q q => by
  obtain ⟨x, e1, e2⟩ := bind_inv hb
  refine h1 Z F H σ ok x e1 _ fun F2 H2 g => ?_
  cases x with
  | true => exact h2 Z F2 H2 σ (ok.grow g) b e2 Q fun F3 H3 g' => q F3 H3 (g.trans g')
  | false =>
    cases e2
    exact q F2 H2 g
theorem evt_or (h1 : EvT T t Γ mt) (h2 : EvT T u Γ mu) : EvT T (tOr t u) Γ (oOr mt mu) := fun Z F H σ ok b hb Q q => by
  obtain ⟨x, e1, e2⟩ := bind_inv hb
  refine h1 Z F H σ ok x e1 _ fun F2 H2 g => ?_
  cases x with
  | false => exact h2 Z F2 H2 σ (ok.grow g) b e2 Q fun F3 H3 g' => q F3 H3 (g.trans g')
  | true =>
    cases e2
    exact q F2 H2 g
theorem evt_not (h1 : EvT T t Γ mt) : EvT T (tNot t) Γ (oNot mt) := fun Z F H σ ok b hb Q q => by
  cases mt with
  | none => cases hb
  | some x =>
    cases hb
    exact h1 Z F H σ ok x rfl _ fun F2 H2 g => q F2 H2 g
/-! truth values as values: and, or, not -/
def dBl (b : Option Bool) : Option D := b.map D.bl
@[simp] theorem dBl_s (b : Bool) : dBl (some b) = some (.bl b) := id rfl
theorem ev_notV (h : Ev T .h te Γ m) : Ev T md (tNotV te) Γ (dBl (oNot (o1 tru m))) := fun Z F H σ ok d hd Q q => by
  cases m with
  | none => cases hd
  | some x =>
    cases e2 : tru x with
    | none => simp [o1, dBl, oNot, e2] at hd
    | some b =>
      rw [tru_inv e2] at h
      rw [show dBl (oNot (o1 tru (some x))) = some (.bl (!b)) by simp [o1, dBl, oNot, e2]] at hd
      cases hd
      refine h Z F H σ ok _ rfl _ fun v F2 H2 g r => ?_
      simp only [Rep] at r
      exact ⟨b, r, q _ F2 H2 g (by simp only [Rep])⟩
def oAndV (a b : Option D) : Option D := (o1 tru a).bind fun x => if x = true then b else some (.bl false)
def oOrV (a b : Option D) : Option D := (o1 tru a).bind fun x => if x = true then some (.bl true) else b
@[simp] theorem oAndV_t (b : Option D) : oAndV (some (.bl true)) b = b := id rfl
@[simp] theorem oAndV_f (b : Option D) : oAndV (some (.bl false)) b = some (.bl false) := id rfl
@[simp] theorem oOrV_t (b : Option D) : oOrV (some (.bl true)) b = some (.bl true) := id rfl
@[simp] theorem oOrV_f (b : Option D) : oOrV (some (.bl false)) b = b := id rfl
theorem ev_andV (h1 : Ev T .h ta Γ ma) (h2 : Ev T md tb Γ mb) : Ev T md (tAndV ta tb) Γ (oAndV ma mb) := fun Z F H σ ok d hd Q q => by
  obtain ⟨b, e1, e2⟩ := bind_inv hd
  obtain ⟨x, e3, e4⟩ := o1_inv e1
  rw [tru_inv e4] at e3
  refine h1 Z F H σ ok _ e3 _ fun v F2 H2 g r => ?_
  simp only [Rep] at r
  refine ⟨b, r, ?_⟩
  cases b with
  | true => exact h2 Z F2 H2 σ (ok.grow g) d e2 Q fun v F3 H3 g' r' => q v F3 H3 (g.trans g') r'
  | false =>
    cases e2
    exact q _ F2 H2 g (by simp only [Rep])
theorem ev_orV (h1 : Ev T .h ta Γ ma) (h2 : Ev T md tb Γ mb) : Ev T md (tOrV ta tb) Γ (oOrV ma mb) := fun Z F H σ ok d hd Q q => by
  obtain ⟨b, e1, e2⟩ := bind_inv hd
  obtain ⟨x, e3, e4⟩ := o1_inv e1
  rw [tru_inv e4] at e3
  refine h1 Z F H σ ok _ e3 _ fun v F2 H2 g r => ?_
  simp only [Rep] at r
  refine ⟨b, r, ?_⟩
  cases b with
  | false => exact h2 Z F2 H2 σ (ok.grow g) d e2 Q fun v F3 H3 g' r' => q v F3 H3 (g.trans g') r'
  | true =>
    cases e2
    exact q _ F2 H2 g (by simp only [Rep])
theorem ev_if (hc : EvT T t Γ mt) (h1 : Ev T md ta Γ ma) (h2 : Ev T md tb Γ mb) : Ev T md (tIf t ta tb) Γ (mt.bind fun c => if c = true then ma else mb) := fun Z F H σ ok d hd Q q => by
  obtain ⟨b, e1, e2⟩ := bind_inv hd
  refine hc Z F H σ ok b e1 _ fun F2 H2 g => ?_
  cases b with
  | true => exact h1 Z F2 H2 σ (ok.grow g) d e2 Q fun v F3 H3 g' r' => q v F3 H3 (g.trans g') r'
  | false => exact h2 Z F2 H2 σ (ok.grow g) d e2 Q fun v F3 H3 g' r' => q v F3 H3 (g.trans g') r'
/-! argument lists, tuples, lists -/
variable {tr : TA} {mds : List Md} {ms : Option (List D)}
def oCons (a : Option D) (b : Option (List D)) : Option (List D) := o2 (fun x y => some (x :: y)) a b
@[simp] theorem oCons_s (a : D) (b : List D) : oCons (some a) (some b) = some (a :: b) := id rfl
theorem eva_nil : EvA T tNil Γ [] (some []) := fun Z F H σ ok ds hd Q q => by
  cases hd
  exact q [] F H (Grow.refl ok.hv.f) ⟨rfl, rfl⟩
theorem eva_cons (h : Ev T md te Γ m) (hr : EvA T tr Γ mds ms) : EvA T (tCons te tr) Γ (md :: mds) (oCons m ms) := fun Z F H σ ok ds hd Q q => by
  obtain ⟨x, y, e1, e2, e3⟩ := o2_inv hd
  cases e3
  refine h Z F H σ ok x e1 _ fun v F2 H2 g r => hr Z F2 H2 σ (ok.grow g) y e2 _ fun vs F3 H3 g' r' => ?_
  exact q (v :: vs) F3 H3 (g.trans g') ⟨x, y, v, vs, rfl, rfl, r.mono (sel_grow g'), r'⟩
/-- the same mode for all -/
def EvL (T : Th) (md : Md) (ta : TA) (Γ : Ctx) (m : Option (List D)) : Prop := ∀ Z F H σ, Ok T Z Γ F H σ → ∀ ds, m = some ds → ∀ Q : List V → Hp → Prop, (∀ vs F2 H2, Grow F F2 H H2 → Reps T (sel Z md F2 H2) ds vs → Q vs H2) → ta σ H Q
theorem evl_nil : EvL T md tNil Γ (some []) := fun Z F H σ ok ds hd Q q => by
  cases hd
  exact q [] F H (Grow.refl ok.hv.f) Reps.nil
theorem evl_cons (h : Ev T md te Γ m) (hr : EvL T md tr Γ ms) : EvL T md (tCons te tr) Γ (oCons m ms) := fun Z F H σ ok ds hd Q q => by
  obtain ⟨x, y, e1, e2, e3⟩ := o2_inv hd
  cases e3
  refine h Z F H σ ok x e1 _ fun v F2 H2 g r => hr Z F2 H2 σ (ok.grow g) y e2 _ fun vs F3 H3 g' r' => ?_
  exact q (v :: vs) F3 H3 (g.trans g') (Reps.cons (r.mono (sel_grow g')) r')
def dTup (ds : List D) : Option D := if ds.length ≤ 16777216 then some (.tup ds) else none
def dLst (ds : List D) : Option D := if ds.length ≤ 16777216 then some (.lst ds) else none
theorem line_eq : (sizeLine : Nat) = 16777216 := sizeLine_eq
theorem ev_tup (h : EvL T md tr Γ ms) (hm : md.fh = true := by rfl) : Ev T md (tTup tr) Γ (o1 dTup ms) := fun Z F H σ ok d hd Q q => by
  obtain ⟨ds, e1, e2⟩ := o1_inv hd
  unfold dTup at e2
  split at e2
  · rename_i hl
    cases e2
    refine h Z F H σ ok ds e1 _ fun vs F2 H2 g r => ⟨by rw [← r.len, line_eq]; exact hl, fun p hp => ?_⟩
    have hf : F2 p = none := none_of_ex g.i hp
    have hp0 : H p = none := none_of_ex g.h hp
    have g2 : Grow F2 F2 H2 (upd H2 p (.tup vs)) := Grow.lay g.i hp _
    cases md with
    | h => exact q _ F2 _ (g.trans g2) (by simp only [Rep, sel]; exact ⟨p, vs, rfl, upd_same, r.mono (Ex.new hp)⟩)
    | b => cases hm
    | f => exact q _ (upd F2 p (.tup vs)) _ ((g.trans g2).freeze hp0 upd_same hf) (by simp only [Rep, sel]; exact ⟨p, vs, rfl, upd_same, r.mono (Ex.new hf)⟩)
  · cases e2
theorem evo_lst (h : EvL T .f tr Γ ms) : EvO T (tLst tr) Γ (o1 dLst ms) := fun Z F H σ ok d hd Q q => by
  obtain ⟨ds, e1, e2⟩ := o1_inv hd
  unfold dLst at e2
  split at e2
  · rename_i hl
    cases e2
    refine h Z F H σ ok ds e1 _ fun vs F2 H2 g r => ⟨by rw [← r.len, line_eq]; exact hl, fun p hp => ?_⟩
    have hf : F2 p = none := none_of_ex g.i hp
    have hp0 : H p = none := none_of_ex g.h hp
    exact q p F2 _ (g.trans (Grow.lay g.i hp _)) hp0 hf (by simp only [OwnC]; exact ⟨vs, upd_same, r⟩)
  · cases e2
/-- a list whose parts are only read -/
theorem ev_lstH (h : EvL T .h tr Γ ms) : Ev T .h (tLst tr) Γ (o1 dLst ms) := fun Z F H σ ok d hd Q q => by
  obtain ⟨ds, e1, e2⟩ := o1_inv hd
  unfold dLst at e2
  split at e2
  · rename_i hl
    cases e2
    refine h Z F H σ ok ds e1 _ fun vs F2 H2 g r => ⟨by rw [← r.len, line_eq]; exact hl, fun p hp => ?_⟩
    exact q _ F2 _ (g.trans (Grow.lay g.i hp _)) (by simp only [Rep, sel]; exact ⟨p, vs, rfl, upd_same, r.mono (Ex.new hp)⟩)
  · cases e2
end
end Mi
/-! statements, blocks, loops -/
namespace Mi
open PySem L2
open Evl (Ex ex_t ex_l ex_rd fresh_back)

inductive Out (α β : Type) where
  | nx (a : α) | ct (b : β) | bk (b : β) | rt (d : D) (ms : List (Nat × D))
structure RetOk (T : Th) (Z : Base) (d : D) (ms : List (Nat × D)) (v : V) (F H : Hp) : Prop where
  hv : Hv Z F H
  rep : Rep T F d v
  mus : ∀ x ∈ ms, F (Z.P x.1) = none ∧ OwnC T F H (Z.P x.1) x.2
def Post {α β : Type} (T : Th) (Z : Base) (Γn : α → Ctx) (Γl : β → Ctx) (E : Ends) : Out α β → Prop
  | .nx a => ∀ F H σ, Ok T Z (Γn a) F H σ → E.nx σ H
  | .ct b => ∀ F H σ, Ok T Z (Γl b) F H σ → E.ct σ H
  | .bk b => ∀ F H σ, Ok T Z (Γl b) F H σ → E.bk σ H
  | .rt d ms => ∀ v F H, RetOk T Z d ms v F H → E.rt v H
/-- a block that may be left: m tells how -/
def Bt {α β : Type} (T : Th) (t : TS) (Γ : Ctx) (m : Option (Out α β)) (Γn : α → Ctx) (Γl : β → Ctx) : Prop := ∀ Z F H σ, Ok T Z Γ F H σ → ∀ o, m = some o → ∀ E : Ends, Post T Z Γn Γl E o → t E σ H
/-- a block that goes on -/
def Bp {α : Type} (T : Th) (t : TS) (Γ : Ctx) (m : Option α) (Γn : α → Ctx) : Prop := ∀ Z F H σ, Ok T Z Γ F H σ → ∀ a, m = some a → ∀ E : Ends, (∀ F H σ, Ok T Z (Γn a) F H σ → E.nx σ H) → t E σ H

/-- what is forgotten -/
inductive Le : Ctx → Ctx → Prop where
  | nil {Γ : Ctx} : Le Γ []
  | keep {s : Slot} {Γ Γ' : Ctx} : Le Γ Γ' → Le (s :: Γ) (s :: Γ')
  | skip {s : Slot} {Γ Γ' : Ctx} : Le Γ Γ' → Le (s :: Γ) (.no :: Γ')
theorem Le.at' {Γ Γ' : Ctx} (h : Le Γ Γ') : ∀ (i : Nat) (s : Slot), Γ'[i]? = some s → s = .no ∨ Γ[i]? = some s := by
  induction h with
  | nil => intro i s e; simp at e
  | keep _ ih =>
    intro i s e
    cases i with
    | zero => exact .inr (by simpa using e)
    | succ i => simpa using ih i s (by simpa using e)
  | skip _ ih =>
    intro i s e
    cases i with
    | zero => exact .inl (by simpa using e.symm)
    | succ i => simpa using ih i s (by simpa using e)
theorem Le.len {Γ Γ' : Ctx} (h : Le Γ Γ') : Γ'.length ≤ Γ.length := by
  induction h with
  | nil => exact Nat.zero_le _
  | keep _ ih => simpa using ih
  | skip _ ih => simpa using ih
section
variable {T : Th} {Z : Base} {Γ Γ' : Ctx} {F F2 H H2 : Hp} {σ : L2.St}
theorem Ok.le (ok : Ok T Z Γ F H σ) (h : Le Γ Γ') : Ok T Z Γ' F H σ :=
  ⟨ok.hv, Nat.le_trans h.len ok.len, fun i s e => by
    rcases h.at' i s e with q | q
    · subst q; trivial
    · exact ok.at' i s q, fun i j p s t e1 o1 e2 o2 a b => by
    have f : ∀ {i : Nat} {s : Slot}, Γ'[i]? = some s → s.isOwn = true → Γ[i]? = some s := fun {i s} e o => by
      rcases h.at' i s e with q | q
      · subst q; cases o
      · exact q
    exact ok.sep i j p s t (f e1 o1) o1 (f e2 o2) o2 a b⟩
/-- a slot is stored -/
theorem Ok.set (ok : Ok T Z Γ F H σ) {i : Nat} {s : Slot} {v : V} (hs : SlotOk T Z F H i (some (some v)) s) (hsep : s.isOwn = true → ∀ (j : Nat) (t : Slot), Γ[j]? = some t → t.isOwn = true → σ[j]? ≠ some (some v)) :
    Ok T Z (Γ.set i s) F H (σ.set i (some v)) := by
  refine ⟨ok.hv, by simpa using ok.len, fun j t e => ?_, fun j k p t u e1 o1 e2 o2 a b => ?_⟩
  · by_cases hj : i = j
    · subst hj
      have hi : i < Γ.length := by
        have := (List.getElem?_eq_some_iff.mp e).1
        simpa using this
      rw [List.getElem?_set_self hi] at e; cases e
      rw [List.getElem?_set_self (Nat.lt_of_lt_of_le hi ok.len)]
      exact hs
    · rw [List.getElem?_set_ne hj] at e
      rw [List.getElem?_set_ne hj]
      exact ok.at' j t e
  · have hl : ∀ {j : Nat} {t : Slot}, (Γ.set i s)[j]? = some t → j < σ.length := fun {j t} e => by
      have := (List.getElem?_eq_some_iff.mp e).1
      have h2 := ok.len
      simp only [List.length_set] at this
      omega
    by_cases hj : i = j
    · by_cases hk : i = k
      · rw [← hj, ← hk]
      · subst hj
        have h1 := hl e1
        have hi : i < Γ.length := by
          have := (List.getElem?_eq_some_iff.mp e1).1
          simpa using this
        rw [List.getElem?_set_self hi] at e1; cases e1
        rw [List.getElem?_set_ne hk] at e2 b
        rw [List.getElem?_set_self h1] at a
        cases a
        exact absurd b (hsep o1 k u e2 o2)
    · by_cases hk : i = k
      · subst hk
        have h1 := hl e2
        have hi : i < Γ.length := by
          have := (List.getElem?_eq_some_iff.mp e2).1
          simpa using this
        rw [List.getElem?_set_self hi] at e2; cases e2
        rw [List.getElem?_set_ne hj] at e1 a
        rw [List.getElem?_set_self h1] at b
        cases b
        exact absurd a (hsep o2 j t e1 o1)
      · rw [List.getElem?_set_ne hj] at e1 a
        rw [List.getElem?_set_ne hk] at e2 b
        exact ok.sep j k p t u e1 o1 e2 o2 a b
theorem Ok.setVal (ok : Ok T Z Γ F H σ) {i : Nat} {d : D} {v : V} (r : Rep T F d v) : Ok T Z (Γ.set i (.val d)) F H (σ.set i (some v)) := ok.set ⟨v, rfl, r⟩ fun z => by cases z
theorem Ok.setBor (ok : Ok T Z Γ F H σ) {i : Nat} {d : D} {v : V} (r : Rep T Z.B d v) : Ok T Z (Γ.set i (.bor d)) F H (σ.set i (some v)) := ok.set ⟨v, rfl, r⟩ fun z => by cases z
/-- what an owned slot's address is -/
theorem SlotOk.own_at {i : Nat} {o : Option (Option V)} {s : Slot} (h : SlotOk T Z F H i o s) (w : s.isOwn = true) : ∃ p d, o = some (some (.ref p)) ∧ Z.B p = none ∧ F p = none ∧ OwnC T F H p d := by
  cases s <;> simp only [SlotOk, Slot.isOwn] at h w <;> first | cases w | skip
  · obtain ⟨p, a, b, c, d, _⟩ := h; exact ⟨p, _, a, b, c, d⟩
  · obtain ⟨p, a, _, b, c, d⟩ := h; exact ⟨p, _, a, b, c, d⟩
/-- a new owned thing is stored: it stood nowhere in H0, which the present heap grew from -/
theorem Ok.setOwn {H0 F0 : Hp} (ok0 : Ok T Z Γ F0 H0 σ) (g : Grow F0 F H0 H) {i : Nat} {d : D} {p : Addr} (hp : H0 p = none) (hf : F p = none) (hc : OwnC T F H p d) : Ok T Z (Γ.set i (.own d)) F H (σ.set i (some (.ref p))) := by
  have hz : Z.H p = none := by
    cases q : Z.H p with
    | none => rfl
    | some u => exact absurd hp (ok0.hv.dom p (by rw [q]; simp))
  refine (ok0.grow g).set ⟨p, rfl, none_of_ex ok0.hv.b hp, hf, hc, hz⟩ fun _ j t e o z => ?_
  obtain ⟨p', d', a, _, _, c⟩ := (ok0.at' j t e).own_at o
  rw [a] at z; cases z
  obtain ⟨u, hu, _⟩ := c.there
  rw [hp] at hu; cases hu
/-- an owned thing is changed -/
theorem Ok.chg (ok : Ok T Z Γ F H σ) {i : Nat} {s s' : Slot} {p : Addr} {d' : D} {o : HO} (hs : Γ[i]? = some s) (ho : s.isOwn = true) (hp : σ[i]? = some (some (.ref p)))
    (hs' : (s' = .own d' ∧ ∃ d, s = .own d) ∨ (s' = .mu d' ∧ ∃ d, s = .mu d)) (hc : OwnC T F (upd H p o) p d') : Ok T Z (Γ.set i s') F (upd H p o) σ := by
  obtain ⟨p', d0, a, b, c, e⟩ := (ok.at' i s hs).own_at ho
  rw [hp] at a; cases a
  have hB : Ex Z.B (upd H p o) := fun x u q => by rw [upd_ne (ne_of_none q b)]; exact ok.hv.b x u q
  have hF : Ex F (upd H p o) := fun x u q => by rw [upd_ne (ne_of_none q c)]; exact ok.hv.f x u q
  refine ⟨⟨hB, ok.hv.f0, hF, fun x q => ?_, ok.hv.new⟩, by simpa using ok.len, fun j t q => ?_, fun j k x t u e1 o1 e2 o2 a1 a2 => ?_⟩
  · by_cases hx : x = p
    · subst hx; rw [upd_same]; simp
    · rw [upd_ne hx]; exact ok.hv.dom x q
  · by_cases hj : i = j
    · subst hj
      have hi : i < Γ.length := (List.getElem?_eq_some_iff.mp hs).1
      rw [List.getElem?_set_self hi] at q; cases q
      have old := ok.at' i s hs
      rcases hs' with ⟨rfl, d, rfl⟩ | ⟨rfl, d, rfl⟩
      · obtain ⟨p2, z1, _, _, _, z2⟩ := old
        rw [hp] at z1; cases z1
        exact ⟨p, hp, b, c, hc, z2⟩
      · obtain ⟨p2, z1, z2, _⟩ := old
        rw [hp] at z1; cases z1
        exact ⟨p, hp, z2, b, c, hc⟩
    · rw [List.getElem?_set_ne hj] at q
      have old := ok.at' j t q
      have ne : ∀ {x}, σ[j]? = some (some (.ref x)) → t.isOwn = true → x ≠ p := fun {x} hx ot z => by
        subst z
        exact hj (ok.sep i j x s t hs ho q ot hp hx)
      cases t <;> simp only [SlotOk] at old ⊢
      · exact old
      · exact old
      · obtain ⟨x, y1, y2, y3, y4, y5⟩ := old
        exact ⟨x, y1, y2, y3, y4.upd (ne y1 rfl), y5⟩
      · obtain ⟨x, y1, y0, y2, y3, y4⟩ := old
        exact ⟨x, y1, y0, y2, y3, y4.upd (ne y1 rfl)⟩
  · have f : ∀ {j : Nat} {t : Slot}, (Γ.set i s')[j]? = some t → t.isOwn = true → ∃ t' : Slot, Γ[j]? = some t' ∧ t'.isOwn = true := fun {j t} e w => by
      by_cases hj : i = j
      · subst hj; exact ⟨s, hs, ho⟩
      · rw [List.getElem?_set_ne hj] at e; exact ⟨t, e, w⟩
    obtain ⟨t', q1, q2⟩ := f e1 o1
    obtain ⟨u', q3, q4⟩ := f e2 o2
    exact ok.sep j k x t' u' q1 q2 q3 q4 a1 a2
/-- an owned thing is from now on kept -/
theorem Ok.freeze (ok : Ok T Z Γ F H σ) {i : Nat} {d : D} (hs : Γ[i]? = some (.own d)) : ∃ F', Ok T Z (Γ.set i (.val d)) F' H σ := by
  obtain ⟨p, a, b, c, e, hz⟩ := ok.at' i _ hs
  obtain ⟨o, ho, k⟩ := e.there
  refine ⟨upd F p o, ?_⟩
  have ef : Ex F (upd F p o) := Ex.new c
  refine ⟨⟨ok.hv.b, ok.hv.f0.trans ef, fun x u q => ?_, ok.hv.dom, fun x q => ?_⟩, by simpa using ok.len, fun j t q => ?_, fun j l x t u e1 o1 e2 o2 a1 a2 => ?_⟩
  · by_cases hx : x = p
    · subst hx; rw [upd_same] at q; rw [ho, q]
    · rw [upd_ne hx] at q; exact ok.hv.f x u q
  · by_cases hx : x = p
    · subst hx; exact .inr hz
    · rw [upd_ne hx] at q; exact ok.hv.new x q
  · by_cases hj : i = j
    · subst hj
      have hi : i < Γ.length := (List.getElem?_eq_some_iff.mp hs).1
      rw [List.getElem?_set_self hi] at q; cases q
      exact ⟨_, a, k _ ef upd_same⟩
    · rw [List.getElem?_set_ne hj] at q
      have old := ok.at' j t q
      have ne : ∀ {x}, σ[j]? = some (some (.ref x)) → t.isOwn = true → x ≠ p := fun {x} hx ot z => by
        subst z
        exact hj (ok.sep i j x _ t hs rfl q ot a hx)
      cases t <;> simp only [SlotOk] at old ⊢
      · obtain ⟨v, y1, y2⟩ := old; exact ⟨v, y1, y2.mono ef⟩
      · exact old
      · obtain ⟨x, y1, y2, y3, y4, y5⟩ := old
        exact ⟨x, y1, y2, by rw [upd_ne (ne y1 rfl)]; exact y3, y4.grow ef (Ex.refl H), y5⟩
      · obtain ⟨x, y1, y0, y2, y3, y4⟩ := old
        exact ⟨x, y1, y0, y2, by rw [upd_ne (ne y1 rfl)]; exact y3, y4.grow ef (Ex.refl H)⟩
  · have f : ∀ {j : Nat} {t : Slot}, (Γ.set i (.val d))[j]? = some t → t.isOwn = true → Γ[j]? = some t := fun {j t} e w => by
      by_cases hj : i = j
      · subst hj
        have hi : i < Γ.length := (List.getElem?_eq_some_iff.mp hs).1
        rw [List.getElem?_set_self hi] at e; cases e; cases w
      · rw [List.getElem?_set_ne hj] at e; exact e
    exact ok.sep j l x t u (f e1 o1) o1 (f e2 o2) o2 a1 a2
end
end Mi
/-! rules for statements, blocks, loops -/
namespace Mi
open PySem L2
open Evl (Ex ex_t ex_l ex_rd fresh_back)

/-- what a block does, by what is wanted of its outcome -/
def B {ω : Type} (T : Th) (t : TS) (Γ : Ctx) (m : Option ω) (P : Base → Ends → ω → Prop) : Prop := ∀ Z F H σ, Ok T Z Γ F H σ → ∀ o, m = some o → ∀ E : Ends, P Z E o → t E σ H
abbrev PT {α β : Type} (T : Th) (Γn : α → Ctx) (Γl : β → Ctx) : Base → Ends → Out α β → Prop := fun Z E o => Post T Z Γn Γl E o
abbrev PP {α : Type} (T : Th) (Γn : α → Ctx) : Base → Ends → α → Prop := fun Z E a => ∀ F H σ, Ok T Z (Γn a) F H σ → E.nx σ H
section
variable {ω α β γ : Type} {T : Th} {Γ Γ' : Ctx} {md : Md} {te ta tb : TE} {tc : TT} {t u : TS} {m ma : Option ω} {P : Base → Ends → ω → Prop} {me : Option D} {mc : Option Bool} {i j k l : Nat}
theorem bp_set (h : Ev T .f te Γ me) : B T (tAsg te (gName i)) Γ me (PP T fun d => Γ.set i (.val d)) := fun Z F H σ ok d hd E p =>
  h Z F H σ ok d hd _ fun v F2 H2 g r => p F2 H2 _ ((ok.grow g).setVal r)
theorem bp_setB (h : Ev T .b te Γ me) : B T (tAsg te (gName i)) Γ me (PP T fun d => Γ.set i (.bor d)) := fun Z F H σ ok d hd E p =>
  h Z F H σ ok d hd _ fun v F2 H2 g r => p F2 H2 _ ((ok.grow g).setBor r)
theorem bp_setO (h : EvO T te Γ me) : B T (tAsg te (gName i)) Γ me (PP T fun d => Γ.set i (.own d)) := fun Z F H σ ok d hd E p =>
  h Z F H σ ok d hd _ fun q F2 H2 g hp hf hc => p F2 H2 _ (ok.setOwn g hp hf hc)
theorem bp_drop (h : Ev T md te Γ me) : B T (tDrop te) Γ me (PP T fun _ => Γ) := fun Z F H σ ok d hd E p =>
  h Z F H σ ok d hd _ fun v F2 H2 g r => p F2 H2 _ (ok.grow g)
theorem bp_next : B T tNext Γ (some ()) (PP T fun _ => Γ) := fun Z F H σ ok d hd E p => p F H σ ok
/-- forget, freeze: steps of the proof alone -/
theorem b_le (h : Le Γ Γ') (hb : B T t Γ' m P) : B T t Γ m P := fun Z F H σ ok => hb Z F H σ (ok.le h)
theorem b_freeze {d : D} (i : Nat) (hs : Γ[i]? = some (.own d)) (hb : B T t (Γ.set i (.val d)) m P) : B T t Γ m P := fun Z F H σ ok => by
  obtain ⟨F', ok'⟩ := ok.freeze hs
  exact hb Z F' H σ ok'
theorem b_seq {m1 : Option α} {Γ1 : α → Ctx} {m2 : α → Option ω} (h1 : B T t Γ m1 (PP T Γ1)) (h2 : ∀ a, B T u (Γ1 a) (m2 a) P) : B T (tSeq t u) Γ (m1.bind m2) P := fun Z F H σ ok o ho E p => by
  obtain ⟨a, e1, e2⟩ := bind_inv ho
  exact h1 Z F H σ ok a e1 _ fun F2 H2 σ2 ok2 => h2 a Z F2 H2 σ2 ok2 o e2 E p
/-- the same where the answer is not asked for -/
theorem b_seq0 {Γ1 : Ctx} {m2 : Option ω} (h1 : B T t Γ (some ()) (PP T fun _ => Γ1)) (h2 : B T u Γ1 m2 P) : B T (tSeq t u) Γ m2 P := fun Z F H σ ok o ho E p =>
  h1 Z F H σ ok () rfl _ fun F2 H2 σ2 ok2 => h2 Z F2 H2 σ2 ok2 o ho E p
def Out.thn (o : Out γ β) (k : γ → Option (Out α β)) : Option (Out α β) := match o with
  | .nx a => k a
  | .ct b => some (.ct b)
  | .bk b => some (.bk b)
  | .rt d ms => some (.rt d ms)
@[simp] theorem Out.thn_nx (a : γ) (k : γ → Option (Out α β)) : Out.thn (.nx a) k = k a := id rfl
@[simp] theorem Out.thn_ct (b : β) (k : γ → Option (Out α β)) : Out.thn (.ct b) k = some (.ct b) := id rfl
@[simp] theorem Out.thn_bk (b : β) (k : γ → Option (Out α β)) : Out.thn (.bk b) k = some (.bk b) := id rfl
@[simp] theorem Out.thn_rt (d : D) (ms : List (Nat × D)) (k : γ → Option (Out α β)) : Out.thn (.rt d ms) k = some (.rt d ms) := id rfl
theorem b_seqx {m1 : Option (Out γ β)} {Γ1 : γ → Ctx} {Γl : β → Ctx} {Γn : α → Ctx} {m2 : γ → Option (Out α β)} (h1 : B T t Γ m1 (PT T Γ1 Γl)) (h2 : ∀ a, B T u (Γ1 a) (m2 a) (PT T Γn Γl)) :
    B T (tSeq t u) Γ (m1.bind fun o => o.thn m2) (PT T Γn Γl) := fun Z F H σ ok o ho E p => by
  obtain ⟨a, e1, e2⟩ := bind_inv ho
  refine h1 Z F H σ ok a e1 _ ?_
  cases a with
  | nx a => exact fun F2 H2 σ2 ok2 => h2 a Z F2 H2 σ2 ok2 o e2 E p
  | ct b => cases e2; exact p
  | bk b => cases e2; exact p
  | rt d ms => cases e2; exact p
theorem b_if (hc : EvT T tc Γ mc) (ha : B T t Γ ma P) (hb : B T u Γ m P) : B T (tIfS tc t u) Γ (mc.bind fun c => if c = true then ma else m) P := fun Z F H σ ok o ho E p => by
  obtain ⟨c, e1, e2⟩ := bind_inv ho
  refine hc Z F H σ ok c e1 _ fun F2 H2 g => ?_
  cases c with
  | true => exact ha Z F2 H2 σ (ok.grow g) o e2 E p
  | false => exact hb Z F2 H2 σ (ok.grow g) o e2 E p
/-- the first branch leaves the block -/
theorem b_ifx {m1 m2 : Option (Out α β)} {Γl : β → Ctx} {Γn : α → Ctx} {v : TS} (hc : EvT T tc Γ mc) (ha : B T t Γ m1 (PT T (fun _ => [.bad]) Γl)) (hb : B T (tSeq u v) Γ m2 (PT T Γn Γl)) :
    B T (tSeq (tIfS tc t u) v) Γ (mc.bind fun c => if c = true then m1 else m2) (PT T Γn Γl) := fun Z F H σ ok o ho E p => by
  obtain ⟨c, e1, e2⟩ := bind_inv ho
  refine hc Z F H σ ok c e1 _ fun F2 H2 g => ?_
  cases c with
  | true =>
    refine ha Z F2 H2 σ (ok.grow g) o e2 _ ?_
    cases o with
    | nx a => exact fun F3 H3 σ3 ok3 => (ok3.at' 0 _ rfl).elim
    | ct b => exact p
    | bk b => exact p
    | rt d ms => exact p
  | false => exact hb Z F2 H2 σ (ok.grow g) o e2 E p
theorem b_ifx0 {m1 m2 : Option (Out α β)} {Γl : β → Ctx} {Γn : α → Ctx} {v : TS} (hc : EvT T tc Γ mc) (ha : B T t Γ m1 (PT T (fun _ => [.bad]) Γl)) (hb : B T v Γ m2 (PT T Γn Γl)) :
    B T (tSeq (tIfS tc t tNext) v) Γ (mc.bind fun c => if c = true then m1 else m2) (PT T Γn Γl) := b_ifx hc ha hb
/-- the second branch leaves the block -/
theorem b_ify {m1 m2 : Option (Out α β)} {Γl : β → Ctx} {Γn : α → Ctx} {v : TS} (hc : EvT T tc Γ mc) (ha : B T (tSeq t v) Γ m1 (PT T Γn Γl)) (hb : B T u Γ m2 (PT T (fun _ => [.bad]) Γl)) :
    B T (tSeq (tIfS tc t u) v) Γ (mc.bind fun c => if c = true then m1 else m2) (PT T Γn Γl) := fun Z F H σ ok o ho E p => by
  obtain ⟨c, e1, e2⟩ := bind_inv ho
  refine hc Z F H σ ok c e1 _ fun F2 H2 g => ?_
  cases c with
  | false =>
    refine hb Z F2 H2 σ (ok.grow g) o e2 _ ?_
    cases o with
    | nx a => exact fun F3 H3 σ3 ok3 => (ok3.at' 0 _ rfl).elim
    | ct b => exact p
    | bk b => exact p
    | rt d ms => exact p
  | true => exact ha Z F2 H2 σ (ok.grow g) o e2 E p
/-- the ends of a block -/
theorem bp_end {Γn : α → Ctx} {a : α} (h : Le Γ (Γn a)) : B T tNext Γ (some a) (PP T Γn) := fun Z F H σ ok a' e E p => by
  cases e
  exact p F H σ (ok.le h)
theorem bt_end {Γn : α → Ctx} {Γl : β → Ctx} {a : α} (h : Le Γ (Γn a)) : B T tNext Γ (some (.nx a)) (PT T Γn Γl) := fun Z F H σ ok a' e E p => by
  cases e
  exact p F H σ (ok.le h)
theorem bt_cont {Γn : α → Ctx} {Γl : β → Ctx} {b : β} (h : Le Γ (Γl b)) : B T tCont Γ (some (.ct b)) (PT T Γn Γl) := fun Z F H σ ok a' e E p => by
  cases e
  exact p F H σ (ok.le h)
theorem bt_break {Γn : α → Ctx} {Γl : β → Ctx} {b : β} (h : Le Γ (Γl b)) : B T tBreak Γ (some (.bk b)) (PT T Γn Γl) := fun Z F H σ ok a' e E p => by
  cases e
  exact p F H σ (ok.le h)
/-- the last statement, then the end -/
theorem b_last {m1 : Option α} {Γ1 : α → Ctx} {m2 : α → Option ω} (h1 : B T t Γ m1 (PP T Γ1)) (h2 : ∀ a, B T tNext (Γ1 a) (m2 a) P) : B T t Γ (m1.bind m2) P := fun Z F H σ ok o ho E p => by
  obtain ⟨a, e1, e2⟩ := bind_inv ho
  exact h1 Z F H σ ok a e1 E fun F2 H2 σ2 ok2 => h2 a Z F2 H2 σ2 ok2 o e2 E p
theorem b_lastx {m1 : Option (Out γ β)} {Γ1 : γ → Ctx} {Γl : β → Ctx} {Γn : α → Ctx} {m2 : γ → Option (Out α β)} (h1 : B T t Γ m1 (PT T Γ1 Γl)) (h2 : ∀ a, B T tNext (Γ1 a) (m2 a) (PT T Γn Γl)) :
    B T t Γ (m1.bind fun o => o.thn m2) (PT T Γn Γl) := fun Z F H σ ok o ho E p => by
  obtain ⟨a, e1, e2⟩ := bind_inv ho
  refine h1 Z F H σ ok a e1 _ ?_
  cases a with
  | nx a => exact fun F2 H2 σ2 ok2 => h2 a Z F2 H2 σ2 ok2 o e2 E p
  | ct b => cases e2; exact p
  | bk b => cases e2; exact p
  | rt d ms => cases e2; exact p
/-- what the changed parameters hold -/
def mus : Nat → Ctx → List (Nat × D)
  | _, [] => []
  | n, .mu d :: Γ => (n, d) :: mus (n + 1) Γ
  | n, _ :: Γ => mus (n + 1) Γ
theorem mus_at : ∀ {Γ : Ctx} {n : Nat} {x : Nat × D}, x ∈ mus n Γ → n ≤ x.1 ∧ Γ[x.1 - n]? = some (.mu x.2)
  | [], n, x, h => by simp [mus] at h
  | s :: Γ, n, x, h => by
    have go : x ∈ mus (n + 1) Γ → n ≤ x.1 ∧ (s :: Γ)[x.1 - n]? = some (.mu x.2) := fun h => by
      obtain ⟨a, b⟩ := mus_at h
      refine ⟨by omega, ?_⟩
      have e : x.1 - n = (x.1 - (n + 1)) + 1 := by omega
      rw [e]; simpa using b
    cases s <;> simp only [mus] at h <;> first | exact go h | skip
    rcases List.mem_cons.mp h with q | q
    · subst q; exact ⟨Nat.le_refl _, by simp⟩
    · exact go q
theorem bt_ret {Γn : α → Ctx} {Γl : β → Ctx} (h : Ev T .f te Γ me) : B T (tRet te) Γ (me.bind fun d => some (.rt d (mus 0 Γ))) (PT T Γn Γl) := fun Z F H σ ok o ho E p => by
  obtain ⟨d, e1, e2⟩ := bind_inv ho
  cases e2
  refine h Z F H σ ok d e1 _ fun v F2 H2 g r => p v F2 H2 ⟨ok.hv.grow g, r, fun x hx => ?_⟩
  obtain ⟨_, q⟩ := mus_at hx
  obtain ⟨p', a, b, c, e, f⟩ := (ok.grow g).at' _ _ q
  simp only [Nat.sub_zero] at b
  rw [← b]
  exact ⟨e, f⟩
theorem bt_retN {Γn : α → Ctx} {Γl : β → Ctx} : B T tRetN Γ (some (.rt .non (mus 0 Γ))) (PT T Γn Γl) := fun Z F H σ ok o ho E p => by
  cases ho
  refine p _ F H ⟨ok.hv, by simp only [Rep], fun x hx => ?_⟩
  obtain ⟨_, q⟩ := mus_at hx
  obtain ⟨p', a, b, c, e, f⟩ := ok.at' _ _ q
  simp only [Nat.sub_zero] at b
  rw [← b]
  exact ⟨e, f⟩
/-! ### targets -/
def slotOf : Md → D → Slot
  | .f, d => .val d
  | .b, d => .bor d
  | .h, _ => .no
/-- a value that stands for d is handed to the target, then the block runs -/
def Bg (T : Th) (g : TG) (t : TS) (Γ : Ctx) (md : Md) (d : D) (m : Option ω) (P : Base → Ends → ω → Prop) : Prop := ∀ Z F H σ x, Ok T Z Γ F H σ → Rep T (sel Z md F H) d x → ∀ o, m = some o → ∀ E : Ends, P Z E o → ∀ Q : L2.St → Hp → Prop, (∀ σ2 H2, t E σ2 H2 → Q σ2 H2) → g x σ H Q
theorem Ok.setMd {Z : Base} {F H : Hp} {σ : L2.St} (ok : Ok T Z Γ F H σ) {d : D} {v : V} (r : Rep T (sel Z md F H) d v) : Ok T Z (Γ.set i (slotOf md d)) F H (σ.set i (some v)) := by
  cases md with
  | f => exact ok.setVal r
  | b => exact ok.setBor r
  | h => exact ok.set trivial fun z => by cases z
theorem bg_name {d : D} (h : B T t (Γ.set i (slotOf md d)) m P) : Bg T (gName i) t Γ md d m P := fun Z F H σ x ok r o ho E p Q q =>
  q _ _ (h Z F H _ (ok.setMd r) o ho E p)
def un2 {ω : Type} (d : D) (k : D → D → Option ω) : Option ω := match d with | .tup [a, b] => k a b | _ => none
def un3 {ω : Type} (d : D) (k : D → D → D → Option ω) : Option ω := match d with | .tup [a, b, c] => k a b c | _ => none
def un4 {ω : Type} (d : D) (k : D → D → D → D → Option ω) : Option ω := match d with | .tup [a, b, c, e] => k a b c e | _ => none
def un5 {ω : Type} (d : D) (k : D → D → D → D → D → Option ω) : Option ω := match d with | .tup [a, b, c, e, f] => k a b c e f | _ => none
@[simp] theorem un2_t {ω : Type} (a b : D) (k : D → D → Option ω) : un2 (.tup [a, b]) k = k a b := id rfl
@[simp] theorem un3_t {ω : Type} (a b c : D) (k : D → D → D → Option ω) : un3 (.tup [a, b, c]) k = k a b c := id rfl
@[simp] theorem un4_t {ω : Type} (a b c e : D) (k : D → D → D → D → Option ω) : un4 (.tup [a, b, c, e]) k = k a b c e := id rfl
@[simp] theorem un5_t {ω : Type} (a b c e f : D) (k : D → D → D → D → D → Option ω) : un5 (.tup [a, b, c, e, f]) k = k a b c e f := id rfl
theorem un2_inv {d : D} {k : D → D → Option ω} {o : ω} (h : un2 d k = some o) : ∃ a b, d = .tup [a, b] ∧ k a b = some o := by
  unfold un2 at h
  split at h
  · exact ⟨_, _, rfl, h⟩
  · cases h
theorem un3_inv {d : D} {k : D → D → D → Option ω} {o : ω} (h : un3 d k = some o) : ∃ a b c, d = .tup [a, b, c] ∧ k a b c = some o := by
  unfold un3 at h
  split at h
  · exact ⟨_, _, _, rfl, h⟩
  · cases h
theorem un4_inv {d : D} {k : D → D → D → D → Option ω} {o : ω} (h : un4 d k = some o) : ∃ a b c e, d = .tup [a, b, c, e] ∧ k a b c e = some o := by
  unfold un4 at h
  split at h
  · exact ⟨_, _, _, _, rfl, h⟩
  · cases h
theorem un5_inv {d : D} {k : D → D → D → D → D → Option ω} {o : ω} (h : un5 d k = some o) : ∃ a b c e f, d = .tup [a, b, c, e, f] ∧ k a b c e f = some o := by
  unfold un5 at h
  split at h
  · exact ⟨_, _, _, _, _, rfl, h⟩
  · cases h
theorem rep_tup_inv {G : Hp} {ds : List D} {v : V} (r : Rep T G (.tup ds) v) : ∃ p vs, v = .ref p ∧ G p = some (.tup vs) ∧ Reps T G ds vs := by simpa only [Rep] using r
theorem bg_tup2 {d : D} {mk : D → D → Option ω} (h : ∀ a b, B T t ((Γ.set i (slotOf md a)).set j (slotOf md b)) (mk a b) P) : Bg T (gTup T.K 2 (gCons (gName i) (gCons (gName j) gNil))) t Γ md d (un2 d mk) P := fun Z F H σ x ok r o ho E p Q qq => by
  obtain ⟨a, b, rfl, e⟩ := un2_inv ho
  obtain ⟨q, vs, rfl, hq, rr⟩ := rep_tup_inv r
  obtain ⟨va, r1, rfl, ra, rr⟩ := rr.uncons
  obtain ⟨vb, r2, rfl, rb, rr⟩ := rr.uncons
  simp only [Reps] at rr; subst rr
  refine ⟨q, _, rfl, SqT.of (sel_in ok.hv.f ok.hv.b _ _ hq), rfl, va, _, rfl, vb, _, rfl, rfl, ?_⟩
  have ok2 := ok.setMd (i := i) ra
  exact qq _ _ (h a b Z F H _ (ok2.setMd (i := j) rb) o e E p)
theorem bg_tup3 {d : D} {mk : D → D → D → Option ω} (h : ∀ a b c, B T t (((Γ.set i (slotOf md a)).set j (slotOf md b)).set k (slotOf md c)) (mk a b c) P) : Bg T (gTup T.K 3 (gCons (gName i) (gCons (gName j) (gCons (gName k) gNil)))) t Γ md d (un3 d mk) P := fun Z F H σ x ok r o ho E p Q qq => by
  obtain ⟨a, b, c, rfl, e⟩ := un3_inv ho
  obtain ⟨q, vs, rfl, hq, rr⟩ := rep_tup_inv r
  obtain ⟨va, r1, rfl, ra, rr⟩ := rr.uncons
  obtain ⟨vb, r2, rfl, rb, rr⟩ := rr.uncons
  obtain ⟨vc, r3, rfl, rc, rr⟩ := rr.uncons
  simp only [Reps] at rr; subst rr
  refine ⟨q, _, rfl, SqT.of (sel_in ok.hv.f ok.hv.b _ _ hq), rfl, va, _, rfl, vb, _, rfl, vc, _, rfl, rfl, ?_⟩
  have ok2 := (ok.setMd (i := i) ra).setMd (i := j) rb
  exact qq _ _ (h a b c Z F H _ (ok2.setMd (i := k) rc) o e E p)
theorem bg_tup4 {d : D} {mk : D → D → D → D → Option ω} (h : ∀ a b c e, B T t ((((Γ.set i (slotOf md a)).set j (slotOf md b)).set k (slotOf md c)).set l (slotOf md e)) (mk a b c e) P) : Bg T (gTup T.K 4 (gCons (gName i) (gCons (gName j) (gCons (gName k) (gCons (gName l) gNil))))) t Γ md d (un4 d mk) P := fun Z F H σ x ok r o ho E p Q qq => by
  obtain ⟨a, b, c, f, rfl, e⟩ := un4_inv ho
  obtain ⟨q, vs, rfl, hq, rr⟩ := rep_tup_inv r
  obtain ⟨va, r1, rfl, ra, rr⟩ := rr.uncons
  obtain ⟨vb, r2, rfl, rb, rr⟩ := rr.uncons
  obtain ⟨vc, r3, rfl, rc, rr⟩ := rr.uncons
  obtain ⟨vd, r4, rfl, rd, rr⟩ := rr.uncons
  simp only [Reps] at rr; subst rr
  refine ⟨q, _, rfl, SqT.of (sel_in ok.hv.f ok.hv.b _ _ hq), rfl, va, _, rfl, vb, _, rfl, vc, _, rfl, vd, _, rfl, rfl, ?_⟩
  have ok2 := ((ok.setMd (i := i) ra).setMd (i := j) rb).setMd (i := k) rc
  exact qq _ _ (h a b c f Z F H _ (ok2.setMd (i := l) rd) o e E p)
theorem bg_tup5 {n : Nat} {d : D} {mk : D → D → D → D → D → Option ω} (h : ∀ a b c e f, B T t (((((Γ.set i (slotOf md a)).set j (slotOf md b)).set k (slotOf md c)).set l (slotOf md e)).set n (slotOf md f)) (mk a b c e f) P) : Bg T (gTup T.K 5 (gCons (gName i) (gCons (gName j) (gCons (gName k) (gCons (gName l) (gCons (gName n) gNil)))))) t Γ md d (un5 d mk) P := fun Z F H σ x ok r o ho E p Q qq => by
  obtain ⟨a, b, c, f, g, rfl, e⟩ := un5_inv ho
  obtain ⟨q, vs, rfl, hq, rr⟩ := rep_tup_inv r
  obtain ⟨va, r1, rfl, ra, rr⟩ := rr.uncons
  obtain ⟨vb, r2, rfl, rb, rr⟩ := rr.uncons
  obtain ⟨vc, r3, rfl, rc, rr⟩ := rr.uncons
  obtain ⟨vd, r4, rfl, rd, rr⟩ := rr.uncons
  obtain ⟨ve, r5, rfl, re, rr⟩ := rr.uncons
  simp only [Reps] at rr; subst rr
  refine ⟨q, _, rfl, SqT.of (sel_in ok.hv.f ok.hv.b _ _ hq), rfl, va, _, rfl, vb, _, rfl, vc, _, rfl, vd, _, rfl, ve, _, rfl, rfl, ?_⟩
  have ok2 := (((ok.setMd (i := i) ra).setMd (i := j) rb).setMd (i := k) rc).setMd (i := l) rd
  exact qq _ _ (h a b c f g Z F H _ (ok2.setMd (i := n) re) o e E p)
/-- e is unpacked, then the rest -/
theorem b_unp {g : TG} {mk : D → Option ω} (he : Ev T md te Γ me) (hg : ∀ d, Bg T g u Γ md d (mk d) P) : B T (tSeq (tAsg te g) u) Γ (me.bind mk) P := fun Z F H σ ok o ho E p => by
  obtain ⟨d, e1, e2⟩ := bind_inv ho
  exact he Z F H σ ok d e1 _ fun v F2 H2 gr r => hg d Z F2 H2 σ v (ok.grow gr) r o e2 E p _ fun _ _ z => z
/-- a, b = e1, e2 -/
theorem b_par {tr : TA} {ma mb : Option D} {ta tb : TE} (ha : Ev T .f ta Γ ma) (hb : Ev T .f tb Γ mb) : B T (tPar i j (tCons ta (tCons tb tNil))) Γ (o2 (fun x y => some (x, y)) ma mb) (PP T fun c => (Γ.set i (.val c.1)).set j (.val c.2)) := fun Z F H σ ok o ho E p => by
  obtain ⟨x, y, e1, e2, e3⟩ := o2_inv ho
  cases e3
  refine ha Z F H σ ok x e1 _ fun v F2 H2 g1 r1 => hb Z F2 H2 σ (ok.grow g1) y e2 _ fun w F3 H3 g2 r2 => ?_
  exact ⟨v, w, rfl, p F3 H3 _ ((((ok.grow g1).grow g2).setVal (r1.mono g2.f)).setVal r2)⟩
end
end Mi
/-! loops -/
namespace Mi
open PySem L2
open Evl (Ex ex_t ex_l ex_rd fresh_back)

/-- a walk gives the things ds, while all that was kept stands -/
structure Wk (T : Th) (Z : Base) (md : Md) (J : It) (ds : List D) (F0 : Hp) : Prop where
  go : ∀ i F H, i < ds.length → Ex F0 F → Ex F H → Ex Z.B H → J.go i H
  stop : ∀ F H, Ex F0 F → Ex F H → Ex Z.B H → J.stop ds.length H
  yld : ∀ i F H x H', i < ds.length → Ex F0 F → Ex F H → Ex Z.B H → J.yld i H x H' → ∃ F', Grow F F' H H' ∧ ∀ d, ds[i]? = some d → Rep T (sel Z md F' H') d x
/-- pairs, each made anew -/
structure Wk2 (T : Th) (Z : Base) (ma mb : Md) (J : It) (ds : List (D × D)) (F0 : Hp) : Prop where
  go : ∀ i F H, i < ds.length → Ex F0 F → Ex F H → Ex Z.B H → J.go i H
  stop : ∀ F H, Ex F0 F → Ex F H → Ex Z.B H → J.stop ds.length H
  yld : ∀ i F H x H', i < ds.length → Ex F0 F → Ex F H → Ex Z.B H → J.yld i H x H' → ∃ F', Grow F F' H H' ∧ ∃ p v w, x = .ref p ∧ SqT T.K H' p [v, w] ∧ ∀ d, ds[i]? = some d → Rep T (sel Z ma F' H') d.1 v ∧ Rep T (sel Z mb F' H') d.2 w
def EvI (T : Th) (wi : TI) (Γ : Ctx) (md : Md) (m : Option (List D)) : Prop := ∀ Z F H σ, Ok T Z Γ F H σ → ∀ ds, m = some ds → ∀ R : It → Hp → Prop, (∀ J F2 H2, Grow F F2 H H2 → Wk T Z md J ds F2 → R J H2) → wi σ H R
def EvI2 (T : Th) (wi : TI) (Γ : Ctx) (ma mb : Md) (m : Option (List (D × D))) : Prop := ∀ Z F H σ, Ok T Z Γ F H σ → ∀ ds, m = some ds → ∀ R : It → Hp → Prop, (∀ J F2 H2, Grow F F2 H H2 → Wk2 T Z ma mb J ds F2 → R J H2) → wi σ H R
/-- a pair's parts are handed to the target -/
def Bg2 {ω : Type} (T : Th) (g : TG) (t : TS) (Γ : Ctx) (ma mb : Md) (d e : D) (m : Option ω) (P : Base → Ends → ω → Prop) : Prop := ∀ Z F H σ p v w, Ok T Z Γ F H σ → SqT T.K H p [v, w] → Rep T (sel Z ma F H) d v → Rep T (sel Z mb F H) e w → ∀ o, m = some o → ∀ E : Ends, P Z E o → ∀ Q : L2.St → Hp → Prop, (∀ σ2 H2, t E σ2 H2 → Q σ2 H2) → g (.ref p) σ H Q

/-! the loops' mirrors -/
section
variable {β γ ι : Type}
def loopO (f : β → ι → Option (Out β β)) : List ι → β → Option (Out β γ)
  | [], b => some (.nx b)
  | x :: xs, b => (f b x).bind fun o => match o with
    | .nx b' => loopO f xs b'
    | .ct b' => loopO f xs b'
    | .bk b' => some (.nx b')
    | .rt d ms => some (.rt d ms)
@[simp] theorem loopO_nil (f : β → ι → Option (Out β β)) (b : β) : loopO (γ := γ) f [] b = some (.nx b) := id rfl
theorem loopO_cons (f : β → ι → Option (Out β β)) (x : ι) (xs : List ι) (b : β) : loopO (γ := γ) f (x :: xs) b = (f b x).bind fun o => match o with
    | .nx b' => loopO f xs b'
    | .ct b' => loopO f xs b'
    | .bk b' => some (.nx b')
    | .rt d ms => some (.rt d ms) := rfl
/-- a loop that nothing leaves -/
def foldO (f : β → ι → Option β) : List ι → β → Option β
  | [], b => some b
  | x :: xs, b => (f b x).bind fun b' => foldO f xs b'
@[simp] theorem foldO_nil (f : β → ι → Option β) (b : β) : foldO f [] b = some b := id rfl
theorem foldO_cons (f : β → ι → Option β) (x : ι) (xs : List ι) (b : β) : foldO f (x :: xs) b = (f b x).bind fun b' => foldO f xs b' := rfl
def whileN (c : β → Option Bool) (f : β → Option (Out β β)) : Nat → β → Option (Out β γ)
  | 0, _ => none
  | n + 1, b => (c b).bind fun k => if k = true then (f b).bind fun o => match o with
    | .nx b' => whileN c f n b'
    | .ct b' => whileN c f n b'
    | .bk b' => some (.nx b')
    | .rt d ms => some (.rt d ms)
    else some (.nx b)
theorem whileN_succ {c : β → Option Bool} {f : β → Option (Out β β)} : ∀ {n : Nat} {b : β} {o : Out β γ}, whileN c f n b = some o → whileN c f (n + 1) b = some o
  | 0, b, o, h => by cases h
  | n + 1, b, o, h => by
    unfold whileN at h ⊢
    obtain ⟨k, e1, e2⟩ := bind_inv h
    rw [e1]
    show (if k = true then _ else _) = _
    cases k with
    | false => exact e2
    | true =>
      obtain ⟨q, e3, e4⟩ := bind_inv (show (f b).bind _ = some o from e2)
      show (f b).bind _ = some o
      rw [e3]
      cases q with
      | nx b' => exact whileN_succ e4
      | ct b' => exact whileN_succ e4
      | bk b' => exact e4
      | rt d ms => exact e4
theorem whileN_le {c : β → Option Bool} {f : β → Option (Out β β)} {n k : Nat} {b : β} {o : Out β γ} (h : whileN c f n b = some o) (l : n ≤ k) : whileN c f k b = some o := by
  obtain ⟨j, rfl⟩ := Nat.exists_eq_add_of_le l
  clear l
  induction j with
  | zero => exact h
  | succ j ih => exact whileN_succ ih
open Classical in
/-- the while loop's answer, where it ends -/
noncomputable def whileO (c : β → Option Bool) (f : β → Option (Out β β)) (b : β) : Option (Out β γ) :=
  if h : ∃ n, (whileN (γ := γ) c f n b).isSome = true then whileN c f h.choose b else none
theorem whileO_of {c : β → Option Bool} {f : β → Option (Out β β)} {n : Nat} {b : β} {o : Out β γ} (h : whileN c f n b = some o) : whileO c f b = some o := by
  have hx : ∃ n, (whileN (γ := γ) c f n b).isSome = true := ⟨n, by rw [h]; rfl⟩
  unfold whileO
  rw [dif_pos hx]
  obtain ⟨o', ho⟩ := Option.isSome_iff_exists.mp hx.choose_spec
  have h1 := whileN_le h (Nat.le_max_left n hx.choose)
  have h2 := whileN_le ho (Nat.le_max_right n hx.choose)
  rw [h1] at h2
  rw [ho, ← h2]
theorem whileO_inv {c : β → Option Bool} {f : β → Option (Out β β)} {b : β} {o : Out β γ} (h : whileO c f b = some o) : ∃ n, whileN c f n b = some o := by
  unfold whileO at h
  split at h
  · exact ⟨_, h⟩
  · cases h
end
section
variable {T : Th} {Γ : Ctx} {Z : Base} {F F0 H H0 : Hp} {σ : L2.St}
abbrev Base.at (Z : Base) (F : Hp) : Base := { Z with F := F }
theorem SlotOk.at {i : Nat} {o : Option (Option V)} {s : Slot} {F1 : Hp} (h : SlotOk T Z F H i o s) : SlotOk T (Z.at F1) F H i o s := by
  cases s <;> exact h
theorem SlotOk.un {i : Nat} {o : Option (Option V)} {s : Slot} {F1 : Hp} (h : SlotOk T (Z.at F1) F H i o s) : SlotOk T Z F H i o s := by
  cases s <;> exact h
theorem Ok.at0 (ok : Ok T Z Γ F H σ) : Ok T (Z.at F) Γ F H σ :=
  ⟨⟨ok.hv.b, Ex.refl F, ok.hv.f, ok.hv.dom, fun a h => .inl h⟩, ok.len, fun i s e => (ok.at' i s e).at, ok.sep⟩
theorem Hv.un (h : Hv (Z.at F0) F H) (h0 : Hv Z F0 H0) : Hv Z F H :=
  ⟨h.b, h0.f0.trans h.f0, h.f, h.dom, fun a q => by
    rcases h.new a q with z | z
    · exact h0.new a z
    · exact .inr z⟩
theorem Ok.un (ok : Ok T (Z.at F0) Γ F H σ) (h0 : Hv Z F0 H0) : Ok T Z Γ F H σ :=
  ⟨ok.hv.un h0, ok.len, fun i s e => (ok.at' i s e).un, ok.sep⟩
theorem RetOk.un {d : D} {ms : List (Nat × D)} {v : V} (r : RetOk T (Z.at F0) d ms v F H) (h0 : Hv Z F0 H0) : RetOk T Z d ms v F H := ⟨r.hv.un h0, r.rep, r.mus⟩
end
section
variable {ω α β γ : Type} {T : Th} {Γ Γ' : Ctx} {md ma mb : Md} {te ta tb : TE} {tc : TT} {t u : TS} {g : TG} {wi : TI} {P : Base → Ends → ω → Prop} {me : Option D} {mc : β → Option Bool} {i j k l : Nat}

/-- the engine of both loops -/
theorem for_go {ι : Type} {Γl : β → Ctx} {Γl' : γ → Ctx} {f : β → ι → Option (Out β β)} {J : It} {ds : List ι} {Z : Base} {F0 H0 : Hp} {E : Ends} {σ : L2.St} (h0 : Hv Z F0 H0)
    (go : ∀ i F H, i < ds.length → Ex F0 F → Ex F H → Ex Z.B H → J.go i H) (stop : ∀ F H, Ex F0 F → Ex F H → Ex Z.B H → J.stop ds.length H)
    (turn : ∀ (i : Nat) F H σ b d, ds[i]? = some d → Ok T (Z.at F0) (Γl b) F H σ → ∀ x H', J.yld i H x H' → ∀ o, f b d = some o → ∀ E' : Ends, Post T (Z.at F0) Γl Γl E' o → g x σ H' fun σ2 H2 => t E' σ2 H2)
    {b0 : β} {o : Out β γ} (ho : loopO f ds b0 = some o) (ok : Ok T (Z.at F0) (Γl b0) F0 H0 σ) (p : Post T Z Γl Γl' E o) :
    ∃ W : Nat → Nat → L2.St → Hp → Prop, (∃ m, W 0 m σ H0) ∧ ∀ i m σ H, W i m σ H →
      (J.stop i H ∧ E.nx σ H) ∨ (J.go i H ∧ ∃ N : L2.St → Hp → Prop, (∀ σ' H', N σ' H' → ∃ m', m' < m ∧ W (i + 1) m' σ' H') ∧ ∀ x H', J.yld i H x H' → g x σ H' fun σ2 H2 => t { E with nx := N, ct := N, bk := E.nx } σ2 H2) := by
  refine ⟨fun i m σ H => m = ds.length - i ∧ i ≤ ds.length ∧ ∃ b F, Ok T (Z.at F0) (Γl b) F H σ ∧ loopO f (ds.drop i) b = some o, ⟨ds.length, by simp, Nat.zero_le _, b0, F0, ok, by simpa using ho⟩, ?_⟩
  rintro i m σ H ⟨rfl, hi, b, F, okb, hb⟩
  by_cases hlt : i < ds.length
  · refine .inr ⟨go i F H hlt okb.hv.f0 okb.hv.f okb.hv.b, fun σ' H' => ∃ b' F', Ok T (Z.at F0) (Γl b') F' H' σ' ∧ loopO f (ds.drop (i + 1)) b' = some o, fun σ' H' ⟨b', F', a, c⟩ => ⟨ds.length - (i + 1), by omega, rfl, hlt, b', F', a, c⟩, fun x H' y => ?_⟩
    have hd : ds.drop i = ds[i] :: ds.drop (i + 1) := List.drop_eq_getElem_cons hlt
    rw [hd, loopO_cons] at hb
    obtain ⟨o1, e1, e2⟩ := bind_inv hb
    refine turn i F H σ b ds[i] (by simp [hlt]) okb x H' y o1 e1 _ ?_
    cases o1 with
    | nx b' => exact fun F2 H2 σ2 ok2 => ⟨b', F2, ok2, e2⟩
    | ct b' => exact fun F2 H2 σ2 ok2 => ⟨b', F2, ok2, e2⟩
    | bk b' => cases e2; exact fun F2 H2 σ2 ok2 => p F2 H2 σ2 (ok2.un h0)
    | rt d ms => cases e2; exact fun v F2 H2 r => p v F2 H2 (r.un h0)
  · have e : i = ds.length := by omega
    subst e
    rw [List.drop_length] at hb
    cases hb
    exact .inl ⟨stop F H okb.hv.f0 okb.hv.f okb.hv.b, p F H σ (okb.un h0)⟩
/-- for x in ..: .., which may be left -/
theorem bt_for {Γl : β → Ctx} {Γl' : γ → Ctx} {f : β → D → Option (Out β β)} {b0 : β} {mi : Option (List D)} (hi : EvI T wi Γ md mi) (h0 : Le Γ (Γl b0)) (hb : ∀ b d, Bg T g t (Γl b) md d (f b d) (PT T Γl Γl)) :
    B T (tFor wi g t) Γ (mi.bind fun ds => loopO f ds b0) (PT T Γl Γl') := fun Z F H σ ok o ho E p => by
  obtain ⟨ds, e1, e2⟩ := bind_inv ho
  refine hi Z F H σ ok ds e1 _ fun J F2 H2 gr wk => ?_
  have ok2 := ok.grow gr
  refine for_go ok2.hv wk.go wk.stop (fun i F3 H3 σ3 b d hd ok3 x H4 y o1 ho1 E' p' => ?_) e2 (ok2.le h0).at0 p
  have hi : i < ds.length := (List.getElem?_eq_some_iff.mp hd).1
  obtain ⟨F4, g4, r4⟩ := wk.yld i F3 H3 x H4 hi ok3.hv.f0 ok3.hv.f ok3.hv.b y
  have r5 := r4 d hd
  refine hb b d (Z.at F2) F4 H4 σ3 x (ok3.grow g4) ?_ o1 ho1 E' p' _ fun _ _ z => z
  cases md <;> exact r5
theorem bt_for2 {Γl : β → Ctx} {Γl' : γ → Ctx} {f : β → D × D → Option (Out β β)} {b0 : β} {mi : Option (List (D × D))} (hi : EvI2 T wi Γ ma mb mi) (h0 : Le Γ (Γl b0)) (hb : ∀ b d e, Bg2 T g t (Γl b) ma mb d e (f b (d, e)) (PT T Γl Γl)) :
    B T (tFor wi g t) Γ (mi.bind fun ds => loopO f ds b0) (PT T Γl Γl') := fun Z F H σ ok o ho E p => by
  obtain ⟨ds, e1, e2⟩ := bind_inv ho
  refine hi Z F H σ ok ds e1 _ fun J F2 H2 gr wk => ?_
  have ok2 := ok.grow gr
  refine for_go ok2.hv wk.go wk.stop (fun i F3 H3 σ3 b d hd ok3 x H4 y o1 ho1 E' p' => ?_) e2 (ok2.le h0).at0 p
  have hi : i < ds.length := (List.getElem?_eq_some_iff.mp hd).1
  obtain ⟨F4, g4, q, v, w, rfl, hq, r4⟩ := wk.yld i F3 H3 x H4 hi ok3.hv.f0 ok3.hv.f ok3.hv.b y
  obtain ⟨r5, r6⟩ := r4 d hd
  refine hb b d.1 d.2 (Z.at F2) F4 H4 σ3 q v w (ok3.grow g4) hq ?_ ?_ o1 ho1 E' p' _ fun _ _ z => z
  · cases ma <;> exact r5
  · cases mb <;> exact r6
/-- a loop without an exit -/
def nxO {β γ : Type} (a : Option β) : Option (Out β γ) := a.map Out.nx
theorem loopO_fold {ι : Type} (f : β → ι → Option β) : ∀ (ds : List ι) (b : β), loopO (γ := γ) (fun b d => nxO (f b d)) ds b = nxO (foldO f ds b)
  | [], b => rfl
  | d :: ds, b => by
    rw [loopO_cons, foldO_cons]
    cases h : f b d with
    | none => rfl
    | some b' => exact loopO_fold f ds b'
theorem b_nxO {Γn : α → Ctx} {Γl : β → Ctx} {m : Option α} (h : B T t Γ m (PP T Γn)) : B T t Γ (nxO m) (PT T Γn Γl) := fun Z F H σ ok o ho E p => by
  cases m with
  | none => cases ho
  | some a =>
    cases ho
    exact h Z F H σ ok a rfl E p
theorem b_of_nxO {Γn : α → Ctx} {Γl : β → Ctx} {m : Option α} (h : B T t Γ (nxO m) (PT T Γn Γl)) : B T t Γ m (PP T Γn) := fun Z F H σ ok a ha E p => by
  subst ha
  exact h Z F H σ ok (.nx a) rfl E p
theorem bp_for {Γl : β → Ctx} {f : β → D → Option β} {b0 : β} {mi : Option (List D)} (hi : EvI T wi Γ md mi) (h0 : Le Γ (Γl b0)) (hb : ∀ b d, Bg T g t (Γl b) md d (f b d) (PP T Γl)) :
    B T (tFor wi g t) Γ (mi.bind fun ds => foldO f ds b0) (PP T Γl) := by
  refine b_of_nxO (Γl := fun _ : Unit => []) ?_
  have h := bt_for (Γl' := fun _ : Unit => []) (f := fun b d => nxO (f b d)) hi h0 (fun b d => fun Z F H σ x ok r o ho E p Q qq => by
    cases q : f b d with
    | none => rw [q] at ho; cases ho
    | some b' =>
      rw [q] at ho; cases ho
      exact hb b d Z F H σ x ok r b' q E p Q qq)
  have e : (mi.bind fun ds => loopO (γ := Unit) (fun b d => nxO (f b d)) ds b0) = nxO (mi.bind fun ds => foldO f ds b0) := by
    cases mi with
    | none => rfl
    | some ds => exact loopO_fold f ds b0
  rw [e] at h
  exact h
theorem bp_for2 {Γl : β → Ctx} {f : β → D × D → Option β} {b0 : β} {mi : Option (List (D × D))} (hi : EvI2 T wi Γ ma mb mi) (h0 : Le Γ (Γl b0)) (hb : ∀ b d e, Bg2 T g t (Γl b) ma mb d e (f b (d, e)) (PP T Γl)) :
    B T (tFor wi g t) Γ (mi.bind fun ds => foldO f ds b0) (PP T Γl) := by
  refine b_of_nxO (Γl := fun _ : Unit => []) ?_
  have h := bt_for2 (Γl' := fun _ : Unit => []) (f := fun b d => nxO (f b d)) hi h0 (fun b d e => fun Z F H σ p' v w ok hq r1 r2 o ho E p Q qq => by
    cases q : f b (d, e) with
    | none => rw [q] at ho; cases ho
    | some b' =>
      rw [q] at ho; cases ho
      exact hb b d e Z F H σ p' v w ok hq r1 r2 b' q E p Q qq)
  have e : (mi.bind fun ds => loopO (γ := Unit) (fun b d => nxO (f b d)) ds b0) = nxO (mi.bind fun ds => foldO f ds b0) := by
    cases mi with
    | none => rfl
    | some ds => exact loopO_fold f ds b0
  rw [e] at h
  exact h
/-- while -/
theorem bt_while {Γl : β → Ctx} {Γl' : γ → Ctx} {f : β → Option (Out β β)} {b0 : β} (h0 : Le Γ (Γl b0)) (hc : ∀ b, EvT T tc (Γl b) (mc b)) (hb : ∀ b, B T t (Γl b) (f b) (PT T Γl Γl)) :
    B T (tWhile tc t) Γ (whileO mc f b0) (PT T Γl Γl') := fun Z F H σ ok o ho E p => by
  obtain ⟨n, hn⟩ := whileO_inv ho
  refine ⟨fun m σ H => ∃ b F, Ok T Z (Γl b) F H σ ∧ whileN mc f m b = some o, ⟨n, b0, F, ok.le h0, hn⟩, ?_⟩
  rintro m σ H ⟨b, F, okb, hm⟩
  cases m with
  | zero => cases hm
  | succ m =>
    unfold whileN at hm
    obtain ⟨k, e1, e2⟩ := bind_inv hm
    refine hc b Z F H σ okb k e1 _ fun F2 H2 gr => ?_
    cases k with
    | false =>
      cases e2
      exact p F2 H2 σ (okb.grow gr)
    | true =>
      obtain ⟨o1, e3, e4⟩ := bind_inv (show (f b).bind _ = some o from e2)
      refine ⟨fun σ' H' => ∃ b' F', Ok T Z (Γl b') F' H' σ' ∧ whileN mc f m b' = some o, fun σ' H' ⟨b', F', a, c⟩ => ⟨m, Nat.lt_succ_self m, b', F', a, c⟩, ?_⟩
      refine hb b Z F2 H2 σ (okb.grow gr) o1 e3 _ ?_
      cases o1 with
      | nx b' => exact fun F3 H3 σ3 ok3 => ⟨b', F3, ok3, e4⟩
      | ct b' => exact fun F3 H3 σ3 ok3 => ⟨b', F3, ok3, e4⟩
      | bk b' => cases e4; exact p
      | rt d ms => cases e4; exact p
/-! pairs' targets -/
theorem bg2_nn {d e : D} {m : Option ω} (h : B T t ((Γ.set i (slotOf ma d)).set j (slotOf mb e)) m P) : Bg2 T (gTup T.K 2 (gCons (gName i) (gCons (gName j) gNil))) t Γ ma mb d e m P := fun Z F H σ p v w ok hq r1 r2 o ho E pp Q qq =>
  ⟨p, _, rfl, hq, rfl, v, _, rfl, w, _, rfl, rfl, qq _ _ (h Z F H _ ((ok.setMd (i := i) r1).setMd (i := j) r2) o ho E pp)⟩
/-- the second one is a pattern of its own; the first one; both -/
theorem bg2_np {g2 : TG} {d e : D} {m : Option ω} (h : Bg T g2 t (Γ.set i (slotOf ma d)) mb e m P) : Bg2 T (gTup T.K 2 (gCons (gName i) (gCons g2 gNil))) t Γ ma mb d e m P := fun Z F H σ p v w ok hq r1 r2 o ho E pp Q qq =>
  ⟨p, _, rfl, hq, rfl, v, _, rfl, w, _, rfl, h Z F H _ w (ok.setMd (i := i) r1) r2 o ho E pp _ fun σ2 H2 z => ⟨rfl, qq _ _ z⟩⟩
theorem bg2_2n {d e : D} {mk : D → D → Option ω} (h : ∀ a b, B T t (((Γ.set i (slotOf ma a)).set j (slotOf ma b)).set k (slotOf mb e)) (mk a b) P) :
    Bg2 T (gTup T.K 2 (gCons (gTup T.K 2 (gCons (gName i) (gCons (gName j) gNil))) (gCons (gName k) gNil))) t Γ ma mb d e (un2 d mk) P := fun Z F H σ p v w ok hq r1 r2 o ho E pp Q qq => by
  obtain ⟨a, b, rfl, e1⟩ := un2_inv ho
  obtain ⟨q, vs, rfl, hq1, rr⟩ := rep_tup_inv r1
  obtain ⟨va, s1, rfl, ra, rr⟩ := rr.uncons
  obtain ⟨vb, s2, rfl, rb, rr⟩ := rr.uncons
  simp only [Reps] at rr; subst rr
  refine ⟨p, _, rfl, hq, rfl, .ref q, _, rfl, q, _, rfl, SqT.of (sel_in ok.hv.f ok.hv.b _ _ hq1), rfl, va, _, rfl, vb, _, rfl, rfl, w, _, rfl, rfl, ?_⟩
  have ok2 := (ok.setMd (i := i) ra).setMd (i := j) rb
  exact qq _ _ (h a b Z F H _ (ok2.setMd (i := k) r2) o e1 E pp)
theorem bg2_3n {d e : D} {mk : D → D → D → Option ω} (h : ∀ a b c, B T t ((((Γ.set i (slotOf ma a)).set j (slotOf ma b)).set k (slotOf ma c)).set l (slotOf mb e)) (mk a b c) P) :
    Bg2 T (gTup T.K 2 (gCons (gTup T.K 3 (gCons (gName i) (gCons (gName j) (gCons (gName k) gNil)))) (gCons (gName l) gNil))) t Γ ma mb d e (un3 d mk) P := fun Z F H σ p v w ok hq r1 r2 o ho E pp Q qq => by
  obtain ⟨a, b, c, rfl, e1⟩ := un3_inv ho
  obtain ⟨q, vs, rfl, hq1, rr⟩ := rep_tup_inv r1
  obtain ⟨va, s1, rfl, ra, rr⟩ := rr.uncons
  obtain ⟨vb, s2, rfl, rb, rr⟩ := rr.uncons
  obtain ⟨vc, s3, rfl, rc, rr⟩ := rr.uncons
  simp only [Reps] at rr; subst rr
  refine ⟨p, _, rfl, hq, rfl, .ref q, _, rfl, q, _, rfl, SqT.of (sel_in ok.hv.f ok.hv.b _ _ hq1), rfl, va, _, rfl, vb, _, rfl, vc, _, rfl, rfl, w, _, rfl, rfl, ?_⟩
  have ok2 := ((ok.setMd (i := i) ra).setMd (i := j) rb).setMd (i := k) rc
  exact qq _ _ (h a b c Z F H _ (ok2.setMd (i := l) r2) o e1 E pp)
theorem bg2_32 {n : Nat} {d e : D} {mk : D → D → D → D → D → Option ω} (h : ∀ a b c x y, B T t (((((Γ.set i (slotOf ma a)).set j (slotOf ma b)).set k (slotOf ma c)).set l (slotOf mb x)).set n (slotOf mb y)) (mk a b c x y) P) :
    Bg2 T (gTup T.K 2 (gCons (gTup T.K 3 (gCons (gName i) (gCons (gName j) (gCons (gName k) gNil)))) (gCons (gTup T.K 2 (gCons (gName l) (gCons (gName n) gNil))) gNil))) t Γ ma mb d e (un3 d fun a b c => un2 e fun x y => mk a b c x y) P := fun Z F H σ p v w ok hq r1 r2 o ho E pp Q qq => by
  obtain ⟨a, b, c, rfl, e1⟩ := un3_inv ho
  obtain ⟨x, y, rfl, e2⟩ := un2_inv e1
  obtain ⟨q, vs, rfl, hq1, rr⟩ := rep_tup_inv r1
  obtain ⟨va, s1, rfl, ra, rr⟩ := rr.uncons
  obtain ⟨vb, s2, rfl, rb, rr⟩ := rr.uncons
  obtain ⟨vc, s3, rfl, rc, rr⟩ := rr.uncons
  simp only [Reps] at rr; subst rr
  obtain ⟨q', vs', rfl, hq2, rr⟩ := rep_tup_inv r2
  obtain ⟨vx, s4, rfl, rx, rr⟩ := rr.uncons
  obtain ⟨vy, s5, rfl, ry, rr⟩ := rr.uncons
  simp only [Reps] at rr; subst rr
  refine ⟨p, _, rfl, hq, rfl, .ref q, _, rfl, q, _, rfl, SqT.of (sel_in ok.hv.f ok.hv.b _ _ hq1), rfl, va, _, rfl, vb, _, rfl, vc, _, rfl, rfl, .ref q', _, rfl, q', _, rfl, SqT.of (sel_in ok.hv.f ok.hv.b _ _ hq2), rfl, vx, _, rfl, vy, _, rfl, rfl, rfl, ?_⟩
  have ok2 := (((ok.setMd (i := i) ra).setMd (i := j) rb).setMd (i := k) rc).setMd (i := l) rx
  exact qq _ _ (h a b c x y Z F H _ (ok2.setMd (i := n) ry) o e2 E pp)
end
end Mi
/-! walks over lists and tuples alike: x in v, enumerate(v), zip(v, w) -/
namespace PySem
open Sem (wp)
open AutoSeq1 (wpAny_loadPart')
theorem mi_enum_new1 {v : Value} {o : Obj} {H : Heap → Prop} (B : Begins v o H) :
    Meets (Builtin.«enumerate.__new__» ⟨[.type "enumerate", v], []⟩) (fun _ R s => H s.heap ∧
      R (.ok (.ret (.ref (s.heap.push o).objs.size))) { s with heap := (s.heap.push o).push { cls := .type "enumerate", data := .fields #[.none, .bool false, .ref s.heap.objs.size, rawInt 0, .none, .none] } }) :=
  .of_wp fun prog w A R s h => by
    obtain ⟨hp, g, d, tk, os⟩ := s; obtain ⟨h1, h⟩ := h
    have hsub := sub_enumerate
    have q1 : ∀ {A' : Around} {E : Value → Shared → Prop} {Q : Value → Shared → Prop}, Q (.ref hp.objs.size) ⟨hp.push o, g, d, tk, os⟩ → wpAny (model prog w) A' (pyIter v) Q E ⟨hp, g, d, tk, os⟩ :=
      fun q => B.iter prog w _ _ ⟨hp, g, d, tk, os⟩ _ h1 q
    wp_walk using q1
    refine wpAny_stack_any fun st => wpAny_pure ?_
    split
    · rename_i c _ _ _ _ _
      cases (c == Value.type "enumerate")
      · wp_walk using q1
        exact ⟨_, rfl, h⟩
      · wp_walk using q1
        exact ⟨_, rfl, h⟩
    · wp_walk using q1
      exact ⟨_, rfl, h⟩
section
variable {prog : Program} {w : World} {A : Around} {E : Value → Shared → Prop} {s : Shared}
theorem mi_enum_begins {v : Value} {o : Obj} {H : Heap → Prop} {Q : Value → Shared → Prop} (B : Begins v o H) (h1 : H s.heap)
    (h : ∀ h', IsEnum h' (s.heap.objs.size + 1) s.heap.objs.size 0 .none → h'.get? s.heap.objs.size = some o → h'.objs.size = s.heap.objs.size + 2 →
      (∀ b o, s.heap.get? b = some o → h'.get? b = some o) → Q (.ref (s.heap.objs.size + 1)) { s with heap := h' }) :
    wpAny (model prog w) A (call (.type "enumerate") [v]) Q E s := by
  refine callType_new F.called_enumerate (by decide) (F.typeCall_enumerate_1 _) (F.newCall_enumerate_1 _) (fun obj => F.args_object_init_2 obj _) F.entry_enumerate_new
    (mi_enum_new1 B) ⟨h1, ?_⟩
  have hz : (s.heap.push o).objs.size = s.heap.objs.size + 1 := Heap.size_push ..
  show _ ∧ _
  rw [hz]
  have he : IsEnum ((s.heap.push o).push { cls := .type "enumerate", data := .fields #[.none, .bool false, .ref s.heap.objs.size, rawInt 0, .none, .none] }) (s.heap.objs.size + 1) s.heap.objs.size 0 .none := by
    have := Heap.get?_push_size (s.heap.push o) (o := { cls := .type "enumerate", data := .fields #[.none, .bool false, .ref s.heap.objs.size, rawInt 0, .none, .none] }) rfl
    rw [hz] at this; exact this
  refine ⟨⟨_, he, rfl⟩, h _ he (Heap.get?_push_of_some _ (Heap.get?_push_size _ B.free)) (by rw [Heap.size_push, hz]) fun b o x => Heap.get?_push_of_some _ (Heap.get?_push_of_some _ x)⟩
end
end PySem

namespace Mi
open PySem L2
open PyProof.Rows
open Evl (Ex ex_t ex_l ex_rd fresh_back)
/-- a list (true) or a tuple (false) that is read -/
def SqK (kd : Bool) (K : PySem.W.Frag) (H : Hp) (a : Addr) (xs : List V) : Prop := if kd = true then SqL K H a xs else SqT K H a xs
def itK (kd : Bool) (h : Heap) (it a : Addr) (i : Nat) : Prop := if kd = true then h.IsListIter it a i else h.IsTupleIter it a i
def sqK (kd : Bool) (h : Heap) (a : Addr) (its : Array Value) : Prop := if kd = true then h.IsList a its else h.IsTuple a its
def itO (kd : Bool) (a : Addr) : Obj := if kd = true then { cls := .type "list_iterator", data := .fields #[.ref a, .int 0 0] } else { cls := .type "tuple_iterator", data := .fields #[.ref a, .int 0 0] }
theorem itK_obj {kd : Bool} {h : Heap} {it a : Addr} {i : Nat} (x : itK kd h it a i) : ∃ o, h.get? it = some o ∧ ∀ v, o.data ≠ .cell v := by
  cases kd with
  | true => obtain ⟨o, e, c, d⟩ := (show h.IsListIter it a i from x); exact ⟨o, e, fun v q => by rw [d] at q; cases q⟩
  | false => obtain ⟨o, e, c, d⟩ := (show h.IsTupleIter it a i from x); exact ⟨o, e, fun v q => by rw [d] at q; cases q⟩
theorem itK_at {kd : Bool} {h h' : Heap} {it a : Addr} {i : Nat} (x : itK kd h it a i) (k : ∀ o, h.get? it = some o → h'.get? it = some o) : itK kd h' it a i := by
  cases kd with
  | true => exact Heap.IsListIter.at (show h.IsListIter it a i from x) k
  | false => exact Heap.IsTupleIter.at (show h.IsTupleIter it a i from x) k
theorem itK_new {kd : Bool} {h : Heap} {it a : Addr} (e : h.get? it = some (itO kd a)) : itK kd h it a 0 := by
  cases kd with
  | true => exact ⟨_, e, rfl, rfl⟩
  | false => exact ⟨_, e, rfl, rfl⟩
theorem itO_free {kd : Bool} {a : Addr} : (itO kd a).isFreed = false := by cases kd <;> rfl
section
variable {X : Cx} {pins : List (Addr × Obj)} {σ : L2.St} {H : Hp} {s : Shared} {a b : Addr} {kd ka kb : Bool}
theorem sqK_of (I : Inv X pins σ H s) {xs : List V} (h : SqK kd X.K H a xs) : ∃ its : List Value, Vals xs its ∧ sqK kd s.heap a its.toArray := by
  cases kd with
  | true => obtain ⟨its, rv, p, _⟩ := I.list (show SqL X.K H a xs from h); exact ⟨its, rv, p.isList⟩
  | false => obtain ⟨its, rv, p, _⟩ := I.tuple (show SqT X.K H a xs from h); exact ⟨its, rv, (show s.heap.IsTuple a its.toArray from p)⟩
theorem sqK_inj (I : Inv X pins σ H s) {xs ys : List V} (h : SqK kd X.K H a xs) (h' : SqK kd X.K H a ys) : xs = ys := by
  cases kd with
  | true => exact I.list_inj (show SqL X.K H a xs from h) h'
  | false => exact I.tuple_inj (show SqT X.K H a xs from h) h'
theorem sqK_lt {h : Heap} {its : Array Value} (x : sqK kd h a its) : a < h.objs.size := by
  cases kd with
  | true => obtain ⟨o, e, _⟩ := (show h.IsList a its from x); exact Heap.lt_size e
  | false => obtain ⟨o, e, _⟩ := (show h.IsTuple a its from x); exact Heap.lt_size e
theorem drawsK {prog : Program} {w : World} {A : Around} (hh : A.handled = none) (it l : Addr) (hne : l ≠ it) (items : Array Value) :
    Draws prog w A it [it, l] items.size (fun i v => items[i]? = some v) (fun i h => itK kd h it l i ∧ sqK kd h l items) := by
  cases kd with
  | true => exact Draws.list hh it l hne items
  | false => exact Draws.tuple hh it l hne items
theorem beginsK (l : Addr) (items : Array Value) : Begins (.ref l) (itO kd l) fun h => sqK kd h l items := by
  cases kd with
  | true => exact begins_list l items
  | false => exact begins_tuple l items
def IteK (kd : Bool) (K : PySem.W.Frag) (a : Addr) : It :=
  ⟨fun i H => ∃ (xs : List V) (x : V), SqK kd K H a xs ∧ xs[i]? = some x, fun i H v H' => ∃ T x, v = .ref T ∧ H T = none ∧ H' = upd H T (.tup [.int (i : Nat), x]) ∧ ∀ xs, SqK kd K H a xs → xs[i]? = some x, fun i H => ∃ xs : List V, SqK kd K H a xs ∧ xs.length = i⟩
theorem turn_enumK {P : Program} {w : World} {K : PySem.W.Frag} {elts : List Expr} {kk : Nat} {tpos : Pos} (a e it : Addr) (hae : a ≠ e) (hai : a ≠ it) :
    Turn P w K (.Tuple elts kk tpos) (IteK kd K a) [e, it] e (fun i h => (∃ old, IsEnum h e it ((i : Nat) : Int) old) ∧ itK kd h it a i ∧ e ≠ it) where
  mem := by simp
  obj := fun i h st b hb => by
    obtain ⟨⟨old, he⟩, hi, _⟩ := st
    have e' : b = e ∨ b = it := by simpa using hb
    rcases e' with z | z
    · rw [z]; exact ⟨_, he, fun v q => nomatch q⟩
    · rw [z]; exact itK_obj hi
  keep := fun i h h' st k => let ⟨⟨old, he⟩, hi, hne⟩ := st; ⟨⟨old, k e (by simp) _ he⟩, itK_at hi fun o q => k it (by simp) o q, hne⟩
  item := by
    intro X hP hw hK hc i pins s σ H E I hf st hg
    subst hP hw hK
    obtain ⟨⟨old, he⟩, hit, hne⟩ := st
    obtain ⟨xs, x, hq, hx⟩ := hg
    obtain ⟨its, rv, p⟩ := sqK_of I hq
    obtain ⟨u, hu, ru⟩ := rv.get hx
    have hel : e < s.heap.objs.size := Heap.lt_size he
    have hil : it < s.heap.objs.size := by obtain ⟨_, q, _⟩ := itK_obj hit; exact Heap.lt_size q
    have hlt : i < its.toArray.size := by
      have := (List.getElem?_eq_some_iff.mp hu).1
      simpa using this
    have hh : X.A.in1.handled = none := I.ok.hd hc
    refine wpAny_pyNext_enum_itemD (drawsK (kd := kd) hh it a hai its.toArray) he ⟨hit, p⟩ hlt hne (by simp; exact ⟨hne, hae.symm⟩) fun y h' tk hy ho st' hT hsz hk => ?_
    have ey : y = u := by
      have hy' : its.toArray[i]? = some y := hy
      simp only [List.getElem?_toArray] at hy'
      rw [hu] at hy'
      exact (Option.some.inj hy').symm
    subst ey
    refine ⟨_, rfl, wpAny_letOwnedTupleGo_enum (s := { s with heap := h', toks := tk + 1 }) ho fun h'' he' sb => ?_⟩
    have hT2 : h''.get? s.heap.objs.size = some { cls := .type "tuple", data := .seq #[.int i tk, y] } := (sb.2 _ (Nat.ne_of_gt hel)).trans hT
    have new : ObjOk X.prog X.w (upd H s.heap.objs.size (.tup [.int (i : Nat), x])) h'' s.heap.objs.size (.tup [.int (i : Nat), x]) :=
      ⟨by show 2 ≤ sizeLine; decide, [.int i tk, y], .cons ⟨_, rfl⟩ (.cons ru .nil), ⟨_, hT2, rfl, _, rfl⟩⟩
    have I1 : Inv X pins σ (upd H s.heap.objs.size (.tup [.int (i : Nat), x])) { s with heap := h'', toks := tk + 1 } :=
      I.turnedNew (ch := [e, it]) (fun b ob hb q => (sb.2 b (fun z => hb (by simp [z]))).trans (hk b ob (fun z => hb (by simp [z])) (fun z => hb (by simp [z])) q)) hf (Nat.le_refl _) new
    refine ⟨.ref s.heap.objs.size, _, I1, rfl, ⟨_, x, rfl, I.hok.fresh (Nat.le_refl _), rfl, fun ys hy => by rw [sqK_inj I hy hq]; exact hx⟩, ⟨⟨y, ?_⟩, itK_at st'.1 fun o q => (sb.2 it (Ne.symm hne)).trans q, hne⟩, fun b hb => ?_⟩
    · have e1 : ((i + 1 : Nat) : Int) = (i : Int) + 1 := by omega
      rw [e1]; exact he'
    · have hb' : b < s.heap.objs.size := by
        have e' : b = e ∨ b = it := by simpa using hb
        rcases e' with z | z
        · rw [z]; exact hel
        · rw [z]; exact hil
      rw [upd_ne (Nat.ne_of_lt hb')]
      exact (hf b hb).1
  done := by
    intro X hP hw hK hc i pins s σ H E I hf st hg
    subst hP hw hK
    obtain ⟨⟨old, he⟩, hit, hne⟩ := st
    obtain ⟨xs, hq, hx⟩ := hg
    obtain ⟨its, rv, p⟩ := sqK_of I hq
    obtain ⟨f0, f1, f2, f3, f4, f5⟩ := hf it (by simp)
    have hl := rv.length
    have hh : X.A.in1.handled = none := I.ok.hd hc
    have hsz : its.toArray.size = i := by simp; omega
    exact wpAny_pyNext_enum_endD (drawsK (kd := kd) hh it a hai its.toArray) he ⟨by rw [hsz]; exact hit, p⟩ fun h' eb => ⟨rfl, I.turned (t' := s.toks) (fun b o hb q => eb b o hb q) f0 f1 f3 f4 f5⟩
  self := fun A i s Q E st h => let ⟨⟨_, he⟩, _⟩ := st; wpAny_pyIter_enum he h
/-- enumerate(v), v a list or a tuple -/
def iEnumK (K : PySem.W.Frag) (ta : TA) : TI := fun σ H R => ta σ H fun vs H1 => ∃ kd a xs, vs = [.ref a] ∧ SqK kd K H1 a xs ∧ R (IteK kd K a) H1
theorem pi_enumK {X : Cx} {e : Expr} {ta : TA} {p pos tpos : Pos} {elts : List Expr} {kk : Nat} (hg : Gl X "enumerate") (hm : X.mg "enumerate" = none) (ha : PA X [e] ta) (hs : starEach [e] X.env = [(false, eval e X.env)] := by rfl) :
    PI X (.Tuple elts kk tpos) (.Call (.Name "enumerate" p) [e] [] pos) (iEnumK X.K ta) := by
  refine ⟨fun pins s σ H R I h => ?_⟩
  refine Call_ (ld_blt I hg hm boot_enumerate (PyProof.Rows.callWith_type1 (thn (ha.run pos pins s σ H _ I h) fun us s1 ⟨vs, H1, I1, r1, q1⟩ => ?_) hs rfl))
  obtain ⟨kd, a, xs, ex, hq, q⟩ := q1
  subst ex
  cases r1 with
  | cons r rr =>
    cases rr
    cases r
    obtain ⟨its, rv, p'⟩ := sqK_of I1 hq
    have la := sqK_lt p'
    refine mi_enum_begins (beginsK a its.toArray) p' fun h' he hit hsz hk => wpAny_pyIter_enum he ?_
    have I2 : Inv X pins σ H1 { s1 with heap := h' } := I1.kept (t' := s1.toks) hk
    refine ⟨s1.heap.objs.size + 1, [s1.heap.objs.size + 1, s1.heap.objs.size], _, _, H1, rfl, I2, turn_enumK a (s1.heap.objs.size + 1) s1.heap.objs.size (Nat.ne_of_lt (Nat.lt_succ_of_lt la)) (Nat.ne_of_lt la), ⟨⟨.none, he⟩, itK_new hit, Nat.succ_ne_self _⟩, fun b hb => ?_, q⟩
    have e' : b = s1.heap.objs.size + 1 ∨ b = s1.heap.objs.size := by simpa using hb
    have hle : s1.heap.objs.size ≤ b := by
      rcases e' with z | z
      · rw [z]; exact Nat.le_add_right _ _
      · rw [z]; exact Nat.le_refl _
    exact I1.fpOk hle (I1.hok.fresh hle)
end
end Mi
/-! zip over lists and tuples; walks as Mi sees them -/
namespace Mi
open PySem L2
open PyProof.Rows
open Evl (Ex ex_t ex_l ex_rd fresh_back)
section
variable {ka kb kd : Bool}
def ItzK (ka kb : Bool) (K : PySem.W.Frag) (a b : Addr) : It :=
  ⟨fun i H => ∃ (xs ys : List V) (x y : V), SqK ka K H a xs ∧ SqK kb K H b ys ∧ xs[i]? = some x ∧ ys[i]? = some y,
    fun i H v H' => ∃ T x y, v = .ref T ∧ H T = none ∧ H' = upd H T (.tup [x, y]) ∧ (∀ xs, SqK ka K H a xs → xs[i]? = some x) ∧ ∀ ys, SqK kb K H b ys → ys[i]? = some y,
    fun i H => ∃ xs ys : List V, SqK ka K H a xs ∧ SqK kb K H b ys ∧ i ≤ xs.length ∧ i ≤ ys.length ∧ (i = xs.length ∨ i = ys.length)⟩
theorem turn_zipK {P : Program} {w : World} {K : PySem.W.Frag} {elts : List Expr} {kk : Nat} {tpos : Pos} {a b z TI TO i1 i2 : Addr} (S : ZipSep2 z TI TO i1 i2 [i1, a] [i2, b]) (ha1 : a ≠ i1) (hb2 : b ≠ i2) :
    Turn P w K (.Tuple elts kk tpos) (ItzK ka kb K a b) [z, TI, TO, i1, i2] z (fun i h => IsZip h z TI TO .none ∧ IsTupOf2 h TI (.ref i1) (.ref i2) ∧ (∃ x y, IsTupOf2 h TO x y) ∧ itK ka h i1 a i ∧ itK kb h i2 b i) where
  mem := by simp
  obj := fun i h st c hc => by
    obtain ⟨hz, hTI, ⟨x, y, hTO⟩, h1, h2⟩ := st
    have e' : c = z ∨ c = TI ∨ c = TO ∨ c = i1 ∨ c = i2 := by simpa using hc
    rcases e' with q | q | q | q | q
    · rw [q]; exact ⟨_, hz, fun v q => nomatch q⟩
    · rw [q]; exact ⟨_, hTI, fun v q => nomatch q⟩
    · rw [q]; exact ⟨_, hTO, fun v q => nomatch q⟩
    · rw [q]; exact itK_obj h1
    · rw [q]; exact itK_obj h2
  keep := fun i h h' st k => by
    obtain ⟨hz, hTI, ⟨x, y, hTO⟩, h1, h2⟩ := st
    exact ⟨k z (by simp) _ hz, k TI (by simp) _ hTI, ⟨x, y, k TO (by simp) _ hTO⟩, itK_at h1 fun o q => k i1 (by simp) o q, itK_at h2 fun o q => k i2 (by simp) o q⟩
  item := by
    intro X hP hw hK hc i pins s σ H E I hf st hg
    subst hP hw hK
    obtain ⟨hz, hTI, ⟨x0, y0, hTO⟩, h1, h2⟩ := st
    obtain ⟨xs, ys, x, y, hqx, hqy, hx, hy⟩ := hg
    obtain ⟨its, rv, p⟩ := sqK_of I hqx
    obtain ⟨its2, rv2, p2⟩ := sqK_of I hqy
    obtain ⟨u, hu, ru⟩ := rv.get hx
    obtain ⟨u2, hu2, ru2⟩ := rv2.get hy
    have hzl : z < s.heap.objs.size := Heap.lt_size hz
    have hh : X.A.in1.handled = none := I.ok.hd hc
    have lt1 : i < its.toArray.size := by
      have := (List.getElem?_eq_some_iff.mp hu).1
      simpa using this
    have lt2 : i < its2.toArray.size := by
      have := (List.getElem?_eq_some_iff.mp hu2).1
      simpa using this
    refine wpAny_pyNext_zipD2_item S (drawsK (kd := ka) hh i1 a ha1 its.toArray) (drawsK (kd := kb) hh i2 b hb2 its2.toArray) hz hTI hTO ⟨h1, p⟩ ⟨h2, p2⟩ lt1 lt2 fun v1 v2 h' tk e1 e2 z' TO' st1 st2 hT hsz hk => ?_
    have ev1 : v1 = u := by
      have hy' : its.toArray[i]? = some v1 := e1
      simp only [List.getElem?_toArray] at hy'
      rw [hu] at hy'
      exact (Option.some.inj hy').symm
    have ev2 : v2 = u2 := by
      have hy' : its2.toArray[i]? = some v2 := e2
      simp only [List.getElem?_toArray] at hy'
      rw [hu2] at hy'
      exact (Option.some.inj hy').symm
    subst ev1
    subst ev2
    refine ⟨_, rfl, wpAny_letOwnedTupleGo_zip (s := { s with heap := h', toks := tk }) z' fun h'' z'' sb => ?_⟩
    have hT2 : h''.get? s.heap.objs.size = some { cls := .type "tuple", data := .seq #[v1, v2] } := (sb.2 _ (Nat.ne_of_gt hzl)).trans hT
    have new : ObjOk X.prog X.w (upd H s.heap.objs.size (.tup [x, y])) h'' s.heap.objs.size (.tup [x, y]) :=
      ⟨by show 2 ≤ sizeLine; decide, [v1, v2], .cons ru (.cons ru2 .nil), ⟨_, hT2, rfl, _, rfl⟩⟩
    have I1 : Inv X pins σ (upd H s.heap.objs.size (.tup [x, y])) { s with heap := h'', toks := tk } :=
      I.turnedNew (t' := tk) (ch := [z, TI, TO, i1, i2]) (fun c o hb q => (sb.2 c (fun q' => hb (by simp [q']))).trans (hk c o (fun q' => hb (by simp [q'])) (fun q' => hb (by simp [q'])) (fun q' => hb (by simp [q'])) (fun q' => hb (by simp [q'])) q)) hf (Nat.le_refl _) new
    have n1 : i1 ≠ z := fun q => S.zf1 (by rw [← q]; exact S.mem1)
    have n2 : i2 ≠ z := fun q => S.zf2 (by rw [← q]; exact S.mem2)
    refine ⟨.ref s.heap.objs.size, _, I1, rfl, ⟨_, x, y, rfl, I.hok.fresh (Nat.le_refl _), rfl, fun l hl => by rw [sqK_inj I hl hqx]; exact hx, fun l hl => by rw [sqK_inj I hl hqy]; exact hy⟩, ⟨z'', ?_, ⟨v1, v2, ?_⟩, ?_, ?_⟩, fun c hcm => ?_⟩
    · exact (sb.2 _ S.TIz).trans (hk _ _ S.TIz S.TITO S.TIi1 S.TIi2 hTI)
    · exact (sb.2 _ S.TOz).trans TO'
    · exact itK_at st1.1 fun o q => (sb.2 _ n1).trans q
    · exact itK_at st2.1 fun o q => (sb.2 _ n2).trans q
    · have hlt : c < s.heap.objs.size := by
        have e' : c = z ∨ c = TI ∨ c = TO ∨ c = i1 ∨ c = i2 := by simpa using hcm
        rcases e' with q | q | q | q | q
        · rw [q]; exact hzl
        · rw [q]; exact Heap.lt_size hTI
        · rw [q]; exact Heap.lt_size hTO
        · rw [q]; obtain ⟨_, e1, _⟩ := itK_obj h1; exact Heap.lt_size e1
        · rw [q]; obtain ⟨_, e2, _⟩ := itK_obj h2; exact Heap.lt_size e2
      rw [upd_ne (Nat.ne_of_lt hlt)]
      exact (hf c hcm).1
  done := by
    intro X hP hw hK hc i pins s σ H E I hf st hg
    subst hP hw hK
    obtain ⟨hz, hTI, ⟨x0, y0, hTO⟩, h1, h2⟩ := st
    obtain ⟨xs, ys, hqx, hqy, le1, le2, hend⟩ := hg
    obtain ⟨its, rv, p⟩ := sqK_of I hqx
    obtain ⟨its2, rv2, p2⟩ := sqK_of I hqy
    have l1 := rv.length
    have l2 := rv2.length
    have hh : X.A.in1.handled = none := I.ok.hd hc
    exact wpAny_pyNext_zipD2_end S (drawsK (kd := ka) hh i1 a ha1 its.toArray) (drawsK (kd := kb) hh i2 b hb2 its2.toArray) hz hTI hTO ⟨h1, p⟩ ⟨h2, p2⟩ (by simp; omega) (by simp; omega) (by simp; omega) fun h' tk hk => ⟨rfl, I.turnedL (t' := tk) (ch := [z, TI, TO, i1, i2]) (fun c o hb q =>
      hk c o (fun q' => hb (by simp [q'])) (fun q' => hb (by simp [q'])) (fun q' => hb (by simp [q'])) (fun q' => hb (by simp [q'])) q) hf⟩
  self := fun A i s Q E st h => wpAny_pyIter_zip st.1 h
def iZipK (K : PySem.W.Frag) (ta : TA) : TI := fun σ H R => ta σ H fun vs H1 => ∃ ka kb a b xs ys, vs = [.ref a, .ref b] ∧ SqK ka K H1 a xs ∧ SqK kb K H1 b ys ∧ R (ItzK ka kb K a b) H1
theorem pi_zipK {X : Cx} {e e2 : Expr} {ta : TA} {p pos tpos : Pos} {elts : List Expr} {kk : Nat} (hg : Gl X "zip") (hm : X.mg "zip" = none) (ha : PA X [e, e2] ta)
    (hs : starEach [e, e2] X.env = (false, eval e X.env) :: starEach [e2] X.env := by rfl) (hpl : (backTo pos (starEach [e2] X.env)).any (·.1) = false := by rfl) :
    PI X (.Tuple elts kk tpos) (.Call (.Name "zip" p) [e, e2] [] pos) (iZipK X.K ta) := by
  refine ⟨fun pins s σ H R I h => ?_⟩
  refine Call_ (ld_blt I hg hm PyProof.Rows.boot_zip (PyProof.Rows.callWith_type1 (thn (ha.run pos pins s σ H _ I h) fun us s1 ⟨vs, H1, I1, r1, q1⟩ => ?_) hs hpl))
  obtain ⟨ka, kb, a, b, xs, ys, ex, hqx, hqy, q⟩ := q1
  subst ex
  cases r1 with
  | cons r rr =>
    cases rr with
    | cons r' rr =>
      cases rr
      cases r
      cases r'
      obtain ⟨its, rv, p1⟩ := sqK_of I1 hqx
      obtain ⟨its2, rv2, p2⟩ := sqK_of I1 hqy
      have la : a < s1.heap.objs.size := sqK_lt p1
      have lb : b < s1.heap.objs.size := sqK_lt p2
      refine zip_begins2 (beginsK a its.toArray) (beginsK b its2.toArray) p1 p2 fun h' hz hTI hTO h1 h2 hsz hk => wpAny_pyIter_zip hz ?_
      have I2 : Inv X pins σ H1 { s1 with heap := h' } := I1.kept (t' := s1.toks) hk
      refine ⟨s1.heap.objs.size + 4, [s1.heap.objs.size + 4, s1.heap.objs.size + 2, s1.heap.objs.size + 3, s1.heap.objs.size, s1.heap.objs.size + 1], _, _, H1, rfl, I2,
        turn_zipK (zip_sep2 (fp1 := [a]) (fp2 := [b]) (fun x hx => by simp at hx; rw [hx]; exact la) (fun x hx => by simp at hx; rw [hx]; exact lb)) (Nat.ne_of_lt la) (Nat.ne_of_lt (Nat.lt_succ_of_lt lb)), ⟨hz, hTI, ⟨_, _, hTO⟩, itK_new h1, itK_new h2⟩, fun c hcm => ?_, q⟩
      have e' : c = s1.heap.objs.size + 4 ∨ c = s1.heap.objs.size + 2 ∨ c = s1.heap.objs.size + 3 ∨ c = s1.heap.objs.size ∨ c = s1.heap.objs.size + 1 := by simpa using hcm
      have hle : s1.heap.objs.size ≤ c := by
        rcases e' with z | z | z | z | z
        · rw [z]; exact Nat.le_add_right _ _
        · rw [z]; exact Nat.le_add_right _ _
        · rw [z]; exact Nat.le_add_right _ _
        · rw [z]; exact Nat.le_refl _
        · rw [z]; exact Nat.le_add_right _ _
      exact I1.fpOk hle (I1.hok.fresh hle)
/-- v itself: a list, a tuple, a text -/
def iSeqK (K : PySem.W.Frag) (tl : TE) : TI := fun σ H R => tl σ H fun x H1 => (∃ a, x = .ref a ∧ (∃ xs, SqL K H1 a xs) ∧ R (Itl K a) H1) ∨ (∃ a, x = .ref a ∧ (∃ xs, SqT K H1 a xs) ∧ R (Itt K a) H1) ∨ ∃ z, x = .str z ∧ R (Its z) H1
theorem pi_seqK {X : Cx} {tg l : Expr} {tl : TE} (hl : PE X l tl) : PI X tg l (iSeqK X.K tl) := by
  refine ⟨fun pins s σ H R I h => ?_⟩
  refine thn (hl.run pins s σ H _ I h) fun v s1 ⟨x, H1, I1, r1, q1⟩ => ?_
  rcases q1 with ⟨a, e, ⟨xs, hq⟩, q⟩ | ⟨a, e, ⟨xs, hq⟩, q⟩ | ⟨z, e, q⟩
  · subst e
    cases r1
    obtain ⟨its, rv, p, hz⟩ := I1.list hq
    refine wpAny_pyIter_list p.isList ?_
    refine ⟨s1.heap.objs.size, [s1.heap.objs.size], _, _, H1, rfl, I1.kept (t' := s1.toks) fun b o e => Heap.get?_push_of_some _ e, turn_list a _, ⟨_, Heap.get?_push_size _ rfl, rfl, rfl⟩, fun b hb => ?_, q⟩
    have e : b = s1.heap.objs.size := by simpa using hb
    subst e
    exact I1.fpOk (Nat.le_refl _) (I1.hok.fresh (Nat.le_refl _))
  · subst e
    cases r1
    obtain ⟨its, rv, p, hz⟩ := I1.tuple hq
    refine wpAny_pyIter_tuple (show s1.heap.IsTuple a its.toArray from p) ?_
    refine ⟨s1.heap.objs.size, [s1.heap.objs.size], _, _, H1, rfl, I1.kept (t' := s1.toks) fun b o e => Heap.get?_push_of_some _ e, turn_tuple a _, ⟨_, Heap.get?_push_size _ rfl, rfl, rfl⟩, fun b hb => ?_, q⟩
    have e : b = s1.heap.objs.size := by simpa using hb
    subst e
    exact I1.fpOk (Nat.le_refl _) (I1.hok.fresh (Nat.le_refl _))
  · subst e
    obtain ⟨t, rfl⟩ := r1
    cases ha : z.cps.all (· < 128)
    · exact wpAny_pyIter_wide ha (pi_one (tk := s1.toks) I1 _ (turn_str _ z t "str_iterator" (.inr rfl)) ⟨_, Heap.get?_push_size _ rfl, rfl, rfl⟩ q)
    · exact wpAny_pyIter_ascii ha (pi_one (tk := s1.toks) I1 _ (turn_str _ z t "str_ascii_iterator" (.inl rfl)) ⟨_, Heap.get?_push_size _ rfl, rfl, rfl⟩ q)
end
/-! ### what is walked, as data -/
def chr1 (c : Nat) : D := .str ⟨#[c]⟩
def dItems : D → Option (List D)
  | .lst ds => some ds
  | .tup ds => some ds
  | .scr ns => some (ns.map D.int)
  | .str z => some (z.cps.toList.map chr1)
  | _ => none
/-- lists and tuples alone -/
def dSeq : D → Option (List D)
  | .lst ds => some ds
  | .tup ds => some ds
  | _ => none
def ranged (lo hi : Int) : List D := (List.range (hi - lo).toNat).map fun i => D.int (lo + (i : Nat))
def dRange1 : List D → Option (List D)
  | [.int n] => if -(2 ^ 62) ≤ n ∧ n < 2 ^ 62 then some (ranged 0 n) else none
  | _ => none
def dRange2 : List D → Option (List D)
  | [.int a, .int b] => if (-(2 ^ 62) ≤ a ∧ a < 2 ^ 62) ∧ -(2 ^ 62) ≤ b ∧ b < 2 ^ 62 then some (ranged a b) else none
  | _ => none
/-- a downward range -/
def rangedN (a b : Int) : List D := (List.range (a - b).toNat).map fun i => D.int (a - (i : Nat))
def dRange3 : List D → Option (List D)
  | [.int a, .int b, .int c] => if c = -1 ∧ (-(2 ^ 62) ≤ a ∧ a < 2 ^ 62) ∧ -(2 ^ 62) ≤ b ∧ b < 2 ^ 62 then some (rangedN a b) else none
  | _ => none
def enumed (ds : List D) : List (D × D) := ds.zipIdx.map fun x => (D.int (x.2 : Nat), x.1)
section
variable {T : Th} {Γ : Ctx} {md ma mb : Md} {te : TE} {tr : TA} {me : Option D} {ms : Option (List D)}
theorem rep_lst_inv {G : Hp} {ds : List D} {v : V} (r : Rep T G (.lst ds) v) : ∃ p vs, v = .ref p ∧ G p = some (.lst vs) ∧ Reps T G ds vs := by simpa only [Rep] using r
/-- what is held stays as it is through a loop -/
theorem sel_ex {Z : Base} {F0 F H H0 : Hp} (hm : md ≠ .h) (e0 : Ex F0 F) (e1 : Ex F H) (e2 : Ex Z.B H) : Ex (sel Z md F0 H0) H ∧ Ex (sel Z md F0 H0) (sel Z md F H) := by
  cases md with
  | f => exact ⟨e0.trans e1, e0⟩
  | b => exact ⟨e2, Ex.refl _⟩
  | h => exact absurd rfl hm
theorem evi_seq (h : Ev T md te Γ me) (hm : md ≠ .h := by decide) : EvI T (iSeqK T.K te) Γ md (o1 dItems me) := fun Z F H σ ok ds hd R q => by
  obtain ⟨x, e1, e2⟩ := o1_inv hd
  refine h Z F H σ ok x e1 _ fun v F2 H2 g r => ?_
  have ok2 := ok.grow g
  cases x <;> simp only [dItems] at e2 <;> try (cases e2; done)
  · -- a text
    rename_i z
    cases e2
    simp only [Rep] at r
    subst r
    refine .inr (.inr ⟨z, rfl, q _ F2 H2 g ⟨fun i F' H' hi _ _ _ => (by simpa using hi : i < z.cps.size), fun F' H' _ _ _ => by simp [Its], fun i F' H' x H'' hi _ e _ y => ?_⟩⟩)
    obtain ⟨rfl, c, hc, rfl⟩ := y
    refine ⟨F', Grow.refl e, fun d hd => ?_⟩
    rw [List.getElem?_map] at hd
    have hc' : z.cps.toList[i]? = some c := by simpa using hc
    rw [hc'] at hd
    cases hd
    simp only [chr1, Rep]
  · -- a list
    rename_i ds'
    cases e2
    obtain ⟨p, vs, rfl, hp, rr⟩ := rep_lst_inv r
    have hl := rr.len
    have ex : ∀ {F' H' : Hp}, Ex F2 F' → Ex F' H' → Ex Z.B H' → SqL T.K H' p vs := fun {F' H'} e0 e1 e2 => SqL.of ((sel_ex (H0 := H2) hm e0 e1 e2).1 _ _ hp)
    refine .inl ⟨p, rfl, ⟨vs, SqL.of (sel_in g.i ok2.hv.b _ _ hp)⟩, q _ F2 H2 g ⟨fun i F' H' hi e0 e1 e2 => ⟨vs, vs[i]'(by omega), ex e0 e1 e2, by simp⟩, fun F' H' e0 e1 e2 => ⟨vs, ex e0 e1 e2, by omega⟩, fun i F' H' x H'' hi e0 e1 e2 y => ?_⟩⟩
    obtain ⟨rfl, y⟩ := y
    refine ⟨F', Grow.refl e1, fun d hd => ?_⟩
    obtain ⟨v, hv, rv⟩ := rr.get hd
    rw [y vs (ex e0 e1 e2)] at hv
    cases hv
    exact rv.mono (sel_ex hm e0 e1 e2).2
  · -- a tuple
    rename_i ds'
    cases e2
    obtain ⟨p, vs, rfl, hp, rr⟩ := rep_tup_inv r
    have hl := rr.len
    have ex : ∀ {F' H' : Hp}, Ex F2 F' → Ex F' H' → Ex Z.B H' → SqT T.K H' p vs := fun {F' H'} e0 e1 e2 => SqT.of ((sel_ex (H0 := H2) hm e0 e1 e2).1 _ _ hp)
    refine .inr (.inl ⟨p, rfl, ⟨vs, SqT.of (sel_in g.i ok2.hv.b _ _ hp)⟩, q _ F2 H2 g ⟨fun i F' H' hi e0 e1 e2 => ⟨vs, vs[i]'(by omega), ex e0 e1 e2, by simp⟩, fun F' H' e0 e1 e2 => ⟨vs, ex e0 e1 e2, by omega⟩, fun i F' H' x H'' hi e0 e1 e2 y => ?_⟩⟩)
    obtain ⟨rfl, y⟩ := y
    refine ⟨F', Grow.refl e1, fun d hd => ?_⟩
    obtain ⟨v, hv, rv⟩ := rr.get hd
    rw [y vs (ex e0 e1 e2)] at hv
    cases hv
    exact rv.mono (sel_ex hm e0 e1 e2).2
  · -- the script
    rename_i ns
    cases e2
    simp only [Rep] at r
    obtain ⟨p, rfl, hp⟩ := r
    have ex : ∀ {F' H' : Hp}, Ex F2 F' → Ex F' H' → Ex Z.B H' → SqL T.K H' p (ns.map V.int) := fun {F' H'} e0 e1 e2 => ex_l (sel_ex (H0 := H2) hm e0 e1 e2).1 hp
    refine .inl ⟨p, rfl, ⟨_, ex_l (sel_in g.i ok2.hv.b) hp⟩, q _ F2 H2 g ⟨fun i F' H' hi e0 e1 e2 => ⟨_, .int (ns[i]'(by simpa using hi)), ex e0 e1 e2, by simp at hi; simp [hi]⟩, fun F' H' e0 e1 e2 => ⟨_, ex e0 e1 e2, by simp⟩, fun i F' H' x H'' hi e0 e1 e2 y => ?_⟩⟩
    obtain ⟨rfl, y⟩ := y
    refine ⟨F', Grow.refl e1, fun d hd => ?_⟩
    have y' := y _ (ex e0 e1 e2)
    rw [List.getElem?_map] at hd y'
    cases e : ns[i]? with
    | none => rw [e] at hd; cases hd
    | some n =>
      rw [e] at hd y'
      cases hd; cases y'
      simp only [Rep]
theorem wk_range {Z : Base} {F0 : Hp} (lo : Int) (n : Nat) : Wk T Z md (Itr lo n) ((List.range n).map fun i => D.int (lo + (i : Nat))) F0 where
  go := fun i F H hi _ _ _ => by simpa [Itr] using hi
  stop := fun F H _ _ _ => by simp [Itr]
  yld := fun i F H x H' hi _ e _ y => by
    obtain ⟨rfl, rfl⟩ := y
    refine ⟨F, Grow.refl e, fun d hd => ?_⟩
    rw [List.getElem?_map] at hd
    have : i < n := by simpa using hi
    rw [List.getElem?_range this] at hd
    cases hd
    simp only [Rep]
theorem wk_rangeC {Z : Base} {F0 : Hp} (lo : Int) (n : Nat) : Wk T Z md (Itc lo (-1) n) ((List.range n).map fun i => D.int (lo - (i : Nat))) F0 where
  go := fun i F H hi _ _ _ => by simpa [Itc] using hi
  stop := fun F H _ _ _ => by simp [Itc]
  yld := fun i F H x H' hi _ e _ y => by
    obtain ⟨rfl, rfl⟩ := y
    refine ⟨F, Grow.refl e, fun d hd => ?_⟩
    rw [List.getElem?_map] at hd
    have : i < n := by simpa using hi
    rw [List.getElem?_range this] at hd
    cases hd
    have e : lo + (i : Int) * -1 = lo - (i : Int) := by omega
    rw [e]
    simp only [Rep]
theorem evi_range1 (h : EvL T .h tr Γ ms) : EvI T (iRng1 tr) Γ md (o1 dRange1 ms) := fun Z F H σ ok ds hd R q => by
  obtain ⟨x, e1, e2⟩ := o1_inv hd
  refine h Z F H σ ok x e1 _ fun vs F2 H2 g r => ?_
  unfold dRange1 at e2
  split at e2
  · rename_i n
    split at e2
    · rename_i hn
      cases e2
      obtain ⟨v, r1, rfl, ra, rr⟩ := r.uncons
      simp only [Reps] at rr; subst rr
      simp only [Rep] at ra; subst ra
      refine ⟨n, rfl, hn.1, hn.2, q _ F2 H2 g ?_⟩
      have := wk_range (T := T) (md := md) (Z := Z) (F0 := F2) 0 n.toNat
      simpa [ranged] using this
    · cases e2
  · cases e2
theorem evi_range2 (h : EvL T .h tr Γ ms) : EvI T (iRng2 tr) Γ md (o1 dRange2 ms) := fun Z F H σ ok ds hd R q => by
  obtain ⟨x, e1, e2⟩ := o1_inv hd
  refine h Z F H σ ok x e1 _ fun vs F2 H2 g r => ?_
  unfold dRange2 at e2
  split at e2
  · rename_i a b
    split at e2
    · rename_i hn
      cases e2
      obtain ⟨v, r1, rfl, ra, rr⟩ := r.uncons
      obtain ⟨w, r2, rfl, rb, rr⟩ := rr.uncons
      simp only [Reps] at rr; subst rr
      simp only [Rep] at ra rb; subst ra rb
      exact ⟨a, b, rfl, ⟨hn.1.1, hn.1.2, hn.2.1, hn.2.2⟩, q _ F2 H2 g (wk_range a _)⟩
    · cases e2
  · cases e2
theorem evi_range3 (h : EvL T .h tr Γ ms) : EvI T (iRng3 tr) Γ md (o1 dRange3 ms) := fun Z F H σ ok ds hd R q => by
  obtain ⟨x, e1, e2⟩ := o1_inv hd
  refine h Z F H σ ok x e1 _ fun vs F2 H2 g r => ?_
  unfold dRange3 at e2
  split at e2
  · rename_i a b c
    split at e2
    · rename_i hn
      cases e2
      obtain ⟨hc, ha, hb⟩ := hn
      subst hc
      obtain ⟨v, r1, rfl, ra, rr⟩ := r.uncons
      obtain ⟨w, r2, rfl, rb, rr⟩ := rr.uncons
      obtain ⟨u, r3, rfl, rc, rr⟩ := rr.uncons
      simp only [Reps] at rr; subst rr
      simp only [Rep] at ra rb rc; subst ra rb rc
      exact ⟨a, b, -1, _, rfl, RgC.neg ha.1 ha.2 hb.1 hb.2, q _ F2 H2 g (wk_rangeC a _)⟩
    · cases e2
  · cases e2
/-- a list or a tuple that is held: its kind, its values -/
theorem seq_kd {G : Hp} {d : D} {ds : List D} {v : V} (r : Rep T G d v) (h : dSeq d = some ds) : ∃ kd p vs, v = .ref p ∧ (∀ G', Ex G G' → SqK kd T.K G' p vs) ∧ Reps T G ds vs := by
  cases d <;> simp only [dSeq] at h <;> try (cases h; done)
  · cases h
    obtain ⟨p, vs, rfl, hp, rr⟩ := rep_lst_inv r
    exact ⟨true, p, vs, rfl, fun G' e => SqL.of (e _ _ hp), rr⟩
  · cases h
    obtain ⟨p, vs, rfl, hp, rr⟩ := rep_tup_inv r
    exact ⟨false, p, vs, rfl, fun G' e => SqT.of (e _ _ hp), rr⟩
theorem tup_new {F H : Hp} (e : Ex F H) {q : Addr} (hq : H q = none) (o : HO) : Grow F (upd F q o) H (upd H q o) :=
  (Grow.lay e hq o).freeze hq upd_same (none_of_ex e hq)
theorem evi_enum (h : Ev T md te Γ me) (hm : md ≠ .h := by decide) : EvI2 T (iEnumK T.K (tCons te tNil)) Γ .f md ((o1 dSeq me).map enumed) := fun Z F H σ ok dp hd R q => by
  cases e0 : o1 dSeq me with
  | none => rw [e0] at hd; cases hd
  | some ds =>
    rw [e0] at hd; cases hd
    obtain ⟨x, e1, e2⟩ := o1_inv e0
    refine h Z F H σ ok x e1 _ fun v F2 H2 g r => ?_
    have ok2 := ok.grow g
    obtain ⟨kd, p, vs, rfl, hp, rr⟩ := seq_kd r e2
    have hl := rr.len
    have ex : ∀ {F' H' : Hp}, Ex F2 F' → Ex F' H' → Ex Z.B H' → SqK kd T.K H' p vs := fun {F' H'} e0 e1 e2 => hp _ (sel_ex (H0 := H2) hm e0 e1 e2).1
    have hlen : (enumed ds).length = ds.length := by simp [enumed]
    refine ⟨kd, p, vs, rfl, hp _ (sel_in g.i ok2.hv.b), q _ F2 H2 g ⟨fun i F' H' hi e0 e1 e2 => ⟨vs, vs[i]'(by omega), ex e0 e1 e2, by simp⟩, fun F' H' e0 e1 e2 => ⟨vs, ex e0 e1 e2, by omega⟩, fun i F' H' x H'' hi e0 e1 e2 y => ?_⟩⟩
    obtain ⟨t, x', rfl, ht, rfl, y⟩ := y
    refine ⟨_, tup_new e1 ht _, t, _, _, rfl, SqT.of upd_same, fun d hd => ?_⟩
    have hi' : i < ds.length := by omega
    have hd' : d = (D.int (i : Nat), ds[i]) := by
      unfold enumed at hd
      rw [List.getElem?_map, List.getElem?_zipIdx] at hd
      simp [hi'] at hd
      exact hd.symm
    subst hd'
    refine ⟨by simp only [Rep], ?_⟩
    obtain ⟨v, hv, rv⟩ := rr.get (i := i) (d := ds[i]) (by simp [hi'])
    rw [y vs (ex e0 e1 e2)] at hv
    cases hv
    exact (rv.mono (sel_ex (H0 := H2) hm e0 e1 e2).2).mono (sel_grow (tup_new e1 ht _))
theorem evi_zip {ta tb : TE} {m1 m2 : Option D} (ha : Ev T ma ta Γ m1) (hb : Ev T mb tb Γ m2) (h1 : ma ≠ .h := by decide) (h2 : mb ≠ .h := by decide) :
    EvI2 T (iZipK T.K (tCons ta (tCons tb tNil))) Γ ma mb (o2 (fun x y => some (x.zip y)) (o1 dSeq m1) (o1 dSeq m2)) := fun Z F H σ ok dp hd R q => by
  obtain ⟨xs, ys, e1, e2, e3⟩ := o2_inv hd
  cases e3
  obtain ⟨x, e4, e5⟩ := o1_inv e1
  obtain ⟨y, e6, e7⟩ := o1_inv e2
  refine ha Z F H σ ok x e4 _ fun v F2 H2 g r => hb Z F2 H2 σ (ok.grow g) y e6 _ fun w F3 H3 g2 r' => ?_
  have ok3 := (ok.grow g).grow g2
  obtain ⟨kd, p, vs, rfl, hp, rr⟩ := seq_kd (r.mono (sel_grow g2)) e5
  obtain ⟨kd', p', ws, rfl, hp', rr'⟩ := seq_kd r' e7
  have hl := rr.len
  have hl' := rr'.len
  have ex : ∀ {F' H' : Hp}, Ex F3 F' → Ex F' H' → Ex Z.B H' → SqK kd T.K H' p vs ∧ SqK kd' T.K H' p' ws := fun {F' H'} e0 e1 e2 => ⟨hp _ (sel_ex (H0 := H3) h1 e0 e1 e2).1, hp' _ (sel_ex (H0 := H3) h2 e0 e1 e2).1⟩
  have hlen : (xs.zip ys).length = min xs.length ys.length := by simp
  refine ⟨kd, kd', p, p', vs, ws, rfl, hp _ (sel_in g2.i ok3.hv.b), hp' _ (sel_in g2.i ok3.hv.b), q _ F3 H3 (g.trans g2) ⟨fun i F' H' hi e0 e1 e2 => ⟨vs, ws, vs[i]'(by omega), ws[i]'(by omega), (ex e0 e1 e2).1, (ex e0 e1 e2).2, by simp, by simp⟩,
    fun F' H' e0 e1 e2 => ⟨vs, ws, (ex e0 e1 e2).1, (ex e0 e1 e2).2, by omega, by omega, by omega⟩, fun i F' H' x H'' hi e0 e1 e2 y => ?_⟩⟩
  obtain ⟨t, x', y', rfl, ht, rfl, y1, y2⟩ := y
  refine ⟨_, tup_new e1 ht _, t, _, _, rfl, SqT.of upd_same, fun d hd => ?_⟩
  have hi1 : i < xs.length := by omega
  have hi2 : i < ys.length := by omega
  have hd' : d = (xs[i], ys[i]) := by
    rw [List.getElem?_zip_eq_some] at hd
    obtain ⟨q1, q2⟩ := hd
    simp [hi1] at q1
    simp [hi2] at q2
    exact Prod.ext q1.symm q2.symm
  subst hd'
  obtain ⟨v, hv, rv⟩ := rr.get (i := i) (d := xs[i]) (by simp [hi1])
  obtain ⟨w, hw, rw'⟩ := rr'.get (i := i) (d := ys[i]) (by simp [hi2])
  rw [y1 vs (ex e0 e1 e2).1] at hv
  rw [y2 ws (ex e0 e1 e2).2] at hw
  cases hv
  cases hw
  exact ⟨(rv.mono (sel_ex (H0 := H3) h1 e0 e1 e2).2).mono (sel_grow (tup_new e1 ht _)), (rw'.mono (sel_ex (H0 := H3) h2 e0 e1 e2).2).mono (sel_grow (tup_new e1 ht _))⟩
end
end Mi
/-! operations -/
namespace Mi
open PySem L2
open PyProof.Rows
open Evl (Ex ex_t ex_l ex_rd fresh_back)

/-! ### the operations upon data -/
def dAdd : D → D → Option D
  | .int a, .int b => some (.int (a + b))
  | .str a, .str b => if a.length + b.length ≤ 16777216 then some (.str (a ++ b)) else none
  | .lst a, .lst b => if a.length + b.length ≤ 16777216 then some (.lst (a ++ b)) else none
  | .tup a, .tup b => if a.length + b.length ≤ 16777216 then some (.tup (a ++ b)) else none
  | _, _ => none
def dSub : D → D → Option D
  | .int a, .int b => some (.int (a - b))
  | _, _ => none
def smallI (a : Int) : Prop := -18446744073709551616 < a ∧ a < 18446744073709551616
instance : DecidablePred smallI := fun a => by unfold smallI; infer_instance
def dMul : D → D → Option D
  | .int a, .int b => if smallI a ∨ smallI b then some (.int (a * b)) else none
  | .lst xs, .int k => if -9223372036854775808 ≤ k ∧ k < 9223372036854775808 ∧ xs.length * k.toNat ≤ 16777216 then some (.lst (List.replicate k.toNat xs).flatten) else none
  | _, _ => none
def dDiv : D → D → Option D
  | .int a, .int b => if 0 < b ∧ b < 1073741824 then some (.int (a / b)) else none
  | _, _ => none
def dMod : D → D → Option D
  | .int a, .int b => if 0 < b then some (.int (a % b)) else none
  | _, _ => none
def dPow : D → D → Option D
  | .int a, .int b => if 0 ≤ b ∧ b ≤ 1000000 ∧ a.natAbs < 18446744073709551616 then some (.int (a ^ b.toNat)) else none
  | _, _ => none
def dNeg : D → Option D
  | .int a => some (.int (-a))
  | _ => none
def dCmp (p : Int → Int → Bool) : D → D → Option D
  | .int a, .int b => some (.bl (p a b))
  | _, _ => none
def dLt : D → D → Option D := dCmp fun a b => decide (a < b)
def dLe : D → D → Option D := dCmp fun a b => decide (a ≤ b)
def dGt : D → D → Option D := dCmp fun a b => decide (b < a)
def dGe : D → D → Option D := dCmp fun a b => decide (b ≤ a)
mutual
def py : D → Option PyData
  | .non => some .none
  | .bl b => some (.bool b)
  | .int i => some (.int i)
  | .str s => some (.str s)
  | .lst ds => (pys ds).map PyData.list
  | .tup ds => (pys ds).map PyData.tuple
  | _ => none
def pys : List D → Option (List PyData)
  | [] => some []
  | d :: ds => (py d).bind fun x => (pys ds).map fun y => x :: y
end
def dEqB (d e : D) : Option Bool := (py d).bind fun x => (py e).bind fun y => if SeqAt.shaped x = true ∧ SeqAt.shaped y = true then some (PyData.eqv x y) else none
def dEq (d e : D) : Option D := (dEqB d e).map D.bl
def dNe (d e : D) : Option D := (dEqB d e).map fun b => D.bl !b
def eqF : D → D → Bool
  | .non, .non => true
  | .bl a, .bl b => a == b
  | .bl a, .int b => (if a then 1 else 0) == b
  | .int a, .bl b => a == (if b then 1 else 0)
  | .int a, .int b => a == b
  | .str a, .str b => a == b
  | _, _ => false
def keyOf : D → Option Key
  | .int i => some (.inl i)
  | .str s => some (.inr s)
  | _ => none
def keysOf : List D → Option (List Key)
  | [] => some []
  | d :: ds => (keyOf d).bind fun k => (keysOf ds).map fun r => k :: r
/-- the value at a key -/
def look {κ : Type} [DecidableEq κ] (ks : List κ) (ds : List D) (k : κ) : Option D := ((ks.zip ds).find? fun kv => decide (kv.1 = k)).map (·.2)
def dLook : D → D → Option (Option D)
  | .dic ks ds, d => (keyOf d).map fun k => look ks ds k
  | .dit ks ds, .tup es => (keysOf es).map fun k => look ks ds k
  | _, _ => none
def dInB : D → D → Option Bool
  | x, .lst ds => if flat x = true ∧ ds.all flat = true then some (ds.any fun e => eqF e x) else none
  | x, .tup ds => if flat x = true ∧ ds.all flat = true then some (ds.any fun e => eqF e x) else none
  | .str x, .str z => match x.cps.toList with
    | [c] => some (decide (c ∈ z.cps.toList))
    | _ => none
  | x, y => (dLook y x).map Option.isSome
def dIn (x y : D) : Option D := (dInB x y).map D.bl
def dNotIn (x y : D) : Option D := (dInB x y).map fun b => D.bl !b
def dIx : D → D → Option D
  | .lst ds, .int i => atI ds i
  | .tup ds, .int i => atI ds i
  | .scr ns, .int i => (atI ns i).map D.int
  | .str z, .int i => if z.length ≤ 16777216 then (atI z.cps.toList i).map chr1 else none
  | x, y => (dLook x y).bind id
def dIs : D → D → Option D
  | .bl a, .bl b => some (.bl (decide (a = b)))
  | .non, .non => some (.bl true)
  | .bl _, .non => some (.bl false)
  | .int _, .non => some (.bl false)
  | .str _, .non => some (.bl false)
  | .lst _, .non => some (.bl false)
  | .tup _, .non => some (.bl false)
  | .dic _ _, .non => some (.bl false)
  | .obj _ _ _, .non => some (.bl false)
  | _, _ => none
def dIsNot (d e : D) : Option D := (dIs d e).bind fun x => (tru x).map fun b => .bl !b
def dLen : D → Option D
  | .lst ds => some (.int ds.length)
  | .tup ds => some (.int ds.length)
  | .scr ns => some (.int ns.length)
  | .str z => if z.length ≤ 16777216 then some (.int z.length) else none
  | .dic ks ds => some (.int ds.length)
  | _ => none

/-! ### their readings -/
def rStrAdd : R2 := fun x y H Q => ∃ i j, x = .str i ∧ y = .str j ∧ i.length + j.length ≤ sizeLine ∧ Q (.str (i ++ j)) H
def rAddA (K : PySem.W.Frag) : R2 := fun x y H Q => rI0 (fun i j => .int (i + j)) x y H Q ∨ rStrAdd x y H Q ∨ rCat x y H Q ∨ rCatA K x y H Q
def rMulA (K : PySem.W.Frag) : R2 := fun x y H Q => rI CMul (fun i j => .int (i * j)) x y H Q ∨ rRep x y H Q
def rSign : R2 := fun x y H Q => ∃ (c : Nat) (z : Str), x = .str ⟨#[c]⟩ ∧ y = .str z ∧ Q (.bl (decide (c ∈ z.cps.toList))) H
def rSignN : R2 := fun x y H Q => ∃ (c : Nat) (z : Str), x = .str ⟨#[c]⟩ ∧ y = .str z ∧ Q (.bl (!decide (c ∈ z.cps.toList))) H
def rKeyIn (n : Bool) : R2 := fun y x H Q => ∃ a o, x = .ref a ∧ DGet H a y o ∧ Q (.bl (if n then !o.isSome else o.isSome)) H
def rInA (K : PySem.W.Frag) : R2 := fun x y H Q => rIn K false x y H Q ∨ rSign x y H Q ∨ rKeyIn false x y H Q
def rNotInA (K : PySem.W.Frag) : R2 := fun x y H Q => rIn K true x y H Q ∨ rSignN x y H Q ∨ rKeyIn true x y H Q
def rKeyGet : R2 := fun x y H Q => ∃ a v, x = .ref a ∧ DGet H a y (some v) ∧ Q v H
def rIxA (K : PySem.W.Frag) : R2 := fun x y H Q => rIx K x y H Q ∨ rKeyGet x y H Q
def rIsA : R2 := fun x y H Q => (∃ a b, x = .bl a ∧ y = .bl b ∧ Q (.bl (decide (a = b))) H) ∨ (y = .non ∧ Q (.bl (decide (x = .non))) H)
def rIsNotA : R2 := fun x y H Q => (∃ a b, x = .bl a ∧ y = .bl b ∧ Q (.bl (!decide (a = b))) H) ∨ (y = .non ∧ Q (.bl (!decide (x = .non))) H)
section
variable {X : Cx}
theorem op_addA : OpR X (binaryOp .Add) (rAddA X.K) := op_add.or (op_add_str.or (op_cat.or op_catA))
theorem op_mulA : OpR X (binaryOp .Mult) (rMulA X.K) := op_mul.or op_rep
theorem op_keyIn (hu : X.A.units + 64 < cLine) : OpR X (compareOp .In) (rKeyIn false) := fun pins s σ H x y v u Q I rx ry h => by
  obtain ⟨a, o, rfl, g, q⟩ := h
  cases (show u = Value.ref a from ry)
  exact d_in (by omega) I g rx fun s' I' => ⟨.bl o.isSome, H, I', rfl, q⟩
theorem op_keyNotIn (hu : X.A.units + 64 < cLine) : OpR X (compareOp .NotIn) (rKeyIn true) := fun pins s σ H x y v u Q I rx ry h => by
  obtain ⟨a, o, rfl, g, q⟩ := h
  cases (show u = Value.ref a from ry)
  exact d_notIn (by omega) I g rx fun s' I' => ⟨.bl (!o.isSome), H, I', rfl, q⟩
theorem op_inA (hu : X.A.units + 64 < cLine) : OpR X (compareOp .In) (rInA X.K) := op_in_seq.or (op_in_sign.or (op_keyIn hu))
theorem op_notInA (hu : X.A.units + 64 < cLine) : OpR X (compareOp .NotIn) (rNotInA X.K) := op_notIn_seq.or (op_notIn_sign.or (op_keyNotIn hu))
theorem ix_key (hu : X.A.units + 64 < cLine) : IxR X rKeyGet := fun value slice pins s σ H x y v u Q I rx ry h hs => by
  obtain ⟨a, w, rfl, g, q⟩ := h
  cases (show v = Value.ref a from rx)
  have hT := dict_typeIs I g
  unfold subscriptTail
  refine wpAny_bind ?_
  rw [getitemInPython_of_ne hT.not_modules]
  refine wpAny_bind (wpAny_specialOf hT PySem.F.slot_dict_getitem.lookup ?_)
  have fin : wpAny (model X.prog X.w) X.A (subscripted slice false (.ref a) u) (fun r s₃ => wpAny (model X.prog X.w) X.A (letTemporaryGo value (.ref a) r >>= fun _ => pure r) (EP X pins σ Q) X.xe s₃) X.xe s := by
    rw [hs]
    exact wpAny_operating (d_getItem (by omega) I g ry fun w' s3 I3 rw' => wpAny_bind (wpAny_letTemporaryGo (wpAny_pure ⟨w, H, I3, rw', q⟩)))
  first
    | exact wpAny_pure (wpAny_bind fin)
    | exact wpAny_bind (wpAny_pure (wpAny_bind fin))
    | exact wpAny_bind fin
theorem ix_A (hu : X.A.units + 64 < cLine) : IxR X (rIxA X.K) := ix_seq.or (ix_key hu)
theorem op_isA : OpR X (compareOp .Is) rIsA := op_is_bl.or op_isN
theorem op_isNotA : OpR X (compareOp .IsNot) rIsNotA := op_isnot_bl.or op_notN
end
section
variable {T : Th}
theorem smallI_iff {a : Int} : smallI a ↔ -(2 ^ 64) < a ∧ a < 2 ^ 64 := by unfold smallI; omega
theorem rep_lst {H : Hp} {p : Addr} {vs : List V} {ds : List D} (h : H p = some (.lst vs)) (r : Reps T H ds vs) : Rep T H (.lst ds) (.ref p) := by
  simp only [Rep]; exact ⟨p, vs, rfl, h, r⟩
theorem rep_tup {H : Hp} {p : Addr} {vs : List V} {ds : List D} (h : H p = some (.tup vs)) (r : Reps T H ds vs) : Rep T H (.tup ds) (.ref p) := by
  simp only [Rep]; exact ⟨p, vs, rfl, h, r⟩
/-- a new object whose parts are held -/
theorem sel_new {Z : Base} {md : Md} {F H : Hp} (hm : md.fh = true) (e : Ex F H) {p : Addr} (hp : H p = none) (o : HO) : ∃ F2, Grow F F2 H (upd H p o) ∧ sel Z md F2 (upd H p o) p = some o := by
  cases md with
  | f => exact ⟨upd F p o, (Grow.lay e hp o).freeze hp upd_same (none_of_ex e hp), upd_same⟩
  | b => cases hm
  | h => exact ⟨F, Grow.lay e hp o, upd_same⟩
theorem sel_in' {Z : Base} {md : Md} {F H : Hp} (hm : md.fh = true) (e : Ex F H) : Ex (sel Z md F H) H := by
  cases md with
  | f => exact e
  | b => cases hm
  | h => exact Ex.refl H
theorem opM_add : OpM T (rAddA T.K) dAdd := fun Z md F H x y d e c hm ex rd re hc Q q => by
  cases d <;> cases e <;> simp only [dAdd] at hc <;> try (cases hc; done)
  · cases hc
    simp only [Rep] at rd re
    subst rd re
    exact .inl ⟨_, _, rfl, rfl, q _ F H (Grow.refl ex) (by simp only [Rep])⟩
  · split at hc
    · rename_i hl
      cases hc
      simp only [Rep] at rd re
      subst rd re
      exact .inr (.inl ⟨_, _, rfl, rfl, by rw [line_eq]; exact hl, q _ F H (Grow.refl ex) (by simp only [Rep])⟩)
    · cases hc
  · split at hc
    · rename_i hl
      cases hc
      obtain ⟨p, vs, rfl, hp, r1⟩ := rep_lst_inv rd
      obtain ⟨p', vs', rfl, hp', r2⟩ := rep_lst_inv re
      have ei := sel_in' (Z := Z) hm ex
      refine .inr (.inr (.inl ⟨p, p', vs, vs', rfl, rfl, ei _ _ hp, ei _ _ hp', by rw [line_eq, ← r1.len, ← r2.len]; exact hl, fun n hn => ?_⟩))
      obtain ⟨F2, g, e2⟩ := sel_new (Z := Z) hm ex hn (.lst (vs ++ vs'))
      exact q _ F2 _ g (rep_lst e2 ((r1.mono (sel_grow g)).app (r2.mono (sel_grow g))))
    · cases hc
  · split at hc
    · rename_i hl
      cases hc
      obtain ⟨p, vs, rfl, hp, r1⟩ := rep_tup_inv rd
      obtain ⟨p', vs', rfl, hp', r2⟩ := rep_tup_inv re
      have ei := sel_in' (Z := Z) hm ex
      refine .inr (.inr (.inr ⟨p, p', vs, vs', rfl, rfl, SqT.of (ei _ _ hp), SqT.of (ei _ _ hp'), by rw [line_eq, ← r1.len, ← r2.len]; exact hl, fun h0 => ?_, fun _ h0 => ?_, fun _ _ n hn => ?_⟩))
      · subst h0
        have l1 := r1.len
        simp at l1
        subst l1
        exact q _ F H (Grow.refl ex) (by rw [List.nil_append]; exact rep_tup hp' r2)
      · subst h0
        have l1 := r2.len
        simp at l1
        subst l1
        exact q _ F H (Grow.refl ex) (by rw [List.append_nil]; exact rep_tup hp r1)
      · obtain ⟨F2, g, e2⟩ := sel_new (Z := Z) hm ex hn (.tup (vs ++ vs'))
        exact q _ F2 _ g (rep_tup e2 ((r1.mono (sel_grow g)).app (r2.mono (sel_grow g))))
    · cases hc
def rSubA : R2 := rI0 fun i j => .int (i - j)
def rDivA : R2 := rI CDiv fun i j => .int (i / j)
def rModA : R2 := rI (fun _ j => 0 < j) fun i j => .int (i % j)
def rPowA : R2 := rI CPow fun i j => .int (i ^ j.toNat)
theorem opS_sub : OpS T (rI0 fun i j => .int (i - j)) dSub := fun H x y d e c rd re hc Q q => by
  cases d <;> cases e <;> simp only [dSub] at hc <;> try (cases hc; done)
  cases hc
  simp only [Rep] at rd re
  subst rd re
  exact ⟨_, _, rfl, rfl, q _ fun G => by simp only [Rep]⟩
theorem opS_div : OpS T (rI CDiv fun i j => .int (i / j)) dDiv := fun H x y d e c rd re hc Q q => by
  cases d <;> cases e <;> simp only [dDiv] at hc <;> try (cases hc; done)
  split at hc
  · rename_i h
    cases hc
    simp only [Rep] at rd re
    subst rd re
    exact ⟨_, _, rfl, rfl, h, q _ fun G => by simp only [Rep]⟩
  · cases hc
theorem opS_mod : OpS T (rI (fun _ j => 0 < j) fun i j => .int (i % j)) dMod := fun H x y d e c rd re hc Q q => by
  cases d <;> cases e <;> simp only [dMod] at hc <;> try (cases hc; done)
  split at hc
  · rename_i h
    cases hc
    simp only [Rep] at rd re
    subst rd re
    exact ⟨_, _, rfl, rfl, h, q _ fun G => by simp only [Rep]⟩
  · cases hc
theorem opS_pow : OpS T (rI CPow fun i j => .int (i ^ j.toNat)) dPow := fun H x y d e c rd re hc Q q => by
  cases d <;> cases e <;> simp only [dPow] at hc <;> try (cases hc; done)
  split at hc
  · rename_i h
    cases hc
    simp only [Rep] at rd re
    subst rd re
    exact ⟨_, _, rfl, rfl, ⟨h.1, h.2.1, by have := h.2.2; omega⟩, q _ fun G => by simp only [Rep]⟩
  · cases hc
theorem reps_rep {H : Hp} {ds : List D} {vs : List V} (r : Reps T H ds vs) : ∀ k : Nat, Reps T H (List.replicate k ds).flatten (List.replicate k vs).flatten
  | 0 => Reps.nil
  | k + 1 => by rw [List.replicate_succ, List.replicate_succ, List.flatten_cons, List.flatten_cons]; exact r.app (reps_rep r k)
theorem opM_mul : OpM T (rMulA T.K) dMul := fun Z md F H x y d e c hm ex rd re hc Q q => by
  cases d <;> cases e <;> simp only [dMul] at hc <;> try (cases hc; done)
  · split at hc
    · rename_i h
      cases hc
      simp only [Rep] at rd re
      subst rd re
      refine .inl ⟨_, _, rfl, rfl, ?_, q _ F H (Grow.refl ex) (by simp only [Rep])⟩
      rcases h with h | h
      · exact .inl (smallI_iff.mp h)
      · exact .inr (smallI_iff.mp h)
    · cases hc
  · split at hc
    · rename_i h
      cases hc
      obtain ⟨p, vs, rfl, hp, r1⟩ := rep_lst_inv rd
      simp only [Rep] at re
      subst re
      have ei := sel_in' (Z := Z) hm ex
      refine .inr ⟨p, _, vs, rfl, rfl, ei _ _ hp, by have := h.1; omega, by have := h.2.1; omega, by rw [line_eq, ← r1.len]; exact h.2.2, fun n hn => ?_⟩
      rename_i ds k
      obtain ⟨F2, g, e2⟩ := sel_new (Z := Z) hm ex hn (.lst (List.replicate k.toNat vs).flatten)
      refine q _ F2 _ g (rep_lst e2 ?_)
      exact reps_rep (r1.mono (sel_grow (Z := Z) g)) _
    · cases hc
theorem opS_cmp {p : Int → Int → Bool} : OpS T (rI0 fun i j => .bl (p i j)) (dCmp p) := fun H x y d e c rd re hc Q q => by
  cases d <;> cases e <;> simp only [dCmp] at hc <;> try (cases hc; done)
  cases hc
  simp only [Rep] at rd re
  subst rd re
  exact ⟨_, _, rfl, rfl, q _ fun G => by simp only [Rep]⟩
theorem opS_lt : OpS T (rI0 fun i j => .bl (decide (i < j))) dLt := opS_cmp
theorem opS_le : OpS T (rI0 fun i j => .bl (decide (i ≤ j))) dLe := opS_cmp
theorem opS_gt : OpS T (rI0 fun i j => .bl (decide (j < i))) dGt := opS_cmp
theorem opS_ge : OpS T (rI0 fun i j => .bl (decide (j ≤ i))) dGe := opS_cmp
mutual
theorem rep_py {H : Hp} : ∀ {d : D} {v : V} {x : PyData}, Rep T H d v → py d = some x → Dp T.K H v x
  | .non, v, x, r, e => by simp only [Rep, py] at r e; cases e; subst r; exact .non
  | .bl b, v, x, r, e => by simp only [Rep, py] at r e; cases e; subst r; exact .bl b
  | .int b, v, x, r, e => by simp only [Rep, py] at r e; cases e; subst r; exact .int b
  | .str b, v, x, r, e => by simp only [Rep, py] at r e; cases e; subst r; exact .str b
  | .lst ds, v, x, r, e => by
    obtain ⟨p, vs, rfl, hp, rr⟩ := rep_lst_inv r
    simp only [py] at e
    obtain ⟨xs, hx, rfl⟩ := Option.map_eq_some_iff.mp e
    exact .lst (SqL.of hp) (reps_py rr hx)
  | .tup ds, v, x, r, e => by
    obtain ⟨p, vs, rfl, hp, rr⟩ := rep_tup_inv r
    simp only [py] at e
    obtain ⟨xs, hx, rfl⟩ := Option.map_eq_some_iff.mp e
    exact .tup (SqT.of hp) (reps_py rr hx)
  | .dic _ _, v, x, r, e => by simp only [py] at e; cases e
  | .dit _ _, v, x, r, e => by simp only [py] at e; cases e
  | .obj _ _ _, v, x, r, e => by simp only [py] at e; cases e
  | .scr _, v, x, r, e => by simp only [py] at e; cases e
theorem reps_py {H : Hp} : ∀ {ds : List D} {vs : List V} {xs : List PyData}, Reps T H ds vs → pys ds = some xs → DpAll T.K H vs xs
  | [], vs, xs, r, e => by simp only [Reps, pys] at r e; cases e; subst r; exact .nil
  | d :: ds, vs, xs, r, e => by
    obtain ⟨v, r', rfl, s, t⟩ := r.uncons
    simp only [pys] at e
    obtain ⟨x, e1, e2⟩ := bind_inv e
    obtain ⟨y, e3, rfl⟩ := Option.map_eq_some_iff.mp e2
    exact .cons (rep_py s e1) (reps_py t e3)
end
theorem dEqB_inv {d e : D} {b : Bool} (h : dEqB d e = some b) : ∃ x y, py d = some x ∧ py e = some y ∧ SeqAt.shaped x = true ∧ SeqAt.shaped y = true ∧ b = PyData.eqv x y := by
  unfold dEqB at h
  obtain ⟨x, e1, h⟩ := bind_inv h
  obtain ⟨y, e2, h⟩ := bind_inv h
  split at h
  · rename_i hs
    cases h
    exact ⟨x, y, e1, e2, hs.1, hs.2, rfl⟩
  · cases h
theorem opS_eq : OpS T (rEqD T.K) dEq := fun H x y d e c rd re hc Q q => by
  obtain ⟨b, hb, rfl⟩ := Option.map_eq_some_iff.mp (show (dEqB d e).map D.bl = some c from hc)
  obtain ⟨u, w, e1, e2, s1, s2, rfl⟩ := dEqB_inv hb
  exact ⟨u, w, rep_py rd e1, rep_py re e2, s1, s2, q _ fun G => by simp only [Rep]⟩
theorem opS_ne : OpS T (rNeD T.K) dNe := fun H x y d e c rd re hc Q q => by
  obtain ⟨b, hb, rfl⟩ := Option.map_eq_some_iff.mp (show (dEqB d e).map (fun b => D.bl !b) = some c from hc)
  obtain ⟨u, w, e1, e2, s1, s2, rfl⟩ := dEqB_inv hb
  exact ⟨u, w, rep_py rd e1, rep_py re e2, s1, s2, q _ fun G => by simp only [Rep]⟩
theorem flat_V {H : Hp} {d : D} {v : V} (h : flat d = true) (r : Rep T H d v) : flatV v = true := by
  cases d <;> simp only [flat, Rep] at h r <;> first | (subst r; rfl) | cases h
theorem eqF_V {H : Hp} {d e : D} {v w : V} (h : flat d = true) (h' : flat e = true) (r : Rep T H d v) (r' : Rep T H e w) : eqV v w = eqF d e := by
  cases d <;> first | (cases h; done) | skip
  all_goals (cases e <;> first | (cases h'; done) | skip)
  all_goals (simp only [Rep] at r r'; subst r r'; rfl)
theorem all_V {H : Hp} : ∀ {ds : List D} {vs : List V}, ds.all flat = true → Reps T H ds vs → vs.all flatV = true
  | [], vs, h, r => by simp only [Reps] at r; subst r; rfl
  | d :: ds, vs, h, r => by
    obtain ⟨v, r', rfl, s, t⟩ := r.uncons
    simp only [List.all_cons, Bool.and_eq_true] at h ⊢
    exact ⟨flat_V h.1 s, all_V h.2 t⟩
theorem inV_D {H : Hp} {x : D} {v : V} (hx : flat x = true) (rx : Rep T H x v) : ∀ {ds : List D} {vs : List V}, ds.all flat = true → Reps T H ds vs → inV v vs = ds.any fun e => eqF e x
  | [], vs, h, r => by simp only [Reps] at r; subst r; rfl
  | d :: ds, vs, h, r => by
    obtain ⟨w, r', rfl, s, t⟩ := r.uncons
    simp only [List.all_cons, Bool.and_eq_true] at h
    show (eqV w v || inV v r') = (eqF d x || ds.any fun e => eqF e x)
    rw [eqF_V h.1 hx s rx, inV_D hx rx h.2 t]
theorem look_V {κ : Type} [DecidableEq κ] {H : Hp} {k : κ} : ∀ {ks : List κ} {ds : List D} {vs : List V}, Reps T H ds vs → ks.length = vs.length →
    (look ks ds k = none ∧ valV (ks.zip vs) k = none) ∨ ∃ d v, look ks ds k = some d ∧ valV (ks.zip vs) k = some v ∧ Rep T H d v
  | [], ds, vs, r, l => .inl ⟨rfl, rfl⟩
  | a :: ks, [], vs, r, l => by simp only [Reps] at r; subst r; cases l
  | a :: ks, d :: ds, vs, r, l => by
    obtain ⟨v, r', rfl, s, t⟩ := r.uncons
    by_cases e : a = k
    · refine .inr ⟨d, v, ?_, ?_, s⟩
      · simp [look, List.find?_cons, e]
      · simp [valV, List.find?_cons, e]
    · have := look_V (k := k) t (ks := ks) (by simpa using l)
      have e1 : look (a :: ks) (d :: ds) k = look ks ds k := by simp [look, List.find?_cons, e]
      have e2 : valV ((a :: ks).zip (v :: r')) k = valV (ks.zip r') k := by simp [valV, List.find?_cons, e]
      rw [e1, e2]
      exact this
theorem keyOf_V {H : Hp} {d : D} {v : V} {k : Key} (r : Rep T H d v) (h : keyOf d = some k) : v = kV k := by
  cases d <;> simp only [keyOf, Rep] at h r <;> first | (cases h; subst r; rfl) | cases h
theorem keysOf_V {H : Hp} : ∀ {ds : List D} {vs : List V} {ks : List Key}, Reps T H ds vs → keysOf ds = some ks → vs = ks.map kV
  | [], vs, ks, r, h => by simp only [Reps, keysOf] at r h; cases h; subst r; rfl
  | d :: ds, vs, ks, r, h => by
    obtain ⟨v, r', rfl, s, t⟩ := r.uncons
    simp only [keysOf] at h
    obtain ⟨k, e1, h⟩ := bind_inv h
    obtain ⟨ks', e2, rfl⟩ := Option.map_eq_some_iff.mp h
    rw [keyOf_V s e1, keysOf_V t e2]; rfl
theorem dLook_V {H : Hp} {d e : D} {x y : V} {o : Option D} (rd : Rep T H d x) (re : Rep T H e y) (h : dLook d e = some o) :
    ∃ a w, x = .ref a ∧ DGet H a y w ∧ ((o = none ∧ w = none) ∨ ∃ c v, o = some c ∧ w = some v ∧ ∀ G, Ex G H → Rep T G d x → Rep T G c v) := by
  cases d <;> simp only [dLook] at h <;> try (cases h; done)
  · rename_i ks ds
    obtain ⟨k, hk, rfl⟩ := Option.map_eq_some_iff.mp h
    have ey := keyOf_V re hk
    simp only [Rep] at rd
    obtain ⟨a, vs, rfl, ha, l, rr⟩ := rd
    refine ⟨a, valV (ks.zip vs) k, rfl, .inl ⟨_, k, .inl ha, ey, rfl⟩, ?_⟩
    rcases look_V (k := k) rr l with ⟨q1, q2⟩ | ⟨c, v, q1, q2, q3⟩
    · exact .inl ⟨q1, q2⟩
    · refine .inr ⟨c, v, q1, q2, fun G eg rg => ?_⟩
      simp only [Rep] at rg
      obtain ⟨a', vs', e1, ha', l', rr'⟩ := rg
      cases e1
      have := eg _ _ ha'
      rw [ha] at this
      have hz : ks.zip vs = ks.zip vs' := by injection (Option.some.inj this)
      rcases look_V (k := k) rr' l' with ⟨z1, z2⟩ | ⟨c', v', z1, z2, z3⟩
      · rw [q1] at z1; cases z1
      · rw [q1] at z1; cases z1
        rw [← hz, q2] at z2; cases z2
        exact z3
  · cases e <;> simp only at h <;> try (cases h; done)
    rename_i ks ds es
    obtain ⟨k, hk, rfl⟩ := Option.map_eq_some_iff.mp h
    obtain ⟨p, vs', rfl, hp, r2⟩ := rep_tup_inv re
    have ey := keysOf_V r2 hk
    subst ey
    simp only [Rep] at rd
    obtain ⟨a, vs, rfl, ha, l, rr⟩ := rd
    refine ⟨a, valV (ks.zip vs) k, rfl, .inr ⟨_, k, p, .inl ha, rfl, hp, rfl⟩, ?_⟩
    rcases look_V (k := k) rr l with ⟨q1, q2⟩ | ⟨c, v, q1, q2, q3⟩
    · exact .inl ⟨q1, q2⟩
    · refine .inr ⟨c, v, q1, q2, fun G eg rg => ?_⟩
      simp only [Rep] at rg
      obtain ⟨a', vs', e1, ha', l', rr'⟩ := rg
      cases e1
      have := eg _ _ ha'
      rw [ha] at this
      have hz : ks.zip vs = ks.zip vs' := by injection (Option.some.inj this)
      rcases look_V (k := k) rr' l' with ⟨z1, z2⟩ | ⟨c', v', z1, z2, z3⟩
      · rw [q1] at z1; cases z1
      · rw [q1] at z1; cases z1
        rw [← hz, q2] at z2; cases z2
        exact z3
end
end Mi
/-! operations, built-ins -/
namespace Mi
open PySem L2
open PyProof.Rows
open Evl (Ex ex_t ex_l ex_rd fresh_back)
section
variable {T : Th}
theorem Str.of_cps {x : Str} {c : Nat} (h : x.cps.toList = [c]) : x = ⟨#[c]⟩ := by
  obtain ⟨a⟩ := x
  have : a = #[c] := by
    apply Array.ext'
    simpa using h
  rw [this]
theorem dInB_V {H : Hp} {x y : D} {v w : V} {b : Bool} (rx : Rep T H x v) (ry : Rep T H y w) (h : dInB x y = some b) :
    (∃ p xs, w = .ref p ∧ (SqL T.K H p xs ∨ SqT T.K H p xs) ∧ flatV v = true ∧ xs.all flatV = true ∧ inV v xs = b) ∨ (∃ c z, v = .str ⟨#[c]⟩ ∧ w = .str z ∧ decide (c ∈ z.cps.toList) = b) ∨ ∃ a o, w = .ref a ∧ DGet H a v o ∧ o.isSome = b := by
  have key : (dLook y x).map Option.isSome = some b → ∃ a o, w = .ref a ∧ DGet H a v o ∧ o.isSome = b := fun h => by
    obtain ⟨o, ho, rfl⟩ := Option.map_eq_some_iff.mp h
    obtain ⟨a, w', e1, e2, e3⟩ := dLook_V ry rx ho
    refine ⟨a, w', e1, e2, ?_⟩
    rcases e3 with ⟨rfl, rfl⟩ | ⟨c, v, rfl, rfl, _⟩ <;> rfl
  have lst : ∀ ds, y = .lst ds → dInB x (.lst ds) = (if flat x = true ∧ ds.all flat = true then some (ds.any fun e => eqF e x) else none) := fun ds _ => by cases x <;> rfl
  have tup : ∀ ds, y = .tup ds → dInB x (.tup ds) = (if flat x = true ∧ ds.all flat = true then some (ds.any fun e => eqF e x) else none) := fun ds _ => by cases x <;> rfl
  cases y with
  | lst ds =>
    rw [lst ds rfl] at h
    split at h
    · rename_i hf
      cases h
      obtain ⟨p, vs, rfl, hp, rr⟩ := rep_lst_inv ry
      exact .inl ⟨p, vs, rfl, .inl (SqL.of hp), flat_V hf.1 rx, all_V hf.2 rr, inV_D hf.1 rx hf.2 rr⟩
    · cases h
  | tup ds =>
    rw [tup ds rfl] at h
    split at h
    · rename_i hf
      cases h
      obtain ⟨p, vs, rfl, hp, rr⟩ := rep_tup_inv ry
      exact .inl ⟨p, vs, rfl, .inr (SqT.of hp), flat_V hf.1 rx, all_V hf.2 rr, inV_D hf.1 rx hf.2 rr⟩
    · cases h
  | str z =>
    cases x with
    | str x =>
      simp only [dInB] at h
      split at h
      · rename_i c hc
        cases h
        simp only [Rep] at rx ry
        subst rx ry
        exact .inr (.inl ⟨c, z, by rw [Str.of_cps hc], rfl, rfl⟩)
      · cases h
    | _ => exact .inr (.inr (key h))
  | _ => exact .inr (.inr (key (by cases x <;> exact h)))
theorem opS_in : OpS T (rInA T.K) dIn := fun H x y d e c rd re hc Q q => by
  obtain ⟨b, hb, rfl⟩ := Option.map_eq_some_iff.mp (show (dInB d e).map D.bl = some c from hc)
  have fin : Q (.bl b) H := q _ fun G => by simp only [Rep]
  rcases dInB_V rd re hb with ⟨p, xs, rfl, hs, f1, f2, rfl⟩ | ⟨c, z, rfl, rfl, rfl⟩ | ⟨a, o, rfl, g, rfl⟩
  · exact .inl ⟨p, xs, rfl, hs, f1, f2, fin⟩
  · exact .inr (.inl ⟨c, z, rfl, rfl, fin⟩)
  · exact .inr (.inr ⟨a, o, rfl, g, fin⟩)
theorem opS_notIn : OpS T (rNotInA T.K) dNotIn := fun H x y d e c rd re hc Q q => by
  obtain ⟨b, hb, rfl⟩ := Option.map_eq_some_iff.mp (show (dInB d e).map (fun b => D.bl !b) = some c from hc)
  have fin : Q (.bl !b) H := q _ fun G => by simp only [Rep]
  rcases dInB_V rd re hb with ⟨p, xs, rfl, hs, f1, f2, rfl⟩ | ⟨c, z, rfl, rfl, rfl⟩ | ⟨a, o, rfl, g, rfl⟩
  · exact .inl ⟨p, xs, rfl, hs, f1, f2, fin⟩
  · exact .inr (.inl ⟨c, z, rfl, rfl, fin⟩)
  · exact .inr (.inr ⟨a, o, rfl, g, fin⟩)
theorem atI_reps {H : Hp} {ds : List D} {vs : List V} {i : Int} {d : D} (r : Reps T H ds vs) (h : atI ds i = some d) : ∃ v, atI vs i = some v ∧ Rep T H d v := by
  unfold atI at h ⊢
  rw [r.len] at h
  obtain ⟨j, e1, e2⟩ := bind_inv h
  rw [e1]
  exact r.get e2
theorem opP_ix : OpP T (rIxA T.K) dIx := fun H x y d e c rd re hc Q q => by
  have key : (dLook d e).bind id = some c → rIxA T.K x y H Q := fun h => by
    obtain ⟨o, ho, h⟩ := bind_inv h
    obtain ⟨a, w', e1, e2, e3⟩ := dLook_V rd re ho
    rcases e3 with ⟨rfl, rfl⟩ | ⟨c', v, rfl, rfl, e4⟩
    · cases h
    · cases h
      exact .inr ⟨a, v, e1, e2, q v e4⟩
  cases d with
  | lst ds =>
    cases e with
    | int i =>
      obtain ⟨p, vs, rfl, hp, rr⟩ := rep_lst_inv rd
      simp only [Rep] at re; subst re
      obtain ⟨v, hv, rv⟩ := atI_reps rr (show atI ds i = some c from hc)
      refine .inl (.inl ⟨p, vs, i, v, rfl, rfl, SqL.of hp, hv, q v fun G eg rg => ?_⟩)
      obtain ⟨p', vs', e1, hp', rr'⟩ := rep_lst_inv rg
      cases e1
      have := eg _ _ hp'
      rw [hp] at this; cases this
      obtain ⟨v', hv', rv'⟩ := atI_reps rr' (show atI ds i = some c from hc)
      rw [hv] at hv'; cases hv'
      exact rv'
    | _ => exact key hc
  | tup ds =>
    cases e with
    | int i =>
      obtain ⟨p, vs, rfl, hp, rr⟩ := rep_tup_inv rd
      simp only [Rep] at re; subst re
      obtain ⟨v, hv, rv⟩ := atI_reps rr (show atI ds i = some c from hc)
      refine .inl (.inr (.inl ⟨p, vs, i, v, rfl, rfl, SqT.of hp, hv, q v fun G eg rg => ?_⟩))
      obtain ⟨p', vs', e1, hp', rr'⟩ := rep_tup_inv rg
      cases e1
      have := eg _ _ hp'
      rw [hp] at this; cases this
      obtain ⟨v', hv', rv'⟩ := atI_reps rr' (show atI ds i = some c from hc)
      rw [hv] at hv'; cases hv'
      exact rv'
    | _ => exact key hc
  | scr ns =>
    cases e with
    | int i =>
      obtain ⟨n, hn, rfl⟩ := Option.map_eq_some_iff.mp (show (atI ns i).map D.int = some c from hc)
      simp only [Rep] at rd re
      subst re
      obtain ⟨p, rfl, hp⟩ := rd
      have hv : atI (ns.map V.int) i = some (.int n) := by
        unfold atI at hn ⊢
        rw [List.length_map]
        obtain ⟨j, e1, e2⟩ := bind_inv hn
        rw [e1]
        show (ns.map V.int)[j]? = _
        rw [List.getElem?_map, e2]; rfl
      exact .inl (.inl ⟨p, _, i, _, rfl, rfl, hp, hv, q _ fun G _ _ => by simp only [Rep]⟩)
    | _ => exact key hc
  | str z =>
    cases e with
    | int i =>
      have hc' : (if z.length ≤ 16777216 then (atI z.cps.toList i).map chr1 else none) = some c := hc
      split at hc'
      · rename_i hl
        obtain ⟨n, hn, rfl⟩ := Option.map_eq_some_iff.mp hc'
        simp only [Rep] at rd re
        subst rd re
        exact .inl (.inr (.inr ⟨z, i, n, rfl, rfl, by rw [line_eq]; exact hl, hn, q _ fun G _ _ => by simp only [Rep, chr1]⟩))
      · cases hc'
    | _ => exact key hc
  | _ => exact key (by cases e <;> exact hc)
theorem rep_ne_non {H : Hp} {d : D} {v : V} (r : Rep T H d v) (h : d ≠ .non) : v ≠ .non := by
  cases d <;> simp only [Rep] at r <;> first | exact absurd rfl h | (subst r; intro q; cases q) | (obtain ⟨p, q⟩ := r; intro z; rw [z] at q; simp at q)
theorem opS_is : OpS T rIsA dIs := fun H x y d e c rd re hc Q q => by
  cases e with
  | non =>
    simp only [Rep] at re; subst re
    refine .inr ⟨rfl, ?_⟩
    cases d <;> simp only [dIs] at hc <;> try (cases hc; done)
    · cases hc
      simp only [Rep] at rd; subst rd
      exact q _ fun G => by simp [Rep]
    all_goals
      cases hc
      have hv := rep_ne_non rd (by intro z; cases z)
      rw [decide_eq_false hv]
      exact q _ fun G => by simp [Rep]
  | bl b =>
    cases d <;> simp only [dIs] at hc <;> try (cases hc; done)
    cases hc
    simp only [Rep] at rd re
    subst rd re
    exact .inl ⟨_, _, rfl, rfl, q _ fun G => by simp only [Rep]⟩
  | _ => cases d <;> simp only [dIs] at hc <;> cases hc
theorem opS_isNot : OpS T rIsNotA dIsNot := fun H x y d e c rd re hc Q q => by
  obtain ⟨z, e1, e2⟩ := bind_inv (show (dIs d e).bind _ = some c from hc)
  obtain ⟨b, e3, rfl⟩ := Option.map_eq_some_iff.mp e2
  have e4 := tru_inv e3
  subst e4
  have fin : ∀ b', b' = b → Q (.bl !b') H := fun b' h => q _ fun G => by subst h; simp only [Rep]
  rcases opS_is (T := T) H x y d e _ rd re e1 (fun v H' => v = .bl b ∧ H' = H) (fun v h => ⟨by have := h H; simp only [Rep] at this; exact this, rfl⟩) with ⟨a, a', rfl, rfl, q1, _⟩ | ⟨rfl, q1, _⟩
  · exact .inl ⟨a, a', rfl, rfl, fin _ (by simpa using q1)⟩
  · exact .inr ⟨rfl, fin _ (by simpa using q1)⟩
/-! slices -/
/-- the parts of a slice, as data -/
def EvP (T : Th) (tp : TO) (Γ : Ctx) (m : Option (Option Int)) : Prop := ∀ Z F H σ, Ok T Z Γ F H σ → ∀ o, m = some o → ∀ Q : Option Int → Hp → Prop, (∀ F2 H2, Grow F F2 H H2 → Q o H2) → tp σ H Q
def dI : D → Option Int
  | .int i => some i
  | _ => none
def cutD (xs : List D) (lo hi : Option Int) : List D := (xs.drop (HT.sIx xs.length 0 lo)).take (HT.sIx xs.length xs.length hi - HT.sIx xs.length 0 lo)
def dCut (d : D) (lo hi : Option Int) : Option D := match d with
  | .lst ds => some (.lst (cutD ds lo hi))
  | .tup ds => some (.tup (cutD ds lo hi))
  | .str z => if z.length ≤ 16777216 then some (.str (cutS z lo hi)) else none
  | _ => none
variable {Γ : Ctx} {md : Md} {te ta tb : TE} {tp tq : TO} {tr : TA} {me ma mb : Option D} {ms : Option (List D)} {ml mh : Option (Option Int)}
theorem evp_none : EvP T tNoPart Γ (some none) := fun Z F H σ ok o ho Q q => by
  cases ho
  exact q F H (Grow.refl ok.hv.f)
theorem evp_some (h : Ev T .h te Γ me) : EvP T (tPart te) Γ ((o1 dI me).map some) := fun Z F H σ ok o ho Q q => by
  obtain ⟨i, hi, rfl⟩ := Option.map_eq_some_iff.mp ho
  obtain ⟨x, e1, e2⟩ := o1_inv hi
  cases x <;> simp only [dI] at e2 <;> try (cases e2; done)
  cases e2
  refine h Z F H σ ok _ e1 _ fun v F2 H2 g r => ?_
  simp only [Rep] at r
  exact ⟨_, r, q F2 H2 g⟩
def rSlAll (K : PySem.W.Frag) : V → Option Int → Option Int → Hp → VK → Prop := fun x lo hi H Q => rSlL K x lo hi H Q ∨ rSlA K x lo hi H Q ∨ (∃ z, x = .str z ∧ z.length ≤ sizeLine ∧ Q (.str (cutS z lo hi)) H)
def oCut (a : Option D) (lo hi : Option (Option Int)) : Option D := a.bind fun x => lo.bind fun l => hi.bind fun u => dCut x l u
@[simp] theorem oCut_s (a : D) (lo hi : Option Int) : oCut (some a) (some lo) (some hi) = dCut a lo hi := id rfl
theorem cutD_V {H : Hp} {ds : List D} {vs : List V} (r : Reps T H ds vs) (lo hi : Option Int) : Reps T H (cutD ds lo hi) (cutV vs lo hi) := by
  unfold cutD cutV
  rw [r.len]
  exact (r.drop _).take _
theorem cutV_whole {vs : List V} {lo hi : Option Int} (h : HT.sIx vs.length 0 lo = 0 ∧ HT.sIx vs.length vs.length hi = vs.length) : cutV vs lo hi = vs := by
  unfold cutV
  rw [h.1, h.2]
  simp
theorem ev_cut (h : Ev T md te Γ me) (hl : EvP T tp Γ ml) (hh : EvP T tq Γ mh) (hm : md.fh = true := by rfl) : Ev T md (tSl (rSlAll T.K) te tp tq) Γ (oCut me ml mh) := fun Z F H σ ok d hd Q q => by
  obtain ⟨x, e1, hd⟩ := bind_inv hd
  obtain ⟨lo, e2, hd⟩ := bind_inv hd
  obtain ⟨hi, e3, hd⟩ := bind_inv hd
  refine h Z F H σ ok x e1 _ fun v F2 H2 g r => hl Z F2 H2 σ (ok.grow g) lo e2 _ fun F3 H3 g2 => hh Z F3 H3 σ ((ok.grow g).grow g2) hi e3 _ fun F4 H4 g3 => ?_
  have gg := (g.trans g2).trans g3
  have r := r.mono (sel_grow (g2.trans g3))
  have ei := sel_in' (Z := Z) hm g3.i
  cases x <;> simp only [dCut] at hd <;> try (cases hd; done)
  · split at hd
    · rename_i hz
      cases hd
      simp only [Rep] at r
      subst r
      exact .inr (.inr ⟨_, rfl, by rw [line_eq]; exact hz, q _ F4 H4 gg (by simp only [Rep])⟩)
    · cases hd
  · cases hd
    obtain ⟨p, vs, rfl, hp, rr⟩ := rep_lst_inv r
    refine .inl ⟨p, vs, rfl, SqL.of (ei _ _ hp), fun n hn => ?_⟩
    obtain ⟨F5, g5, e5⟩ := sel_new (Z := Z) hm g3.i hn (.lst (cutV vs lo hi))
    exact q _ F5 _ (gg.trans g5) (rep_lst e5 ((cutD_V rr lo hi).mono (sel_grow g5)))
  · cases hd
    obtain ⟨p, vs, rfl, hp, rr⟩ := rep_tup_inv r
    refine .inr (.inl ⟨p, vs, rfl, SqT.of (ei _ _ hp), fun hw => ?_, fun _ n hn => ?_⟩)
    · refine q _ F4 H4 gg (rep_tup hp ?_)
      have := cutD_V rr lo hi
      rw [cutV_whole hw] at this
      exact this
    · obtain ⟨F5, g5, e5⟩ := sel_new (Z := Z) hm g3.i hn (.tup (cutV vs lo hi))
      exact q _ F5 _ (gg.trans g5) (rep_tup e5 ((cutD_V rr lo hi).mono (sel_grow g5)))
theorem sl_all {X : Cx} : SlR X (rSlAll X.K) := sl_list.or (sl_tupA.or sl_str)
/-! calls of built-ins by values -/
/-- the answer needs nothing of the arguments -/
def ClS (T : Th) (r : List V → Hp → VK → Prop) (f : List D → Option D) : Prop := ∀ (H : Hp) (vs : List V) (ds : List D) (c : D), Reps T H ds vs → f ds = some c → ∀ Q : VK, (∀ v, (∀ G, Rep T G c v) → Q v H) → r vs H Q
/-- the answer is new, or a part of the arguments -/
def ClM (T : Th) (r : List V → Hp → VK → Prop) (f : List D → Option D) : Prop := ∀ (Z : Base) (md : Md) (F H : Hp) (vs : List V) (ds : List D) (c : D), md.fh = true → Ex F H → Reps T (sel Z md F H) ds vs → f ds = some c → ∀ Q : VK, (∀ v F2 H2, Grow F F2 H H2 → Rep T (sel Z md F2 H2) c v → Q v H2) → r vs H Q
/-- the answer is new; its parts are flat -/
def ClN (T : Th) (r : List V → Hp → VK → Prop) (f : List D → Option D) : Prop := ∀ (H : Hp) (vs : List V) (ds : List D) (c : D), Reps T H ds vs → f ds = some c → ∀ Q : VK, (∀ p o, H p = none → (∀ F, OwnC T F (upd H p o) p c) → Q (.ref p) (upd H p o)) → r vs H Q
theorem ev_clS {r : List V → Hp → VK → Prop} {f : List D → Option D} (hc : ClS T r f) (ha : EvL T .h tr Γ ms) : Ev T md (tCB r tr) Γ (o1 f ms) := fun Z F H σ ok d hd Q q => by
  obtain ⟨x, e1, e2⟩ := o1_inv hd
  refine ha Z F H σ ok x e1 _ fun vs F2 H2 g r => hc H2 vs x d r e2 Q fun v hv => q v F2 H2 g (hv _)
theorem ev_clM {r : List V → Hp → VK → Prop} {f : List D → Option D} (hc : ClM T r f) (ha : EvL T md tr Γ ms) (hm : md.fh = true := by rfl) : Ev T md (tCB r tr) Γ (o1 f ms) := fun Z F H σ ok d hd Q q => by
  obtain ⟨x, e1, e2⟩ := o1_inv hd
  refine ha Z F H σ ok x e1 _ fun vs F2 H2 g r => hc Z md F2 H2 vs x d hm g.i r e2 Q fun v F3 H3 g2 hv => q v F3 H3 (g.trans g2) hv
theorem evo_clN {r : List V → Hp → VK → Prop} {f : List D → Option D} (hc : ClN T r f) (ha : EvL T .h tr Γ ms) : EvO T (tCB r tr) Γ (o1 f ms) := fun Z F H σ ok d hd Q q => by
  obtain ⟨x, e1, e2⟩ := o1_inv hd
  refine ha Z F H σ ok x e1 _ fun vs F2 H2 g r => hc H2 vs x d r e2 Q fun p o hp ho => ?_
  exact q p F2 _ (g.trans (Grow.lay g.i hp o)) (none_of_ex g.h hp) (none_of_ex g.i hp) (ho _)
theorem reps1 {H : Hp} {d : D} {vs : List V} (r : Reps T H [d] vs) : ∃ v, vs = [v] ∧ Rep T H d v := by
  obtain ⟨v, r', rfl, s, t⟩ := r.uncons
  simp only [Reps] at t; subst t
  exact ⟨v, rfl, s⟩
theorem reps2 {H : Hp} {d e : D} {vs : List V} (r : Reps T H [d, e] vs) : ∃ v w, vs = [v, w] ∧ Rep T H d v ∧ Rep T H e w := by
  obtain ⟨v, r', rfl, s, t⟩ := r.uncons
  obtain ⟨w, rfl, t'⟩ := reps1 t
  exact ⟨v, w, rfl, s, t'⟩
/-- a function of one argument, of two -/
def f1 {α : Type} (f : D → Option α) : List D → Option α
  | [d] => f d
  | _ => none
def f2 {α : Type} (f : D → D → Option α) : List D → Option α
  | [d, e] => f d e
  | _ => none
@[simp] theorem f1_one {α : Type} (f : D → Option α) (d : D) : f1 f [d] = f d := id rfl
@[simp] theorem f2_two {α : Type} (f : D → D → Option α) (d e : D) : f2 f [d, e] = f d e := id rfl
theorem f1_inv {α : Type} {f : D → Option α} {ds : List D} {c : α} (h : f1 f ds = some c) : ∃ d, ds = [d] ∧ f d = some c := by
  unfold f1 at h
  split at h
  · exact ⟨_, rfl, h⟩
  · cases h
theorem f2_inv {α : Type} {f : D → D → Option α} {ds : List D} {c : α} (h : f2 f ds = some c) : ∃ d e, ds = [d, e] ∧ f d e = some c := by
  unfold f2 at h
  split at h
  · exact ⟨_, _, rfl, h⟩
  · cases h
def rLen (K : PySem.W.Frag) : List V → Hp → VK → Prop := fun xs H Q => (∃ x n, xs = [x] ∧ LenV K x H n ∧ Q (.int n) H) ∨ ∃ d kvs, xs = [.ref d] ∧ Rd H d (.dK kvs) ∧ Q (.int kvs.length) H
theorem cl_len {X : Cx} : CallR X (.builtin "len") (rLen X.K) := fun pins s σ H xs us Q I r h => by
  rcases h with h | ⟨d, kvs, rfl, hd, q⟩
  · exact call_len pins s σ H xs us Q I r h
  · obtain ⟨u, rfl, ru⟩ := vals1 r
    cases (show u = Value.ref d from ru)
    exact d_len I hd fun t s' I' => ⟨.int kvs.length, H, I', ⟨t, rfl⟩, q⟩
theorem cS_len : ClS T (rLen T.K) (f1 dLen) := fun H vs ds c r h Q q => by
  obtain ⟨d, e0, hd⟩ := f1_inv h
  subst e0
  obtain ⟨v, e0, rv⟩ := reps1 r
  subst e0
  clear r
  cases d <;> simp only [dLen] at hd <;> try (cases hd; done)
  · split at hd
    · rename_i hl
      cases hd
      simp only [Rep] at rv; subst rv
      exact .inl ⟨_, _, rfl, ⟨by rw [line_eq]; exact hl, rfl⟩, q _ fun G => by simp only [Rep]⟩
    · cases hd
  · cases hd
    obtain ⟨p, vs, rfl, hp, rr⟩ := rep_lst_inv rv
    exact .inl ⟨_, _, rfl, .inl ⟨vs, SqL.of hp, rfl⟩, q _ fun G => by simp only [Rep, rr.len]⟩
  · cases hd
    obtain ⟨p, vs, rfl, hp, rr⟩ := rep_tup_inv rv
    exact .inl ⟨_, _, rfl, .inr ⟨vs, SqT.of hp, rfl⟩, q _ fun G => by simp only [Rep, rr.len]⟩
  · cases hd
    simp only [Rep] at rv
    obtain ⟨p, vs, rfl, hp, l, rr⟩ := rv
    refine .inr ⟨p, _, rfl, .inl hp, ?_⟩
    rw [List.length_zip, l, Nat.min_self, ← rr.len]
    exact q _ fun G => by simp only [Rep]
  · cases hd
    simp only [Rep] at rv
    obtain ⟨p, rfl, hp⟩ := rv
    exact .inl ⟨_, _, rfl, .inl ⟨_, hp, rfl⟩, q _ fun G => by simp [Rep]⟩
def dInt : D → Option D
  | .int i => some (.int i)
  | .bl b => some (.int (if b then 1 else 0))
  | _ => none
def rInt : List V → Hp → VK → Prop := fun xs H Q => (∃ i, xs = [.int i] ∧ Q (.int i) H) ∨ ∃ k, xs = [.bl k] ∧ Q (.int (if k then 1 else 0)) H
theorem cS_int : ClS T rInt (f1 dInt) := fun H vs ds c r h Q q => by
  obtain ⟨d, e0, hd⟩ := f1_inv h
  subst e0
  obtain ⟨v, e0, rv⟩ := reps1 r
  subst e0
  clear r
  cases d <;> simp only [dInt] at hd <;> try (cases hd; done)
  · cases hd
    simp only [Rep] at rv; subst rv
    exact .inr ⟨_, rfl, q _ fun G => by simp only [Rep]⟩
  · cases hd
    simp only [Rep] at rv; subst rv
    exact .inl ⟨_, rfl, q _ fun G => by simp only [Rep]⟩
/-- all are asInts -/
def asInts : List D → Option (List Int)
  | [] => some []
  | .int i :: ds => (asInts ds).map fun r => i :: r
  | _ :: _ => none
theorem asInts_inv : ∀ {ds : List D} {ns : List Int}, asInts ds = some ns → ds = ns.map D.int
  | [], ns, h => by cases h; rfl
  | d :: ds, ns, h => by
    cases d <;> simp only [asInts] at h <;> try (cases h; done)
    obtain ⟨r, hr, rfl⟩ := Option.map_eq_some_iff.mp h
    rw [asInts_inv hr]; rfl
@[simp] theorem asInts_map : ∀ ns : List Int, asInts (ns.map D.int) = some ns
  | [] => rfl
  | n :: ns => by simp [asInts, asInts_map ns]
def dInts : D → Option (List Int)
  | .lst ds => asInts ds
  | .tup ds => asInts ds
  | _ => none
/-- a list of asInts, as the layer reads it; a tuple of them is served where the rule says so -/
theorem dInts_V {H : Hp} {d : D} {v : V} {ns : List Int} (r : Rep T H d v) (h : dInts d = some ns) : ∃ p, v = .ref p ∧ (SqL T.K H p (ns.map V.int) ∨ SqT T.K H p (ns.map V.int)) := by
  cases d <;> simp only [dInts] at h <;> try (cases h; done)
  · obtain ⟨p, vs, rfl, hp, rr⟩ := rep_lst_inv r
    rw [asInts_inv h] at rr
    rw [rr.ints] at hp
    exact ⟨p, rfl, .inl (SqL.of hp)⟩
  · obtain ⟨p, vs, rfl, hp, rr⟩ := rep_tup_inv r
    rw [asInts_inv h] at rr
    rw [rr.ints] at hp
    exact ⟨p, rfl, .inr (SqT.of hp)⟩
end
end Mi
/-! sorted, sum of a tuple -/
namespace SrtO
open PySem PyProof.Rows Srt
section
variable {prog : Program} {w : World} {A : Around} {E : Value → Shared → Prop} {s : Shared}
theorem mi_collect_tuple {l : Addr} {vs : List Value} {Q : List Value → Shared → Prop} (hl : s.heap.IsTuple l vs.toArray)
    (h : Q vs { s with heap := (s.heap.push (seqObj "list" #[] 0)).update s.heap.objs.size (Obj.mapSeq (· ++ vs.toArray)) }) (hsz : vs.length ≤ sizeLine) :
    wpAny (model prog w) A (collect (.ref l)) Q E s := by
  obtain ⟨o, ho, hc, n, hd⟩ := id hl
  unfold collect
  refine wpAny_bind (wpAny_runValue (codeAny_builtin entry_proto_collect' ?_))
  show wpAny _ _ (do again (.builtin "list.__iadd__" ⟨[← newList [], .ref l], []⟩)) _ _ s
  refine wpAny_bind (wpAny_newList (wpAny_pure ⟨Code.quiet_builtin _ (by decide +kernel), codeAny_builtin entry_list_iadd' ?_⟩))
  show wpAny _ _ (Builtin.List.listExtendWith (.ref s.heap.objs.size) (.ref l) (.ref s.heap.objs.size)) _ _ { s with heap := s.heap.push (seqObj "list" #[] 0) }
  unfold Builtin.List.listExtendWith
  have ho' : (s.heap.push (seqObj "list" #[] 0)).get? l = some o := Heap.get?_push_of_some _ ho
  refine wpAny_bind (wpAny_typeOf (T := "tuple") ⟨o, ho', hc⟩ ?_)
  have ht : (Value.type "tuple" == Value.type "tuple") = true := by rfl
  rw [if_pos (by rw [ht]; simp)]
  refine wpAny_bind (listItems_at ho' hd ?_)
  refine wpAny_bind (listItems_at (xs := #[]) (n := 0) (Heap.get?_push_size _ rfl) rfl ?_)
  rw [if_neg (by simp)]
  refine wpAny_bind (listUpdate_at (xs := #[]) (n := 0) (Heap.get?_push_size _ rfl) rfl ?_ (Nat.zero_le _) (by show (#[] ++ vs.toArray).size ≤ sizeLine + 1; simp only [Array.size_append, List.size_toArray, List.length_nil]; omega))
  refine wpAny_pure ?_
  show wpAny (model prog w) A (do
      let o ← load s.heap.objs.size
      match o.data with
      | .seq xs _ => pure xs.toList
      | _ => unsupported "internal:collect") Q E { s with heap := (s.heap.push (seqObj "list" #[] 0)).update s.heap.objs.size (Obj.mapSeq (· ++ vs.toArray)) }
  refine wpAny_bind (wpAny_load (get?_update_seq (Heap.get?_push_size _ rfl) _) ?_)
  show wpAny _ _ (pure ((#[] : Array Value) ++ vs.toArray).toList) Q E _
  rw [show ((#[] : Array Value) ++ vs.toArray).toList = vs by simp]
  exact wpAny_pure h
theorem mi_sorted_tuple {l : Addr} {vs : List Value} {ltv : Value → Value → Bool} {Q : Value → Shared → Prop} (O : Swo ltv) (hl : s.heap.IsTuple l vs.toArray) (hz : vs.length ≤ sizeLine)
    (hS : 2 ≤ vs.length → ∀ (h₁ : Heap) (a : Addr), h₁.get? a = some (seqObj "list" vs.toArray 0) → (∀ b o, s.heap.get? b = some o → b ≠ a ∧ h₁.get? b = some o) → SortableO prog w A.in1.in1 { s with heap := h₁ } a vs ltv)
    (h : ∀ out : List Value, Srtd ltv out → Stb ltv out vs → Q (.ref (s.heap.objs.size + 1)) { s with heap := sortedAll s.heap vs out.toArray }) :
    wpAny (model prog w) A (call (.builtin "sorted") [.ref l]) Q E s := by
  refine Calls.call_function_entry kind_sorted plain_sorted entry_sorted (args_sorted1 _) ?_
  unfold Builtin.«sorted»
  refine wpAny_bind (m := checkCount "sorted" 1 1 _) (wpAny_pure ?_)
  refine wpAny_bind (mi_collect_tuple hl ?_ hz)
  refine wpAny_bind (wpAny_newList ?_ hz)
  have hsz : ((s.heap.push (seqObj "list" #[] 0)).update s.heap.objs.size (Obj.mapSeq (· ++ vs.toArray))).objs.size = s.heap.objs.size + 1 := by
    rw [Heap.size_update, size_push']
  have hoL : (((s.heap.push (seqObj "list" #[] 0)).update s.heap.objs.size (Obj.mapSeq (· ++ vs.toArray))).push (seqObj "list" vs.toArray 0)).get? (s.heap.objs.size + 1) = some (seqObj "list" vs.toArray 0) := by
    rw [← hsz]; exact Heap.get?_push_size _ rfl
  have keep : ∀ b o, s.heap.get? b = some o → b ≠ s.heap.objs.size + 1 ∧ (((s.heap.push (seqObj "list" #[] 0)).update s.heap.objs.size (Obj.mapSeq (· ++ vs.toArray))).push (seqObj "list" vs.toArray 0)).get? b = some o := fun b o q => by
    have hlt : b < s.heap.objs.size := Heap.lt_size q
    refine ⟨Nat.ne_of_lt (Nat.lt_succ_of_lt hlt), Heap.get?_push_of_some _ ?_⟩
    rw [Heap.get?_update_ne _ _ _ _ (Nat.ne_of_lt hlt)]
    exact Heap.get?_push_of_some _ q
  show wpAny _ _ _ _ _ { s with heap := ((s.heap.push (seqObj "list" #[] 0)).update s.heap.objs.size (Obj.mapSeq (· ++ vs.toArray))).push (seqObj "list" vs.toArray 0) }
  rw [hsz]
  refine wpAny_bind (wpAny_holding (wpAny_call_entry slot_list_sort ⟨_, hoL, rfl⟩ entry_list_sort (list_sort_ord O hoL hz (fun h2 => hS h2 _ _ hoL keep) fun out hs hb => ⟨_, rfl, ?_⟩) (args_list_sort _)))
  exact wpAny_pure ⟨_, rfl, h out hs hb⟩
end
end SrtO
namespace PySem
open PyProof.Rows
section
variable {prog : Program} {w : World} {A : Around} {E : Value → Shared → Prop} {s : Shared} {l : Addr} {xs : Array (Int × Tok)}
theorem mi_sum_tuple {Q : Value → Shared → Prop} (hh : A.handled = none) (hl : s.heap.IsTuple l (intItems xs))
    (h : ∀ h' tk t', (∀ b o, s.heap.get? b = some o → h'.get? b = some o) → Q (.int (preSum (numAt xs) xs.size) t') { s with heap := h', toks := tk }) :
    wpAny (model prog w) A (call (.builtin "sum") [.ref l]) Q E s := by
  have hlt : l < s.heap.objs.size := by obtain ⟨_, e, _⟩ := hl; exact Heap.lt_size e
  refine call_sum_walkG (wpAny_pyIter_tuple hl ?_)
  have kp : ∀ b o, s.heap.get? b = some o → (s.heap.push { cls := .type "tuple_iterator", data := .fields #[.ref l, .int 0 0] }).get? b = some o := fun b o e => Heap.get?_push_of_some _ e
  refine ⟨_, _, _, _, _, _, numAt xs, rfl, Walks.tuple (A := A.in1) hh s.heap.objs.size l (Nat.ne_of_lt hlt) (intItems xs), ⟨⟨_, Heap.get?_push_size _ rfl, rfl, rfl⟩, hl.at (fun o e => kp l o e)⟩, ?_, (fun _ _ => intItems_at), fun h' tk t' hk => ?_⟩
  · intro b hb
    show b < (s.heap.push _).objs.size
    rw [Heap.size_push]
    rcases List.mem_cons.mp hb with rfl | hb
    · exact Nat.lt_succ_self _
    · rcases List.mem_cons.mp hb with rfl | hb
      · exact Nat.lt_succ_of_lt hlt
      · cases hb
  · have := h h' tk t' (fun b o e => hk b o (by
      intro hm
      rcases List.mem_cons.mp hm with rfl | hm
      · exact absurd (Heap.lt_size e) (Nat.lt_irrefl _)
      · cases hm) (kp b o e))
    simpa [intItems] using this
end
end PySem
/-! built-ins by values, isinstance, stores -/
namespace Mi
open PySem L2
open PyProof.Rows
open Evl (Ex ex_t ex_l ex_rd fresh_back)
/-! ### ints in order -/
def insI (n : Int) : List Int → List Int
  | [] => [n]
  | m :: ms => if n ≤ m then n :: m :: ms else m :: insI n ms
def sortI : List Int → List Int
  | [] => []
  | n :: ns => insI n (sortI ns)
theorem insI_perm (n : Int) : ∀ ms : List Int, (insI n ms).Perm (n :: ms)
  | [] => .refl _
  | m :: ms => by
    unfold insI
    split
    · exact .refl _
    · exact ((insI_perm n ms).cons m).trans (.swap n m ms)
theorem sortI_perm : ∀ ns : List Int, (sortI ns).Perm ns
  | [] => .refl _
  | n :: ns => (insI_perm n _).trans ((sortI_perm ns).cons n)
theorem insI_up (n : Int) : ∀ {ms : List Int}, ms.Pairwise (· ≤ ·) → (insI n ms).Pairwise (· ≤ ·)
  | [], _ => by simp [insI]
  | m :: ms, h => by
    unfold insI
    have h' := List.pairwise_cons.mp h
    split
    · rename_i hn
      refine List.pairwise_cons.mpr ⟨fun x hx => ?_, h⟩
      rcases List.mem_cons.mp hx with rfl | hx
      · exact hn
      · exact Int.le_trans hn (h'.1 x hx)
    · rename_i hn
      refine List.pairwise_cons.mpr ⟨fun x hx => ?_, insI_up n h'.2⟩
      rcases List.mem_cons.mp ((insI_perm n ms).mem_iff.mp hx) with rfl | hx
      · omega
      · exact h'.1 x hx
theorem sortI_up : ∀ ns : List Int, (sortI ns).Pairwise (· ≤ ·)
  | [] => .nil
  | n :: ns => insI_up n (sortI_up ns)
theorem sortI_of {a b : List Int} (hp : a.Perm b) (ha : a.Pairwise (· ≤ ·)) : a = sortI b := PySem.W.ksm_same (hp.trans (sortI_perm b).symm) ha (sortI_up b)
def intKeys : List Key → Option (List Int)
  | [] => some []
  | .inl i :: ks => (intKeys ks).map fun r => i :: r
  | .inr _ :: _ => none
theorem intKeys_inv : ∀ {ks : List Key} {ns : List Int}, intKeys ks = some ns → ks = ns.map Sum.inl
  | [], ns, h => by cases h; rfl
  | .inl i :: ks, ns, h => by
    simp only [intKeys] at h
    obtain ⟨r, hr, rfl⟩ := Option.map_eq_some_iff.mp h
    rw [intKeys_inv hr]; rfl
  | .inr _ :: _, ns, h => by simp [intKeys] at h
def dSorted : D → Option D
  | .dic ks _ => (intKeys ks).bind fun ns => if ns.length < 64 then some (.lst ((sortI ns).map D.int)) else none
  | d => (dInts d).map fun ns => .lst ((sortI ns).map D.int)
def rSortedT (K : PySem.W.Frag) : List V → Hp → VK → Prop := fun vs H Q => ∃ (a : Addr) (ns : List Int), vs = [V.ref a] ∧ SqT K H a (ns.map V.int) ∧
  ∀ (ns' : List Int) (p : Addr), ns'.Perm ns → ns'.Pairwise (· ≤ ·) → H p = none → Q (.ref p) (upd H p (.lst (ns'.map V.int)))
def rSortedDI : List V → Hp → VK → Prop := fun xs H Q => ∃ (a : Addr) (kvs : List (Key × V)) (ks : List Int), xs = [.ref a] ∧ Rd H a (.dK kvs) ∧ kvs.map (·.1) = ks.map Sum.inl ∧ ks.length < 64 ∧
    ∀ (ys : List Int) (p : Addr), ys.Perm ks → ys.Pairwise (· ≤ ·) → H p = none → Q (.ref p) (upd H p (.lst (ys.map V.int)))
def rSortedA (K : PySem.W.Frag) : List V → Hp → VK → Prop := fun xs H Q => rSortedI K xs H Q ∨ rSortedT K xs H Q ∨ rSortedDI xs H Q
def rSumT (K : PySem.W.Frag) : List V → Hp → VK → Prop := fun vs H Q => ∃ (a : Addr) (ns : List Int), vs = [V.ref a] ∧ SqT K H a (ns.map V.int) ∧ Q (.int ns.sum) H
def rSumA (K : PySem.W.Frag) : List V → Hp → VK → Prop := fun xs H Q => rSum K xs H Q ∨ rSumT K xs H Q
section
variable {X : Cx}
theorem cr_sortedT2 : CallR X (.builtin "sorted") (rSortedT X.K) := by
  intro pins s σ H vs us Q I r h
  obtain ⟨a, ns, rfl, hs, q⟩ := h
  obtain ⟨its, rv, hl, hz⟩ := I.tuple hs
  rw [Vals.ref1 r]
  have hi := rv.ints
  refine SrtO.mi_sorted_tuple SrtO.swo_int (show s.heap.IsTuple a its.toArray from hl) (by rw [← rv.length]; exact hz) (fun h2 h₁ a' _ _ => SrtO.ints_sortable hi h2) fun out h1 h2 => ?_
  obtain ⟨k1, k2, k3⟩ := SrtO.ints_out hi h1 h2
  obtain ⟨ep, he'⟩ := PyProof.Rows.sortedAll_at s.heap its out.toArray
  have hlen : ((out.map SrtO.iv).map V.int).length ≤ sizeLine := by
    rw [List.length_map, k2.length_eq]
    rw [List.length_map] at hz
    exact hz
  exact ⟨.ref _, upd H (s.heap.objs.size + 1) (.lst ((out.map SrtO.iv).map V.int)), I.laid (t' := s.toks) (fun _ _ => PyProof.Rows.sortedAll_old) (Nat.le_succ _) ⟨hlen, out, ep, vals_of_ints k1, he'⟩, rfl, q _ _ k2 k3 (I.hok.fresh (Nat.le_succ _))⟩
theorem cl_sorted (hc : X.calm = true) : CallR X (.builtin "sorted") (rSortedA X.K) := cr_sortedI.or (cr_sortedT2.or (call_sortedDI hc))
theorem cr_sumT (hc : X.calm = true) : CallR X (.builtin "sum") (rSumT X.K) := by
  intro pins s σ H vs us Q I r h
  obtain ⟨a, ns, rfl, hs, q⟩ := h
  obtain ⟨its, rv, hl, hz⟩ := I.tuple hs
  rw [Vals.ref1 r]
  have hi := rv.ints
  obtain ⟨xs, e⟩ := hi.allInts.items
  have hn : numsOf (intItems xs).toList = ns := by rw [← e]; exact hi.numsOf
  rw [nums_intItems] at hn
  have hl' : s.heap.IsTuple a (intItems xs) := by rw [← e]; exact hl
  refine PySem.mi_sum_tuple (I.ok.hd hc) hl' fun h' tk t' hk => ?_
  rw [preSum_eq, List.take_of_length_le (by simp), hn]
  exact ⟨.int ns.sum, H, I.kept hk, ⟨_, rfl⟩, q⟩
theorem cl_sum (hc : X.calm = true) : CallR X (.builtin "sum") (rSumA X.K) := (cr_sum hc).or (cr_sumT hc)
end
section
variable {T : Th} {Γ : Ctx} {md : Md} {te ta tb : TE} {tr : TA} {me ma mb : Option D} {ms : Option (List D)}
theorem ownN {p : Addr} {H : Hp} (ns : List Int) : ∀ F, OwnC T F (upd H p (.lst (ns.map V.int))) p (.lst (ns.map D.int)) := fun F => by
  simp only [OwnC]
  exact ⟨_, upd_same, Reps.of_ints ns⟩
theorem cN_sorted : ClN T (rSortedA T.K) (f1 dSorted) := fun H vs ds c r h Q q => by
  obtain ⟨d, e0, hd⟩ := f1_inv h
  subst e0
  obtain ⟨v, e0, rv⟩ := reps1 r
  subst e0
  have go : ∀ {ns : List Int}, dInts d = some ns → c = .lst ((sortI ns).map D.int) → rSortedA T.K [v] H Q := fun {ns} h1 h2 => by
    subst h2
    obtain ⟨p, rfl, hp⟩ := dInts_V rv h1
    rcases hp with hp | hp
    · exact .inl ⟨p, ns, rfl, hp, fun ns' p' a b z => by rw [sortI_of a b]; exact q p' _ z (ownN _)⟩
    · exact .inr (.inl ⟨p, ns, rfl, hp, fun ns' p' a b z => by rw [sortI_of a b]; exact q p' _ z (ownN _)⟩)
  have hd' : (∃ ks ds, d = .dic ks ds) ∨ (dInts d).map (fun ns => D.lst ((sortI ns).map D.int)) = some c := by
    cases d <;> first | exact .inl ⟨_, _, rfl⟩ | exact .inr hd
  rcases hd' with ⟨ks, ds, rfl⟩ | hd'
  · simp only [dSorted] at hd
    obtain ⟨ns, e1, e2⟩ := bind_inv hd
    split at e2
    · rename_i hl
      cases e2
      simp only [Rep] at rv
      obtain ⟨p, vs, rfl, hp, l, rr⟩ := rv
      refine .inr (.inr ⟨p, _, ns, rfl, .inl hp, ?_, hl, fun ys p' a b z => by rw [sortI_of a b]; exact q p' _ z (ownN _)⟩)
      rw [List.map_fst_zip (by omega)]
      exact intKeys_inv e1
    · cases e2
  · obtain ⟨ns, e1, e2⟩ := Option.map_eq_some_iff.mp hd'
    exact go e1 e2.symm
def dSum (d : D) : Option D := (dInts d).map fun ns => .int ns.sum
theorem cS_sum : ClS T (rSumA T.K) (f1 dSum) := fun H vs ds c r h Q q => by
  obtain ⟨d, e0, hd⟩ := f1_inv h
  subst e0
  obtain ⟨v, e0, rv⟩ := reps1 r
  subst e0
  obtain ⟨ns, e1, rfl⟩ := Option.map_eq_some_iff.mp (show (dInts d).map _ = some c from hd)
  obtain ⟨p, rfl, hp⟩ := dInts_V rv e1
  rcases hp with hp | hp
  · exact .inl ⟨p, ns, rfl, hp, q _ fun G => by simp only [Rep]⟩
  · exact .inr ⟨p, ns, rfl, hp, q _ fun G => by simp only [Rep]⟩
def dMax2 : D → D → Option D
  | .int i, .int j => some (.int (if j > i then j else i))
  | _, _ => none
def dMin2 : D → D → Option D
  | .int i, .int j => some (.int (if j < i then j else i))
  | _, _ => none
def rMax2 : List V → Hp → VK → Prop := fun xs H Q => ∃ i j, xs = [.int i, .int j] ∧ Q (.int (if j > i then j else i)) H
def rMin2 : List V → Hp → VK → Prop := fun xs H Q => ∃ i j, xs = [.int i, .int j] ∧ Q (.int (if j < i then j else i)) H
theorem cS_max2 : ClS T rMax2 (f2 dMax2) := fun H vs ds c r h Q q => by
  obtain ⟨d, e, e0, hd⟩ := f2_inv h
  subst e0
  obtain ⟨v, w, e0, rv, rw'⟩ := reps2 r
  subst e0
  clear r h
  cases d <;> cases e <;> simp only [dMax2] at hd <;> try (cases hd; done)
  cases hd
  simp only [Rep] at rv rw'
  subst rv rw'
  exact ⟨_, _, rfl, q _ fun G => by simp only [Rep]⟩
theorem cS_min2 : ClS T rMin2 (f2 dMin2) := fun H vs ds c r h Q q => by
  obtain ⟨d, e, e0, hd⟩ := f2_inv h
  subst e0
  obtain ⟨v, w, e0, rv, rw'⟩ := reps2 r
  subst e0
  clear r h
  cases d <;> cases e <;> simp only [dMin2] at hd <;> try (cases hd; done)
  cases hd
  simp only [Rep] at rv rw'
  subst rv rw'
  exact ⟨_, _, rfl, q _ fun G => by simp only [Rep]⟩
/-- the least, the greatest of a list of ints -/
def leastI : Int → List Int → Int
  | m, [] => m
  | m, n :: ns => leastI (if n < m then n else m) ns
def mostI : Int → List Int → Int
  | m, [] => m
  | m, n :: ns => mostI (if m < n then n else m) ns
theorem leastI_le : ∀ (ns : List Int) (m : Int), leastI m ns ≤ m ∧ (∀ n ∈ ns, leastI m ns ≤ n) ∧ (leastI m ns = m ∨ leastI m ns ∈ ns)
  | [], m => ⟨Int.le_refl _, by simp, .inl rfl⟩
  | n :: ns, m => by
    obtain ⟨a, b, c⟩ := leastI_le ns (if n < m then n else m)
    unfold leastI
    refine ⟨?_, ?_, ?_⟩
    · split at a <;> rename_i h <;> simp only [h, if_true, if_false] <;> omega
    · intro x hx
      rcases List.mem_cons.mp hx with rfl | hx
      · split at a <;> rename_i h <;> simp only [h, if_true, if_false] <;> omega
      · exact b x hx
    · rcases c with c | c
      · split at c <;> rename_i h <;> simp only [h, if_true, if_false]
        · exact .inr (by rw [c]; exact List.mem_cons_self ..)
        · exact .inl c
      · exact .inr (List.mem_cons_of_mem _ c)
theorem mostI_ge : ∀ (ns : List Int) (m : Int), m ≤ mostI m ns ∧ (∀ n ∈ ns, n ≤ mostI m ns) ∧ (mostI m ns = m ∨ mostI m ns ∈ ns)
  | [], m => ⟨Int.le_refl _, by simp, .inl rfl⟩
  | n :: ns, m => by
    obtain ⟨a, b, c⟩ := mostI_ge ns (if m < n then n else m)
    unfold mostI
    refine ⟨?_, ?_, ?_⟩
    · split at a <;> rename_i h <;> simp only [h, if_true, if_false] <;> omega
    · intro x hx
      rcases List.mem_cons.mp hx with rfl | hx
      · split at a <;> rename_i h <;> simp only [h, if_true, if_false] <;> omega
      · exact b x hx
    · rcases c with c | c
      · split at c <;> rename_i h <;> simp only [h, if_true, if_false]
        · exact .inr (by rw [c]; exact List.mem_cons_self ..)
        · exact .inl c
      · exact .inr (List.mem_cons_of_mem _ c)
def dMinL : D → Option D
  | .lst ds => (asInts ds).bind fun ns => match ns with | [] => none | n :: ns => some (.int (leastI n ns))
  | _ => none
def dMaxL : D → Option D
  | .lst ds => (asInts ds).bind fun ns => match ns with | [] => none | n :: ns => some (.int (mostI n ns))
  | _ => none
theorem cS_min : ClS T (rMin T.K) (f1 dMinL) := fun H vs ds c r h Q q => by
  obtain ⟨d, e0, hd⟩ := f1_inv h
  subst e0
  obtain ⟨v, e0, rv⟩ := reps1 r
  subst e0
  clear r h
  cases d <;> simp only [dMinL] at hd <;> try (cases hd; done)
  obtain ⟨ns, e1, e2⟩ := bind_inv hd
  cases ns with
  | nil => cases e2
  | cons n ns =>
    cases e2
    obtain ⟨p, vs, rfl, hp, rr⟩ := rep_lst_inv rv
    rw [asInts_inv e1] at rr
    rw [rr.ints] at hp
    refine ⟨p, n :: ns, rfl, SqL.of hp, by simp, fun m hm hle => ?_⟩
    obtain ⟨a, b, c⟩ := leastI_le ns n
    have e : m = leastI n ns := by
      have h1 : m ≤ leastI n ns := by
        rcases c with c | c
        · rw [c]; exact hle n (List.mem_cons_self ..)
        · exact hle _ (List.mem_cons_of_mem _ c)
      have h2 : leastI n ns ≤ m := by
        rcases List.mem_cons.mp hm with rfl | hm
        · exact a
        · exact b m hm
      omega
    rw [e]
    exact q _ fun G => by simp only [Rep]
theorem cS_max : ClS T (rMax T.K) (f1 dMaxL) := fun H vs ds c r h Q q => by
  obtain ⟨d, e0, hd⟩ := f1_inv h
  subst e0
  obtain ⟨v, e0, rv⟩ := reps1 r
  subst e0
  clear r h
  cases d <;> simp only [dMaxL] at hd <;> try (cases hd; done)
  obtain ⟨ns, e1, e2⟩ := bind_inv hd
  cases ns with
  | nil => cases e2
  | cons n ns =>
    cases e2
    obtain ⟨p, vs, rfl, hp, rr⟩ := rep_lst_inv rv
    rw [asInts_inv e1] at rr
    rw [rr.ints] at hp
    refine ⟨p, n :: ns, rfl, SqL.of hp, by simp, fun m hm hle => ?_⟩
    obtain ⟨a, b, c⟩ := mostI_ge ns n
    have e : m = mostI n ns := by
      have h1 : mostI n ns ≤ m := by
        rcases c with c | c
        · rw [c]; exact hle n (List.mem_cons_self ..)
        · exact hle _ (List.mem_cons_of_mem _ c)
      have h2 : m ≤ mostI n ns := by
        rcases List.mem_cons.mp hm with rfl | hm
        · exact a
        · exact b m hm
      omega
    rw [e]
    exact q _ fun G => by simp only [Rep]
def dAbs : D → Option D
  | .int i => some (.int (if i < 0 then -i else i))
  | _ => none
def rAbs : List V → Hp → VK → Prop := fun xs H Q => ∃ i, xs = [.int i] ∧ Q (.int (if i < 0 then -i else i)) H
theorem cS_abs : ClS T rAbs (f1 dAbs) := fun H vs ds c r h Q q => by
  obtain ⟨d, e0, hd⟩ := f1_inv h
  subst e0
  obtain ⟨v, e0, rv⟩ := reps1 r
  subst e0
  clear r h
  cases d <;> simp only [dAbs] at hd <;> try (cases hd; done)
  cases hd
  simp only [Rep] at rv; subst rv
  exact ⟨_, rfl, q _ fun G => by simp only [Rep]⟩
/-! tuple(v), list(v) -/
def dTuple : D → Option D
  | .lst ds => some (.tup ds)
  | .tup ds => some (.tup ds)
  | _ => none
def dList : D → Option D
  | .lst ds => some (.lst ds)
  | .tup ds => some (.lst ds)
  | _ => none
/-- the same where the parts need not be held -/
def dListS : D → Option D
  | .lst ds => if ds.all flat = true then some (.lst ds) else none
  | .tup ds => if ds.all flat = true then some (.lst ds) else none
  | .scr ns => some (.lst (ns.map D.int))
  | _ => none
def rTupOf (K : PySem.W.Frag) : List V → Hp → VK → Prop := fun xs H Q => ∃ p ys, xs = [.ref p] ∧ ((SqL K H p ys ∧ ∀ l, H l = none → Q (.ref l) (upd H l (.tup ys))) ∨ (SqT K H p ys ∧ Q (.ref p) H))
def rLstOf (K : PySem.W.Frag) : List V → Hp → VK → Prop := fun xs H Q => ∃ p ys, xs = [.ref p] ∧ (SqL K H p ys ∨ SqT K H p ys) ∧ ∀ l, H l = none → Q (.ref l) (upd H l (.lst ys))
theorem cM_tuple : ClM T (rTupOf T.K) (f1 dTuple) := fun Z md F H vs ds c hm ex r h Q q => by
  obtain ⟨d, e0, hd⟩ := f1_inv h
  subst e0
  obtain ⟨v, e0, rv⟩ := reps1 r
  subst e0
  clear r h
  cases d <;> simp only [dTuple] at hd <;> try (cases hd; done)
  · cases hd
    obtain ⟨p, vs, rfl, hp, rr⟩ := rep_lst_inv rv
    refine ⟨p, vs, rfl, .inl ⟨SqL.of (sel_in' hm ex _ _ hp), fun n hn => ?_⟩⟩
    obtain ⟨F2, g, e2⟩ := sel_new (Z := Z) hm ex hn (.tup vs)
    exact q _ F2 _ g (rep_tup e2 (rr.mono (sel_grow g)))
  · cases hd
    obtain ⟨p, vs, rfl, hp, rr⟩ := rep_tup_inv rv
    exact ⟨p, vs, rfl, .inr ⟨SqT.of (sel_in' hm ex _ _ hp), q _ F H (Grow.refl ex) rv⟩⟩
/-- tuple(v) of flat things -/
def dTupleS : D → Option D
  | .lst ds => if ds.all flat = true then some (.tup ds) else none
  | _ => none
theorem flat_reps {H G : Hp} : ∀ {ds : List D} {vs : List V}, ds.all flat = true → Reps T H ds vs → Reps T G ds vs
  | [], vs, h, r => by simp only [Reps] at r; subst r; exact Reps.nil
  | d :: ds, vs, h, r => by
    obtain ⟨v, r', rfl, s, t⟩ := r.uncons
    simp only [List.all_cons, Bool.and_eq_true] at h
    exact Reps.cons (flat_rep h.1 s) (flat_reps h.2 t)
theorem ev_tupleS (ha : Ev T .h ta Γ ma) (hm : md.fh = true := by rfl) : Ev T md (tCB (rTupOf T.K) (tCons ta tNil)) Γ (o1 dTupleS ma) := fun Z F H σ ok c hd Q q => by
  obtain ⟨x, e1, e2⟩ := o1_inv hd
  refine ha Z F H σ ok x e1 _ fun v F2 H2 g r => ?_
  cases x <;> simp only [dTupleS] at e2 <;> try (cases e2; done)
  split at e2
  · rename_i hf
    cases e2
    obtain ⟨p, vs, rfl, hp, rr⟩ := rep_lst_inv r
    refine ⟨p, vs, rfl, .inl ⟨SqL.of hp, fun n hn => ?_⟩⟩
    obtain ⟨F3, g3, e3⟩ := sel_new (Z := Z) hm g.i hn (.tup vs)
    exact q _ F3 _ (g.trans g3) (rep_tup e3 (flat_reps hf rr))
  · cases e2
theorem evo_list (ha : Ev T .f ta Γ ma) : EvO T (tCB (rLstOf T.K) (tCons ta tNil)) Γ (o1 dList ma) := fun Z F H σ ok c hd Q q => by
  obtain ⟨x, e1, e2⟩ := o1_inv hd
  refine ha Z F H σ ok x e1 _ fun v F2 H2 g r => ?_
  cases x <;> simp only [dList] at e2 <;> try (cases e2; done)
  all_goals
    cases e2
    first
      | (obtain ⟨p, vs, rfl, hp, rr⟩ := rep_lst_inv r
         refine ⟨p, vs, rfl, .inl (SqL.of (g.i _ _ hp)), fun n hn => ?_⟩
         exact q n F2 _ (g.trans (Grow.lay g.i hn _)) (none_of_ex g.h hn) (none_of_ex g.i hn) (by simp only [OwnC]; exact ⟨vs, upd_same, rr⟩))
      | (obtain ⟨p, vs, rfl, hp, rr⟩ := rep_tup_inv r
         refine ⟨p, vs, rfl, .inr (SqT.of (g.i _ _ hp)), fun n hn => ?_⟩
         exact q n F2 _ (g.trans (Grow.lay g.i hn _)) (none_of_ex g.h hn) (none_of_ex g.i hn) (by simp only [OwnC]; exact ⟨vs, upd_same, rr⟩))
theorem evo_listS (ha : Ev T .h ta Γ ma) : EvO T (tCB (rLstOf T.K) (tCons ta tNil)) Γ (o1 dListS ma) := fun Z F H σ ok c hd Q q => by
  obtain ⟨x, e1, e2⟩ := o1_inv hd
  refine ha Z F H σ ok x e1 _ fun v F2 H2 g r => ?_
  cases x <;> simp only [dListS] at e2 <;> try (cases e2; done)
  · split at e2
    · rename_i hf
      cases e2
      obtain ⟨p, vs, rfl, hp, rr⟩ := rep_lst_inv r
      refine ⟨p, vs, rfl, .inl (SqL.of hp), fun n hn => ?_⟩
      exact q n F2 _ (g.trans (Grow.lay g.i hn _)) (none_of_ex g.h hn) (none_of_ex g.i hn) (by simp only [OwnC]; exact ⟨vs, upd_same, flat_reps hf rr⟩)
    · cases e2
  · split at e2
    · rename_i hf
      cases e2
      obtain ⟨p, vs, rfl, hp, rr⟩ := rep_tup_inv r
      refine ⟨p, vs, rfl, .inr (SqT.of hp), fun n hn => ?_⟩
      exact q n F2 _ (g.trans (Grow.lay g.i hn _)) (none_of_ex g.h hn) (none_of_ex g.i hn) (by simp only [OwnC]; exact ⟨vs, upd_same, flat_reps hf rr⟩)
    · cases e2
  · cases e2
    simp only [Rep] at r
    obtain ⟨p, rfl, hp⟩ := r
    refine ⟨p, _, rfl, .inl hp, fun n hn => ?_⟩
    exact q n F2 _ (g.trans (Grow.lay g.i hn _)) (none_of_ex g.h hn) (none_of_ex g.i hn) (ownN _ _)
/-! tuple(range(..)), list(range(..)) -/
def EvR (T : Th) (te : L2.St → Hp → (Int → Int → Hp → Prop) → Prop) (Γ : Ctx) (m : Option (Int × Int)) : Prop := ∀ Z F H σ, Ok T Z Γ F H σ → ∀ c, m = some c → ∀ Q : Int → Int → Hp → Prop, (∀ F2 H2, Grow F F2 H H2 → Q c.1 c.2 H2) → te σ H Q
theorem evr_1 (h : Ev T .h ta Γ ma) : EvR T (tRg1 ta) Γ ((o1 dI ma).map fun n => (0, n)) := fun Z F H σ ok c hc Q q => by
  obtain ⟨n, hn, rfl⟩ := Option.map_eq_some_iff.mp hc
  obtain ⟨x, e1, e2⟩ := o1_inv hn
  cases x <;> simp only [dI] at e2 <;> try (cases e2; done)
  cases e2
  refine h Z F H σ ok _ e1 _ fun v F2 H2 g r => ?_
  simp only [Rep] at r
  exact ⟨_, r, q F2 H2 g⟩
theorem evr_2 (h : Ev T .h ta Γ ma) (h' : Ev T .h tb Γ mb) : EvR T (tRg2 ta tb) Γ (o2 (fun a b => some (a, b)) (o1 dI ma) (o1 dI mb)) := fun Z F H σ ok c hc Q q => by
  obtain ⟨i, j, hi, hj, e⟩ := o2_inv hc
  cases e
  obtain ⟨x, e1, e2⟩ := o1_inv hi
  obtain ⟨y, e3, e4⟩ := o1_inv hj
  cases x <;> simp only [dI] at e2 <;> try (cases e2; done)
  cases e2
  cases y <;> simp only [dI] at e4 <;> try (cases e4; done)
  cases e4
  refine h Z F H σ ok _ e1 _ fun v F2 H2 g r => h' Z F2 H2 σ (ok.grow g) _ e3 _ fun w F3 H3 g' r' => ?_
  simp only [Rep] at r r'
  exact ⟨_, _, r, r', q F3 H3 (g.trans g')⟩
end
end Mi
/-! isinstance, stores, comprehensions -/
namespace Mi
open PySem L2
open PyProof.Rows
open Evl (Ex ex_t ex_l ex_rd fresh_back)
section
variable {ω α β : Type} {T : Th} {Γ : Ctx} {md : Md} {te ta tb : TE} {tt : TT} {tr : TA} {me ma mb : Option D} {ms : Option (List D)} {P : Base → Ends → ω → Prop} {i j : Nat} {wi : TI} {g : TG}
def dRg (c : Int × Int) : Option (List D) := if (-(2 ^ 62) ≤ c.1 ∧ c.1 < 2 ^ 62) ∧ (-(2 ^ 62) ≤ c.2 ∧ c.2 < 2 ^ 62) ∧ (c.2 - c.1).toNat ≤ 16777216 then some (ranged c.1 c.2) else none
theorem ranged_V {H : Hp} (a b : Int) : Reps T H (ranged a b) (rgV a b) := by
  unfold ranged rgV
  generalize (b - a).toNat = n
  induction n with
  | zero => exact Reps.nil
  | succ n ih =>
    rw [List.range_succ, List.map_append, List.map_append]
    exact ih.app (Reps.one (by simp only [Rep]))
variable {tR : L2.St → Hp → (Int → Int → Hp → Prop) → Prop} {mr : Option (Int × Int)}
theorem ev_tupRg (h : EvR T tR Γ mr) (hm : md.fh = true := by rfl) : Ev T md (tTupRg tR) Γ ((o1 dRg mr).map D.tup) := fun Z F H σ ok d hd Q q => by
  obtain ⟨ds, e1, rfl⟩ := Option.map_eq_some_iff.mp hd
  obtain ⟨c, e2, e3⟩ := o1_inv e1
  refine h Z F H σ ok c e2 _ fun F2 H2 g => ?_
  unfold dRg at e3
  split at e3
  · rename_i hc
    cases e3
    refine ⟨⟨hc.1.1, hc.1.2, hc.2.1.1, hc.2.1.2, by have := hc.2.2; omega⟩, fun n hn => ?_⟩
    obtain ⟨F3, g3, e3⟩ := sel_new (Z := Z) hm g.i hn (.tup (rgV c.1 c.2))
    exact q _ F3 _ (g.trans g3) (rep_tup e3 (ranged_V _ _))
  · cases e3
theorem evo_lstRg (h : EvR T tR Γ mr) : EvO T (tLstRg tR) Γ ((o1 dRg mr).map D.lst) := fun Z F H σ ok d hd Q q => by
  obtain ⟨ds, e1, rfl⟩ := Option.map_eq_some_iff.mp hd
  obtain ⟨c, e2, e3⟩ := o1_inv e1
  refine h Z F H σ ok c e2 _ fun F2 H2 g => ?_
  unfold dRg at e3
  split at e3
  · rename_i hc
    cases e3
    refine ⟨⟨hc.1.1, hc.1.2, hc.2.1.1, hc.2.1.2, by have := hc.2.2; omega⟩, fun n hn => ?_⟩
    exact q n F2 _ (g.trans (Grow.lay g.i hn _)) (none_of_ex g.h hn) (none_of_ex g.i hn) (by simp only [OwnC]; exact ⟨_, upd_same, ranged_V _ _⟩)
  · cases e3
/-! ### isinstance -/
def tyN : D → Option String
  | .non => some "NoneType" | .bl _ => some "bool" | .int _ => some "int" | .str _ => some "str" | .lst _ => some "list" | .tup _ => some "tuple" | .dic _ _ => some "dict" | .dit _ _ => some "dict" | .obj _ _ _ => none | .scr _ => some "list"
def isB (a b : String) : Bool := a == b || (a == "bool" && b == "int")
theorem tyX_of {H : Hp} {d : D} {v : V} {a : String} (r : Rep T H d v) (h : tyN d = some a) : TyX T.K H v (.type a) := by
  cases d <;> simp only [tyN] at h <;> cases h
  · simp only [Rep] at r; subst r; exact .base .non
  · simp only [Rep] at r; subst r; exact .base (.bl _)
  · simp only [Rep] at r; subst r; exact .base (.int _)
  · simp only [Rep] at r; subst r; exact .base (.str _)
  · obtain ⟨p, vs, rfl, hp, rr⟩ := rep_lst_inv r; exact .base (.lst hp)
  · obtain ⟨p, vs, rfl, hp, rr⟩ := rep_tup_inv r; exact .base (.tup hp)
  · simp only [Rep] at r; obtain ⟨p, vs, rfl, hp, _⟩ := r; exact .base (.dK hp)
  · simp only [Rep] at r; obtain ⟨p, vs, rfl, hp, _⟩ := r; exact .base (.dT hp)
  · simp only [Rep] at r
    obtain ⟨p, rfl, hp⟩ := r
    rcases hp with (hp | ⟨o, hp⟩) | ⟨o, its, n, h1, h2, _⟩
    · exact .base (.lst hp)
    · exact .base (.frz hp)
    · exact .kList h1 h2
/-- the types that isinstance is asked of here -/
def known (b : String) : Bool := b == "int" || b == "bool" || b == "str" || b == "list" || b == "tuple" || b == "dict"
theorem kit_all {d : D} {a b : String} (h : tyN d = some a) (hb : known b = true) : PySem.W.kitOne T.K (.type a) (.type b) = some (isB a b) := by
  have ha : a = "NoneType" ∨ a = "bool" ∨ a = "int" ∨ a = "str" ∨ a = "list" ∨ a = "tuple" ∨ a = "dict" := by
    cases d <;> simp only [tyN] at h <;> cases h <;> simp
  have hb' : b = "int" ∨ b = "bool" ∨ b = "str" ∨ b = "list" ∨ b = "tuple" ∨ b = "dict" := by
    unfold known at hb
    simp only [Bool.or_eq_true, beq_iff_eq] at hb
    rcases hb with ((((h | h) | h) | h) | h) | h <;> simp [h]
  refine kit_ty ?_
  rcases ha with rfl | rfl | rfl | rfl | rfl | rfl | rfl <;> rcases hb' with rfl | rfl | rfl | rfl | rfl | rfl <;> decide +kernel
def dIsi (b : String) (d : D) : Option D := (tyN d).bind fun a => if known b = true then some (.bl (isB a b)) else none
def dIsi2 (b c : String) (d : D) : Option D := (tyN d).bind fun a => if known b = true ∧ known c = true then some (.bl (isB a b || isB a c)) else none
theorem ev_isi {n : String} (ha : Ev T .h ta Γ ma) : Ev T md (tCB (rIsi T.K) (tCons ta (tCons (tC (.ty n)) tNil))) Γ (o1 (dIsi n) ma) := fun Z F H σ ok c hd Q q => by
  obtain ⟨x, e1, e2⟩ := o1_inv hd
  obtain ⟨a, e3, e4⟩ := bind_inv (show (tyN x).bind _ = some c from e2)
  split at e4
  · rename_i hk
    cases e4
    refine ha Z F H σ ok x e1 _ fun v F2 H2 g r => ?_
    exact ⟨v, .ty n, _, _, _, rfl, .ty n, tyX_of r e3, kit_all e3 hk, q _ F2 H2 g (by simp only [Rep])⟩
  · cases e4
theorem ev_isi2 {n k : String} (ha : Ev T .h ta Γ ma) : Ev T md (tCB (rIsiT T.K) (tCons ta (tCons (tTup (tCons (tC (.ty n)) (tCons (tC (.ty k)) tNil))) tNil))) Γ (o1 (dIsi2 n k) ma) := fun Z F H σ ok c hd Q q => by
  obtain ⟨x, e1, e2⟩ := o1_inv hd
  obtain ⟨a, e3, e4⟩ := bind_inv (show (tyN x).bind _ = some c from e2)
  split at e4
  · rename_i hk
    cases e4
    refine ha Z F H σ ok x e1 _ fun v F2 H2 g r => ⟨by show 2 ≤ sizeLine; rw [line_eq]; decide, fun p hp => ?_⟩
    refine ⟨v, p, _, _, [.type n, .type k], (isB a n || isB a k), rfl, upd_same, .cons (.ty n) (.cons (.ty k) .nil), tyX_of (r.mono (Ex.new hp)) e3, ?_, q _ F2 _ (g.trans (Grow.lay g.i hp _)) (by simp only [Rep])⟩
    unfold PySem.W.kitAny
    rw [kit_all (T := T) e3 hk.1]
    cases h1 : isB a n with
    | true => rfl
    | false =>
      show PySem.W.kitAny T.K (.type a) [.type k] = _
      unfold PySem.W.kitAny
      rw [kit_all (T := T) e3 hk.2]
      cases h2 : isB a k <;> rfl
  · cases e4
/-- isinstance of an own class: what the written part says of it -/
structure ClsI (T : Th) (c : Str) : Prop where
  no : ∀ d a, tyN d = some a → PySem.W.kitOne T.K (.type a) (.ref (T.C c)) = some false
  cl : Cls T.K (T.C c)
  ha : PySem.W.findIn T.K (.ref (T.C c)) "__class__" = some (some (.builtin "object.__class__"))
  hn : PySem.W.specialIn T.K (.builtin "object.__class__") "__get__" = some (some (.builtin "getset_descriptor.__get__"))
  ht : PySem.W.takesIn T.K (.builtin "object.__class__") = some true
  hm : PySem.W.mroIn T.K (T.C c) (.type "object") = some true
def dIsiC (c : Str) (d : D) : Option D := match d with
  | .obj c' _ _ => if c' = c then some (.bl true) else none
  | d => (tyN d).map fun _ => .bl false
theorem ev_isiC {c : Str} (I : ClsI T c) (ha : Ev T .h ta Γ ma) : Ev T md (tCB (rIsi T.K) (tCons ta (tCons (tC (.ref (T.C c))) tNil))) Γ (o1 (dIsiC c) ma) := fun Z F H σ ok e hd Q q => by
  obtain ⟨x, e1, e2⟩ := o1_inv hd
  refine ha Z F H σ ok x e1 _ fun v F2 H2 g r => ?_
  have hx : (∃ ns ds, x = .obj c ns ds ∧ e = .bl true) ∨ ∃ a, tyN x = some a ∧ e = .bl false := by
    cases x <;> simp only [dIsiC, tyN] at e2 <;> first | (cases e2; exact .inr ⟨_, rfl, rfl⟩) | skip
    split at e2
    · rename_i h; subst h; cases e2; exact .inl ⟨_, _, rfl, rfl⟩
    · cases e2
  rcases hx with ⟨ns, ds, rfl, rfl⟩ | ⟨a, h1, rfl⟩
  · simp only [Rep] at r
    obtain ⟨p, dx, vs, rfl, hp, _⟩ := r
    refine ⟨_, .ref (T.C c), .ref (T.C c), .ref (T.C c), true, rfl, .own _, .base (.ins hp I.cl I.ha I.hn I.ht I.hm), ?_, q _ F2 H2 g (by simp only [Rep])⟩
    unfold PySem.W.kitOne
    rw [if_pos (by simp)]
  · exact ⟨v, .ref (T.C c), _, _, _, rfl, .own _, tyX_of r h1, I.no x a h1, q _ F2 H2 g (by simp only [Rep])⟩
/-! ### stores -/
def dApp : D → D → Option D
  | .lst ds, d => if ds.length < 16777216 then some (.lst (ds ++ [d])) else none
  | _, _ => none
@[simp] theorem dApp_lst (ds : List D) (d : D) : dApp (.lst ds) d = if ds.length < 16777216 then some (.lst (ds ++ [d])) else none := id rfl
/-- what an owned slot holds -/
def Slot.isOwnD : Slot → D → Prop
  | .own d, e => d = e
  | .mu d, e => d = e
  | _, _ => False
def Slot.put : Slot → D → Slot
  | .own _, e => .own e
  | .mu _, e => .mu e
  | s, _ => s
theorem own_slot {Z : Base} {F H : Hp} {σ : L2.St} {s : Slot} {d : D} (ok : Ok T Z Γ F H σ) (hs : Γ[i]? = some s) (ho : s.isOwnD d) : ∃ p, σ[i]? = some (some (.ref p)) ∧ F p = none ∧ OwnC T F H p d ∧
    ∀ d' o, OwnC T F (upd H p o) p d' → Ok T Z (Γ.set i (s.put d')) F (upd H p o) σ := by
  have h := ok.at' i s hs
  cases s <;> simp only [Slot.isOwnD] at ho
  · subst ho
    obtain ⟨p, a, b, c, e, f⟩ := h
    exact ⟨p, a, c, e, fun d' o hc => ok.chg hs rfl a (.inl ⟨rfl, _, rfl⟩) hc⟩
  · subst ho
    obtain ⟨p, a, a', b, c, e⟩ := h
    exact ⟨p, a, c, e, fun d' o hc => ok.chg hs rfl a (.inr ⟨rfl, _, rfl⟩) hc⟩
theorem tyV_lst {K : PySem.W.Frag} {H : Hp} {p : Addr} {xs : List V} (h : H p = some (.lst xs)) : tyV K "list" (.ref p) H := Or.inl ⟨rfl, _, Or.inl (Or.inl h)⟩
/-- xs.append(e) -/
theorem bp_app {s : Slot} {d : D} (hs : Γ[i]? = some s) (ho : s.isOwnD d) (he : Ev T .f te Γ me) : B T (tDrop (tBM T.K "list" rAppend (tVar i) (tCons te tNil))) Γ (me.bind fun e => dApp d e) (PP T fun d' => Γ.set i (s.put d')) := fun Z F H σ ok d' hd E p => by
  obtain ⟨e, e1, e2⟩ := bind_inv hd
  cases d <;> simp only [dApp] at e2 <;> try (cases e2; done)
  split at e2
  · rename_i hl
    cases e2
    obtain ⟨q, a, b, c, k⟩ := own_slot ok hs ho
    simp only [OwnC] at c
    obtain ⟨vs, c1, c2⟩ := c
    refine ⟨_, a, tyV_lst c1, he Z F H σ ok e e1 _ fun v F2 H2 g r => ?_⟩
    obtain ⟨q', a', b', c', k'⟩ := own_slot (ok.grow g) hs ho
    rw [a] at a'; cases a'
    simp only [OwnC] at c'
    obtain ⟨vs', c1', c2'⟩ := c'
    refine ⟨q, vs', v, rfl, rfl, c1', by rw [line_eq, ← c2'.len]; exact hl, p F2 _ σ (k' _ _ (by simp only [OwnC]; exact ⟨_, upd_same, c2'.app (Reps.one r)⟩))⟩
  · cases e2
/-- xs[i] = e, d[k] = e -/
def rDSet : V → V → V → Hp → (Hp → Prop) → Prop := fun o i v H Q => ∃ a H', o = .ref a ∧ DPut H a i v H' ∧ Q H'
def rSetA : V → V → V → Hp → (Hp → Prop) → Prop := fun o i v H Q => rSetL o i v H Q ∨ rDSet o i v H Q
theorem set_A {X : Cx} (hu : X.A.units + 64 < cLine) : PSet X rSetA := fun pins s σ H o i v ov iv u Q I ro ri rv h => by
  rcases h with h | ⟨a, H', rfl, g, q⟩
  · exact set_list pins s σ H o i v ov iv u Q I ro ri rv h
  · cases (show ov = Value.ref a from ro)
    exact d_setItem (by omega) I g ri rv fun s' I' => ⟨H', I', q⟩
def putKD {κ : Type} [DecidableEq κ] (ks : List κ) (ds : List D) (k : κ) (d : D) : List κ × List D :=
  match ks, ds with
  | a :: ks, e :: ds => if a = k then (a :: ks, d :: ds) else let r := putKD ks ds k d; (a :: r.1, e :: r.2)
  | _, _ => ([k], [d])
def dSet : D → D → D → Option D
  | .lst ds, .int i, e => (ixN ds.length i).map fun j => .lst (ds.set j e)
  | .dic ks ds, k, e => (keyOf k).bind fun k => if ks.length < 16777216 ∧ ks.length = ds.length ∧ ks.Nodup then some (.dic (putKD ks ds k e).1 (putKD ks ds k e).2) else none
  | .dit ks ds, .tup es, e => (keysOf es).bind fun k => if ks.length < 16777216 ∧ ks.length = ds.length ∧ ks.Nodup then some (.dit (putKD ks ds k e).1 (putKD ks ds k e).2) else none
  | _, _, _ => none
theorem putK_eq {κ : Type} [DecidableEq κ] {H : Hp} {k : κ} {d : D} {v : V} (r : Rep T H d v) : ∀ {ks : List κ} {ds : List D} {vs : List V}, ks.Nodup → ks.length = ds.length → Reps T H ds vs →
    ∃ vs', putK (ks.zip vs) k v = (putKD ks ds k d).1.zip vs' ∧ (putKD ks ds k d).1.length = vs'.length ∧ Reps T H (putKD ks ds k d).2 vs' ∧ ((putKD ks ds k d).1 = ks ∨ (k ∉ ks ∧ (putKD ks ds k d).1 = ks ++ [k]))
  | [], [], vs, hn, hl, rr => by
    simp only [Reps] at rr; subst rr
    exact ⟨[v], rfl, rfl, Reps.one r, .inr ⟨by simp, rfl⟩⟩
  | [], _ :: _, vs, hn, hl, rr => by cases hl
  | _ :: _, [], vs, hn, hl, rr => by cases hl
  | a :: ks, e :: ds, vs, hn, hl, rr => by
    obtain ⟨w, r', rfl, s, t⟩ := rr.uncons
    obtain ⟨hn1, hn2⟩ := List.nodup_cons.mp hn
    by_cases h : a = k
    · subst h
      have e1 : putKD (a :: ks) (e :: ds) a d = (a :: ks, d :: ds) := by simp [putKD]
      rw [e1]
      refine ⟨v :: r', ?_, by simpa [← t.len] using hl, Reps.cons r t, .inl rfl⟩
      have nz : ∀ x ∈ ks.zip r', ¬ x.1 = a := fun x hx q => hn1 (by rw [← q]; exact (List.of_mem_zip hx).1)
      unfold putK
      have hany : ((a :: ks).zip (w :: r')).any (fun kv => decide (kv.1 = a)) = true := by simp
      first
        | (rw [if_pos hany]
           show (List.map _ ((a, w) :: ks.zip r')) = _
           rw [List.map_cons]
           have hm : (ks.zip r').map (fun kv => if kv.1 = a then (kv.1, v) else kv) = ks.zip r' := by
             refine (List.map_congr_left fun x hx => ?_).trans (List.map_id _)
             rw [if_neg (nz x hx)]; rfl
           simp [hm])
        | skip
    · have ih := putK_eq (k := k) r hn2 (by simpa using hl) t
      obtain ⟨vs', i1, i2, i3, i4⟩ := ih
      have e1 : putKD (a :: ks) (e :: ds) k d = (a :: (putKD ks ds k d).1, e :: (putKD ks ds k d).2) := by simp [putKD, h]
      rw [e1]
      refine ⟨w :: vs', ?_, by simp [i2], Reps.cons s i3, ?_⟩
      · show putK ((a, w) :: ks.zip r') k v = (a, w) :: (putKD ks ds k d).1.zip vs'
        rw [← i1]
        unfold putK
        simp only [List.any_cons, h, decide_false, Bool.false_or, List.map_cons, if_false, List.cons_append]
        split <;> rfl
      · rcases i4 with i4 | ⟨i4, i5⟩
        · exact .inl (by rw [i4])
        · exact .inr ⟨by simp only [List.mem_cons, not_or]; exact ⟨fun q => h q.symm, i4⟩, by rw [i5]; rfl⟩
/-- xs[i] = e, d[k] = e, the owner a slot; the value is read first -/
theorem bp_put {s : Slot} {d : D} {ti : TE} {mi : Option D} (hs : Γ[i]? = some s) (ho : s.isOwnD d) (he : Ev T .f te Γ me) (hi : Ev T .f ti Γ mi) :
    B T (tAsg te (gSub (tVar i) ti rSetA)) Γ (me.bind fun e => mi.bind fun k => dSet d k e) (PP T fun d' => Γ.set i (s.put d')) := fun Z F H σ ok d' hd E p => by
  obtain ⟨e, e1, hd⟩ := bind_inv hd
  obtain ⟨k, e2, hd⟩ := bind_inv hd
  refine he Z F H σ ok e e1 _ fun v F2 H2 g r => ?_
  obtain ⟨q, a, _, _, _⟩ := own_slot ok hs ho
  refine ⟨_, a, hi Z F2 H2 σ (ok.grow g) k e2 _ fun w F3 H3 g3 r3 => ?_⟩
  have r := r.mono g3.f
  obtain ⟨q', a', b, c, kk⟩ := own_slot ((ok.grow g).grow g3) hs ho
  rw [a] at a'; cases a'
  cases d <;> simp only [dSet] at hd <;> try (cases hd; done)
  · cases k <;> simp only at hd <;> try (cases hd; done)
    obtain ⟨j, hj, rfl⟩ := Option.map_eq_some_iff.mp hd
    simp only [OwnC] at c
    obtain ⟨vs, c1, c2⟩ := c
    simp only [Rep] at r3; subst r3
    refine .inl ⟨q, vs, _, j, rfl, rfl, c1, by rw [← c2.len]; exact hj, p F3 _ σ (kk _ _ (by simp only [OwnC]; exact ⟨_, upd_same, c2.set j r⟩))⟩
  · obtain ⟨ky, hk, hd⟩ := bind_inv hd
    split at hd
    · rename_i hz
      cases hd
      have ew := keyOf_V r3 hk
      simp only [OwnC] at c
      obtain ⟨vs, c1, cl, c2⟩ := c
      obtain ⟨vs', z1, z2, z3, _⟩ := putK_eq r hz.2.2 hz.2.1 c2 (k := ky)
      refine .inr ⟨q, _, rfl, .inl ⟨_, ky, c1, ew, by rw [List.length_zip, cl, Nat.min_self, line_eq, ← cl]; exact hz.1, rfl⟩, p F3 _ σ (kk _ _ ?_)⟩
      simp only [OwnC]
      exact ⟨vs', by rw [upd_same, z1], z2, z3⟩
    · cases hd
  · cases k <;> simp only at hd <;> try (cases hd; done)
    rename_i es
    obtain ⟨ky, hk, hd⟩ := bind_inv hd
    split at hd
    · rename_i hz
      cases hd
      obtain ⟨pt, ws, rfl, hpt, rr⟩ := rep_tup_inv r3
      have ew := keysOf_V rr hk
      subst ew
      simp only [OwnC] at c
      obtain ⟨vs, c1, cl, c2⟩ := c
      obtain ⟨vs', z1, z2, z3, _⟩ := putK_eq r hz.2.2 hz.2.1 c2 (k := ky)
      refine .inr ⟨q, _, rfl, .inr ⟨_, ky, pt, c1, rfl, g3.i _ _ hpt, by rw [List.length_zip, cl, Nat.min_self, line_eq, ← cl]; exact hz.1, rfl⟩, p F3 _ σ (kk _ _ ?_)⟩
      simp only [OwnC]
      exact ⟨vs', by rw [upd_same, z1], z2, z3⟩
    · cases hd
/-- x = xs.pop() -/
def dPop : D → Option (D × D)
  | .lst ds => match ds.getLast? with
    | some d => some (d, .lst ds.dropLast)
    | none => none
  | _ => none
theorem bp_pop {s : Slot} {d : D} (hij : i ≠ j) (hs : Γ[i]? = some s) (ho : s.isOwnD d) : B T (tAsg (tBM0 T.K "list" rPop (tVar i)) (gName j)) Γ (dPop d) (PP T fun c => (Γ.set i (s.put c.2)).set j (.val c.1)) := fun Z F H σ ok c' hd E p => by
  cases d <;> simp only [dPop] at hd <;> try (cases hd; done)
  rename_i ds
  split at hd
  · rename_i dl hl
    cases hd
    obtain ⟨q, a, b, c, k⟩ := own_slot ok hs ho
    simp only [OwnC] at c
    obtain ⟨vs, c1, c2⟩ := c
    have hl' : ds[ds.length - 1]? = some dl := by rw [← List.getLast?_eq_getElem?]; exact hl
    obtain ⟨v, hv, rv⟩ := c2.get hl'
    rw [c2.len] at hv
    refine ⟨_, a, tyV_lst c1, q, vs, v, rfl, rfl, c1, hv, p F _ _ ?_⟩
    have ok2 := k (.lst ds.dropLast) (.lst vs.dropLast) (by
      simp only [OwnC]
      refine ⟨_, upd_same, ?_⟩
      rw [List.dropLast_eq_take, List.dropLast_eq_take, c2.len]
      exact c2.take _)
    exact ok2.setVal rv
  · cases hd
/-- xs.sort() of ints, xs.reverse() -/
def dSortL : D → Option D
  | .lst ds => (asInts ds).map fun ns => .lst ((sortI ns).map D.int)
  | _ => none
theorem bp_sort {s : Slot} {d : D} (hs : Γ[i]? = some s) (ho : s.isOwnD d) : B T (tDrop (tBM0 T.K "list" rSortI (tVar i))) Γ (dSortL d) (PP T fun d' => Γ.set i (s.put d')) := fun Z F H σ ok c' hd E p => by
  cases d <;> simp only [dSortL] at hd <;> try (cases hd; done)
  obtain ⟨ns, e1, rfl⟩ := Option.map_eq_some_iff.mp hd
  obtain ⟨q, a, b, c, k⟩ := own_slot ok hs ho
  simp only [OwnC] at c
  obtain ⟨vs, c1, c2⟩ := c
  rw [asInts_inv e1] at c2
  have hv := c2.ints
  subst hv
  refine ⟨_, a, tyV_lst c1, q, ns, rfl, rfl, c1, fun ns' h1 h2 => p F _ σ (k _ _ ?_)⟩
  rw [sortI_of h1 h2]
  simp only [OwnC]
  exact ⟨_, upd_same, Reps.of_ints _⟩
theorem reps_rev {H : Hp} : ∀ {ds : List D} {vs : List V}, Reps T H ds vs → Reps T H ds.reverse vs.reverse
  | [], vs, h => by simp only [Reps] at h; subst h; exact Reps.nil
  | d :: ds, vs, h => by
    obtain ⟨w, r, rfl, s, t⟩ := h.uncons
    rw [List.reverse_cons, List.reverse_cons]
    exact (reps_rev t).app (Reps.one s)
def dRevL : D → Option D
  | .lst ds => some (.lst ds.reverse)
  | _ => none
theorem bp_rev {s : Slot} {d : D} (hs : Γ[i]? = some s) (ho : s.isOwnD d) : B T (tDrop (tBM0 T.K "list" rReverse (tVar i))) Γ (dRevL d) (PP T fun d' => Γ.set i (s.put d')) := fun Z F H σ ok c' hd E p => by
  cases d <;> simp only [dRevL] at hd <;> try (cases hd; done)
  cases hd
  obtain ⟨q, a, b, c, k⟩ := own_slot ok hs ho
  simp only [OwnC] at c
  obtain ⟨vs, c1, c2⟩ := c
  exact ⟨_, a, tyV_lst c1, q, vs, rfl, rfl, c1, p F _ σ (k _ _ (by simp only [OwnC]; exact ⟨_, upd_same, reps_rev c2⟩))⟩
/-- {} -/
theorem evo_dict : EvO T tDNewK Γ (some (.dic [] [])) := fun Z F H σ ok d hd Q q => by
  cases hd
  exact fun n hn => q n F _ (Grow.lay ok.hv.f hn _) hn (none_of_ex ok.hv.f hn) (by simp only [OwnC]; exact ⟨[], upd_same, rfl, Reps.nil⟩)
theorem evo_dictT : EvO T tDNewT Γ (some (.dit [] [])) := fun Z F H σ ok d hd Q q => by
  cases hd
  exact fun n hn => q n F _ (Grow.lay ok.hv.f hn _) hn (none_of_ex ok.hv.f hn) (by simp only [OwnC]; exact ⟨[], upd_same, rfl, Reps.nil⟩)
/-- x += e, x a name that holds an int -/
def dAddI : D → D → Option D
  | .int a, .int b => some (.int (a + b))
  | _, _ => none
theorem bp_aug {f : Int → Int → Int} {h : D → D → Option D} {ma : Option D} (hh : ∀ d e c, h d e = some c → ∃ a b, d = .int a ∧ e = .int b ∧ c = .int (f a b)) (ha : Ev T .h (tVar i) Γ ma) (he : Ev T .h te Γ me) :
    B T (tAug i te (ipI f)) Γ (o2 h ma me) (PP T fun d => Γ.set i (.val d)) := fun Z F H σ ok d hd E p => by
  obtain ⟨x, y, e1, e2, e3⟩ := o2_inv hd
  obtain ⟨a, b, rfl, rfl, rfl⟩ := hh _ _ _ e3
  have h1 := ha Z F H σ ok _ e1 (fun v H' => v = .int a ∧ H' = H ∨ True) (fun v F2 H2 g r => .inr trivial)
  obtain ⟨v, hv, _⟩ := h1
  have h2 := ha Z F H σ ok _ e1 (fun v H' => v = .int a) (fun v F2 H2 g r => by simpa only [Rep] using r)
  obtain ⟨v', hv', hv2⟩ := h2
  subst hv2
  refine ⟨_, hv', he Z F H σ ok _ e2 _ fun w F2 H2 g r => ?_⟩
  simp only [Rep] at r
  subst r
  exact ⟨a, b, rfl, rfl, p F2 H2 _ ((ok.grow g).setVal (by simp only [Rep]))⟩
theorem bp_augAdd {ma : Option D} (ha : Ev T .h (tVar i) Γ ma) (he : Ev T .h te Γ me) : B T (tAug i te (ipI fun i j => i + j)) Γ (o2 dAddI ma me) (PP T fun d => Γ.set i (.val d)) :=
  bp_aug (fun d e c h => by cases d <;> cases e <;> simp only [dAddI] at h <;> first | (cases h; exact ⟨_, _, rfl, rfl, rfl⟩) | cases h) ha he
theorem bp_augSub {ma : Option D} (ha : Ev T .h (tVar i) Γ ma) (he : Ev T .h te Γ me) : B T (tAug i te (ipI fun i j => i - j)) Γ (o2 dSub ma me) (PP T fun d => Γ.set i (.val d)) :=
  bp_aug (fun d e c h => by cases d <;> cases e <;> simp only [dSub] at h <;> first | (cases h; exact ⟨_, _, rfl, rfl, rfl⟩) | cases h) ha he
/-- xs[i] += e -/
def getIx (K : PySem.W.Frag) : V → V → Hp → VK → Prop := rIxA K
end
end Mi
/-! comprehensions, xs[i] += e -/
namespace Mi
open PySem L2
open PyProof.Rows
open Evl (Ex ex_t ex_l ex_rd fresh_back)
/-- all that is owned is only read -/
def Slot.frz : Slot → Slot
  | .own d => .bor d
  | .mu d => .bor d
  | s => s
def frz (Γ : Ctx) : Ctx := Γ.map Slot.frz
def noAt (Γ : Ctx) (vs : List Nat) : Bool := vs.all fun v => match Γ[v]? with | some .no => true | none => true | _ => false
section
variable {T : Th} {Z : Base} {Γ : Ctx} {F H F' H' : Hp} {σ : L2.St} {vs : List Nat}
theorem noAt_at (h : noAt Γ vs = true) {i : Nat} {s : Slot} (e : Γ[i]? = some s) (hi : i ∈ vs) : s = .no := by
  have := List.all_eq_true.mp h i hi
  rw [e] at this
  cases s <;> simp at this; rfl
theorem Ok.frzd (ok : Ok T Z Γ F H σ) (hw : noAt Γ vs = true) : Ok T ⟨H, F, H, fun _ => 0⟩ (frz Γ) F H (wipe σ vs) := by
  have hget : ∀ (i : Nat) (s : Slot), (frz Γ)[i]? = some s → ∃ s', Γ[i]? = some s' ∧ s = s'.frz := fun i s e => by
    unfold frz at e
    rw [List.getElem?_map] at e
    obtain ⟨s', h1, h2⟩ := Option.map_eq_some_iff.mp e
    exact ⟨s', h1, h2.symm⟩
  refine ⟨⟨Ex.refl H, Ex.refl F, ok.hv.f, fun _ q => q, fun a q => .inl q⟩, by unfold frz; rw [List.length_map, wipe_length]; exact ok.len, fun i s e => ?_, fun i j p s t e1 o1 => ?_⟩
  · obtain ⟨s', h1, rfl⟩ := hget i s e
    by_cases hi : i ∈ vs
    · have := noAt_at hw h1 hi
      subst this
      trivial
    · rw [wipe_out hi]
      have old := ok.at' i s' h1
      cases s' <;> simp only [Slot.frz, SlotOk] at old ⊢
      · exact old
      · obtain ⟨v, a, b⟩ := old; exact ⟨v, a, b.mono ok.hv.b⟩
      · obtain ⟨p, a, b, c, d, _⟩ := old; exact ⟨_, a, d.rep ok.hv.f⟩
      · obtain ⟨p, a, a', b, c, d⟩ := old; exact ⟨_, a, d.rep ok.hv.f⟩
  · obtain ⟨s', h1, rfl⟩ := hget i s e1
    cases s' <;> cases o1
theorem Ok.frzs (ok : Ok T Z Γ F H σ) : Ok T ⟨H, F, H, fun _ => 0⟩ (frz Γ) F H σ := by
  have := ok.frzd (vs := []) rfl
  exact this
theorem frz_own {s : Slot} {i : Nat} (h : (frz Γ)[i]? = some s) : s.isOwn = false := by
  unfold frz at h
  rw [List.getElem?_map] at h
  obtain ⟨s', _, rfl⟩ := Option.map_eq_some_iff.mp h
  cases s' <;> rfl
theorem Ok.ofHv (ok : Ok T Z (frz Γ) F H σ) (hz : Z.F = F) (hv : Hv Z F' H') : Ok T Z (frz Γ) F' H' σ := by
  subst hz
  refine ⟨hv, ok.len, fun i s e => ?_, fun i j p s t e1 o1 => ?_⟩
  · have old := ok.at' i s e
    have no := frz_own e
    cases s <;> simp only [SlotOk, Slot.isOwn] at old no ⊢ <;> first | exact old | (cases no; done) | skip
    obtain ⟨v, a, b⟩ := old; exact ⟨v, a, b.mono hv.f0⟩
  · have no := frz_own e1
    rw [no] at o1; cases o1
end
/-- a target stores the block's own names alone -/
def Tin (g : TG) (vs : List Nat) : Prop := ∀ x σ0 σ H (Q Q' : L2.St → Hp → Prop), wipe σ vs = wipe σ0 vs → (∀ σ2 H2, wipe σ2 vs = wipe σ0 vs → Q σ2 H2 → Q' σ2 H2) → g x σ H Q → g x σ H Q'
def Tins (g : TGs) (vs : List Nat) : Prop := ∀ xs σ0 σ H (Q Q' : L2.St → Hp → Prop), wipe σ vs = wipe σ0 vs → (∀ σ2 H2, wipe σ2 vs = wipe σ0 vs → Q σ2 H2 → Q' σ2 H2) → g xs σ H Q → g xs σ H Q'
theorem wipe_set_out {σ : L2.St} {j : Nat} {x : Option V} : ∀ {vs : List Nat}, j ∉ vs → wipe (σ.set j x) vs = (wipe σ vs).set j x
  | [], _ => rfl
  | v :: vs, h => by
    have h1 : v ≠ j := fun e => h (by rw [e]; exact List.mem_cons_self)
    have h2 : j ∉ vs := fun m => h (List.mem_cons_of_mem _ m)
    unfold wipe
    rw [wipe_set_out h2, List.set_comm _ _ h1.symm]
theorem wipe_set {σ : L2.St} {j : Nat} {x : Option V} : ∀ {vs : List Nat}, j ∈ vs → wipe (σ.set j x) vs = wipe σ vs
  | [], h => by cases h
  | v :: vs, h => by
    unfold wipe
    by_cases h2 : j ∈ vs
    · rw [wipe_set h2]
    · rcases List.mem_cons.mp h with e | h
      · subst e
        rw [wipe_set_out h2, List.set_set]
      · exact absurd h h2
theorem tin_name {j : Nat} {vs : List Nat} (h : j ∈ vs) : Tin (gName j) vs := fun x σ0 σ H Q Q' e k q => k _ _ (by rw [wipe_set h]; exact e) q
theorem tins_nil {vs : List Nat} : Tins gNil vs := fun xs σ0 σ H Q Q' e k q => ⟨q.1, k _ _ e q.2⟩
theorem tins_cons {g : TG} {u : TGs} {vs : List Nat} (hg : Tin g vs) (hu : Tins u vs) : Tins (gCons g u) vs := fun xs σ0 σ H Q Q' e k q => by
  obtain ⟨v, r, rfl, q⟩ := q
  exact ⟨v, r, rfl, hg v σ0 σ H _ _ e (fun σ2 H2 e2 z => hu r σ0 σ2 H2 Q Q' e2 k z) q⟩
theorem tin_tup {K : PySem.W.Frag} {n : Nat} {u : TGs} {vs : List Nat} (hu : Tins u vs) : Tin (gTup K n u) vs := fun x σ0 σ H Q Q' e k q => by
  obtain ⟨a, xs, h1, h2, h3, q⟩ := q
  exact ⟨a, xs, h1, h2, h3, hu xs σ0 σ H Q Q' e k q⟩
/-- the element behind its tests, as a block -/
def tCE (tt : TT) (te : TE) : TS := fun E σ H => tt σ H fun b H3 => if b = true then te σ H3 E.rt else E.nx σ H3
abbrev PC (T : Th) : Base → Ends → Option D → Prop := fun Z E o => match o with
  | some d => ∀ v F H, Hv Z F H → Rep T F d v → E.rt v H
  | none => ∀ F H σ, Hv Z F H → E.nx σ H
def optC : Option D → List D → List D
  | some e, r => e :: r
  | none, r => r
@[simp] theorem optC_s (e : D) (r : List D) : optC (some e) r = e :: r := id rfl
@[simp] theorem optC_n (r : List D) : optC none r = r := id rfl
def compO {ι : Type} (f : ι → Option (Option D)) : List ι → Option (List D)
  | [] => some []
  | d :: ds => (f d).bind fun o => (compO f ds).map fun r => optC o r
theorem compO_cons {ι : Type} (f : ι → Option (Option D)) (d : ι) (ds : List ι) : compO f (d :: ds) = (f d).bind fun o => (compO f ds).map fun r => optC o r := rfl
@[simp] theorem compO_nil {ι : Type} (f : ι → Option (Option D)) : compO f [] = some [] := id rfl
def dComp {ι : Type} (f : ι → Option (Option D)) (ds : List ι) : Option D := if ds.length ≤ 16777216 then (compO f ds).map D.lst else none
section
variable {T : Th} {Γ : Ctx} {md ma mb : Md} {te : TE} {tt : TT} {me : Option D} {mc : Option Bool} {wi : TI} {g : TG} {vs : List Nat}
theorem ce_if (hc : EvT T tt Γ mc) (he : Ev T .f te Γ me) : B T (tCE tt te) Γ (mc.bind fun c => if c = true then me.map some else some none) (PC T) := fun Z F H σ ok o ho E p => by
  obtain ⟨c, e1, e2⟩ := bind_inv ho
  refine hc Z F H σ ok c e1 _ fun F2 H2 g => ?_
  cases c with
  | true =>
    obtain ⟨d, e3, rfl⟩ := Option.map_eq_some_iff.mp (show me.map some = some o from e2)
    exact he Z F2 H2 σ (ok.grow g) d e3 _ fun v F3 H3 g' r => p v F3 H3 ((ok.hv.grow g).grow g') r
  | false =>
    cases e2
    exact p F2 H2 σ (ok.hv.grow g)
theorem ce_all (he : Ev T .f te Γ me) : B T (tCE tYes te) Γ (me.map some) (PC T) := fun Z F H σ ok o ho E p => by
  obtain ⟨d, e3, rfl⟩ := Option.map_eq_some_iff.mp ho
  exact he Z F H σ ok d e3 _ fun v F3 H3 g' r => p v F3 H3 (ok.hv.grow g') r
theorem Ok.reb {F0 H0 F H : Hp} {σ : L2.St} (ok : Ok T ⟨H0, F0, H0, fun _ => 0⟩ (frz Γ) F0 H0 σ) (ef : Ex F0 F) (ei : Ex F H) (eh : Ex H0 H) : Ok T ⟨H, F, H, fun _ => 0⟩ (frz Γ) F H σ := by
  refine ⟨⟨Ex.refl H, Ex.refl F, ei, fun _ q => q, fun a q => .inl q⟩, ok.len, fun i s e => ?_, fun i j p s t e1 o1 => ?_⟩
  · have old := ok.at' i s e
    have no := frz_own e
    cases s <;> simp only [SlotOk, Slot.isOwn] at old no ⊢ <;> first | (cases no; done) | skip
    · obtain ⟨v, a, b⟩ := old; exact ⟨v, a, b.mono ef⟩
    · obtain ⟨v, a, b⟩ := old; exact ⟨v, a, b.mono eh⟩
  · have no := frz_own e1
    rw [no] at o1; cases o1
/-- the engine of both comprehensions -/
theorem comp_go {ι : Type} {f : ι → Option (Option D)} {J : It} {ds : List ι} {F0 H0 : Hp} {σ : L2.St} {Q : VK} (hg : Tin g vs)
    (ok : Ok T ⟨H0, F0, H0, fun _ => 0⟩ (frz Γ) F0 H0 (wipe σ vs)) {F1 H1 : Hp} (gr : Grow F0 F1 H0 H1) {L : Addr} (hL : H1 L = none)
    (go : ∀ i F H, i < ds.length → Ex F1 F → Ex F H → Ex H0 H → J.go i H) (stop : ∀ F H, Ex F1 F → Ex F H → Ex H0 H → J.stop ds.length H)
    (turn : ∀ (i : Nat) F H d, ds[i]? = some d → Ex F1 F → Ex F H → Ex H0 H → ∀ x H', J.yld i H x H' → ∃ F', Grow F F' H H' ∧ (∀ o, f d = some o → ∀ E' : Ends, PC T ⟨H', F', H', fun _ => 0⟩ E' o → ∀ Q' : L2.St → Hp → Prop, (∀ σ2 H2, tCE tt te E' σ2 H2 → Q' σ2 H2) → g x (wipe σ vs) H' Q'))
    (hz : ds.length ≤ 16777216) {total : List D} (ht : compO f ds = some total) (q : ∀ p F2 H2, Grow F0 F2 H0 H2 → H0 p = none → F2 p = none → OwnC T F2 H2 p (.lst total) → Q (.ref p) H2) :
    ∃ W : Nat → Nat → Hp → Prop, (∃ m, W 0 m (upd H1 L (.lst []))) ∧ ∀ i m H, W i m H →
      (J.stop i H ∧ Q (.ref L) H) ∨ (J.go i H ∧ ∃ Nx : Hp → Prop, (∀ H', Nx H' → ∃ m', m' < m ∧ W (i + 1) m' H') ∧ ∀ x H', J.yld i H x H' → g x (wipe σ vs) H' fun σ2 H2 => wipe σ2 vs = wipe σ vs ∧ tt σ2 H2 fun b H3 =>
        if b = true then te σ2 H3 fun y H4 => ∃ acc, H4 L = some (.lst acc) ∧ acc.length < sizeLine ∧ Nx (upd H4 L (.lst (acc ++ [y]))) else Nx H3) := by
  have hL0 : H0 L = none := none_of_ex gr.h hL
  have ww : wipe (wipe σ vs) vs = wipe σ vs := by
    have : ∀ (us : List Nat) (τ : L2.St), (∀ u ∈ us, u ∈ vs) → wipe (wipe τ us) vs = wipe τ vs := by
      intro us
      induction us with
      | nil => intro τ _; rfl
      | cons u us ih =>
        intro τ h
        show wipe ((wipe τ us).set u none) vs = _
        rw [wipe_set (h u (List.mem_cons_self ..)), ih τ fun x hx => h x (List.mem_cons_of_mem _ hx)]
    exact this vs σ fun _ h => h
  refine ⟨fun i m H => m = ds.length - i ∧ i ≤ ds.length ∧ ∃ F acc dacc rest, Ex F1 F ∧ Ex F H ∧ Ex H0 H ∧ (∀ a, F a ≠ none → F0 a ≠ none ∨ H0 a = none) ∧ H L = some (.lst acc) ∧ F L = none ∧ Reps T F dacc acc ∧ dacc.length ≤ i ∧ compO f (ds.drop i) = some rest ∧ total = dacc ++ rest,
    ⟨ds.length, by simp, Nat.zero_le _, F1, [], [], total, Ex.refl F1, gr.i.trans (Ex.new hL), gr.h.trans (Ex.new hL), gr.new, upd_same, none_of_ex gr.i hL, Reps.nil, Nat.le_refl _, by simpa using ht, by simp⟩, ?_⟩
  rintro i m H ⟨rfl, hi, F, acc, dacc, rest, e1, e2, e3, e4, e5, e6, e7, e8, e9, e10⟩
  by_cases hlt : i < ds.length
  · refine .inr ⟨go i F H hlt e1 e2 e3, fun H' => ∃ F' acc dacc rest, Ex F1 F' ∧ Ex F' H' ∧ Ex H0 H' ∧ (∀ a, F' a ≠ none → F0 a ≠ none ∨ H0 a = none) ∧ H' L = some (.lst acc) ∧ F' L = none ∧ Reps T F' dacc acc ∧ dacc.length ≤ i + 1 ∧ compO f (ds.drop (i + 1)) = some rest ∧ total = dacc ++ rest,
      fun H' h => ⟨ds.length - (i + 1), by omega, rfl, hlt, h⟩, fun x H' y => ?_⟩
    have hd : ds.drop i = ds[i] :: ds.drop (i + 1) := List.drop_eq_getElem_cons hlt
    rw [hd, compO_cons] at e9
    obtain ⟨o, f1, f2⟩ := bind_inv e9
    obtain ⟨rest', f3, rfl⟩ := Option.map_eq_some_iff.mp f2
    obtain ⟨F', gr', tn⟩ := turn i F H ds[i] (by simp [hlt]) e1 e2 e3 x H' y
    have hL' : H' L = some (.lst acc) := gr'.h _ _ e5
    have hF' : F' L = none := by
      cases q : F' L with
      | none => rfl
      | some u =>
        rcases gr'.new L (by rw [q]; simp) with z | z
        · exact absurd e6 z
        · rw [e5] at z; cases z
    have new' : ∀ a, F' a ≠ none → F0 a ≠ none ∨ H0 a = none := fun a h => by
      rcases gr'.new a h with z | z
      · exact e4 a z
      · exact .inr (none_of_ex e3 z)
    refine hg x σ (wipe σ vs) H' (fun σ2 H2 => tt σ2 H2 fun b H3 => if b = true then te σ2 H3 fun y H4 => ∃ acc, H4 L = some (.lst acc) ∧ acc.length < sizeLine ∧ (∃ F' acc' dacc rest, Ex F1 F' ∧ Ex F' (upd H4 L (.lst (acc ++ [y]))) ∧ Ex H0 (upd H4 L (.lst (acc ++ [y]))) ∧ (∀ a, F' a ≠ none → F0 a ≠ none ∨ H0 a = none) ∧ upd H4 L (.lst (acc ++ [y])) L = some (.lst acc') ∧ F' L = none ∧ Reps T F' dacc acc' ∧ dacc.length ≤ i + 1 ∧ compO f (ds.drop (i + 1)) = some rest ∧ total = dacc ++ rest)
        else ∃ F' acc dacc rest, Ex F1 F' ∧ Ex F' H3 ∧ Ex H0 H3 ∧ (∀ a, F' a ≠ none → F0 a ≠ none ∨ H0 a = none) ∧ H3 L = some (.lst acc) ∧ F' L = none ∧ Reps T F' dacc acc ∧ dacc.length ≤ i + 1 ∧ compO f (ds.drop (i + 1)) = some rest ∧ total = dacc ++ rest) _ ww (fun σ2 H2 z1 z2 => ⟨z1, z2⟩) ?_
    refine tn o f1 { nx := fun _ H3 => ∃ F' acc dacc rest, Ex F1 F' ∧ Ex F' H3 ∧ Ex H0 H3 ∧ (∀ a, F' a ≠ none → F0 a ≠ none ∨ H0 a = none) ∧ H3 L = some (.lst acc) ∧ F' L = none ∧ Reps T F' dacc acc ∧ dacc.length ≤ i + 1 ∧ compO f (ds.drop (i + 1)) = some rest ∧ total = dacc ++ rest, rt := fun y H4 => ∃ acc, H4 L = some (.lst acc) ∧ acc.length < sizeLine ∧ (∃ F' acc' dacc rest, Ex F1 F' ∧ Ex F' (upd H4 L (.lst (acc ++ [y]))) ∧ Ex H0 (upd H4 L (.lst (acc ++ [y]))) ∧ (∀ a, F' a ≠ none → F0 a ≠ none ∨ H0 a = none) ∧ upd H4 L (.lst (acc ++ [y])) L = some (.lst acc') ∧ F' L = none ∧ Reps T F' dacc acc' ∧ dacc.length ≤ i + 1 ∧ compO f (ds.drop (i + 1)) = some rest ∧ total = dacc ++ rest) } ?_ _ (fun σ2 H2 z => z)
    have e7' := e7.mono gr'.f
    have fin : ∀ {F4 H4 : Hp}, Hv ⟨H', F', H', fun _ => 0⟩ F4 H4 → Ex F1 F4 ∧ Ex F4 H4 ∧ Ex H0 H4 ∧ (∀ a, F4 a ≠ none → F0 a ≠ none ∨ H0 a = none) ∧ H4 L = some (.lst acc) ∧ F4 L = none := fun {F4 H4} hv => by
      refine ⟨(e1.trans gr'.f).trans hv.f0, hv.f, (e3.trans gr'.h).trans hv.b, fun a h => ?_, hv.b _ _ hL', ?_⟩
      · rcases hv.new a h with z | z
        · exact new' a z
        · exact .inr (none_of_ex (e3.trans gr'.h) z)
      · cases q : F4 L with
        | none => rfl
        | some u =>
          rcases hv.new L (by rw [q]; simp) with z | z
          · exact absurd hF' z
          · have z' : H' L = none := z
            rw [hL'] at z'; cases z'
    cases o with
    | none =>
      intro F4 H4 σ4 hv
      obtain ⟨k1, k2, k3, k4, k5, k6⟩ := fin hv
      exact ⟨F4, acc, dacc, rest', k1, k2, k3, k4, k5, k6, e7'.mono hv.f0, Nat.le_succ_of_le e8, f3, by rw [e10]; rfl⟩
    | some d =>
      intro v F4 H4 hv rv
      obtain ⟨k1, k2, k3, k4, k5, k6⟩ := fin hv
      refine ⟨acc, k5, by rw [line_eq, ← e7.len]; omega, F4, acc ++ [v], dacc ++ [d], rest', k1, fun a u h => ?_, fun a u h => ?_, k4, upd_same, k6, (e7'.mono hv.f0).app (Reps.one rv), by simp; exact e8, f3, by rw [e10]; simp⟩
      · rw [upd_ne (ne_of_none h k6)]; exact k2 a u h
      · rw [upd_ne (ne_of_none h hL0)]; exact k3 a u h
  · have e : i = ds.length := by omega
    subst e
    rw [List.drop_length] at e9
    cases e9
    refine .inl ⟨stop F H e1 e2 e3, q L F H ⟨gr.f.trans e1, e2, e3, e4⟩ hL0 e6 ?_⟩
    simp only [OwnC]
    exact ⟨acc, e5, by rw [e10]; simpa using e7⟩
theorem evo_comp {f : D → Option (Option D)} {mi : Option (List D)} (hw : noAt Γ vs = true) (hg : Tin g vs) (hi : EvI T wi (frz Γ) md mi) (hb : ∀ d, Bg T g (tCE tt te) (frz Γ) md d (f d) (PC T)) : EvO T (tLc wi g tt te vs) Γ (mi.bind fun ds => dComp f ds) := fun Z F H σ ok d hd Q q => by
  obtain ⟨ds, e1, e2⟩ := bind_inv hd
  unfold dComp at e2
  split at e2
  · rename_i hz
    obtain ⟨total, ht, rfl⟩ := Option.map_eq_some_iff.mp e2
    have okz := ok.frzd hw
    -- the source is read with the block's slots forgotten or not alike
    have oks : Ok T ⟨H, F, H, fun _ => 0⟩ (frz Γ) F H σ := ok.frzs
    refine hi ⟨H, F, H, fun _ => 0⟩ F H σ oks ds e1 _ fun J F1 H1 gr wk => ?_
    intro L hL
    exact comp_go hg okz gr hL wk.go wk.stop (fun i F3 H3 d hd e1 e2 e3 x H4 y => by
      have hi : i < ds.length := (List.getElem?_eq_some_iff.mp hd).1
      obtain ⟨F4, g4, r4⟩ := wk.yld i F3 H3 x H4 hi e1 e2 e3 y
      refine ⟨F4, g4, fun o ho E' pc Q' qq => ?_⟩
      have okr := okz.reb ((gr.f.trans e1).trans g4.f) g4.i (e3.trans g4.h)
      refine hb d ⟨H4, F4, H4, fun _ => 0⟩ F4 H4 _ x okr ?_ o ho E' pc Q' qq
      have r5 := r4 d hd
      cases md with
      | f => exact r5
      | b => exact Rep.mono (e3.trans g4.h) r5
      | h => exact r5) hz ht q
  · cases e2
theorem evo_comp2 {f : D × D → Option (Option D)} {mi : Option (List (D × D))} (hw : noAt Γ vs = true) (hg : Tin g vs) (hi : EvI2 T wi (frz Γ) ma mb mi) (hb : ∀ d e, Bg2 T g (tCE tt te) (frz Γ) ma mb d e (f (d, e)) (PC T)) : EvO T (tLc wi g tt te vs) Γ (mi.bind fun ds => dComp f ds) := fun Z F H σ ok d hd Q q => by
  obtain ⟨ds, e1, e2⟩ := bind_inv hd
  unfold dComp at e2
  split at e2
  · rename_i hz
    obtain ⟨total, ht, rfl⟩ := Option.map_eq_some_iff.mp e2
    have okz := ok.frzd hw
    have oks : Ok T ⟨H, F, H, fun _ => 0⟩ (frz Γ) F H σ := ok.frzs
    refine hi ⟨H, F, H, fun _ => 0⟩ F H σ oks ds e1 _ fun J F1 H1 gr wk => ?_
    intro L hL
    exact comp_go hg okz gr hL wk.go wk.stop (fun i F3 H3 d hd e1 e2 e3 x H4 y => by
      have hi : i < ds.length := (List.getElem?_eq_some_iff.mp hd).1
      obtain ⟨F4, g4, p, v, w, rfl, hq, r4⟩ := wk.yld i F3 H3 x H4 hi e1 e2 e3 y
      refine ⟨F4, g4, fun o ho E' pc Q' qq => ?_⟩
      have okr := okz.reb ((gr.f.trans e1).trans g4.f) g4.i (e3.trans g4.h)
      obtain ⟨r5, r6⟩ := r4 d hd
      refine hb d.1 d.2 ⟨H4, F4, H4, fun _ => 0⟩ F4 H4 _ p v w okr hq ?_ ?_ o ho E' pc Q' qq
      · cases ma with
        | f => exact r5
        | b => exact Rep.mono (e3.trans g4.h) r5
        | h => exact r5
      · cases mb with
        | f => exact r6
        | b => exact Rep.mono (e3.trans g4.h) r6
        | h => exact r6) hz ht q
  · cases e2
end
end Mi
/-! defs, their promises, their calls; instances -/
namespace Mi
open PySem L2
open PyProof.Rows
open Evl (Ex ex_t ex_l ex_rd fresh_back)
/-! ### the ends of a def's body -/
/-- a def that changes nothing: what it hands back -/
abbrev PD (T : Th) : Base → Ends → D → Prop := fun Z E d => ∀ v F H, RetOk T Z d [] v F H → E.rt v H
/-- the same where the body may run to its end -/
abbrev PN (T : Th) : Base → Ends → D → Prop := fun Z E d => PD T Z E d ∧ (d = .non → ∀ F H σ, Hv Z F H → E.nx σ H)
/-- a def that changes parameters: what they hold behind it -/
abbrev UR := D × List (Nat × D)
abbrev PU (T : Th) : Base → Ends → UR → Prop := fun Z E o => ∀ v F H, RetOk T Z o.1 o.2 v F H → E.rt v H
abbrev PV (T : Th) : Base → Ends → UR → Prop := fun Z E o => PU T Z E o ∧ (o.1 = .non → ∀ v F H σ, RetOk T Z o.1 o.2 v F H → E.nx σ H)
section
variable {ω α β γ : Type} {T : Th} {Γ Γ' : Ctx} {md : Md} {te ta tb : TE} {tc : TT} {t u v : TS} {me : Option D} {mc : Option Bool} {i j : Nat}
theorem RetOk.less {Z : Base} {d : D} {ms ms' : List (Nat × D)} {v : V} {F H : Hp} (r : RetOk T Z d ms v F H) (h : ∀ x ∈ ms', x ∈ ms) : RetOk T Z d ms' v F H := ⟨r.hv, r.rep, fun x hx => r.mus x (h x hx)⟩
theorem bd_ret (h : Ev T .f te Γ me) : B T (tRet te) Γ me (PD T) := fun Z F H σ ok d hd E p =>
  h Z F H σ ok d hd _ fun v F2 H2 g r => p v F2 H2 ⟨ok.hv.grow g, r, fun x hx => by cases hx⟩
theorem bd_retN : B T tRetN Γ (some .non) (PD T) := fun Z F H σ ok d hd E p => by
  cases hd
  exact p _ F H ⟨ok.hv, by simp only [Rep], fun x hx => by cases hx⟩
theorem bn_of {m : Option D} (h : B T t Γ m (PD T)) : B T t Γ m (PN T) := fun Z F H σ ok d hd E p => h Z F H σ ok d hd E p.1
theorem bn_end : B T tNext Γ (some .non) (PN T) := fun Z F H σ ok d hd E p => by
  cases hd
  exact p.2 rfl F H σ ok.hv
theorem bu_ret (h : Ev T .f te Γ me) {ms : List (Nat × D)} (hm : mus 0 Γ = ms := by rfl) : B T (tRet te) Γ (me.bind fun d => some (d, ms)) (PU T) := fun Z F H σ ok o ho E p => by
  subst hm
  obtain ⟨d, e1, e2⟩ := bind_inv ho
  cases e2
  refine h Z F H σ ok d e1 _ fun v F2 H2 g r => p v F2 H2 ⟨ok.hv.grow g, r, fun x hx => ?_⟩
  obtain ⟨_, q⟩ := mus_at hx
  obtain ⟨p', a, b, c, e, f⟩ := (ok.grow g).at' _ _ q
  simp only [Nat.sub_zero] at b
  rw [← b]
  exact ⟨e, f⟩
theorem bu_retN {ms : List (Nat × D)} (hm : mus 0 Γ = ms := by rfl) : B T tRetN Γ (some (.non, ms)) (PU T) := fun Z F H σ ok o ho E p => by
  subst hm
  cases ho
  refine p _ F H ⟨ok.hv, by simp only [Rep], fun x hx => ?_⟩
  obtain ⟨_, q⟩ := mus_at hx
  obtain ⟨p', a, b, c, e, f⟩ := ok.at' _ _ q
  simp only [Nat.sub_zero] at b
  rw [← b]
  exact ⟨e, f⟩
theorem bv_of {m : Option UR} (h : B T t Γ m (PU T)) : B T t Γ m (PV T) := fun Z F H σ ok d hd E p => h Z F H σ ok d hd E p.1
theorem bv_end {ms : List (Nat × D)} (hm : mus 0 Γ = ms := by rfl) : B T tNext Γ (some (.non, ms)) (PV T) := fun Z F H σ ok d hd E p => by
  subst hm
  cases hd
  refine p.2 rfl .non F H σ ⟨ok.hv, by simp only [Rep], fun x hx => ?_⟩
  obtain ⟨_, q⟩ := mus_at hx
  obtain ⟨p', a, b, c, e, f⟩ := ok.at' _ _ q
  simp only [Nat.sub_zero] at b
  rw [← b]
  exact ⟨e, f⟩
/-- if, the first branch hands back -/
theorem bd_ifx {m1 m2 : Option D} (hc : EvT T tc Γ mc) (ha : B T t Γ m1 (PD T)) (hb : B T (tSeq u v) Γ m2 (PD T)) : B T (tSeq (tIfS tc t u) v) Γ (mc.bind fun c => if c = true then m1 else m2) (PD T) := fun Z F H σ ok o ho E p => by
  obtain ⟨c, e1, e2⟩ := bind_inv ho
  refine hc Z F H σ ok c e1 _ fun F2 H2 g => ?_
  cases c with
  | true => exact ha Z F2 H2 σ (ok.grow g) o e2 { E with nx := v E } p
  | false => exact hb Z F2 H2 σ (ok.grow g) o e2 E p
theorem bd_ifx0 {m1 m2 : Option D} (hc : EvT T tc Γ mc) (ha : B T t Γ m1 (PD T)) (hb : B T v Γ m2 (PD T)) : B T (tSeq (tIfS tc t tNext) v) Γ (mc.bind fun c => if c = true then m1 else m2) (PD T) := bd_ifx hc ha hb
theorem bn_ifx {m1 m2 : Option D} (hc : EvT T tc Γ mc) (ha : B T t Γ m1 (PD T)) (hb : B T (tSeq u v) Γ m2 (PN T)) : B T (tSeq (tIfS tc t u) v) Γ (mc.bind fun c => if c = true then m1 else m2) (PN T) := fun Z F H σ ok o ho E p => by
  obtain ⟨c, e1, e2⟩ := bind_inv ho
  refine hc Z F H σ ok c e1 _ fun F2 H2 g => ?_
  cases c with
  | true => exact ha Z F2 H2 σ (ok.grow g) o e2 { E with nx := v E } p.1
  | false => exact hb Z F2 H2 σ (ok.grow g) o e2 E p
theorem bn_ifx0 {m1 m2 : Option D} (hc : EvT T tc Γ mc) (ha : B T t Γ m1 (PD T)) (hb : B T v Γ m2 (PN T)) : B T (tSeq (tIfS tc t tNext) v) Γ (mc.bind fun c => if c = true then m1 else m2) (PN T) := bn_ifx hc ha hb
theorem bu_ifx {m1 m2 : Option UR} (hc : EvT T tc Γ mc) (ha : B T t Γ m1 (PU T)) (hb : B T (tSeq u v) Γ m2 (PU T)) : B T (tSeq (tIfS tc t u) v) Γ (mc.bind fun c => if c = true then m1 else m2) (PU T) := fun Z F H σ ok o ho E p => by
  obtain ⟨c, e1, e2⟩ := bind_inv ho
  refine hc Z F H σ ok c e1 _ fun F2 H2 g => ?_
  cases c with
  | true => exact ha Z F2 H2 σ (ok.grow g) o e2 { E with nx := v E } p
  | false => exact hb Z F2 H2 σ (ok.grow g) o e2 E p
theorem bu_ifx0 {m1 m2 : Option UR} (hc : EvT T tc Γ mc) (ha : B T t Γ m1 (PU T)) (hb : B T v Γ m2 (PU T)) : B T (tSeq (tIfS tc t tNext) v) Γ (mc.bind fun c => if c = true then m1 else m2) (PU T) := bu_ifx hc ha hb
theorem bv_ifx {m1 m2 : Option UR} (hc : EvT T tc Γ mc) (ha : B T t Γ m1 (PU T)) (hb : B T (tSeq u v) Γ m2 (PV T)) : B T (tSeq (tIfS tc t u) v) Γ (mc.bind fun c => if c = true then m1 else m2) (PV T) := fun Z F H σ ok o ho E p => by
  obtain ⟨c, e1, e2⟩ := bind_inv ho
  refine hc Z F H σ ok c e1 _ fun F2 H2 g => ?_
  cases c with
  | true => exact ha Z F2 H2 σ (ok.grow g) o e2 { E with nx := v E } p.1
  | false => exact hb Z F2 H2 σ (ok.grow g) o e2 E p
theorem bv_ifx0 {m1 m2 : Option UR} (hc : EvT T tc Γ mc) (ha : B T t Γ m1 (PU T)) (hb : B T v Γ m2 (PV T)) : B T (tSeq (tIfS tc t tNext) v) Γ (mc.bind fun c => if c = true then m1 else m2) (PV T) := bv_ifx hc ha hb
/-- a loop that may hand back, then the rest -/
def Out.thnD (o : Out γ Empty) (k : γ → Option D) : Option D := match o with
  | .nx a => k a
  | .rt d _ => some d
@[simp] theorem Out.thnD_nx (a : γ) (k : γ → Option D) : Out.thnD (.nx a) k = k a := id rfl
@[simp] theorem Out.thnD_rt (d : D) (ms : List (Nat × D)) (k : γ → Option D) : Out.thnD (.rt d ms) k = some d := id rfl
def Out.thnU (o : Out γ Empty) (k : γ → Option UR) : Option UR := match o with
  | .nx a => k a
  | .rt d ms => some (d, ms)
@[simp] theorem Out.thnU_nx (a : γ) (k : γ → Option UR) : Out.thnU (.nx a) k = k a := id rfl
@[simp] theorem Out.thnU_rt (d : D) (ms : List (Nat × D)) (k : γ → Option UR) : Out.thnU (.rt d ms) k = some (d, ms) := id rfl
abbrev noL : Empty → Ctx := fun e => nomatch e
theorem bd_seqx {m1 : Option (Out γ Empty)} {Γ1 : γ → Ctx} {m2 : γ → Option D} (h1 : B T t Γ m1 (PT T Γ1 noL)) (h2 : ∀ a, B T u (Γ1 a) (m2 a) (PD T)) : B T (tSeq t u) Γ (m1.bind fun o => o.thnD m2) (PD T) := fun Z F H σ ok o ho E p => by
  obtain ⟨a, e1, e2⟩ := bind_inv ho
  refine h1 Z F H σ ok a e1 _ ?_
  cases a with
  | nx a => exact fun F2 H2 σ2 ok2 => h2 a Z F2 H2 σ2 ok2 o e2 E p
  | ct b => exact nomatch b
  | bk b => exact nomatch b
  | rt d ms => cases e2; exact fun v F2 H2 r => p v F2 H2 (r.less fun x hx => by cases hx)
theorem bn_seqx {m1 : Option (Out γ Empty)} {Γ1 : γ → Ctx} {m2 : γ → Option D} (h1 : B T t Γ m1 (PT T Γ1 noL)) (h2 : ∀ a, B T u (Γ1 a) (m2 a) (PN T)) : B T (tSeq t u) Γ (m1.bind fun o => o.thnD m2) (PN T) := fun Z F H σ ok o ho E p => by
  obtain ⟨a, e1, e2⟩ := bind_inv ho
  refine h1 Z F H σ ok a e1 _ ?_
  cases a with
  | nx a => exact fun F2 H2 σ2 ok2 => h2 a Z F2 H2 σ2 ok2 o e2 E p
  | ct b => exact nomatch b
  | bk b => exact nomatch b
  | rt d ms => cases e2; exact fun v F2 H2 r => p.1 v F2 H2 (r.less fun x hx => by cases hx)
theorem bu_seqx {m1 : Option (Out γ Empty)} {Γ1 : γ → Ctx} {m2 : γ → Option UR} (h1 : B T t Γ m1 (PT T Γ1 noL)) (h2 : ∀ a, B T u (Γ1 a) (m2 a) (PU T)) : B T (tSeq t u) Γ (m1.bind fun o => o.thnU m2) (PU T) := fun Z F H σ ok o ho E p => by
  obtain ⟨a, e1, e2⟩ := bind_inv ho
  refine h1 Z F H σ ok a e1 _ ?_
  cases a with
  | nx a => exact fun F2 H2 σ2 ok2 => h2 a Z F2 H2 σ2 ok2 o e2 E p
  | ct b => exact nomatch b
  | bk b => exact nomatch b
  | rt d ms => cases e2; exact p
theorem bv_seqx {m1 : Option (Out γ Empty)} {Γ1 : γ → Ctx} {m2 : γ → Option UR} (h1 : B T t Γ m1 (PT T Γ1 noL)) (h2 : ∀ a, B T u (Γ1 a) (m2 a) (PV T)) : B T (tSeq t u) Γ (m1.bind fun o => o.thnU m2) (PV T) := fun Z F H σ ok o ho E p => by
  obtain ⟨a, e1, e2⟩ := bind_inv ho
  refine h1 Z F H σ ok a e1 _ ?_
  cases a with
  | nx a => exact fun F2 H2 σ2 ok2 => h2 a Z F2 H2 σ2 ok2 o e2 E p
  | ct b => exact nomatch b
  | bk b => exact nomatch b
  | rt d ms => cases e2; exact p.1
/-- the last statement is such a loop (while True) -/
theorem bd_lastx {m1 : Option (Out γ Empty)} (h1 : B T t Γ m1 (PT T (fun _ : γ => [.bad]) noL)) : B T t Γ (m1.bind fun o => o.thnD fun _ => none) (PD T) := fun Z F H σ ok o ho E p => by
  obtain ⟨a, e1, e2⟩ := bind_inv ho
  refine h1 Z F H σ ok a e1 _ ?_
  cases a with
  | nx a => cases e2
  | ct b => exact nomatch b
  | bk b => exact nomatch b
  | rt d ms => cases e2; exact fun v F2 H2 r => p v F2 H2 (r.less fun x hx => by cases hx)
theorem bu_lastx {m1 : Option (Out γ Empty)} (h1 : B T t Γ m1 (PT T (fun _ : γ => [.bad]) noL)) : B T t Γ (m1.bind fun o => o.thnU fun _ => none) (PU T) := fun Z F H σ ok o ho E p => by
  obtain ⟨a, e1, e2⟩ := bind_inv ho
  refine h1 Z F H σ ok a e1 _ ?_
  cases a with
  | nx a => cases e2
  | ct b => exact nomatch b
  | bk b => exact nomatch b
  | rt d ms => cases e2; exact p
theorem bt_ret' {Γn : α → Ctx} {Γl : β → Ctx} (h : Ev T .f te Γ me) {ms : List (Nat × D)} (hm : mus 0 Γ = ms := by rfl) : B T (tRet te) Γ (me.bind fun d => some (.rt d ms)) (PT T Γn Γl) := by
  subst hm
  exact bt_ret h
theorem b_never {P : Base → Ends → ω → Prop} : B T tNever Γ none P := fun Z F H σ ok o ho => by cases ho
end
/-! ### promises -/
inductive PK where
  | f | h | u
def RepsK (T : Th) (Z : Base) (F H : Hp) : Nat → List PK → List D → List V → Prop
  | _, [], ds, vs => ds = [] ∧ vs = []
  | i, k :: ks, ds, vs => ∃ d ds' v vs', ds = d :: ds' ∧ vs = v :: vs' ∧ (match k with
      | .f => Rep T F d v
      | .h => Rep T Z.B d v
      | .u => v = .ref (Z.P i) ∧ Z.B (Z.P i) = none ∧ F (Z.P i) = none ∧ OwnC T F H (Z.P i) d) ∧ RepsK T Z F H (i + 1) ks ds' vs'
theorem RepsK.len {T : Th} {Z : Base} {F H : Hp} : ∀ {ks : List PK} {i : Nat} {ds : List D} {vs : List V}, RepsK T Z F H i ks ds vs → vs.length = ks.length ∧ ds.length = ks.length
  | [], _, _, _, ⟨a, b⟩ => by subst a b; exact ⟨rfl, rfl⟩
  | k :: ks, i, _, _, ⟨d, ds', v, vs', a, b, _, r⟩ => by subst a b; simp [RepsK.len r]
def spU (T : Th) (ks : List PK) (m : List D → Option UR) : Sp := fun vs H Q _ => ∃ (Z : Base) (F : Hp) (ds : List D), Z.F = F ∧ Z.H = H ∧ Hv Z F H ∧ RepsK T Z F H 0 ks ds vs ∧ (∀ i j, ks[i]? = some PK.u → ks[j]? = some PK.u → Z.P i = Z.P j → i = j) ∧
  ∃ o, m ds = some o ∧ ∀ v F2 H2, RetOk T Z o.1 o.2 v F2 H2 → Q v H2
/-- a def that changes nothing -/
def pur (f : List D → Option D) : List D → Option UR := fun ds => (f ds).map fun d => (d, [])
def ctx0 : List PK → List D → Ctx
  | .f :: ks, d :: ds => .val d :: ctx0 ks ds
  | .h :: ks, d :: ds => .bor d :: ctx0 ks ds
  | .u :: ks, d :: ds => .mu d :: ctx0 ks ds
  | _, _ => []
theorem ctx0_slot {T : Th} {Z : Base} {F H : Hp} : ∀ {ks : List PK} {n : Nat} {ds : List D} {vs : List V}, RepsK T Z F H n ks ds vs → ∀ (i : Nat) (s : Slot), (ctx0 ks ds)[i]? = some s → SlotOk T Z F H (n + i) (some vs[i]?) s
  | [], n, _, _, ⟨a, b⟩, i, s, e => by subst a b; simp [ctx0] at e
  | k :: ks, n, _, _, ⟨d, ds', v, vs', a, b, c, r⟩, i, s, e => by
    subst a b
    cases i with
    | zero =>
      cases k <;> simp only [ctx0, List.getElem?_cons_zero, Option.some.injEq] at e <;> subst e
      · exact ⟨v, rfl, c⟩
      · exact ⟨v, rfl, c⟩
      · obtain ⟨c1, c2, c3, c4⟩ := c
        exact ⟨_, by rw [c1]; rfl, rfl, c2, c3, c4⟩
    | succ i =>
      have e' : (ctx0 ks ds')[i]? = some s := by
        cases k <;> simpa [ctx0] using e
      have := ctx0_slot r i s e'
      have h1 : n + 1 + i = n + (i + 1) := by omega
      rw [h1] at this
      simpa using this
theorem ctx0_len : ∀ {ks : List PK} {ds : List D}, (ctx0 ks ds).length ≤ ds.length
  | [], ds => by simp [ctx0]
  | k :: ks, [] => by cases k <;> simp [ctx0]
  | k :: ks, d :: ds => by cases k <;> simp [ctx0, ctx0_len]
theorem ctx0_own : ∀ {ks : List PK} {ds : List D} {i : Nat} {s : Slot}, (ctx0 ks ds)[i]? = some s → s.isOwn = true → ks[i]? = some .u
  | [], ds, i, s, e, o => by simp [ctx0] at e
  | k :: ks, [], i, s, e, o => by cases k <;> simp [ctx0] at e
  | k :: ks, d :: ds, 0, s, e, o => by
    cases k <;> simp only [ctx0, List.getElem?_cons_zero, Option.some.injEq] at e <;> subst e <;> first | rfl | cases o
  | k :: ks, d :: ds, i + 1, s, e, o => by
    have e' : (ctx0 ks ds)[i]? = some s := by cases k <;> simpa [ctx0] using e
    simpa using ctx0_own e' o
theorem start_at {N : List Str} {vs : List V} {i : Nat} (h : i < vs.length) : (L2.start N vs)[i]? = some vs[i]? := by
  unfold L2.start
  rw [List.getElem?_append_left (by simpa using h), List.getElem?_map]
  simp [h]
theorem ok_start {T : Th} {Z : Base} {F H : Hp} {ks : List PK} {ds : List D} {vs : List V} {N : List Str} {Γ : Ctx} (hv : Hv Z F H) (r : RepsK T Z F H 0 ks ds vs) (sep : ∀ i j, ks[i]? = some PK.u → ks[j]? = some PK.u → Z.P i = Z.P j → i = j)
    (hN : ks.length ≤ N.length) (hΓ : Γ = ctx0 ks ds ++ List.replicate (N.length - ks.length) .no) : Ok T Z Γ F H (L2.start N vs) := by
  subst hΓ
  obtain ⟨lv, ld⟩ := r.len
  have lc : (ctx0 ks ds).length ≤ vs.length := by have := ctx0_len (ks := ks) (ds := ds); omega
  have split : ∀ {i : Nat} {s : Slot}, (ctx0 ks ds ++ List.replicate (N.length - ks.length) .no)[i]? = some s → (ctx0 ks ds)[i]? = some s ∨ s = .no := fun {i s} e => by
    by_cases hi : i < (ctx0 ks ds).length
    · rw [List.getElem?_append_left hi] at e; exact .inl e
    · rw [List.getElem?_append_right (by omega), List.getElem?_replicate] at e
      split at e
      · exact .inr (by simpa using e.symm)
      · cases e
  refine ⟨hv, ?_, fun i s e => ?_, fun i j p s t e1 o1 e2 o2 a b => ?_⟩
  · unfold L2.start
    simp only [List.length_append, List.length_replicate, List.length_map]
    omega
  · rcases split e with q | q
    · have hi : i < vs.length := by
        have := (List.getElem?_eq_some_iff.mp q).1
        omega
      rw [start_at hi]
      have := ctx0_slot r i s q
      simpa using this
    · subst q; trivial
  · have f : ∀ {i : Nat} {s : Slot} {p : Addr}, (ctx0 ks ds ++ List.replicate (N.length - ks.length) .no)[i]? = some s → s.isOwn = true → (L2.start N vs)[i]? = some (some (V.ref p)) → ks[i]? = some .u ∧ p = Z.P i := fun {i s p} e o a => by
      rcases split e with q | q
      · have hu := ctx0_own q o
        have hi : i < vs.length := by
          have := (List.getElem?_eq_some_iff.mp q).1
          omega
        have sl := ctx0_slot r i s q
        rw [start_at hi] at a
        refine ⟨hu, ?_⟩
        cases s <;> simp only [Slot.isOwn] at o <;> first | (cases o; done) | skip
        · -- an own slot stands in no start
          exfalso
          have : ∀ {ks : List PK} {ds : List D} {i : Nat} {d : D}, (ctx0 ks ds)[i]? = some (.own d) → False := by
            intro ks
            induction ks with
            | nil => intro ds i d e; simp [ctx0] at e
            | cons k ks ih =>
              intro ds i d e
              cases ds with
              | nil => cases k <;> simp [ctx0] at e
              | cons d0 ds =>
                cases i with
                | zero => cases k <;> simp [ctx0] at e
                | succ i => exact ih (ds := ds) (i := i) (d := d) (by cases k <;> simpa [ctx0] using e)
          exact this q
        · obtain ⟨p', z1, z2, _⟩ := sl
          simp only [Nat.zero_add] at z2
          rw [a] at z1
          cases z1
          exact z2
      · subst q; cases o
    obtain ⟨u1, p1⟩ := f e1 o1 a
    obtain ⟨u2, p2⟩ := f e2 o2 b
    exact sep i j u1 u2 (by rw [← p1, ← p2])
/-- a def keeps its promise -/
theorem fn_ok {P : Program} {w : World} {K : PySem.W.Frag} {mg : Str → Option Value} {base : Heap} {T : Th} {x qual : Str} {st : Stmt} {f : Addr} {fd : FuncData} {N ps : List Str} {k : Nat} {ks : List PK} {m : List D → Option UR} (F : Fun K x qual st f fd) (S : FnScope N ps (defScope st)) (hk : ks.length = ps.length) (hN : ks.length ≤ N.length)
    (hbody : ∀ (cdv : Value) (A : Around) (outer : List Env) (s : Shared) (H : Hp) (E : XK), Room k (A.deeper (envOfC qual (defScope st) s.heap.objs.size f cdv)) →
      ∃ t, PSs (cxOf CX0 P w K mg base N qual (defScope st) f cdv A outer s H E).nox (defBody st) t ∧ ∀ ds, ds.length = ks.length → B T t (ctx0 ks ds ++ List.replicate (N.length - ks.length) .no) (m ds) (PV T)) :
    FnOk P w K mg base CX0 (k + 1) f fd ps (spU T ks m) := by
  refine F.ok S (fun vs H Q E h => ?_) (fun cdv A outer s H vs Q E hr h => ?_)
  · obtain ⟨Z, F', ds, _, _, _, r, _⟩ := h
    rw [← hk]; exact r.len.1
  · obtain ⟨t, ht, hb⟩ := hbody cdv A outer s H E hr
    obtain ⟨Z, F', ds, _, _, hv, r, sep, o, ho, q⟩ := h
    refine ⟨t, ht, hb ds r.len.2 Z F' H _ (ok_start hv r sep hN rfl) o ho _ ⟨q, fun e v F2 H2 σ r => ?_⟩⟩
    show Q .non H2
    have rv := r.rep
    rw [e] at rv
    simp only [Rep] at rv
    subst rv
    exact q _ F2 H2 r
theorem bv_pur {T : Th} {t : TS} {Γ : Ctx} {m : Option D} (h : B T t Γ m (PN T)) : B T t Γ (m.map fun d => (d, [])) (PV T) := fun Z F H σ ok o ho E p => by
  obtain ⟨d, e1, rfl⟩ := Option.map_eq_some_iff.mp ho
  refine h Z F H σ ok d e1 E ⟨p.1, fun hd F2 H2 σ2 hv => ?_⟩
  subst hd
  exact p.2 rfl .non F2 H2 σ2 ⟨hv, by simp only [Rep], fun x hx => by cases hx⟩
/-! ### calls of defs that change nothing -/
def kMd : PK → Md
  | .f => .f
  | _ => .h
def noU (ks : List PK) : Bool := ks.all fun k => match k with | .u => false | _ => true
section
variable {T : Th} {Γ : Ctx} {md : Md} {ta : TA} {te : TE} {ks : List PK} {ms : Option (List D)} {f : List D → Option D} {me : Option D}
theorem repsK_of {F H : Hp} : ∀ {ks : List PK} {n : Nat} {ds : List D} {vs : List V} {Z : Base}, noU ks = true → RepsM T Z F H (ks.map kMd) ds vs → RepsK T ⟨H, F, H, fun _ => 0⟩ F H n ks ds vs
  | [], n, _, _, Z, _, ⟨a, b⟩ => ⟨a, b⟩
  | k :: ks, n, _, _, Z, h, ⟨d, ds', v, vs', a, b, c, r⟩ => by
    simp only [noU, List.all_cons, Bool.and_eq_true] at h
    refine ⟨d, ds', v, vs', a, b, ?_, repsK_of (Z := Z) (by simpa [noU] using h.2) r⟩
    cases k with
    | f => exact c
    | h => exact c
    | u => cases h.1
theorem noU_at {ks : List PK} (h : noU ks = true) {i : Nat} (e : ks[i]? = some PK.u) : False := by
  have := List.all_eq_true.mp h PK.u (List.mem_of_getElem? e)
  cases this
theorem sp_pur {F H : Hp} {Z : Base} {ds : List D} {vs : List V} {d : D} {Q : VK} {E : XK} (hu : noU ks = true) (ex : Ex F H) (r : RepsM T Z F H (ks.map kMd) ds vs) (hd : f ds = some d) (q : ∀ v F2 H2, Grow F F2 H H2 → Rep T F2 d v → Q v H2) :
    spU T ks (pur f) vs H Q E := by
  refine ⟨⟨H, F, H, fun _ => 0⟩, F, ds, rfl, rfl, ⟨Ex.refl H, Ex.refl F, ex, fun _ h => h, fun _ h => .inl h⟩, repsK_of hu r, fun i j h => (noU_at hu h).elim, (d, []), by unfold pur; rw [hd]; rfl, fun v F2 H2 ro => ?_⟩
  exact q v F2 H2 ⟨ro.hv.f0, ro.hv.f, ro.hv.b, ro.hv.new⟩ ro.rep
theorem ev_call {E : XK} (hu : noU ks = true) (ha : EvA T ta Γ (ks.map kMd) ms) (hm : md.fh = true := by rfl) : Ev T md (tCall (spU T ks (pur f)) [] E ta) Γ (ms.bind f) := fun Z F H σ ok d hd Q q => by
  obtain ⟨ds, e1, e2⟩ := bind_inv hd
  refine ha Z F H σ ok ds e1 _ fun vs F2 H2 g r => ?_
  rw [List.append_nil]
  exact sp_pur hu g.i r e2 fun v F3 H3 g3 rv => q v F3 H3 (g.trans g3) (rv.mono (sel_out g3.i hm))
/-- o.m(..), o an instance of the class c, m no field -/
def dSelf (c m : Str) (d : D) : Option D := match d with
  | .obj c' ns ds => if c' = c ∧ m ∉ ns then some d else none
  | _ => none
theorem lookup_zip_none {ns : List Str} {vs : List V} {m : Str} (h : m ∉ ns) : (ns.zip vs).lookup m = none := by
  induction ns generalizing vs with
  | nil => rfl
  | cons n ns ih =>
    cases vs with
    | nil => rfl
    | cons v vs =>
      simp only [List.mem_cons, not_or] at h
      have : (m == n) = false := by simpa using h.1
      simp [List.lookup, this, ih h.2]
theorem ev_meth {c m : Str} {E : XK} {k : PK} (hu : noU (k :: ks) = true) (ho : Ev T (kMd k) te Γ me) (ha : EvA T ta Γ (ks.map kMd) ms) (hm : md.fh = true := by rfl) :
    Ev T md (tMeth (T.C c) m (spU T (k :: ks) (pur f)) [] E te ta) Γ ((oCons (o1 (dSelf c m) me) ms).bind f) := fun Z F H σ ok d hd Q q => by
  obtain ⟨ds, e1, e2⟩ := bind_inv hd
  obtain ⟨o, r, e3, e4, e5⟩ := o2_inv e1
  cases e5
  obtain ⟨x, e6, e7⟩ := o1_inv e3
  refine ho Z F H σ ok x e6 _ fun v F2 H2 g rv => ?_
  cases x <;> simp only [dSelf] at e7 <;> try (cases e7; done)
  split at e7
  · rename_i hc
    cases e7
    obtain ⟨rfl, hn⟩ := hc
    have rh := rv.mono (sel_in g.i (ok.grow g).hv.b)
    simp only [Rep] at rh
    obtain ⟨p, dx, vs, rfl, hp, hl, rr⟩ := rh
    refine ⟨p, dx, _, rfl, hp, lookup_zip_none hn, ha Z F2 H2 σ (ok.grow g) r e4 _ fun ws F3 H3 g3 r3 => ?_⟩
    rw [List.append_nil]
    refine sp_pur (Z := Z) (ds := _ :: r) hu g3.i ?_ e2 fun v F4 H4 g4 rv => q v F4 H4 ((g.trans g3).trans g4) (rv.mono (sel_out g4.i hm))
    exact ⟨_, _, _, _, rfl, rfl, rv.mono (sel_grow g3), r3⟩
  · cases e7
/-- o.f -/
def dFld (c f : Str) (d : D) : Option D := match d with
  | .obj c' ns ds => if c' = c then look ns ds f else none
  | _ => none
theorem look_lookup {H : Hp} {k : Str} : ∀ {ks : List Str} {ds : List D} {vs : List V} {d : D}, Reps T H ds vs → look ks ds k = some d → ∃ v, (ks.zip vs).lookup k = some v ∧ Rep T H d v
  | [], ds, vs, d, r, h => by simp [look] at h
  | a :: ks, [], vs, d, r, h => by simp [look] at h
  | a :: ks, e :: ds, vs, d, r, h => by
    obtain ⟨v, r', rfl, s, t⟩ := r.uncons
    by_cases hk : a = k
    · subst hk
      have : look (a :: ks) (e :: ds) a = some e := by simp [look, List.find?_cons]
      rw [this] at h; cases h
      exact ⟨v, by simp [List.lookup], s⟩
    · have e1 : look (a :: ks) (e :: ds) k = look ks ds k := by simp [look, List.find?_cons, hk]
      rw [e1] at h
      obtain ⟨w, hw, rw'⟩ := look_lookup t h
      have hk' : (k == a) = false := by simpa using fun q => hk q.symm
      exact ⟨w, by simp [List.lookup, hk', hw], rw'⟩
theorem ev_fld {c n : Str} (hc : Cls T.K (T.C c)) (hn : NoAttr T.K (T.C c) n) (ho : Ev T md te Γ me) : Ev T md (tFld T.K te n) Γ (o1 (dFld c n) me) := fun Z F H σ ok d hd Q q => by
  obtain ⟨x, e1, e2⟩ := o1_inv hd
  refine ho Z F H σ ok x e1 _ fun v F2 H2 g rv => ?_
  cases x <;> simp only [dFld] at e2 <;> try (cases e2; done)
  split at e2
  · rename_i hcc
    subst hcc
    simp only [Rep] at rv
    obtain ⟨p, dx, vs, rfl, hp, hl, rr⟩ := rv
    obtain ⟨w, hw, rw'⟩ := look_lookup rr e2
    exact ⟨p, _, dx, _, w, rfl, sel_in g.i (ok.grow g).hv.b _ _ hp, hc, hn, hw, q w F2 H2 g rw'⟩
  · cases e2
end
end Mi
/-! instances made, fields stored, calls that change arguments, a law's end -/
namespace Mi
open PySem L2
open PyProof.Rows
open Evl (Ex ex_t ex_l ex_rd fresh_back)
section
variable {ω : Type} {T : Th} {Γ : Ctx} {md : Md} {ta : TA} {te ti : TE} {ks : List PK} {ms : Option (List D)} {me mi : Option D} {i j : Nat}
/-! ### o.f = e -/
theorem putF_eq {H : Hp} {k : Str} {d : D} {v : V} (r : Rep T H d v) : ∀ {ks : List Str} {ds : List D} {vs : List V}, ks.length = ds.length → Reps T H ds vs →
    ∃ vs', putF k v (ks.zip vs) = (putKD ks ds k d).1.zip vs' ∧ (putKD ks ds k d).1.length = vs'.length ∧ Reps T H (putKD ks ds k d).2 vs'
  | [], [], vs, hl, rr => by
    simp only [Reps] at rr; subst rr
    exact ⟨[v], rfl, rfl, Reps.one r⟩
  | [], _ :: _, vs, hl, rr => by cases hl
  | _ :: _, [], vs, hl, rr => by cases hl
  | a :: ks, e :: ds, vs, hl, rr => by
    obtain ⟨w, r', rfl, s, t⟩ := rr.uncons
    by_cases h : a = k
    · subst h
      have e1 : putKD (a :: ks) (e :: ds) a d = (a :: ks, d :: ds) := by simp [putKD]
      rw [e1]
      refine ⟨v :: r', ?_, by simpa [← t.len] using hl, Reps.cons r t⟩
      show (if a = a then (a, v) :: ks.zip r' else _) = _
      rw [if_pos rfl]; rfl
    · obtain ⟨vs', i1, i2, i3⟩ := putF_eq (k := k) r (by simpa using hl) t
      have e1 : putKD (a :: ks) (e :: ds) k d = (a :: (putKD ks ds k d).1, e :: (putKD ks ds k d).2) := by simp [putKD, h]
      rw [e1]
      refine ⟨w :: vs', ?_, by simp [i2], Reps.cons s i3⟩
      show (if a = k then (a, v) :: ks.zip r' else (a, w) :: putF k v (ks.zip r')) = _
      rw [if_neg h, i1]; rfl
def dSetF (c f : Str) (d e : D) : Option D := match d with
  | .obj c' ns ds => if c' = c ∧ ns.length = ds.length ∧ ns.length < 1000 then some (.obj c' (putKD ns ds f e).1 (putKD ns ds f e).2) else none
  | _ => none
theorem bp_fld {s : Slot} {d : D} {c f : Str} (hc : Cls T.K (T.C c)) (hn : NoAttr T.K (T.C c) f) (hs : Γ[i]? = some s) (ho : s.isOwnD d) (he : Ev T .f te Γ me) :
    B T (sFld T.K (tVar i) te f) Γ (me.bind fun e => dSetF c f d e) (PP T fun d' => Γ.set i (s.put d')) := fun Z F H σ ok d' hd E p => by
  obtain ⟨e, e1, e2⟩ := bind_inv hd
  refine he Z F H σ ok e e1 _ fun v F2 H2 g r => ?_
  obtain ⟨q, a, b, cc, k⟩ := own_slot (ok.grow g) hs ho
  refine ⟨_, a, ?_⟩
  cases d <;> simp only [dSetF] at e2 <;> try (cases e2; done)
  split at e2
  · rename_i hz
    cases e2
    obtain ⟨rfl, h1, h2⟩ := hz
    simp only [OwnC] at cc
    obtain ⟨dx, vs, c1, c2, c3⟩ := cc
    obtain ⟨vs', z1, z2, z3⟩ := putF_eq (k := f) r h1 c3
    refine ⟨q, _, dx, _, rfl, c1, hc, hn, by rw [List.length_zip, ← c2, Nat.min_self]; exact h2, p F2 _ σ (k _ _ ?_)⟩
    simp only [OwnC]
    exact ⟨dx, vs', by rw [upd_same, z1], z2, z3⟩
  · cases e2
/-! ### C(..) -/
def dMake (c : Str) (m : List D → Option UR) (ds : List D) : Option D := (m (.obj c [] [] :: ds)).bind fun o => match o with
  | (.non, [(0, d)]) => some d
  | _ => none
theorem evo_make {c : Str} {m : List D → Option UR} {E : XK} (hu : noU ks = true) (ha : EvA T ta Γ (ks.map kMd) ms) : EvO T (tMake (T.C c) (spU T (.u :: ks) m) [] E ta) Γ (ms.bind (dMake c m)) := fun Z F H σ ok d hd Q q => by
  obtain ⟨ds, e1, e2⟩ := bind_inv hd
  refine ha Z F H σ ok ds e1 _ fun vs F2 H2 g r => ?_
  intro x dx hx hdx hne
  rw [List.append_nil]
  obtain ⟨o, e3, e4⟩ := bind_inv (show (m (.obj c [] [] :: ds)).bind _ = some d from e2)
  split at e4
  · rename_i d'
    cases e4
    have hx1 : upd H2 dx (.own x) x = none := by rw [upd_ne hne.symm]; exact hx
    have eB : Ex H2 (upd H2 dx (.own x)) := Ex.new hdx
    have eH : Ex (upd H2 dx (.own x)) (upd (upd H2 dx (.own x)) x (.ins (T.C c) dx [])) := Ex.new hx1
    have hfx : F2 x = none := none_of_ex g.i hx
    refine ⟨⟨upd H2 dx (.own x), F2, upd (upd H2 dx (.own x)) x (.ins (T.C c) dx []), fun _ => x⟩, F2, _, rfl, rfl, ⟨eH, Ex.refl F2, g.i.trans (eB.trans eH), fun _ h => h, fun _ h => .inl h⟩, ?_, fun i j h1 h2 _ => ?_, _, e3, fun v F3 H3 ro => ?_⟩
    · refine ⟨_, ds, _, vs, rfl, rfl, ⟨rfl, hx1, hfx, ?_⟩, ?_⟩
      · simp only [OwnC]
        exact ⟨dx, [], by rw [upd_same]; rfl, rfl, Reps.nil⟩
      · -- the other arguments: read in the heap without the new instance
        have go : ∀ {ks : List PK} {n : Nat} {ds : List D} {vs : List V}, noU ks = true → RepsM T Z F2 H2 (ks.map kMd) ds vs → RepsK T ⟨upd H2 dx (.own x), F2, upd (upd H2 dx (.own x)) x (.ins (T.C c) dx []), fun _ => x⟩ F2 (upd (upd H2 dx (.own x)) x (.ins (T.C c) dx [])) n ks ds vs := by
          intro ks
          induction ks with
          | nil => intro n ds vs _ h; exact h
          | cons k ks ih =>
            intro n ds vs h r
            obtain ⟨d1, ds', v1, vs', a, b, c, r⟩ := r
            simp only [noU, List.all_cons, Bool.and_eq_true] at h
            refine ⟨d1, ds', v1, vs', a, b, ?_, ih (by simpa [noU] using h.2) r⟩
            cases k with
            | f => exact c
            | h => exact Rep.mono eB c
            | u => cases h.1
        exact go hu r
    · have z : ∀ {i : Nat}, (PK.u :: ks)[i]? = some PK.u → i = 0 := fun {i} h => by
        cases i with
        | zero => rfl
        | succ i => exact (noU_at hu (by simpa using h)).elim
      rw [z h1, z h2]
    · refine ⟨?_, ?_⟩
      · have := ro.rep; simpa only [Rep] using this
      · obtain ⟨m1, m2⟩ := ro.mus (0, d) (by simp)
        refine q x F3 H3 (g.trans ⟨ro.hv.f0, ro.hv.f, eB.trans ro.hv.b, fun a h => ?_⟩) (none_of_ex g.h hx) m1 m2
        rcases ro.hv.new a h with z | z
        · exact .inl z
        · exact .inr (none_of_ex (eB.trans eH) z)
  · cases e4
/-! ### f(.., xs, ..), xs changed -/
inductive AK where
  | f | hf | hb | ho (j : Nat) | u (i : Nat)
def AK.pk : AK → PK
  | .f => .f
  | .u _ => .u
  | _ => .h
def RepsA (T : Th) (Z : Base) (F H : Hp) (σ : L2.St) : List AK → List D → List V → Prop
  | [], ds, vs => ds = [] ∧ vs = []
  | a :: as, ds, vs => ∃ d ds' v vs', ds = d :: ds' ∧ vs = v :: vs' ∧ (match a with
      | .f => Rep T F d v
      | .hf => Rep T F d v
      | .hb => Rep T Z.B d v
      | .ho j => ∃ p, v = .ref p ∧ σ[j]? = some (some (.ref p)) ∧ OwnC T F H p d
      | .u i => ∃ p, v = .ref p ∧ σ[i]? = some (some (.ref p)) ∧ OwnC T F H p d) ∧ RepsA T Z F H σ as ds' vs'
theorem RepsA.grow {Z : Base} {F F2 H H2 : Hp} {σ : L2.St} (g : Grow F F2 H H2) : ∀ {as : List AK} {ds : List D} {vs : List V}, RepsA T Z F H σ as ds vs → RepsA T Z F2 H2 σ as ds vs
  | [], _, _, h => h
  | a :: as, _, _, ⟨d, ds', v, vs', h1, h2, h3, r⟩ => by
    refine ⟨d, ds', v, vs', h1, h2, ?_, RepsA.grow g r⟩
    cases a with
    | f => exact Rep.mono g.f h3
    | hf => exact Rep.mono g.f h3
    | hb => exact h3
    | ho j => obtain ⟨p, a, b, c⟩ := h3; exact ⟨p, a, b, c.grow g.f g.h⟩
    | u i => obtain ⟨p, a, b, c⟩ := h3; exact ⟨p, a, b, c.grow g.f g.h⟩
def EvK (T : Th) (ta : TA) (Γ : Ctx) (as : List AK) (m : Option (List D)) : Prop := ∀ Z F H σ, Ok T Z Γ F H σ → ∀ ds, m = some ds → ∀ Q : List V → Hp → Prop, (∀ vs F2 H2, Grow F F2 H H2 → RepsA T Z F2 H2 σ as ds vs → Q vs H2) → ta σ H Q
variable {as : List AK} {tr : TA}
theorem evk_nil : EvK T tNil Γ [] (some []) := fun Z F H σ ok ds hd Q q => by
  cases hd
  exact q [] F H (Grow.refl ok.hv.f) ⟨rfl, rfl⟩
theorem evk_f (h : Ev T .f te Γ me) (hr : EvK T tr Γ as ms) : EvK T (tCons te tr) Γ (.f :: as) (oCons me ms) := fun Z F H σ ok ds hd Q q => by
  obtain ⟨x, y, e1, e2, e3⟩ := o2_inv hd
  cases e3
  exact h Z F H σ ok x e1 _ fun v F2 H2 g r => hr Z F2 H2 σ (ok.grow g) y e2 _ fun vs F3 H3 g' r' => q (v :: vs) F3 H3 (g.trans g') ⟨x, y, v, vs, rfl, rfl, r.mono g'.f, r'⟩
theorem evk_hf (h : Ev T .f te Γ me) (hr : EvK T tr Γ as ms) : EvK T (tCons te tr) Γ (.hf :: as) (oCons me ms) := fun Z F H σ ok ds hd Q q => by
  obtain ⟨x, y, e1, e2, e3⟩ := o2_inv hd
  cases e3
  exact h Z F H σ ok x e1 _ fun v F2 H2 g r => hr Z F2 H2 σ (ok.grow g) y e2 _ fun vs F3 H3 g' r' => q (v :: vs) F3 H3 (g.trans g') ⟨x, y, v, vs, rfl, rfl, r.mono g'.f, r'⟩
theorem evk_hb (h : Ev T .b te Γ me) (hr : EvK T tr Γ as ms) : EvK T (tCons te tr) Γ (.hb :: as) (oCons me ms) := fun Z F H σ ok ds hd Q q => by
  obtain ⟨x, y, e1, e2, e3⟩ := o2_inv hd
  cases e3
  exact h Z F H σ ok x e1 _ fun v F2 H2 g r => hr Z F2 H2 σ (ok.grow g) y e2 _ fun vs F3 H3 g' r' => q (v :: vs) F3 H3 (g.trans g') ⟨x, y, v, vs, rfl, rfl, r, r'⟩
theorem evk_ho {s : Slot} {d : D} (hs : Γ[j]? = some s) (ho : s.isOwnD d) (hr : EvK T tr Γ as ms) : EvK T (tCons (tVar j) tr) Γ (.ho j :: as) (oCons (some d) ms) := fun Z F H σ ok ds hd Q q => by
  obtain ⟨x, y, e1, e2, e3⟩ := o2_inv hd
  cases e3
  cases e1
  obtain ⟨p, a, b, c, _⟩ := own_slot ok hs ho
  exact ⟨_, a, hr Z F H σ ok y e2 _ fun vs F3 H3 g' r' => q (_ :: vs) F3 H3 g' ⟨_, y, _, vs, rfl, rfl, ⟨p, rfl, a, c.grow g'.f g'.h⟩, r'⟩⟩
theorem evk_u {s : Slot} {d : D} (hs : Γ[i]? = some s) (ho : s.isOwnD d) (hr : EvK T tr Γ as ms) : EvK T (tCons (tVar i) tr) Γ (.u i :: as) (oCons (some d) ms) := fun Z F H σ ok ds hd Q q => by
  obtain ⟨x, y, e1, e2, e3⟩ := o2_inv hd
  cases e3
  cases e1
  obtain ⟨p, a, b, c, _⟩ := own_slot ok hs ho
  exact ⟨_, a, hr Z F H σ ok y e2 _ fun vs F3 H3 g' r' => q (_ :: vs) F3 H3 g' ⟨_, y, _, vs, rfl, rfl, ⟨p, rfl, a, c.grow g'.f g'.h⟩, r'⟩⟩
/-- which slots are changed: by the arguments' places -/
def usOf : Nat → List AK → List (Nat × Nat)
  | _, [] => []
  | n, .u i :: as => (n, i) :: usOf (n + 1) as
  | n, _ :: as => usOf (n + 1) as
def hosOf : List AK → List Nat
  | [] => []
  | .ho j :: as => j :: hosOf as
  | _ :: as => hosOf as
/-- what the k-th argument holds behind the call -/
def cU (o : UR) (k : Nat) : D := (o.2.lookup k).getD .non
def chkU (us : List (Nat × Nat)) (o : UR) : Option UR := if us.all fun u => (o.2.lookup u.1).isSome then some o else none
def updU (Γ : Ctx) (us : List (Nat × Nat)) (o : UR) : Ctx := us.foldl (fun Γ u => match Γ[u.2]? with
  | some s => Γ.set u.2 (s.put (cU o u.1))
  | none => Γ) Γ
def ownAt (Γ : Ctx) (i : Nat) : Bool := match Γ[i]? with
  | some s => s.isOwn
  | none => false
theorem Slot.put_own (s : Slot) (d : D) : (s.put d).isOwn = s.isOwn := by cases s <;> rfl
theorem updU_len {us : List (Nat × Nat)} {o : UR} : ∀ {Γ : Ctx}, (updU Γ us o).length = Γ.length := by
  induction us with
  | nil => intro Γ; rfl
  | cons u us ih =>
    intro Γ
    show (updU (match Γ[u.2]? with | some s => Γ.set u.2 (s.put (cU o u.1)) | none => Γ) us o).length = _
    rw [ih]
    split <;> simp
theorem updU_at {us : List (Nat × Nat)} {o : UR} : ∀ {Γ : Ctx} {i : Nat} {s : Slot}, (us.map (·.2)).Nodup → (updU Γ us o)[i]? = some s →
    (i ∉ us.map (·.2) ∧ Γ[i]? = some s) ∨ ∃ k s', (k, i) ∈ us ∧ Γ[i]? = some s' ∧ s = s'.put (cU o k) := by
  induction us with
  | nil => intro Γ i s _ h; exact .inl ⟨by simp, h⟩
  | cons u us ih =>
    intro Γ i s hn h
    simp only [List.map_cons, List.nodup_cons] at hn
    have h' : (updU (match Γ[u.2]? with | some s => Γ.set u.2 (s.put (cU o u.1)) | none => Γ) us o)[i]? = some s := h
    rcases ih hn.2 h' with ⟨a, b⟩ | ⟨k, s', a, b, c⟩
    · by_cases e : i = u.2
      · subst e
        cases q : Γ[u.2]? with
        | none => rw [q] at b; simp only at b; rw [q] at b; cases b
        | some s0 =>
          rw [q] at b
          simp only at b
          have hl : u.2 < Γ.length := (List.getElem?_eq_some_iff.mp q).1
          rw [List.getElem?_set_self hl] at b
          cases b
          exact .inr ⟨u.1, s0, by simp, rfl, rfl⟩
      · refine .inl ⟨by simp only [List.map_cons, List.mem_cons, not_or]; exact ⟨e, a⟩, ?_⟩
        cases q : Γ[u.2]? with
        | none => rw [q] at b; exact b
        | some s0 =>
          rw [q] at b
          simp only at b
          rw [List.getElem?_set_ne (Ne.symm e)] at b
          exact b
    · have e : i ≠ u.2 := fun e => hn.1 (by rw [← e]; exact List.mem_map.mpr ⟨(k, i), a, rfl⟩)
      refine .inr ⟨k, s', by simp [a], ?_, c⟩
      cases q : Γ[u.2]? with
      | none => rw [q] at b; exact b
      | some s0 =>
        rw [q] at b
        simp only at b
        rw [List.getElem?_set_ne (Ne.symm e)] at b
        exact b
/-- the heap without some addresses -/
noncomputable def less (H : Hp) (P : Addr → Prop) : Hp := open Classical in fun a => if P a then none else H a
theorem less_ex {H : Hp} {P : Addr → Prop} : Ex (less H P) H := fun a o h => by
  unfold less at h
  split at h
  · cases h
  · exact h
theorem less_of {G H : Hp} {P : Addr → Prop} (e : Ex G H) (h : ∀ a, P a → G a = none) : Ex G (less H P) := fun a o q => by
  unfold less
  split
  · rename_i hp; rw [h a hp] at q; cases q
  · exact e a o q
theorem less_no {H : Hp} {P : Addr → Prop} {a : Addr} (h : P a) : less H P a = none := by
  unfold less; rw [if_pos h]
theorem less_at {H : Hp} {P : Addr → Prop} {a : Addr} (h : ¬ P a) : less H P a = H a := by
  unfold less; rw [if_neg h]
/-- the engine: the call itself, then what is known behind it -/
theorem callU_go {m : List D → Option UR} {E : XK} (hu : ((usOf 0 as).map (·.2)).Nodup) (hh : ∀ j ∈ hosOf as, j ∉ (usOf 0 as).map (·.2)) (ho : ∀ j ∈ (usOf 0 as).map (·.2) ++ hosOf as, ownAt Γ j = true)
    (ha : EvK T ta Γ as ms) {Z : Base} {F H : Hp} {σ : L2.St} (ok : Ok T Z Γ F H σ) {o : UR} (hm : (ms.bind m).bind (chkU (usOf 0 as)) = some o) {Q : VK}
    (q : ∀ v F2 H2, Ok T Z (updU Γ (usOf 0 as) o) F2 H2 σ → Rep T F2 o.1 v → Q v H2) : tCall (spU T (as.map AK.pk) m) [] E ta σ H Q := by
  obtain ⟨o', h1, h2⟩ := bind_inv hm
  unfold chkU at h2
  split at h2
  · rename_i hall
    cases h2
    obtain ⟨ds, e1, e2⟩ := bind_inv h1
    refine ha Z F H σ ok ds e1 _ fun vs F2 H2 g r => ?_
    rw [List.append_nil]
    have ok2 := ok.grow g
    -- addresses of the changed ones
    let isU : Addr → Prop := fun a => ∃ u ∈ usOf 0 as, σ[u.2]? = some (some (.ref a))
    have adr : ∀ j, ownAt Γ j = true → ∃ s p d, Γ[j]? = some s ∧ s.isOwn = true ∧ σ[j]? = some (some (.ref p)) ∧ Z.B p = none ∧ F2 p = none ∧ OwnC T F2 H2 p d := fun j h => by
      unfold ownAt at h
      cases e : Γ[j]? with
      | none => rw [e] at h; cases h
      | some s =>
        rw [e] at h
        obtain ⟨p, d, a, b, c, k⟩ := (ok2.at' j s e).own_at h
        exact ⟨s, p, d, rfl, h, a, b, c, k⟩
    have uAdr : ∀ u ∈ usOf 0 as, ∃ s p d, Γ[u.2]? = some s ∧ s.isOwn = true ∧ σ[u.2]? = some (some (.ref p)) ∧ Z.B p = none ∧ F2 p = none ∧ OwnC T F2 H2 p d := fun u hu => adr u.2 (ho _ (List.mem_append_left _ (List.mem_map.mpr ⟨u, hu, rfl⟩)))
    have uB : ∀ a, isU a → Z.B a = none ∧ F2 a = none := fun a ⟨u, hu, e⟩ => by
      obtain ⟨s, p, d, _, _, a1, b, c, _⟩ := uAdr u hu
      rw [e] at a1; cases a1
      exact ⟨b, c⟩
    have notU : ∀ {j : Nat} {p : Addr} {s : Slot}, Γ[j]? = some s → s.isOwn = true → σ[j]? = some (some (.ref p)) → j ∉ (usOf 0 as).map (·.2) → ¬ isU p := fun {j p s} hs hso e hj ⟨u, hu', e'⟩ => by
      obtain ⟨s', p', d, q1, q2, q3, _⟩ := uAdr u hu'
      exact hj (by rw [ok2.sep j u.2 p s s' hs hso q1 q2 e e']; exact List.mem_map.mpr ⟨u, hu', rfl⟩)
    -- P: the address by the argument's place
    let Pa : Nat → Addr := fun n => match (usOf 0 as).find? fun u => u.1 == n with
      | some u => (match σ[u.2]? with | some (some (.ref p)) => p | _ => 0)
      | none => 0
    have firsts : ∀ {as : List AK} {n : Nat}, ((usOf n as).map (·.1)).Nodup ∧ ∀ u ∈ usOf n as, n ≤ u.1 := by
      intro as
      induction as with
      | nil => intro n; exact ⟨by simp [usOf], fun u h => by cases h⟩
      | cons a as ih =>
        intro n
        obtain ⟨i1, i2⟩ := ih (n := n + 1)
        cases a <;> simp only [usOf] <;> first | exact ⟨i1, fun u h => by have := i2 u h; omega⟩ | skip
        refine ⟨?_, fun u h => ?_⟩
        · simp only [List.map_cons, List.nodup_cons]
          refine ⟨fun hm => ?_, i1⟩
          obtain ⟨u, hu, e⟩ := List.mem_map.mp hm
          have := i2 u hu
          omega
        · rcases List.mem_cons.mp h with rfl | h
          · exact Nat.le_refl _
          · have := i2 u h; omega
    have findU : ∀ {l : List (Nat × Nat)} {u : Nat × Nat}, (l.map (·.1)).Nodup → u ∈ l → l.find? (fun x => x.1 == u.1) = some u := by
      intro l
      induction l with
      | nil => intro u _ h; cases h
      | cons x l ih =>
        intro u hn h
        simp only [List.map_cons, List.nodup_cons] at hn
        rcases List.mem_cons.mp h with rfl | h
        · simp [List.find?_cons]
        · have : x.1 ≠ u.1 := fun e => hn.1 (by rw [e]; exact List.mem_map.mpr ⟨u, h, rfl⟩)
          simp [List.find?_cons, this, ih hn.2 h]
    have PaU : ∀ u ∈ usOf 0 as, ∀ p, σ[u.2]? = some (some (.ref p)) → Pa u.1 = p := fun u hu' p e => by
      show (match (usOf 0 as).find? fun x => x.1 == u.1 with | some u => (match σ[u.2]? with | some (some (.ref p)) => p | _ => 0) | none => 0) = p
      rw [findU (firsts (as := as) (n := 0)).1 hu']
      simp only [e]
    have hvB : Ex Z.B (less H2 isU) := less_of ok2.hv.b fun a h => (uB a h).1
    have hvF : Ex F2 (less H2 isU) := less_of ok2.hv.f fun a h => (uB a h).2
    refine ⟨⟨less H2 isU, F2, H2, Pa⟩, F2, ds, rfl, rfl, ⟨less_ex, Ex.refl F2, ok2.hv.f, fun _ h => h, fun _ h => .inl h⟩, ?_, fun i j h1 h2 h3 => ?_, o, e2, fun v F3 H3 ro => ?_⟩
    · -- the arguments
      have go : ∀ {bs : List AK} {n : Nat} {ds : List D} {vs : List V}, (∀ u ∈ usOf n bs, u ∈ usOf 0 as) → (∀ j ∈ hosOf bs, j ∈ hosOf as) → RepsA T Z F2 H2 σ bs ds vs → RepsK T ⟨less H2 isU, F2, H2, Pa⟩ F2 H2 n (bs.map AK.pk) ds vs := by
        intro bs
        induction bs with
        | nil => intro n ds vs _ _ h; exact h
        | cons b bs ih =>
          intro n ds vs hs hj r
          obtain ⟨d, ds', v, vs', a1, a2, c, r⟩ := r
          have hs' : ∀ u ∈ usOf (n + 1) bs, u ∈ usOf 0 as := fun u h => hs u (by cases b <;> simp only [usOf] <;> first | exact h | exact List.mem_cons_of_mem _ h)
          have hj' : ∀ j ∈ hosOf bs, j ∈ hosOf as := fun j h => hj j (by cases b <;> simp only [hosOf] <;> first | exact h | exact List.mem_cons_of_mem _ h)
          refine ⟨d, ds', v, vs', a1, a2, ?_, ih hs' hj' r⟩
          cases b with
          | f => exact c
          | hf => exact Rep.mono hvF c
          | hb => exact Rep.mono hvB c
          | ho j =>
            obtain ⟨p, rfl, e, k⟩ := c
            have hjm : j ∈ hosOf as := hj j (by simp [hosOf])
            obtain ⟨s, p', d', q1, q2, q3, _⟩ := adr j (ho _ (List.mem_append_right _ hjm))
            have np := notU q1 q2 e (hh j hjm)
            obtain ⟨o', z1, z2⟩ := k.there
            exact z2 _ hvF (by show less H2 isU p = some o'; rw [less_at np]; exact z1)
          | u i =>
            obtain ⟨p, rfl, e, k⟩ := c
            have hum : (n, i) ∈ usOf 0 as := hs _ (by simp [usOf])
            have ep : Pa n = p := PaU (n, i) hum p e
            have hup : isU p := ⟨(n, i), hum, e⟩
            refine ⟨by show V.ref p = V.ref (Pa n); rw [ep], ?_, ?_, ?_⟩
            · show less H2 isU (Pa n) = none; rw [ep]; exact less_no hup
            · show F2 (Pa n) = none; rw [ep]; exact (uB p hup).2
            · show OwnC T F2 H2 (Pa n) d; rw [ep]; exact k
      exact go (fun u h => h) (fun j h => h) r
    · -- different places, different addresses
      have fu : ∀ {i : Nat}, (as.map AK.pk)[i]? = some PK.u → ∃ sl, (i, sl) ∈ usOf 0 as := by
        have : ∀ {bs : List AK} {n i : Nat}, (bs.map AK.pk)[i]? = some PK.u → ∃ sl, (n + i, sl) ∈ usOf n bs := by
          intro bs
          induction bs with
          | nil => intro n i h; simp at h
          | cons b bs ih =>
            intro n i h
            cases i with
            | zero =>
              cases b <;> simp only [List.map_cons, List.getElem?_cons_zero, AK.pk, Option.some.injEq] at h <;> first | (cases h; done) | skip
              exact ⟨_, by simp [usOf]; exact .inl rfl⟩
            | succ i =>
              obtain ⟨sl, hsl⟩ := ih (n := n + 1) (i := i) (by simpa using h)
              have e : n + 1 + i = n + (i + 1) := by omega
              rw [e] at hsl
              exact ⟨sl, by cases b <;> simp only [usOf] <;> first | exact hsl | exact List.mem_cons_of_mem _ hsl⟩
        intro i h
        have := this (n := 0) h
        simpa using this
      obtain ⟨s1, m1⟩ := fu h1
      obtain ⟨s2, m2⟩ := fu h2
      obtain ⟨t1, p1, d1, a1, a2, a3, _⟩ := uAdr _ m1
      obtain ⟨t2, p2, d2, b1, b2, b3, _⟩ := uAdr _ m2
      have x1 := PaU _ m1 p1 a3
      have x2 := PaU _ m2 p2 b3
      simp only at x1 x2
      have h3' : Pa i = Pa j := h3
      rw [x1, x2] at h3'
      subst h3'
      have es : s1 = s2 := ok2.sep _ _ p1 t1 t2 a1 a2 b1 b2 a3 b3
      subst es
      -- the same slot stands once
      have := hu
      have uniq : ∀ {l : List (Nat × Nat)} {x y : Nat × Nat}, (l.map (·.2)).Nodup → x ∈ l → y ∈ l → x.2 = y.2 → x = y := by
        intro l
        induction l with
        | nil => intro x y _ h; cases h
        | cons z l ih =>
          intro x y hn hx hy e
          simp only [List.map_cons, List.nodup_cons] at hn
          rcases List.mem_cons.mp hx with x1 | x1
          · rcases List.mem_cons.mp hy with y1 | y1
            · rw [x1, y1]
            · exact (hn.1 (List.mem_map.mpr ⟨y, y1, by rw [← e, x1]⟩)).elim
          · rcases List.mem_cons.mp hy with y1 | y1
            · exact (hn.1 (List.mem_map.mpr ⟨x, x1, by rw [e, y1]⟩)).elim
            · exact ih hn.2 x1 y1 e
      have := uniq hu m1 m2 rfl
      exact (Prod.mk.inj this).1
    · -- behind the call
      refine q v F3 H3 ?_ ro.rep
      have cont : ∀ u ∈ usOf 0 as, F3 (Pa u.1) = none ∧ OwnC T F3 H3 (Pa u.1) (cU o u.1) := fun u hu' => by
        have h := List.all_eq_true.mp hall u hu'
        obtain ⟨c, hc⟩ := Option.isSome_iff_exists.mp h
        have hmem : (u.1, c) ∈ o.2 := by
          have : ∀ {l : List (Nat × D)}, l.lookup u.1 = some c → (u.1, c) ∈ l := by
            intro l
            induction l with
            | nil => intro h; cases h
            | cons x l ih =>
              intro h
              obtain ⟨x1, x2⟩ := x
              by_cases e : u.1 = x1
              · have e' : (u.1 == x1) = true := by simp [e]
                rw [List.lookup, e'] at h
                cases h
                rw [e]; exact List.mem_cons_self ..
              · have e' : (u.1 == x1) = false := by simpa using e
                rw [List.lookup, e'] at h
                exact List.mem_cons_of_mem _ (ih h)
          exact this hc
        have := ro.mus _ hmem
        unfold cU
        rw [hc]
        exact this
      refine ⟨⟨hvB.trans ro.hv.b, ok2.hv.f0.trans ro.hv.f0, ro.hv.f, fun a h => ro.hv.dom a (ok2.hv.dom a h), fun a h => ?_⟩, by rw [updU_len]; exact ok2.len, fun i s e => ?_, fun i j p s t x1 o1 x2 o2 y1 y2 => ?_⟩
      · rcases ro.hv.new a h with z | z
        · exact ok2.hv.new a z
        · refine .inr ?_
          cases y : Z.H a with
          | none => rfl
          | some u => exact absurd z (ok2.hv.dom a (by rw [y]; simp))
      · rcases updU_at hu e with ⟨a, b⟩ | ⟨k, s', a, b, rfl⟩
        · have old := ok2.at' i s b
          cases s <;> simp only [SlotOk] at old ⊢
          · obtain ⟨v, c1, c2⟩ := old; exact ⟨v, c1, c2.mono ro.hv.f0⟩
          · exact old
          · obtain ⟨p, c1, c2, c3, c4, c5⟩ := old
            have np := notU b rfl c1 a
            obtain ⟨ob, z1, z2⟩ := c4.there
            have h3 : H3 p = some ob := ro.hv.b p ob (by show less H2 isU p = some ob; rw [less_at np]; exact z1)
            have f3 : F3 p = none := by
              cases y : F3 p with
              | none => rfl
              | some u =>
                rcases ro.hv.new p (by rw [y]; simp) with z | z
                · exact absurd c3 z
                · have z' : H2 p = none := z
                  rw [z1] at z'; cases z'
            exact ⟨p, c1, c2, f3, c4.same ro.hv.f0 z1 h3, c5⟩
          · obtain ⟨p, c1, c0, c2, c3, c4⟩ := old
            have np := notU b rfl c1 a
            obtain ⟨ob, z1, z2⟩ := c4.there
            have h3 : H3 p = some ob := ro.hv.b p ob (by show less H2 isU p = some ob; rw [less_at np]; exact z1)
            have f3 : F3 p = none := by
              cases y : F3 p with
              | none => rfl
              | some u =>
                rcases ro.hv.new p (by rw [y]; simp) with z | z
                · exact absurd c3 z
                · have z' : H2 p = none := z
                  rw [z1] at z'; cases z'
            exact ⟨p, c1, c0, c2, f3, c4.same ro.hv.f0 z1 h3⟩
        · obtain ⟨s0, p, d, q1, q2, q3, q4, q5, q6⟩ := uAdr _ a
          simp only at q1 q3
          rw [b] at q1; cases q1
          have pa := PaU _ a p q3
          obtain ⟨k1, k2⟩ := cont _ a
          rw [pa] at k1 k2
          have old := ok2.at' i s' b
          cases s' <;> simp only [Slot.isOwn] at q2 <;> first | (cases q2; done) | skip
          · obtain ⟨p', c1, c2, c3, c4, c5⟩ := old
            rw [q3] at c1; cases c1
            exact ⟨p, q3, c2, k1, k2, c5⟩
          · obtain ⟨p', c1, c0, c2, c3, c4⟩ := old
            rw [q3] at c1; cases c1
            exact ⟨p, q3, c0, c2, k1, k2⟩
      · have f : ∀ {i : Nat} {s : Slot}, (updU Γ (usOf 0 as) o)[i]? = some s → s.isOwn = true → ∃ s', Γ[i]? = some s' ∧ s'.isOwn = true := fun {i s} e w => by
          rcases updU_at hu e with ⟨_, b⟩ | ⟨k, s', _, b, rfl⟩
          · exact ⟨s, b, w⟩
          · exact ⟨s', b, by rw [Slot.put_own] at w; exact w⟩
        obtain ⟨s', q1, q2⟩ := f x1 o1
        obtain ⟨t', q3, q4⟩ := f x2 o2
        exact ok2.sep i j p s' t' q1 q2 q3 q4 y1 y2
  · cases h2
end
end Mi
/-! small things: chains, signs, calls by arity, the order of blocks -/
namespace Mi
open PySem L2
open PyProof.Rows
open Evl (Ex ex_t ex_l ex_rd fresh_back)
section
variable {ω α β : Type} {T : Th} {Γ : Ctx} {md : Md} {ta tb tc te : TE} {ma mb mc m : Option D} {r r' : R2} {f g : D → D → Option D} {t u v : TS} {P : Base → Ends → ω → Prop}
/-- a < b < c -/
def oChain (f g : D → D → Option D) (a b c : Option D) : Option D := a.bind fun x => b.bind fun y => (f x y).bind fun z => (tru z).bind fun k => if k = true then c.bind fun w => g y w else some (.bl false)
theorem ev_chain (hf : OpS T r f) (hg : OpS T r' g) (ha : Ev T .h ta Γ ma) (hb : Ev T .h tb Γ mb) (hc : Ev T .h tc Γ mc) : Ev T md (tChain r r' ta tb tc) Γ (oChain f g ma mb mc) := fun Z F H σ ok d hd Q q => by
  obtain ⟨x, e1, n1⟩ := bind_inv hd
  obtain ⟨y, e2, n2⟩ := bind_inv n1
  obtain ⟨z, e3, n3⟩ := bind_inv n2
  obtain ⟨k, e4, n4⟩ := bind_inv n3
  refine ha Z F H σ ok x e1 _ fun v F2 H2 g1 r1 => hb Z F2 H2 σ (ok.grow g1) y e2 _ fun w F3 H3 g2 r2 => ?_
  refine hf H3 v w x y z (r1.mono g2.h) r2 e3 _ fun z' hz => ?_
  have hzb := tru_inv e4
  subst hzb
  have := hz H3
  simp only [Rep] at this
  subst this
  refine ⟨k, rfl, ?_⟩
  cases k with
  | false =>
    cases n4
    exact q _ F3 H3 (g1.trans g2) (by simp only [Rep])
  | true =>
    simp only [if_true] at n4 ⊢
    obtain ⟨w', e5, e6⟩ := bind_inv n4
    refine hc Z F3 H3 σ ((ok.grow g1).grow g2) w' e5 _ fun u' F4 H4 g3 r3 => ?_
    exact hg H4 w u' y w' d (r2.mono g3.h) r3 e6 Q fun o ho => q o F4 H4 ((g1.trans g2).trans g3) (ho _)
theorem ev_neg (ha : Ev T .h ta Γ ma) : Ev T md (tUn (rU fun i => .int (-i)) ta) Γ (o1 dNeg ma) := fun Z F H σ ok d hd Q q => by
  obtain ⟨x, e1, e2⟩ := o1_inv hd
  refine ha Z F H σ ok x e1 _ fun v F2 H2 g r => ?_
  cases x <;> simp only [dNeg] at e2 <;> try (cases e2; done)
  cases e2
  simp only [Rep] at r
  exact ⟨_, r, q _ F2 H2 g (by simp only [Rep])⟩
theorem b_assoc {m : Option ω} (h : B T (tSeq t (tSeq u v)) Γ m P) : B T (tSeq (tSeq t u) v) Γ m P := h
theorem b_nextv {m : Option ω} (h : B T v Γ m P) : B T (tSeq tNext v) Γ m P := h
end
def f0 {α : Type} (f : Option α) : List D → Option α
  | [] => f
  | _ => none
def f3 {α : Type} (f : D → D → D → Option α) : List D → Option α
  | [a, b, c] => f a b c
  | _ => none
def f4 {α : Type} (f : D → D → D → D → Option α) : List D → Option α
  | [a, b, c, d] => f a b c d
  | _ => none
def f5 {α : Type} (f : D → D → D → D → D → Option α) : List D → Option α
  | [a, b, c, d, e] => f a b c d e
  | _ => none
def f6 {α : Type} (f : D → D → D → D → D → D → Option α) : List D → Option α
  | [a, b, c, d, e, g] => f a b c d e g
  | _ => none
def f7 {α : Type} (f : D → D → D → D → D → D → D → Option α) : List D → Option α
  | [a, b, c, d, e, g, h] => f a b c d e g h
  | _ => none
def f8 {α : Type} (f : D → D → D → D → D → D → D → D → Option α) : List D → Option α
  | [a, b, c, d, e, g, h, i] => f a b c d e g h i
  | _ => none

/-! ### what the rules of a name ask, a def that may be called, the law's end -/
section
variable {P : Program} {w : World} {K : PySem.W.Frag} {mg : Str → Option Value} {base : Heap} {X : Cx}
theorem pe_gint {x : Str} {n : Int} {pos : Pos} (hg : Gl X x) (hm : ∃ t, X.mg x = some (.int n t)) (hd : (x == ("__debug__" : Str)) = false := by decide) : PE X (.Name x pos) (tC (.int n)) := by
  obtain ⟨t, h⟩ := hm
  exact pe_glob hg h ⟨_, rfl⟩ hd
theorem pe_gstr {x : Str} {n : Str} {pos : Pos} (hg : Gl X x) (hm : ∃ t, X.mg x = some (.str n t)) (hd : (x == ("__debug__" : Str)) = false := by decide) : PE X (.Name x pos) (tC (.str n)) := by
  obtain ⟨t, h⟩ := hm
  exact pe_glob hg h ⟨_, rfl⟩ hd
/-- a def that may be called by its name -/
structure Cl (P : Program) (w : World) (K : PySem.W.Frag) (mg : Str → Option Value) (base : Heap) (k : Nat) (x : Str) (ps : List Str) (sp : Sp) : Prop where
  ex : ∃ f fd, FnOk P w K mg base CX0 k f fd ps sp ∧ mg x = some (.ref f) ∧ PySem.W.keepIn K (.ref f) = true ∧ Binds K fd ps []
theorem pe_cl {k j : Nat} {x : Str} {ps : List Str} {sp : Sp} {e : Expr} {es : List Expr} {t : TA} {p pos : Pos} (C : Cl X.prog X.w X.K X.mg X.base j x ps sp) (hr : Room k X.A) (hg : Gl X x) (ha : PA X (e :: es) t) (hjk : j ≤ k := by decide)
    (hd : (x == ("__debug__" : Str)) = false := by decide) (he : starEach (e :: es) X.env = (false, eval e X.env) :: starEach es X.env := by rfl) (hpl : (backTo pos (starEach es X.env)).any (·.1) = false := by rfl) : PE X (.Call (.Name x p) (e :: es) [] pos) (tCall sp [] (fun _ _ _ => False) t) := by
  obtain ⟨f, fd, F, hm, hk, hb⟩ := C.ex
  exact pe_call (F.mono hjk) hr hg hm hk hb .nil pass0 ha hd he hpl
def spTrue (K : PySem.W.Frag) : Sp := fun vs H Q _ => ∃ (a : Addr) (ns : List Int), vs = [.ref a] ∧ SqL K H a (ns.map V.int) ∧ ns.length ≤ 63 ∧ ∀ H', Q (.bl true) H'
theorem law_true {T : Th} {f : Addr} {fd : FuncData} {k : Nat} {m : D → Option D} {ps : List Str} (F : FnOk P w T.K mg base CX0 k f fd ps (spU T [.f] (pur (f1 m)))) (h : ∀ ns : List Int, ns.length ≤ 63 → m (.scr ns) = some (.bl true)) :
    FnOk P w T.K mg base CX0 k f fd ps (spTrue T.K) := F.imp fun vs H Q E hq => by
  obtain ⟨a, ns, hv, hs, hl, q⟩ := hq
  subst hv
  refine ⟨⟨H, H, H, fun _ => 0⟩, H, [.scr ns], rfl, rfl, ⟨Ex.refl _, Ex.refl _, Ex.refl _, fun _ h => h, fun _ h => .inl h⟩, ⟨_, _, _, _, rfl, rfl, ?_, rfl, rfl⟩, fun i j h1 => ?_, (.bl true, []), ?_, fun v F2 H2 r => ?_⟩
  · simp only [Rep]; exact ⟨a, rfl, hs⟩
  · cases i with
    | zero => simp at h1
    | succ i => simp at h1
  · show (m (.scr ns)).map (fun d => (d, [])) = _
    rw [h ns hl]; rfl
  · have := r.rep
    simp only [Rep] at this
    subst this
    exact q H2
end
theorem law_walk {l : PySem.W.OpenLaw} {q : Program} {loose : List Str} {XP : (Str → Option Value) → Heap → Prop} {YP : World → Heap → Prop} {d : DefRec} {K : Params → PySem.W.Frag} {k : Nat} (hn : l.most = some 63) (hdf : d.params.defaults = []) (hr : Room k callerA)
    (hY : ∀ (w : World) (h : Heap), YP w h → (K w.params).In h)
    (F : ∀ (w : World) (mg : Str → Option Value) (fa : Addr) (h : Heap), (K w.params).In h → h.Ns mainGlobals mg → mg d.name = some (.ref fa) →
      ∃ fd : FuncData, (∀ (s : Shared) (u : Value), BindsTo s fd ⟨[u], []⟩ [("script", u)]) ∧ ∀ base : Heap, (K w.params).In base → base.Ns mainGlobals mg → FnOk l.prog w (K w.params) mg base CX0 k fa fd ["script"] (spTrue (K w.params))) :
    PySem.W.WalkO q loose XP YP l.row.toRowW d [] (fun f vs => PySem.call f vs) :=
  L2.walk_of (n := 63) (k := k) (x := "script") (CX := fun _ => CX0) (sp := fun w => spTrue (K w.params)) hn (by decide) hdf hr hY F (fun _ _ a ns hl _ hS => ⟨a, ns, rfl, hS, hl, fun _ => rfl⟩) fun _ _ _ _ _ z => z
end Mi
/-! calls by arity -/
namespace Mi
instance : DecidableEq Md := fun a b => by cases a <;> cases b <;> first | exact isTrue rfl | exact isFalse (fun h => by cases h)
open PySem L2
abbrev c1 {α : Type} (f : D → Option α) (a : Option D) : Option α := o1 (f1 f) (oCons a (some []))
abbrev c2 {α : Type} (f : D → D → Option α) (a b : Option D) : Option α := o1 (f2 f) (oCons a (oCons b (some [])))
abbrev c3 {α : Type} (f : D → D → D → Option α) (a b c : Option D) : Option α := o1 (f3 f) (oCons a (oCons b (oCons c (some []))))
abbrev c4 {α : Type} (f : D → D → D → D → Option α) (a b c d : Option D) : Option α := o1 (f4 f) (oCons a (oCons b (oCons c (oCons d (some [])))))
abbrev c5 {α : Type} (f : D → D → D → D → D → Option α) (a b c d e : Option D) : Option α := o1 (f5 f) (oCons a (oCons b (oCons c (oCons d (oCons e (some []))))))
abbrev c6 {α : Type} (f : D → D → D → D → D → D → Option α) (a b c d e g : Option D) : Option α := o1 (f6 f) (oCons a (oCons b (oCons c (oCons d (oCons e (oCons g (some [])))))))
abbrev c7 {α : Type} (f : D → D → D → D → D → D → D → Option α) (a b c d e g h : Option D) : Option α := o1 (f7 f) (oCons a (oCons b (oCons c (oCons d (oCons e (oCons g (oCons h (some []))))))))
abbrev c8 {α : Type} (f : D → D → D → D → D → D → D → D → Option α) (a b c d e g h i : Option D) : Option α := o1 (f8 f) (oCons a (oCons b (oCons c (oCons d (oCons e (oCons g (oCons h (oCons i (some [])))))))))
@[simp] theorem c1_s {α : Type} (f : D → Option α) (a : D) : c1 f (some a) = f a := id rfl
@[simp] theorem c2_s {α : Type} (f : D → D → Option α) (a b : D) : c2 f (some a) (some b) = f a b := id rfl
@[simp] theorem c3_s {α : Type} (f : D → D → D → Option α) (a b c : D) : c3 f (some a) (some b) (some c) = f a b c := id rfl
@[simp] theorem c4_s {α : Type} (f : D → D → D → D → Option α) (a b c d : D) : c4 f (some a) (some b) (some c) (some d) = f a b c d := id rfl
@[simp] theorem c5_s {α : Type} (f : D → D → D → D → D → Option α) (a b c d e : D) : c5 f (some a) (some b) (some c) (some d) (some e) = f a b c d e := id rfl
@[simp] theorem c6_s {α : Type} (f : D → D → D → D → D → D → Option α) (a b c d e g : D) : c6 f (some a) (some b) (some c) (some d) (some e) (some g) = f a b c d e g := id rfl
@[simp] theorem c7_s {α : Type} (f : D → D → D → D → D → D → D → Option α) (a b c d e g h : D) : c7 f (some a) (some b) (some c) (some d) (some e) (some g) (some h) = f a b c d e g h := id rfl
@[simp] theorem c8_s {α : Type} (f : D → D → D → D → D → D → D → D → Option α) (a b c d e g h i : D) : c8 f (some a) (some b) (some c) (some d) (some e) (some g) (some h) (some i) = f a b c d e g h i := id rfl
section
variable {T : Th} {Γ Γ' : Ctx} {md : Md} {te : TE} {m : Option D} {ta : TA} {ks : List PK} {ms : Option (List D)} {f : List D → Option D}
theorem ev_le (h : Le Γ Γ') (he : Ev T md te Γ' m) : Ev T md te Γ m := fun Z F H σ ok => he Z F H σ (ok.le h)
theorem evo_le (h : Le Γ Γ') (he : EvO T te Γ' m) : EvO T te Γ m := fun Z F H σ ok => he Z F H σ (ok.le h)
theorem ev_callO {E : XK} (hu : noU ks = true) (ha : EvA T ta Γ (ks.map kMd) ms) (hm : md.fh = true := by rfl) : Ev T md (tCall (spU T ks (pur f)) [] E ta) Γ (o1 f ms) := ev_call hu ha hm
end
end Mi
/-! plain laws of the mirrors' parts -/
namespace Mi
open PySem L2
@[simp] theorem oCons_some (a : D) (l : List D) : oCons (some a) (some l) = some (a :: l) := id rfl
@[simp] theorem f1_s {α : Type} (f : D → Option α) (a : D) : f1 f [a] = f a := id rfl
@[simp] theorem f2_s {α : Type} (f : D → D → Option α) (a b : D) : f2 f [a, b] = f a b := id rfl
@[simp] theorem f3_s {α : Type} (f : D → D → D → Option α) (a b c : D) : f3 f [a, b, c] = f a b c := id rfl
@[simp] theorem f4_s {α : Type} (f : D → D → D → D → Option α) (a b c d : D) : f4 f [a, b, c, d] = f a b c d := id rfl
@[simp] theorem f5_s {α : Type} (f : D → D → D → D → D → Option α) (a b c d e : D) : f5 f [a, b, c, d, e] = f a b c d e := id rfl
@[simp] theorem f6_s {α : Type} (f : D → D → D → D → D → D → Option α) (a b c d e g : D) : f6 f [a, b, c, d, e, g] = f a b c d e g := id rfl
@[simp] theorem f7_s {α : Type} (f : D → D → D → D → D → D → D → Option α) (a b c d e g h : D) : f7 f [a, b, c, d, e, g, h] = f a b c d e g h := id rfl
@[simp] theorem f8_s {α : Type} (f : D → D → D → D → D → D → D → D → Option α) (a b c d e g h i : D) : f8 f [a, b, c, d, e, g, h, i] = f a b c d e g h i := id rfl
@[simp] theorem dAdd_ii (a b : Int) : dAdd (.int a) (.int b) = some (.int (a + b)) := id rfl
@[simp] theorem dAddI_ii (a b : Int) : dAddI (.int a) (.int b) = some (.int (a + b)) := id rfl
@[simp] theorem dSub_ii (a b : Int) : dSub (.int a) (.int b) = some (.int (a - b)) := id rfl
@[simp] theorem dNeg_i (a : Int) : dNeg (.int a) = some (.int (-a)) := id rfl
@[simp] theorem dInt_i (a : Int) : dInt (.int a) = some (.int a) := id rfl
@[simp] theorem dInt_b (b : Bool) : dInt (.bl b) = some (.int (if b then 1 else 0)) := id rfl
@[simp] theorem dLt_ii (a b : Int) : dLt (.int a) (.int b) = some (.bl (decide (a < b))) := id rfl
@[simp] theorem dLe_ii (a b : Int) : dLe (.int a) (.int b) = some (.bl (decide (a ≤ b))) := id rfl
@[simp] theorem dGt_ii (a b : Int) : dGt (.int a) (.int b) = some (.bl (decide (b < a))) := id rfl
@[simp] theorem dGe_ii (a b : Int) : dGe (.int a) (.int b) = some (.bl (decide (b ≤ a))) := id rfl
theorem dMod_ii {a b : Int} (h : 0 < b) : dMod (.int a) (.int b) = some (.int (a % b)) := if_pos h
theorem dDiv_ii {a b : Int} (h : 0 < b) (h2 : b < 1073741824) : dDiv (.int a) (.int b) = some (.int (a / b)) := if_pos ⟨h, h2⟩
theorem dMul_l {a b : Int} (h : smallI a) : dMul (.int a) (.int b) = some (.int (a * b)) := if_pos (.inl h)
theorem dMul_r {a b : Int} (h : smallI b) : dMul (.int a) (.int b) = some (.int (a * b)) := if_pos (.inr h)
theorem dPow_ii {a b : Int} (h : 0 ≤ b ∧ b ≤ 1000000 ∧ a.natAbs < 18446744073709551616) : dPow (.int a) (.int b) = some (.int (a ^ b.toNat)) := if_pos h
@[simp] theorem dLen_lst (ds : List D) : dLen (.lst ds) = some (.int ds.length) := id rfl
@[simp] theorem dLen_tup (ds : List D) : dLen (.tup ds) = some (.int ds.length) := id rfl
@[simp] theorem dLen_scr (ds : List Int) : dLen (.scr ds) = some (.int ds.length) := id rfl
@[simp] theorem dItems_lst (ds : List D) : dItems (.lst ds) = some ds := id rfl
@[simp] theorem dItems_tup (ds : List D) : dItems (.tup ds) = some ds := id rfl
@[simp] theorem dSeq_lst (ds : List D) : dSeq (.lst ds) = some ds := id rfl
@[simp] theorem dSeq_tup (ds : List D) : dSeq (.tup ds) = some ds := id rfl
theorem dLst_s {ds : List D} (h : ds.length ≤ 16777216) : dLst ds = some (.lst ds) := if_pos h
theorem dTup_s {ds : List D} (h : ds.length ≤ 16777216) : dTup ds = some (.tup ds) := if_pos h
theorem dApp_s {ds : List D} {d : D} (h : ds.length < 16777216) : dApp (.lst ds) d = some (.lst (ds ++ [d])) := if_pos h
@[simp] theorem oChain_s (f g : D → D → Option D) (x y : D) (c : Option D) : oChain f g (some x) (some y) c = (f x y).bind fun z => (tru z).bind fun k => if k = true then c.bind fun w => g y w else some (.bl false) := id rfl
@[simp] theorem chk_non : chk .non = some .non := id rfl
theorem atI_at {α : Type} {xs : List α} {j : Nat} (h : j < xs.length) : atI xs (j : Int) = some xs[j] := atI_nat (List.getElem?_eq_getElem h)
theorem atI_int {α : Type} {xs : List α} {i : Int} (h0 : 0 ≤ i) (h : i.toNat < xs.length) : atI xs i = some xs[i.toNat] := by
  have : i = (i.toNat : Int) := by omega
  conv => lhs; rw [this]
  exact atI_at h
@[simp] theorem atI_0 {α : Type} (x : α) (xs : List α) : atI (x :: xs) 0 = some x := atI_nat (j := 0) rfl
@[simp] theorem atI_1 {α : Type} (x y : α) (xs : List α) : atI (x :: y :: xs) 1 = some y := atI_nat (j := 1) rfl
@[simp] theorem atI_2 {α : Type} (x y z : α) (xs : List α) : atI (x :: y :: z :: xs) 2 = some z := atI_nat (j := 2) rfl
@[simp] theorem atI_3 {α : Type} (x y z a : α) (xs : List α) : atI (x :: y :: z :: a :: xs) 3 = some a := atI_nat (j := 3) rfl
@[simp] theorem atI_4 {α : Type} (x y z a b : α) (xs : List α) : atI (x :: y :: z :: a :: b :: xs) 4 = some b := atI_nat (j := 4) rfl
@[simp] theorem atI_5 {α : Type} (x y z a b c : α) (xs : List α) : atI (x :: y :: z :: a :: b :: c :: xs) 5 = some c := atI_nat (j := 5) rfl
@[simp] theorem atI_6 {α : Type} (x y z a b c d : α) (xs : List α) : atI (x :: y :: z :: a :: b :: c :: d :: xs) 6 = some d := atI_nat (j := 6) rfl
@[simp] theorem atI_7 {α : Type} (x y z a b c d e : α) (xs : List α) : atI (x :: y :: z :: a :: b :: c :: d :: e :: xs) 7 = some e := atI_nat (j := 7) rfl
@[simp] theorem atI_8 {α : Type} (x y z a b c d e f : α) (xs : List α) : atI (x :: y :: z :: a :: b :: c :: d :: e :: f :: xs) 8 = some f := atI_nat (j := 8) rfl
@[simp] theorem dIx_lst (ds : List D) (i : Int) : dIx (.lst ds) (.int i) = atI ds i := id rfl
@[simp] theorem dIx_tup (ds : List D) (i : Int) : dIx (.tup ds) (.int i) = atI ds i := id rfl
@[simp] theorem dIx_scr (ds : List Int) (i : Int) : dIx (.scr ds) (.int i) = (atI ds i).map D.int := id rfl
/-! loops -/
theorem foldO_inv {β ι : Type} {f : β → ι → Option β} (I : Nat → β → Prop) : ∀ (ds : List ι) (k : Nat) (b : β), I k b → (∀ i (h : i < ds.length) b, I (k + i) b → ∃ b', f b ds[i] = some b' ∧ I (k + i + 1) b') → ∃ b', foldO f ds b = some b' ∧ I (k + ds.length) b'
  | [], k, b, h, _ => ⟨b, rfl, h⟩
  | d :: ds, k, b, h, hs => by
    obtain ⟨b1, e1, i1⟩ := hs 0 (by simp) b h
    obtain ⟨b2, e2, i2⟩ := foldO_inv I ds (k + 1) b1 i1 fun i hi b hb => by
      have := hs (i + 1) (by simpa using hi) b (by rw [show k + (i + 1) = k + 1 + i by omega]; exact hb)
      rw [show k + (i + 1) + 1 = k + 1 + i + 1 by omega] at this
      simpa using this
    refine ⟨b2, ?_, by rw [show k + (d :: ds).length = k + 1 + ds.length by simp; omega]; exact i2⟩
    rw [foldO_cons]
    have e1' : f b d = some b1 := e1
    rw [e1']
    exact e2
theorem foldO_inv0 {β ι : Type} {f : β → ι → Option β} (I : Nat → β → Prop) (ds : List ι) (b : β) (h0 : I 0 b) (hs : ∀ i (h : i < ds.length) b, I i b → ∃ b', f b ds[i] = some b' ∧ I (i + 1) b') : ∃ b', foldO f ds b = some b' ∧ I ds.length b' := by
  obtain ⟨b', e, i⟩ := foldO_inv I ds 0 b h0 fun i h b hb => by
    have := hs i h b (by simpa using hb)
    simpa using this
  exact ⟨b', e, by simpa using i⟩
theorem ranged_len (a b : Int) : (ranged a b).length = (b - a).toNat := by simp [ranged]
theorem ranged_get {a b : Int} {i : Nat} (h : i < (ranged a b).length) : (ranged a b)[i] = .int (a + (i : Nat)) := by simp [ranged]
theorem dRange1_s {n : Int} (h : -(2 ^ 62) ≤ n ∧ n < 2 ^ 62) : dRange1 [.int n] = some (ranged 0 n) := if_pos h
theorem dRange2_s {a b : Int} (h : (-(2 ^ 62) ≤ a ∧ a < 2 ^ 62) ∧ -(2 ^ 62) ≤ b ∧ b < 2 ^ 62) : dRange2 [.int a, .int b] = some (ranged a b) := if_pos h
/-- a comprehension that keeps by p -/
theorem compO_filter {ι : Type} {f : ι → Option (Option D)} {p : ι → Bool} {g : ι → D} : ∀ {ds : List ι}, (∀ d ∈ ds, f d = some (if p d = true then some (g d) else none)) → compO f ds = some ((ds.filter p).map g)
  | [], _ => rfl
  | d :: ds, h => by
    rw [compO_cons, h d (by simp), compO_filter (ds := ds) fun e he => h e (by simp [he])]
    cases q : p d <;> simp [q, optC]
theorem compO_map {ι : Type} {f : ι → Option (Option D)} {g : ι → D} {ds : List ι} (h : ∀ d ∈ ds, f d = some (some (g d))) : compO f ds = some (ds.map g) := by
  rw [compO_filter (p := fun _ => true) (g := g) (by intro d hd; rw [h d hd]; rfl)]
  have : List.filter (fun _ => true) ds = ds := by
    rw [List.filter_eq_self]; intro a _; rfl
  rw [this]
theorem dComp_filter {ι : Type} {f : ι → Option (Option D)} {p : ι → Bool} {g : ι → D} {ds : List ι} (hl : ds.length ≤ 16777216) (h : ∀ d ∈ ds, f d = some (if p d = true then some (g d) else none)) : dComp f ds = some (.lst ((ds.filter p).map g)) := by
  unfold dComp; rw [if_pos hl, compO_filter h]; rfl
theorem dComp_map {ι : Type} {f : ι → Option (Option D)} {g : ι → D} {ds : List ι} (hl : ds.length ≤ 16777216) (h : ∀ d ∈ ds, f d = some (some (g d))) : dComp f ds = some (.lst (ds.map g)) := by
  unfold dComp; rw [if_pos hl, compO_map h]; rfl
/-- a loop that leaves at the first bad one -/
theorem loopO_all {β ι γ : Type} {f : β → ι → Option (Out β β)} {p : ι → Bool} {b : β} {r : D} : ∀ {ds : List ι}, (∀ d ∈ ds, f b d = some (if p d = true then .nx b else .rt r [])) → loopO (γ := γ) f ds b = some (if ds.all p = true then .nx b else .rt r [])
  | [], _ => rfl
  | d :: ds, h => by
    rw [loopO_cons, h d (by simp)]
    cases q : p d with
    | false => simp [q]
    | true =>
      simp only [if_true, Option.bind_some, List.all_cons, q, Bool.true_and]
      exact loopO_all fun e he => h e (by simp [he])
end Mi
/-! parts of what is owned, new lists of operations, objects that are made, methods -/
namespace Mi
open PySem L2
open PyProof.Rows
open Evl (Ex ex_t ex_l ex_rd fresh_back)
section
variable {ω : Type} {T : Th} {Γ : Ctx} {md : Md} {ta tb te : TE} {ma mb me : Option D} {i : Nat} {P : Base → Ends → ω → Prop}
/-- a field of an owned object: its parts may be kept -/
theorem ev_fldO {c n : Str} {s : Slot} {d : D} (hc : Cls T.K (T.C c)) (hn : NoAttr T.K (T.C c) n) (hs : Γ[i]? = some s) (ho : s.isOwnD d) (hm : md.fh = true := by rfl) : Ev T md (tFld T.K (tVar i) n) Γ (o1 (dFld c n) (some d)) := fun Z F H σ ok e hd Q q => by
  obtain ⟨x, e1, e2⟩ := o1_inv hd
  cases e1
  obtain ⟨p, a, b, cc, _⟩ := own_slot ok hs ho
  refine ⟨_, a, ?_⟩
  cases d <;> simp only [dFld] at e2 <;> try (cases e2; done)
  split at e2
  · rename_i hcc
    subst hcc
    simp only [OwnC] at cc
    obtain ⟨dx, vs, hp, hl, rr⟩ := cc
    obtain ⟨w, hw, rw'⟩ := look_lookup rr e2
    exact ⟨p, _, dx, _, w, rfl, hp, hc, hn, hw, q w F H (Grow.refl ok.hv.f) (rw'.mono (sel_out ok.hv.f hm))⟩
  · cases e2
/-- an item of an owned list -/
def dIxL : D → D → Option D
  | .lst ds, .int i => atI ds i
  | _, _ => none
theorem ev_ixO {s : Slot} {d : D} (hs : Γ[i]? = some s) (ho : s.isOwnD d) (hb : Ev T .h tb Γ mb) (hm : md.fh = true := by rfl) : Ev T md (tOp (rIxA T.K) (tVar i) tb) Γ (o2 dIxL (some d) mb) := fun Z F H σ ok e hd Q q => by
  obtain ⟨x, y, e1, e2, e3⟩ := o2_inv hd
  cases e1
  obtain ⟨p0, a0, _⟩ := own_slot ok hs ho
  refine ⟨_, a0, hb Z F H σ ok y e2 _ fun w F2 H2 g r => ?_⟩
  obtain ⟨p, a, b, cc, _⟩ := own_slot (ok.grow g) hs ho
  rw [a0] at a; cases a
  cases d <;> simp only [dIxL] at e3 <;> try (cases e3; done)
  cases y <;> simp only [dIxL] at e3 <;> try (cases e3; done)
  simp only [Rep] at r
  subst r
  simp only [OwnC] at cc
  obtain ⟨vs, hp, rr⟩ := cc
  obtain ⟨v, hv, rv⟩ := atI_reps rr e3
  exact .inl (.inl ⟨p0, vs, _, v, rfl, rfl, SqL.of hp, hv, q v F2 H2 g (rv.mono (sel_out g.i hm))⟩)
/-- xs * n, xs + ys: the new list -/
def dMulL : D → D → Option D
  | .lst xs, .int k => if -9223372036854775808 ≤ k ∧ k < 9223372036854775808 ∧ xs.length * k.toNat ≤ 16777216 then some (.lst (List.replicate k.toNat xs).flatten) else none
  | _, _ => none
def dAddL : D → D → Option D
  | .lst a, .lst b => if a.length + b.length ≤ 16777216 then some (.lst (a ++ b)) else none
  | _, _ => none
theorem evo_mulL (ha : Ev T .f ta Γ ma) (hb : Ev T .h tb Γ mb) : EvO T (tOp (rMulA T.K) ta tb) Γ (o2 dMulL ma mb) := fun Z F H σ ok d hd Q q => by
  obtain ⟨x, y, e1, e2, e3⟩ := o2_inv hd
  refine ha Z F H σ ok x e1 _ fun v F2 H2 g r => hb Z F2 H2 σ (ok.grow g) y e2 _ fun w F3 H3 g3 r3 => ?_
  cases x <;> simp only [dMulL] at e3 <;> try (cases e3; done)
  cases y <;> simp only [dMulL] at e3 <;> try (cases e3; done)
  split at e3
  · rename_i h
    cases e3
    obtain ⟨p, vs, rfl, hp, r1⟩ := rep_lst_inv r
    simp only [Rep] at r3
    subst r3
    have gg := g.trans g3
    refine .inr ⟨p, _, vs, rfl, rfl, g3.i _ _ (g3.f _ _ hp), by have := h.1; omega, by have := h.2.1; omega, by rw [line_eq, ← r1.len]; exact h.2.2, fun n hn => ?_⟩
    rename_i ds k
    have hn0 : H n = none := none_of_ex gg.h hn
    have hf : F3 n = none := none_of_ex gg.i hn
    refine q n F3 _ (gg.trans (Grow.lay gg.i hn _)) hn0 hf ?_
    simp only [OwnC]
    exact ⟨_, upd_same, reps_rep (r1.mono g3.f) _⟩
  · cases e3
theorem evo_addL (ha : Ev T .f ta Γ ma) (hb : Ev T .f tb Γ mb) : EvO T (tOp (rAddA T.K) ta tb) Γ (o2 dAddL ma mb) := fun Z F H σ ok d hd Q q => by
  obtain ⟨x, y, e1, e2, e3⟩ := o2_inv hd
  refine ha Z F H σ ok x e1 _ fun v F2 H2 g r => hb Z F2 H2 σ (ok.grow g) y e2 _ fun w F3 H3 g3 r3 => ?_
  cases x <;> simp only [dAddL] at e3 <;> try (cases e3; done)
  cases y <;> simp only [dAddL] at e3 <;> try (cases e3; done)
  split at e3
  · rename_i h
    cases e3
    obtain ⟨p, vs, rfl, hp, r1⟩ := rep_lst_inv r
    obtain ⟨p', vs', rfl, hp', r2⟩ := rep_lst_inv r3
    have gg := g.trans g3
    refine .inr (.inr (.inl ⟨p, p', vs, vs', rfl, rfl, g3.i _ _ (g3.f _ _ hp), g3.i _ _ hp', by rw [line_eq, ← r1.len, ← r2.len]; exact h, fun n hn => ?_⟩))
    have hn0 : H n = none := none_of_ex gg.h hn
    have hf : F3 n = none := none_of_ex gg.i hn
    refine q n F3 _ (gg.trans (Grow.lay gg.i hn _)) hn0 hf ?_
    simp only [OwnC]
    exact ⟨_, upd_same, (r1.mono g3.f).app r2⟩
  · cases e3
end
/-! ### what may be called: constructors, methods -/
section
variable {P : Program} {w : World} {K : PySem.W.Frag} {mg : Str → Option Value} {base : Heap} {X : Cx}
/-- a class that may be called: C its address -/
structure Cm (P : Program) (w : World) (K : PySem.W.Frag) (mg : Str → Option Value) (base : Heap) (k : Nat) (x : Str) (C : Addr) (ps : List Str) (sp : Sp) : Prop where
  ex : ∃ f fd, FnOk P w K mg base CX0 k f fd ps sp ∧ Mk K C f ∧ mg x = some (.ref C) ∧ Binds K fd ps []
theorem pe_cm {k j : Nat} {x : Str} {C : Addr} {ps : List Str} {sp : Sp} {e : Expr} {es : List Expr} {t : TA} {p pos : Pos} (c : Cm X.prog X.w X.K X.mg X.base j x C ps sp) (hr : Room k X.A) (hg : Gl X x) (ha : PA X (e :: es) t) (hjk : j + 1 ≤ k := by decide)
    (hd : (x == ("__debug__" : Str)) = false := by decide) (he : starEach (e :: es) X.env = (false, eval e X.env) :: starEach es X.env := by rfl) (hpl : (backTo pos (starEach es X.env)).any (·.1) = false := by rfl) : PE X (.Call (.Name x p) (e :: es) [] pos) (tMake C sp [] (fun _ _ _ => False) t) := by
  obtain ⟨f, fd, F, M, hm, hb⟩ := c.ex
  exact pe_make M F (hr.mono hjk) hg hm hb .nil pass0 ha hd he hpl
/-- a method -/
structure Ml (P : Program) (w : World) (K : PySem.W.Frag) (mg : Str → Option Value) (base : Heap) (k : Nat) (C : Addr) (m : Str) (ps : List Str) (sp : Sp) : Prop where
  ex : ∃ f fd, FnOk P w K mg base CX0 k f fd ps sp ∧ Meth K C m f ∧ Binds K fd ps []
theorem pe_ml {k j : Nat} {C : Addr} {m : Str} {ps : List Str} {sp : Sp} {o e : Expr} {es : List Expr} {ta : TE} {t : TA} {apos pos : Pos} {pl : Sem Bool} (he : PE X o ta) (c : Cls X.K C) (l : Ml X.prog X.w X.K X.mg X.base j C m ps sp) (hr : Room k X.A) (ha : PA X (e :: es) t) (hjk : j ≤ k := by decide)
    (hst : starEach (e :: es) X.env = (false, eval e X.env) :: starEach es X.env := by rfl) (hpl : (backTo pos (starEach es X.env)).any (·.1) = false := by rfl)
    (ht : eval (.Call (.Attribute o m apos) (e :: es) [] pos) X.env = (do
      let ov ← eval o X.env
      standAt apos.atName
      let (f, first) ← holding [ov] (getMethod ov m pl)
      callWith pos f first (backTo pos (starEach (e :: es) X.env)) (backToKw pos (keywordEach [] X.env))) := by rfl) : PE X (.Call (.Attribute o m apos) (e :: es) [] pos) (tMeth C m sp [] (fun _ _ _ => False) ta t) := by
  obtain ⟨f, fd, F, M, hb⟩ := l.ex
  exact pe_meth he c M (F.mono hjk) hr hb .nil pass0 ha hst hpl ht
theorem pe_ml0 {k j : Nat} {C : Addr} {m : Str} {ps : List Str} {sp : Sp} {o : Expr} {ta : TE} {apos pos : Pos} {pl : Sem Bool} (he : PE X o ta) (c : Cls X.K C) (l : Ml X.prog X.w X.K X.mg X.base j C m ps sp) (hr : Room k X.A) (hjk : j ≤ k := by decide)
    (ht : eval (.Call (.Attribute o m apos) [] [] pos) X.env = (do
      let ov ← eval o X.env
      standAt apos.atName
      let (f, first) ← holding [ov] (getMethod ov m pl)
      callWith pos f first (backTo pos (starEach [] X.env)) (backToKw pos (keywordEach [] X.env))) := by rfl) : PE X (.Call (.Attribute o m apos) [] [] pos) (tMeth C m sp [] (fun _ _ _ => False) ta tNil) := by
  obtain ⟨f, fd, F, M, hb⟩ := l.ex
  exact pe_meth0 he c M (F.mono hjk) hr hb .nil pass0 ht
end
end Mi
/-! lists of lists that are changed within -/
namespace Mi
open PySem L2
open PyProof.Rows
open Evl (Ex ex_t ex_l ex_rd fresh_back)
section
variable {X : Cx}
theorem get_list : PGet X (rIxL X.K) := by
  intro pins s σ H x y v u Q I rx ry h
  obtain ⟨p, xs, i, z, rfl, rfl, hq, he, q⟩ := h
  cases rx
  obtain ⟨t, rfl⟩ := ry
  obtain ⟨its, r, pl, hz⟩ := I.list hq
  obtain ⟨j, h1, h2, h3, h4, h5⟩ := atI_get he
  obtain ⟨w, ew, rw'⟩ := r.get h2
  have hl := r.length
  have hn := line63
  have fin : EP X pins σ Q w s := ⟨z, H, I, rw', q⟩
  by_cases h0 : 0 ≤ i
  · have hj : i.toNat = j := by
      rw [seqIndex_of h0 h5] at h1
      exact Option.some.inj h1
    exact wpAny_getItem_list (Q := fun r s' => EP X pins σ Q r s') pl.isList h0 (by omega) (by rw [hj]; simpa using ew) fin
  · have hj : (i + (its.toArray.size : Int)).toNat = j := by
      rw [seqIndex_neg (by omega) h4] at h1
      rw [List.size_toArray, ← hl]
      exact Option.some.inj h1
    exact wpAny_getItem_list_neg (Q := fun r s' => EP X pins σ Q r s') pl.isList (by omega) (by rw [List.size_toArray] <;> omega) (by omega) (by rw [hj]; simpa using ew) fin
theorem get_key (hu : X.A.units + 64 < cLine) : PGet X rKeyGet := by
  intro pins s σ H x y v u Q I rx ry h
  obtain ⟨a, z, rfl, g, q⟩ := h
  cases rx
  exact d_getItem (by omega) I g ry fun w' s' I' rw' => ⟨z, H, I', rw', q⟩
def rGetA (K : PySem.W.Frag) : V → V → Hp → VK → Prop := fun x y H Q => rIxL K x y H Q ∨ rKeyGet x y H Q
theorem get_A (hu : X.A.units + 64 < cLine) : PGet X (rGetA X.K) := by
  intro pins s σ H x y v u Q I rx ry h
  rcases h with h | h
  · exact get_list pins s σ H x y v u Q I rx ry h
  · exact get_key hu pins s σ H x y v u Q I rx ry h
end
section
variable {ω : Type} {T : Th} {Γ : Ctx} {md : Md} {ta tb te ti : TE} {ma mb me mi : Option D} {i : Nat} {P : Base → Ends → ω → Prop}
def dGetO : D → D → Option D
  | .lst ds, .int i => atI ds i
  | .dic ks ds, .int i => look ks ds (.inl i)
  | .dic ks ds, .str i => look ks ds (.inr i)
  | _, _ => none
theorem bp_augIt {f : Int → Int → Int} {h : D → D → Option D} {s : Slot} {d : D} (hh : ∀ d e c, h d e = some c → ∃ a b, d = .int a ∧ e = .int b ∧ c = .int (f a b)) (hs : Γ[i]? = some s) (ho : s.isOwnD d) (hi : Ev T .h ti Γ mi) (he : Ev T .h te Γ me) :
    B T (tAugS (tVar i) ti te (rGetA T.K) (ipI f) rSetA) Γ (mi.bind fun k => (dGetO d k).bind fun x => me.bind fun e => (h x e).bind fun z => dSet d k z) (PP T fun d' => Γ.set i (s.put d')) := fun Z F H σ ok d' hd E p => by
  obtain ⟨k, e1, n1⟩ := bind_inv hd
  obtain ⟨x, e2, n2⟩ := bind_inv n1
  obtain ⟨e, e3, n3⟩ := bind_inv n2
  obtain ⟨z, e4, n4⟩ := bind_inv n3
  obtain ⟨a, b, rfl, rfl, rfl⟩ := hh _ _ _ e4
  obtain ⟨p0, a0, _⟩ := own_slot ok hs ho
  refine ⟨_, a0, hi Z F H σ ok k e1 _ fun kv F2 H2 g r => ?_⟩
  obtain ⟨p1, a1, b1, cc, _⟩ := own_slot (ok.grow g) hs ho
  rw [a0] at a1; cases a1
  have hk : flat k = true := by
    cases d <;> cases k <;> simp only [dGetO] at e2 <;> first | rfl | (cases e2; done)
  have rest : ∀ Q : VK, Q (.int a) H2 → rGetA T.K (.ref p0) kv H2 Q := fun Q q => by
    cases d <;> simp only [dGetO] at e2 <;> try (cases e2; done)
    · cases k <;> simp only [dGetO] at e2 <;> try (cases e2; done)
      simp only [Rep] at r
      subst r
      simp only [OwnC] at cc
      obtain ⟨vs, hp, rr⟩ := cc
      obtain ⟨v, hv, rv⟩ := atI_reps rr e2
      simp only [Rep] at rv
      subst rv
      exact .inl ⟨p0, vs, _, _, rfl, rfl, SqL.of hp, hv, q⟩
    · have rd : Rep T H2 _ (.ref p0) := cc.rep g.i
      rename_i kk dd _x
      have hl : dLook (.dic kk dd) k = some (some (.int a)) := by
        cases k <;> simp only [dGetO] at e2 <;> first | (cases e2; done) | (simp only [dLook, keyOf, Option.map_some]; rw [e2])
      obtain ⟨ad, w', f1, f2, f3⟩ := dLook_V rd r hl
      rcases f3 with ⟨f4, _⟩ | ⟨c', v, f4, f5, f6⟩
      · exact absurd f4 (by simp)
      · have f4' := Option.some.inj f4
        subst f4'
        subst f5
        cases f1
        refine .inr ⟨p0, v, rfl, f2, ?_⟩
        have hv : v = .int a := by
          have := f6 H2 (Ex.refl _) rd
          simpa only [Rep] using this
        rw [hv]; exact q
  refine rest _ (he Z F2 H2 σ (ok.grow g) _ e3 _ fun w F3 H3 g3 r3 => ?_)
  simp only [Rep] at r3
  subst r3
  refine ⟨a, b, rfl, rfl, ?_⟩
  have kc : Ev T .f (fun _ H Q => Q kv H) Γ (some k) := fun Z' F' H' σ' ok' d'' hd' Q' q' => by
    cases hd'
    exact q' kv F' H' (Grow.refl ok'.hv.f) (flat_rep hk r)
  have put := bp_put (T := T) (i := i) hs ho (ev_int (Γ := Γ) (md := .f) (i := f a b)) kc Z F3 H3 σ ((ok.grow g).grow g3) d' (by simpa using n4) E p
  obtain ⟨v, hv, put⟩ := put
  rw [a0] at hv; cases hv
  exact put
end
end Mi
/-! a list of lists, all owned -/
namespace Mi
open PySem L2
open PyProof.Rows
open Evl (Ex ex_t ex_l ex_rd fresh_back)
def Fr (Z : Base) (F : Hp) (q : Addr) : Prop := Z.B q = none ∧ F q = none ∧ Z.H q = none
def noOwn (Γ : Ctx) : Bool := Γ.all fun s => !s.isOwn
theorem noOwn_at {Γ : Ctx} {i : Nat} {s : Slot} (h : noOwn Γ = true) (e : Γ[i]? = some s) : s.isOwn = false := by
  have := List.all_eq_true.mp h s (List.mem_of_getElem? e)
  simpa using this
section
variable {T : Th} {Z : Base} {Γ : Ctx} {F F2 H H2 : Hp} {σ : L2.St} {i : Nat} {dss : List (List D)}
theorem Ok.updF (ok : Ok T Z Γ F H σ) (hn : noOwn Γ = true) {q : Addr} (hq : Fr Z F q) (o : HO) : Ok T Z Γ F (upd H q o) σ := by
  have ne : ∀ {G : Hp} {a : Addr} {u : HO}, G q = none → G a = some u → a ≠ q := fun {G a u} h e z => by
    rw [z, h] at e; cases e
  refine ⟨⟨fun a u e => ?_, ok.hv.f0, fun a u e => ?_, fun a e => ?_, ok.hv.new⟩, ok.len, fun j s e => ?_, ok.sep⟩
  · rw [upd_ne (ne hq.1 e)]; exact ok.hv.b a u e
  · rw [upd_ne (ne hq.2.1 e)]; exact ok.hv.f a u e
  · by_cases z : a = q
    · subst z; rw [upd_same]; simp
    · rw [upd_ne z]; exact ok.hv.dom a e
  · have old := ok.at' j s e
    have no := noOwn_at hn e
    cases s <;> simp only [SlotOk, Slot.isOwn] at old no ⊢ <;> first | exact old | (cases no)
structure Nest (T : Th) (Z : Base) (F H : Hp) (σ : L2.St) (i : Nat) (dss : List (List D)) : Prop where
  ex : ∃ (p : Addr) (ps : List Addr), σ[i]? = some (some (.ref p)) ∧ H p = some (.lst (ps.map V.ref)) ∧ (p :: ps).Nodup ∧ (∀ q ∈ p :: ps, Fr Z F q) ∧ ps.length = dss.length ∧
    ∀ (k : Nat) (q : Addr), ps[k]? = some q → ∃ vs ds, dss[k]? = some ds ∧ H q = some (.lst vs) ∧ Reps T F ds vs
theorem Nest.grow (n : Nest T Z F H σ i dss) (g : Grow F F2 H H2) : Nest T Z F2 H2 σ i dss := by
  obtain ⟨p, ps, a, b, c, d, e, f⟩ := n.ex
  have fr : ∀ q u, Fr Z F q → H q = some u → Fr Z F2 q := fun q u h hu => by
    refine ⟨h.1, ?_, h.2.2⟩
    cases z : F2 q with
    | none => rfl
    | some w =>
      rcases g.new q (by rw [z]; simp) with y | y
      · exact absurd h.2.1 y
      · rw [hu] at y; cases y
  refine ⟨p, ps, a, g.h _ _ b, c, fun q hq => ?_, e, fun k q hk => ?_⟩
  · rcases List.mem_cons.mp hq with z | z
    · rw [z]; exact fr p _ (d p (by simp)) b
    · obtain ⟨k, hk⟩ := List.getElem?_of_mem z
      obtain ⟨vs, ds, _, h2, _⟩ := f k q hk
      exact fr q _ (d q hq) h2
  · obtain ⟨vs, ds, h1, h2, h3⟩ := f k q hk
    exact ⟨vs, ds, h1, g.h _ _ h2, h3.mono g.f⟩
theorem Nest.set (n : Nest T Z F H σ i dss) {j : Nat} (hj : j ≠ i) (x : Option V) : Nest T Z F H (σ.set j x) i dss := by
  obtain ⟨p, ps, a, r⟩ := n.ex
  exact ⟨p, ps, by rw [List.getElem?_set_ne hj]; exact a, r⟩
theorem reps_of {G : Hp} : ∀ {ps : List Addr} {dss : List (List D)}, ps.length = dss.length → (∀ (k : Nat) (q : Addr), ps[k]? = some q → ∃ ds, dss[k]? = some ds ∧ Rep T G (.lst ds) (.ref q)) → Reps T G (dss.map D.lst) (ps.map V.ref)
  | [], [], _, _ => Reps.nil
  | [], _ :: _, h, _ => by cases h
  | _ :: _, [], h, _ => by cases h
  | p :: ps, d :: dss, hl, h => by
    obtain ⟨ds, e, r⟩ := h 0 p rfl
    cases e
    exact Reps.cons r (reps_of (by simpa using hl) fun k q hk => h (k + 1) q (by simpa using hk))
theorem Nest.freeze (ok : Ok T Z Γ F H σ) (hn : noOwn Γ = true) (n : Nest T Z F H σ i dss) : ∃ F', Ok T Z (Γ.set i (.val (.lst (dss.map D.lst)))) F' H σ := by
  obtain ⟨p, ps, a, b, c, d, e, f⟩ := n.ex
  classical
  let F' : Hp := fun x => if x ∈ p :: ps then H x else F x
  have eF : Ex F F' := fun x u hx => by
    show (if x ∈ p :: ps then H x else F x) = some u
    rw [if_neg (fun hm => by have := (d x hm).2.1; rw [hx] at this; cases this)]
    exact hx
  have eH : Ex F' H := fun x u hx => by
    have hx' : (if x ∈ p :: ps then H x else F x) = some u := hx
    split at hx'
    · exact hx'
    · exact ok.hv.f x u hx'
  have at1 : ∀ x ∈ p :: ps, F' x = H x := fun x hx => if_pos hx
  refine ⟨F', ⟨⟨ok.hv.b, ok.hv.f0.trans eF, eH, ok.hv.dom, fun x hx => ?_⟩, by simpa using ok.len, fun j s hj => ?_, fun j k q s t h1 h2 => ?_⟩⟩
  · by_cases hm : x ∈ p :: ps
    · exact .inr (d x hm).2.2
    · have : F' x = F x := if_neg hm
      rw [this] at hx
      exact ok.hv.new x hx
  · by_cases hij : i = j
    · subst hij
      have hl : i < Γ.length := by
        have := (List.getElem?_eq_some_iff.mp hj).1
        simpa using this
      rw [List.getElem?_set_self hl] at hj; cases hj
      refine ⟨_, a, ?_⟩
      simp only [Rep]
      refine ⟨p, _, rfl, by rw [at1 p (by simp)]; exact b, reps_of e fun k q hk => ?_⟩
      obtain ⟨vs, ds, h1, h2, h3⟩ := f k q hk
      refine ⟨ds, h1, ?_⟩
      simp only [Rep]
      exact ⟨q, vs, rfl, by rw [at1 q (List.mem_cons_of_mem _ (List.mem_of_getElem? hk))]; exact h2, h3.mono eF⟩
    · rw [List.getElem?_set_ne hij] at hj
      have old := ok.at' j s hj
      have no := noOwn_at hn hj
      cases s <;> simp only [SlotOk, Slot.isOwn] at old no ⊢ <;> first | exact old | (cases no; done) | skip
      obtain ⟨v, h1, h2⟩ := old
      exact ⟨v, h1, h2.mono eF⟩
  · exfalso
    by_cases hij : i = j
    · subst hij
      have hl : i < Γ.length := by
        have := (List.getElem?_eq_some_iff.mp h1).1
        simpa using this
      rw [List.getElem?_set_self hl] at h1; cases h1
      cases h2
    · rw [List.getElem?_set_ne hij] at h1
      rw [noOwn_at hn h1] at h2; cases h2
/-- a store into the k-th list -/
theorem Nest.put (n : Nest T Z F H σ i dss) {p : Addr} {ps : List Addr} (hp : σ[i]? = some (some (.ref p))) (hps : H p = some (.lst (ps.map V.ref))) {k : Nat} {q : Addr} (hk : ps[k]? = some q) {ds : List D} {vs : List V} (r : Reps T F ds vs) :
    Fr Z F q ∧ Nest T Z F (upd H q (.lst vs)) σ i (dss.set k ds) := by
  obtain ⟨p', ps', a, b, c, d, e, f⟩ := n.ex
  rw [hp] at a; cases a
  rw [hps] at b
  have eps : ps = ps' := by
    have := (HO.lst.inj (Option.some.inj b))
    have inj : ∀ {as bs : List Addr}, as.map V.ref = bs.map V.ref → as = bs := by
      intro as
      induction as with
      | nil => intro bs h; cases bs <;> simp at h ⊢
      | cons x as ih => intro bs h; cases bs with
        | nil => simp at h
        | cons y bs => simp only [List.map_cons, List.cons.injEq, V.ref.injEq] at h; rw [h.1, ih h.2]
    exact inj this
  subst eps
  have hqm : q ∈ ps := List.mem_of_getElem? hk
  have hne : p ≠ q := fun z => by
    subst z
    exact (List.nodup_cons.mp c).1 hqm
  refine ⟨d q (List.mem_cons_of_mem _ hqm), p, ps, hp, by rw [upd_ne hne]; exact hps, c, d, by simpa using e, fun j q' hj => ?_⟩
  by_cases hjk : j = k
  · subst hjk
    rw [hk] at hj; cases hj
    have hl : j < dss.length := by rw [← e]; exact (List.getElem?_eq_some_iff.mp hk).1
    exact ⟨vs, ds, by rw [List.getElem?_set_self hl], upd_same, r⟩
  · have hqq : q' ≠ q := fun z => by
      subst z
      have hnd := (List.nodup_cons.mp c).2
      obtain ⟨l1, g1⟩ := List.getElem?_eq_some_iff.mp hj
      obtain ⟨l2, g2⟩ := List.getElem?_eq_some_iff.mp hk
      rcases Nat.lt_or_gt_of_ne hjk with w | w
      · exact List.pairwise_iff_getElem.mp hnd _ _ l1 l2 w (g1.trans g2.symm)
      · exact List.pairwise_iff_getElem.mp hnd _ _ l2 l1 w (g2.trans g1.symm)
    obtain ⟨vs', ds', h1, h2, h3⟩ := f j q' hj
    exact ⟨vs', ds', by rw [List.getElem?_set_ne (Ne.symm hjk)]; exact h1, by rw [upd_ne hqq]; exact h2, h3⟩
end
end Mi
/-! blocks that change a list of lists -/
namespace Mi
open PySem L2
open PyProof.Rows
open Evl (Ex ex_t ex_l ex_rd fresh_back)
def BN {ω : Type} (T : Th) (t : TS) (Γ : Ctx) (i : Nat) (dss : List (List D)) (m : Option ω) (P : Base → Ends → ω → Prop) : Prop := ∀ Z F H σ, Ok T Z Γ F H σ → Nest T Z F H σ i dss → ∀ o, m = some o → ∀ E : Ends, P Z E o → t E σ H
abbrev PPn {α : Type} (T : Th) (Γn : α → Ctx) (i : Nat) (Dn : α → List (List D)) : Base → Ends → α → Prop := fun Z E a => ∀ F H σ, Ok T Z (Γn a) F H σ → Nest T Z F H σ i (Dn a) → E.nx σ H
def dNest (dss : List (List D)) (a b c : D) : Option (List (List D)) := match a, b, c with
  | .int a, .int b, .int w => (ixN dss.length a).bind fun k => (dss[k]?).bind fun ds => (ixN ds.length b).bind fun j => (ds[j]?).bind fun x => match x with
    | .int x => some (dss.set k (ds.set j (.int (x + w))))
    | _ => none
  | _, _, _ => none
theorem dNest_inv {dss dss' : List (List D)} {a b c : D} (h : dNest dss a b c = some dss') : ∃ (a' b' w x : Int) (k j : Nat) (ds : List D), a = .int a' ∧ b = .int b' ∧ c = .int w ∧ ixN dss.length a' = some k ∧ dss[k]? = some ds ∧ ixN ds.length b' = some j ∧ ds[j]? = some (.int x) ∧ dss' = dss.set k (ds.set j (.int (x + w))) := by
  unfold dNest at h
  split at h
  · obtain ⟨k, f1, g1⟩ := bind_inv h
    obtain ⟨ds, f2, g2⟩ := bind_inv g1
    obtain ⟨j, f3, g3⟩ := bind_inv g2
    obtain ⟨x, f4, g4⟩ := bind_inv g3
    split at g4
    · cases g4
      exact ⟨_, _, _, _, k, j, ds, rfl, rfl, rfl, f1, f2, f3, f4, rfl⟩
    · cases g4
  · cases h
section
variable {ω : Type} {T : Th} {Γ Γ' : Ctx} {md : Md} {ta tb tc te : TE} {ma mb mc : Option D} {i j k l : Nat} {dss : List (List D)} {t u : TS} {P : Base → Ends → ω → Prop} {m : Option ω}
theorem bn_frz (hn : noOwn Γ = true) (hb : B T t (Γ.set i (.val (.lst (dss.map D.lst)))) m P) : BN T t Γ i dss m P := fun Z F H σ ok n o ho E p => by
  obtain ⟨F', ok'⟩ := n.freeze ok hn
  exact hb Z F' H σ ok' o ho E p
theorem bn_le (h : Le Γ Γ') (hb : BN T t Γ' i dss m P) : BN T t Γ i dss m P := fun Z F H σ ok => hb Z F H σ (ok.le h)
theorem bn_aug {mk : List (List D) → Option ω} (hn : noOwn Γ = true) (ha : Ev T .h ta Γ ma) (hb : Ev T .h tb Γ mb) (hc : Ev T .h tc Γ mc) (hu : ∀ dss', BN T u Γ i dss' (mk dss') P) :
    BN T (tSeq (tAugS (tOp (rIxA T.K) (tVar i) ta) tb tc (rGetA T.K) (ipI fun x y => x + y) rSetA) u) Γ i dss (ma.bind fun a => mb.bind fun b => mc.bind fun c => (dNest dss a b c).bind mk) P := fun Z F H σ ok n o ho E pp => by
  obtain ⟨a, e1, n1⟩ := bind_inv ho
  obtain ⟨b, e2, n2⟩ := bind_inv n1
  obtain ⟨c, e3, n3⟩ := bind_inv n2
  obtain ⟨dss', e4, e5⟩ := bind_inv n3
  obtain ⟨a, b, w, x, kk, jj, ds, rfl, rfl, rfl, f1, f2, f3, f4, rfl⟩ := dNest_inv e4
  obtain ⟨p0, _, a0, _⟩ := n.ex
  refine ⟨_, a0, ha Z F H σ ok _ e1 _ fun v F2 H2 gr2 r2 => ?_⟩
  simp only [Rep] at r2; subst r2
  have n2' := n.grow gr2
  obtain ⟨p, ps, b1, b2, b3, b4, b5, b6⟩ := n2'.ex
  rw [a0] at b1; cases b1
  have hkl : kk < ps.length := by rw [b5]; exact (List.getElem?_eq_some_iff.mp f2).1
  obtain ⟨q, hq⟩ : ∃ q, ps[kk]? = some q := ⟨ps[kk], List.getElem?_eq_getElem hkl⟩
  obtain ⟨vs, ds', c1, c2, c3⟩ := b6 kk q hq
  rw [f2] at c1; cases c1
  refine .inl (.inl ⟨p0, ps.map V.ref, a, .ref q, rfl, rfl, SqL.of b2, ?_, ?_⟩)
  · show (ixN (ps.map V.ref).length a).bind _ = _
    rw [List.length_map, b5, f1]
    simp [hq]
  refine hb Z F2 H2 σ (ok.grow gr2) _ e2 _ fun v F3 H3 gr3 r3 => ?_
  simp only [Rep] at r3; subst r3
  obtain ⟨v, hv, rv⟩ := atI_reps c3 (show atI ds b = some (.int x) by show (ixN ds.length b).bind _ = _; rw [f3]; exact f4)
  simp only [Rep] at rv; subst rv
  refine .inl ⟨q, vs, b, _, rfl, rfl, SqL.of (gr3.h _ _ c2), hv, ?_⟩
  refine hc Z F3 H3 σ ((ok.grow gr2).grow gr3) _ e3 _ fun v F4 H4 gr4 r4 => ?_
  simp only [Rep] at r4; subst r4
  have n4 := (n2'.grow gr3).grow gr4
  have ok4 := ((ok.grow gr2).grow gr3).grow gr4
  refine ⟨x, w, rfl, rfl, .inl ⟨q, vs, b, jj, rfl, rfl, gr4.h _ _ (gr3.h _ _ c2), by rw [← c3.len]; exact f3, ?_⟩⟩
  have rs : Reps T F4 (ds.set jj (.int (x + w))) (vs.set jj (.int (x + w))) := Reps.set jj ((c3.mono gr3.f).mono gr4.f) (d := .int (x + w)) (v := .int (x + w)) (by simp only [Rep])
  obtain ⟨fq, n5⟩ := n4.put a0 (gr4.h _ _ (gr3.h _ _ b2)) hq rs
  exact hu _ Z F4 _ σ (ok4.updF hn fq _) n5 o e5 E pp
theorem bnn_end {α : Type} {Γn : α → Ctx} {Dn : α → List (List D)} {a : α} (h : Le Γ (Γn a)) (hd : Dn a = dss) : BN T tNext Γ i dss (some a) (PPn T Γn i Dn) := fun Z F H σ ok n a' e E p => by
  cases e
  exact p F H σ (ok.le h) (by rw [hd]; exact n)
theorem bn_for3 {wi : TI} {a b c : Nat} {mi : Option (List D)} {f : List (List D) → D → D → D → Option (List (List D))} {mk : List (List D) → Option ω} {Γh : Ctx} (hi : EvI T wi Γ .f mi) (h0 : Le Γ Γh) (hai : a ≠ i) (hbi : b ≠ i) (hci : c ≠ i)
    (hb : ∀ dss x y z, BN T t (((Γh.set a (.val x)).set b (.val y)).set c (.val z)) i dss (f dss x y z) (PPn T (fun _ : List (List D) => Γh) i fun d => d)) (hu : ∀ dss', BN T u Γh i dss' (mk dss') P) :
    BN T (tSeq (tFor wi (gTup T.K 3 (gCons (gName a) (gCons (gName b) (gCons (gName c) gNil)))) t) u) Γ i dss ((mi.bind fun ds => foldO (fun dss d => un3 d (f dss)) ds dss).bind mk) P := fun Z F H σ ok n o ho E pp => by
  obtain ⟨fin, e1, e2⟩ := bind_inv ho
  obtain ⟨ds, e3, e4⟩ := bind_inv e1
  refine hi Z F H σ ok ds e3 _ fun J F2 H2 gr wk => ?_
  have ok2 := (ok.grow gr).le h0
  have n2 := n.grow gr
  refine ⟨fun k m σ H => m = ds.length - k ∧ k ≤ ds.length ∧ ∃ dss F, Ok T (Z.at F2) Γh F H σ ∧ Nest T Z F H σ i dss ∧ foldO (fun dss d => un3 d (f dss)) (ds.drop k) dss = some fin, ⟨ds.length, by simp, Nat.zero_le _, dss, F2, ok2.at0, n2, by simpa using e4⟩, ?_⟩
  rintro k m σ H ⟨rfl, hk, dss, F, okb, nb, hfold⟩
  by_cases hlt : k < ds.length
  · refine .inr ⟨wk.go k F H hlt okb.hv.f0 okb.hv.f okb.hv.b, fun σ' H' => ∃ dss' F', Ok T (Z.at F2) Γh F' H' σ' ∧ Nest T Z F' H' σ' i dss' ∧ foldO (fun dss d => un3 d (f dss)) (ds.drop (k + 1)) dss' = some fin,
      fun σ' H' ⟨dss', F', x1, x2, x3⟩ => ⟨ds.length - (k + 1), by omega, rfl, hlt, dss', F', x1, x2, x3⟩, fun x H' y => ?_⟩
    have hd : ds.drop k = ds[k] :: ds.drop (k + 1) := List.drop_eq_getElem_cons hlt
    rw [hd, foldO_cons] at hfold
    obtain ⟨dss1, y1, y2⟩ := bind_inv hfold
    obtain ⟨F3, g3, r3⟩ := wk.yld k F H x H' hlt okb.hv.f0 okb.hv.f okb.hv.b y
    have rx := r3 ds[k] (by simp [hlt])
    obtain ⟨d1, d2, d3, ed, y3⟩ := un3_inv y1
    rw [ed] at rx
    obtain ⟨q, vs, rfl, hq, rr⟩ := rep_tup_inv rx
    obtain ⟨va, s1, rfl, ra, rr⟩ := rr.uncons
    obtain ⟨vb, s2, rfl, rb, rr⟩ := rr.uncons
    obtain ⟨vc, s3, rfl, rc, rr⟩ := rr.uncons
    simp only [Reps] at rr; subst rr
    have ok3 := okb.grow g3
    refine ⟨q, _, rfl, SqT.of (ok3.hv.f _ _ hq), rfl, va, _, rfl, vb, _, rfl, vc, _, rfl, rfl, ?_⟩
    have ok4 := ((ok3.setVal (i := a) ra).setVal (i := b) rb).setVal (i := c) rc
    have n4 := (((nb.grow g3).set hai (some va)).set hbi (some vb)).set hci (some vc)
    exact hb dss d1 d2 d3 (Z.at F2) F3 H' _ ok4 ⟨n4.ex⟩ dss1 y3 _ fun F5 H5 σ5 ok5 n5 => ⟨dss1, F5, ok5, ⟨n5.ex⟩, y2⟩
  · have e : k = ds.length := by omega
    subst e
    rw [List.drop_length] at hfold
    cases hfold
    exact .inl ⟨wk.stop F H okb.hv.f0 okb.hv.f okb.hv.b, hu _ Z F H σ (okb.un (ok.grow gr).hv) nb o e2 E pp⟩
def dGrid : D → Option (List (List D))
  | .int n => if 0 ≤ n ∧ n ≤ 1000 then some (List.replicate n.toNat (List.replicate n.toNat (.int 0))) else none
  | _ => none
theorem reps_rep0 {G : Hp} : ∀ n : Nat, Reps T G (List.replicate n (D.int 0)) (List.replicate n (V.int 0))
  | 0 => Reps.nil
  | n + 1 => Reps.cons (by simp only [Rep]) (reps_rep0 n)
/-- [[0] * n for v in range(n)] -/
theorem bn_grid {r v : Nat} {d : D} {mk : List (List D) → Option ω} (hrv : v ≠ r) (hli : i < Γ.length) (hr : Γ[r]? = some (.val d)) (hu : ∀ dss', BN T u (Γ.set i .no) i dss' (mk dss') P) :
    B T (tSeq (tAsg (tLc (iRng1 (tCons (tVar r) tNil)) (gName v) tYes (tOp (rMulA T.K) (tLst (tCons (tC (.int 0)) tNil)) (tVar r)) [v]) (gName i)) u) Γ ((dGrid d).bind mk) P := fun Z F H σ ok o ho E pp => by
  obtain ⟨dss, e1, e2⟩ := bind_inv ho
  cases d <;> simp only [dGrid] at e1 <;> try (cases e1; done)
  rename_i n
  split at e1
  · rename_i hn
    cases e1
    obtain ⟨w, hw, rw0⟩ := ok.at' r _ hr
    simp only [Rep] at rw0; subst rw0
    refine ⟨_, hw, n, rfl, by omega, by omega, fun L hL => ?_⟩
    refine ⟨fun k m H' => m = n.toNat - k ∧ k ≤ n.toNat ∧ ∃ ps : List Addr, H' L = some (.lst (ps.map V.ref)) ∧ ps.length = k ∧ (L :: ps).Nodup ∧ Ex H H' ∧ ∀ q ∈ ps, H q = none ∧ H' q = some (.lst (List.replicate n.toNat (.int 0))),
      ⟨n.toNat, by simp, Nat.zero_le _, [], upd_same, rfl, by simp, Ex.new hL, fun q hq => by cases hq⟩, ?_⟩
    rintro k m H' ⟨rfl, hk, ps, a1, a2, a3, a4, a5⟩
    by_cases hlt : k < n.toNat
    · refine .inr ⟨hlt, fun H'' => ∃ ps : List Addr, H'' L = some (.lst (ps.map V.ref)) ∧ ps.length = k + 1 ∧ (L :: ps).Nodup ∧ Ex H H'' ∧ ∀ q ∈ ps, H q = none ∧ H'' q = some (.lst (List.replicate n.toNat (.int 0))),
        fun H'' h => ⟨n.toNat - (k + 1), by omega, rfl, hlt, h⟩, ?_⟩
      rintro x H'' ⟨rfl, rfl⟩
      refine ⟨by simp [wipe], ?_⟩
      simp only [tYes, if_true]
      refine ⟨by rw [line_eq]; decide, fun l hl => ?_⟩
      have hr2 : (((wipe σ [v]).set v (some (V.int (0 + (k : Int)))))[r]?) = some (some (.int n)) := by
        rw [List.getElem?_set_ne hrv]
        show ((σ.set v none)[r]?) = _
        rw [List.getElem?_set_ne hrv]; exact hw
      refine ⟨_, hr2, .inr ⟨l, n, [.int 0], rfl, rfl, upd_same, by omega, by omega, by rw [line_eq]; simp; omega, fun p hp => ?_⟩⟩
      have hLl : L ≠ l := fun z => by rw [z, hl] at a1; cases a1
      have hpl : p ≠ l := fun z => by rw [z, upd_same] at hp; cases hp
      have hp' : H'' p = none := by rw [upd_ne hpl] at hp; exact hp
      have hLp : L ≠ p := fun z => by rw [z, hp'] at a1; cases a1
      refine ⟨ps.map V.ref, by rw [upd_ne hLp, upd_ne hLl]; exact a1, by rw [List.length_map, line_eq]; omega, ps ++ [p], by rw [upd_same]; simp, by simp [a2], ?_, ?_, ?_⟩
      · have hps : p ∉ ps := fun z => by rw [(a5 p z).2] at hp'; cases hp'
        rw [List.nodup_cons] at a3 ⊢
        refine ⟨by simp; exact ⟨a3.1, hLp⟩, ?_⟩
        rw [List.nodup_append]
        exact ⟨a3.2, by simp, fun x hx y hy z => by simp at hy; subst hy; subst z; exact hps hx⟩
      · intro a o e
        have h1 := a4 a o e
        rw [upd_ne (ne_of_none e hL), upd_ne (fun z => by rw [z, hp'] at h1; cases h1), upd_ne (fun z => by rw [z, hl] at h1; cases h1)]
        exact h1
      · intro q hq
        rcases List.mem_append.mp hq with z | z
        · obtain ⟨b1, b2⟩ := a5 q z
          refine ⟨b1, ?_⟩
          rw [upd_ne (fun w => by subst w; exact (List.nodup_cons.mp a3).1 z), upd_ne (fun w => by rw [w, hp'] at b2; cases b2), upd_ne (fun w => by rw [w, hl] at b2; cases b2)]
          exact b2
        · simp at z
          subst z
          refine ⟨none_of_ex a4 hp', ?_⟩
          rw [upd_ne hLp.symm, upd_same, List.flatten_replicate_singleton]
    · have e : k = n.toNat := by omega
      subst e
      refine .inl ⟨Nat.le_refl _, ?_⟩
      have gr : Grow F F H H' := ⟨Ex.refl F, ok.hv.f.trans a4, a4, fun _ h => .inl h⟩
      have fr : ∀ q, H q = none → Fr Z F q := fun q hq => ⟨none_of_ex ok.hv.b hq, none_of_ex ok.hv.f hq, by
        cases z : Z.H q with
        | none => rfl
        | some u => exact absurd hq (ok.hv.dom q (by rw [z]; simp))⟩
      have ok2 := (ok.grow gr).set (i := i) (s := .no) (v := .ref L) trivial fun z => by cases z
      refine hu _ Z F H' _ ok2 ⟨L, ps, ?_, a1, a3, fun q hq => ?_, by rw [a2]; simp, fun j q hj => ?_⟩ o e2 E pp
      · exact List.getElem?_set_self (Nat.lt_of_lt_of_le hli ok.len)
      · rcases List.mem_cons.mp hq with z | z
        · rw [z]; exact fr L hL
        · exact fr q (a5 q z).1
      · have hjl : j < n.toNat := by rw [← a2]; exact (List.getElem?_eq_some_iff.mp hj).1
        refine ⟨_, List.replicate n.toNat (.int 0), by rw [List.getElem?_replicate]; simp [hjl], (a5 q (List.mem_of_getElem? hj)).2, reps_rep0 _⟩
  · cases e1
end
end Mi
namespace Mi
open PySem L2
theorem hh_add : ∀ d e c, dAddI d e = some c → ∃ a b, d = .int a ∧ e = .int b ∧ c = .int (a + b) := fun d e c h => by
  cases d <;> simp only [dAddI] at h <;> try (cases h; done)
  cases e <;> simp only [dAddI] at h <;> try (cases h; done)
  cases h
  exact ⟨_, _, rfl, rfl, rfl⟩
theorem hh_sub : ∀ d e c, dSub d e = some c → ∃ a b, d = .int a ∧ e = .int b ∧ c = .int (a - b) := fun d e c h => by
  cases d <;> simp only [dSub] at h <;> try (cases h; done)
  cases e <;> simp only [dSub] at h <;> try (cases h; done)
  cases h
  exact ⟨_, _, rfl, rfl, rfl⟩
open PySem.W in
theorem kit_cls_no {K : PySem.W.Frag} {C : Addr} {a : String} (h1 : isClsIn K C = true) (h2 : typeIn K (.ref C) = some (.type "type")) (h3 : ((fastBuiltinMro a).map fun l => l.all fun v => match v with | .ref _ => false | _ => true) = some true) : kitOne K (.type a) (.ref C) = some false := by
  unfold kitOne kitCls subIn
  have e1 : (clsIn K C).isSome = true := h1
  have e2 : ((Value.type a) == (.ref C)) = false := by rfl
  rw [e2]
  simp only [e1, h2, Bool.true_and, Bool.false_eq_true, if_false]
  rw [if_pos (by rfl)]
  cases q : fastBuiltinMro a with
  | none => rw [q] at h3; cases h3
  | some l =>
    rw [q] at h3
    simp only [Option.map_some, Option.some.injEq] at h3 ⊢
    have hall := List.all_eq_true.mp h3
    have : ¬ (l.contains (Value.ref C) = true) := fun hc => by
      obtain ⟨x, hx, hxe⟩ := List.any_eq_true.mp (by rw [List.contains_eq_any_beq] at hc; exact hc)
      have := hall x hx
      cases x <;> first | (cases hxe; done) | (cases this; done)
    simpa using this
theorem kit_ty_no {K : PySem.W.Frag} {C : Addr} (h1 : PySem.W.isClsIn K C = true) (h2 : PySem.W.typeIn K (.ref C) = some (.type "type")) (d : D) (a : String) (h : tyN d = some a) : PySem.W.kitOne K (.type a) (.ref C) = some false := by
  refine kit_cls_no h1 h2 ?_
  cases d <;> simp only [tyN, Option.some.injEq] at h <;> first | (cases h; done) | (subst h; decide +kernel)
end Mi
/-! a list of lists: rows by another name -/
namespace Mi
open PySem L2
open PyProof.Rows
open Evl (Ex ex_t ex_l ex_rd fresh_back)
section
variable {ω : Type} {T : Th} {Γ Γ' : Ctx} {md : Md} {ta tb tc te : TE} {ma mb mc : Option D} {i j k l : Nat} {dss : List (List D)} {t u : TS} {P : Base → Ends → ω → Prop} {m : Option ω}
theorem noOwn_set {Γ : Ctx} {j : Nat} {s : Slot} (h : noOwn Γ = true) (hs : s.isOwn = false) : noOwn (Γ.set j s) = true := by
  unfold noOwn at h ⊢
  rw [List.all_eq_true] at h ⊢
  intro x hx
  rcases List.mem_or_eq_of_mem_set hx with z | z
  · exact h x z
  · rw [z, hs]; rfl
/-- row = rows[a]; row[b] = row[b] + c -/
theorem bn_alias {mk : List (List D) → Option ω} (hn : noOwn Γ = true) (hji : j ≠ i) (hlj : j < Γ.length) (ha : Ev T .h ta Γ ma) (hb : Ev T .h tb (Γ.set j .no) mb) (hc : Ev T .h tc (Γ.set j .no) mc) (hu : ∀ dss', BN T u (Γ.set j .no) i dss' (mk dss') P) :
    BN T (tSeq (tAsg (tOp (rIxA T.K) (tVar i) ta) (gName j)) (tSeq (tAsg (tOp (rAddA T.K) (tOp (rIxA T.K) (tVar j) tb) tc) (gSub (tVar j) tb rSetA)) u)) Γ i dss (ma.bind fun a => mb.bind fun b => mc.bind fun c => (dNest dss a b c).bind mk) P := fun Z F H σ ok n o ho E pp => by
  obtain ⟨a, e1, n1⟩ := bind_inv ho
  obtain ⟨b, e2, n2⟩ := bind_inv n1
  obtain ⟨c, e3, n3⟩ := bind_inv n2
  obtain ⟨dss', e4, e5⟩ := bind_inv n3
  obtain ⟨a, b, w, x, kk, jj, ds, rfl, rfl, rfl, f1, f2, f3, f4, rfl⟩ := dNest_inv e4
  obtain ⟨p0, _, a0, _⟩ := n.ex
  refine ⟨_, a0, ha Z F H σ ok _ e1 _ fun v F2 H2 gr2 r2 => ?_⟩
  simp only [Rep] at r2; subst r2
  have n2' := n.grow gr2
  obtain ⟨p, ps, b1, b2, b3, b4, b5, b6⟩ := n2'.ex
  rw [a0] at b1; cases b1
  have hkl : kk < ps.length := by rw [b5]; exact (List.getElem?_eq_some_iff.mp f2).1
  obtain ⟨q, hq⟩ : ∃ q, ps[kk]? = some q := ⟨ps[kk], List.getElem?_eq_getElem hkl⟩
  obtain ⟨vs, ds', c1, c2, c3⟩ := b6 kk q hq
  rw [f2] at c1; cases c1
  refine .inl (.inl ⟨p0, ps.map V.ref, a, .ref q, rfl, rfl, SqL.of b2, ?_, ?_⟩)
  · show (ixN (ps.map V.ref).length a).bind _ = _
    rw [List.length_map, b5, f1]
    simp [hq]
  have ok2 := (ok.grow gr2).set (i := j) (s := .no) (v := .ref q) trivial fun z => by cases z
  have hjs : ((σ.set j (some (V.ref q)))[j]?) = some (some (.ref q)) := List.getElem?_set_self (Nat.lt_of_lt_of_le hlj ok.len)
  have n3' := n2'.set hji (some (.ref q))
  have his : ((σ.set j (some (V.ref q)))[i]?) = some (some (.ref p0)) := by rw [List.getElem?_set_ne hji]; exact a0
  refine ⟨_, hjs, hb Z F2 H2 _ ok2 _ e2 _ fun v F3 H3 gr3 r3 => ?_⟩
  simp only [Rep] at r3; subst r3
  obtain ⟨v, hv, rv⟩ := atI_reps c3 (show atI ds b = some (.int x) by show (ixN ds.length b).bind _ = _; rw [f3]; exact f4)
  simp only [Rep] at rv; subst rv
  refine .inl (.inl ⟨q, vs, b, _, rfl, rfl, SqL.of (gr3.h _ _ c2), hv, ?_⟩)
  refine hc Z F3 H3 _ (ok2.grow gr3) _ e3 _ fun v F4 H4 gr4 r4 => ?_
  simp only [Rep] at r4; subst r4
  refine .inl ⟨x, w, rfl, rfl, ?_⟩
  have ok4 := (ok2.grow gr3).grow gr4
  refine ⟨_, hjs, hb Z F4 H4 _ ok4 _ e2 _ fun v F5 H5 gr5 r5 => ?_⟩
  simp only [Rep] at r5; subst r5
  have n5 := ((n3'.grow gr3).grow gr4).grow gr5
  have ok5 := ok4.grow gr5
  refine .inl ⟨q, vs, b, jj, rfl, rfl, gr5.h _ _ (gr4.h _ _ (gr3.h _ _ c2)), by rw [← c3.len]; exact f3, ?_⟩
  have rs : Reps T F5 (ds.set jj (.int (x + w))) (vs.set jj (.int (x + w))) := Reps.set jj (((c3.mono gr3.f).mono gr4.f).mono gr5.f) (d := .int (x + w)) (v := .int (x + w)) (by simp only [Rep])
  obtain ⟨fq, n6⟩ := n5.put his (gr5.h _ _ (gr4.h _ _ (gr3.h _ _ b2))) hq rs
  exact hu _ Z F5 _ _ (ok5.updF (noOwn_set hn rfl) fq _) n6 o e5 E pp
/-- for v in ..: a block that changes the rows -/
theorem bn_for1 {wi : TI} {a : Nat} {mi : Option (List D)} {f : List (List D) → D → Option (List (List D))} {mk : List (List D) → Option ω} {Γh : Ctx} (hi : EvI T wi Γ .f mi) (h0 : Le Γ Γh) (hai : a ≠ i)
    (hb : ∀ dss x, BN T t (Γh.set a (.val x)) i dss (f dss x) (PPn T (fun _ : List (List D) => Γh) i fun d => d)) (hu : ∀ dss', BN T u Γh i dss' (mk dss') P) :
    BN T (tSeq (tFor wi (gName a) t) u) Γ i dss ((mi.bind fun ds => foldO f ds dss).bind mk) P := fun Z F H σ ok n o ho E pp => by
  obtain ⟨fin, e1, e2⟩ := bind_inv ho
  obtain ⟨ds, e3, e4⟩ := bind_inv e1
  refine hi Z F H σ ok ds e3 _ fun J F2 H2 gr wk => ?_
  have ok2 := (ok.grow gr).le h0
  have n2 := n.grow gr
  refine ⟨fun k m σ H => m = ds.length - k ∧ k ≤ ds.length ∧ ∃ dss F, Ok T (Z.at F2) Γh F H σ ∧ Nest T Z F H σ i dss ∧ foldO f (ds.drop k) dss = some fin, ⟨ds.length, by simp, Nat.zero_le _, dss, F2, ok2.at0, n2, by simpa using e4⟩, ?_⟩
  rintro k m σ H ⟨rfl, hk, dss, F, okb, nb, hfold⟩
  by_cases hlt : k < ds.length
  · refine .inr ⟨wk.go k F H hlt okb.hv.f0 okb.hv.f okb.hv.b, fun σ' H' => ∃ dss' F', Ok T (Z.at F2) Γh F' H' σ' ∧ Nest T Z F' H' σ' i dss' ∧ foldO f (ds.drop (k + 1)) dss' = some fin,
      fun σ' H' ⟨dss', F', x1, x2, x3⟩ => ⟨ds.length - (k + 1), by omega, rfl, hlt, dss', F', x1, x2, x3⟩, fun x H' y => ?_⟩
    have hd : ds.drop k = ds[k] :: ds.drop (k + 1) := List.drop_eq_getElem_cons hlt
    rw [hd, foldO_cons] at hfold
    obtain ⟨dss1, y1, y2⟩ := bind_inv hfold
    obtain ⟨F3, g3, r3⟩ := wk.yld k F H x H' hlt okb.hv.f0 okb.hv.f okb.hv.b y
    have rx := r3 ds[k] (by simp [hlt])
    have ok4 := (okb.grow g3).setVal (i := a) rx
    have n4 := (nb.grow g3).set hai (some x)
    exact hb dss ds[k] (Z.at F2) F3 H' _ ok4 ⟨n4.ex⟩ dss1 y1 _ fun F5 H5 σ5 ok5 n5 => ⟨dss1, F5, ok5, ⟨n5.ex⟩, y2⟩
  · have e : k = ds.length := by omega
    subst e
    rw [List.drop_length] at hfold
    cases hfold
    exact .inl ⟨wk.stop F H okb.hv.f0 okb.hv.f okb.hv.b, hu _ Z F H σ (okb.un (ok.grow gr).hv) nb o e2 E pp⟩
theorem fr_of {Z : Base} {F H : Hp} {σ : L2.St} (ok : Ok T Z Γ F H σ) {q : Addr} (hq : H q = none) : Fr Z F q := ⟨none_of_ex ok.hv.b hq, none_of_ex ok.hv.f hq, by
  cases z : Z.H q with
  | none => rfl
  | some u => exact absurd hq (ok.hv.dom q (by rw [z]; simp))⟩
/-- rows = [] -/
theorem bnn_start (hli : i < Γ.length) (hu : BN T u (Γ.set i .no) i [] m P) : B T (tSeq (tAsg (tLst tNil) (gName i)) u) Γ m P := fun Z F H σ ok o ho E pp => by
  refine ⟨by rw [line_eq]; decide, fun l hl => ?_⟩
  have g : Grow F F H (upd H l (.lst [])) := Grow.lay ok.hv.f hl _
  have ok2 := (ok.grow g).set (i := i) (s := .no) (v := .ref l) trivial fun z => by cases z
  refine hu Z F _ _ ok2 ⟨l, [], List.getElem?_set_self (Nat.lt_of_lt_of_le hli ok.len), upd_same, by simp, fun q hq => ?_, rfl, fun k q hk => by simp at hk⟩ o ho E pp
  simp at hq
  subst hq
  exact fr_of ok hl
def dAppN (dss : List (List D)) : D → Option (List (List D))
  | .lst ds => if dss.length < 16777216 then some (dss ++ [ds]) else none
  | _ => none
/-- rows.append(a new list) -/
theorem bn_app {me : Option D} {mk : List (List D) → Option ω} (hn : noOwn Γ = true) (he : EvO T te Γ me) (hu : ∀ dss', BN T u Γ i dss' (mk dss') P) :
    BN T (tSeq (tDrop (tBM T.K "list" rAppend (tVar i) (tCons te tNil))) u) Γ i dss (me.bind fun e => (dAppN dss e).bind mk) P := fun Z F H σ ok n o ho E pp => by
  obtain ⟨e, e1, n1⟩ := bind_inv ho
  obtain ⟨dss', e2, e3⟩ := bind_inv n1
  cases e <;> simp only [dAppN] at e2 <;> try (cases e2; done)
  rename_i ds
  split at e2
  · rename_i hl
    cases e2
    obtain ⟨p0, ps, a1, a2, a3, a4, a5, a6⟩ := n.ex
    refine ⟨_, a1, tyV_lst a2, he Z F H σ ok _ e1 _ fun q F2 H2 g hq hf hc => ?_⟩
    simp only [OwnC] at hc
    obtain ⟨vs, c1, c2⟩ := hc
    have n2 := n.grow g
    obtain ⟨p1, ps1, b1, b2, b3, b4, b5, b6⟩ := n2.ex
    rw [a1] at b1; cases b1
    have := g.h _ _ a2
    rw [b2] at this
    have ep : ps1.map V.ref = ps.map V.ref := HO.lst.inj (Option.some.inj this)
    have inj : ∀ {as bs : List Addr}, as.map V.ref = bs.map V.ref → as = bs := by
      intro as
      induction as with
      | nil => intro bs h; cases bs <;> simp at h ⊢
      | cons x as ih => intro bs h; cases bs with
        | nil => simp at h
        | cons y bs => simp only [List.map_cons, List.cons.injEq, V.ref.injEq] at h; rw [h.1, ih h.2]
    have ep := inj ep
    subst ep
    have ok2 := ok.grow g
    have qp0 : q ≠ p0 := fun z => by rw [z, a2] at hq; cases hq
    have qps : q ∉ ps1 := fun z => by
      obtain ⟨k, hk⟩ := List.getElem?_of_mem z
      obtain ⟨vs', ds', _, h2, _⟩ := a6 k q hk
      rw [hq] at h2; cases h2
    refine ⟨p0, ps1.map V.ref, .ref q, rfl, rfl, b2, by rw [List.length_map, line_eq, a5]; exact hl, ?_⟩
    refine hu _ Z F2 _ σ (ok2.updF hn (b4 p0 (by simp)) _) ⟨p0, ps1 ++ [q], a1, by rw [upd_same]; simp, ?_, fun x hx => ?_, by simp [a5], fun k x hk => ?_⟩ o e3 E pp
    · rw [List.nodup_cons] at a3 ⊢
      refine ⟨by simp; exact ⟨a3.1, qp0.symm⟩, ?_⟩
      rw [List.nodup_append]
      exact ⟨a3.2, by simp, fun x hx y hy z => by simp at hy; subst hy; subst z; exact qps hx⟩
    · rcases List.mem_cons.mp hx with z | z
      · rw [z]; exact b4 p0 (by simp)
      · rcases List.mem_append.mp z with y | y
        · exact b4 x (List.mem_cons_of_mem _ y)
        · simp at y
          subst y
          have f1 := fr_of ok hq
          exact ⟨f1.1, hf, f1.2.2⟩
    · by_cases hkl : k < ps1.length
      · rw [List.getElem?_append_left hkl] at hk
        obtain ⟨vs', ds', h1, h2, h3⟩ := b6 k x hk
        have xp0 : x ≠ p0 := fun z => by subst z; exact (List.nodup_cons.mp a3).1 (List.mem_of_getElem? hk)
        exact ⟨vs', ds', by rw [List.getElem?_append_left (by rw [← a5]; exact hkl)]; exact h1, by rw [upd_ne xp0]; exact h2, h3⟩
      · have hk2 : k < (ps1 ++ [q]).length := (List.getElem?_eq_some_iff.mp hk).1
        have hke : k = ps1.length := by simp at hk2; omega
        subst hke
        simp at hk
        subst hk
        exact ⟨vs, ds, by rw [a5]; simp, by rw [upd_ne qp0]; exact c1, c2⟩
  · cases e2
end
end Mi
/-! plain laws: evaluation -/
namespace Mi
open PySem L2
theorem bs {α β : Type} (a : α) (f : α → Option β) : (some a).bind f = f a := id rfl
theorem ms {α β : Type} (a : α) (f : α → β) : (some a).map f = some (f a) := id rfl
theorem ift {α : Type} (a b : α) : (if true = true then a else b) = a := id rfl
theorem iff' {α : Type} (a b : α) : (if false = true then a else b) = b := id rfl
@[simp] theorem dTup0 : dTup [] = some (.tup []) := if_pos (by simp)
@[simp] theorem dTup1 (a : D) : dTup [a] = some (.tup [a]) := if_pos (by simp)
@[simp] theorem dTup2 (a b : D) : dTup [a, b] = some (.tup [a, b]) := if_pos (by simp)
@[simp] theorem dTup3 (a b c : D) : dTup [a, b, c] = some (.tup [a, b, c]) := if_pos (by simp)
@[simp] theorem dTup4 (a b c d : D) : dTup [a, b, c, d] = some (.tup [a, b, c, d]) := if_pos (by simp)
@[simp] theorem dTup5 (a b c d e : D) : dTup [a, b, c, d, e] = some (.tup [a, b, c, d, e]) := if_pos (by simp)
@[simp] theorem dTup6 (a b c d e f : D) : dTup [a, b, c, d, e, f] = some (.tup [a, b, c, d, e, f]) := if_pos (by simp)
@[simp] theorem dLst0 : dLst [] = some (.lst []) := if_pos (by simp)
@[simp] theorem dLst1 (a : D) : dLst [a] = some (.lst [a]) := if_pos (by simp)
@[simp] theorem dLst2 (a b : D) : dLst [a, b] = some (.lst [a, b]) := if_pos (by simp)
@[simp] theorem dLst3 (a b c : D) : dLst [a, b, c] = some (.lst [a, b, c]) := if_pos (by simp)
@[simp] theorem dLst4 (a b c d : D) : dLst [a, b, c, d] = some (.lst [a, b, c, d]) := if_pos (by simp)
@[simp] theorem dLst5 (a b c d e : D) : dLst [a, b, c, d, e] = some (.lst [a, b, c, d, e]) := if_pos (by simp)
@[simp] theorem dLst6 (a b c d e f : D) : dLst [a, b, c, d, e, f] = some (.lst [a, b, c, d, e, f]) := if_pos (by simp)
@[simp] theorem dLst7 (a b c d e f g : D) : dLst [a, b, c, d, e, f, g] = some (.lst [a, b, c, d, e, f, g]) := if_pos (by simp)
@[simp] theorem dLst8 (a b c d e f g h : D) : dLst [a, b, c, d, e, f, g, h] = some (.lst [a, b, c, d, e, f, g, h]) := if_pos (by simp)
@[simp] theorem dLst9 (a b c d e f g h i : D) : dLst [a, b, c, d, e, f, g, h, i] = some (.lst [a, b, c, d, e, f, g, h, i]) := if_pos (by simp)
theorem dAdd_ll {a b : List D} (h : a.length + b.length ≤ 16777216) : dAdd (.lst a) (.lst b) = some (.lst (a ++ b)) := if_pos h
theorem dAdd_tt {a b : List D} (h : a.length + b.length ≤ 16777216) : dAdd (.tup a) (.tup b) = some (.tup (a ++ b)) := if_pos h
@[simp] theorem dAddL_ll' {a b : List D} (h : a.length + b.length ≤ 16777216) : dAddL (.lst a) (.lst b) = some (.lst (a ++ b)) := if_pos h
@[simp] theorem dTuple_l (ds : List D) : dTuple (.lst ds) = some (.tup ds) := id rfl
@[simp] theorem dTuple_t (ds : List D) : dTuple (.tup ds) = some (.tup ds) := id rfl
@[simp] theorem dList_l (ds : List D) : dList (.lst ds) = some (.lst ds) := id rfl
@[simp] theorem dList_t (ds : List D) : dList (.tup ds) = some (.lst ds) := id rfl
@[simp] theorem dI_i (i : Int) : dI (.int i) = some i := id rfl
@[simp] theorem dIs_bb (a b : Bool) : dIs (.bl a) (.bl b) = some (.bl (decide (a = b))) := id rfl
@[simp] theorem dIsNot_bb (a b : Bool) : dIsNot (.bl a) (.bl b) = some (.bl (!decide (a = b))) := id rfl
theorem mul2 (k : Int) : dMul (.int 2) (.int k) = some (.int (2 * k)) := dMul_l (by decide)
theorem mul3 (k : Int) : dMul (.int 3) (.int k) = some (.int (3 * k)) := dMul_l (by decide)
theorem mul4 (k : Int) : dMul (.int 4) (.int k) = some (.int (4 * k)) := dMul_l (by decide)
theorem mul5 (k : Int) : dMul (.int 5) (.int k) = some (.int (5 * k)) := dMul_l (by decide)
theorem mul6 (k : Int) : dMul (.int 6) (.int k) = some (.int (6 * k)) := dMul_l (by decide)
theorem mulS {a b : Int} (h : -1000000000 ≤ a ∧ a ≤ 1000000000) : dMul (.int a) (.int b) = some (.int (a * b)) := dMul_l (by unfold smallI; omega)
theorem mulSr {a b : Int} (h : -1000000000 ≤ b ∧ b ≤ 1000000000) : dMul (.int a) (.int b) = some (.int (a * b)) := dMul_r (by unfold smallI; omega)
/-! places -/
theorem ixm {α : Type} {f : α → D} {xs : List α} {i : Nat} {a : α} (h : xs[i]? = some a) : dIx (.lst (xs.map f)) (.int (i : Int)) = some (f a) := by
  rw [dIx_lst]; exact atI_nat (by rw [List.getElem?_map, h]; rfl)
theorem ixt {α : Type} {f : α → D} {xs : List α} {i : Nat} {a : α} (h : xs[i]? = some a) : dIx (.tup (xs.map f)) (.int (i : Int)) = some (f a) := by
  rw [dIx_tup]; exact atI_nat (by rw [List.getElem?_map, h]; rfl)
theorem ixl {xs : List D} {i : Nat} {a : D} (h : xs[i]? = some a) : dIx (.lst xs) (.int (i : Int)) = some a := by
  rw [dIx_lst]; exact atI_nat h
theorem ixtt {xs : List D} {i : Nat} {a : D} (h : xs[i]? = some a) : dIx (.tup xs) (.int (i : Int)) = some a := by
  rw [dIx_tup]; exact atI_nat h
theorem getD_some {α : Type} {xs : List α} {i : Nat} (d : α) (h : i < xs.length) : xs[i]? = some (xs.getD i d) := by
  simp [List.getD, h]
theorem ixmD {α : Type} {f : α → D} {xs : List α} {i : Nat} (d : α) (h : i < xs.length) : dIx (.lst (xs.map f)) (.int (i : Int)) = some (f (xs.getD i d)) := ixm (getD_some d h)
theorem ixtD {α : Type} {f : α → D} {xs : List α} {i : Nat} (d : α) (h : i < xs.length) : dIx (.tup (xs.map f)) (.int (i : Int)) = some (f (xs.getD i d)) := ixt (getD_some d h)
theorem ixzD {α : Type} {f : α → D} {xs : List α} {i : Int} (d : α) (h0 : 0 ≤ i) (h : i.toNat < xs.length) : dIx (.lst (xs.map f)) (.int i) = some (f (xs.getD i.toNat d)) := by
  have e : i = (i.toNat : Int) := by omega
  conv => lhs; rw [e]
  exact ixmD d h
/-- numbers from 0 -/
theorem ranged0 (n : Nat) : ranged 0 (n : Int) = (List.range n).map fun i => D.int (i : Nat) := by
  unfold ranged
  simp
theorem enumed_eq (ds : List D) : enumed ds = (List.range ds.length).map fun i => (D.int (i : Nat), ds.getD i .non) := by
  unfold enumed
  apply List.ext_getElem
  · simp
  · intro i h1 h2
    simp at h1
    simp [h1]
theorem loopO_idx {ι γ : Type} {f : Unit → ι → Option (Out Unit Unit)} {g : Nat → ι} {n : Nat} {p : Nat → Bool} {r : D} (h : ∀ i < n, f () (g i) = some (if p i = true then .nx () else .rt r [])) : loopO (γ := γ) f ((List.range n).map g) () = some (if (List.range n).all p = true then .nx () else .rt r []) := by
  have key : ∀ l : List Nat, (∀ i ∈ l, i < n) → loopO (γ := γ) f (l.map g) () = some (if l.all p = true then .nx () else .rt r []) := by
    intro l
    induction l with
    | nil => intro _; rfl
    | cons a l ih =>
      intro hl
      rw [List.map_cons, loopO_cons, h a (hl a (by simp))]
      cases q : p a with
      | false => simp [q]
      | true =>
        simp only [if_true, Option.bind_some, List.all_cons, q, Bool.true_and]
        exact ih fun i hi => hl i (by simp [hi])
  exact key _ fun i hi => List.mem_range.mp hi
/-- a loop that never leaves -/
theorem loopO_nx {ι γ : Type} {f : Unit → ι → Option (Out Unit Unit)} {ds : List ι} (h : ∀ d ∈ ds, f () d = some (.nx ())) : loopO (γ := γ) f ds () = some (.nx ()) := by
  rw [loopO_all (p := fun _ => true) (r := .non) (fun d hd => by rw [h d hd]; rfl)]
  simp
theorem loopO_nxI {ι γ : Type} {f : Unit → ι → Option (Out Unit Unit)} {g : Nat → ι} {n : Nat} (h : ∀ i < n, f () (g i) = some (.nx ())) : loopO (γ := γ) f ((List.range n).map g) () = some (.nx ()) := by
  refine loopO_nx fun d hd => ?_
  obtain ⟨i, hi, rfl⟩ := List.mem_map.mp hd
  exact h i (List.mem_range.mp hi)
/-- a loop that carries and may leave, by a fold -/
theorem loopO_foldP {β ι γ : Type} {f : β → ι → Option (Out β β)} {g : β → ι → β} : ∀ {ds : List ι} {b : β}, (∀ d ∈ ds, ∀ b, f b d = some (.nx (g b d))) → loopO (γ := γ) f ds b = some (.nx (ds.foldl g b))
  | [], _, _ => rfl
  | d :: ds, b, h => by
    rw [loopO_cons, h d (by simp) b]
    exact loopO_foldP fun e he => h e (by simp [he])
theorem foldO_fold {β ι : Type} {f : β → ι → Option β} {g : β → ι → β} : ∀ {ds : List ι} {b : β}, (∀ d ∈ ds, ∀ b, f b d = some (g b d)) → foldO f ds b = some (ds.foldl g b)
  | [], _, _ => rfl
  | d :: ds, b, h => by
    rw [foldO_cons]
    show (f b d).bind _ = _
    rw [h d (by simp) b]
    exact foldO_fold fun e he => h e (by simp [he])
/-! equality of data -/
theorem pys_ints (as : List Int) : pys (as.map D.int) = some (as.map PyData.int) := by
  induction as with
  | nil => rfl
  | cons a as ih => simp [pys, py, ih]
theorem lay_ints (as : List Int) : PyData.canLayAll0 (as.map PyData.int) = true := by
  induction as with
  | nil => rfl
  | cons a as ih => simp [PyData.canLayAll0, PyData.canLay0, ih]
theorem depth_ints (as : List Int) : PyData.depthAll (as.map PyData.int) ≤ 0 := by
  induction as with
  | nil => exact Nat.le_refl _
  | cons a as ih => simp only [List.map_cons, PyData.depthAll, PyData.depth]; omega
theorem eqv_ints : ∀ as bs : List Int, PyData.eqvAll (as.map PyData.int) (bs.map PyData.int) = decide (as = bs)
  | [], [] => by simp [PyData.eqvAll]
  | [], b :: bs => by simp [PyData.eqvAll]
  | a :: as, [] => by simp [PyData.eqvAll]
  | a :: as, b :: bs => by
    simp only [List.map_cons, PyData.eqvAll, PyData.eqv, eqv_ints as bs]
    by_cases h : a = b <;> simp [h]
theorem shaped_of {p : PyData} (h : p.canLay0 = true) (k : p.depth ≤ 64) : SeqAt.shaped p = true := by
  unfold SeqAt.shaped
  rw [h]
  simp
  omega
theorem dEq_of {d e : D} {p q : PyData} (hp : py d = some p) (hq : py e = some q) (sp : SeqAt.shaped p = true) (sq : SeqAt.shaped q = true) : dEq d e = some (.bl (PyData.eqv p q)) := by
  unfold dEq dEqB
  simp [hp, hq, sp, sq]
theorem dNe_of {d e : D} {p q : PyData} (hp : py d = some p) (hq : py e = some q) (sp : SeqAt.shaped p = true) (sq : SeqAt.shaped q = true) : dNe d e = some (.bl (!PyData.eqv p q)) := by
  unfold dNe dEqB
  simp [hp, hq, sp, sq]
theorem shl_ints (as : List Int) : SeqAt.shaped (.list (as.map PyData.int)) = true := shaped_of (by simp only [PyData.canLay0]; exact lay_ints as) (by simp only [PyData.depth]; have := depth_ints as; omega)
theorem sht_ints (as : List Int) : SeqAt.shaped (.tuple (as.map PyData.int)) = true := shaped_of (by simp only [PyData.canLay0]; exact lay_ints as) (by simp only [PyData.depth]; have := depth_ints as; omega)
theorem dEq_li (as bs : List Int) : dEq (.lst (as.map D.int)) (.lst (bs.map D.int)) = some (.bl (decide (as = bs))) := by
  rw [dEq_of (p := .list (as.map PyData.int)) (q := .list (bs.map PyData.int)) (by simp [py, pys_ints]) (by simp [py, pys_ints]) (shl_ints _) (shl_ints _)]
  simp only [PyData.eqv, eqv_ints]
theorem dNe_li (as bs : List Int) : dNe (.lst (as.map D.int)) (.lst (bs.map D.int)) = some (.bl (!decide (as = bs))) := by
  rw [dNe_of (p := .list (as.map PyData.int)) (q := .list (bs.map PyData.int)) (by simp [py, pys_ints]) (by simp [py, pys_ints]) (shl_ints _) (shl_ints _)]
  simp only [PyData.eqv, eqv_ints]
theorem dEq_ti (as bs : List Int) : dEq (.tup (as.map D.int)) (.tup (bs.map D.int)) = some (.bl (decide (as = bs))) := by
  rw [dEq_of (p := .tuple (as.map PyData.int)) (q := .tuple (bs.map PyData.int)) (by simp [py, pys_ints]) (by simp [py, pys_ints]) (sht_ints _) (sht_ints _)]
  simp only [PyData.eqv, eqv_ints]
theorem dEq_ss {a b : Str} (ha : PyData.strOk a = true) (hb : PyData.strOk b = true) : dEq (.str a) (.str b) = some (.bl (a == b)) := dEq_of (p := .str a) (q := .str b) rfl rfl (shaped_of (by simpa only [PyData.canLay0] using ha) (Nat.zero_le _)) (shaped_of (by simpa only [PyData.canLay0] using hb) (Nat.zero_le _))
theorem dNe_ss {a b : Str} (ha : PyData.strOk a = true) (hb : PyData.strOk b = true) : dNe (.str a) (.str b) = some (.bl (!(a == b))) := dNe_of (p := .str a) (q := .str b) rfl rfl (shaped_of (by simpa only [PyData.canLay0] using ha) (Nat.zero_le _)) (shaped_of (by simpa only [PyData.canLay0] using hb) (Nat.zero_le _))
theorem dSum_l (ns : List Int) : dSum (.lst (ns.map D.int)) = some (.int ns.sum) := by simp [dSum, dInts, asInts_map]
theorem dSum_t (ns : List Int) : dSum (.tup (ns.map D.int)) = some (.int ns.sum) := by simp [dSum, dInts, asInts_map]
/-! cuts -/
theorem cut_to {ds : List D} {k : Nat} (h : k ≤ ds.length) : cutD ds none (some (k : Int)) = ds.take k := by
  simp [cutD, HT.sIx_none, HT.sIx_nat, Nat.min_eq_left h]
theorem cut_from {ds : List D} {k : Nat} (h : k ≤ ds.length) : cutD ds (some (k : Int)) none = ds.drop k := by
  simp [cutD, HT.sIx_none, HT.sIx_nat, Nat.min_eq_left h]
  rw [List.take_of_length_le (by simp)]
@[simp] theorem dCut_l (ds : List D) (lo hi : Option Int) : dCut (.lst ds) lo hi = some (.lst (cutD ds lo hi)) := id rfl
@[simp] theorem dCut_t (ds : List D) (lo hi : Option Int) : dCut (.tup ds) lo hi = some (.tup (cutD ds lo hi)) := id rfl
/-! in -/
theorem dIn_ints {x : Int} {ns : List Int} : dIn (.int x) (.lst (ns.map D.int)) = some (.bl (decide (x ∈ ns))) := by
  have h1 : (ns.map D.int).all flat = true := by simp [flat]
  have h2 : (ns.map D.int).any (fun e => eqF e (.int x)) = decide (x ∈ ns) := by
    rw [List.any_map]
    rw [Bool.eq_iff_iff]
    simp [eqF]
  simp [dIn, dInB, flat, h1, h2]
theorem dIn_intsT {x : Int} {ns : List Int} : dIn (.int x) (.tup (ns.map D.int)) = some (.bl (decide (x ∈ ns))) := by
  have h1 : (ns.map D.int).all flat = true := by simp [flat]
  have h2 : (ns.map D.int).any (fun e => eqF e (.int x)) = decide (x ∈ ns) := by
    rw [List.any_map]
    rw [Bool.eq_iff_iff]
    simp [eqF]
  simp [dIn, dInB, flat, h1, h2]
theorem dNotIn_of {x y : D} {b : Bool} (h : dIn x y = some (.bl b)) : dNotIn x y = some (.bl !b) := by
  unfold dIn at h
  unfold dNotIn
  cases q : dInB x y with
  | none => rw [q] at h; cases h
  | some c =>
    rw [q] at h
    have : c = b := by simpa using h
    rw [this]; rfl
end Mi
namespace Mi
open PySem L2
/-- a loop that carries S i and leaves where p fails -/
theorem loopO_idxS {β ι γ : Type} {f : β → ι → Option (Out β β)} {g : Nat → ι} {n : Nat} {S : Nat → β} {p : Nat → Bool} {r : D} (h : ∀ i < n, (∀ j < i, p j = true) → f (S i) (g i) = some (if p i = true then .nx (S (i + 1)) else .rt r [])) : loopO (γ := γ) f ((List.range n).map g) (S 0) = some (if (List.range n).all p = true then .nx (S n) else .rt r []) := by
  have key : ∀ (m k : Nat), k + m = n → (∀ j < k, p j = true) → loopO (γ := γ) f ((List.range' k m).map g) (S k) = some (if (List.range' k m).all p = true then .nx (S n) else .rt r []) := by
    intro m
    induction m with
    | zero => intro k hk _; subst hk; rfl
    | succ m ih =>
      intro k hk hp
      rw [List.range'_succ, List.map_cons, loopO_cons, h k (by omega) hp]
      cases q : p k with
      | false => simp [q]
      | true =>
        simp only [if_true, Option.bind_some, List.all_cons, q, Bool.true_and]
        refine ih (k + 1) (by omega) fun j hj => ?_
        by_cases e : j = k
        · rw [e]; exact q
        · exact hp j (by omega)
  have := key n 0 (by omega) (fun j hj => by omega)
  rw [List.range_eq_range']
  exact this
theorem atI_prev {α : Type} {xs : List α} {k : Nat} (h : k < xs.length) : atI xs ((k : Int) - 1) = xs[if k = 0 then xs.length - 1 else k - 1]? := by
  by_cases hk : k = 0
  · subst hk
    unfold atI ixN
    rw [if_neg (by omega), if_pos (by omega)]
    simp only [Option.bind_some, if_true]
    congr 1
    omega
  · rw [if_neg hk]
    have e : (k : Int) - 1 = ((k - 1 : Nat) : Int) := by omega
    rw [e, atI_nat (j := k - 1) (List.getElem?_eq_getElem (by omega)), List.getElem?_eq_getElem (by omega)]
theorem look_keys {ks : List Nat} {k : Nat} {ds : List D} (h : ks.length = ds.length) : (look (ks.map fun (i : Nat) => (Sum.inl (i : Int) : Key)) ds (.inl (k : Int))).isSome = decide (k ∈ ks) := by
  induction ks generalizing ds with
  | nil => simp [look]
  | cons a ks ih =>
    cases ds with
    | nil => simp at h
    | cons d ds =>
      by_cases hk : a = k
      · subst hk; simp [look]
      · have e : (look ((a :: ks).map fun (i : Nat) => (Sum.inl (i : Int) : Key)) (d :: ds) (.inl (k : Int))) = look (ks.map fun (i : Nat) => (Sum.inl (i : Int) : Key)) ds (.inl (k : Int)) := by
          have : ¬ ((a : Int) = (k : Int)) := by omega
          simp [look, List.find?_cons, this]
        rw [e, ih (by simpa using h)]
        have : ¬ k = a := fun z => hk z.symm
        simp [this]
theorem dIn_keys {ks : List Nat} {k : Nat} {ds : List D} (h : ks.length = ds.length) : dIn (.int (k : Int)) (.dic (ks.map fun (i : Nat) => (Sum.inl (i : Int) : Key)) ds) = some (.bl (decide (k ∈ ks))) := by
  unfold dIn
  have : dInB (.int (k : Int)) (.dic (ks.map fun (i : Nat) => (Sum.inl (i : Int) : Key)) ds) = some (decide (k ∈ ks)) := by
    show ((some (Sum.inl (k : Int) : Key)).map (fun k => look (ks.map fun (i : Nat) => (Sum.inl (i : Int) : Key)) ds k)).map Option.isSome = _
    rw [ms, ms, look_keys h]
  rw [this]; rfl
theorem putKD_new {κ : Type} [DecidableEq κ] {ks : List κ} {ds : List D} {k : κ} {d : D} (h : ks.length = ds.length) (hk : k ∉ ks) : putKD ks ds k d = (ks ++ [k], ds ++ [d]) := by
  induction ks generalizing ds with
  | nil =>
    cases ds with
    | nil => rfl
    | cons e ds => simp at h
  | cons a ks ih =>
    cases ds with
    | nil => simp at h
    | cons e ds =>
      simp only [List.mem_cons, not_or] at hk
      have : ¬ a = k := fun z => hk.1 z.symm
      simp only [putKD, this, if_false]
      rw [ih (by simpa using h) hk.2]
      rfl
theorem keys_nodup {ks : List Nat} (h : ks.Nodup) : (ks.map fun (i : Nat) => (Sum.inl (i : Int) : Key)).Nodup := by
  unfold List.Nodup at *
  rw [List.pairwise_map]
  refine h.imp fun {a b} hab e => hab ?_
  have := Sum.inl.inj e
  omega
theorem dSet_keys {ks : List Nat} {k : Nat} {ds : List D} {d : D} (h : ks.length = ds.length) (hn : ks.Nodup) (hk : k ∉ ks) (hl : ks.length < 16777216) : dSet (.dic (ks.map fun (i : Nat) => (Sum.inl (i : Int) : Key)) ds) (.int (k : Int)) d = some (.dic ((ks ++ [k]).map fun (i : Nat) => (Sum.inl (i : Int) : Key)) (ds ++ [d])) := by
  unfold dSet keyOf
  simp only [bs]
  rw [if_pos ⟨by rw [List.length_map]; exact hl, by rw [List.length_map]; exact h, keys_nodup hn⟩]
  rw [putKD_new (by rw [List.length_map]; exact h) (by
    intro z
    obtain ⟨a, ha, e⟩ := List.mem_map.mp z
    have := Sum.inl.inj e
    have : a = k := by omega
    exact hk (this ▸ ha))]
  simp
end Mi
namespace Mi
open PySem L2
theorem dMul_rep {xs : List D} {n : Nat} (h : n ≤ 1000000000) (h2 : xs.length * n ≤ 16777216) : dMul (.lst xs) (.int (n : Int)) = some (.lst (List.replicate n xs).flatten) := by
  unfold dMul
  dsimp only
  rw [if_pos ⟨by omega, by omega, by rw [Int.toNat_natCast]; exact h2⟩, Int.toNat_natCast]
theorem dMulL_rep {xs : List D} {n : Nat} (h : n ≤ 1000000000) (h2 : xs.length * n ≤ 16777216) : dMulL (.lst xs) (.int (n : Int)) = some (.lst (List.replicate n xs).flatten) := by
  unfold dMulL
  dsimp only
  rw [if_pos ⟨by omega, by omega, by rw [Int.toNat_natCast]; exact h2⟩, Int.toNat_natCast]
theorem rep1 {α : Type} (f : α → D) (n : Nat) (a : α) : (List.replicate n [f a]).flatten = (List.replicate n a).map f := by
  rw [List.map_replicate, List.flatten_replicate_singleton]
end Mi
/-! results that are owned, calls that change, dicts with one entry, tuples repeated -/
namespace Mi
open PySem L2
open PyProof.Rows
open Evl (Ex ex_t ex_l ex_rd fresh_back)
section
variable {ω α β γ : Type} {T : Th} {Γ Γ' : Ctx} {md : Md} {te ta' tb tk tv : TE} {ta : TA} {tc : TT} {t u v : TS} {me mk mv : Option D} {mc : Option Bool} {i j : Nat} {ks : List PK} {ms : Option (List D)} {as : List AK}
/-! ### results that are owned -/
abbrev PW (T : Th) : Base → Ends → D → Prop := fun Z E d => ∀ p F H, Hv Z F H → Z.H p = none → F p = none → OwnC T F H p d → E.rt (.ref p) H
def spW (T : Th) (ks : List PK) (m : List D → Option D) : Sp := fun vs H Q _ => ∃ (Z : Base) (F : Hp) (ds : List D), Z.F = F ∧ Z.H = H ∧ Hv Z F H ∧ RepsK T Z F H 0 ks ds vs ∧ (∀ i j, ks[i]? = some PK.u → ks[j]? = some PK.u → Z.P i = Z.P j → i = j) ∧
  ∃ d, m ds = some d ∧ ∀ p F2 H2, Hv Z F2 H2 → Z.H p = none → F2 p = none → OwnC T F2 H2 p d → Q (.ref p) H2
theorem bw_ret (h : EvO T te Γ me) : B T (tRet te) Γ me (PW T) := fun Z F H σ ok d hd E p =>
  h Z F H σ ok d hd _ fun q F2 H2 g hp hf hc => p q F2 H2 (ok.hv.grow g) (by
    cases z : Z.H q with
    | none => rfl
    | some o => exact absurd hp (ok.hv.dom q (by rw [z]; simp))) hf hc
theorem bw_retS {d : D} (hs : Γ[i]? = some (.own d)) : B T (tRet (tVar i)) Γ (some d) (PW T) := fun Z F H σ ok d' hd E p => by
  cases hd
  obtain ⟨q, a, b, c, e, z⟩ := ok.at' i _ hs
  exact ⟨_, a, p q F H ok.hv z c e⟩
theorem bw_ifx {m1 m2 : Option D} (hc : EvT T tc Γ mc) (ha : B T t Γ m1 (PW T)) (hb : B T (tSeq u v) Γ m2 (PW T)) : B T (tSeq (tIfS tc t u) v) Γ (mc.bind fun c => if c = true then m1 else m2) (PW T) := fun Z F H σ ok o ho E p => by
  obtain ⟨c, e1, e2⟩ := bind_inv ho
  refine hc Z F H σ ok c e1 _ fun F2 H2 g => ?_
  cases c with
  | true => exact ha Z F2 H2 σ (ok.grow g) o e2 { E with nx := v E } p
  | false => exact hb Z F2 H2 σ (ok.grow g) o e2 E p
theorem bw_ifx0 {m1 m2 : Option D} (hc : EvT T tc Γ mc) (ha : B T t Γ m1 (PW T)) (hb : B T v Γ m2 (PW T)) : B T (tSeq (tIfS tc t tNext) v) Γ (mc.bind fun c => if c = true then m1 else m2) (PW T) := bw_ifx hc ha hb
theorem fn_okW {P : Program} {w : World} {K : PySem.W.Frag} {mg : Str → Option Value} {base : Heap} {T : Th} {x qual : Str} {st : Stmt} {f : Addr} {fd : FuncData} {N ps : List Str} {k : Nat} {ks : List PK} {m : List D → Option D} (F : Fun K x qual st f fd) (S : FnScope N ps (defScope st)) (hk : ks.length = ps.length) (hN : ks.length ≤ N.length)
    (hbody : ∀ (cdv : Value) (A : Around) (outer : List Env) (s : Shared) (H : Hp) (E : XK), Room k (A.deeper (envOfC qual (defScope st) s.heap.objs.size f cdv)) →
      ∃ t, PSs (cxOf CX0 P w K mg base N qual (defScope st) f cdv A outer s H E).nox (defBody st) t ∧ ∀ ds, ds.length = ks.length → B T t (ctx0 ks ds ++ List.replicate (N.length - ks.length) .no) (m ds) (PW T)) :
    FnOk P w K mg base CX0 (k + 1) f fd ps (spW T ks m) := by
  refine F.ok S (fun vs H Q E h => ?_) (fun cdv A outer s H vs Q E hr h => ?_)
  · obtain ⟨Z, F', ds, _, _, _, r, _⟩ := h
    rw [← hk]; exact r.len.1
  · obtain ⟨t, ht, hb⟩ := hbody cdv A outer s H E hr
    obtain ⟨Z, F', ds, _, _, hv, r, sep, o, ho, q⟩ := h
    exact ⟨t, ht, hb ds r.len.2 Z F' H _ (ok_start hv r sep hN rfl) o ho _ q⟩
theorem evo_callW {m : List D → Option D} {E : XK} (hu : noU ks = true) (ha : EvA T ta Γ (ks.map kMd) ms) : EvO T (tCall (spW T ks m) [] E ta) Γ (o1 m ms) := fun Z F H σ ok d hd Q q => by
  obtain ⟨ds, e1, e2⟩ := o1_inv hd
  refine ha Z F H σ ok ds e1 _ fun vs F2 H2 g r => ?_
  rw [List.append_nil]
  refine ⟨⟨H2, F2, H2, fun _ => 0⟩, F2, ds, rfl, rfl, ⟨Ex.refl H2, Ex.refl F2, g.i, fun _ h => h, fun _ h => .inl h⟩, repsK_of (Z := Z) hu r, fun i j h => (noU_at hu h).elim, d, e2, fun p F3 H3 hv hp hf hc => ?_⟩
  have g3 : Grow F2 F3 H2 H3 := ⟨hv.f0, hv.f, hv.b, hv.new⟩
  exact q p F3 H3 (g.trans g3) (none_of_ex g.h hp) hf hc
/-! ### calls that change an argument -/
theorem bp_callU {m : List D → Option UR} {E : XK} {Γ1 : UR → Ctx} (hu : ((usOf 0 as).map (·.2)).Nodup) (hh : ∀ j ∈ hosOf as, j ∉ (usOf 0 as).map (·.2)) (ho : ((usOf 0 as).map (·.2) ++ hosOf as).all (ownAt Γ) = true)
    (hΓ : ∀ o, updU Γ (usOf 0 as) o = Γ1 o) (ha : EvK T ta Γ as ms) : B T (tDrop (tCall (spU T (as.map AK.pk) m) [] E ta)) Γ ((ms.bind m).bind (chkU (usOf 0 as))) (PP T Γ1) := fun Z F H σ ok o h E' p => by
  refine callU_go hu hh (List.all_eq_true.mp ho) ha ok h fun v F2 H2 ok2 r => ?_
  rw [hΓ] at ok2
  exact p F2 H2 σ ok2
theorem bp_callUS {m : List D → Option UR} {E : XK} {Γ1 : UR → Ctx} (hu : ((usOf 0 as).map (·.2)).Nodup) (hh : ∀ j ∈ hosOf as, j ∉ (usOf 0 as).map (·.2)) (ho : ((usOf 0 as).map (·.2) ++ hosOf as).all (ownAt Γ) = true)
    (hΓ : ∀ o, (updU Γ (usOf 0 as) o).set i (.val o.1) = Γ1 o) (ha : EvK T ta Γ as ms) : B T (tAsg (tCall (spU T (as.map AK.pk) m) [] E ta) (gName i)) Γ ((ms.bind m).bind (chkU (usOf 0 as))) (PP T Γ1) := fun Z F H σ ok o h E' p => by
  refine callU_go hu hh (List.all_eq_true.mp ho) ha ok h fun v F2 H2 ok2 r => ?_
  have := ok2.setVal (i := i) r
  rw [hΓ] at this
  exact p F2 H2 _ this
@[simp] theorem chkU_1 (k i : Nat) (r d : D) : chkU [(k, i)] (r, [(k, d)]) = some (r, [(k, d)]) := by simp [chkU]
@[simp] theorem cU_1 (k : Nat) (r d : D) : cU (r, [(k, d)]) k = d := by simp [cU]
@[simp] theorem chkU_2 (k l i j : Nat) (r d e : D) : chkU [(k, i), (l, j)] (r, [(k, d), (l, e)]) = some (r, [(k, d), (l, e)]) := by
  by_cases h : l = k
  · subst h; simp [chkU]
  · have : (l == k) = false := by simpa using h
    simp [chkU, List.lookup, this]
theorem cU_2 {k l : Nat} (h : l ≠ k) (r d e : D) : cU (r, [(k, d), (l, e)]) l = e := by
  have : (l == k) = false := by simpa using h
  simp [cU, List.lookup, this]
@[simp] theorem cU_20 (k l : Nat) (r d e : D) : cU (r, [(k, d), (l, e)]) k = d := by simp [cU]
/-! ### a last loop that never runs to its end -/
theorem bd_lastn {m1 : Option (Out γ Empty)} {Γ1 : γ → Ctx} (h1 : B T t Γ m1 (PT T Γ1 noL)) : B T t Γ (m1.bind fun o => o.thnD fun _ => none) (PD T) := fun Z F H σ ok o ho E p => by
  obtain ⟨a, e1, e2⟩ := bind_inv ho
  refine h1 Z F H σ ok a e1 _ ?_
  cases a with
  | nx a => cases e2
  | ct b => exact nomatch b
  | bk b => exact nomatch b
  | rt d ms => cases e2; exact fun v F2 H2 r => p v F2 H2 (r.less fun x hx => by cases hx)
theorem bu_lastn {m1 : Option (Out γ Empty)} {Γ1 : γ → Ctx} (h1 : B T t Γ m1 (PT T Γ1 noL)) : B T t Γ (m1.bind fun o => o.thnU fun _ => none) (PU T) := fun Z F H σ ok o ho E p => by
  obtain ⟨a, e1, e2⟩ := bind_inv ho
  refine h1 Z F H σ ok a e1 _ ?_
  cases a with
  | nx a => cases e2
  | ct b => exact nomatch b
  | bk b => exact nomatch b
  | rt d ms => cases e2; exact p
theorem bt_retN' {Γn : α → Ctx} {Γl : β → Ctx} {ms : List (Nat × D)} (hm : mus 0 Γ = ms := by rfl) : B T tRetN Γ (some (.rt .non ms)) (PT T Γn Γl) := by
  subst hm
  exact bt_retN
/-! ### {k: v} -/
def dDisp1 (k v : D) : Option D := (keyOf k).map fun kk => .dic [kk] [v]
theorem evo_disp1 (hk : Ev T .f tk Γ mk) (hv : Ev T .f tv Γ mv) : EvO T (tDisp [(tk, tv)]) Γ (o2 dDisp1 mk mv) := fun Z F H σ ok d hd Q q => by
  obtain ⟨x, y, e1, e2, e3⟩ := o2_inv hd
  unfold dDisp1 at e3
  obtain ⟨kk, hkk, e3⟩ := Option.map_eq_some_iff.mp e3
  subst e3
  intro p hp
  have g0 : Grow F F H (upd H p (.dK [])) := Grow.lay ok.hv.f hp _
  have ok0 := ok.grow g0
  refine hk Z F _ σ ok0 x e1 _ fun vk F1 H1 g1 r1 => hv Z F1 H1 σ (ok0.grow g1) y e2 _ fun vv F2 H2 g2 r2 => ?_
  have gg := g1.trans g2
  have h2 : H2 p = some (.dK []) := gg.h p _ upd_same
  have f2 : F2 p = none := by
    cases z : F2 p with
    | none => rfl
    | some o =>
      rcases gg.new p (by rw [z]; simp) with y | y
      · exact absurd (none_of_ex ok.hv.f hp) y
      · rw [upd_same] at y; cases y
  have hv' : vk = kV kk := by
    cases x <;> simp only [keyOf] at hkk <;> cases hkk
    · simpa only [Rep, kV] using (r1.mono g2.f)
    · simpa only [Rep, kV] using (r1.mono g2.f)
  refine ⟨h2, [(kk, vv)], by rw [hv']; rfl, by simp, ?_⟩
  have g3 : Grow F F2 H (upd H2 p (.dK [(kk, vv)])) := {
    f := gg.f
    i := fun a o h => by
      have ne : a ≠ p := fun e => by rw [e, f2] at h; cases h
      rw [upd_ne ne]
      exact gg.i a o h
    h := fun a o h => by
      have ne : a ≠ p := fun e => by rw [e, hp] at h; cases h
      rw [upd_ne ne]
      exact gg.h a o (by rw [upd_ne ne]; exact h)
    new := fun a h => by
      rcases gg.new a h with y | y
      · exact .inl y
      · by_cases e : a = p
        · rw [e]; exact .inr hp
        · rw [upd_ne e] at y; exact .inr y }
  exact q p F2 _ g3 hp f2 (by simp only [OwnC]; exact ⟨[vv], upd_same, rfl, Reps.one r2⟩)
/-! ### (a, ..) * n -/
def dMulT : D → D → Option D
  | .tup xs, .int k => if xs ≠ [] ∧ 2 ≤ k ∧ k ≤ 1000 ∧ xs.length ≤ 1000 then some (.tup (List.replicate k.toNat xs).flatten) else none
  | _, _ => none
instance (xs : List D) : Decidable (xs ≠ []) := by cases xs <;> first | exact isFalse (fun h => h rfl) | exact isTrue (by simp)
end
end Mi
namespace Mi
open PySem L2
open PyProof.Rows
theorem opM_mulT {T : Th} : OpM T (rRepT T.K) dMulT := fun Z md F H x y d e c hm ex rd re hc Q q => by
  cases d <;> cases e <;> simp only [dMulT] at hc <;> try (cases hc; done)
  split at hc
  · rename_i h
    cases hc
    obtain ⟨p, vs, rfl, hp, r1⟩ := rep_tup_inv rd
    simp only [Rep] at re
    subst re
    have ei := sel_in' (Z := Z) hm ex
    have hl := r1.len
    refine ⟨p, _, vs, rfl, rfl, SqT.of (ei _ _ hp), fun e => h.1 (List.length_eq_zero_iff.mp (by rw [hl, e]; rfl)), h.2.1, h.2.2.1, by rw [← hl]; exact h.2.2.2, fun n hn => ?_⟩
    rename_i ds k
    obtain ⟨F2, g, e2⟩ := sel_new (Z := Z) hm ex hn (.tup (List.replicate k.toNat vs).flatten)
    refine q _ F2 _ g (rep_tup e2 ?_)
    exact reps_rep (r1.mono (sel_grow (Z := Z) g)) _
  · cases hc
end Mi
/-! plain laws: lists of numbers, loops without an end that is told -/
namespace Mi
open PySem L2
theorem xin {α : Type} {xs : List α} {j : Nat} (d : α) (h : j < xs.length) : xs.getD j d ∈ xs := by
  simp [List.getD, h]
theorem mem_getD {α : Type} {l : List α} {a : α} (d : α) (h : a ∈ l) : ∃ j, j < l.length ∧ l.getD j d = a := by
  obtain ⟨j, hj, e⟩ := List.getElem_of_mem h
  exact ⟨j, hj, by simp [List.getD, hj, e]⟩
theorem getD_map {α β : Type} (f : α → β) (l : List α) (j : Nat) (d : α) (e : β) (h : j < l.length) : (l.map f).getD j e = f (l.getD j d) := by
  simp [List.getD, h]
theorem getD_set_ne {α : Type} (G : List α) {i j : Nat} (v d : α) (h : i ≠ j) : (G.set i v).getD j d = G.getD j d := by
  simp [List.getD, List.getElem?_set_ne h]
theorem getD_set_eq {α : Type} (G : List α) {i : Nat} (v d : α) (h : i < G.length) : (G.set i v).getD i d = v := by
  simp [List.getD, h]
theorem getD_app_lt {α : Type} (l m : List α) (d : α) {j : Nat} (h : j < l.length) : (l ++ m).getD j d = l.getD j d := by
  simp [List.getD, List.getElem?_append_left h]
theorem getD_app_eq {α : Type} (l : List α) (a d : α) : (l ++ [a]).getD l.length d = a := by simp [List.getD]
theorem sum_set (G : List Int) {i : Nat} (v : Int) (h : i < G.length) : (G.set i v).sum = G.sum - G.getD i 0 + v := by
  induction G generalizing i with
  | nil => simp at h
  | cons a G ih =>
    cases i with
    | zero => simp [List.set]; omega
    | succ i =>
      have := ih (i := i) (by simpa using h)
      simp only [List.set_cons_succ, List.sum_cons, List.getD_cons_succ]
      omega
theorem mem_set_or {α : Type} {G : List α} {i : Nat} {v a : α} (h : a ∈ G.set i v) : a ∈ G ∨ a = v := List.mem_or_eq_of_mem_set h
theorem sum_bd {b : Int} : ∀ {l : List Int}, (∀ x ∈ l, -b ≤ x ∧ x ≤ b) → -(b * l.length) ≤ l.sum ∧ l.sum ≤ b * l.length
  | [], _ => by simp
  | a :: l, h => by
    have h1 := h a (by simp)
    have h2 := sum_bd (l := l) fun x hx => h x (by simp [hx])
    have e : b * ((a :: l).length : Int) = b * (l.length : Int) + b := by
      rw [List.length_cons, Int.natCast_add, Int.mul_add]; simp
    rw [e, List.sum_cons]
    omega
theorem take_zip_succ {α β : Type} (as : List α) (bs' : List β) (a : α) (b : β) (i : Nat) (h1 : i < as.length) (h2 : i < bs'.length) : (as.zip bs').take (i + 1) = (as.zip bs').take i ++ [(as.getD i a, bs'.getD i b)] := by
  have hz : i < (as.zip bs').length := by rw [List.length_zip]; omega
  rw [List.take_succ_eq_append_getElem hz]
  simp [List.getD, h1, h2]
theorem take_succ_getD {α : Type} (as : List α) (a : α) (i : Nat) (h1 : i < as.length) : as.take (i + 1) = as.take i ++ [as.getD i a] := by
  rw [List.take_succ_eq_append_getElem h1]
  simp [List.getD, h1]
theorem list_ext_getD {as bs' : List Int} (hl : as.length = bs'.length) (h : ∀ j, j < as.length → as.getD j 0 = bs'.getD j 0) : as = bs' := by
  apply List.ext_getElem hl
  intro i h1 h2
  have := h i h1
  simpa [List.getD, h1, h2] using this
theorem dSet_i {G : List Int} {i : Nat} {v : Int} (h : i < G.length) : dSet (.lst (G.map D.int)) (.int (i : Int)) (.int v) = some (.lst ((G.set i v).map D.int)) := by
  unfold dSet
  dsimp only
  have : ixN G.length (i : Int) = some i := by
    unfold ixN
    rw [if_pos (by omega), if_pos (by omega)]; simp
  rw [List.length_map, this, ms]
  simp
theorem ixL {G : List Int} {i : Nat} (h : i < G.length) : dIxL (.lst (G.map D.int)) (.int (i : Int)) = some (.int (G.getD i 0)) := by
  have := ixmD (f := D.int) (xs := G) (i := i) 0 h
  rw [dIx_lst] at this
  exact this
theorem dGetO_i {G : List Int} {i : Nat} (h : i < G.length) : dGetO (.lst (G.map D.int)) (.int (i : Int)) = some (.int (G.getD i 0)) := by
  have := ixmD (f := D.int) (xs := G) (i := i) 0 h
  rw [dIx_lst] at this
  exact this
theorem zip_idx {α β : Type} {f : α → D} {g : β → D} (a : α) (b : β) {as : List α} {bs' : List β} (h : as.length = bs'.length) : (as.map f).zip (bs'.map g) = (List.range as.length).map fun i => (f (as.getD i a), g (bs'.getD i b)) := by
  apply List.ext_getElem
  · simp [h]
  · intro i h1 h2
    simp at h1
    have h0 : i < as.length := by omega
    have h3 : i < bs'.length := by omega
    have e1 : as.getD i a = as[i] := by simp [List.getD, h0]
    have e2 : bs'.getD i b = bs'[i] := by simp [List.getD, h3]
    simp only [List.getElem_zip, List.getElem_map, List.getElem_range, e1, e2]
/-! loops without a bound: a state that falls -/
/-- while: an invariant that falls, until the test fails or the body hands back -/
theorem whileO_run {β γ : Type} {c : β → Option Bool} {f : β → Option (Out β β)} (I : β → Prop) (μ : β → Nat) (R : Out β γ → Prop)
    (hs : ∀ b, I b → (c b = some false ∧ R (.nx b)) ∨ (c b = some true ∧ ((∃ b', f b = some (.nx b') ∧ I b' ∧ μ b' < μ b) ∨ ∃ d ms, f b = some (.rt d ms) ∧ R (.rt d ms)))) :
    ∀ b, I b → ∃ o, whileO c f b = some o ∧ R o := by
  have key : ∀ (k : Nat) (b : β), μ b < k → I b → ∃ n o, whileN c f n b = some o ∧ R o := by
    intro k
    induction k with
    | zero => intro b h; omega
    | succ k ih =>
      intro b hb hi
      rcases hs b hi with ⟨h1, h2⟩ | ⟨h1, h2⟩
      · exact ⟨1, .nx b, by unfold whileN; rw [h1, bs]; rfl, h2⟩
      · rcases h2 with ⟨b', e1, e2, e3⟩ | ⟨d, ms, e1, e2⟩
        · obtain ⟨n, o, e4, e5⟩ := ih b' (by omega) e2
          exact ⟨n + 1, o, by unfold whileN; rw [h1, bs]; simp only [if_true]; rw [e1, bs]; exact e4, e5⟩
        · exact ⟨1, .rt d ms, by unfold whileN; rw [h1, bs]; simp only [if_true]; rw [e1, bs], e2⟩
  intro b hi
  obtain ⟨n, o, h1, h2⟩ := key (μ b + 1) b (Nat.lt_succ_self _) hi
  exact ⟨o, whileO_of h1, h2⟩
end Mi
namespace Mi
open PySem L2
theorem flat_ints (ns : List Int) : (ns.map D.int).all flat = true := by simp [flat]
theorem dListS_i (ns : List Int) : dListS (.lst (ns.map D.int)) = some (.lst (ns.map D.int)) := if_pos (flat_ints ns)
theorem dListS_t (ns : List Int) : dListS (.tup (ns.map D.int)) = some (.lst (ns.map D.int)) := if_pos (flat_ints ns)
theorem dList_i (ns : List Int) : dList (.lst (ns.map D.int)) = some (.lst (ns.map D.int)) := id rfl
end Mi
namespace Mi
open PySem L2
theorem foldO_enc {β ι γ α : Type} {f : β → ι → Option β} {g : α → ι} {e : γ → β} {s : γ → α → γ} : ∀ (l : List α) (b : γ), (∀ z ∈ l, ∀ b, f (e b) (g z) = some (e (s b z))) → foldO f (l.map g) (e b) = some (e (l.foldl s b))
  | [], b, _ => rfl
  | z :: l, b, h => by
    rw [List.map_cons, foldO_cons]
    show (f (e b) (g z)).bind _ = _
    rw [h z (by simp) b, bs]
    exact foldO_enc l (s b z) fun y hy => h y (by simp [hy])
theorem zip_range {α β : Type} (a : α) (b : β) (as : List α) (bs' : List β) (h : as.length = bs'.length) : as.zip bs' = (List.range as.length).map fun j => (as.getD j a, bs'.getD j b) := by
  apply List.ext_getElem
  · simp [h]
  · intro i h1 h2
    simp at h1
    have h0 : i < as.length := by omega
    have h3 : i < bs'.length := by omega
    have e1 : as.getD i a = as[i] := by simp [List.getD, h0]
    have e2 : bs'.getD i b = bs'[i] := by simp [List.getD, h3]
    simp only [List.getElem_zip, List.getElem_map, List.getElem_range, e1, e2]
theorem self_range {α : Type} (a : α) (as : List α) : as = (List.range as.length).map fun j => as.getD j a := by
  apply List.ext_getElem
  · simp
  · intro i h1 h2
    simp [List.getD, h1]
theorem sorted_eq : ∀ {a b : List Nat}, a.Pairwise (· < ·) → b.Pairwise (· < ·) → (∀ x, x ∈ a ↔ x ∈ b) → a = b
  | [], [], _, _, _ => rfl
  | [], y :: b, _, _, h => by
    have := (h y).mpr (by simp)
    cases this
  | x :: a, [], _, _, h => by
    have := (h x).mp (by simp)
    cases this
  | x :: a, y :: b, ha, hb, h => by
    rw [List.pairwise_cons] at ha hb
    have hx := (h x).mp (by simp)
    have hy := (h y).mpr (by simp)
    have e : x = y := by
      rcases List.mem_cons.mp hx with z | z
      · exact z
      · rcases List.mem_cons.mp hy with w | w
        · exact w.symm
        · have := hb.1 x z
          have := ha.1 y w
          omega
    subst e
    rw [sorted_eq ha.2 hb.2 fun z => ?_]
    constructor
    · intro hz
      have := (h z).mp (by simp [hz])
      rcases List.mem_cons.mp this with w | w
      · have := ha.1 z hz; omega
      · exact w
    · intro hz
      have := (h z).mpr (by simp [hz])
      rcases List.mem_cons.mp this with w | w
      · have := hb.1 z hz; omega
      · exact w
theorem up_sortN {K : List Nat} (h : K.Pairwise (· < ·)) : sortI (K.map fun (k : Nat) => (k : Int)) = K.map fun (k : Nat) => (k : Int) := by
  refine (sortI_of (List.Perm.refl _) ?_).symm
  rw [List.pairwise_map]
  exact h.imp fun {a b} h => by omega
theorem sortN (K : List Nat) : ∃ K' : List Nat, sortI (K.map fun (k : Nat) => (k : Int)) = K'.map (fun (k : Nat) => (k : Int)) ∧ K'.Perm K ∧ K'.Pairwise (· ≤ ·) := by
  have hp := sortI_perm (K.map fun (k : Nat) => (k : Int))
  have hu := sortI_up (K.map fun (k : Nat) => (k : Int))
  have hn : ∀ x ∈ sortI (K.map fun (k : Nat) => (k : Int)), 0 ≤ x := fun x hx => by
    have := hp.mem_iff.mp hx
    obtain ⟨k, _, rfl⟩ := List.mem_map.mp this
    omega
  refine ⟨(sortI (K.map fun (k : Nat) => (k : Int))).map Int.toNat, ?_, ?_, ?_⟩
  · rw [List.map_map]
    have : ∀ x ∈ sortI (K.map fun (k : Nat) => (k : Int)), ((fun (k : Nat) => (k : Int)) ∘ Int.toNat) x = id x := fun x hx => by
      have := hn x hx
      show ((x.toNat : Nat) : Int) = x
      omega
    rw [List.map_congr_left this, List.map_id]
  · have := hp.map Int.toNat
    rw [List.map_map] at this
    have e : (Int.toNat ∘ fun (k : Nat) => (k : Int)) = id := by funext k; show ((k : Int)).toNat = k; omega
    rwa [e, List.map_id] at this
  · rw [List.pairwise_map]
    exact hu.imp fun {a b} h => by omega
/-- a tuple, a list of places -/
def tupN (K : List Nat) : D := .tup (K.map fun (k : Nat) => D.int (k : Int))
def lstN (K : List Nat) : D := .lst (K.map fun (k : Nat) => D.int (k : Int))
theorem mapN (K : List Nat) : (K.map fun (k : Nat) => D.int (k : Int)) = (K.map fun (k : Nat) => (k : Int)).map D.int := by simp [Function.comp_def]
theorem dIn_N {a : Nat} {K : List Nat} : dIn (.int (a : Int)) (tupN K) = some (.bl (decide (a ∈ K))) := by
  unfold tupN
  rw [mapN, dIn_intsT]
  congr 3
  apply propext
  rw [List.mem_map]
  constructor
  · rintro ⟨b, h, e⟩
    have : b = a := by omega
    exact this ▸ h
  · intro h; exact ⟨a, h, rfl⟩
theorem dIn_NL {a : Nat} {K : List Nat} : dIn (.int (a : Int)) (lstN K) = some (.bl (decide (a ∈ K))) := by
  unfold lstN
  rw [mapN, dIn_ints]
  congr 3
  apply propext
  rw [List.mem_map]
  constructor
  · rintro ⟨b, h, e⟩
    have : b = a := by omega
    exact this ▸ h
  · intro h; exact ⟨a, h, rfl⟩
theorem mapN_inj {a b : List Nat} (h : a.map (fun (k : Nat) => (k : Int)) = b.map (fun (k : Nat) => (k : Int))) : a = b := by
  have := congrArg (List.map Int.toNat) h
  rw [List.map_map, List.map_map] at this
  have e : (Int.toNat ∘ fun (k : Nat) => (k : Int)) = id := by funext k; show ((k : Int)).toNat = k; omega
  rwa [e, List.map_id, List.map_id] at this
theorem dEq_NL (a b : List Nat) : dEq (lstN a) (lstN b) = some (.bl (decide (a = b))) := by
  unfold lstN
  rw [mapN, mapN, dEq_li]
  congr 3
  exact propext ⟨mapN_inj, fun h => by rw [h]⟩
theorem dNe_NL (a b : List Nat) : dNe (lstN a) (lstN b) = some (.bl (!decide (a = b))) := by
  unfold lstN
  rw [mapN, mapN, dNe_li]
  congr 4
  exact propext ⟨mapN_inj, fun h => by rw [h]⟩
theorem dSorted_N {K : List Nat} (h : K.Pairwise (· < ·)) : dSorted (tupN K) = some (lstN K) := by
  show (dInts (tupN K)).map _ = _
  unfold tupN dInts
  dsimp only
  rw [mapN, asInts_map, ms, up_sortN h, ← mapN]
  rfl
end Mi
/-! xs.index(x), flat -/
namespace Mi
open PySem L2
open PyProof.Rows
section
variable {T : Th} {Γ : Ctx} {md : Md} {ta tb : TE} {ma mb : Option D}
def dIdx : D → D → Option D
  | .lst ds, y => if flat y = true ∧ ds.all flat = true then (ds.findIdx? fun e => eqF e y).map (fun j => D.int (j : Nat)) else none
  | _, _ => none
theorem ev_index (ha : Ev T .h ta Γ ma) (hb : Ev T .h tb Γ mb) : Ev T md (tBM T.K "list" (rIndex T.K) ta (tCons tb tNil)) Γ (o2 dIdx ma mb) := fun Z F H σ ok d hd Q q => by
  obtain ⟨x, y, e1, e2, e3⟩ := o2_inv hd
  cases x <;> simp only [dIdx] at e3 <;> try (cases e3; done)
  rename_i ds
  split at e3
  · rename_i hf
    obtain ⟨j, hj, rfl⟩ := Option.map_eq_some_iff.mp e3
    obtain ⟨hjl, hp, hno⟩ := List.findIdx?_eq_some_iff_getElem.mp hj
    refine ha Z F H σ ok _ e1 _ fun v F2 H2 g1 r1 => ?_
    obtain ⟨p, vs, rfl, hv, rr⟩ := rep_lst_inv r1
    refine ⟨tyV_lst hv, hb Z F2 H2 σ (ok.grow g1) y e2 _ fun w F3 H3 g2 r2 => ?_⟩
    obtain ⟨p', vs', hpe, hv', rr'⟩ := rep_lst_inv (r1.mono g2.h)
    cases hpe
    obtain ⟨z, hz, rz⟩ := rr'.get (show ds[j]? = some ds[j] by simp [hjl])
    refine ⟨p, vs', w, j, z, rfl, rfl, SqL.of hv', flat_V hf.1 r2, all_V hf.2 rr', hz, ?_, fun m z' hm hz' => ?_, q _ F3 H3 (g1.trans g2) (by simp only [Rep])⟩
    · rw [eqF_V (List.all_eq_true.mp hf.2 _ (List.getElem_mem hjl)) hf.1 rz r2]
      exact hp
    · have hml : m < ds.length := by omega
      obtain ⟨z2, hz2, rz2⟩ := rr'.get (show ds[m]? = some ds[m] by simp [hml])
      rw [hz'] at hz2
      cases hz2
      rw [eqF_V (List.all_eq_true.mp hf.2 _ (List.getElem_mem hml)) hf.1 rz2 r2]
      simpa using hno m hm
  · cases e3
end
end Mi
/-! what the defs compute -/
namespace Mi
open PySem L2
def m_law_draw_L1 (x_cell : D) (x_bounds : D) (x_b3 : D × D) (x_d5 : D) : Option (D × D) :=
  (((o1 tru (o2 dGe (some x_cell) (o2 dPow (some (.int 10)) (some (.int 18))))).bind fun c => if c = true then
  (((o2 dMod (c1 dInt (some x_b3.1)) (o2 dIx (some x_bounds) (some x_d5))).bind fun e => dApp x_b3.2 e).bind fun x_found7 =>
  ((o2 dDiv (some x_b3.1) (o2 dIx (some x_bounds) (some x_d5))).bind fun x_rest8 =>
  (some (x_rest8, x_found7))))
  else
  ((o2 dMod (c1 dInt (o2 dAdd (o2 dAdd (o2 dMul (o2 dMod (c1 dInt (some x_cell)) (some (.int 1000003))) (some (.int 48271))) (o2 dMul (some x_d5) (some (.int 69621)))) (some (.int 11)))) (some (.int 2147483647))).bind fun x_mixed9 =>
  ((o2 dMod (c1 dInt (o2 dAdd (o2 dMul (some x_mixed9) (some (.int 16807))) (some x_d5))) (some (.int 2147483647))).bind fun x_mixed10 =>
  (((o2 dMod (c1 dInt (o2 dDiv (some x_mixed10) (some (.int 7)))) (o2 dIx (some x_bounds) (some x_d5))).bind fun e => dApp x_b3.2 e).bind fun x_found11 =>
  (some (x_b3.1, x_found11)))))).bind fun (x_j6 : D × D) =>
  (some (x_j6.1, x_j6.2)))
def m_law_draw (x_cell x_bounds : D) : Option D :=
  ((o1 dLst (some [])).bind fun x_found1 =>
  ((o2 dSub (some x_cell) (o2 dPow (some (.int 10)) (some (.int 18)))).bind fun x_rest2 =>
  (((o1 dRange1 (oCons (c1 dLen (some x_bounds)) (some []))).bind fun ds => foldO (m_law_draw_L1 x_cell x_bounds) ds (x_rest2, x_found1)).bind fun (x_b3 : D × D) =>
  (some x_b3.2))))
def m_law_cell (x_script x_k : D) : Option D :=
  ((o1 tru (o2 dLt (some x_k) (c1 dLen (some x_script)))).bind fun c => if c = true then
  (o2 dIx (some x_script) (some x_k))
  else
  (some (.int 0)))
def m_law_ducts_L1 (x_rooms : D) (x_most : D) (x_b3 : D) (x_d5 : D) : Option (D) :=
  ((o2 dAdd (some x_b3) (o1 dLst (oCons (some (.int 840)) (oCons (o2 dMul (some (.int 2)) (o2 dSub (some x_rooms) (some (.int 1)))) (oCons (some x_most) (some [])))))).bind fun x_bounds6 =>
  (some x_bounds6))
def m_law_ducts_L2 (x_draws7 : D) (x_rooms : D) (x_joined : D) (x_b8 : D) (x_d10 : D) : Option (D) :=
  ((o2 dMod (c1 dInt (o2 dIx (some x_draws7) (o2 dMul (some (.int 3)) (some x_d10)))) (some x_rooms)).bind fun x_first11 =>
  ((o2 dMod (c1 dInt (o2 dAdd (o2 dAdd (some x_first11) (some (.int 1))) (o2 dDiv (o2 dIx (some x_draws7) (o2 dAdd (o2 dMul (some (.int 3)) (some x_d10)) (some (.int 1)))) (some (.int 2))))) (some x_rooms)).bind fun x_second12 =>
  (((o1 tru (o2 dLt (some x_d10) (some x_joined))).bind fun c => if c = true then
  ((o2 dAdd (some x_d10) (some (.int 1))).bind fun x_first14 =>
  ((o2 dMod (c1 dInt (o2 dIx (some x_draws7) (o2 dMul (some (.int 3)) (some x_d10)))) (o2 dAdd (some x_d10) (some (.int 1)))).bind fun x_second15 =>
  (((o1 tru (o2 dEq (o2 dMod (c1 dInt (o2 dIx (some x_draws7) (o2 dAdd (o2 dMul (some (.int 3)) (some x_d10)) (some (.int 1))))) (some (.int 2))) (some (.int 1)))).bind fun c => if c = true then
  ((some x_second15).bind fun x_first17 =>
  ((o2 dAdd (some x_d10) (some (.int 1))).bind fun x_second18 =>
  (some (x_first17, x_second18))))
  else
  (some (x_first14, x_second15))).bind fun (x_j16 : D × D) =>
  (some (x_j16.1, x_j16.2)))))
  else
  (some (x_first11, x_second12))).bind fun (x_j13 : D × D) =>
  (((o1 dTup (oCons (some x_j13.1) (oCons (some x_j13.2) (oCons (o2 dAdd (o2 dIx (some x_draws7) (o2 dAdd (o2 dMul (some (.int 3)) (some x_d10)) (some (.int 2)))) (some (.int 1))) (some []))))).bind fun e => dApp x_b8 e).bind fun x_ducts19 =>
  (some x_ducts19)))))
def m_law_ducts (x_cell x_rooms x_joined x_extra x_most : D) : Option D :=
  ((o1 dLst (some [])).bind fun x_ducts1 =>
  ((o1 tru (o2 dEq (some x_rooms) (some (.int 1)))).bind fun c => if c = true then
  (some x_ducts1)
  else
  ((o1 dLst (some [])).bind fun x_bounds2 =>
  (((o1 dRange1 (oCons (o2 dAdd (some x_joined) (some x_extra)) (some []))).bind fun ds => foldO (m_law_ducts_L1 x_rooms x_most) ds x_bounds2).bind fun (x_b3 : D) =>
  ((c2 m_law_draw (some x_cell) (some x_b3)).bind fun x_draws7 =>
  (((o1 dRange1 (oCons (o2 dAdd (some x_joined) (some x_extra)) (some []))).bind fun ds => foldO (m_law_ducts_L2 x_draws7 x_rooms x_joined) ds x_ducts1).bind fun (x_b8 : D) =>
  (some x_b8)))))))
def m_law_plan (x_script x_at x_most_rooms x_most_extra x_most_width : D) : Option D :=
  ((c2 m_law_draw (c2 m_law_cell (some x_script) (some x_at)) (o1 dLst (oCons (some x_most_rooms) (oCons (o2 dAdd (some x_most_extra) (some (.int 1))) (oCons (some (.int 4)) (some [])))))).bind fun x_head1 =>
  ((o2 dAdd (o2 dIx (some x_head1) (some (.int 0))) (some (.int 1))).bind fun x_rooms2 =>
  ((o2 dSub (some x_rooms2) (some (.int 1))).bind fun x_joined3 =>
  (((o1 tru (o2 dEq (o2 dIx (some x_head1) (some (.int 2))) (some (.int 3)))).bind fun c => if c = true then
  ((some (.int 0)).bind fun x_joined5 =>
  (some x_joined5))
  else
  (some x_joined3)).bind fun (x_j4 : D) =>
  (o1 dLst (oCons (some x_rooms2) (oCons (c5 m_law_ducts (c2 m_law_cell (some x_script) (o2 dAdd (some x_at) (some (.int 1)))) (some x_rooms2) (some x_j4) (o2 dIx (some x_head1) (some (.int 1))) (some x_most_width)) (some []))))))))
def m_require (x_holds x_name : D) : Option D :=
  ((oNot (o1 tru (some x_holds))).bind fun c => if c = true then
  none
  else
  (some .non))
def m_width_table_C1 (x_d1 : D) : Option (Option D) :=
  ((c1 dTuple (some x_d1)).map some)
def m_width_table_G (x_dss : List (List D)) (x y z : D) : Option (List (List D)) := (some x).bind fun a => (some y).bind fun b => (some z).bind fun c => (dNest x_dss a b c).bind fun d1 => (some y).bind fun a => (some x).bind fun b => (some z).bind fun c => (dNest d1 a b c).bind fun d2 => some d2
def m_width_table (x_rooms x_ducts : D) : Option D :=
  ((dGrid x_rooms).bind fun g => ((o1 dItems (some x_ducts)).bind fun ds => foldO (fun dss d => un3 d (m_width_table_G dss)) ds g).bind fun x_dss => (c1 dTuple ((o1 dItems (some (.lst (x_dss.map D.lst)))).bind fun ds => dComp m_width_table_C1 ds)))
def m_is_integer (x_value : D) : Option D :=
  (oAndV (o1 (dIsi "int") (some x_value)) (dBl (oNot (o1 tru (o1 (dIsi "bool") (some x_value))))))
def m_is_between (x_value x_least x_most : D) : Option D :=
  (oAndV (c1 m_is_integer (some x_value)) (oChain dLe dLe (some x_least) (some x_value) (some x_most)))
def m_is_table_L1 (x_least : D) (x_most : D) (x_b1 : Unit) (x_d3 : D) : Option (Out (Unit) (Unit)) :=
  ((oNot (o1 tru (c3 m_is_between (some x_d3) (some x_least) (some x_most)))).bind fun c => if c = true then
  ((some (.bl false)).bind fun d => some (.rt d []))
  else
  (some (.nx ())))
def m_is_table (x_value x_size x_least x_most : D) : Option D :=
  ((oOr (oNot (o1 tru (o1 (dIsi2 "list" "tuple") (some x_value)))) (o1 tru (o2 dNe (c1 dLen (some x_value)) (some x_size)))).bind fun c => if c = true then
  (some (.bl false))
  else
  (((o1 dItems (some x_value)).bind fun ds => loopO (m_is_table_L1 x_least x_most) ds ()).bind fun (o : Out (Unit) (Empty)) => o.thnD fun x_b1 =>
  (some (.bl true))))
def m_are_ducts_L1 (x_rooms : D) (x_b1 : Unit) (x_d3 : D) : Option (Out (Unit) (Unit)) :=
  ((oNot (o1 tru (c4 m_is_table (some x_d3) (some (.int 3)) (some (.int 0)) (some (.int 8))))).bind fun c => if c = true then
  ((some (.bl false)).bind fun d => some (.rt d []))
  else
  ((some x_d3).bind fun x_t4 =>
  (un3 x_t4 fun x_first5 x_second6 x_width7 => ((oOr (o1 tru (o2 dGe (some x_first5) (some x_rooms))) (oOr (o1 tru (o2 dGe (some x_second6) (some x_rooms))) (o1 tru (o2 dEq (some x_first5) (some x_second6))))).bind fun c => if c = true then
  ((some (.bl false)).bind fun d => some (.rt d []))
  else
  ((oNot (o1 tru (oChain dLe dLe (some (.int 1)) (some x_width7) (some (.int 6))))).bind fun c => if c = true then
  ((some (.bl false)).bind fun d => some (.rt d []))
  else
  (some (.nx ())))))))
def m_are_ducts (x_value x_rooms : D) : Option D :=
  ((oOr (oNot (o1 tru (o1 (dIsi2 "list" "tuple") (some x_value)))) (o1 tru (o2 dGt (c1 dLen (some x_value)) (some (.int 16))))).bind fun c => if c = true then
  (some (.bl false))
  else
  (((o1 dItems (some x_value)).bind fun ds => loopO (m_are_ducts_L1 x_rooms) ds ()).bind fun (o : Out (Unit) (Empty)) => o.thnD fun x_b1 =>
  (some (.bl true))))
def m_Building_init_C1 (x_d2 : D) : Option (Option D) :=
  ((c1 dTuple (some x_d2)).map some)
def m_Building_init (x_self x_rooms x_ducts : D) : Option UR :=
  ((c2 m_require (c3 m_is_between (some x_rooms) (some (.int 1)) (some (.int 8))) (some (.str "rooms"))).bind fun _ =>
  ((c2 m_require (c2 m_are_ducts (some x_ducts) (some x_rooms)) (some (.str "ducts"))).bind fun _ =>
  (((some x_rooms).bind fun e => dSetF "Building" "rooms" x_self e).bind fun x_self1 =>
  (((c1 dTuple ((o1 dItems (some x_ducts)).bind fun ds => dComp m_Building_init_C1 ds)).bind fun e => dSetF "Building" "ducts" x_self1 e).bind fun x_self3 =>
  (((c2 m_width_table (o1 (dFld "Building" "rooms") (some x_self3)) (o1 (dFld "Building" "ducts") (some x_self3))).bind fun e => dSetF "Building" "_widths" x_self3 e).bind fun x_self4 =>
  (some (.non, [(0, x_self4)])))))))
def m_law_intakes_L1 (x_ducts : D) (x_air : D) (x_b2 : D) (x_d4 : D) : Option (D) :=
  (((o2 dAdd (o2 dIxL (some x_b2) (o2 dIx (o2 dIx (some x_ducts) (some x_d4)) (some (.int 1)))) (o2 dIx (some x_air) (some x_d4))).bind fun e => (o2 dIx (o2 dIx (some x_ducts) (some x_d4)) (some (.int 1))).bind fun k => dSet x_b2 k e).bind fun x_found5 =>
  (((o2 dSub (o2 dAdd (o2 dIx (some x_found5) (o2 dIx (o2 dIx (some x_ducts) (some x_d4)) (some (.int 0)))) (o2 dIx (o2 dIx (some x_ducts) (some x_d4)) (some (.int 2)))) (o2 dIx (some x_air) (some x_d4))).bind fun e => (o2 dIx (o2 dIx (some x_ducts) (some x_d4)) (some (.int 0))).bind fun k => dSet x_found5 k e).bind fun x_found6 =>
  (some x_found6)))
def m_law_intakes (x_rooms x_ducts x_air : D) : Option D :=
  ((o2 dMulL (o1 dLst (oCons (some (.int 0)) (some []))) (some x_rooms)).bind fun x_found1 =>
  (((o1 dRange1 (oCons (c1 dLen (some x_ducts)) (some []))).bind fun ds => foldO (m_law_intakes_L1 x_ducts x_air) ds x_found1).bind fun (x_b2 : D) =>
  (some x_b2)))
def m_law_asked (x_script x_rooms x_found : D) : Option D :=
  ((o1 dList (some x_found)).bind fun x_asked1 =>
  ((c2 m_law_draw (c2 m_law_cell (some x_script) (some (.int 3))) (o1 dLst (oCons (some (.int 2)) (oCons (some x_rooms) (oCons (some x_rooms) (oCons (some (.int 3)) (some []))))))).bind fun x_draws2 =>
  (((o1 tru (o2 dEq (o2 dIx (some x_draws2) (some (.int 0))) (some (.int 1)))).bind fun c => if c = true then
  (((o2 dSub (o2 dSub (o2 dIx (some x_asked1) (o2 dIx (some x_draws2) (some (.int 1)))) (o2 dIx (some x_draws2) (some (.int 3)))) (some (.int 1))).bind fun e => (o2 dIx (some x_draws2) (some (.int 1))).bind fun k => dSet x_asked1 k e).bind fun x_asked4 =>
  (((o2 dAdd (o2 dAdd (o2 dIxL (some x_asked4) (o2 dIx (some x_draws2) (some (.int 2)))) (o2 dIx (some x_draws2) (some (.int 3)))) (some (.int 1))).bind fun e => (o2 dIx (some x_draws2) (some (.int 2))).bind fun k => dSet x_asked4 k e).bind fun x_asked5 =>
  (some x_asked5)))
  else
  (some x_asked1)).bind fun (x_j3 : D) =>
  (some x_j3))))
def m_require_building (x_building : D) : Option D :=
  ((c2 m_require (o1 (dIsiC "Building") (some x_building)) (some (.str "building"))).bind fun _ =>
  (some .non))
def m_are_bounds_L1 (x_b1 : Unit) (x_d3 : D) : Option (Out (Unit) (Unit)) :=
  ((oOr (oNot (o1 tru (c4 m_is_table (some x_d3) (some (.int 2)) (o1 dNeg (some (.int 12))) (some (.int 12))))) (o1 tru (o2 dGt (o2 dIx (some x_d3) (some (.int 0))) (o2 dIx (some x_d3) (some (.int 1)))))).bind fun c => if c = true then
  ((some (.bl false)).bind fun d => some (.rt d []))
  else
  (some (.nx ())))
def m_are_bounds (x_building x_value : D) : Option D :=
  ((oOr (oNot (o1 tru (o1 (dIsi2 "list" "tuple") (some x_value)))) (o1 tru (o2 dNe (c1 dLen (some x_value)) (c1 dLen (o1 (dFld "Building" "ducts") (some x_building)))))).bind fun c => if c = true then
  (some (.bl false))
  else
  (((o1 dItems (some x_value)).bind fun ds => loopO m_are_bounds_L1 ds ()).bind fun (o : Out (Unit) (Empty)) => o.thnD fun x_b1 =>
  (some (.bl true))))
def m_require_bounds_streams (x_building x_bounds : D) : Option D :=
  ((c2 m_require (c2 m_are_bounds (some x_building) (some x_bounds)) (some (.str "bounds"))).bind fun _ =>
  (some .non))
def m_require_needs (x_building x_needs : D) : Option D :=
  ((c2 m_require (c4 m_is_table (some x_needs) (o1 (dFld "Building" "rooms") (some x_building)) (o1 dNeg (some (.int 200))) (some (.int 200))) (some (.str "needs"))).bind fun _ =>
  (some .non))
def m_is_paper (x_value x_kind x_size : D) : Option D :=
  ((oOr (oNot (o1 tru (o1 (dIsi "tuple") (some x_value)))) (o1 tru (o2 dNe (c1 dLen (some x_value)) (some x_size)))).bind fun c => if c = true then
  (some (.bl false))
  else
  (oAndV (o1 (dIsi "str") (o2 dIx (some x_value) (some (.int 0)))) (o2 dEq (o2 dIx (some x_value) (some (.int 0))) (some x_kind))))
def m_range_of_gain_L1 (x_rooms : D) (x_b3 : D × D) (de : D × D) : Option (D × D) :=
  (un3 de.1 fun x_first13 x_second14 x_width15 => un2 de.2 fun x_low16 x_high17 => (((oAnd (o1 tru (o2 dIn (some x_second14) (some x_rooms))) (o1 tru (o2 dNotIn (some x_first13) (some x_rooms)))).bind fun c => if c = true then
  ((o2 dAddI (some x_b3.1) (some x_low16)).bind fun x_least19 =>
  ((o2 dAddI (some x_b3.2) (some x_high17)).bind fun x_most20 =>
  (some (x_least19, x_most20))))
  else
  (((oAnd (o1 tru (o2 dIn (some x_first13) (some x_rooms))) (o1 tru (o2 dNotIn (some x_second14) (some x_rooms)))).bind fun c => if c = true then
  ((o2 dSub (some x_b3.1) (some x_high17)).bind fun x_least22 =>
  ((o2 dSub (some x_b3.2) (some x_low16)).bind fun x_most23 =>
  (some (x_least22, x_most23))))
  else
  (some (x_b3.1, x_b3.2))).bind fun (x_j21 : D × D) =>
  (some (x_j21.1, x_j21.2)))).bind fun (x_j18 : D × D) =>
  (some (x_j18.1, x_j18.2))))
def m_range_of_gain (x_building x_bounds x_rooms : D) : Option D :=
  ((some (.int 0)).bind fun x_least1 =>
  ((some (.int 0)).bind fun x_most2 =>
  (((o2 (fun x y => some (x.zip y)) (o1 dSeq (o1 (dFld "Building" "ducts") (some x_building))) (o1 dSeq (some x_bounds))).bind fun ds => foldO (m_range_of_gain_L1 x_rooms) ds (x_least1, x_most2)).bind fun (x_b3 : D × D) =>
  (o1 dTup (oCons (some x_b3.1) (oCons (some x_b3.2) (some [])))))))
def m_are_places_L1 (x_count : D) (x_b2 : D) (x_d4 : D) : Option (Out (D) (D)) :=
  ((oOr (oNot (o1 tru (c3 m_is_between (some x_d4) (some (.int 0)) (o2 dSub (some x_count) (some (.int 1)))))) (o1 tru (o2 dIn (some x_d4) (some x_b2)))).bind fun c => if c = true then
  ((some (.bl false)).bind fun d => some (.rt d []))
  else
  (((some (.bl true)).bind fun e => (some x_d4).bind fun k => dSet x_b2 k e).bind fun x_seen5 =>
  (some (.nx x_seen5))))
def m_are_places (x_value x_count : D) : Option D :=
  ((oNot (o1 tru (o1 (dIsi2 "list" "tuple") (some x_value)))).bind fun c => if c = true then
  (some (.bl false))
  else
  ((some (.dic [] [])).bind fun x_seen1 =>
  (((o1 dItems (some x_value)).bind fun ds => loopO (m_are_places_L1 x_count) ds x_seen1).bind fun (o : Out (D) (Empty)) => o.thnD fun x_b2 =>
  (some (.bl true)))))
def m_is_place_set (x_value x_count : D) : Option D :=
  (oAndV (o1 (dIsi "tuple") (some x_value)) (oAndV (c2 m_are_places (some x_value) (some x_count)) (o2 dEq (o1 dList (some x_value)) (c1 dSorted (some x_value)))))
def m_is_room_set (x_value x_rooms : D) : Option D :=
  (oAndV (c2 m_is_place_set (some x_value) (some x_rooms)) (o2 dGt (c1 dLen (some x_value)) (some (.int 0))))
def m_is_refused_set_C1 (x_needs : D) (x_d5 : D) : Option (Option D) :=
  ((o1 chk (o2 dIx (some x_needs) (some x_d5))).map some)
def m_is_refused_set (x_building x_bounds x_needs x_paper : D) : Option D :=
  ((oAnd (oNot (o1 tru (c3 m_is_paper (some x_paper) (some (.str "starved")) (some (.int 2))))) (oNot (o1 tru (c3 m_is_paper (some x_paper) (some (.str "flooded")) (some (.int 2)))))).bind fun c => if c = true then
  (some (.bl false))
  else
  ((oNot (o1 tru (c2 m_is_room_set (o2 dIx (some x_paper) (some (.int 1))) (o1 (dFld "Building" "rooms") (some x_building))))).bind fun c => if c = true then
  (some (.bl false))
  else
  ((c3 m_range_of_gain (some x_building) (some x_bounds) (o2 dIx (some x_paper) (some (.int 1)))).bind fun x_t1 =>
  (un2 x_t1 fun x_least2 x_most3 => ((c1 dSum ((o1 dItems (o2 dIx (some x_paper) (some (.int 1)))).bind fun ds => dComp (m_is_refused_set_C1 x_needs) ds)).bind fun x_needed4 =>
  ((o1 tru (o2 dEq (o2 dIx (some x_paper) (some (.int 0))) (some (.str "starved")))).bind fun c => if c = true then
  (o2 dGt (some x_needed4) (some x_most3))
  else
  (o2 dLt (some x_needed4) (some x_least2))))))))
def m_gain_list_L1 (x_b2 : D) (de : D × D) : Option (D) :=
  (un3 de.1 fun x_first10 x_second11 x_width12 => (((some x_first10).bind fun k => (dGetO x_b2 k).bind fun x => (some de.2).bind fun e => (dSub x e).bind fun z => dSet x_b2 k z).bind fun x_found13 =>
  (((some x_second11).bind fun k => (dGetO x_found13 k).bind fun x => (some de.2).bind fun e => (dAddI x e).bind fun z => dSet x_found13 k z).bind fun x_found14 =>
  (some x_found14))))
def m_gain_list (x_building x_stream : D) : Option D :=
  ((o2 dMulL (o1 dLst (oCons (some (.int 0)) (some []))) (o1 (dFld "Building" "rooms") (some x_building))).bind fun x_found1 =>
  (((o2 (fun x y => some (x.zip y)) (o1 dSeq (o1 (dFld "Building" "ducts") (some x_building))) (o1 dSeq (some x_stream))).bind fun ds => foldO m_gain_list_L1 ds x_found1).bind fun (x_b2 : D) =>
  (some x_b2)))
def m_fits_bounds_L1 (x_b1 : Unit) (de : D × D) : Option (Out (Unit) (Unit)) :=
  (un2 de.1 fun x_least8 x_most9 => ((oOr (oNot (o1 tru (c1 m_is_integer (some de.2)))) (oOr (o1 tru (o2 dLt (some de.2) (some x_least8))) (o1 tru (o2 dGt (some de.2) (some x_most9))))).bind fun c => if c = true then
  ((some (.bl false)).bind fun d => some (.rt d []))
  else
  (some (.nx ()))))
def m_fits_bounds (x_bounds x_value : D) : Option D :=
  ((oOr (oNot (o1 tru (o1 (dIsi2 "list" "tuple") (some x_value)))) (o1 tru (o2 dNe (c1 dLen (some x_value)) (c1 dLen (some x_bounds))))).bind fun c => if c = true then
  (some (.bl false))
  else
  (((o2 (fun x y => some (x.zip y)) (o1 dSeq (some x_bounds)) (o1 dSeq (some x_value))).bind fun ds => loopO m_fits_bounds_L1 ds ()).bind fun (o : Out (Unit) (Empty)) => o.thnD fun x_b1 =>
  (some (.bl true))))
def m_serves (x_building x_bounds x_needs x_value : D) : Option D :=
  ((oOr (oNot (o1 tru (o1 (dIsi "tuple") (some x_value)))) (oNot (o1 tru (c2 m_fits_bounds (some x_bounds) (some x_value))))).bind fun c => if c = true then
  (some (.bl false))
  else
  (o2 dEq (c2 m_gain_list (some x_building) (some x_value)) (o1 dListS (some x_needs))))
def m_shows_stream (x_building x_bounds x_needs x_paper : D) : Option D :=
  ((c1 m_require_building (some x_building)).bind fun _ =>
  ((c2 m_require_bounds_streams (some x_building) (some x_bounds)).bind fun _ =>
  ((c2 m_require_needs (some x_building) (some x_needs)).bind fun _ =>
  ((o1 tru (c3 m_is_paper (some x_paper) (some (.str "stream")) (some (.int 2)))).bind fun c => if c = true then
  (c4 m_serves (some x_building) (some x_bounds) (some x_needs) (o2 dIx (some x_paper) (some (.int 1))))
  else
  (c4 m_is_refused_set (some x_building) (some x_bounds) (some x_needs) (some x_paper))))))
def m_require_bounds_intakes (x_building x_low x_high : D) : Option D :=
  ((c2 m_require (c4 m_is_table (some x_low) (o1 (dFld "Building" "rooms") (some x_building)) (o1 dNeg (some (.int 200))) (some (.int 200))) (some (.str "low"))).bind fun _ =>
  ((c2 m_require (c4 m_is_table (some x_high) (o1 (dFld "Building" "rooms") (some x_building)) (o1 dNeg (some (.int 200))) (some (.int 200))) (some (.str "high"))).bind fun _ =>
  (some .non)))
def m_intakes_of_L1 (x_b2 : D) (de : D × D) : Option (D) :=
  (un3 de.1 fun x_first10 x_second11 x_width12 => (((some x_second11).bind fun k => (dGetO x_b2 k).bind fun x => (some de.2).bind fun e => (dAddI x e).bind fun z => dSet x_b2 k z).bind fun x_found13 =>
  (((some x_first10).bind fun k => (dGetO x_found13 k).bind fun x => (o2 dSub (some x_width12) (some de.2)).bind fun e => (dAddI x e).bind fun z => dSet x_found13 k z).bind fun x_found14 =>
  (some x_found14))))
def m_intakes_of (x_building x_air : D) : Option D :=
  ((o2 dMulL (o1 dLst (oCons (some (.int 0)) (some []))) (o1 (dFld "Building" "rooms") (some x_building))).bind fun x_found1 =>
  (((o2 (fun x y => some (x.zip y)) (o1 dSeq (o1 (dFld "Building" "ducts") (some x_building))) (o1 dSeq (some x_air))).bind fun ds => foldO m_intakes_of_L1 ds x_found1).bind fun (x_b2 : D) =>
  (c1 dTuple (some x_b2))))
noncomputable def m_search_L1 (x_air : D) (x_backward : D) (x_p4 : D × D) (x_b5 : D × D) (de : D × D) : Option (D × D) :=
  (un3 de.2 fun x_first13 x_second14 x_width15 => ((o2 dGt (o2 dIx (some x_air) (some de.1)) (some (.int 0))).bind fun x_leaves_first16 =>
  ((o2 dLt (o2 dIx (some x_air) (some de.1)) (some x_width15)).bind fun x_leaves_second17 =>
  (((o1 tru (some x_backward)).bind fun c => if c = true then
  ((o2 (fun x y => some (x, y)) (some x_leaves_second17) (some x_leaves_first16)).bind fun x_c19 =>
  (some (x_c19.1, x_c19.2)))
  else
  (some (x_leaves_first16, x_leaves_second17))).bind fun (x_j18 : D × D) =>
  (((oAnd (o1 tru (o2 dEq (some x_p4.1) (some x_first13))) (oAnd (o1 tru (some x_j18.1)) (o1 tru (o2 dNotIn (some x_second14) (some x_b5.1))))).bind fun c => if c = true then
  (((o1 dTup (oCons (some x_p4.1) (oCons (some de.1) (some [])))).bind fun e => (some x_second14).bind fun k => dSet x_b5.1 k e).bind fun x_steps21 =>
  (((some x_second14).bind fun e => dApp x_b5.2 e).bind fun x_waiting22 =>
  (some (x_steps21, x_waiting22))))
  else
  (((oAnd (o1 tru (o2 dEq (some x_p4.1) (some x_second14))) (oAnd (o1 tru (some x_j18.2)) (o1 tru (o2 dNotIn (some x_first13) (some x_b5.1))))).bind fun c => if c = true then
  (((o1 dTup (oCons (some x_p4.1) (oCons (some de.1) (some [])))).bind fun e => (some x_first13).bind fun k => dSet x_b5.1 k e).bind fun x_steps24 =>
  (((some x_first13).bind fun e => dApp x_b5.2 e).bind fun x_waiting25 =>
  (some (x_steps24, x_waiting25))))
  else
  (some (x_b5.1, x_b5.2))).bind fun (x_j23 : D × D) =>
  (some (x_j23.1, x_j23.2)))).bind fun (x_j20 : D × D) =>
  (some (x_j20.1, x_j20.2)))))))
noncomputable def m_search_T2 (x_b3 : D × D) : Option Bool :=
  (o1 tru (o2 dGt (c1 dLen (some x_b3.1)) (some (.int 0))))
noncomputable def m_search_W3 (x_building : D) (x_air : D) (x_backward : D) (x_b3 : D × D) : Option (Out (D × D) (D × D)) :=
  ((dPop x_b3.1).bind fun (x_p4 : D × D) =>
  ((((o1 dSeq (o1 (dFld "Building" "ducts") (some x_building))).map enumed).bind fun ds => foldO (m_search_L1 x_air x_backward x_p4) ds (x_b3.2, x_p4.2)).bind fun (x_b5 : D × D) =>
  (some (.nx (x_b5.2, x_b5.1)))))
noncomputable def m_search (x_building x_air x_start x_backward : D) : Option D :=
  ((o2 dDisp1 (some x_start) (some .non)).bind fun x_steps1 =>
  ((o1 dLst (oCons (some x_start) (some []))).bind fun x_waiting2 =>
  ((whileO m_search_T2 (m_search_W3 x_building x_air x_backward) (x_waiting2, x_steps1)).bind fun (o : Out (D × D) (Empty)) => o.thnD fun x_b3 =>
  (some x_b3.2))))
noncomputable def m_turn_path_T1 (x_steps : D) (x_b2 : D × D) : Option Bool :=
  (o1 tru (o2 dIsNot (o2 dIx (some x_steps) (some x_b2.1)) (some .non)))
noncomputable def m_turn_path_W2 (x_steps : D) (x_backward : D) (x_building : D) (x_b2 : D × D) : Option (Out (D × D) (D × D)) :=
  ((o2 dIx (some x_steps) (some x_b2.1)).bind fun x_t3 =>
  (un2 x_t3 fun x_before4 x_number5 => ((some x_before4).bind fun x_tail6 =>
  (((o1 tru (some x_backward)).bind fun c => if c = true then
  ((some x_b2.1).bind fun x_tail8 =>
  (some x_tail8))
  else
  (some x_tail6)).bind fun (x_j7 : D) =>
  (((o1 tru (o2 dEq (some x_j7) (o2 dIx (o2 dIx (o1 (dFld "Building" "ducts") (some x_building)) (some x_number5)) (some (.int 0))))).bind fun c => if c = true then
  (((some x_number5).bind fun k => (dGetO x_b2.2 k).bind fun x => (some (.int 1)).bind fun e => (dSub x e).bind fun z => dSet x_b2.2 k z).bind fun x_air10 =>
  (some x_air10))
  else
  (((some x_number5).bind fun k => (dGetO x_b2.2 k).bind fun x => (some (.int 1)).bind fun e => (dAddI x e).bind fun z => dSet x_b2.2 k z).bind fun x_air11 =>
  (some x_air11))).bind fun (x_j9 : D) =>
  ((some x_before4).bind fun x_room12 =>
  (some (.nx (x_room12, x_j9)))))))))
noncomputable def m_turn_path (x_building x_air x_steps x_end x_backward : D) : Option UR :=
  ((some x_end).bind fun x_room1 =>
  ((whileO (m_turn_path_T1 x_steps) (m_turn_path_W2 x_steps x_backward x_building) (x_room1, x_air)).bind fun (o : Out (D × D) (Empty)) => o.thnU fun x_b2 =>
  (some (.non, [(1, x_b2.2)]))))
noncomputable def m_lower_all_C1 (x_held2 : D) (x_high : D) (x_d4 : D) : Option (Option D) :=
  ((o1 tru (o2 dGt (o2 dIx (some x_held2) (some x_d4)) (o2 dIx (some x_high) (some x_d4)))).bind fun c => if c = true then (some x_d4).map some else some none)
noncomputable def m_lower_all_C2 (x_held2 : D) (x_high : D) (x_d7 : D) : Option (Option D) :=
  ((o1 tru (o2 dLt (o2 dIx (some x_held2) (some x_d7)) (o2 dIx (some x_high) (some x_d7)))).bind fun c => if c = true then (some x_d7).map some else some none)
noncomputable def m_lower_all_T3 (x_b1 : D) : Option Bool :=
  (o1 tru (some (.bl true)))
noncomputable def m_lower_all_W4 (x_building : D) (x_high : D) (x_b1 : D) : Option (Out (D) (D)) :=
  ((c2 m_intakes_of (some x_building) (some x_b1)).bind fun x_held2 =>
  (((o1 dRange1 (oCons (o1 (dFld "Building" "rooms") (some x_building)) (some []))).bind fun ds => dComp (m_lower_all_C1 x_held2 x_high) ds).bind fun x_over3 =>
  ((o1 tru (o2 dEq (c1 dLen (some x_over3)) (some (.int 0)))).bind fun c => if c = true then
  ((o1 dTup (some [])).bind fun d => some (.rt d [(1, x_b1)]))
  else
  ((c4 m_search (some x_building) (some x_b1) (o2 dIx (some x_over3) (some (.int 0))) (some (.bl true))).bind fun x_steps5 =>
  (((o1 dItems (c1 dSorted (some x_steps5))).bind fun ds => dComp (m_lower_all_C2 x_held2 x_high) ds).bind fun x_ends6 =>
  ((o1 tru (o2 dEq (c1 dLen (some x_ends6)) (some (.int 0)))).bind fun c => if c = true then
  ((c1 dTuple (c1 dSorted (some x_steps5))).bind fun d => some (.rt d [(1, x_b1)]))
  else
  (((oCons (some x_building) (oCons (some x_b1) (oCons (some x_steps5) (oCons (o2 dIx (some x_ends6) (some (.int 0))) (oCons (some (.bl true)) (some [])))))).bind (f5 m_turn_path)).bind (chkU [(1, 1)])).bind fun (x_o8 : UR) =>
  (some (.nx (cU x_o8 1)))))))))
noncomputable def m_lower_all (x_building x_air x_high : D) : Option UR :=
  ((whileO m_lower_all_T3 (m_lower_all_W4 x_building x_high) x_air).bind fun (o : Out (D) (Empty)) => o.thnU fun _ => none)
noncomputable def m_raise_all_C1 (x_held2 : D) (x_low : D) (x_d4 : D) : Option (Option D) :=
  ((o1 tru (o2 dLt (o2 dIx (some x_held2) (some x_d4)) (o2 dIx (some x_low) (some x_d4)))).bind fun c => if c = true then (some x_d4).map some else some none)
noncomputable def m_raise_all_C2 (x_held2 : D) (x_low : D) (x_d7 : D) : Option (Option D) :=
  ((o1 tru (o2 dGt (o2 dIx (some x_held2) (some x_d7)) (o2 dIx (some x_low) (some x_d7)))).bind fun c => if c = true then (some x_d7).map some else some none)
noncomputable def m_raise_all_T3 (x_b1 : D) : Option Bool :=
  (o1 tru (some (.bl true)))
noncomputable def m_raise_all_W4 (x_building : D) (x_low : D) (x_b1 : D) : Option (Out (D) (D)) :=
  ((c2 m_intakes_of (some x_building) (some x_b1)).bind fun x_held2 =>
  (((o1 dRange1 (oCons (o1 (dFld "Building" "rooms") (some x_building)) (some []))).bind fun ds => dComp (m_raise_all_C1 x_held2 x_low) ds).bind fun x_under3 =>
  ((o1 tru (o2 dEq (c1 dLen (some x_under3)) (some (.int 0)))).bind fun c => if c = true then
  ((o1 dTup (some [])).bind fun d => some (.rt d [(1, x_b1)]))
  else
  ((c4 m_search (some x_building) (some x_b1) (o2 dIx (some x_under3) (some (.int 0))) (some (.bl false))).bind fun x_steps5 =>
  (((o1 dItems (c1 dSorted (some x_steps5))).bind fun ds => dComp (m_raise_all_C2 x_held2 x_low) ds).bind fun x_ends6 =>
  ((o1 tru (o2 dEq (c1 dLen (some x_ends6)) (some (.int 0)))).bind fun c => if c = true then
  ((c1 dTuple (c1 dSorted (some x_steps5))).bind fun d => some (.rt d [(1, x_b1)]))
  else
  (((oCons (some x_building) (oCons (some x_b1) (oCons (some x_steps5) (oCons (o2 dIx (some x_ends6) (some (.int 0))) (oCons (some (.bl false)) (some [])))))).bind (f5 m_turn_path)).bind (chkU [(1, 1)])).bind fun (x_o8 : UR) =>
  (some (.nx (cU x_o8 1)))))))))
noncomputable def m_raise_all (x_building x_air x_low : D) : Option UR :=
  ((whileO m_raise_all_T3 (m_raise_all_W4 x_building x_low) x_air).bind fun (o : Out (D) (Empty)) => o.thnU fun _ => none)
noncomputable def m_hold_intakes_L1 (x_low : D) (x_high : D) (x_b1 : Unit) (x_d3 : D) : Option (Out (Unit) (Unit)) :=
  ((o1 tru (o2 dGt (o2 dIx (some x_low) (some x_d3)) (o2 dIx (some x_high) (some x_d3)))).bind fun c => if c = true then
  ((o1 dTup (oCons (some (.str "crossed")) (oCons (some x_d3) (some [])))).bind fun d => some (.rt d []))
  else
  (some (.nx ())))
noncomputable def m_hold_intakes (x_building x_low x_high : D) : Option D :=
  ((c1 m_require_building (some x_building)).bind fun _ =>
  ((c3 m_require_bounds_intakes (some x_building) (some x_low) (some x_high)).bind fun _ =>
  (((o1 dRange1 (oCons (o1 (dFld "Building" "rooms") (some x_building)) (some []))).bind fun ds => loopO (m_hold_intakes_L1 x_low x_high) ds ()).bind fun (o : Out (Unit) (Empty)) => o.thnD fun x_b1 =>
  ((o2 dMulL (o1 dLst (oCons (some (.int 0)) (some []))) (c1 dLen (o1 (dFld "Building" "ducts") (some x_building)))).bind fun x_air4 =>
  (((oCons (some x_building) (oCons (some x_air4) (oCons (some x_high) (some [])))).bind (f3 m_lower_all)).bind (chkU [(1, 4)])).bind fun (x_o5 : UR) =>
  ((o1 tru (o2 dGt (c1 dLen (some x_o5.1)) (some (.int 0)))).bind fun c => if c = true then
  (o1 dTup (oCons (some (.str "crowded")) (oCons (some x_o5.1) (some []))))
  else
  (((oCons (some x_building) (oCons (some (cU x_o5 1)) (oCons (some x_low) (some [])))).bind (f3 m_raise_all)).bind (chkU [(1, 4)])).bind fun (x_o6 : UR) =>
  ((o1 tru (o2 dGt (c1 dLen (some x_o6.1)) (some (.int 0)))).bind fun c => if c = true then
  (o1 dTup (oCons (some (.str "thirsty")) (oCons (some x_o6.1) (some []))))
  else
  (o1 dTup (oCons (some (.str "air")) (oCons (c1 dTuple (some (cU x_o6 1))) (some []))))))))))
noncomputable def m_feeders_L1 (x_p4 : D × D) (x_stream : D) (x_bounds : D) (x_b5 : D × D) (de : D × D) : Option (D × D) :=
  (un3 de.2 fun x_first13 x_second14 x_width15 => (((oAnd (o1 tru (o2 dEq (some x_second14) (some x_p4.1))) (oAnd (o1 tru (o2 dLt (o2 dIx (some x_stream) (some de.1)) (o2 dIx (o2 dIx (some x_bounds) (some de.1)) (some (.int 1))))) (o1 tru (o2 dNotIn (some x_first13) (some x_b5.1))))).bind fun c => if c = true then
  (((o1 dTup (oCons (some x_p4.1) (oCons (some de.1) (oCons (some (.int 1)) (some []))))).bind fun e => (some x_first13).bind fun k => dSet x_b5.1 k e).bind fun x_steps17 =>
  (((some x_first13).bind fun e => dApp x_b5.2 e).bind fun x_waiting18 =>
  (some (x_steps17, x_waiting18))))
  else
  (((oAnd (o1 tru (o2 dEq (some x_first13) (some x_p4.1))) (oAnd (o1 tru (o2 dGt (o2 dIx (some x_stream) (some de.1)) (o2 dIx (o2 dIx (some x_bounds) (some de.1)) (some (.int 0))))) (o1 tru (o2 dNotIn (some x_second14) (some x_b5.1))))).bind fun c => if c = true then
  (((o1 dTup (oCons (some x_p4.1) (oCons (some de.1) (oCons (o1 dNeg (some (.int 1))) (some []))))).bind fun e => (some x_second14).bind fun k => dSet x_b5.1 k e).bind fun x_steps20 =>
  (((some x_second14).bind fun e => dApp x_b5.2 e).bind fun x_waiting21 =>
  (some (x_steps20, x_waiting21))))
  else
  (some (x_b5.1, x_b5.2))).bind fun (x_j19 : D × D) =>
  (some (x_j19.1, x_j19.2)))).bind fun (x_j16 : D × D) =>
  (some (x_j16.1, x_j16.2))))
noncomputable def m_feeders_T2 (x_b3 : D × D) : Option Bool :=
  (o1 tru (o2 dGt (c1 dLen (some x_b3.1)) (some (.int 0))))
noncomputable def m_feeders_W3 (x_building : D) (x_stream : D) (x_bounds : D) (x_b3 : D × D) : Option (Out (D × D) (D × D)) :=
  ((dPop x_b3.1).bind fun (x_p4 : D × D) =>
  ((((o1 dSeq (o1 (dFld "Building" "ducts") (some x_building))).map enumed).bind fun ds => foldO (m_feeders_L1 x_p4 x_stream x_bounds) ds (x_b3.2, x_p4.2)).bind fun (x_b5 : D × D) =>
  (some (.nx (x_b5.2, x_b5.1)))))
noncomputable def m_feeders (x_building x_bounds x_stream x_room : D) : Option D :=
  ((o2 dDisp1 (some x_room) (some .non)).bind fun x_steps1 =>
  ((o1 dLst (oCons (some x_room) (some []))).bind fun x_waiting2 =>
  ((whileO m_feeders_T2 (m_feeders_W3 x_building x_stream x_bounds) (x_waiting2, x_steps1)).bind fun (o : Out (D × D) (Empty)) => o.thnD fun x_b3 =>
  (some x_b3.2))))
noncomputable def m_feed_T1 (x_steps : D) (x_b2 : D × D) : Option Bool :=
  (o1 tru (o2 dIsNot (o2 dIx (some x_steps) (some x_b2.1)) (some .non)))
noncomputable def m_feed_W2 (x_steps : D) (x_b2 : D × D) : Option (Out (D × D) (D × D)) :=
  ((o2 dIx (some x_steps) (some x_b2.1)).bind fun x_t3 =>
  (un3 x_t3 fun x_head4 x_duct5 x_sign6 => (((some x_duct5).bind fun k => (dGetO x_b2.2 k).bind fun x => (some x_sign6).bind fun e => (dAddI x e).bind fun z => dSet x_b2.2 k z).bind fun x_stream7 =>
  ((some x_head4).bind fun x_at8 =>
  (some (.nx (x_at8, x_stream7)))))))
noncomputable def m_feed (x_stream x_steps x_room : D) : Option UR :=
  ((some x_room).bind fun x_at1 =>
  ((whileO (m_feed_T1 x_steps) (m_feed_W2 x_steps) (x_at1, x_stream)).bind fun (o : Out (D × D) (Empty)) => o.thnU fun x_b2 =>
  (some (.non, [(0, x_b2.2)]))))
noncomputable def m_serve_C1 (x_d2 : D) : Option (Option D) :=
  (un2 x_d2 fun x_least3 x_most4 => ((some x_least3).map some))
noncomputable def m_serve_C2 (x_gains6 : D) (x_needs : D) (x_d8 : D) : Option (Option D) :=
  ((o1 tru (o2 dLt (o2 dIx (some x_gains6) (some x_d8)) (o2 dIx (some x_needs) (some x_d8)))).bind fun c => if c = true then (some x_d8).map some else some none)
noncomputable def m_serve_C3 (x_gains6 : D) (x_needs : D) (x_d11 : D) : Option (Option D) :=
  ((o1 tru (o2 dGt (o2 dIx (some x_gains6) (some x_d11)) (o2 dIx (some x_needs) (some x_d11)))).bind fun c => if c = true then (some x_d11).map some else some none)
noncomputable def m_serve_T4 (x_b5 : D) : Option Bool :=
  (o1 tru (some (.bl true)))
noncomputable def m_serve_W5 (x_building : D) (x_needs : D) (x_bounds : D) (x_b5 : D) : Option (Out (D) (D)) :=
  ((c2 m_gain_list (some x_building) (some x_b5)).bind fun x_gains6 =>
  (((o1 dRange1 (oCons (o1 (dFld "Building" "rooms") (some x_building)) (some []))).bind fun ds => dComp (m_serve_C2 x_gains6 x_needs) ds).bind fun x_missing7 =>
  ((o1 tru (o2 dEq (c1 dLen (some x_missing7)) (some (.int 0)))).bind fun c => if c = true then
  ((o1 dTup (oCons (some x_b5) (oCons (o1 dTup (some [])) (some [])))).bind fun d => some (.rt d []))
  else
  ((c4 m_feeders (some x_building) (some x_bounds) (some x_b5) (o2 dIx (some x_missing7) (some (.int 0)))).bind fun x_steps9 =>
  (((o1 dItems (c1 dSorted (some x_steps9))).bind fun ds => dComp (m_serve_C3 x_gains6 x_needs) ds).bind fun x_givers10 =>
  ((o1 tru (o2 dEq (c1 dLen (some x_givers10)) (some (.int 0)))).bind fun c => if c = true then
  ((o1 dTup (oCons (o1 dLst (some [])) (oCons (c1 dTuple (c1 dSorted (some x_steps9))) (some [])))).bind fun d => some (.rt d []))
  else
  (((oCons (some x_b5) (oCons (some x_steps9) (oCons (o2 dIx (some x_givers10) (some (.int 0))) (some [])))).bind (f3 m_feed)).bind (chkU [(0, 3)])).bind fun (x_o12 : UR) =>
  (some (.nx (cU x_o12 0)))))))))
noncomputable def m_serve (x_building x_bounds x_needs : D) : Option D :=
  (((o1 dItems (some x_bounds)).bind fun ds => dComp m_serve_C1 ds).bind fun x_stream1 =>
  ((whileO m_serve_T4 (m_serve_W5 x_building x_needs x_bounds) x_stream1).bind fun (o : Out (D) (Empty)) => o.thnD fun _ => none))
noncomputable def m_hold_stream (x_building x_bounds x_needs : D) : Option D :=
  ((c1 m_require_building (some x_building)).bind fun _ =>
  ((c2 m_require_bounds_streams (some x_building) (some x_bounds)).bind fun _ =>
  ((c2 m_require_needs (some x_building) (some x_needs)).bind fun _ =>
  ((o1 tru (o2 dLt (c1 dSum (some x_needs)) (some (.int 0)))).bind fun c => if c = true then
  (o1 dTup (oCons (some (.str "flooded")) (oCons ((o1 dRg ((o1 dI (o1 (dFld "Building" "rooms") (some x_building))).map fun n => (0, n))).map D.tup) (some []))))
  else
  ((c3 m_serve (some x_building) (some x_bounds) (some x_needs)).bind fun x_t1 =>
  (un2 x_t1 fun x_stream2 x_starved3 => ((o1 tru (o2 dGt (c1 dLen (some x_starved3)) (some (.int 0)))).bind fun c => if c = true then
  (o1 dTup (oCons (some (.str "starved")) (oCons (some x_starved3) (some []))))
  else
  (o1 dTup (oCons (some (.str "stream")) (oCons (c1 dTuple (some x_stream2)) (some [])))))))))))
def m_law_numbers_C1 (x_least : D) (x_d2 : D) : Option (Option D) :=
  ((o2 dAdd (some x_least) (some x_d2)).map some)
def m_law_numbers (x_cell x_count x_least x_most : D) : Option D :=
  ((o2 dMul (o1 dLst (oCons (o2 dAdd (o2 dSub (some x_most) (some x_least)) (some (.int 1))) (some []))) (some x_count)).bind fun x_bounds1 =>
  ((o1 dItems (c2 m_law_draw (some x_cell) (some x_bounds1))).bind fun ds => dComp (m_law_numbers_C1 x_least) ds))
def m_script_stream_C1 (x_script : D) (x_d1 : D) : Option (Option D) :=
  (un3 x_d1 fun x_first2 x_second3 x_width4 => ((o2 dMul (some x_width4) (o2 dSub (o2 dIx (some x_script) (some x_first2)) (o2 dIx (some x_script) (some x_second3)))).map some))
def m_script_stream (x_building x_script : D) : Option D :=
  ((c1 m_require_building (some x_building)).bind fun _ =>
  ((c2 m_require (c4 m_is_table (some x_script) (o1 (dFld "Building" "rooms") (some x_building)) (o1 dNeg (some (.int 1000000))) (some (.int 1000000))) (some (.str "script"))).bind fun _ =>
  (c1 dTuple ((o1 dItems (o1 (dFld "Building" "ducts") (some x_building))).bind fun ds => dComp (m_script_stream_C1 x_script) ds))))
def m_law_after_L1 (x_table : D) (x_d4 : D) (x_script : D) (x_b6 : D) (x_d8 : D) : Option (D) :=
  ((o2 dAdd (some x_b6) (o2 dMul (o2 dIx (o2 dIx (some x_table) (some x_d4)) (some x_d8)) (o2 dSub (o2 dIx (some x_script) (some x_d4)) (o2 dIx (some x_script) (some x_d8))))).bind fun x_lost9 =>
  (some x_lost9))
def m_law_after_L2 (x_table : D) (x_script : D) (x_load : D) (x_b2 : D) (x_d4 : D) : Option (D) :=
  ((some (.int 0)).bind fun x_lost5 =>
  (((o1 dRange1 (oCons (c1 dLen (some x_table)) (some []))).bind fun ds => foldO (m_law_after_L1 x_table x_d4 x_script) ds x_lost5).bind fun (x_b6 : D) =>
  (((o2 dSub (o2 dIx (some x_load) (some x_d4)) (some x_b6)).bind fun e => dApp x_b2 e).bind fun x_held10 =>
  (some x_held10))))
def m_law_after (x_table x_load x_script : D) : Option D :=
  ((o1 dLst (some [])).bind fun x_held1 =>
  (((o1 dRange1 (oCons (c1 dLen (some x_table)) (some []))).bind fun ds => foldO (m_law_after_L2 x_table x_script x_load) ds x_held1).bind fun (x_b2 : D) =>
  (some x_b2)))
def m_gains_of (x_building x_bounds x_stream : D) : Option D :=
  ((c1 m_require_building (some x_building)).bind fun _ =>
  ((c2 m_require_bounds_streams (some x_building) (some x_bounds)).bind fun _ =>
  ((c2 m_require (c2 m_fits_bounds (some x_bounds) (some x_stream)) (some (.str "stream"))).bind fun _ =>
  (c1 dTuple (c2 m_gain_list (some x_building) (some x_stream))))))
def m_require_load (x_building x_load x_name : D) : Option D :=
  ((c2 m_require (c4 m_is_table (some x_load) (o1 (dFld "Building" "rooms") (some x_building)) (o1 dNeg (some (.int 200))) (some (.int 200))) (some x_name)).bind fun _ =>
  (some .non))
def m_shifted_L1 (x_script : D) (x_d5 : D) (x_b8 : D) (de : D × D) : Option (D) :=
  ((o2 dAddI (some x_b8) (o2 dMul (some de.2) (o2 dSub (o2 dIx (some x_script) (some x_d5)) (o2 dIx (some x_script) (some de.1))))).bind fun x_lost13 =>
  (some x_lost13))
def m_shifted_L2 (x_script : D) (x_load : D) (x_b2 : D) (de : D × D) : Option (D) :=
  ((some (.int 0)).bind fun x_lost7 =>
  ((((o1 dSeq (some de.2)).map enumed).bind fun ds => foldO (m_shifted_L1 x_script de.1) ds x_lost7).bind fun (x_b8 : D) =>
  (((o2 dSub (o2 dIx (some x_load) (some de.1)) (some x_b8)).bind fun e => dApp x_b2 e).bind fun x_held14 =>
  (some x_held14))))
def m_shifted (x_widths x_load x_script : D) : Option D :=
  ((o1 dLst (some [])).bind fun x_held1 =>
  ((((o1 dSeq (some x_widths)).map enumed).bind fun ds => foldO (m_shifted_L2 x_script x_load) ds x_held1).bind fun (x_b2 : D) =>
  (c1 dTuple (some x_b2))))
def m_Building_width_rows (x_self : D) : Option D :=
  (o1 (dFld "Building" "_widths") (some x_self))
def m_after (x_building x_load x_script : D) : Option D :=
  ((c1 m_require_building (some x_building)).bind fun _ =>
  ((c3 m_require_load (some x_building) (some x_load) (some (.str "load"))).bind fun _ =>
  ((c2 m_require (c4 m_is_table (some x_script) (o1 (dFld "Building" "rooms") (some x_building)) (o1 dNeg (some (.int 1000000))) (some (.int 1000000))) (some (.str "script"))).bind fun _ =>
  (c3 m_shifted (o1 (f1 m_Building_width_rows) (oCons (o1 (dSelf "Building" "width_rows") (some x_building)) (some []))) (some x_load) (some x_script)))))
def m_law_ints_L1 (x_b1 : Unit) (x_d3 : D) : Option (Out (Unit) (Unit)) :=
  ((oOr (oNot (o1 tru (o1 (dIsi "int") (some x_d3)))) (o1 tru (o1 (dIsi "bool") (some x_d3)))).bind fun c => if c = true then
  ((some (.bl false)).bind fun d => some (.rt d []))
  else
  (some (.nx ())))
def m_law_ints (x_value x_size : D) : Option D :=
  ((oOr (oNot (o1 tru (o1 (dIsi "tuple") (some x_value)))) (o1 tru (o2 dNe (c1 dLen (some x_value)) (some x_size)))).bind fun c => if c = true then
  (some (.bl false))
  else
  (((o1 dItems (some x_value)).bind fun ds => loopO m_law_ints_L1 ds ()).bind fun (o : Out (Unit) (Empty)) => o.thnD fun x_b1 =>
  (some (.bl true))))
def m_law_vented_L1 (x_stream5 : D) (x_ducts : D) (x_times3 : D) (x_b6 : Unit) (x_d8 : D) : Option (Out (Unit) (Unit)) :=
  ((o1 tru (o2 dNe (o2 dIx (some x_stream5) (some x_d8)) (o2 dMul (o2 dIx (o2 dIx (some x_ducts) (some x_d8)) (some (.int 2))) (o2 dSub (o2 dIx (some x_times3) (o2 dIx (o2 dIx (some x_ducts) (some x_d8)) (some (.int 0)))) (o2 dIx (some x_times3) (o2 dIx (o2 dIx (some x_ducts) (some x_d8)) (some (.int 1)))))))).bind fun c => if c = true then
  ((some (.bl false)).bind fun d => some (.rt d []))
  else
  (some (.nx ())))
def m_law_vented_C2 (x_load2 : D) (x_gains10 : D) (x_d11 : D) : Option (Option D) :=
  ((o2 dAdd (o2 dIx (some x_load2) (some x_d11)) (o2 dIx (some x_gains10) (some x_d11))).map some)
def m_law_vented (x_script x_building x_table x_ducts : D) : Option D :=
  ((o1 (dFld "Building" "rooms") (some x_building)).bind fun x_rooms1 =>
  ((c4 m_law_numbers (c2 m_law_cell (some x_script) (some (.int 4))) (some x_rooms1) (o1 dNeg (some (.int 9))) (some (.int 9))).bind fun x_load2 =>
  ((c4 m_law_numbers (c2 m_law_cell (some x_script) (some (.int 5))) (some x_rooms1) (o1 dNeg (some (.int 2))) (some (.int 2))).bind fun x_times3 =>
  ((o1 dList (some x_times3)).bind fun x_passed4 =>
  ((c2 m_script_stream (some x_building) (some x_passed4)).bind fun x_stream5 =>
  ((oOr (o1 tru (o2 dNe (some x_passed4) (some x_times3))) (oNot (o1 tru (c2 m_law_ints (some x_stream5) (c1 dLen (some x_ducts)))))).bind fun c => if c = true then
  (some (.bl false))
  else
  (((o1 dRange1 (oCons (c1 dLen (some x_ducts)) (some []))).bind fun ds => loopO (m_law_vented_L1 x_stream5 x_ducts x_times3) ds ()).bind fun (o : Out (Unit) (Empty)) => o.thnD fun x_b6 =>
  ((c3 m_law_after (some x_table) (some x_load2) (some x_times3)).bind fun x_due9 =>
  ((c3 m_gains_of (some x_building) (o2 dMul (o1 dLst (oCons (o1 dTup (oCons (o1 dNeg (some (.int 12))) (oCons (some (.int 12)) (some [])))) (some []))) (c1 dLen (some x_ducts))) (some x_stream5)).bind fun x_gains10 =>
  ((oOr (oNot (o1 tru (c2 m_law_ints (some x_gains10) (some x_rooms1)))) (o1 tru (o2 dNe ((o1 dRange1 (oCons (some x_rooms1) (some []))).bind fun ds => dComp (m_law_vented_C2 x_load2 x_gains10) ds) (some x_due9)))).bind fun c => if c = true then
  (some (.bl false))
  else
  ((c3 m_after (some x_building) (some x_load2) (some x_times3)).bind fun x_told12 =>
  (oAndV (c2 m_law_ints (some x_told12) (some x_rooms1)) (o2 dEq (o1 dList (some x_told12)) (some x_due9))))))))))))))
def m_fits_air_L1 (x_b1 : Unit) (de : D × D) : Option (Out (Unit) (Unit)) :=
  ((oOr (oNot (o1 tru (c1 m_is_integer (some de.2)))) (oOr (o1 tru (o2 dLt (some de.2) (some (.int 0)))) (o1 tru (o2 dGt (some de.2) (o2 dIx (some de.1) (some (.int 2))))))).bind fun c => if c = true then
  ((some (.bl false)).bind fun d => some (.rt d []))
  else
  (some (.nx ())))
def m_fits_air (x_building x_value : D) : Option D :=
  ((oOr (oNot (o1 tru (o1 (dIsi2 "list" "tuple") (some x_value)))) (o1 tru (o2 dNe (c1 dLen (some x_value)) (c1 dLen (o1 (dFld "Building" "ducts") (some x_building)))))).bind fun c => if c = true then
  (some (.bl false))
  else
  (((o2 (fun x y => some (x.zip y)) (o1 dSeq (o1 (dFld "Building" "ducts") (some x_building))) (o1 dSeq (some x_value))).bind fun ds => loopO m_fits_air_L1 ds ()).bind fun (o : Out (Unit) (Empty)) => o.thnD fun x_b1 =>
  (some (.bl true))))
def m_air_holds_L1 (x_low : D) (x_high : D) (x_b1 : Unit) (de : D × D) : Option (Out (Unit) (Unit)) :=
  ((oOr (o1 tru (o2 dLt (some de.2) (o2 dIx (some x_low) (some de.1)))) (o1 tru (o2 dGt (some de.2) (o2 dIx (some x_high) (some de.1))))).bind fun c => if c = true then
  ((some (.bl false)).bind fun d => some (.rt d []))
  else
  (some (.nx ())))
def m_air_holds (x_building x_low x_high x_air : D) : Option D :=
  ((oOr (oNot (o1 tru (o1 (dIsi "tuple") (some x_air)))) (oNot (o1 tru (c2 m_fits_air (some x_building) (some x_air))))).bind fun c => if c = true then
  (some (.bl false))
  else
  ((((o1 dSeq (c2 m_intakes_of (some x_building) (some x_air))).map enumed).bind fun ds => loopO (m_air_holds_L1 x_low x_high) ds ()).bind fun (o : Out (Unit) (Empty)) => o.thnD fun x_b1 =>
  (some (.bl true))))
def m_inside_C1 (x_rooms : D) (x_d1 : D) : Option (Option D) :=
  ((oAnd (o1 tru (o2 dIn (o2 dIx (some x_d1) (some (.int 0))) (some x_rooms))) (o1 tru (o2 dIn (o2 dIx (some x_d1) (some (.int 1))) (some x_rooms)))).bind fun c => if c = true then (o2 dIx (some x_d1) (some (.int 2))).map some else some none)
def m_inside (x_building x_rooms : D) : Option D :=
  (c1 dSum ((o1 dItems (o1 (dFld "Building" "ducts") (some x_building))).bind fun ds => dComp (m_inside_C1 x_rooms) ds))
def m_touching_C1 (x_rooms : D) (x_d1 : D) : Option (Option D) :=
  ((oOr (o1 tru (o2 dIn (o2 dIx (some x_d1) (some (.int 0))) (some x_rooms))) (o1 tru (o2 dIn (o2 dIx (some x_d1) (some (.int 1))) (some x_rooms)))).bind fun c => if c = true then (o2 dIx (some x_d1) (some (.int 2))).map some else some none)
def m_touching (x_building x_rooms : D) : Option D :=
  (c1 dSum ((o1 dItems (o1 (dFld "Building" "ducts") (some x_building))).bind fun ds => dComp (m_touching_C1 x_rooms) ds))
def m_shows_intakes_C1 (x_high : D) (x_d2 : D) : Option (Option D) :=
  ((o2 dIx (some x_high) (some x_d2)).map some)
def m_shows_intakes_C2 (x_low : D) (x_d3 : D) : Option (Option D) :=
  ((o2 dIx (some x_low) (some x_d3)).map some)
def m_shows_intakes (x_building x_low x_high x_paper : D) : Option D :=
  ((c1 m_require_building (some x_building)).bind fun _ =>
  ((c3 m_require_bounds_intakes (some x_building) (some x_low) (some x_high)).bind fun _ =>
  ((o1 tru (c3 m_is_paper (some x_paper) (some (.str "air")) (some (.int 2)))).bind fun c => if c = true then
  (c4 m_air_holds (some x_building) (some x_low) (some x_high) (o2 dIx (some x_paper) (some (.int 1))))
  else
  ((o1 tru (c3 m_is_paper (some x_paper) (some (.str "crossed")) (some (.int 2)))).bind fun c => if c = true then
  ((o2 dIx (some x_paper) (some (.int 1))).bind fun x_room1 =>
  (oAndV (c3 m_is_between (some x_room1) (some (.int 0)) (o2 dSub (o1 (dFld "Building" "rooms") (some x_building)) (some (.int 1)))) (o2 dGt (o2 dIx (some x_low) (some x_room1)) (o2 dIx (some x_high) (some x_room1)))))
  else
  ((oAnd (o1 tru (c3 m_is_paper (some x_paper) (some (.str "crowded")) (some (.int 2)))) (o1 tru (c2 m_is_room_set (o2 dIx (some x_paper) (some (.int 1))) (o1 (dFld "Building" "rooms") (some x_building))))).bind fun c => if c = true then
  (o2 dGt (c2 m_inside (some x_building) (o2 dIx (some x_paper) (some (.int 1)))) (c1 dSum ((o1 dItems (o2 dIx (some x_paper) (some (.int 1)))).bind fun ds => dComp (m_shows_intakes_C1 x_high) ds)))
  else
  ((oAnd (o1 tru (c3 m_is_paper (some x_paper) (some (.str "thirsty")) (some (.int 2)))) (o1 tru (c2 m_is_room_set (o2 dIx (some x_paper) (some (.int 1))) (o1 (dFld "Building" "rooms") (some x_building))))).bind fun c => if c = true then
  (o2 dGt (c1 dSum ((o1 dItems (o2 dIx (some x_paper) (some (.int 1)))).bind fun ds => dComp (m_shows_intakes_C2 x_low) ds)) (c2 m_touching (some x_building) (o2 dIx (some x_paper) (some (.int 1)))))
  else
  (some (.bl false))))))))
def m_law_widths_A (x_rooms : D) (x_dss : List (List D)) (d : D) : Option (List (List D)) := (o2 dMulL (o1 dLst (oCons (some (.int 0)) (some []))) (some x_rooms)).bind fun e => (dAppN x_dss e).bind fun z => some z
def m_law_widths_B (x_dss : List (List D)) (d : D) : Option (List (List D)) := (o2 dIx (some d) (some (.int 0))).bind fun a => (o2 dIx (some d) (some (.int 1))).bind fun b => (o2 dIx (some d) (some (.int 2))).bind fun c => (dNest x_dss a b c).bind fun d1 => (o2 dIx (some d) (some (.int 1))).bind fun a => (o2 dIx (some d) (some (.int 0))).bind fun b => (o2 dIx (some d) (some (.int 2))).bind fun c => (dNest d1 a b c).bind fun d2 => some d2
def m_law_widths (x_rooms x_ducts : D) : Option D :=
  (((o1 dRange1 (oCons (some x_rooms) (some []))).bind fun ds => foldO (m_law_widths_A x_rooms) ds []).bind fun t0 => ((o1 dItems (some x_ducts)).bind fun ds => foldO m_law_widths_B ds t0).bind fun t1 => some (.lst (t1.map D.lst)))
def m_law_other_paper (x_paper x_tags x_others : D) : Option D :=
  ((oOr (oNot (o1 tru (o1 (dIsi "tuple") (some x_paper)))) (oOr (o1 tru (o2 dNe (c1 dLen (some x_paper)) (some (.int 2)))) (o1 tru (o2 dNotIn (o2 dIx (some x_paper) (some (.int 0))) (some x_tags))))).bind fun c => if c = true then
  (some .non)
  else
  (o1 dTup (oCons (o2 dIx (some x_others) (o2 dIdx (some x_tags) (o2 dIx (some x_paper) (some (.int 0))))) (oCons (o2 dIx (some x_paper) (some (.int 1))) (some [])))))
def m_law_air_L1 (x_value : D) (x_ducts : D) (x_b1 : Unit) (x_d3 : D) : Option (Out (Unit) (Unit)) :=
  ((oOr (o1 tru (o2 dLt (o2 dIx (some x_value) (some x_d3)) (some (.int 0)))) (o1 tru (o2 dGt (o2 dIx (some x_value) (some x_d3)) (o2 dIx (o2 dIx (some x_ducts) (some x_d3)) (some (.int 2)))))).bind fun c => if c = true then
  ((some (.bl false)).bind fun d => some (.rt d []))
  else
  (some (.nx ())))
def m_law_air (x_ducts x_value : D) : Option D :=
  ((oNot (o1 tru (c2 m_law_ints (some x_value) (c1 dLen (some x_ducts))))).bind fun c => if c = true then
  (some (.bl false))
  else
  (((o1 dRange1 (oCons (c1 dLen (some x_ducts)) (some []))).bind fun ds => loopO (m_law_air_L1 x_value x_ducts) ds ()).bind fun (o : Out (Unit) (Empty)) => o.thnD fun x_b1 =>
  (some (.bl true))))
noncomputable def m_law_C1 (x_d6 : D) : Option (Option D) :=
  ((o2 dAdd (o2 dIx (some x_d6) (some (.int 2))) (some (.int 1))).map some)
noncomputable def m_law_C2 (x_d10 : D) : Option (Option D) :=
  ((o1 dTup (oCons (some (.int 0)) (oCons (o2 dIx (some x_d10) (some (.int 2))) (some [])))).map some)
noncomputable def m_law_L3 (x_b12 : D) (x_d14 : D) : Option (D) :=
  (((o2 dSub (o2 dIx (some x_b12) (o2 dIx (some x_d14) (some (.int 0)))) (o2 dIx (some x_d14) (some (.int 2)))).bind fun e => (o2 dIx (some x_d14) (some (.int 0))).bind fun k => dSet x_b12 k e).bind fun x_needs15 =>
  (some x_needs15))
noncomputable def m_law_L4 (x_ducts3 : D) (x_rooms2 : D) (x_asked8 : D) (x_b21 : Unit) (x_d23 : D) : Option (Out (Unit) (Unit)) :=
  (((oOr (o1 tru (o2 dEq (o2 dIx (some x_d23) (some (.int 0))) (some (.str "air")))) (o1 tru (o2 dEq (o2 dIx (some x_d23) (some (.int 0))) (some (.str "stream"))))).bind fun c => if c = true then
  ((oOr (oNot (o1 tru (c2 m_law_air (some x_ducts3) (o2 dIx (some x_d23) (some (.int 1)))))) (o1 tru (o2 dNe (c3 m_law_intakes (some x_rooms2) (some x_ducts3) (o2 dIx (some x_d23) (some (.int 1)))) (some x_asked8)))).bind fun c => if c = true then
  ((some (.bl false)).bind fun d => some (.rt d []))
  else
  (some (.nx ())))
  else
  (some (.nx ()))).bind fun (o : Out (Unit) (Unit)) => o.thn fun x_j24 =>
  (some (.nx ())))
noncomputable def m_law (x_script : D) : Option D :=
  ((c5 m_law_plan (some x_script) (some (.int 0)) (some (.int 7)) (some (.int 5)) (some (.int 3))).bind fun x_plan1 =>
  ((o2 dIx (some x_plan1) (some (.int 0))).bind fun x_rooms2 =>
  ((o2 dIx (some x_plan1) (some (.int 1))).bind fun x_ducts3 =>
  (((oCons (some x_rooms2) (oCons (some x_ducts3) (some []))).bind (dMake "Building" (f3 m_Building_init))).bind fun x_building4 =>
  ((c2 m_law_draw (c2 m_law_cell (some x_script) (some (.int 2))) ((o1 dItems (some x_ducts3)).bind fun ds => dComp m_law_C1 ds)).bind fun x_air5 =>
  ((c3 m_law_intakes (some x_rooms2) (some x_ducts3) (some x_air5)).bind fun x_found7 =>
  ((c3 m_law_asked (some x_script) (some x_rooms2) (some x_found7)).bind fun x_asked8 =>
  (((o1 dItems (some x_ducts3)).bind fun ds => dComp m_law_C2 ds).bind fun x_bounds9 =>
  ((o1 dList (some x_asked8)).bind fun x_needs11 =>
  (((o1 dItems (some x_ducts3)).bind fun ds => foldO m_law_L3 ds x_needs11).bind fun (x_b12 : D) =>
  ((c4 m_shows_stream (some x_building4) (o1 dList (some x_bounds9)) (some x_b12) (o1 dTup (oCons (some (.str "stream")) (oCons (c1 dTuple (some x_air5)) (some []))))).bind fun x_told16 =>
  ((oOr (oNot (o1 tru (o1 (dIsi "bool") (some x_told16)))) (o1 tru (o2 dNe (some x_told16) (o2 dEq (some x_asked8) (some x_found7))))).bind fun c => if c = true then
  (some (.bl false))
  else
  ((c3 m_hold_intakes (some x_building4) (o1 dList (some x_asked8)) (o1 dList (some x_asked8))).bind fun x_one17 =>
  ((c3 m_hold_stream (some x_building4) (o1 dList (some x_bounds9)) (o1 dList (some x_b12))).bind fun x_two18 =>
  ((o1 dLst (oCons (some (.str "air")) (oCons (some (.str "thirsty")) (oCons (some (.str "crowded")) (some []))))).bind fun x_tags19 =>
  ((o1 dLst (oCons (some (.str "stream")) (oCons (some (.str "starved")) (oCons (some (.str "flooded")) (some []))))).bind fun x_others20 =>
  ((o1 tru (o2 dIsNot (c4 m_shows_stream (some x_building4) (o1 dList (some x_bounds9)) (some x_b12) (c3 m_law_other_paper (some x_one17) (some x_tags19) (some x_others20))) (some (.bl true)))).bind fun c => if c = true then
  (some (.bl false))
  else
  ((o1 tru (o2 dIsNot (c4 m_shows_intakes (some x_building4) (some x_asked8) (some x_asked8) (c3 m_law_other_paper (some x_two18) (some x_others20) (some x_tags19))) (some (.bl true)))).bind fun c => if c = true then
  (some (.bl false))
  else
  ((oOr (o1 tru (o2 dNe (o2 dEq (o2 dIx (some x_one17) (some (.int 0))) (some (.str "air"))) (o2 dEq (o2 dIx (some x_two18) (some (.int 0))) (some (.str "stream"))))) (oAnd (o1 tru (o2 dEq (some x_asked8) (some x_found7))) (o1 tru (o2 dNe (o2 dIx (some x_one17) (some (.int 0))) (some (.str "air")))))).bind fun c => if c = true then
  (some (.bl false))
  else
  (((o1 dItems (o1 dLst (oCons (some x_one17) (oCons (some x_two18) (some []))))).bind fun ds => loopO (m_law_L4 x_ducts3 x_rooms2 x_asked8) ds ()).bind fun (o : Out (Unit) (Empty)) => o.thnD fun x_b21 =>
  (c4 m_law_vented (some x_script) (some x_building4) (c2 m_law_widths (some x_rooms2) (some x_ducts3)) (some x_ducts3))))))))))))))))))))))
end Mi
namespace Mi
open PySem L2
/-! cells and draws -/
def cell (ns : List Int) (k : Nat) : Int := ns.getD k 0
theorem cell_ok (ns : List Int) (k : Nat) : m_law_cell (.scr ns) (.int (k : Int)) = some (.int (cell ns k)) := by
  unfold m_law_cell cell
  by_cases h : k < ns.length
  · have h' : (k : Int) < (ns.length : Int) := by omega
    simp [h', atI_at h, h]
  · have h' : ¬ (k : Int) < (ns.length : Int) := by omega
    simp [h', h]
/-- numbers below their bounds -/
def Low : List Int → List Int → Prop
  | [], [] => True
  | x :: xs, b :: bs => (0 ≤ x ∧ x < b) ∧ Low xs bs
  | _, _ => False
theorem Low.len : ∀ {xs bs : List Int}, Low xs bs → xs.length = bs.length
  | [], [], _ => rfl
  | _ :: _, _ :: _, h => by simp [Low.len h.2]
theorem Low.snoc : ∀ {xs bs : List Int} {x b : Int}, Low xs bs → 0 ≤ x → x < b → Low (xs ++ [x]) (bs ++ [b])
  | [], [], x, b, _, h1, h2 => ⟨⟨h1, h2⟩, trivial⟩
  | _ :: _, _ :: _, x, b, h, h1, h2 => ⟨h.1, h.2.snoc h1 h2⟩
theorem p18 : (10 : Int) ^ 18 = 1000000000000000000 := by simp
theorem p40 : (10 : Int) ^ 40 = 10000000000000000000000000000000000000000 := by simp
theorem ten18 : dPow (.int 10) (.int 18) = some (.int 1000000000000000000) := by
  rw [dPow_ii ⟨by omega, by omega, by omega⟩, show (18 : Int).toNat = 18 from rfl, p18]
theorem ten40 : dPow (.int 10) (.int 40) = some (.int 10000000000000000000000000000000000000000) := by
  rw [dPow_ii ⟨by omega, by omega, by omega⟩, show (40 : Int).toNat = 40 from rfl, p40]
theorem dAdd_ss {a b : Str} (h : a.length + b.length ≤ 16777216) : dAdd (.str a) (.str b) = some (.str (a ++ b)) := if_pos h
theorem dIx_str {z : Str} (h : z.length ≤ 16777216) (i : Int) : dIx (.str z) (.int i) = (atI z.cps.toList i).map chr1 := if_pos h
theorem draw_ok (c : Int) (bs : List Int) (hb : ∀ b ∈ bs, 0 < b ∧ b < 1073741824) (hl : bs.length ≤ 100000) : ∃ xs : List Int, m_law_draw (.int c) (.lst (bs.map D.int)) = some (.lst (xs.map D.int)) ∧ Low xs bs := by
  have hr : dRange1 [.int ((bs.map D.int).length : Nat)] = some (ranged 0 (bs.length : Nat)) := by rw [dRange1_s (by rw [List.length_map]; omega), List.length_map]
  have hlen : (ranged 0 (bs.length : Nat)).length = bs.length := by rw [ranged_len]; omega
  obtain ⟨b', e, r, xs, hbx, hlow⟩ := foldO_inv0 (f := m_law_draw_L1 (.int c) (.lst (bs.map D.int)))
    (fun i b => ∃ (r : Int) (xs : List Int), b = (.int r, .lst (xs.map D.int)) ∧ Low xs (bs.take i))
    (ranged 0 (bs.length : Nat)) (.int (c - 1000000000000000000), .lst []) ⟨_, [], rfl, by simp [Low]⟩ (fun i hi b ⟨r, xs, hbx, hlow⟩ => by
      subst hbx
      rw [hlen] at hi
      have e0 : (ranged 0 (bs.length : Nat))[i]'(by rw [hlen]; exact hi) = .int (i : Int) := by rw [ranged_get]; simp
      have hib : dIx (.lst (bs.map D.int)) (.int (i : Int)) = some (.int bs[i]) := by
        rw [dIx_lst, atI_at (by simpa using hi)]; simp
      obtain ⟨p1, p2⟩ := hb bs[i] (List.getElem_mem hi)
      have hxl : (xs.map D.int).length < 16777216 := by
        have := hlow.len
        rw [List.length_map]
        simp at this
        omega
      have tk : bs.take (i + 1) = bs.take i ++ [bs[i]] := by rw [List.take_succ_eq_append_getElem hi]
      have low : ∀ z : Int, Low (xs ++ [z % bs[i]]) (bs.take (i + 1)) := fun z => by
        rw [tk]
        exact hlow.snoc (Int.emod_nonneg _ (by omega)) (Int.emod_lt_of_pos _ p1)
      rw [e0]
      unfold m_law_draw_L1
      by_cases hc : (1000000000000000000 : Int) ≤ c
      · refine ⟨_, ?_, r / bs[i], xs ++ [r % bs[i]], rfl, low r⟩
        simp [ten18, hc, hib, dMod_ii p1, dApp_s hxl, dDiv_ii p1 p2]
      · refine ⟨_, ?_, r, xs ++ [((((c % 1000003 * 48271 + (i : Int) * 69621 + 11) % 2147483647) * 16807 + (i : Int)) % 2147483647) / 7 % bs[i]], rfl, low _⟩
        simp only [o2_some, ten18, dGe_ii, hc, decide_false, o1_some, tru_bl, Option.bind_some, c1_s, dInt_i, hib]
        rw [if_neg (by decide)]
        rw [dMod_ii (by decide), o2_some, dMul_r (by decide), dMul_r (by decide)]
        simp only [o2_some, dAdd_ii, c1_s, dInt_i, Option.bind_some]
        rw [dMod_ii (by decide), Option.bind_some, dMul_r (by decide)]
        simp only [o2_some, dAdd_ii, c1_s, dInt_i, Option.bind_some]
        rw [dMod_ii (by decide), Option.bind_some, dDiv_ii (by decide) (by decide)]
        simp only [o2_some, dAdd_ii, c1_s, dInt_i, Option.bind_some]
        rw [dMod_ii p1, Option.bind_some, dApp_s hxl]
        simp)
  subst hbx
  rw [hlen, List.take_length] at hlow
  refine ⟨xs, ?_, hlow⟩
  unfold m_law_draw
  rw [List.length_map] at hr
  have h0 : dLst [] = some (.lst []) := dLst_s (Nat.zero_le _)
  simp only [o1_some, h0, Option.bind_some, o2_some, ten18, dSub_ii, c1_s, dLen_lst, oCons_some, List.length_map, hr, e]
/-! the table test, twice -/
/-- it has a type -/
def ty (d : D) : Bool := (tyN d).isSome
def okI (l m : Int) : D → Bool
  | .int i => decide (l ≤ i) && decide (i ≤ m)
  | _ => false
theorem isint_ok {d : D} (h : ty d = true) : m_is_integer d = some (.bl (match d with | .int _ => true | _ => false)) := by
  cases d <;> simp [ty, tyN] at h <;> simp [m_is_integer, dIsi, tyN, known, isB, dBl]
theorem between_ok {d : D} {l m : Int} (h : ty d = true) : m_is_between d (.int l) (.int m) = some (.bl (okI l m d)) := by
  unfold m_is_between
  simp only [c1_s, isint_ok h]
  cases d <;> simp [okI]
  rename_i i
  by_cases h1 : l ≤ i <;> simp [h1]
def asSeq : D → Option (List D)
  | .lst ds => some ds
  | .tup ds => some ds
  | .scr ns => some (ns.map D.int)
  | _ => none
def tabB (d : D) (s l m : Int) : Bool := match asSeq d with
  | some ds => decide ((ds.length : Int) = s) && ds.all (okI l m)
  | none => false
theorem eqI (a b : Int) : dEq (.int a) (.int b) = some (.bl (decide (a = b))) := id rfl
theorem neI (a b : Int) : dNe (.int a) (.int b) = some (.bl (!decide (a = b))) := id rfl
theorem eqBl (a b : Bool) : dEq (.bl a) (.bl b) = some (.bl (decide (a = b))) := by cases a <;> cases b <;> rfl
/-- what is equal to itself -/
def Self (k : Nat) (d : D) : Prop := ∃ p, py d = some p ∧ p.canLay0 = true ∧ p.depth ≤ k ∧ PyData.eqv p p = true
theorem self_int (k : Nat) (a : Int) : Self k (.int a) := ⟨.int a, rfl, rfl, Nat.zero_le _, by show decide (a = a) = true; simp⟩
theorem self_bl (k : Nat) (a : Bool) : Self k (.bl a) := ⟨.bool a, rfl, rfl, Nat.zero_le _, by cases a <;> rfl⟩
theorem self_non (k : Nat) : Self k .non := ⟨.none, rfl, rfl, Nat.zero_le _, rfl⟩
theorem selfs {k : Nat} : ∀ {ds : List D}, (∀ d ∈ ds, Self k d) → ∃ ps, pys ds = some ps ∧ PyData.canLayAll0 ps = true ∧ PyData.depthAll ps ≤ k ∧ PyData.eqvAll ps ps = true
  | [], _ => ⟨[], rfl, rfl, Nat.zero_le _, rfl⟩
  | d :: ds, h => by
    obtain ⟨p, a, b, c, e⟩ := h d (by simp)
    obtain ⟨ps, a2, b2, c2, e2⟩ := selfs (ds := ds) fun x hx => h x (by simp [hx])
    refine ⟨p :: ps, by simp [pys, a, a2], by simp [PyData.canLayAll0, b, b2], by simp only [PyData.depthAll]; omega, by simp [PyData.eqvAll, e, e2]⟩
theorem self_lst {k : Nat} {ds : List D} (h : ∀ d ∈ ds, Self k d) : Self (k + 1) (.lst ds) := by
  obtain ⟨ps, a, b, c, e⟩ := selfs h
  exact ⟨.list ps, by simp [py, a], by simp only [PyData.canLay0]; exact b, by simp only [PyData.depth]; omega, by simp only [PyData.eqv]; exact e⟩
theorem self_ne {k : Nat} {d : D} (h : Self k d) (hk : k ≤ 64) : dNe d d = some (.bl false) := by
  obtain ⟨p, a, b, c, e⟩ := h
  have hs : SeqAt.shaped p = true := by unfold SeqAt.shaped; rw [b]; simp; omega
  unfold dNe dEqB
  simp [a, hs, e]
theorem table_ok {d : D} {s l m : Int} (ht : ty d = true) (hd : ∀ ds, asSeq d = some ds → (∀ e ∈ ds, ty e = true) ∧ ds.length ≤ 16777216) : m_is_table d (.int s) (.int l) (.int m) = some (.bl (tabB d s l m)) := by
  have seq : ∀ ds, asSeq d = some ds → (∀ e ∈ ds, ty e = true) ∧ ds.length ≤ 16777216 → dItems d = some ds → dLen d = some (.int ds.length) → dIsi2 "list" "tuple" d = some (.bl true) → m_is_table d (.int s) (.int l) (.int m) = some (.bl (tabB d s l m)) := fun ds hds ⟨h1, h2⟩ hi hl hty => by
    unfold m_is_table tabB
    simp only [hty, hi, hl, hds, o1_some, tru_bl, oNot_s, Bool.not_true, oOr_f, c1_s, o2_some, neI, Option.bind_some]
    by_cases hs : (ds.length : Int) = s
    · simp only [hs, decide_true, Bool.not_true, Bool.true_and]
      rw [if_neg (by decide)]
      rw [loopO_all (p := okI l m) (r := .bl false) fun e he => ?_]
      · simp only [Option.bind_some]
        cases hq : ds.all (okI l m) <;> simp [Out.thnD]
      · unfold m_is_table_L1
        simp only [c3_s, between_ok (h1 e he), o1_some, tru_bl, oNot_s, Option.bind_some]
        cases okI l m e <;> simp
    · simp [hs]
  cases d with
  | lst ds => exact seq ds rfl (hd ds rfl) rfl rfl rfl
  | tup ds => exact seq ds rfl (hd ds rfl) rfl rfl rfl
  | scr ns => exact seq (ns.map D.int) rfl (hd _ rfl) rfl (by simp) rfl
  | _ => first | (simp [m_is_table, dIsi2, tyN, known, isB, tabB, asSeq]; done) | (simp [ty, tyN] at ht)
end Mi
namespace Mi
open PySem L2
theorem low_rep : ∀ {xs : List Int} {n : Nat} {b : Int}, Low xs (List.replicate n b) → ∀ x ∈ xs, 0 ≤ x ∧ x < b
  | [], _, _, _, x, hx => by cases hx
  | y :: ys, 0, b, h, x, hx => by cases h
  | y :: ys, n + 1, b, h, x, hx => by
    rw [List.replicate_succ] at h
    obtain ⟨h1, h2⟩ := h
    rcases List.mem_cons.mp hx with z | z
    · rw [z]; exact h1
    · exact low_rep h2 x z
theorem rep_ok {b n : Int} (h0 : 0 ≤ n) (hn : n ≤ 100000) : dMul (.lst [.int b]) (.int n) = some (.lst ((List.replicate n.toNat b).map D.int)) := by
  have : (List.replicate n.toNat [D.int b]).flatten = (List.replicate n.toNat b).map D.int := by
    rw [List.map_replicate, List.flatten_replicate_singleton]
  rw [← this]
  exact if_pos ⟨by omega, by omega, by simp; omega⟩
theorem numbers_ok (c n l m : Int) (h0 : 0 ≤ n) (hn : n ≤ 1000) (hlm : l ≤ m) (hm : m - l < 1000000) : ∃ xs : List Int, m_law_numbers (.int c) (.int n) (.int l) (.int m) = some (.lst (xs.map D.int)) ∧ xs.length = n.toNat ∧ ∀ x ∈ xs, l ≤ x ∧ x ≤ m := by
  obtain ⟨vs, hd, hl⟩ := draw_ok c (List.replicate n.toNat (m - l + 1)) (by intro b hb; rw [List.mem_replicate] at hb; omega) (by rw [List.length_replicate]; omega)
  have hvl : vs.length = n.toNat := by rw [hl.len, List.length_replicate]
  refine ⟨vs.map fun v => l + v, ?_, by rw [List.length_map, hvl], fun x hx => ?_⟩
  · unfold m_law_numbers
    have k3 : ∀ d : D, dLst [d] = some (.lst [d]) := fun d => dLst_s (by simp)
    have e1 : (o2 dMul (o1 dLst (oCons (o2 dAdd (o2 dSub (some (.int m)) (some (.int l))) (some (.int 1))) (some []))) (some (.int n))) = some (.lst ((List.replicate n.toNat (m - l + 1)).map D.int)) := by
      rw [o2_some, dSub_ii, o2_some, dAdd_ii, oCons_some, o1_some, k3, o2_some]
      exact rep_ok h0 (by omega)
    rw [e1, Option.bind_some, c2_s, hd, o1_some, dItems_lst, Option.bind_some]
    rw [dComp_map (g := fun d => match d with | .int v => .int (l + v) | _ => .non) (by rw [List.length_map]; omega)]
    · simp [List.map_map, Function.comp_def]
    · intro d hd
      obtain ⟨v, _, rfl⟩ := List.mem_map.mp hd
      unfold m_law_numbers_C1
      simp
  · obtain ⟨v, hv, rfl⟩ := List.mem_map.mp hx
    have := low_rep hl v hv
    omega
/-- a duct that a building takes -/
def DuctOk (n : Int) (d : D) : Prop := ∃ a b w : Int, d = .tup [.int a, .int b, .int w] ∧ 0 ≤ a ∧ a < n ∧ 0 ≤ b ∧ b < n ∧ a ≠ b ∧ 1 ≤ w ∧ w ≤ 6
theorem ducts_ok {ds : List D} {n : Int} (hn : n ≤ 8) (hl : ds.length ≤ 16) (h : ∀ d ∈ ds, DuctOk n d) : m_are_ducts (.lst ds) (.int n) = some (.bl true) := by
  unfold m_are_ducts
  have hty : dIsi2 "list" "tuple" (.lst ds) = some (.bl true) := rfl
  have hl' : ¬ (16 : Int) < (ds.length : Int) := by omega
  simp only [hty, o1_some, tru_bl, oNot_s, Bool.not_true, oOr_f, c1_s, dLen_lst, o2_some, dGt_ii, hl', decide_false, Option.bind_some, Bool.false_eq_true, if_false, dItems_lst]
  rw [loopO_all (p := fun _ => true) (r := .non) fun d hd => ?_]
  · simp [Out.thnD]
  · obtain ⟨a, b, w, rfl, h1, h2, h3, h4, h5, h6, h7⟩ := h d hd
    unfold m_are_ducts_L1
    have ht := table_ok (d := .tup [.int a, .int b, .int w]) (s := 3) (l := 0) (m := 8) rfl (fun es he => by
      simp [asSeq] at he; subst he
      exact ⟨fun e he => by simp at he; rcases he with z | z | z <;> subst z <;> rfl, by simp⟩)
    have hb : tabB (.tup [.int a, .int b, .int w]) 3 0 8 = true := by
      simp [tabB, asSeq, okI]; omega
    rw [hb] at ht
    have n1 : ¬ n ≤ a := by omega
    have n2 : ¬ n ≤ b := by omega
    simp only [c4_s, ht, o1_some, tru_bl, oNot_s, Bool.not_true, Option.bind_some, Bool.false_eq_true, if_false, un3_t, o2_some, dGe_ii, n1, n2, decide_false, oOr_f, eqI, h5, oChain_s, dLe_ii, h6, h7, decide_true, if_true]
end Mi
namespace Mi
open PySem L2
/-! tables of numbers -/
def up (G : List (List Int)) : List (List D) := G.map fun r => r.map D.int
def bump (G : List (List Int)) (a b : Nat) (w : Int) : List (List Int) := G.modify a fun r => r.modify b fun x => x + w
def Sq (n : Nat) (G : List (List Int)) : Prop := G.length = n ∧ ∀ r ∈ G, r.length = n
theorem Sq.bump {n : Nat} {G : List (List Int)} (h : Sq n G) (a b : Nat) (w : Int) : Sq n (bump G a b w) := by
  refine ⟨by simp [Mi.bump, h.1], fun r hr => ?_⟩
  obtain ⟨k, hk, hkr⟩ := List.getElem_of_mem hr
  unfold Mi.bump at hkr hk
  rw [List.getElem_modify] at hkr
  have hl : k < G.length := by simpa using hk
  split at hkr
  · rw [← hkr, List.length_modify]; exact h.2 _ (List.getElem_mem hl)
  · rw [← hkr]; exact h.2 _ (List.getElem_mem hl)
theorem ixN_nat {n a : Nat} (h : a < n) : ixN n (a : Int) = some a := by
  unfold ixN
  rw [if_pos (by omega), if_pos (by omega)]; simp
theorem nest_ok {n : Nat} {G : List (List Int)} (h : Sq n G) {a b : Nat} (ha : a < n) (hb : b < n) (w : Int) : dNest (up G) (.int (a : Int)) (.int (b : Int)) (.int w) = some (up (bump G a b w)) := by
  have hal : a < G.length := by rw [h.1]; exact ha
  have hrl : G[a].length = n := h.2 _ (List.getElem_mem hal)
  have hbl : b < G[a].length := by rw [hrl]; exact hb
  have e1 : (up G).length = n := by simp [up, h.1]
  have e2 : (up G)[a]? = some (G[a].map D.int) := by simp [up, hal]
  have e3 : (G[a].map D.int)[b]? = some (.int G[a][b]) := by simp [hbl]
  show (ixN (up G).length (a : Int)).bind _ = _
  rw [e1, ixN_nat ha, Option.bind_some, e2, Option.bind_some, List.length_map, hrl, ixN_nat hb, Option.bind_some, e3, Option.bind_some]
  show some _ = some _
  congr 1
  apply List.ext_getElem
  · simp [up, bump]
  · intro k h1 h2
    simp only [up, bump, List.getElem_set, List.getElem_map, List.getElem_modify]
    by_cases hk : a = k
    · subst hk
      simp only [if_true]
      apply List.ext_getElem
      · simp
      · intro j j1 j2
        simp only [List.getElem_set, List.getElem_map, List.getElem_modify]
        by_cases hj : b = j
        · subst hj; simp
        · simp [hj]
    · simp [hk]
def dct (x : Nat × Nat × Int) : D := .tup [.int (x.1 : Int), .int (x.2.1 : Int), .int x.2.2]
def step2 (G : List (List Int)) (x : Nat × Nat × Int) : List (List Int) := bump (bump G x.1 x.2.1 x.2.2) x.2.1 x.1 x.2.2
theorem fold_ok {n : Nat} : ∀ {xs : List (Nat × Nat × Int)} {G : List (List Int)}, Sq n G → (∀ x ∈ xs, x.1 < n ∧ x.2.1 < n) → foldO (fun dss d => un3 d (m_width_table_G dss)) (xs.map dct) (up G) = some (up (xs.foldl step2 G)) ∧ Sq n (xs.foldl step2 G)
  | [], G, h, _ => ⟨rfl, h⟩
  | x :: xs, G, h, hx => by
    obtain ⟨h1, h2⟩ := hx x (by simp)
    have q1 := nest_ok h h1 h2 x.2.2
    have s1 := h.bump x.1 x.2.1 x.2.2
    have q2 := nest_ok s1 h2 h1 x.2.2
    have s2 := s1.bump x.2.1 x.1 x.2.2
    obtain ⟨e, f⟩ := fold_ok (xs := xs) s2 fun y hy => hx y (by simp [hy])
    refine ⟨?_, f⟩
    rw [List.map_cons, foldO_cons]
    have e1 : un3 (dct x) (m_width_table_G (up G)) = some (up (step2 G x)) := by
      show m_width_table_G (up G) _ _ _ = _
      unfold m_width_table_G
      rw [Option.bind_some, Option.bind_some, Option.bind_some, q1, Option.bind_some, Option.bind_some, Option.bind_some, Option.bind_some, q2, Option.bind_some]
      rfl
    rw [e1, Option.bind_some]
    exact e
def wid (n : Nat) (xs : List (Nat × Nat × Int)) : List (List Int) := xs.foldl step2 (List.replicate n (List.replicate n 0))
theorem sq0 (n : Nat) : Sq n (List.replicate n (List.replicate n 0)) := ⟨by simp, fun r hr => by rw [(List.mem_replicate.mp hr).2]; simp⟩
theorem wid_sq {n : Nat} {xs : List (Nat × Nat × Int)} (hx : ∀ x ∈ xs, x.1 < n ∧ x.2.1 < n) : Sq n (wid n xs) := (fold_ok (sq0 n) hx).2
theorem width_ok {n : Nat} {xs : List (Nat × Nat × Int)} (hn : n ≤ 1000) (hx : ∀ x ∈ xs, x.1 < n ∧ x.2.1 < n) : m_width_table (.int (n : Int)) (.tup (xs.map dct)) = some (.tup ((wid n xs).map fun r => .tup (r.map D.int))) := by
  unfold m_width_table
  have g : dGrid (.int (n : Int)) = some (up (List.replicate n (List.replicate n 0))) := by
    show (if _ then _ else _) = _
    rw [if_pos ⟨by omega, by omega⟩]
    simp [up]
  obtain ⟨e, f⟩ := fold_ok (sq0 n) hx
  rw [g, Option.bind_some, o1_some, dItems_tup, Option.bind_some, e, Option.bind_some, o1_some, dItems_lst, Option.bind_some]
  rw [dComp_map (g := fun d => match d with | .lst r => .tup r | _ => .non) (by rw [List.length_map]; simp only [up, List.length_map]; have := f.1; omega)]
  · rw [c1_s]
    show some _ = some _
    simp [up, wid, List.map_map, Function.comp_def]
  · intro d hd
    obtain ⟨r, _, rfl⟩ := List.mem_map.mp hd
    rfl
def bld (n : Nat) (xs : List (Nat × Nat × Int)) : D := .obj "Building" ["rooms", "ducts", "_widths"] [.int (n : Int), .tup (xs.map dct), .tup ((wid n xs).map fun r => .tup (r.map D.int))]
theorem rd_ : ¬ (("rooms" : Str) = "ducts") := by decide +kernel
theorem rw_ : ¬ (("rooms" : Str) = "_widths") := by decide +kernel
theorem dw_ : ¬ (("ducts" : Str) = "_widths") := by decide +kernel
theorem dSetF_s {c f : Str} {ns : List Str} {ds : List D} {e : D} (h1 : ns.length = ds.length) (h2 : ns.length < 1000) : dSetF c f (.obj c ns ds) e = some (.obj c (putKD ns ds f e).1 (putKD ns ds f e).2) := if_pos ⟨rfl, h1, h2⟩
theorem dFld_s {c f : Str} {ns : List Str} {ds : List D} : dFld c f (.obj c ns ds) = look ns ds f := if_pos rfl
theorem set1 (a : D) : dSetF "Building" "rooms" (.obj "Building" [] []) a = some (.obj "Building" ["rooms"] [a]) := by
  rw [dSetF_s rfl (by decide)]
  rfl
theorem set2 (a b : D) : dSetF "Building" "ducts" (.obj "Building" ["rooms"] [a]) b = some (.obj "Building" ["rooms", "ducts"] [a, b]) := by
  rw [dSetF_s rfl (by decide)]
  simp [putKD, rd_]
theorem set3 (a b c : D) : dSetF "Building" "_widths" (.obj "Building" ["rooms", "ducts"] [a, b]) c = some (.obj "Building" ["rooms", "ducts", "_widths"] [a, b, c]) := by
  rw [dSetF_s rfl (by decide)]
  simp [putKD, rw_, dw_]
theorem fld1 (a : D) (ns : List Str) (ds : List D) : dFld "Building" "rooms" (.obj "Building" ("rooms" :: ns) (a :: ds)) = some a := by
  rw [dFld_s]
  simp [look]
theorem fld2 (a b : D) (ns : List Str) (ds : List D) : dFld "Building" "ducts" (.obj "Building" ("rooms" :: "ducts" :: ns) (a :: b :: ds)) = some b := by
  rw [dFld_s]
  simp [look, rd_]
theorem fld3 (a b c : D) : dFld "Building" "_widths" (.obj "Building" ["rooms", "ducts", "_widths"] [a, b, c]) = some c := by
  rw [dFld_s]
  simp [look, rw_, dw_]
def DOk (n : Nat) (x : Nat × Nat × Int) : Prop := x.1 < n ∧ x.2.1 < n ∧ x.1 ≠ x.2.1 ∧ 1 ≤ x.2.2 ∧ x.2.2 ≤ 6
theorem building_ok {n : Nat} {xs : List (Nat × Nat × Int)} (h1 : 1 ≤ n) (h8 : n ≤ 8) (hl : xs.length ≤ 16) (hx : ∀ x ∈ xs, DOk n x) : dMake "Building" (f3 m_Building_init) [.int (n : Int), .lst (xs.map dct)] = some (bld n xs) := by
  have hb : m_is_between (.int (n : Int)) (.int 1) (.int 8) = some (.bl true) := by
    rw [between_ok rfl]
    have : okI 1 8 (.int (n : Int)) = true := by simp [okI]; omega
    rw [this]
  have hd : m_are_ducts (.lst (xs.map dct)) (.int (n : Int)) = some (.bl true) := ducts_ok (by omega) (by rw [List.length_map]; exact hl) fun d hd => by
    obtain ⟨x, hm, rfl⟩ := List.mem_map.mp hd
    obtain ⟨a1, a2, a3, a4, a5⟩ := hx x hm
    exact ⟨_, _, _, rfl, by omega, by omega, by omega, by omega, by omega, a4, a5⟩
  have req : ∀ s : Str, m_require (.bl true) (.str s) = some .non := fun s => rfl
  have hc : dComp m_Building_init_C1 (xs.map dct) = some (.lst (xs.map dct)) := by
    rw [dComp_map (g := id) (by rw [List.length_map]; omega)]
    · simp
    · intro d hd
      obtain ⟨x, _, rfl⟩ := List.mem_map.mp hd
      rfl
  have hw := width_ok (n := n) (xs := xs) (by omega) fun x hm => ⟨(hx x hm).1, (hx x hm).2.1⟩
  have hi : m_Building_init (.obj "Building" [] []) (.int (n : Int)) (.lst (xs.map dct)) = some (.non, [(0, bld n xs)]) := by
    unfold m_Building_init
    rw [c3_s, hb, c2_s, req, Option.bind_some, c2_s, hd, c2_s, req, Option.bind_some, Option.bind_some, set1, Option.bind_some, o1_some, dItems_lst, Option.bind_some, hc, c1_s]
    rw [show dTuple (.lst (xs.map dct)) = some (.tup (xs.map dct)) from rfl, Option.bind_some, set2, Option.bind_some, o1_some, fld1, o1_some, fld2, c2_s, hw, Option.bind_some, set3, Option.bind_some]
    rfl
  unfold dMake
  rw [f3_s, hi, Option.bind_some]
  rfl
end Mi
namespace Mi
open PySem L2
/-! the bounds of the ducts' draws -/
def bnds (n m : Int) : Nat → List Int
  | 0 => []
  | k + 1 => bnds n m k ++ [840, 2 * (n - 1), m]
theorem bnds_len (n m : Int) : ∀ k, (bnds n m k).length = 3 * k
  | 0 => rfl
  | k + 1 => by simp [bnds, bnds_len n m k]; omega
theorem bnds_mem {n m : Int} (hn : 2 ≤ n ∧ n ≤ 1000) (hm : 1 ≤ m ∧ m ≤ 1000) : ∀ (k : Nat), ∀ b ∈ bnds n m k, 0 < b ∧ b < 1073741824
  | 0, b, hb => by cases hb
  | k + 1, b, hb => by
    rcases List.mem_append.mp hb with z | z
    · exact bnds_mem hn hm k b z
    · simp only [List.mem_cons, List.not_mem_nil, or_false] at z
      rcases z with z | z | z <;> subst z <;> omega
theorem bounds_ok (n m : Int) (k : Nat) (hk : k ≤ 1000) : foldO (m_law_ducts_L1 (.int n) (.int m)) (ranged 0 (k : Int)) (.lst []) = some (.lst ((bnds n m k).map D.int)) := by
  have hlen : (ranged 0 (k : Int)).length = k := by rw [ranged_len]; omega
  obtain ⟨b', e, hb⟩ := foldO_inv0 (f := m_law_ducts_L1 (.int n) (.int m)) (fun i b => b = .lst ((bnds n m i).map D.int)) (ranged 0 (k : Int)) (.lst []) rfl (fun i hi b hb => by
    subst hb
    rw [hlen] at hi
    refine ⟨_, ?_, rfl⟩
    unfold m_law_ducts_L1
    have k5 : ∀ d e f : D, dLst [d, e, f] = some (.lst [d, e, f]) := fun d e f => dLst_s (by simp)
    rw [o2_some, dSub_ii, o2_some, dMul_l (by decide), oCons_some, oCons_some, oCons_some, o1_some, k5, o2_some]
    have ad : dAdd (.lst ((bnds n m i).map D.int)) (.lst [.int 840, .int (2 * (n - 1)), .int m]) = some (.lst ((bnds n m (i + 1)).map D.int)) := by
      refine (if_pos ?_).trans ?_
      · rw [List.length_map, bnds_len]; simp; omega
      · simp [bnds]
    rw [ad, Option.bind_some])
  rw [e, hb, hlen]
theorem Low.at : ∀ {xs bs : List Int} (h : Low xs bs) (j : Nat) (b : Int), bs[j]? = some b → ∃ x, xs[j]? = some x ∧ 0 ≤ x ∧ x < b
  | [], [], _, j, b, hb => by simp at hb
  | x :: xs, c :: bs, h, 0, b, hb => by
    simp at hb; subst hb
    exact ⟨x, rfl, h.1.1, h.1.2⟩
  | x :: xs, c :: bs, h, j + 1, b, hb => by
    simpa using Low.at h.2 j b (by simpa using hb)
theorem bnds_at (n m : Int) : ∀ (k i : Nat), i < k → (bnds n m k)[3 * i]? = some 840 ∧ (bnds n m k)[3 * i + 1]? = some (2 * (n - 1)) ∧ (bnds n m k)[3 * i + 2]? = some m
  | 0, i, h => by omega
  | k + 1, i, h => by
    by_cases hi : i < k
    · obtain ⟨a, b, c⟩ := bnds_at n m k i hi
      have hl := bnds_len n m k
      unfold bnds
      rw [List.getElem?_append_left (by omega), List.getElem?_append_left (by omega), List.getElem?_append_left (by omega)]
      exact ⟨a, b, c⟩
    · have e : i = k := by omega
      subst e
      have hl := bnds_len n m i
      unfold bnds
      rw [List.getElem?_append_right (by omega), List.getElem?_append_right (by omega), List.getElem?_append_right (by omega), hl]
      refine ⟨?_, ?_, ?_⟩
      · rw [show 3 * i - 3 * i = 0 by omega]; rfl
      · rw [show 3 * i + 1 - 3 * i = 1 by omega]; rfl
      · rw [show 3 * i + 2 - 3 * i = 2 by omega]; rfl
theorem draws_at {xs : List Int} {n m : Int} {k i : Nat} (h : Low xs (bnds n m k)) (hi : i < k) : ∃ p q r : Int, dIx (.lst (xs.map D.int)) (.int (3 * (i : Int))) = some (.int p) ∧ dIx (.lst (xs.map D.int)) (.int (3 * (i : Int) + 1)) = some (.int q) ∧ dIx (.lst (xs.map D.int)) (.int (3 * (i : Int) + 2)) = some (.int r) ∧ (0 ≤ p ∧ p < 840) ∧ (0 ≤ q ∧ q < 2 * (n - 1)) ∧ 0 ≤ r ∧ r < m := by
  obtain ⟨a, b, c⟩ := bnds_at n m k i hi
  obtain ⟨p, p1, p2⟩ := h.at _ _ a
  obtain ⟨q, q1, q2⟩ := h.at _ _ b
  obtain ⟨r, r1, r2⟩ := h.at _ _ c
  have f : ∀ (j : Nat) (x : Int), xs[j]? = some x → dIx (.lst (xs.map D.int)) (.int (j : Int)) = some (.int x) := fun j x hx => by
    rw [dIx_lst]
    exact atI_nat (by simp [hx])
  refine ⟨p, q, r, ?_, ?_, ?_, p2, q2, r2⟩
  · exact f (3 * i) p p1
  · exact f (3 * i + 1) q q1
  · exact f (3 * i + 2) r r1
theorem mkduct (a b : Nat) (w : Int) : o1 dTup (oCons (some (.int (a : Int))) (oCons (some (.int (b : Int))) (oCons (some (.int w)) (some [])))) = some (dct (a, b, w)) := by
  rw [oCons_some, oCons_some, oCons_some, o1_some, dTup_s (by simp)]; rfl
def DOkM (m : Int) (N : Nat) (x : Nat × Nat × Int) : Prop := DOk N x ∧ x.2.2 ≤ m
theorem duct_step {xs : List Int} {N : Nat} {m : Int} {k i : Nat} {j : Int} {ds : List D} (hN : 2 ≤ N ∧ N ≤ 8) (hj : j ≤ (N : Int) - 1) (hm : m ≤ 6) (h : Low xs (bnds (N : Int) m k)) (hi : i < k) (hl : ds.length < 1000) (hik : i < 1000) :
    ∃ x : Nat × Nat × Int, m_law_ducts_L2 (.lst (xs.map D.int)) (.int (N : Int)) (.int j) (.lst ds) (.int (i : Int)) = some (.lst (ds ++ [dct x])) ∧ DOkM m N x := by
  obtain ⟨p, q, r, hp, hq, hr, ⟨p1, p2⟩, ⟨q1, q2⟩, r1, r2⟩ := draws_at h hi
  have np : (0 : Int) < (N : Int) := by omega
  have i1 : (0 : Int) < (i : Int) + 1 := by omega
  have e3 : dMul (.int 3) (.int (i : Int)) = some (.int (3 * (i : Int))) := dMul_l (by decide)
  have fin : ∀ (a b : Nat), DOk N (a, b, r + 1) → ∃ x : Nat × Nat × Int, ((o1 dTup (oCons (some (.int (a : Int))) (oCons (some (.int (b : Int))) (oCons (some (.int (r + 1))) (some []))))).bind fun e => dApp (.lst ds) e) = some (.lst (ds ++ [dct x])) ∧ DOkM m N x := fun a b hab => ⟨(a, b, r + 1), by rw [mkduct, Option.bind_some, dApp_s (by omega)], hab, by show r + 1 ≤ m; omega⟩
  have q3 : 0 ≤ q / 2 ∧ q / 2 < (N : Int) - 1 := ⟨by omega, by omega⟩
  unfold m_law_ducts_L2
  simp only [o2_some, e3, hp, c1_s, dInt_i, dMod_ii np, Option.bind_some, dAdd_ii, hq, hr, dDiv_ii (show (0:Int) < 2 by decide) (show (2:Int) < 1073741824 by decide), dLt_ii, o1_some, tru_bl, dMod_ii i1, dMod_ii (show (0:Int) < 2 by decide), eqI]
  obtain ⟨a, ha⟩ : ∃ a : Nat, p % ((i : Int) + 1) = (a : Int) := ⟨_, (Int.toNat_of_nonneg (Int.emod_nonneg _ (by omega))).symm⟩
  have ha1 : p % ((i : Int) + 1) < (i : Int) + 1 := Int.emod_lt_of_pos _ i1
  obtain ⟨f, hf⟩ : ∃ f : Nat, p % (N : Int) = (f : Int) := ⟨_, (Int.toNat_of_nonneg (Int.emod_nonneg _ (by omega))).symm⟩
  have hf1 : p % (N : Int) < (N : Int) := Int.emod_lt_of_pos _ np
  obtain ⟨g, hg⟩ : ∃ g : Nat, (p % (N : Int) + 1 + q / 2) % (N : Int) = (g : Int) := ⟨_, (Int.toNat_of_nonneg (Int.emod_nonneg _ (by omega))).symm⟩
  have hg1 : (p % (N : Int) + 1 + q / 2) % (N : Int) < (N : Int) := Int.emod_lt_of_pos _ np
  have hne : g ≠ f := fun e => by
    by_cases hlt : p % (N : Int) + 1 + q / 2 < (N : Int)
    · rw [Int.emod_eq_of_lt (by omega) hlt] at hg
      omega
    · have e2 : p % (N : Int) + 1 + q / 2 = (p % (N : Int) + 1 + q / 2 - N) + N := by omega
      rw [e2, Int.add_emod_right, Int.emod_eq_of_lt (by omega) (by omega)] at hg
      omega
  have hi1 : ((i : Int) + 1) = ((i + 1 : Nat) : Int) := by omega
  by_cases hij : (i : Int) < j
  · by_cases hq2 : q % 2 = 1
    · simp only [hij, hq2, decide_true, if_true, Option.bind_some, ha]
      simp only [hi1]
      obtain ⟨x, e1, e2⟩ := fin a (i + 1) ⟨by (try dsimp only); omega, by (try dsimp only); omega, by (try dsimp only); omega, by (try dsimp only); omega, by (try dsimp only); omega⟩
      exact ⟨x, by rw [e1, Option.bind_some], e2⟩
    · simp only [hij, hq2, decide_true, decide_false, if_true, Bool.false_eq_true, if_false, Option.bind_some, ha]
      simp only [hi1]
      obtain ⟨x, e1, e2⟩ := fin (i + 1) a ⟨by (try dsimp only); omega, by (try dsimp only); omega, by (try dsimp only); omega, by (try dsimp only); omega, by (try dsimp only); omega⟩
      exact ⟨x, by rw [e1, Option.bind_some], e2⟩
  · rw [hg, hf]
    simp only [hij, decide_false, Bool.false_eq_true, if_false, Option.bind_some]
    obtain ⟨x, e1, e2⟩ := fin f g ⟨by (try dsimp only); omega, by (try dsimp only); omega, by (try dsimp only); omega, by (try dsimp only); omega, by (try dsimp only); omega⟩
    exact ⟨x, by rw [e1, Option.bind_some], e2⟩
theorem law_ducts_ok (c : Int) {N j e : Nat} {m : Int} (hN : 1 ≤ N ∧ N ≤ 8) (hj : j ≤ N - 1) (he : e ≤ 100) (hm : 1 ≤ m ∧ m ≤ 6) : ∃ xs : List (Nat × Nat × Int), m_law_ducts (.int c) (.int (N : Int)) (.int (j : Int)) (.int (e : Int)) (.int m) = some (.lst (xs.map dct)) ∧ xs.length ≤ j + e ∧ ∀ x ∈ xs, DOkM m N x := by
  have k0 : dLst [] = some (.lst []) := dLst_s (Nat.zero_le _)
  unfold m_law_ducts
  rw [o1_some, k0, Option.bind_some, o2_some, eqI, o1_some, tru_bl, Option.bind_some]
  by_cases h1 : (N : Int) = 1
  · exact ⟨[], by rw [if_pos (by simp [h1])]; rfl, Nat.zero_le _, fun x hx => by cases hx⟩
  · have h2 : 2 ≤ N := by omega
    rw [if_neg (by simp [h1])]
    have hsum : (j : Int) + (e : Int) = ((j + e : Nat) : Int) := by omega
    have hr : dRange1 [.int ((j + e : Nat) : Int)] = some (ranged 0 ((j + e : Nat) : Int)) := dRange1_s (by omega)
    obtain ⟨ds, hd, hlow⟩ := draw_ok c (bnds (N : Int) m (j + e)) (bnds_mem (by omega) (by omega) _) (by rw [bnds_len]; omega)
    have hlen : (ranged 0 ((j + e : Nat) : Int)).length = j + e := by rw [ranged_len]; omega
    obtain ⟨b', e1, xs, hb, hxl, hx⟩ := foldO_inv0 (f := m_law_ducts_L2 (.lst (ds.map D.int)) (.int (N : Int)) (.int (j : Int))) (fun i b => ∃ xs : List (Nat × Nat × Int), b = .lst (xs.map dct) ∧ xs.length = i ∧ ∀ x ∈ xs, DOkM m N x) (ranged 0 ((j + e : Nat) : Int)) (.lst []) ⟨[], rfl, rfl, fun x hx => by cases hx⟩ (fun i hi b ⟨xs, hb, hxl, hx⟩ => by
      subst hb
      have e0 : (ranged 0 ((j + e : Nat) : Int))[i] = .int (i : Int) := by rw [ranged_get]; simp
      rw [hlen] at hi
      obtain ⟨x, s1, s2⟩ := duct_step (ds := xs.map dct) (j := (j : Int)) ⟨h2, hN.2⟩ (by omega) hm.2 hlow hi (by rw [List.length_map]; omega) (by omega)
      rw [e0]
      refine ⟨_, s1, xs ++ [x], by simp, by simp [hxl], fun y hy => ?_⟩
      rcases List.mem_append.mp hy with z | z
      · exact hx y z
      · simp at z; subst z; exact s2)
    refine ⟨xs, ?_, by rw [hxl, hlen]; exact Nat.le_refl _, hx⟩
    rw [Option.bind_some, o2_some, dAdd_ii, hsum, oCons_some, o1_some, hr, Option.bind_some, bounds_ok _ _ _ (by omega), Option.bind_some, c2_s, hd, Option.bind_some, Option.bind_some, e1, hb, Option.bind_some]
theorem plan_okM (ns : List Int) (t : Nat) {mr me : Nat} {mw : Int} (h1 : 1 ≤ mr ∧ mr ≤ 8) (h2 : me ≤ 100) (h3 : 1 ≤ mw ∧ mw ≤ 6) : ∃ (N : Nat) (xs : List (Nat × Nat × Int)), m_law_plan (.scr ns) (.int (t : Int)) (.int (mr : Int)) (.int (me : Int)) (.int mw) = some (.lst [.int (N : Int), .lst (xs.map dct)]) ∧ (1 ≤ N ∧ N ≤ mr) ∧ xs.length ≤ N - 1 + me ∧ ∀ x ∈ xs, DOkM mw N x := by
  obtain ⟨hs, hd, hl⟩ := draw_ok (cell ns t) [(mr : Int), (me : Int) + 1, 4] (by intro b hb; simp at hb; rcases hb with z | z | z <;> subst z <;> omega) (by simp)
  match hs, hl with
  | [a, b, c], hl =>
  obtain ⟨⟨a0, a1⟩, ⟨b0, b1⟩, ⟨c0, c1'⟩, _⟩ := hl
  obtain ⟨A, rfl⟩ : ∃ A : Nat, a = (A : Int) := ⟨a.toNat, (Int.toNat_of_nonneg a0).symm⟩
  obtain ⟨B, rfl⟩ : ∃ B : Nat, b = (B : Int) := ⟨b.toNat, (Int.toNat_of_nonneg b0).symm⟩
  have hd' : m_law_draw (.int (cell ns t)) (.lst [.int (mr : Int), .int ((me : Int) + 1), .int 4]) = some (.lst [.int (A : Int), .int (B : Int), .int c]) := hd
  have k5 : ∀ d e f : D, dLst [d, e, f] = some (.lst [d, e, f]) := fun d e f => dLst_s (by simp)
  have k4 : ∀ d e : D, dLst [d, e] = some (.lst [d, e]) := fun d e => dLst_s (by simp)
  have cc := cell_ok ns (t + 1)
  have ct : ((t : Int) + 1) = ((t + 1 : Nat) : Int) := by omega
  have hA : (A : Int) + 1 = ((A + 1 : Nat) : Int) := by omega
  have hJ : ((A + 1 : Nat) : Int) - 1 = (A : Int) := by omega
  unfold m_law_plan
  rw [c2_s, cell_ok, o2_some, dAdd_ii, oCons_some, oCons_some, oCons_some, o1_some, k5, c2_s, hd', Option.bind_some, o2_some, dIx_lst, atI_0, o2_some, dAdd_ii, hA, Option.bind_some, o2_some, dSub_ii, hJ, Option.bind_some, o2_some, dIx_lst, atI_2, o2_some, eqI, o1_some, tru_bl, Option.bind_some]
  by_cases hc : c = 3
  · obtain ⟨xs, e1, e2, e3⟩ := law_ducts_ok (cell ns (t + 1)) (N := A + 1) (j := 0) (e := B) (m := mw) (by omega) (by omega) (by omega) h3
    refine ⟨A + 1, xs, ?_, by omega, by omega, e3⟩
    rw [if_pos (by simp [hc]), Option.bind_some, Option.bind_some, o2_some, dAdd_ii, ct, c2_s, cc, o2_some, dIx_lst, atI_1, c5_s]
    have e1' : m_law_ducts (.int (cell ns (t + 1))) (.int ((A + 1 : Nat) : Int)) (.int 0) (.int (B : Int)) (.int mw) = some (.lst (xs.map dct)) := e1
    rw [e1', oCons_some, oCons_some, o1_some, k4]
  · obtain ⟨xs, e1, e2, e3⟩ := law_ducts_ok (cell ns (t + 1)) (N := A + 1) (j := A) (e := B) (m := mw) (by omega) (by omega) (by omega) h3
    refine ⟨A + 1, xs, ?_, by omega, by omega, e3⟩
    rw [if_neg (by simp [hc]), Option.bind_some, o2_some, dAdd_ii, ct, c2_s, cc, o2_some, dIx_lst, atI_1, c5_s, e1, oCons_some, oCons_some, o1_some, k4]
theorem plan_ok3 (ns : List Int) (t : Nat) {mr me : Nat} {mw : Int} (h1 : 1 ≤ mr ∧ mr ≤ 8) (h2 : me ≤ 100) (h3 : 1 ≤ mw ∧ mw ≤ 6) : ∃ (N : Nat) (xs : List (Nat × Nat × Int)), m_law_plan (.scr ns) (.int (t : Int)) (.int (mr : Int)) (.int (me : Int)) (.int mw) = some (.lst [.int (N : Int), .lst (xs.map dct)]) ∧ (1 ≤ N ∧ N ≤ mr) ∧ xs.length ≤ N - 1 + me ∧ (∀ x ∈ xs, DOk N x) ∧ ∀ x ∈ xs, x.2.2 ≤ mw := by
  obtain ⟨N, xs, h, a, b, c⟩ := plan_okM ns t h1 h2 h3
  exact ⟨N, xs, h, a, b, fun x hx => (c x hx).1, fun x hx => (c x hx).2⟩
end Mi
namespace Mi
open PySem L2
/-! papers -/
def isP (d : D) (k : Str) (n : Nat) : Bool := match d with
  | .tup (.str s :: r) => decide (r.length + 1 = n) && s == k
  | _ => false
/-- what is asked of a paper that is looked at -/
def okS : D → Bool
  | .str s => PyData.strOk s
  | d => ty d
def hd1 : D → Bool
  | .tup (x :: _) => okS x
  | d => ty d
theorem okS_ty {d : D} (h : okS d = true) : ty d = true := by cases d <;> first | exact h | rfl
def isT : D → Bool
  | .tup _ => true
  | _ => false
@[simp] theorem isT_tup (l : List D) : isT (.tup l) = true := id rfl
theorem isi_tup {d : D} (h : ty d = true) : dIsi "tuple" d = some (.bl (isT d)) := by
  cases d <;> simp [ty, tyN] at h <;> simp [dIsi, tyN, known, isB, isT]
theorem isi_str {d : D} (h : ty d = true) : dIsi "str" d = some (.bl (match d with | .str _ => true | _ => false)) := by
  cases d <;> simp [ty, tyN] at h <;> simp [dIsi, tyN, known, isB]
theorem isi_lt {d : D} (h : ty d = true) : dIsi2 "list" "tuple" d = some (.bl (match d with | .tup _ => true | .lst _ => true | .scr _ => true | _ => false)) := by
  cases d <;> simp [ty, tyN] at h <;> simp [dIsi2, tyN, known, isB]
theorem ty_tup (l : List D) : ty (.tup l) = true := id rfl
theorem ty_lst (l : List D) : ty (.lst l) = true := id rfl
theorem paper_ok {d : D} {k : Str} {n : Nat} (h : hd1 d = true) (hk : PyData.strOk k = true) (hn : 1 ≤ n) : m_is_paper d (.str k) (.int (n : Int)) = some (.bl (isP d k n)) := by
  have ht : ty d = true := by
    cases d <;> simp [hd1, ty, tyN] at h <;> rfl
  unfold m_is_paper
  rw [o1_some, isi_tup ht]
  cases d with
  | tup l =>
    simp only [isT_tup, o1_some, tru_bl, oNot_s, Bool.not_true, oOr_f, c1_s, dLen_tup, o2_some, neI]
    cases l with
    | nil =>
      have : ¬ ((([] : List D).length : Int) = (n : Int)) := by simp; omega
      simp only [this, decide_false, Bool.not_false, bs, if_true]
      simp [isP]
    | cons x r =>
      have hx : ty x = true := okS_ty h
      by_cases hl : r.length + 1 = n
      · have : (((x :: r).length : Int) = (n : Int)) := by simp; omega
        simp only [this, decide_true, Bool.not_true, bs, Bool.false_eq_true, if_false, dIx_tup, atI_0, o1_some, isi_str hx]
        cases x with
        | str s => simp [isP, dEq_ss (show PyData.strOk s = true from h) hk, hl]
        | _ => simp [isP]
      · have : ¬ (((x :: r).length : Int) = (n : Int)) := by simp; omega
        simp only [this, decide_false, Bool.not_false, bs, if_true]
        cases x <;> simp [isP, hl]
  | _ => simp [isP, isT]
/-! bounds, costs, a stream -/
def pr2 (x : Int × Int) : D := .tup [.int x.1, .int x.2]
def BdsOk (bs : List (Int × Int)) : Prop := ∀ b ∈ bs, -12 ≤ b.1 ∧ b.1 ≤ b.2 ∧ b.2 ≤ 12
theorem ty_pr2 (x : Int × Int) : ty (pr2 x) = true := id rfl
theorem areb_ok {n : Nat} {xs : List (Nat × Nat × Int)} {bo : List (Int × Int)} (hl : bo.length = xs.length) (hb : BdsOk bo) : m_are_bounds (bld n xs) (.lst (bo.map pr2)) = some (.bl true) := by
  unfold m_are_bounds
  have e : ((bo.map pr2).length : Int) = ((xs.map dct).length : Int) := by simp [hl]
  rw [o1_some, isi_lt (ty_lst _)]
  simp only [o1_some, tru_bl, oNot_s, Bool.not_true, oOr_f, c1_s, dLen_lst, bld, fld2, dLen_tup, o2_some, neI, e, decide_true, bs, Bool.false_eq_true, if_false, dItems_lst]
  rw [loopO_nx fun d hd => ?_]
  · simp only [bs, Out.thnD_nx]
  · obtain ⟨b, hm, rfl⟩ := List.mem_map.mp hd
    obtain ⟨h1, h2, h3⟩ := hb b hm
    unfold m_are_bounds_L1
    have ht := table_ok (d := pr2 b) (s := 2) (l := -12) (m := 12) rfl (fun es he => by
      simp [pr2, asSeq] at he; subst he
      exact ⟨fun e he => by simp at he; rcases he with z | z <;> subst z <;> rfl, by simp⟩)
    have hb : tabB (pr2 b) 2 (-12) 12 = true := by
      simp [tabB, pr2, asSeq, okI]; omega
    rw [hb] at ht
    have n1 : ¬ b.2 < b.1 := by omega
    simp only [pr2] at ht
    simp only [o1_some, dNeg_i, c4_s, ht, tru_bl, oNot_s, Bool.not_true, oOr_f, o2_some, pr2, dIx_tup, atI_0, atI_1, dGt_ii, n1, decide_false, bs, Bool.false_eq_true, if_false]
theorem req_t (s : Str) : m_require (.bl true) (.str s) = some .non := id rfl
theorem reqb_ok {n : Nat} {xs : List (Nat × Nat × Int)} : m_require_building (bld n xs) = some .non := by
  unfold m_require_building bld
  have : dIsiC "Building" (.obj "Building" ["rooms", "ducts", "_widths"] [.int (n : Int), .tup (xs.map dct), .tup ((wid n xs).map fun r => .tup (r.map D.int))]) = some (.bl true) := by
    unfold dIsiC
    exact if_pos rfl
  rw [o1_some, this, c2_s, req_t, bs]
theorem reqbo_ok {n : Nat} {xs : List (Nat × Nat × Int)} {bo : List (Int × Int)} (hl : bo.length = xs.length) (hb : BdsOk bo) : m_require_bounds_streams (bld n xs) (.lst (bo.map pr2)) = some .non := by
  unfold m_require_bounds_streams
  rw [c2_s, areb_ok hl hb, c2_s, req_t, bs]
theorem tab_ints {cs : List Int} {s : Nat} {l m : Int} (hl : cs.length = s) (hs : s ≤ 16777216) (h : ∀ c ∈ cs, l ≤ c ∧ c ≤ m) : m_is_table (.lst (cs.map D.int)) (.int (s : Int)) (.int l) (.int m) = some (.bl true) := by
  have ht := table_ok (d := .lst (cs.map D.int)) (s := (s : Int)) (l := l) (m := m) rfl (fun es he => by
    simp [asSeq] at he; subst he
    exact ⟨fun e he => by obtain ⟨c, _, rfl⟩ := List.mem_map.mp he; rfl, by simp; omega⟩)
  rw [ht]
  have : tabB (.lst (cs.map D.int)) (s : Int) l m = true := by
    simp only [tabB, asSeq, List.length_map, hl, decide_true, Bool.true_and, List.all_map, List.all_eq_true]
    intro c hc
    have := h c hc
    simp [okI, this]
  rw [this]
theorem reqne_ok {n : Nat} {xs : List (Nat × Nat × Int)} {cs : List Int} (hl : cs.length = n) (hx : n ≤ 1000) (h : ∀ c ∈ cs, -200 ≤ c ∧ c ≤ 200) : m_require_needs (bld n xs) (.lst (cs.map D.int)) = some .non := by
  unfold m_require_needs
  have e : o1 (dFld "Building" "rooms") (some (bld n xs)) = some (.int (n : Nat)) := by
    unfold bld
    rw [o1_some, fld1]
  rw [e, o1_some, dNeg_i, c4_s, tab_ints hl (by omega) h, c2_s, req_t, bs]
/-- within the bounds -/
def fitB (bo : List (Int × Int)) (ss : List Int) : Bool := decide (ss.length = bo.length) && (List.range bo.length).all fun j => decide ((bo.getD j (0, 0)).1 ≤ ss.getD j 0) && decide (ss.getD j 0 ≤ (bo.getD j (0, 0)).2)
theorem fits_gen {bo : List (Int × Int)} {ss : List Int} {d : D} (hd : d = .lst (ss.map D.int) ∨ d = .tup (ss.map D.int)) : m_fits_bounds (.lst (bo.map pr2)) d = some (.bl (fitB bo ss)) := by
  have h1 : dIsi2 "list" "tuple" d = some (.bl true) := by rcases hd with h | h <;> subst h <;> rfl
  have h2 : dLen d = some (.int (ss.length : Nat)) := by rcases hd with h | h <;> subst h <;> simp
  have h3 : dSeq d = some (ss.map D.int) := by rcases hd with h | h <;> subst h <;> simp
  unfold m_fits_bounds fitB
  simp only [o1_some, h1, tru_bl, oNot_s, Bool.not_true, oOr_f, c1_s, h2, dLen_lst, o2_some, neI, bs, List.length_map, dSeq_lst, h3]
  by_cases hl : ss.length = bo.length
  · have e : ((ss.length : Int) = (bo.length : Int)) := by omega
    simp only [e, decide_true, Bool.not_true, Bool.false_eq_true, if_false, hl, Bool.true_and]
    rw [zip_idx (0, 0) 0 hl.symm]
    rw [loopO_idx (p := fun j => decide ((bo.getD j (0, 0)).1 ≤ ss.getD j 0) && decide (ss.getD j 0 ≤ (bo.getD j (0, 0)).2)) (r := .bl false) fun i hi => ?_]
    · simp only [bs]
      cases q : (List.range bo.length).all fun j => decide ((bo.getD j (0, 0)).1 ≤ ss.getD j 0) && decide (ss.getD j 0 ≤ (bo.getD j (0, 0)).2) <;> simp [Out.thnD]
    · unfold m_fits_bounds_L1
      have hi' : m_is_integer (.int (ss.getD i 0)) = some (.bl true) := by rw [isint_ok rfl]
      generalize ss.getD i 0 = s at hi' ⊢
      generalize bo.getD i (0, 0) = b
      show (oOr (oNot (o1 tru (c1 m_is_integer (some (.int s))))) (oOr (o1 tru (o2 dLt (some (.int s)) (some (.int b.1)))) (o1 tru (o2 dGt (some (.int s)) (some (.int b.2)))))).bind _ = _
      simp only [c1_s, hi', o1_some, tru_bl, oNot_s, Bool.not_true, oOr_f, o2_some, dLt_ii, dGt_ii]
      by_cases a1 : s < b.1
      · have : ¬ b.1 ≤ s := by omega
        simp [a1, this]
      · by_cases a2 : b.2 < s
        · have : ¬ s ≤ b.2 := by omega
          simp [a1, a2, this]
        · have e1 : b.1 ≤ s := by omega
          have e2 : s ≤ b.2 := by omega
          simp [a1, a2, e1, e2]
  · have e : ¬ ((ss.length : Int) = (bo.length : Int)) := by omega
    simp [e, hl]
theorem fit_len {bo : List (Int × Int)} {ss : List Int} (h : fitB bo ss = true) : ss.length = bo.length := by
  unfold fitB at h
  simp at h
  exact h.1
/-- typed, and its parts -/
def tyd : D → Bool
  | .tup l => l.all ty
  | .lst l => l.all ty
  | .scr _ => false
  | d => ty d
theorem isP2 (k j : Str) (v : D) : isP (.tup [.str k, v]) j 2 = (k == j) := by simp [isP]
theorem kS : PyData.strOk "stream" = true := by decide +kernel
theorem kSt : PyData.strOk "starved" = true := by decide +kernel
theorem kFl : PyData.strOk "flooded" = true := by decide +kernel
theorem hdSt (v : D) : hd1 (.tup [.str "starved", v]) = true := kSt
theorem hdFl (v : D) : hd1 (.tup [.str "flooded", v]) = true := kFl
theorem hdS (v : D) : hd1 (.tup [.str "stream", v]) = true := kS
theorem ss_ne : (("stream" : Str) == "starved") = false := by decide +kernel
theorem sf_ne : (("stream" : Str) == "flooded") = false := by decide +kernel
theorem fs_ne : (("flooded" : Str) == "starved") = false := by decide +kernel
theorem sfl_ne : (("starved" : Str) == "flooded") = false := by decide +kernel
theorem st_eq : (("starved" : Str) == "starved") = true := by decide +kernel
theorem fl_eq : (("flooded" : Str) == "flooded") = true := by decide +kernel
theorem sss_eq : (("stream" : Str) == "stream") = true := by decide +kernel
theorem str_ne : (("starved" : Str) == "stream") = false := by decide +kernel
theorem flr_ne : (("flooded" : Str) == "stream") = false := by decide +kernel
/-! gains -/
def gst (G : List Int) (x : (Nat × Nat × Int) × Int) : List Int :=
  let G1 := G.set x.1.1 (G.getD x.1.1 0 - x.2)
  G1.set x.1.2.1 (G1.getD x.1.2.1 0 + x.2)
def gains (n : Nat) (xs : List (Nat × Nat × Int)) (ss : List Int) : List Int := (xs.zip ss).foldl gst (List.replicate n 0)
theorem gst_len (G : List Int) (x : (Nat × Nat × Int) × Int) : (gst G x).length = G.length := by simp [gst]
theorem gst_sum (G : List Int) (x : (Nat × Nat × Int) × Int) (h1 : x.1.1 < G.length) (h2 : x.1.2.1 < G.length) : (gst G x).sum = G.sum := by
  unfold gst
  dsimp only
  rw [sum_set _ _ (by rw [List.length_set]; exact h2), sum_set _ _ h1]
  omega
theorem gst_bd (G : List Int) (x : (Nat × Nat × Int) × Int) {B b : Int} (h1 : x.1.1 < G.length) (h2 : x.1.2.1 < G.length) (hne : x.1.1 ≠ x.1.2.1) (hB : ∀ a ∈ G, -B ≤ a ∧ a ≤ B) (hb : -b ≤ x.2 ∧ x.2 ≤ b) (h0 : 0 ≤ b) : ∀ a ∈ gst G x, -(B + b) ≤ a ∧ a ≤ B + b := by
  intro a ha
  unfold gst at ha
  dsimp only at ha
  have g1 := hB _ (xin (xs := G) 0 h1)
  have g2 := hB _ (xin (xs := G) 0 h2)
  rcases mem_set_or ha with z | z
  · rcases mem_set_or z with y | y
    · have := hB a y; omega
    · omega
  · rw [getD_set_ne _ _ _ hne] at z
    omega
theorem fold_bd {n : Nat} {b : Int} (h0 : 0 ≤ b) : ∀ {zs : List ((Nat × Nat × Int) × Int)} {G : List Int} {B : Int}, G.length = n → (∀ z ∈ zs, (z.1.1 < n ∧ z.1.2.1 < n ∧ z.1.1 ≠ z.1.2.1) ∧ -b ≤ z.2 ∧ z.2 ≤ b) → (∀ a ∈ G, -B ≤ a ∧ a ≤ B) → (zs.foldl gst G).length = n ∧ (zs.foldl gst G).sum = G.sum ∧ ∀ a ∈ zs.foldl gst G, -(B + zs.length * b) ≤ a ∧ a ≤ B + zs.length * b
  | [], G, B, hl, _, hB => ⟨hl, rfl, fun a ha => by have := hB a ha; simp; omega⟩
  | z :: zs, G, B, hl, hz, hB => by
    obtain ⟨⟨z1, z2, z3⟩, z4⟩ := hz z (by simp)
    obtain ⟨a1, a2, a3⟩ := fold_bd h0 (zs := zs) (G := gst G z) (B := B + b) (by rw [gst_len, hl]) (fun y hy => hz y (by simp [hy])) (gst_bd G z (by omega) (by omega) z3 hB z4 h0)
    refine ⟨a1, by rw [List.foldl_cons, a2, gst_sum G z (by omega) (by omega)], fun a ha => ?_⟩
    have := a3 a ha
    have e : ((zs.length + 1 : Nat) : Int) * b = (zs.length : Int) * b + b := by rw [Int.natCast_add, Int.add_mul]; simp
    rw [List.length_cons, e]
    omega
section
variable {n : Nat} {xs : List (Nat × Nat × Int)} {bo : List (Int × Int)} {cs ss ps ns : List Int}
theorem gains_facts (hx : ∀ x ∈ xs, DOk n x) (hm : xs.length ≤ 16) (ls : ss.length = xs.length) (hs : ∀ s ∈ ss, -11 ≤ s ∧ s ≤ 11) : (gains n xs ss).length = n ∧ (gains n xs ss).sum = 0 ∧ ∀ a ∈ gains n xs ss, -176 ≤ a ∧ a ≤ 176 := by
  obtain ⟨a1, a2, a3⟩ := fold_bd (n := n) (b := 11) (by decide) (zs := xs.zip ss) (G := List.replicate n 0) (B := 0) (by simp) (fun z hz => by
    have z1 := hx _ (List.of_mem_zip hz).1
    exact ⟨⟨z1.1, z1.2.1, z1.2.2.1⟩, hs _ (List.of_mem_zip hz).2⟩) (fun a ha => by rw [(List.mem_replicate.mp ha).2]; simp)
  refine ⟨a1, by rw [gains, a2]; simp, fun a ha => ?_⟩
  have := a3 a ha
  have hz : (xs.zip ss).length ≤ 16 := by rw [List.length_zip]; omega
  omega
theorem glist_ok {st : D} (hx : ∀ x ∈ xs, DOk n x) (hn : n ≤ 1000) (ls : ss.length = xs.length) (hst : dSeq st = some (ss.map D.int)) : m_gain_list (bld n xs) st = some (.lst ((gains n xs ss).map D.int)) := by
  unfold m_gain_list
  have er : o1 (dFld "Building" "rooms") (some (bld n xs)) = some (.int (n : Nat)) := by
    unfold bld
    rw [o1_some, fld1]
  have e2 : o1 dSeq (o1 (dFld "Building" "ducts") (some (bld n xs))) = some (xs.map dct) := by
    unfold bld
    rw [o1_some, fld2, o1_some, dSeq_tup]
  rw [er, e2, oCons_some, o1_some, dLst1, o2_some, dMulL_rep (by omega) (by simp; omega), rep1, bs, o1_some, hst, o2_some, bs]
  obtain ⟨b', e1, hb, _⟩ := foldO_inv0 (f := m_gain_list_L1) (fun i b => b = .lst ((((xs.zip ss).take i).foldl gst (List.replicate n 0)).map D.int) ∧ (((xs.zip ss).take i).foldl gst (List.replicate n 0)).length = n) ((xs.map dct).zip (ss.map D.int)) (.lst ((List.replicate n 0).map D.int)) ⟨rfl, by simp⟩ (fun i hi b ⟨hb, hl⟩ => by
    subst hb
    rw [List.length_zip, List.length_map, List.length_map] at hi
    have hi1 : i < xs.length := by omega
    have hi2 : i < ss.length := by omega
    have e0 : ((xs.map dct).zip (ss.map D.int))[i]'(by rw [List.length_zip, List.length_map, List.length_map]; exact hi) = (dct (xs.getD i (0, 0, 0)), .int (ss.getD i 0)) := by simp [List.getD, hi1, hi2]
    rw [e0, take_zip_succ xs ss (0, 0, 0) 0 i hi1 hi2, List.foldl_append, List.foldl_cons, List.foldl_nil]
    generalize hG : ((xs.zip ss).take i).foldl gst (List.replicate n 0) = G at *
    obtain ⟨d1, d2, d3⟩ := hx _ (xin (0, 0, 0) hi1)
    refine ⟨_, ?_, rfl, by rw [gst_len]; exact hl⟩
    unfold m_gain_list_L1 gst
    simp only [dct, un3, bs]
    rw [dGetO_i (by omega), bs, dSub_ii, bs, dSet_i (by omega), bs, dGetO_i (by rw [List.length_set]; omega), bs, dAddI_ii, bs, dSet_i (by rw [List.length_set]; omega)]
    rfl)
  rw [e1, hb, bs, List.length_zip, List.length_map, List.length_map, List.take_of_length_le (by rw [List.length_zip]; omega)]
  rfl
/-! a stream that serves -/
theorem serves_t (hx : ∀ x ∈ xs, DOk n x) (hn : n ≤ 1000) (lb : bo.length = xs.length) : m_serves (bld n xs) (.lst (bo.map pr2)) (.lst (ns.map D.int)) (.tup (ss.map D.int)) = some (.bl (fitB bo ss && decide (gains n xs ss = ns))) := by
  unfold m_serves
  rw [o1_some, isi_tup (ty_tup _), o1_some, tru_bl, oNot_s, c2_s, fits_gen (.inr rfl), o1_some, tru_bl, oNot_s, isT_tup, Bool.not_true, oOr_f, bs]
  cases q : fitB bo ss with
  | false => rfl
  | true =>
    have lf := fit_len q
    simp only [Bool.not_true, Bool.false_eq_true, if_false, Bool.true_and]
    rw [c2_s, glist_ok hx hn (lf.trans lb) (dSeq_tup _), o1_some]
    first | rw [dListS_i] | rw [dList_i]
    rw [o2_some, dEq_li]
theorem serves_l {l : List D} : m_serves (bld n xs) (.lst (bo.map pr2)) (.lst (ns.map D.int)) (.lst l) = some (.bl false) := by
  unfold m_serves
  rw [o1_some, isi_tup (ty_lst _), o1_some, tru_bl, oNot_s]
  rfl
/-! sets of rooms -/
theorem places_all {ks : List Nat} {c : Nat} (h : ∀ k ∈ ks, k < c) (hn : ks.Nodup) (hl : ks.length < 16777216) : m_are_places (.tup (ks.map fun (k : Nat) => D.int (k : Int))) (.int (c : Int)) = some (.bl true) := by
  unfold m_are_places
  rw [o1_some, isi_lt (ty_tup _), o1_some, tru_bl, oNot_s, bs]
  simp only [Bool.not_true, Bool.false_eq_true, if_false, bs, o1_some, dItems_tup]
  have hr : ks.map (fun (k : Nat) => D.int (k : Int)) = (List.range ks.length).map fun i => D.int (ks.getD i 0 : Nat) := by
    apply List.ext_getElem
    · simp
    · intro i h1 h2
      simp at h1
      simp [List.getD, h1]
  have key := loopO_idxS (γ := Empty) (f := m_are_places_L1 (.int (c : Int))) (g := fun i => D.int (ks.getD i 0 : Nat)) (n := ks.length) (r := .bl false) (p := fun _ => true)
    (S := fun i => D.dic ((ks.take i).map fun (i : Nat) => (Sum.inl (i : Int) : Key)) (List.replicate i (.bl true))) (fun i hi _ => by
      have hk := h _ (xin 0 hi)
      have ck : (ks.take i).length = (List.replicate i (D.bl true)).length := by simp; omega
      have hm : ks.getD i 0 ∉ ks.take i := fun z => by
        have e : ks.getD i 0 = ks[i] := by simp [List.getD, hi]
        rw [e] at z
        obtain ⟨j, hj, e2⟩ := List.getElem_of_mem z
        rw [List.length_take] at hj
        rw [List.getElem_take] at e2
        have := (List.getElem_inj (xs := ks) (h₀ := by omega) (h₁ := hi) hn).mp e2
        omega
      have b1 : okI 0 ((c : Int) - 1) (.int (ks.getD i 0 : Nat)) = true := by
        simp only [okI, Bool.and_eq_true, decide_eq_true_eq]
        omega
      have st : ks.take (i + 1) = ks.take i ++ [ks.getD i 0] := by
        have e : ks.getD i 0 = ks[i] := by simp [List.getD, hi]
        rw [e, List.take_succ_eq_append_getElem hi]
      unfold m_are_places_L1
      rw [o2_some, dSub_ii, c3_s, between_ok rfl, b1, o1_some, tru_bl, oNot_s, Bool.not_true, oOr_f, o2_some, dIn_keys ck, decide_eq_false hm, o1_some, tru_bl, bs, bs]
      simp only [Bool.false_eq_true, if_false, bs]
      rw [dSet_keys ck (hn.sublist (List.take_sublist _ _)) hm (by simp; omega), bs, ← st, ← List.replicate_succ']
      rfl)
  rw [List.take_zero, List.map_nil] at key
  rw [← hr, show (D.dic [] (List.replicate 0 (D.bl true))) = D.dic [] [] from rfl] at key
  rw [key, bs]
  simp
theorem up_sort {ks : List Int} (h : ks.Pairwise (· ≤ ·)) : sortI ks = ks := (sortI_of (List.Perm.refl ks) h).symm
theorem rooms_all (hn : 1 ≤ n) (h8 : n ≤ 1000) : m_is_room_set (.tup ((List.range n).map fun (k : Nat) => D.int (k : Int))) (.int (n : Int)) = some (.bl true) := by
  unfold m_is_room_set m_is_place_set
  have pl := places_all (ks := List.range n) (c := n) (fun k hk => List.mem_range.mp hk) List.nodup_range (by simp; omega)
  have ei : (List.range n).map (fun (k : Nat) => D.int (k : Int)) = ((List.range n).map fun (k : Nat) => (k : Int)).map D.int := by simp [Function.comp_def]
  have so : dSorted (.tup ((List.range n).map fun (k : Nat) => D.int (k : Int))) = some (.lst ((List.range n).map fun (k : Nat) => D.int (k : Int))) := by
    rw [ei]
    show (dInts (.tup (((List.range n).map fun (k : Nat) => (k : Int)).map D.int))).map _ = _
    unfold dInts
    dsimp only
    rw [asInts_map, ms, up_sort]
    rw [List.pairwise_map]
    exact List.pairwise_lt_range.imp fun {a b} h => by omega
  have l0 : ¬ ((((List.range n).map fun (k : Nat) => D.int (k : Int)).length : Int) ≤ 0) := by simp; omega
  rw [c2_s, o1_some, isi_tup (ty_tup _), isT_tup, oAndV_t, c2_s, pl, oAndV_t, c1_s, so, o1_some, dList_t, o2_some, ei, dEq_li, decide_eq_true rfl, oAndV_t, c1_s, dLen_tup, o2_some, dGt_ii]
  simp
  omega
end
theorem with0 : True := trivial
end Mi
namespace Mi
open PySem L2
section
variable {n : Nat} {xs : List (Nat × Nat × Int)} {bo : List (Int × Int)} {ss ns : List Int} {K : List Nat}
/-! what a set can gain -/
def rst (K : List Nat) (t : Int × Int) (z : (Nat × Nat × Int) × (Int × Int)) : Int × Int :=
  if z.1.2.1 ∈ K ∧ z.1.1 ∉ K then (t.1 + z.2.1, t.2 + z.2.2) else if z.1.1 ∈ K ∧ z.1.2.1 ∉ K then (t.1 - z.2.2, t.2 - z.2.1) else t
def rng (K : List Nat) (xs : List (Nat × Nat × Int)) (bo : List (Int × Int)) : Int × Int := (xs.zip bo).foldl (rst K) (0, 0)
def needK (ns : List Int) (K : List Nat) : Int := (K.map fun a => ns.getD a 0).sum
def eDD (t : Int × Int) : D × D := (.int t.1, .int t.2)
theorem rof_ok (K : List Nat) : m_range_of_gain (bld n xs) (.lst (bo.map pr2)) (tupN K) = some (.tup [.int (rng K xs bo).1, .int (rng K xs bo).2]) := by
  unfold m_range_of_gain
  have e2 : o1 dSeq (o1 (dFld "Building" "ducts") (some (bld n xs))) = some (xs.map dct) := by
    unfold bld
    rw [o1_some, fld2, o1_some, dSeq_tup]
  have ez : (xs.map dct).zip (bo.map pr2) = (xs.zip bo).map fun z => (dct z.1, pr2 z.2) := by
    rw [List.zip_map]; rfl
  have key := foldO_enc (f := m_range_of_gain_L1 (tupN K)) (g := fun z : (Nat × Nat × Int) × (Int × Int) => (dct z.1, pr2 z.2)) (e := eDD) (s := rst K) (xs.zip bo) (0, 0) (fun z _ b => by
    unfold m_range_of_gain_L1 rst eDD
    simp only [dct, un3, pr2, un2, o2_some, dIn_N, dNotIn_of dIn_N, o1_some, tru_bl]
    by_cases h1 : z.1.2.1 ∈ K <;> by_cases h2 : z.1.1 ∈ K <;> simp [h1, h2])
  rw [bs, bs, e2, o1_some, dSeq_lst, o2_some, bs, ez]
  have key' : foldO (m_range_of_gain_L1 (tupN K)) ((xs.zip bo).map fun z => (dct z.1, pr2 z.2)) (D.int 0, D.int 0) = some (eDD (rng K xs bo)) := key
  rw [key', bs]
  simp only [eDD, oCons_some, o1_some, dTup2]
/-! sets of rooms -/
def RSet (n : Nat) (K : List Nat) : Prop := K.Pairwise (· < ·) ∧ (∀ k ∈ K, k < n) ∧ K ≠ []
theorem RSet.nd (h : RSet n K) : K.Nodup := h.1.imp fun {a b} h => by omega
theorem RSet.len (h : RSet n K) : K.length ≤ n := by
  have := List.Nodup.length_le_of_subset (l₁ := K) (l₂ := List.range n) h.nd fun x hx => List.mem_range.mpr (h.2.1 x hx)
  simpa using this
theorem places_bad {ks : List Nat} {c : Nat} (hn : ks.Nodup) (h : ∃ k ∈ ks, c ≤ k) (hl : ks.length < 16777216) : m_are_places (tupN ks) (.int (c : Int)) = some (.bl false) := by
  unfold m_are_places tupN
  rw [o1_some, isi_lt (ty_tup _), o1_some, tru_bl, oNot_s, bs]
  simp only [Bool.not_true, Bool.false_eq_true, if_false, bs, o1_some, dItems_tup]
  have hr : ks.map (fun (k : Nat) => D.int (k : Int)) = (List.range ks.length).map fun i => D.int (ks.getD i 0 : Nat) := by
    apply List.ext_getElem
    · simp
    · intro i h1 h2
      simp at h1
      simp [List.getD, h1]
  have key := loopO_idxS (γ := Empty) (f := m_are_places_L1 (.int (c : Int))) (g := fun i => D.int (ks.getD i 0 : Nat)) (n := ks.length) (r := .bl false) (p := fun i => decide (ks.getD i 0 < c))
    (S := fun i => D.dic ((ks.take i).map fun (i : Nat) => (Sum.inl (i : Int) : Key)) (List.replicate i (.bl true))) (fun i hi _ => by
      have ck : (ks.take i).length = (List.replicate i (D.bl true)).length := by simp; omega
      have hm : ks.getD i 0 ∉ ks.take i := fun z => by
        have e : ks.getD i 0 = ks[i] := by simp [List.getD, hi]
        rw [e] at z
        obtain ⟨j, hj, e2⟩ := List.getElem_of_mem z
        rw [List.length_take] at hj
        rw [List.getElem_take] at e2
        have := (List.getElem_inj (xs := ks) (h₀ := by omega) (h₁ := hi) hn).mp e2
        omega
      have st : ks.take (i + 1) = ks.take i ++ [ks.getD i 0] := take_succ_getD ks 0 i hi
      unfold m_are_places_L1
      rw [o2_some, dSub_ii, c3_s, between_ok rfl]
      by_cases hk : ks.getD i 0 < c
      · have b1 : okI 0 ((c : Int) - 1) (.int (ks.getD i 0 : Nat)) = true := by
          simp only [okI, Bool.and_eq_true, decide_eq_true_eq]
          omega
        rw [b1, o1_some, tru_bl, oNot_s, Bool.not_true, oOr_f, o2_some, dIn_keys ck, decide_eq_false hm, o1_some, tru_bl, bs, bs]
        simp only [Bool.false_eq_true, if_false, bs]
        rw [dSet_keys ck (hn.sublist (List.take_sublist _ _)) hm (by simp; omega), bs, ← st, ← List.replicate_succ', decide_eq_true hk]
        rfl
      · have b1 : okI 0 ((c : Int) - 1) (.int (ks.getD i 0 : Nat)) = false := by
          simp only [okI, Bool.and_eq_false_iff, decide_eq_false_iff_not]
          omega
        rw [b1, o1_some, tru_bl, oNot_s, Bool.not_false, oOr_t, bs, decide_eq_false hk]
        rfl)
  rw [← hr, List.take_zero, List.map_nil] at key
  rw [show (D.dic [] (List.replicate 0 (D.bl true))) = D.dic [] [] from rfl] at key
  have na : (List.range ks.length).all (fun i => decide (ks.getD i 0 < c)) = false := by
    obtain ⟨k, hk, hc⟩ := h
    obtain ⟨j, hj, e⟩ := mem_getD 0 hk
    rw [List.all_eq_false]
    refine ⟨j, List.mem_range.mpr hj, ?_⟩
    rw [e]
    simp
    omega
  rw [key, na, bs]
  rfl
theorem rset_ok (h : RSet n K) (h8 : n ≤ 1000) : m_is_room_set (tupN K) (.int (n : Int)) = some (.bl true) := by
  unfold m_is_room_set m_is_place_set
  have hl := h.len
  have pl := places_all (ks := K) (c := n) h.2.1 h.nd (by omega)
  have pl' : m_are_places (tupN K) (.int (n : Int)) = some (.bl true) := pl
  have hlen : c1 dLen (some (tupN K)) = some (.int (K.length : Nat)) := by
    unfold tupN
    rw [c1_s, dLen_tup, List.length_map]
  have hls : dList (tupN K) = some (lstN K) := id rfl
  have hd : isT (tupN K) = true := id rfl
  have pos : 0 < K.length := List.length_pos_iff.mpr h.2.2
  rw [c2_s, o1_some, isi_tup (show ty (tupN K) = true from rfl), hd, oAndV_t, c2_s, pl', oAndV_t, c1_s, dSorted_N h.1]
  first | rw [o1_some, hls] | rw [o1_some, show dListS (tupN K) = some (lstN K) from by unfold tupN lstN; rw [mapN]; exact dListS_t _]
  rw [o2_some, dEq_NL, decide_eq_true rfl, oAndV_t, hlen, o2_some, dGt_ii, decide_eq_true (by omega)]
theorem rset_bad (hn : K.Nodup) (h : ∃ k ∈ K, n ≤ k) (hl : K.length < 16777216) : m_is_room_set (tupN K) (.int (n : Int)) = some (.bl false) := by
  unfold m_is_room_set m_is_place_set
  have hd : isT (tupN K) = true := id rfl
  rw [c2_s, o1_some, isi_tup (show ty (tupN K) = true from rfl), hd, oAndV_t, c2_s, places_bad hn h hl, oAndV_f, oAndV_f]
theorem rset_nil : m_is_room_set (.tup []) (.int (n : Int)) = some (.bl false) := by
  unfold m_is_room_set m_is_place_set
  have pl := places_all (ks := []) (c := n) (fun k hk => by cases hk) List.nodup_nil (by simp)
  have pl' : m_are_places (.tup []) (.int (n : Int)) = some (.bl true) := pl
  have so : dSorted (.tup []) = some (.lst []) := dSorted_N (K := []) List.Pairwise.nil
  have eq : dEq (.lst []) (.lst []) = some (.bl true) := dEq_NL [] []
  have hls : dList (.tup []) = some (.lst []) := id rfl
  rw [c2_s, o1_some, isi_tup (ty_tup _), isT_tup, oAndV_t, c2_s, pl', oAndV_t, c1_s, so]
  first | rw [o1_some, hls] | rw [o1_some, show dListS (.tup []) = some (.lst []) from rfl]
  rw [o2_some, eq, oAndV_t, c1_s, dLen_tup, o2_some, dGt_ii]
  rfl
theorem rset_l {l : List D} : m_is_room_set (.lst l) (.int (n : Int)) = some (.bl false) := by
  unfold m_is_room_set m_is_place_set
  rw [c2_s, o1_some, isi_tup (ty_lst _)]
  rfl
/-! refused sets -/
def refB (k : Str) (K : List Nat) (xs : List (Nat × Nat × Int)) (bo : List (Int × Int)) (ns : List Int) : Bool := if k == "starved" then decide ((rng K xs bo).2 < needK ns K) else decide (needK ns K < (rng K xs bo).1)
theorem needs_comp (f : D → Option (Option D)) (hf : ∀ (a : Nat), a < ns.length → f (.int (a : Int)) = some (some (.int (ns.getD a 0)))) (h : ∀ k ∈ K, k < ns.length) (hl : K.length ≤ 1000) : dComp f (K.map fun (k : Nat) => D.int (k : Int)) = some (.lst ((K.map fun a => ns.getD a 0).map D.int)) := by
  have cg : ∀ d ∈ K.map fun (k : Nat) => D.int (k : Int), f d = some (some (match d with | .int i => .int (ns.getD i.toNat 0) | _ => .non)) := fun d hd => by
    obtain ⟨i, hi, rfl⟩ := List.mem_map.mp hd
    rw [hf i (h i hi)]
    simp
  rw [dComp_map (by rw [List.length_map]; omega) cg, List.map_map, List.map_map]
  rfl
theorem kinds {k : Str} (hk : k = "starved" ∨ k = "flooded") : PyData.strOk k = true ∧ hd1 (.tup [.str k, .non]) = true ∧ ((k == ("starved" : Str)) = true ∧ (k == ("flooded" : Str)) = false ∨ (k == ("starved" : Str)) = false ∧ (k == ("flooded" : Str)) = true) ∧ (k == ("stream" : Str)) = false := by
  rcases hk with h | h <;> subst h
  · exact ⟨kSt, kSt, .inl ⟨st_eq, sfl_ne⟩, str_ne⟩
  · exact ⟨kFl, kFl, .inr ⟨fs_ne, fl_eq⟩, flr_ne⟩
theorem refused_pre {k : Str} (hk : k = "starved" ∨ k = "flooded") {v : D} {b : Bool} (hb : m_is_room_set v (.int (n : Int)) = some (.bl b)) : m_is_refused_set (bld n xs) (.lst (bo.map pr2)) (.lst (ns.map D.int)) (.tup [.str k, v]) = if b = true then (m_range_of_gain (bld n xs) (.lst (bo.map pr2)) v).bind fun t => un2 t fun l m => (c1 dSum ((o1 dItems (some v)).bind fun ds => dComp (m_is_refused_set_C1 (.lst (ns.map D.int))) ds)).bind fun x => if (k == ("starved" : Str)) = true then o2 dGt (some x) (some m) else o2 dLt (some x) (some l) else some (.bl false) := by
  obtain ⟨sk, _, ht, _⟩ := kinds hk
  have hd : hd1 (.tup [.str k, v]) = true := sk
  have q1 := paper_ok (d := .tup [.str k, v]) (k := "starved") (n := 2) hd kSt (by decide)
  have q2 := paper_ok (d := .tup [.str k, v]) (k := "flooded") (n := 2) hd kFl (by decide)
  simp only [Int.cast_ofNat_Int, isP2] at q1 q2
  have er : o1 (dFld "Building" "rooms") (some (bld n xs)) = some (.int (n : Nat)) := by
    unfold bld
    rw [o1_some, fld1]
  have hq : oAnd (some (!(k == ("starved" : Str)))) (some (!(k == ("flooded" : Str)))) = some false := by
    rcases ht with ⟨a, b⟩ | ⟨a, b⟩ <;> rw [a, b] <;> rfl
  unfold m_is_refused_set
  rw [c3_s, q1, c3_s, q2, o1_some, tru_bl, o1_some, tru_bl, oNot_s, oNot_s, hq, bs]
  simp only [Bool.false_eq_true, if_false, o2_some, dIx_tup, atI_0, atI_1]
  rw [er, c2_s, hb, o1_some, tru_bl, oNot_s, bs]
  cases b with
  | false => rfl
  | true =>
    simp only [Bool.not_true, Bool.false_eq_true, if_false, if_true, c3_s, dEq_ss sk kSt, o1_some, tru_bl, bs]
theorem refused_no' {k : Str} (hk : k = "starved" ∨ k = "flooded") {v : D} (hb : m_is_room_set v (.int (n : Int)) = some (.bl false)) : m_is_refused_set (bld n xs) (.lst (bo.map pr2)) (.lst (ns.map D.int)) (.tup [.str k, v]) = some (.bl false) := by
  rw [refused_pre hk hb]
  rfl
theorem refused_ok {k : Str} (hk : k = "starved" ∨ k = "flooded") (h : RSet n K) (h8 : n ≤ 1000) (ln : ns.length = n) : m_is_refused_set (bld n xs) (.lst (bo.map pr2)) (.lst (ns.map D.int)) (.tup [.str k, tupN K]) = some (.bl (refB k K xs bo ns)) := by
  have hl := h.len
  rw [refused_pre hk (rset_ok h h8), if_pos rfl, rof_ok, bs]
  have it : o1 dItems (some (tupN K)) = some (K.map fun (k : Nat) => D.int (k : Int)) := id rfl
  have cm := needs_comp (ns := ns) (K := K) (m_is_refused_set_C1 (.lst (ns.map D.int))) (fun a ha => by
    unfold m_is_refused_set_C1
    rw [o2_some, ixmD 0 ha]
    rfl) (fun k hk => by rw [ln]; exact h.2.1 k hk) (by omega)
  simp only [un2]
  rw [it, bs, cm, c1_s, dSum_l, bs]
  simp only [o2_some, dGt_ii, dLt_ii]
  unfold refB needK
  cases (k == ("starved" : Str)) <;> rfl
theorem refused_nop {p : D} (hp : hd1 p = true) (h1 : isP p "starved" 2 = false) (h2 : isP p "flooded" 2 = false) {b bo' ns' : D} : m_is_refused_set b bo' ns' p = some (.bl false) := by
  have q1 := paper_ok (d := p) (k := "starved") (n := 2) hp kSt (by decide)
  have q2 := paper_ok (d := p) (k := "flooded") (n := 2) hp kFl (by decide)
  simp only [Int.cast_ofNat_Int, h1, h2] at q1 q2
  unfold m_is_refused_set
  rw [c3_s, q1, c3_s, q2]
  rfl
/-! shows_stream -/
structure Setn (n : Nat) (xs : List (Nat × Nat × Int)) (bo : List (Int × Int)) (ns : List Int) : Prop where
  n1 : 1 ≤ n
  n8 : n ≤ 8
  nx : xs.length ≤ 16
  hx : ∀ x ∈ xs, DOk n x
  lb : bo.length = xs.length
  bd : BdsOk bo
  ln : ns.length = n
  nb : ∀ c ∈ ns, -200 ≤ c ∧ c ≤ 200
theorem stream_pre {p : D} (S : Setn n xs bo ns) (hp : hd1 p = true) : m_shows_stream (bld n xs) (.lst (bo.map pr2)) (.lst (ns.map D.int)) p = if isP p "stream" 2 = true then (o2 dIx (some p) (some (.int 1))).bind fun v => m_serves (bld n xs) (.lst (bo.map pr2)) (.lst (ns.map D.int)) v else m_is_refused_set (bld n xs) (.lst (bo.map pr2)) (.lst (ns.map D.int)) p := by
  have q1 := paper_ok (d := p) (k := "stream") (n := 2) hp kS (by decide)
  simp only [Int.cast_ofNat_Int] at q1
  unfold m_shows_stream
  rw [c1_s, reqb_ok, bs, c2_s, reqbo_ok S.lb S.bd, bs, c2_s, reqne_ok S.ln (by have := S.n8; omega) S.nb, bs, c3_s, q1, o1_some, tru_bl, bs]
  cases isP p "stream" 2 with
  | true =>
    simp only [if_true]
    cases (o2 dIx (some p) (some (.int 1))) <;> rfl
  | false => rfl
theorem stream_t (S : Setn n xs bo ns) : m_shows_stream (bld n xs) (.lst (bo.map pr2)) (.lst (ns.map D.int)) (.tup [.str "stream", .tup (ss.map D.int)]) = some (.bl (fitB bo ss && decide (gains n xs ss = ns))) := by
  rw [stream_pre S (hdS _), isP2, if_pos sss_eq, o2_some, dIx_tup, atI_1, bs, serves_t S.hx (by have := S.n8; omega) S.lb]
theorem stream_l {l : List D} (S : Setn n xs bo ns) : m_shows_stream (bld n xs) (.lst (bo.map pr2)) (.lst (ns.map D.int)) (.tup [.str "stream", .lst l]) = some (.bl false) := by
  rw [stream_pre S (hdS _), isP2, if_pos sss_eq, o2_some, dIx_tup, atI_1, bs, serves_l]
theorem stream_k {k : Str} (hk : k = "starved" ∨ k = "flooded") (S : Setn n xs bo ns) {v : D} : m_shows_stream (bld n xs) (.lst (bo.map pr2)) (.lst (ns.map D.int)) (.tup [.str k, v]) = m_is_refused_set (bld n xs) (.lst (bo.map pr2)) (.lst (ns.map D.int)) (.tup [.str k, v]) := by
  obtain ⟨sk, _, _, hs⟩ := kinds hk
  rw [stream_pre S (show hd1 (.tup [.str k, v]) = true from sk), isP2, hs]
  rfl
theorem stream_no {p : D} (S : Setn n xs bo ns) (hp : hd1 p = true) (h0 : isP p "stream" 2 = false) (h1 : isP p "starved" 2 = false) (h2 : isP p "flooded" 2 = false) : m_shows_stream (bld n xs) (.lst (bo.map pr2)) (.lst (ns.map D.int)) p = some (.bl false) := by
  rw [stream_pre S hp, h0, refused_nop hp h1 h2]
  rfl
end
end Mi
namespace Mi
open PySem L2
/-! gains, room by room -/
def gj (a : Nat) (z : (Nat × Nat × Int) × Int) : Int := (if z.1.2.1 = a then z.2 else 0) - (if z.1.1 = a then z.2 else 0)
theorem gst_at (G : List Int) (z : (Nat × Nat × Int) × Int) (h1 : z.1.1 < G.length) (h2 : z.1.2.1 < G.length) (a : Nat) : (gst G z).getD a 0 = G.getD a 0 + gj a z := by
  unfold gst gj
  dsimp only
  by_cases e2 : z.1.2.1 = a
  · subst e2
    rw [getD_set_eq _ _ _ (by rw [List.length_set]; exact h2), if_pos rfl]
    by_cases e1 : z.1.1 = z.1.2.1
    · rw [if_pos e1, e1, getD_set_eq _ _ _ h2]; omega
    · rw [if_neg e1, getD_set_ne _ _ _ e1]; omega
  · rw [getD_set_ne _ _ _ e2, if_neg e2]
    by_cases e1 : z.1.1 = a
    · rw [if_pos e1, ← e1, getD_set_eq _ _ _ h1]; omega
    · rw [if_neg e1, getD_set_ne _ _ _ e1]; omega
theorem fold_at {n : Nat} (a : Nat) : ∀ (zs : List ((Nat × Nat × Int) × Int)) (G : List Int), G.length = n → (∀ z ∈ zs, z.1.1 < n ∧ z.1.2.1 < n) → (zs.foldl gst G).getD a 0 = G.getD a 0 + (zs.map (gj a)).sum
  | [], G, _, _ => by simp
  | z :: zs, G, hl, hz => by
    obtain ⟨z1, z2⟩ := hz z (by simp)
    rw [List.foldl_cons, fold_at a zs (gst G z) (by rw [gst_len, hl]) (fun y hy => hz y (by simp [hy])), gst_at G z (by omega) (by omega), List.map_cons, List.sum_cons]
    omega
theorem getD_rep (n a : Nat) : (List.replicate n (0 : Int)).getD a 0 = 0 := by
  by_cases h : a < n <;> simp [List.getD, h]
section
variable {n : Nat} {xs : List (Nat × Nat × Int)} {bo : List (Int × Int)} {ss ns : List Int} {K : List Nat}
theorem gains_at (hx : ∀ x ∈ xs, DOk n x) (a : Nat) : (gains n xs ss).getD a 0 = ((xs.zip ss).map (gj a)).sum := by
  unfold gains
  rw [fold_at (n := n) a _ _ (by simp) (fun z hz => by
    have := hx _ (List.of_mem_zip hz).1
    exact ⟨this.1, this.2.1⟩), getD_rep]
  omega
theorem sum_zip_set {α : Type} (f : α × Int → Int) (d : α) : ∀ (xs : List α) (ss : List Int) (k : Nat) (v : Int), k < xs.length → k < ss.length → ((xs.zip (ss.set k v)).map f).sum = ((xs.zip ss).map f).sum - f (xs.getD k d, ss.getD k 0) + f (xs.getD k d, v)
  | [], ss, k, v, h, _ => by simp at h
  | x :: xs, [], k, v, _, h => by simp at h
  | x :: xs, s :: ss, 0, v, _, _ => by simp; omega
  | x :: xs, s :: ss, k + 1, v, h1, h2 => by
    have := sum_zip_set f d xs ss k v (by simpa using h1) (by simpa using h2)
    simp only [List.set_cons_succ, List.zip_cons_cons, List.map_cons, List.sum_cons, List.getD_cons_succ]
    omega
theorem gains_set (hx : ∀ x ∈ xs, DOk n x) {k : Nat} {v : Int} (hk : k < xs.length) (ls : ss.length = xs.length) (a : Nat) : (gains n xs (ss.set k v)).getD a 0 = (gains n xs ss).getD a 0 - gj a (xs.getD k (0, 0, 0), ss.getD k 0) + gj a (xs.getD k (0, 0, 0), v) := by
  rw [gains_at hx, gains_at hx, sum_zip_set (gj a) (0, 0, 0) xs ss k v hk (by omega)]
/-- the gains of a set -/
def nk (K : List Nat) (z : (Nat × Nat × Int) × Int) : Int := (if z.1.2.1 ∈ K then z.2 else 0) - (if z.1.1 ∈ K then z.2 else 0)
theorem sum_gj {K : List Nat} (hn : K.Nodup) (z : (Nat × Nat × Int) × Int) : (K.map fun a => gj a z).sum = nk K z := by
  induction K with
  | nil => simp [nk]
  | cons a K ih =>
    rw [List.nodup_cons] at hn
    rw [List.map_cons, List.sum_cons, ih hn.2]
    unfold gj nk
    by_cases h1 : z.1.2.1 = a <;> by_cases h2 : z.1.1 = a
    · have : a ∉ K := hn.1
      simp [h1, h2, this]
    · have e1 : z.1.2.1 ∉ K := by rw [h1]; exact hn.1
      simp [h1, h2, hn.1]
      omega
    · have e1 : z.1.1 ∉ K := by rw [h2]; exact hn.1
      simp [h1, h2, hn.1]
      omega
    · simp [h1, h2]
theorem sum_swap (zs : List ((Nat × Nat × Int) × Int)) : ∀ (K : List Nat), (K.map fun a => (zs.map (gj a)).sum).sum = (zs.map fun z => (K.map fun a => gj a z).sum).sum := by
  induction zs with
  | nil => intro K; induction K with
    | nil => rfl
    | cons a K ih => rw [List.map_cons, List.sum_cons, ih]; rfl
  | cons z zs ih =>
    intro K
    have e : (K.map fun a => ((z :: zs).map (gj a)).sum).sum = (K.map fun a => gj a z).sum + (K.map fun a => (zs.map (gj a)).sum).sum := by
      induction K with
      | nil => rfl
      | cons a K ihk =>
        rw [List.map_cons, List.sum_cons, ihk, List.map_cons, List.sum_cons, List.map_cons, List.sum_cons, List.map_cons, List.sum_cons]
        omega
    rw [e, ih K, List.map_cons, List.sum_cons]
theorem needK_gains (hx : ∀ x ∈ xs, DOk n x) (hn : K.Nodup) : needK (gains n xs ss) K = ((xs.zip ss).map (nk K)).sum := by
  unfold needK
  have e : (K.map fun a => (gains n xs ss).getD a 0) = K.map fun a => ((xs.zip ss).map (gj a)).sum := List.map_congr_left fun a _ => gains_at hx a
  rw [e, sum_swap]
  congr 1
  exact List.map_congr_left fun z _ => sum_gj hn z
/-! the tree of a search -/
abbrev Ent := Nat × Option (Nat × Nat × Int)
def encV : Option (Nat × Nat × Int) → D
  | none => .non
  | some (h, d, s) => .tup [.int (h : Int), .int (d : Int), .int s]
def dicE (L : List Ent) : D := .dic (L.map fun e => (Sum.inl (e.1 : Int) : Key)) (L.map fun e => encV e.2)
def ky (L : List Ent) : List Nat := L.map (·.1)
theorem dicE_eq (L : List Ent) : dicE L = .dic ((ky L).map fun (i : Nat) => (Sum.inl (i : Int) : Key)) (L.map fun e => encV e.2) := by
  unfold dicE ky
  rw [List.map_map]
  rfl
theorem dicE_in (L : List Ent) (a : Nat) : dIn (.int (a : Int)) (dicE L) = some (.bl (decide (a ∈ ky L))) := by
  rw [dicE_eq]
  exact dIn_keys (by simp [ky])
theorem dicE_set {L : List Ent} {a : Nat} (v : Option (Nat × Nat × Int)) (hn : (ky L).Nodup) (ha : a ∉ ky L) (hl : L.length ≤ 1000) : dSet (dicE L) (.int (a : Int)) (encV v) = some (dicE (L ++ [(a, v)])) := by
  rw [dicE_eq, dSet_keys (by simp [ky]) hn ha (by simp [ky]; omega), dicE_eq]
  simp [ky]
theorem look_mid {pre post : List Ent} {a : Nat} {v : Option (Nat × Nat × Int)} (ha : a ∉ ky pre) : look ((pre ++ (a, v) :: post).map fun e => (Sum.inl (e.1 : Int) : Key)) ((pre ++ (a, v) :: post).map fun e => encV e.2) (.inl (a : Int)) = some (encV v) := by
  induction pre with
  | nil => simp [look]
  | cons e pre ih =>
    simp only [ky, List.map_cons, List.mem_cons, not_or] at ha
    have ne : ¬ ((e.1 : Int) = (a : Int)) := by omega
    have := ih ha.2
    simp only [List.cons_append, List.map_cons, look, List.zip_cons_cons, List.find?_cons, Sum.inl.injEq, ne, decide_false] at this ⊢
    exact this
theorem dicE_ix {L : List Ent} {p : Nat} (hn : (ky L).Nodup) (hp : p < L.length) : dIx (dicE L) (.int ((L.getD p (0, none)).1 : Int)) = some (encV (L.getD p (0, none)).2) := by
  have e : L = L.take p ++ (L.getD p (0, none)) :: L.drop (p + 1) := by
    have : L.getD p (0, none) = L[p] := by simp [List.getD, hp]
    rw [this, List.getElem_cons_drop, List.take_append_drop]
  show ((some (Sum.inl ((L.getD p (0, none)).1 : Int) : Key)).map (fun k => look (L.map fun e => (Sum.inl (e.1 : Int) : Key)) (L.map fun e => encV e.2) k)).bind id = _
  rw [ms]
  have hm : (L.getD p (0, none)).1 ∉ ky (L.take p) := fun hm => by
    have h2 : ky L = ky (L.take p) ++ ky ((L.getD p (0, none)) :: L.drop (p + 1)) := by
      conv => lhs; rw [e]
      simp [ky]
    rw [h2, List.nodup_append] at hn
    exact hn.2.2 _ hm _ (by simp [ky]) rfl
  have := look_mid (pre := L.take p) (post := L.drop (p + 1)) (a := (L.getD p (0, none)).1) (v := (L.getD p (0, none)).2) hm
  rw [← e] at this
  rw [this]
  rfl
theorem intKeys_N (K : List Nat) : intKeys (K.map fun (i : Nat) => (Sum.inl (i : Int) : Key)) = some (K.map fun (i : Nat) => (i : Int)) := by
  induction K with
  | nil => rfl
  | cons a K ih => simp [intKeys, ih]
theorem dicE_sorted {L : List Ent} (hn : (ky L).Nodup) (hl : L.length < 64) : ∃ K : List Nat, dSorted (dicE L) = some (lstN K) ∧ K.Pairwise (· < ·) ∧ ∀ a, a ∈ K ↔ a ∈ ky L := by
  obtain ⟨K, h1, h2, h3⟩ := sortN (ky L)
  refine ⟨K, ?_, ?_, fun a => h2.mem_iff⟩
  · rw [dicE_eq]
    unfold dSorted
    dsimp only
    rw [intKeys_N, bs, if_pos (by simp [ky]; exact hl), h1, ← mapN]
    rfl
  · have nd : K.Nodup := h2.nodup_iff.mpr hn
    exact List.Pairwise.imp₂ (fun {a b} x y => by omega) h3 nd
/-- a step of the tree: one unit more may come from v to h through d -/
def Edge (xs : List (Nat × Nat × Int)) (bo : List (Int × Int)) (ss : List Int) (v h d : Nat) (s : Int) : Prop :=
  d < xs.length ∧ ((s = 1 ∧ (xs.getD d (0, 0, 0)).1 = v ∧ (xs.getD d (0, 0, 0)).2.1 = h ∧ ss.getD d 0 < (bo.getD d (0, 0)).2) ∨ (s = -1 ∧ (xs.getD d (0, 0, 0)).1 = h ∧ (xs.getD d (0, 0, 0)).2.1 = v ∧ (bo.getD d (0, 0)).1 < ss.getD d 0))
structure Tree (n : Nat) (xs : List (Nat × Nat × Int)) (bo : List (Int × Int)) (ss : List Int) (r : Nat) (L : List Ent) : Prop where
  h0 : L.getD 0 (0, none) = (r, none) ∧ 0 < L.length
  nd : (ky L).Nodup
  lt : ∀ a ∈ ky L, a < n
  st : ∀ i, 0 < i → i < L.length → ∃ h d s, (L.getD i (0, none)).2 = some (h, d, s) ∧ Edge xs bo ss (L.getD i (0, none)).1 h d s ∧ h ∈ ky (L.take i)
theorem Tree.len {r : Nat} {L : List Ent} (t : Tree n xs bo ss r L) : L.length ≤ n := by
  have := List.Nodup.length_le_of_subset (l₁ := ky L) (l₂ := List.range n) t.nd fun x hx => List.mem_range.mpr (t.lt x hx)
  simpa [ky] using this
theorem Tree.root {r : Nat} {L : List Ent} (t : Tree n xs bo ss r L) : r ∈ ky L := by
  have := xin (xs := L) (j := 0) (0, none) t.h0.2
  rw [t.h0.1] at this
  exact List.mem_map.mpr ⟨_, this, rfl⟩
theorem Tree.add {r v h d : Nat} {s : Int} {L : List Ent} (t : Tree n xs bo ss r L) (hv : v < n) (hn : v ∉ ky L) (he : Edge xs bo ss v h d s) (hh : h ∈ ky L) : Tree n xs bo ss r (L ++ [(v, some (h, d, s))]) := by
  refine ⟨⟨by rw [getD_app_lt _ _ _ t.h0.2]; exact t.h0.1, by simp⟩, ?_, fun a ha => ?_, fun i h1 h2 => ?_⟩
  · unfold ky
    rw [List.map_append, List.nodup_append]
    exact ⟨t.nd, by simp, fun a ha b hb => by simp at hb; subst hb; exact fun e => hn (e ▸ ha)⟩
  · unfold ky at ha
    rw [List.map_append, List.mem_append] at ha
    rcases ha with z | z
    · exact t.lt a z
    · simp at z; omega
  · by_cases hi : i < L.length
    · obtain ⟨h', d', s', a1, a2, a3⟩ := t.st i h1 hi
      rw [getD_app_lt _ _ _ hi, List.take_append_of_le_length (by omega)]
      exact ⟨h', d', s', a1, a2, a3⟩
    · have e : i = L.length := by simp at h2; omega
      subst e
      rw [getD_app_eq]
      refine ⟨h, d, s, rfl, he, ?_⟩
      rw [List.take_append_of_le_length (Nat.le_refl _), List.take_length]
      exact hh
/-- all that can feed u is in the tree -/
def Closed (xs : List (Nat × Nat × Int)) (bo : List (Int × Int)) (ss : List Int) (k : Nat) (S : List Nat) (u : Nat) : Prop := ∀ j, j < k →
  ((xs.getD j (0, 0, 0)).2.1 = u → ss.getD j 0 < (bo.getD j (0, 0)).2 → (xs.getD j (0, 0, 0)).1 ∈ S) ∧ ((xs.getD j (0, 0, 0)).1 = u → (bo.getD j (0, 0)).1 < ss.getD j 0 → (xs.getD j (0, 0, 0)).2.1 ∈ S)
theorem Closed.mono {k u : Nat} {S S' : List Nat} (h : Closed xs bo ss k S u) (hs : ∀ a ∈ S, a ∈ S') : Closed xs bo ss k S' u := fun j hj => ⟨fun a b => hs _ ((h j hj).1 a b), fun a b => hs _ ((h j hj).2 a b)⟩
theorem ky_app (L M : List Ent) : ky (L ++ M) = ky L ++ ky M := by simp [ky]
/-- one room's ducts -/
theorem inner_ok {r hd : Nat} {L0 : List Ent} {W0 : List Nat} (hx : ∀ x ∈ xs, DOk n x) (hn8 : n ≤ 100) (lb : bo.length = xs.length) (ls : ss.length = xs.length) (hm : xs.length ≤ 1000) (t0 : Tree n xs bo ss r L0) (hh : hd ∈ ky L0) (hW : ∀ w ∈ W0, w ∈ ky L0) (hWl : W0.length ≤ 1000) (hc : ∀ u ∈ ky L0, u ∉ W0 → u = hd ∨ Closed xs bo ss xs.length (ky L0) u) :
    ∃ (L : List Ent) (W : List Nat), foldO (m_feeders_L1 (.int (hd : Int), lstN W0) (.lst (ss.map D.int)) (.lst (bo.map pr2))) (enumed (xs.map dct)) (dicE L0, lstN W0) = some (dicE L, lstN W) ∧ Tree n xs bo ss r L ∧ (∀ w ∈ W, w ∈ ky L) ∧ (∀ u ∈ ky L, u ∉ W → Closed xs bo ss xs.length (ky L) u) ∧ 2 * (n - L.length) + W.length ≤ 2 * (n - L0.length) + W0.length := by
  rw [enumed_eq, List.length_map]
  have key := foldO_inv0 (f := m_feeders_L1 (.int (hd : Int), lstN W0) (.lst (ss.map D.int)) (.lst (bo.map pr2))) (fun i b => ∃ (L : List Ent) (W : List Nat), b = (dicE L, lstN W) ∧ Tree n xs bo ss r L ∧ (∀ w ∈ W, w ∈ ky L) ∧ (∀ a ∈ ky L0, a ∈ ky L) ∧ (∀ u ∈ ky L, u ∉ W → u = hd ∨ Closed xs bo ss xs.length (ky L) u) ∧ Closed xs bo ss i (ky L) hd ∧ 2 * (n - L.length) + W.length ≤ 2 * (n - L0.length) + W0.length ∧ W.length + L0.length ≤ W0.length + L.length)
    ((List.range xs.length).map fun i => (D.int (i : Nat), (xs.map dct).getD i .non)) (dicE L0, lstN W0) ⟨L0, W0, rfl, t0, hW, fun a h => h, hc, fun j hj => by omega, Nat.le_refl _, Nat.le_refl _⟩ (fun i hi b ⟨L, W, hb, t, iW, iL, ic, icl, im, im2⟩ => by
      subst hb
      have hi' : i < xs.length := by simpa using hi
      have e0 : ((List.range xs.length).map fun i => (D.int (i : Nat), (xs.map dct).getD i .non))[i] = (D.int (i : Nat), dct (xs.getD i (0, 0, 0))) := by
        simp only [List.getElem_map, List.getElem_range]
        rw [getD_map dct xs i (0, 0, 0) .non hi']
      obtain ⟨d1, d2, d3⟩ := hx _ (xin (0, 0, 0) hi')
      have s1 := ixmD (f := D.int) (xs := ss) (i := i) 0 (by omega)
      have b1 := ixmD (f := pr2) (xs := bo) (i := i) (0, 0) (by omega)
      have tl := t.len
      have lW : W.length ≤ 1200 := by omega
      rw [e0]
      unfold m_feeders_L1
      simp only [dct, un3, o2_some, eqI, s1, b1, pr2, dIx_tup, atI_0, atI_1, dLt_ii, dGt_ii, dNotIn_of (dicE_in L _), o1_some, tru_bl]
      have cs2 : decide (((xs.getD i (0, 0, 0)).2.1 : Int) = (hd : Int)) = decide ((xs.getD i (0, 0, 0)).2.1 = hd) := by
        by_cases z : (xs.getD i (0, 0, 0)).2.1 = hd
        · rw [decide_eq_true z, z, decide_eq_true rfl]
        · rw [decide_eq_false z, decide_eq_false (by omega)]
      have cs1 : decide (((xs.getD i (0, 0, 0)).1 : Int) = (hd : Int)) = decide ((xs.getD i (0, 0, 0)).1 = hd) := by
        by_cases z : (xs.getD i (0, 0, 0)).1 = hd
        · rw [decide_eq_true z, z, decide_eq_true rfl]
        · rw [decide_eq_false z, decide_eq_false (by omega)]
      rw [cs1, cs2]
      -- what a grown tree asks
      have grow : ∀ (v : Nat) (s : Int), v < n → v ∉ ky L → Edge xs bo ss v hd i s → (∀ j, j = i → ((xs.getD j (0, 0, 0)).2.1 = hd → ss.getD j 0 < (bo.getD j (0, 0)).2 → (xs.getD j (0, 0, 0)).1 = v) ∧ ((xs.getD j (0, 0, 0)).1 = hd → (bo.getD j (0, 0)).1 < ss.getD j 0 → (xs.getD j (0, 0, 0)).2.1 = v)) →
          ∃ (L' : List Ent) (W' : List Nat), some (dicE (L ++ [(v, some (hd, i, s))]), lstN (W ++ [v])) = some (dicE L', lstN W') ∧ Tree n xs bo ss r L' ∧ (∀ w ∈ W', w ∈ ky L') ∧ (∀ a ∈ ky L0, a ∈ ky L') ∧ (∀ u ∈ ky L', u ∉ W' → u = hd ∨ Closed xs bo ss xs.length (ky L') u) ∧ Closed xs bo ss (i + 1) (ky L') hd ∧ 2 * (n - L'.length) + W'.length ≤ 2 * (n - L0.length) + W0.length ∧ W'.length + L0.length ≤ W0.length + L'.length := fun v s hv hn he hj => by
        have t' := t.add hv hn he (iL _ hh)
        have tl' := t'.len
        have up : ∀ a ∈ ky L, a ∈ ky (L ++ [(v, some (hd, i, s))]) := fun a ha => by rw [ky_app]; exact List.mem_append_left _ ha
        have vin : v ∈ ky (L ++ [(v, some (hd, i, s))]) := by rw [ky_app]; simp [ky]
        refine ⟨_, _, rfl, t', fun w hw => ?_, fun a ha => up a (iL a ha), fun u hu hnu => ?_, fun j hji => ?_, ?_, ?_⟩
        · rcases List.mem_append.mp hw with z | z
          · exact up w (iW w z)
          · simp at z; subst z; exact vin
        · rw [ky_app, List.mem_append] at hu
          have nw : u ∉ W := fun z => hnu (List.mem_append_left _ z)
          rcases hu with z | z
          · rcases ic u z nw with y | y
            · exact .inl y
            · exact .inr (y.mono up)
          · exfalso
            simp [ky] at z
            exact hnu (by rw [z]; simp)
        · by_cases e : j < i
          · exact ⟨fun a b => up _ ((icl j e).1 a b), fun a b => up _ ((icl j e).2 a b)⟩
          · have e : j = i := by omega
            obtain ⟨q1, q2⟩ := hj j e
            exact ⟨fun a b => by rw [q1 a b]; exact vin, fun a b => by rw [q2 a b]; exact vin⟩
        · simp only [List.length_append, List.length_cons, List.length_nil] at tl' ⊢; omega
        · simp only [List.length_append, List.length_cons, List.length_nil]; omega
      have stay : (∀ j, j = i → ((xs.getD j (0, 0, 0)).2.1 = hd → ss.getD j 0 < (bo.getD j (0, 0)).2 → (xs.getD j (0, 0, 0)).1 ∈ ky L) ∧ ((xs.getD j (0, 0, 0)).1 = hd → (bo.getD j (0, 0)).1 < ss.getD j 0 → (xs.getD j (0, 0, 0)).2.1 ∈ ky L)) →
          ∃ (L' : List Ent) (W' : List Nat), some (dicE L, lstN W) = some (dicE L', lstN W') ∧ Tree n xs bo ss r L' ∧ (∀ w ∈ W', w ∈ ky L') ∧ (∀ a ∈ ky L0, a ∈ ky L') ∧ (∀ u ∈ ky L', u ∉ W' → u = hd ∨ Closed xs bo ss xs.length (ky L') u) ∧ Closed xs bo ss (i + 1) (ky L') hd ∧ 2 * (n - L'.length) + W'.length ≤ 2 * (n - L0.length) + W0.length ∧ W'.length + L0.length ≤ W0.length + L'.length := fun hj => by
        refine ⟨_, _, rfl, t, iW, iL, ic, fun j hji => ?_, im, im2⟩
        by_cases e : j < i
        · exact icl j e
        · exact hj j (by omega)
      have app : ∀ v : Nat, dApp (lstN W) (.int (v : Int)) = some (lstN (W ++ [v])) := fun v => by
        unfold lstN
        rw [dApp_s (by rw [List.length_map]; omega)]
        simp
      have put : ∀ (v : Nat) (s : Int), v ∉ ky L → dSet (dicE L) (.int (v : Int)) (.tup [.int (hd : Int), .int (i : Int), .int s]) = some (dicE (L ++ [(v, some (hd, i, s))])) := fun v s hv => dicE_set (some (hd, i, s)) t.nd hv (by omega)
      have fin : ∀ {o : Option (D × D)} {P : D × D → Prop}, (∃ (L' : List Ent) (W' : List Nat), o = some (dicE L', lstN W') ∧ Tree n xs bo ss r L' ∧ (∀ w ∈ W', w ∈ ky L') ∧ (∀ a ∈ ky L0, a ∈ ky L') ∧ (∀ u ∈ ky L', u ∉ W' → u = hd ∨ Closed xs bo ss xs.length (ky L') u) ∧ Closed xs bo ss (i + 1) (ky L') hd ∧ 2 * (n - L'.length) + W'.length ≤ 2 * (n - L0.length) + W0.length ∧ W'.length + L0.length ≤ W0.length + L'.length) → ∃ b', o = some b' ∧ ∃ (L' : List Ent) (W' : List Nat), b' = (dicE L', lstN W') ∧ Tree n xs bo ss r L' ∧ (∀ w ∈ W', w ∈ ky L') ∧ (∀ a ∈ ky L0, a ∈ ky L') ∧ (∀ u ∈ ky L', u ∉ W' → u = hd ∨ Closed xs bo ss xs.length (ky L') u) ∧ Closed xs bo ss (i + 1) (ky L') hd ∧ 2 * (n - L'.length) + W'.length ≤ 2 * (n - L0.length) + W0.length ∧ W'.length + L0.length ≤ W0.length + L'.length := fun {o P} ⟨L', W', h, q⟩ => ⟨_, h, L', W', rfl, q⟩
      refine fin (P := fun _ => True) ?_
      by_cases a1 : (xs.getD i (0, 0, 0)).2.1 = hd
      · have ne : ¬ (xs.getD i (0, 0, 0)).1 = hd := fun z => d3.1 (by rw [z, a1])
        by_cases a2 : ss.getD i 0 < (bo.getD i (0, 0)).2
        · by_cases a3 : (xs.getD i (0, 0, 0)).1 ∈ ky L
          · simp only [decide_eq_true a1, decide_eq_true a2, decide_eq_true a3, decide_eq_false ne, Bool.not_true, oAnd_t, oAnd_f, bs, Bool.false_eq_true, if_false]
            exact stay fun j e => by subst e; exact ⟨fun _ _ => a3, fun z => absurd z ne⟩
          · simp only [decide_eq_true a1, decide_eq_true a2, decide_eq_false a3, Bool.not_false, oAnd_t, bs, if_true, oCons_some, o1_some, dTup3]
            rw [put _ _ a3]
            simp only [bs, app]
            exact grow _ _ d1 a3 ⟨hi', .inl ⟨rfl, rfl, a1, a2⟩⟩ fun j e => by subst e; exact ⟨fun _ _ => rfl, fun z => absurd z ne⟩
        · simp only [decide_eq_true a1, decide_eq_false a2, decide_eq_false ne, oAnd_t, oAnd_f, bs, Bool.false_eq_true, if_false]
          exact stay fun j e => by subst e; exact ⟨fun _ z => absurd z a2, fun z => absurd z ne⟩
      · by_cases c1 : (xs.getD i (0, 0, 0)).1 = hd
        · by_cases c2 : (bo.getD i (0, 0)).1 < ss.getD i 0
          · by_cases c3 : (xs.getD i (0, 0, 0)).2.1 ∈ ky L
            · simp only [decide_eq_false a1, decide_eq_true c1, decide_eq_true c2, decide_eq_true c3, Bool.not_true, oAnd_t, oAnd_f, bs, Bool.false_eq_true, if_false]
              exact stay fun j e => by subst e; exact ⟨fun z => absurd z a1, fun _ _ => c3⟩
            · simp only [decide_eq_false a1, decide_eq_true c1, decide_eq_true c2, decide_eq_false c3, Bool.not_false, oAnd_t, oAnd_f, bs, Bool.false_eq_true, if_false, if_true, oCons_some, o1_some, dNeg_i, dTup3]
              rw [put _ _ c3]
              simp only [bs, app]
              exact grow _ _ d2 c3 ⟨hi', .inr ⟨rfl, c1, rfl, c2⟩⟩ fun j e => by subst e; exact ⟨fun z => absurd z a1, fun _ _ => rfl⟩
          · simp only [decide_eq_false a1, decide_eq_true c1, decide_eq_false c2, oAnd_t, oAnd_f, bs, Bool.false_eq_true, if_false]
            exact stay fun j e => by subst e; exact ⟨fun z => absurd z a1, fun _ z => absurd z c2⟩
        · simp only [decide_eq_false a1, decide_eq_false c1, oAnd_f, bs, Bool.false_eq_true, if_false]
          exact stay fun j e => by subst e; exact ⟨fun z => absurd z a1, fun z => absurd z c1⟩)
  obtain ⟨b', e1, L, W, hb, t, iW, iL, ic, icl, im, _⟩ := key
  subst hb
  rw [List.length_map, List.length_range] at icl
  refine ⟨L, W, e1, t, iW, fun u hu hn => ?_, im⟩
  rcases ic u hu hn with z | z
  · subst z; exact icl
  · exact z
end
end Mi
namespace Mi
open PySem L2
section
variable {n : Nat} {xs : List (Nat × Nat × Int)} {bo : List (Int × Int)} {ss ns : List Int} {K : List Nat}
theorem pop_N (W : List Nat) (a : Nat) : dPop (lstN (W ++ [a])) = some (.int (a : Int), lstN W) := by
  unfold lstN dPop
  rw [List.map_append]
  simp
def muF (n : Nat) (b : D × D) : Nat := match b.1, b.2 with
  | .lst ws, .dic ks _ => 2 * (n - ks.length) + ws.length
  | _, _ => 0
theorem muF_eq (L : List Ent) (W : List Nat) : muF n (lstN W, dicE L) = 2 * (n - L.length) + W.length := by simp [muF, lstN, dicE]
theorem feeders_ok {r : Nat} (hx : ∀ x ∈ xs, DOk n x) (hn8 : n ≤ 60) (lb : bo.length = xs.length) (ls : ss.length = xs.length) (hm : xs.length ≤ 1000) (hr : r < n) :
    ∃ L, m_feeders (bld n xs) (.lst (bo.map pr2)) (.lst (ss.map D.int)) (.int (r : Int)) = some (dicE L) ∧ Tree n xs bo ss r L ∧ ∀ u ∈ ky L, Closed xs bo ss xs.length (ky L) u := by
  have e2 : o1 dSeq (o1 (dFld "Building" "ducts") (some (bld n xs))) = some (xs.map dct) := by
    unfold bld
    rw [o1_some, fld2, o1_some, dSeq_tup]
  have t0 : Tree n xs bo ss r [(r, none)] := ⟨⟨rfl, by simp⟩, by simp [ky], fun a ha => by simp [ky] at ha; omega, fun i h1 h2 => by simp at h2; omega⟩
  obtain ⟨o, ho, L, hL, t, hc⟩ := whileO_run (γ := Empty) (c := m_feeders_T2) (f := m_feeders_W3 (bld n xs) (.lst (ss.map D.int)) (.lst (bo.map pr2)))
    (fun b => ∃ (L : List Ent) (W : List Nat), b = (lstN W, dicE L) ∧ Tree n xs bo ss r L ∧ (∀ w ∈ W, w ∈ ky L) ∧ (∀ u ∈ ky L, u ∉ W → Closed xs bo ss xs.length (ky L) u) ∧ W.length + 2 * (n - L.length) ≤ 2 * n) (muF n)
    (fun o => ∃ L, o = .nx (lstN [], dicE L) ∧ Tree n xs bo ss r L ∧ ∀ u ∈ ky L, Closed xs bo ss xs.length (ky L) u)
    (fun b ⟨L, W, hb, t, iW, ic, im⟩ => by
      subst hb
      have ht : m_feeders_T2 (lstN W, dicE L) = some (decide (0 < W.length)) := by
        unfold m_feeders_T2 lstN
        rw [c1_s, dLen_lst, List.length_map, o2_some, dGt_ii, o1_some, tru_bl]
        congr 1
        by_cases z : 0 < W.length
        · rw [decide_eq_true z, decide_eq_true (by omega)]
        · rw [decide_eq_false z, decide_eq_false (by omega)]
      rcases List.eq_nil_or_concat W with e | ⟨W', hd, e⟩
      · subst e
        exact .inl ⟨by rw [ht]; rfl, L, rfl, t, fun u hu => ic u hu (by simp)⟩
      · rw [List.concat_eq_append] at e
        subst e
        refine .inr ⟨by rw [ht]; simp, .inl ?_⟩
        obtain ⟨L', W2, h1, t', iW', ic', im'⟩ := inner_ok (W0 := W') (hd := hd) hx (by omega) lb ls hm t (iW hd (by simp)) (fun w hw => iW w (by simp [hw])) (by simp at im; omega) (fun u hu hn => by
          by_cases z : u = hd
          · exact .inl z
          · exact .inr (ic u hu (by simp [hn, z])))
        refine ⟨(lstN W2, dicE L'), ?_, ⟨L', W2, rfl, t', iW', ic', by simp at im; omega⟩, ?_⟩
        · unfold m_feeders_W3
          rw [pop_N, bs, e2, ms, bs, h1, bs]
        · rw [muF_eq, muF_eq]
          simp
          omega) (lstN [r], dicE [(r, none)]) ⟨[(r, none)], [r], rfl, t0, fun w hw => by simp at hw; subst hw; simp [ky], fun u hu hn => by simp [ky] at hu; simp [hu] at hn, by simp; omega⟩
  refine ⟨L, ?_, t, hc⟩
  unfold m_feeders
  have d1 : dDisp1 (.int (r : Int)) .non = some (dicE [(r, none)]) := id rfl
  have l1 : dLst [.int (r : Int)] = some (lstN [r]) := dLst1 _
  rw [o2_some, d1, bs, oCons_some, o1_some, l1, bs, ho, hL, bs, Out.thnD_nx]
/-! one unit along the tree -/
def ind (a b : Nat) : Int := if a = b then 1 else 0
theorem feed_ok {r g : Nat} {L : List Ent} (hx : ∀ x ∈ xs, DOk n x) (lb : bo.length = xs.length) (t : Tree n xs bo ss r L) (hg : g ∈ ky L) (hf : fitB bo ss = true) :
    ∃ fin : List Int, m_feed (.lst (ss.map D.int)) (dicE L) (.int (g : Int)) = some (.non, [(0, .lst (fin.map D.int))]) ∧ fitB bo fin = true ∧ ∀ a, (gains n xs fin).getD a 0 = (gains n xs ss).getD a 0 - ind g a + ind r a := by
  have ls := (fit_len hf).trans lb
  obtain ⟨p0, hp0, hgp⟩ : ∃ p, p < L.length ∧ (L.getD p (0, none)).1 = g := by
    obtain ⟨e, he, rfl⟩ := List.mem_map.mp hg
    obtain ⟨j, hj, h⟩ := mem_getD (0, none) he
    exact ⟨j, hj, by rw [h]⟩
  have pos_of : ∀ {p q : Nat}, p < L.length → q < L.length → (L.getD p (0, none)).1 = (L.getD q (0, none)).1 → p = q := fun {p q} hp hq e => by
    have h1 : (ky L)[p]'(by simp [ky]; exact hp) = (ky L)[q]'(by simp [ky]; exact hq) := by
      simp only [ky, List.getElem_map]
      simpa [List.getD, hp, hq] using e
    exact (List.getElem_inj t.nd).mp h1
  have in_take : ∀ {v k : Nat}, v ∈ ky (L.take k) → ∃ q, q < k ∧ q < L.length ∧ (L.getD q (0, none)).1 = v := fun {v k} hv => by
    obtain ⟨e, he, rfl⟩ := List.mem_map.mp hv
    obtain ⟨j, hj, h⟩ := mem_getD (0, none) he
    rw [List.length_take] at hj
    refine ⟨j, by omega, by omega, ?_⟩
    have : (L.take k).getD j (0, none) = L.getD j (0, none) := by
      simp only [List.getD, List.getElem?_take]
      rw [if_pos (by omega)]
    rw [← this, h]
  have take_in : ∀ {q k : Nat}, q < k → q < L.length → (L.getD q (0, none)).1 ∈ ky (L.take k) := fun {q k} h1 h2 => by
    have : L.getD q (0, none) = (L.take k).getD q (0, none) := by
      simp only [List.getD, List.getElem?_take]
      rw [if_pos h1]
    rw [this]
    exact List.mem_map.mpr ⟨_, xin _ (by rw [List.length_take]; omega), rfl⟩
  obtain ⟨o, ho, fin, v, hfin, hff, hgg⟩ := whileO_run (γ := Empty) (c := m_feed_T1 (dicE L)) (f := m_feed_W2 (dicE L))
    (fun b => ∃ (p : Nat) (cur : List Int), p < L.length ∧ b = (.int ((L.getD p (0, none)).1 : Int), .lst (cur.map D.int)) ∧ fitB bo cur = true ∧ (∀ j, j < xs.length → (xs.getD j (0, 0, 0)).1 ∈ ky (L.take (p + 1)) → (xs.getD j (0, 0, 0)).2.1 ∈ ky (L.take (p + 1)) → cur.getD j 0 = ss.getD j 0) ∧ ∀ a, (gains n xs cur).getD a 0 = (gains n xs ss).getD a 0 - ind g a + ind (L.getD p (0, none)).1 a)
    (fun b => match b.1 with | .int v => (ky L).idxOf v.toNat | _ => 0)
    (fun o => ∃ (fin : List Int) (v : D), o = .nx (v, .lst (fin.map D.int)) ∧ fitB bo fin = true ∧ ∀ a, (gains n xs fin).getD a 0 = (gains n xs ss).getD a 0 - ind g a + ind r a)
    (fun b ⟨p, cur, hp, hb, hfc, hsame, hga⟩ => by
      subst hb
      have lc := (fit_len hfc).trans lb
      have hix := dicE_ix t.nd hp
      have ht : m_feed_T1 (dicE L) (.int ((L.getD p (0, none)).1 : Int), .lst (cur.map D.int)) = some (match (L.getD p (0, none)).2 with | none => false | some _ => true) := by
        unfold m_feed_T1
        dsimp only
        rw [o2_some, hix]
        cases (L.getD p (0, none)).2 <;> rfl
      have idx : ∀ q, q < L.length → (ky L).idxOf (L.getD q (0, none)).1 = q := fun q hq => by
        have hk : q < (ky L).length := by simp [ky]; exact hq
        have e : (L.getD q (0, none)).1 = (ky L)[q] := by simp [ky, List.getD, hq]
        rw [e]
        exact t.nd.idxOf_getElem q hk
      by_cases hp0 : p = 0
      · subst hp0
        rw [t.h0.1] at ht hga
        rw [t.h0.1]
        exact .inl ⟨ht, cur, _, rfl, hfc, hga⟩
      · obtain ⟨h, d, s, he, hE, hh⟩ := t.st p (by omega) hp
        rw [he] at ht hix
        obtain ⟨q, q1, q2, q3⟩ := in_take hh
        obtain ⟨hd, hE'⟩ := hE
        refine .inr ⟨ht, .inl ?_⟩
        have pin : (L.getD p (0, none)).1 ∈ ky (L.take (p + 1)) := take_in (by omega) hp
        have hin : h ∈ ky (L.take (p + 1)) := by rw [← q3]; exact take_in (by omega) q2
        have cd : cur.getD d 0 = ss.getD d 0 := by
          refine hsame d hd ?_ ?_
          · rcases hE' with ⟨_, a, _, _⟩ | ⟨_, a, _, _⟩
            · rw [a]; exact pin
            · rw [a]; exact hin
          · rcases hE' with ⟨_, _, a, _⟩ | ⟨_, _, a, _⟩
            · rw [a]; exact hin
            · rw [a]; exact pin
        have hv : ∀ {x : Nat}, x ∈ ky (L.take (q + 1)) → x ≠ (L.getD p (0, none)).1 := fun {x} hx e => by
          obtain ⟨y, y1, y2, y3⟩ := in_take hx
          have := pos_of y2 hp (y3.trans e)
          omega
        refine ⟨(.int (h : Int), .lst ((cur.set d (cur.getD d 0 + s)).map D.int)), ?_, ⟨q, cur.set d (cur.getD d 0 + s), q2, by rw [q3], ?_, fun j hj h1 h2 => ?_, fun a => ?_⟩, ?_⟩
        · unfold m_feed_W2
          dsimp only
          rw [o2_some, hix, bs]
          simp only [encV, un3]
          rw [bs, dGetO_i (by omega), bs, bs, dAddI_ii, bs, dSet_i (by omega), bs, bs]
        · -- within the bounds
          unfold fitB at hfc ⊢
          rw [Bool.and_eq_true, List.all_eq_true] at hfc
          rw [Bool.and_eq_true, List.all_eq_true]
          refine ⟨by rw [List.length_set]; exact hfc.1, fun j hj => ?_⟩
          have hj' := hfc.2 j hj
          by_cases e : d = j
          · subst e
            rw [getD_set_eq _ _ _ (by omega)]
            rw [Bool.and_eq_true, decide_eq_true_eq, decide_eq_true_eq] at hj' ⊢
            rcases hE' with ⟨a, _, _, b⟩ | ⟨a, _, _, b⟩ <;> omega
          · rw [getD_set_ne _ _ _ e]
            exact hj'
        · -- the others stand
          have mono : ∀ {x : Nat}, x ∈ ky (L.take (q + 1)) → x ∈ ky (L.take (p + 1)) := fun {x} hx => by
            obtain ⟨y, y1, y2, y3⟩ := in_take hx
            rw [← y3]
            exact take_in (by omega) y2
          have ne : d ≠ j := fun e => by
            subst e
            rcases hE' with ⟨_, a, _, _⟩ | ⟨_, _, a, _⟩
            · exact hv h1 a
            · exact hv h2 a
          rw [getD_set_ne _ _ _ ne]
          exact hsame j hj (mono h1) (mono h2)
        · -- the gains
          rw [gains_set hx hd lc, hga a, q3]
          unfold gj ind
          dsimp only
          rcases hE' with ⟨e1, e2, e3, _⟩ | ⟨e1, e2, e3, _⟩ <;> rw [e1, e2, e3] <;> split <;> split <;> omega
        · show (ky L).idxOf (h : Int).toNat < (ky L).idxOf ((L.getD p (0, none)).1 : Int).toNat
          rw [Int.toNat_natCast, Int.toNat_natCast, idx p hp, ← q3, idx q q2]
          exact q1)
    (.int (g : Int), .lst (ss.map D.int)) ⟨p0, ss, hp0, by rw [hgp], hf, fun j _ _ _ => rfl, fun a => by rw [hgp]; omega⟩
  refine ⟨fin, ?_, hff, hgg⟩
  unfold m_feed
  rw [bs, ho, hfin, bs, Out.thnU_nx]
/-! the stream that serves, or a starved set -/
theorem gains_fit {b0 : Int} (hx : ∀ x ∈ xs, DOk n x) (hm : xs.length ≤ 16) (bd : BdsOk bo) (lb : bo.length = xs.length) (hf : fitB bo ss = true) : (gains n xs ss).length = n ∧ (gains n xs ss).sum = 0 := by
  have ls := (fit_len hf).trans lb
  obtain ⟨a1, a2, _⟩ := fold_bd (n := n) (b := 12) (by decide) (zs := xs.zip ss) (G := List.replicate n 0) (B := 0) (by simp) (fun z hz => by
    have z1 := hx _ (List.of_mem_zip hz).1
    refine ⟨⟨z1.1, z1.2.1, z1.2.2.1⟩, ?_⟩
    obtain ⟨j, hj, e⟩ := mem_getD 0 (List.of_mem_zip hz).2
    unfold fitB at hf
    rw [Bool.and_eq_true, List.all_eq_true] at hf
    have := hf.2 j (List.mem_range.mpr (by omega))
    rw [Bool.and_eq_true, decide_eq_true_eq, decide_eq_true_eq, e] at this
    have hb := bd _ (xin (xs := bo) (j := j) (0, 0) (by omega))
    omega) (fun a ha => by rw [(List.mem_replicate.mp ha).2]; simp)
  exact ⟨a1, by unfold gains; rw [a2]; simp⟩
def gap (ns G : List Int) (n : Nat) : Nat := ((List.range n).map fun a => (G.getD a 0 - ns.getD a 0).natAbs).sum
theorem sum_lt {f h : Nat → Nat} : ∀ {l : List Nat}, (∀ a ∈ l, f a ≤ h a) → (∃ a ∈ l, f a < h a) → (l.map f).sum < (l.map h).sum
  | [], _, ⟨a, ha, _⟩ => by cases ha
  | b :: l, hle, ⟨a, ha, hlt⟩ => by
    rw [List.map_cons, List.map_cons, List.sum_cons, List.sum_cons]
    have hb := hle b (by simp)
    have le : ∀ {l : List Nat}, (∀ a ∈ l, f a ≤ h a) → (l.map f).sum ≤ (l.map h).sum := by
      intro l
      induction l with
      | nil => intro _; exact Nat.le_refl _
      | cons c l ih =>
        intro hl
        rw [List.map_cons, List.map_cons, List.sum_cons, List.sum_cons]
        have := hl c (by simp)
        have := ih fun a ha => hl a (by simp [ha])
        omega
    rcases List.mem_cons.mp ha with z | z
    · subst z
      have := le (l := l) fun c hc => hle c (by simp [hc])
      omega
    · have := sum_lt (l := l) (fun c hc => hle c (by simp [hc])) ⟨a, z, hlt⟩
      omega
def muS (n : Nat) (xs : List (Nat × Nat × Int)) (ns : List Int) (b : D) : Nat := match dInts b with
  | some ss => gap ns (gains n xs ss) n
  | none => 0
theorem muS_eq (ss : List Int) : muS n xs ns (.lst (ss.map D.int)) = gap ns (gains n xs ss) n := by simp [muS, dInts, asInts_map]
theorem filt (p : Nat → Bool) (f : D → Option (Option D)) (K : List Nat) (hl : K.length ≤ 1000) (h : ∀ a ∈ K, f (.int (a : Int)) = some (if p a = true then some (.int (a : Int)) else none)) : dComp f (K.map fun (k : Nat) => D.int (k : Int)) = some (lstN (K.filter p)) := by
  have cg : ∀ d ∈ K.map fun (k : Nat) => D.int (k : Int), f d = some (if (match d with | .int i => p i.toNat | _ => false) = true then some (id d) else none) := fun d hd => by
    obtain ⟨i, hi, rfl⟩ := List.mem_map.mp hd
    rw [h i hi]
    simp
  rw [dComp_filter (by rw [List.length_map]; omega) cg, List.map_id, List.filter_map]
  rfl
theorem ssum_le {f h : Nat → Int} : ∀ {l : List Nat}, (∀ a ∈ l, f a ≤ h a) → (l.map f).sum ≤ (l.map h).sum
  | [], _ => Int.le_refl _
  | b :: l, hle => by
    rw [List.map_cons, List.map_cons, List.sum_cons, List.sum_cons]
    have := hle b (by simp)
    have := ssum_le (l := l) fun a ha => hle a (by simp [ha])
    omega
theorem ssum_lt {f h : Nat → Int} : ∀ {l : List Nat}, (∀ a ∈ l, f a ≤ h a) → (∃ a ∈ l, f a < h a) → (l.map f).sum < (l.map h).sum
  | [], _, ⟨a, ha, _⟩ => by cases ha
  | b :: l, hle, ⟨a, ha, hlt⟩ => by
    rw [List.map_cons, List.map_cons, List.sum_cons, List.sum_cons]
    have hb := hle b (by simp)
    rcases List.mem_cons.mp ha with z | z
    · subst z
      have := ssum_le (l := l) fun c hc => hle c (by simp [hc])
      omega
    · have := ssum_lt (l := l) (fun c hc => hle c (by simp [hc])) ⟨a, z, hlt⟩
      omega
/-- what a closed set gains is the most that it can gain -/
theorem closed_most (hx : ∀ x ∈ xs, DOk n x) (lb : bo.length = xs.length) (hf : fitB bo ss = true) (hn : K.Nodup) (hc : ∀ u ∈ K, Closed xs bo ss xs.length K u) : needK (gains n xs ss) K = (rng K xs bo).2 := by
  have ls := (fit_len hf).trans lb
  rw [needK_gains hx hn]
  unfold rng
  rw [zip_range (0, 0, 0) 0 xs ss ls.symm, zip_range (0, 0, 0) (0, 0) xs bo lb.symm, List.map_map, List.foldl_map]
  have key : ∀ (l : List Nat), (∀ j ∈ l, j < xs.length) → ∀ t : Int × Int, (l.foldl (fun t j => rst K t (xs.getD j (0, 0, 0), bo.getD j (0, 0))) t).2 = t.2 + (l.map (nk K ∘ fun j => (xs.getD j (0, 0, 0), ss.getD j 0))).sum := by
    intro l
    induction l with
    | nil => intro _ t; simp
    | cons j l ih =>
      intro hl t
      have hj := hl j (by simp)
      rw [List.foldl_cons, ih (fun i hi => hl i (by simp [hi])), List.map_cons, List.sum_cons]
      unfold fitB at hf
      rw [Bool.and_eq_true, List.all_eq_true] at hf
      have hfj := hf.2 j (List.mem_range.mpr (by omega))
      rw [Bool.and_eq_true, decide_eq_true_eq, decide_eq_true_eq] at hfj
      have e : (rst K t (xs.getD j (0, 0, 0), bo.getD j (0, 0))).2 = t.2 + nk K (xs.getD j (0, 0, 0), ss.getD j 0) := by
        unfold rst nk
        dsimp only
        by_cases h1 : (xs.getD j (0, 0, 0)).2.1 ∈ K
        · by_cases h2 : (xs.getD j (0, 0, 0)).1 ∈ K
          · rw [if_neg (fun z => z.2 h2), if_neg (fun z => z.2 h1), if_pos h1, if_pos h2]; omega
          · rw [if_pos ⟨h1, h2⟩, if_pos h1, if_neg h2]
            have : ¬ ss.getD j 0 < (bo.getD j (0, 0)).2 := fun z => h2 ((hc _ h1 j hj).1 rfl z)
            dsimp only
            omega
        · by_cases h2 : (xs.getD j (0, 0, 0)).1 ∈ K
          · rw [if_neg (fun z => h1 z.1), if_pos ⟨h2, h1⟩, if_neg h1, if_pos h2]
            have : ¬ (bo.getD j (0, 0)).1 < ss.getD j 0 := fun z => h1 ((hc _ h2 j hj).2 rfl z)
            dsimp only
            omega
          · rw [if_neg (fun z => h1 z.1), if_neg (fun z => h2 z.1), if_neg h1, if_neg h2]; omega
      rw [e]
      show t.2 + nk K (xs.getD j (0, 0, 0), ss.getD j 0) + _ = t.2 + (nk K (xs.getD j (0, 0, 0), ss.getD j 0) + _)
      omega
  have := key (List.range xs.length) (fun j hj => List.mem_range.mp hj) (0, 0)
  rw [this]
  simp
theorem serve_ok (hx : ∀ x ∈ xs, DOk n x) (hn8 : n ≤ 60) (hm : xs.length ≤ 16) (lb : bo.length = xs.length) (bd : BdsOk bo) (ln : ns.length = n) :
    ∃ d, m_serve (bld n xs) (.lst (bo.map pr2)) (.lst (ns.map D.int)) = some d ∧ ((∃ ss : List Int, d = .tup [.lst (ss.map D.int), .tup []] ∧ fitB bo ss = true ∧ ∀ a, a < n → ns.getD a 0 ≤ (gains n xs ss).getD a 0) ∨ ∃ K, d = .tup [.lst [], tupN K] ∧ RSet n K ∧ (rng K xs bo).2 < needK ns K) := by
  have er : o1 (dFld "Building" "rooms") (some (bld n xs)) = some (.int (n : Nat)) := by
    unfold bld
    rw [o1_some, fld1]
  have c1' : dComp m_serve_C1 (bo.map pr2) = some (.lst ((bo.map (·.1)).map D.int)) := by
    have cg : ∀ d ∈ bo.map pr2, m_serve_C1 d = some (some (match d with | .tup [a, _] => a | _ => .non)) := fun d hd => by
      obtain ⟨b, _, rfl⟩ := List.mem_map.mp hd
      rfl
    rw [dComp_map (by rw [List.length_map]; omega) cg, List.map_map, List.map_map]
    rfl
  have f0 : fitB bo (bo.map (·.1)) = true := by
    unfold fitB
    rw [decide_eq_true (by simp), Bool.true_and, List.all_eq_true]
    intro j hj
    have hj := List.mem_range.mp hj
    rw [getD_map (·.1) bo j (0, 0) 0 hj]
    have := bd _ (xin (xs := bo) (0, 0) hj)
    rw [decide_eq_true (Int.le_refl _), decide_eq_true (by omega)]
    rfl
  obtain ⟨o, ho, d, hd, hR⟩ := whileO_run (γ := Empty) (c := m_serve_T4) (f := m_serve_W5 (bld n xs) (.lst (ns.map D.int)) (.lst (bo.map pr2)))
    (fun b => ∃ ss : List Int, b = .lst (ss.map D.int) ∧ fitB bo ss = true) (muS n xs ns)
    (fun o => ∃ d, o = .rt d [] ∧ ((∃ ss : List Int, d = .tup [.lst (ss.map D.int), .tup []] ∧ fitB bo ss = true ∧ ∀ a, a < n → ns.getD a 0 ≤ (gains n xs ss).getD a 0) ∨ ∃ K, d = .tup [.lst [], tupN K] ∧ RSet n K ∧ (rng K xs bo).2 < needK ns K))
    (fun b ⟨ss, hb, hf⟩ => by
      subst hb
      refine .inr ⟨rfl, ?_⟩
      have ls := (fit_len hf).trans lb
      obtain ⟨gl, gs⟩ := gains_fit (b0 := 0) hx hm bd lb hf
      have cm : dComp (m_serve_C2 (.lst ((gains n xs ss).map D.int)) (.lst (ns.map D.int))) ((List.range n).map fun (k : Nat) => D.int (k : Int)) = some (lstN ((List.range n).filter fun a => decide ((gains n xs ss).getD a 0 < ns.getD a 0))) := filt _ _ _ (by simp; omega) fun a ha => by
        have ha := List.mem_range.mp ha
        unfold m_serve_C2
        rw [o2_some, ixmD 0 (by omega), o2_some, ixmD 0 (by omega), o2_some, dLt_ii, o1_some, tru_bl, bs]
        by_cases z : (gains n xs ss).getD a 0 < ns.getD a 0 <;> simp [-List.getD_eq_getElem?_getD, z]
      unfold m_serve_W5
      rw [c2_s, glist_ok hx (by omega) ls (dSeq_lst _), bs, er, oCons_some, o1_some, dRange1_s (by omega), bs, ranged0, cm, bs]
      rcases hMs : (List.range n).filter fun a => decide ((gains n xs ss).getD a 0 < ns.getD a 0) with _ | ⟨r, ms'⟩
      · -- all are served
        right
        refine ⟨_, [], ?_, _, rfl, .inl ⟨ss, rfl, hf, fun a ha => ?_⟩⟩
        · have : c1 dLen (some (lstN [])) = some (.int 0) := id rfl
          rw [this, o2_some, eqI, decide_eq_true rfl, o1_some, tru_bl, bs]
          simp only [if_true, oCons_some, o1_some, dTup0, dTup2, bs]
        · have := (List.filter_eq_nil_iff.mp hMs) a (List.mem_range.mpr ha)
          simp only [decide_eq_true_eq] at this
          omega
      · have hr : r ∈ (List.range n).filter fun a => decide ((gains n xs ss).getD a 0 < ns.getD a 0) := by rw [hMs]; simp
        obtain ⟨hr1, hr2⟩ := List.mem_filter.mp hr
        have hr1 := List.mem_range.mp hr1
        simp only [decide_eq_true_eq] at hr2
        obtain ⟨L, hL, t, hc⟩ := feeders_ok (r := r) hx hn8 lb ls (by omega) hr1
        obtain ⟨K, hK1, hK2, hK3⟩ := dicE_sorted t.nd (by have := t.len; omega)
        have Kn : K.Nodup := hK2.imp fun {a b} h => by omega
        have Klt : ∀ k ∈ K, k < n := fun k hk => t.lt k ((hK3 k).mp hk)
        have Kl : K.length ≤ n := by
          have := List.Nodup.length_le_of_subset (l₁ := K) (l₂ := List.range n) Kn fun x hx => List.mem_range.mpr (Klt x hx)
          simpa using this
        have cg : dComp (m_serve_C3 (.lst ((gains n xs ss).map D.int)) (.lst (ns.map D.int))) (K.map fun (k : Nat) => D.int (k : Int)) = some (lstN (K.filter fun a => decide (ns.getD a 0 < (gains n xs ss).getD a 0))) := filt _ _ _ (by omega) fun a ha => by
          have ha := Klt a ha
          unfold m_serve_C3
          rw [o2_some, ixmD 0 (by omega), o2_some, ixmD 0 (by omega), o2_some, dGt_ii, o1_some, tru_bl, bs]
          by_cases z : ns.getD a 0 < (gains n xs ss).getD a 0 <;> simp [-List.getD_eq_getElem?_getD, z]
        have len1 : c1 dLen (some (lstN (r :: ms'))) = some (.int ((ms'.length + 1 : Nat) : Int)) := by
          unfold lstN
          rw [c1_s, dLen_lst, List.length_map]
          rfl
        have ix0 : dIx (lstN (r :: ms')) (.int 0) = some (.int (r : Int)) := by
          unfold lstN
          rw [List.map_cons, dIx_lst, atI_0]
        rw [len1, o2_some, eqI, decide_eq_false (by omega), o1_some, tru_bl, bs]
        simp only [Bool.false_eq_true, if_false]
        rw [o2_some, ix0, c4_s, hL, bs, c1_s, hK1, o1_some, show dItems (lstN K) = some (K.map fun (k : Nat) => D.int (k : Int)) from rfl, bs, cg, bs]
        rcases hGs : K.filter fun a => decide (ns.getD a 0 < (gains n xs ss).getD a 0) with _ | ⟨g, gs'⟩
        · -- a starved set
          right
          have hle : ∀ a ∈ K, (gains n xs ss).getD a 0 ≤ ns.getD a 0 := fun a ha => by
            have := (List.filter_eq_nil_iff.mp hGs) a ha
            simp only [decide_eq_true_eq] at this
            omega
          have hrK : r ∈ K := (hK3 r).mpr t.root
          refine ⟨_, [], ?_, _, rfl, .inr ⟨K, rfl, ⟨hK2, Klt, fun e => by rw [e] at hrK; cases hrK⟩, ?_⟩⟩
          · have : c1 dLen (some (lstN [])) = some (.int 0) := id rfl
            rw [this, o2_some, eqI, decide_eq_true rfl, o1_some, tru_bl, bs]
            simp only [if_true]
            have tu : dTuple (lstN K) = some (tupN K) := id rfl
            rw [o1_some, dLst0, c1_s, tu, oCons_some, oCons_some, o1_some, dTup2, bs]
          · rw [← closed_most (ss := ss) hx lb hf Kn fun u hu => (hc u ((hK3 u).mp hu)).mono fun a ha => (hK3 a).mpr ha]
            unfold needK
            exact ssum_lt hle ⟨r, hrK, hr2⟩
        · -- one unit more
          left
          have hg : g ∈ K.filter fun a => decide (ns.getD a 0 < (gains n xs ss).getD a 0) := by rw [hGs]; simp
          obtain ⟨hg1, hg2⟩ := List.mem_filter.mp hg
          simp only [decide_eq_true_eq] at hg2
          obtain ⟨fin, hfd, hff, hfg⟩ := feed_ok hx lb t ((hK3 g).mp hg1) hf
          have len2 : c1 dLen (some (lstN (g :: gs'))) = some (.int ((gs'.length + 1 : Nat) : Int)) := by
            unfold lstN
            rw [c1_s, dLen_lst, List.length_map]
            rfl
          have ix1 : dIx (lstN (g :: gs')) (.int 0) = some (.int (g : Int)) := by
            unfold lstN
            rw [List.map_cons, dIx_lst, atI_0]
          refine ⟨.lst (fin.map D.int), ?_, ⟨fin, rfl, hff⟩, ?_⟩
          · rw [len2, o2_some, eqI, decide_eq_false (by omega), o1_some, tru_bl, bs]
            simp only [Bool.false_eq_true, if_false]
            rw [o2_some, ix1, oCons_some, oCons_some, oCons_some, bs, f3_s, hfd, bs, chkU_1, bs, cU_1]
          · rw [muS_eq, muS_eq]
            unfold gap
            have ne : g ≠ r := fun e => by subst e; omega
            refine sum_lt (fun a _ => ?_) ⟨r, List.mem_range.mpr hr1, ?_⟩
            · rw [hfg a]
              unfold ind
              by_cases e1 : g = a
              · subst e1
                rw [if_pos rfl, if_neg (Ne.symm ne)]
                omega
              · rw [if_neg e1]
                by_cases e2 : r = a
                · subst e2
                  rw [if_pos rfl]
                  omega
                · rw [if_neg e2]
                  omega
            · rw [hfg r]
              unfold ind
              rw [if_neg ne, if_pos rfl]
              omega)
    (.lst ((bo.map (·.1)).map D.int)) ⟨_, rfl, f0⟩
  refine ⟨d, ?_, hR⟩
  unfold m_serve
  rw [o1_some, dItems_lst, bs, c1', bs, ho, hd, bs, Out.thnD_rt]
/-- the paper that the program tells -/
theorem hold_ok (S : Setn n xs bo ns) : ∃ p, m_hold_stream (bld n xs) (.lst (bo.map pr2)) (.lst (ns.map D.int)) = some p ∧ ((∃ ss : List Int, p = .tup [.str "stream", .tup (ss.map D.int)] ∧ fitB bo ss = true ∧ gains n xs ss = ns) ∨ ∃ (k : Str) (K : List Nat), (k = "starved" ∨ k = "flooded") ∧ p = .tup [.str k, tupN K] ∧ RSet n K ∧ refB k K xs bo ns = true) := by
  have er : o1 (dFld "Building" "rooms") (some (bld n xs)) = some (.int (n : Nat)) := by
    unfold bld
    rw [o1_some, fld1]
  have n8 := S.n8
  have n1 := S.n1
  have allset : RSet n (List.range n) := ⟨List.pairwise_lt_range, fun k hk => List.mem_range.mp hk, fun e => by
    have := congrArg List.length e
    simp at this
    omega⟩
  have nk0 : needK ns (List.range n) = ns.sum := by
    unfold needK
    have := self_range 0 ns
    rw [S.ln] at this
    rw [← this]
  unfold m_hold_stream
  rw [c1_s, reqb_ok, bs, c2_s, reqbo_ok S.lb S.bd, bs, c2_s, reqne_ok S.ln (by omega) S.nb, bs, c1_s, dSum_l, o2_some, dLt_ii, o1_some, tru_bl, bs]
  by_cases hneg : ns.sum < 0
  · rw [decide_eq_true hneg]
    have rg : dRg (0, (n : Int)) = some ((List.range n).map fun (k : Nat) => D.int (k : Int)) := by
      rw [← ranged0]
      exact if_pos ⟨by dsimp only; omega, by dsimp only; omega, by dsimp only; omega⟩
    refine ⟨_, ?_, .inr ⟨"flooded", List.range n, .inr rfl, rfl, allset, ?_⟩⟩
    · simp only [if_true]
      rw [er, o1_some, dI_i, ms, o1_some, rg, ms, oCons_some, oCons_some, o1_some, dTup2]
      rfl
    · unfold refB
      rw [fs_ne, nk0]
      have r0 : (rng (List.range n) xs bo).1 = 0 := by
        unfold rng
        have : ∀ (l : List ((Nat × Nat × Int) × (Int × Int))), (∀ z ∈ l, z.1.1 < n ∧ z.1.2.1 < n) → ∀ t : Int × Int, l.foldl (rst (List.range n)) t = t := by
          intro l
          induction l with
          | nil => intro _ t; rfl
          | cons z l ih =>
            intro hl t
            obtain ⟨z1, z2⟩ := hl z (by simp)
            rw [List.foldl_cons]
            have : rst (List.range n) t z = t := by
              unfold rst
              rw [if_neg (fun h => h.2 (List.mem_range.mpr z1)), if_neg (fun h => h.2 (List.mem_range.mpr z2))]
            rw [this]
            exact ih (fun y hy => hl y (by simp [hy])) t
        rw [this _ (fun z hz => by
          have := S.hx _ (List.of_mem_zip hz).1
          exact ⟨this.1, this.2.1⟩)]
      rw [r0]
      simp [hneg]
  · rw [decide_eq_false hneg]
    obtain ⟨d, hd, hR⟩ := serve_ok (ns := ns) S.hx (by omega) S.nx S.lb S.bd S.ln
    simp only [Bool.false_eq_true, if_false]
    rw [c3_s, hd, bs]
    rcases hR with ⟨ss, rfl, hf, hge⟩ | ⟨K, rfl, hK, hlt⟩
    · obtain ⟨gl, gs⟩ := gains_fit (b0 := 0) S.hx S.nx S.bd S.lb hf
      refine ⟨.tup [.str "stream", .tup (ss.map D.int)], ?_, .inl ⟨ss, rfl, hf, ?_⟩⟩
      · simp only [un2]
        rw [c1_s, dLen_tup, o2_some, dGt_ii, o1_some, tru_bl, bs]
        simp only [List.length_nil, Int.cast_ofNat_Int]
        rw [if_neg (by decide), c1_s, dTuple_l, oCons_some, oCons_some, o1_some, dTup2]
      · -- all gains are the needs
        have e1 : ((List.range n).map fun a => ns.getD a 0).sum = ns.sum := by
          have := self_range 0 ns
          rw [S.ln] at this
          rw [← this]
        have e2 : ((List.range n).map fun a => (gains n xs ss).getD a 0).sum = 0 := by
          have := self_range 0 (gains n xs ss)
          rw [gl] at this
          rw [← this, gs]
        refine list_ext_getD (by rw [gl, S.ln]) fun j hj => ?_
        rw [gl] at hj
        by_cases z : (gains n xs ss).getD j 0 = ns.getD j 0
        · exact z
        · have h1 := hge j hj
          have := ssum_lt (l := List.range n) (f := fun a => ns.getD a 0) (h := fun a => (gains n xs ss).getD a 0) (fun a ha => hge a (List.mem_range.mp ha)) ⟨j, List.mem_range.mpr hj, by omega⟩
          omega
    · refine ⟨.tup [.str "starved", tupN K], ?_, .inr ⟨"starved", K, .inl rfl, rfl, hK, ?_⟩⟩
      · simp only [un2]
        have pos : 0 < K.length := List.length_pos_iff.mpr hK.2.2
        have : c1 dLen (some (tupN K)) = some (.int (K.length : Nat)) := by
          unfold tupN
          rw [c1_s, dLen_tup, List.length_map]
        rw [this, o2_some, dGt_ii, decide_eq_true (by omega), o1_some, tru_bl, bs]
        simp only [if_true]
        rw [oCons_some, oCons_some, o1_some, dTup2]
      · unfold refB
        rw [st_eq]
        simp [hlt]
end
end Mi
namespace Mi
open PySem L2
def encW : Option (Nat × Nat × Int) → D
  | none => .non
  | some (h, d, s) => .tup [.int (h : Int), .int (d : Int)]
def dicW (L : List Ent) : D := .dic (L.map fun e => (Sum.inl (e.1 : Int) : Key)) (L.map fun e => encW e.2)
theorem dicW_eq (L : List Ent) : dicW L = .dic ((ky L).map fun (i : Nat) => (Sum.inl (i : Int) : Key)) (L.map fun e => encW e.2) := by
  unfold dicW ky
  rw [List.map_map]
  rfl
theorem dicW_in (L : List Ent) (a : Nat) : dIn (.int (a : Int)) (dicW L) = some (.bl (decide (a ∈ ky L))) := by
  rw [dicW_eq]
  exact dIn_keys (by simp [ky])
theorem dicW_set {L : List Ent} {a : Nat} (v : Option (Nat × Nat × Int)) (hn : (ky L).Nodup) (ha : a ∉ ky L) (hl : L.length ≤ 1000) : dSet (dicW L) (.int (a : Int)) (encW v) = some (dicW (L ++ [(a, v)])) := by
  rw [dicW_eq, dSet_keys (by simp [ky]) hn ha (by simp [ky]; omega), dicW_eq]
  simp [ky]
theorem look_midW {pre post : List Ent} {a : Nat} {v : Option (Nat × Nat × Int)} (ha : a ∉ ky pre) : look ((pre ++ (a, v) :: post).map fun e => (Sum.inl (e.1 : Int) : Key)) ((pre ++ (a, v) :: post).map fun e => encW e.2) (.inl (a : Int)) = some (encW v) := by
  induction pre with
  | nil => simp [look]
  | cons e pre ih =>
    simp only [ky, List.map_cons, List.mem_cons, not_or] at ha
    have ne : ¬ ((e.1 : Int) = (a : Int)) := by omega
    have := ih ha.2
    simp only [List.cons_append, List.map_cons, look, List.zip_cons_cons, List.find?_cons, Sum.inl.injEq, ne, decide_false] at this ⊢
    exact this
theorem dicW_ix {L : List Ent} {p : Nat} (hn : (ky L).Nodup) (hp : p < L.length) : dIx (dicW L) (.int ((L.getD p (0, none)).1 : Int)) = some (encW (L.getD p (0, none)).2) := by
  have e : L = L.take p ++ (L.getD p (0, none)) :: L.drop (p + 1) := by
    have : L.getD p (0, none) = L[p] := by simp [List.getD, hp]
    rw [this, List.getElem_cons_drop, List.take_append_drop]
  show ((some (Sum.inl ((L.getD p (0, none)).1 : Int) : Key)).map (fun k => look (L.map fun e => (Sum.inl (e.1 : Int) : Key)) (L.map fun e => encW e.2) k)).bind id = _
  rw [ms]
  have hm : (L.getD p (0, none)).1 ∉ ky (L.take p) := fun hm => by
    have h2 : ky L = ky (L.take p) ++ ky ((L.getD p (0, none)) :: L.drop (p + 1)) := by
      conv => lhs; rw [e]
      simp [ky]
    rw [h2, List.nodup_append] at hn
    exact hn.2.2 _ hm _ (by simp [ky]) rfl
  have := look_midW (pre := L.take p) (post := L.drop (p + 1)) (a := (L.getD p (0, none)).1) (v := (L.getD p (0, none)).2) hm
  rw [← e] at this
  rw [this]
  rfl
theorem dicW_sorted {L : List Ent} (hn : (ky L).Nodup) (hl : L.length < 64) : ∃ K : List Nat, dSorted (dicW L) = some (lstN K) ∧ K.Pairwise (· < ·) ∧ ∀ a, a ∈ K ↔ a ∈ ky L := by
  obtain ⟨K, h1, h2, h3⟩ := sortN (ky L)
  refine ⟨K, ?_, ?_, fun a => h2.mem_iff⟩
  · rw [dicW_eq]
    unfold dSorted
    dsimp only
    rw [intKeys_N, bs, if_pos (by simp [ky]; exact hl), h1, ← mapN]
    rfl
  · have nd : K.Nodup := h2.nodup_iff.mpr hn
    exact List.Pairwise.imp₂ (fun {a b} x y => by omega) h3 nd
section
variable {n : Nat} {xs ys : List (Nat × Nat × Int)} {bo : List (Int × Int)} {ss ns : List Int} {K : List Nat}
/-- one room's ducts, however they are looked at -/
theorem inner_gen {ι : Type} {enc : List Ent → D} {f : D × D → ι → Option (D × D)} {g : Nat → ι} {r hd : Nat} {L0 : List Ent} {W0 : List Nat} (hx : ∀ x ∈ ys, DOk n x) (hn8 : n ≤ 100) (hm : ys.length ≤ 1000)
    (hf : ∀ i, i < ys.length → ∀ (L : List Ent) (W : List Nat), (ky L).Nodup → L.length ≤ n → W.length ≤ 1200 → f (enc L, lstN W) (g i) = some (if (ys.getD i (0, 0, 0)).2.1 = hd ∧ ss.getD i 0 < (bo.getD i (0, 0)).2 ∧ (ys.getD i (0, 0, 0)).1 ∉ ky L then (enc (L ++ [((ys.getD i (0, 0, 0)).1, some (hd, i, 1))]), lstN (W ++ [(ys.getD i (0, 0, 0)).1])) else if (ys.getD i (0, 0, 0)).1 = hd ∧ (bo.getD i (0, 0)).1 < ss.getD i 0 ∧ (ys.getD i (0, 0, 0)).2.1 ∉ ky L then (enc (L ++ [((ys.getD i (0, 0, 0)).2.1, some (hd, i, -1))]), lstN (W ++ [(ys.getD i (0, 0, 0)).2.1])) else (enc L, lstN W)))
    (t0 : Tree n ys bo ss r L0) (hh : hd ∈ ky L0) (hW : ∀ w ∈ W0, w ∈ ky L0) (hWl : W0.length ≤ 1000) (hc : ∀ u ∈ ky L0, u ∉ W0 → u = hd ∨ Closed ys bo ss ys.length (ky L0) u) :
    ∃ (L : List Ent) (W : List Nat), foldO f ((List.range ys.length).map g) (enc L0, lstN W0) = some (enc L, lstN W) ∧ Tree n ys bo ss r L ∧ (∀ w ∈ W, w ∈ ky L) ∧ (∀ u ∈ ky L, u ∉ W → Closed ys bo ss ys.length (ky L) u) ∧ 2 * (n - L.length) + W.length ≤ 2 * (n - L0.length) + W0.length := by
  have key := foldO_inv0 (f := f) (fun i b => ∃ (L : List Ent) (W : List Nat), b = (enc L, lstN W) ∧ Tree n ys bo ss r L ∧ (∀ w ∈ W, w ∈ ky L) ∧ (∀ a ∈ ky L0, a ∈ ky L) ∧ (∀ u ∈ ky L, u ∉ W → u = hd ∨ Closed ys bo ss ys.length (ky L) u) ∧ Closed ys bo ss i (ky L) hd ∧ 2 * (n - L.length) + W.length ≤ 2 * (n - L0.length) + W0.length ∧ W.length + L0.length ≤ W0.length + L.length)
    ((List.range ys.length).map g) (enc L0, lstN W0) ⟨L0, W0, rfl, t0, hW, fun a h => h, hc, fun j hj => by omega, Nat.le_refl _, Nat.le_refl _⟩ (fun i hi b ⟨L, W, hb, t, iW, iL, ic, icl, im, im2⟩ => by
      subst hb
      have hi' : i < ys.length := by simpa using hi
      have e0 : ((List.range ys.length).map g)[i] = g i := by
        simp only [List.getElem_map, List.getElem_range]
      obtain ⟨d1, d2, d3⟩ := hx _ (xin (0, 0, 0) hi')
      have tl := t.len
      have lW : W.length ≤ 1200 := by omega
      rw [e0, hf i hi' L W t.nd (by omega) lW]
      -- what a grown tree asks
      have grow : ∀ (v : Nat) (s : Int), v < n → v ∉ ky L → Edge ys bo ss v hd i s → (∀ j, j = i → ((ys.getD j (0, 0, 0)).2.1 = hd → ss.getD j 0 < (bo.getD j (0, 0)).2 → (ys.getD j (0, 0, 0)).1 = v) ∧ ((ys.getD j (0, 0, 0)).1 = hd → (bo.getD j (0, 0)).1 < ss.getD j 0 → (ys.getD j (0, 0, 0)).2.1 = v)) →
          ∃ (L' : List Ent) (W' : List Nat), some (enc (L ++ [(v, some (hd, i, s))]), lstN (W ++ [v])) = some (enc L', lstN W') ∧ Tree n ys bo ss r L' ∧ (∀ w ∈ W', w ∈ ky L') ∧ (∀ a ∈ ky L0, a ∈ ky L') ∧ (∀ u ∈ ky L', u ∉ W' → u = hd ∨ Closed ys bo ss ys.length (ky L') u) ∧ Closed ys bo ss (i + 1) (ky L') hd ∧ 2 * (n - L'.length) + W'.length ≤ 2 * (n - L0.length) + W0.length ∧ W'.length + L0.length ≤ W0.length + L'.length := fun v s hv hn he hj => by
        have t' := t.add hv hn he (iL _ hh)
        have tl' := t'.len
        have up : ∀ a ∈ ky L, a ∈ ky (L ++ [(v, some (hd, i, s))]) := fun a ha => by rw [ky_app]; exact List.mem_append_left _ ha
        have vin : v ∈ ky (L ++ [(v, some (hd, i, s))]) := by rw [ky_app]; simp [ky]
        refine ⟨_, _, rfl, t', fun w hw => ?_, fun a ha => up a (iL a ha), fun u hu hnu => ?_, fun j hji => ?_, ?_, ?_⟩
        · rcases List.mem_append.mp hw with z | z
          · exact up w (iW w z)
          · simp at z; subst z; exact vin
        · rw [ky_app, List.mem_append] at hu
          have nw : u ∉ W := fun z => hnu (List.mem_append_left _ z)
          rcases hu with z | z
          · rcases ic u z nw with y | y
            · exact .inl y
            · exact .inr (y.mono up)
          · exfalso
            simp [ky] at z
            exact hnu (by rw [z]; simp)
        · by_cases e : j < i
          · exact ⟨fun a b => up _ ((icl j e).1 a b), fun a b => up _ ((icl j e).2 a b)⟩
          · have e : j = i := by omega
            obtain ⟨q1, q2⟩ := hj j e
            exact ⟨fun a b => by rw [q1 a b]; exact vin, fun a b => by rw [q2 a b]; exact vin⟩
        · simp only [List.length_append, List.length_cons, List.length_nil] at tl' ⊢; omega
        · simp only [List.length_append, List.length_cons, List.length_nil]; omega
      have stay : (∀ j, j = i → ((ys.getD j (0, 0, 0)).2.1 = hd → ss.getD j 0 < (bo.getD j (0, 0)).2 → (ys.getD j (0, 0, 0)).1 ∈ ky L) ∧ ((ys.getD j (0, 0, 0)).1 = hd → (bo.getD j (0, 0)).1 < ss.getD j 0 → (ys.getD j (0, 0, 0)).2.1 ∈ ky L)) →
          ∃ (L' : List Ent) (W' : List Nat), some (enc L, lstN W) = some (enc L', lstN W') ∧ Tree n ys bo ss r L' ∧ (∀ w ∈ W', w ∈ ky L') ∧ (∀ a ∈ ky L0, a ∈ ky L') ∧ (∀ u ∈ ky L', u ∉ W' → u = hd ∨ Closed ys bo ss ys.length (ky L') u) ∧ Closed ys bo ss (i + 1) (ky L') hd ∧ 2 * (n - L'.length) + W'.length ≤ 2 * (n - L0.length) + W0.length ∧ W'.length + L0.length ≤ W0.length + L'.length := fun hj => by
        refine ⟨_, _, rfl, t, iW, iL, ic, fun j hji => ?_, im, im2⟩
        by_cases e : j < i
        · exact icl j e
        · exact hj j (by omega)
      have fin : ∀ {o : Option (D × D)} {P : D × D → Prop}, (∃ (L' : List Ent) (W' : List Nat), o = some (enc L', lstN W') ∧ Tree n ys bo ss r L' ∧ (∀ w ∈ W', w ∈ ky L') ∧ (∀ a ∈ ky L0, a ∈ ky L') ∧ (∀ u ∈ ky L', u ∉ W' → u = hd ∨ Closed ys bo ss ys.length (ky L') u) ∧ Closed ys bo ss (i + 1) (ky L') hd ∧ 2 * (n - L'.length) + W'.length ≤ 2 * (n - L0.length) + W0.length ∧ W'.length + L0.length ≤ W0.length + L'.length) → ∃ b', o = some b' ∧ ∃ (L' : List Ent) (W' : List Nat), b' = (enc L', lstN W') ∧ Tree n ys bo ss r L' ∧ (∀ w ∈ W', w ∈ ky L') ∧ (∀ a ∈ ky L0, a ∈ ky L') ∧ (∀ u ∈ ky L', u ∉ W' → u = hd ∨ Closed ys bo ss ys.length (ky L') u) ∧ Closed ys bo ss (i + 1) (ky L') hd ∧ 2 * (n - L'.length) + W'.length ≤ 2 * (n - L0.length) + W0.length ∧ W'.length + L0.length ≤ W0.length + L'.length := fun {o P} ⟨L', W', h, q⟩ => ⟨_, h, L', W', rfl, q⟩
      refine fin (P := fun _ => True) ?_
      by_cases q1 : (ys.getD i (0, 0, 0)).2.1 = hd ∧ ss.getD i 0 < (bo.getD i (0, 0)).2 ∧ (ys.getD i (0, 0, 0)).1 ∉ ky L
      · rw [if_pos q1]
        obtain ⟨a1, a2, a3⟩ := q1
        have ne : ¬ (ys.getD i (0, 0, 0)).1 = hd := fun z => d3.1 (by rw [z, a1])
        exact grow _ _ d1 a3 ⟨hi', .inl ⟨rfl, rfl, a1, a2⟩⟩ fun j e => by subst e; exact ⟨fun _ _ => rfl, fun z => absurd z ne⟩
      · rw [if_neg q1]
        by_cases q2 : (ys.getD i (0, 0, 0)).1 = hd ∧ (bo.getD i (0, 0)).1 < ss.getD i 0 ∧ (ys.getD i (0, 0, 0)).2.1 ∉ ky L
        · rw [if_pos q2]
          obtain ⟨c1, c2, c3⟩ := q2
          have a1 : ¬ (ys.getD i (0, 0, 0)).2.1 = hd := fun z => d3.1 (by rw [z, c1])
          exact grow _ _ d2 c3 ⟨hi', .inr ⟨rfl, c1, rfl, c2⟩⟩ fun j e => by subst e; exact ⟨fun z => absurd z a1, fun _ _ => rfl⟩
        · rw [if_neg q2]
          exact stay fun j e => by
            subst e
            refine ⟨fun a1 a2 => ?_, fun c1 c2 => ?_⟩
            · exact Classical.byContradiction fun z => q1 ⟨a1, a2, z⟩
            · exact Classical.byContradiction fun z => q2 ⟨c1, c2, z⟩)
  obtain ⟨b', e1, L, W, hb, t, iW, iL, ic, icl, im, _⟩ := key
  subst hb
  rw [List.length_map, List.length_range] at icl
  refine ⟨L, W, e1, t, iW, fun u hu hn => ?_, im⟩
  rcases ic u hu hn with z | z
  · subst z; exact icl
  · exact z
/-! the way that is looked -/
def revD (x : Nat × Nat × Int) : Nat × Nat × Int := (x.2.1, x.1, x.2.2)
def vw (b : Bool) (xs : List (Nat × Nat × Int)) : List (Nat × Nat × Int) := if b = true then xs.map revD else xs
def bw (xs : List (Nat × Nat × Int)) : List (Int × Int) := xs.map fun x => (0, x.2.2)
theorem vw_len (b : Bool) : (vw b xs).length = xs.length := by cases b <;> simp [vw]
theorem vw_at (b : Bool) {j : Nat} (h : j < xs.length) : (vw b xs).getD j (0, 0, 0) = if b = true then revD (xs.getD j (0, 0, 0)) else xs.getD j (0, 0, 0) := by
  cases b with
  | false => rfl
  | true => exact getD_map revD xs j (0, 0, 0) (0, 0, 0) h
theorem bw_len : (bw xs).length = xs.length := by simp [bw]
theorem bw_at {j : Nat} (h : j < xs.length) : (bw xs).getD j (0, 0) = (0, (xs.getD j (0, 0, 0)).2.2) := getD_map (fun (x : Nat × Nat × Int) => ((0 : Int), x.2.2)) xs j (0, 0, 0) (0, 0) h
theorem vw_ok (b : Bool) (hx : ∀ x ∈ xs, DOk n x) : ∀ x ∈ vw b xs, DOk n x := by
  cases b with
  | false => exact hx
  | true =>
    intro x hx'
    obtain ⟨y, hy, rfl⟩ := List.mem_map.mp hx'
    obtain ⟨a, b, c, d⟩ := hx y hy
    exact ⟨b, a, fun z => c z.symm, d⟩
theorem sL1 (b : Bool) {hd i : Nat} {L : List Ent} {W : List Nat} {w0 : D} (hx : ∀ x ∈ xs, DOk n x) (hn8 : n ≤ 100) (ls : ss.length = xs.length) (hi : i < xs.length) (nd : (ky L).Nodup) (hL : L.length ≤ n) (hW : W.length ≤ 1200) :
    m_search_L1 (.lst (ss.map D.int)) (.bl b) (.int (hd : Int), w0) (dicW L, lstN W) (.int (i : Nat), dct (xs.getD i (0, 0, 0))) = some (if ((vw b xs).getD i (0, 0, 0)).2.1 = hd ∧ ss.getD i 0 < ((bw xs).getD i (0, 0)).2 ∧ ((vw b xs).getD i (0, 0, 0)).1 ∉ ky L then (dicW (L ++ [(((vw b xs).getD i (0, 0, 0)).1, some (hd, i, 1))]), lstN (W ++ [((vw b xs).getD i (0, 0, 0)).1])) else if ((vw b xs).getD i (0, 0, 0)).1 = hd ∧ ((bw xs).getD i (0, 0)).1 < ss.getD i 0 ∧ ((vw b xs).getD i (0, 0, 0)).2.1 ∉ ky L then (dicW (L ++ [(((vw b xs).getD i (0, 0, 0)).2.1, some (hd, i, -1))]), lstN (W ++ [((vw b xs).getD i (0, 0, 0)).2.1])) else (dicW L, lstN W)) := by
  obtain ⟨d1, d2, d3⟩ := hx _ (xin (0, 0, 0) hi)
  have s1 := ixmD (f := D.int) (xs := ss) (i := i) 0 (by omega)
  have app : ∀ v : Nat, dApp (lstN W) (.int (v : Int)) = some (lstN (W ++ [v])) := fun v => by
    unfold lstN
    rw [dApp_s (by rw [List.length_map]; omega)]
    simp
  have put : ∀ (v : Nat) (s : Int), v ∉ ky L → dSet (dicW L) (.int (v : Int)) (.tup [.int (hd : Int), .int (i : Int)]) = some (dicW (L ++ [(v, some (hd, i, s))])) := fun v s hv => dicW_set (some (hd, i, s)) nd hv (by omega)
  have dec : ∀ a : Nat, decide ((hd : Int) = (a : Int)) = decide (a = hd) := fun a => by
    by_cases z : a = hd
    · rw [decide_eq_true z, z, decide_eq_true rfl]
    · rw [decide_eq_false z, decide_eq_false (by omega)]
  rw [vw_at b hi, bw_at hi]
  unfold m_search_L1
  simp only [dct, un3, o2_some, eqI, s1, dLt_ii, dGt_ii, dNotIn_of (dicW_in L _), o1_some, tru_bl, bs, dec]
  cases b with
  | true =>
    simp only [if_true, revD, bs, tru_bl]
    by_cases a1 : (xs.getD i (0, 0, 0)).1 = hd
    · have ne : ¬ (xs.getD i (0, 0, 0)).2.1 = hd := fun z => d3.1 (by rw [z, a1])
      by_cases a2 : ss.getD i 0 < (xs.getD i (0, 0, 0)).2.2
      · by_cases a3 : (xs.getD i (0, 0, 0)).2.1 ∈ ky L
        · simp only [a1, a2, a3, ne, decide_true, decide_false, Bool.not_true, oAnd_t, oAnd_f, bs, Bool.false_eq_true, if_false, not_true_eq_false, and_false, false_and]
        · simp only [a1, a2, a3, ne, decide_true, decide_false, Bool.not_false, oAnd_t, oAnd_f, bs, if_true, oCons_some, o1_some, dTup2, not_false_eq_true, and_true, put _ 1 a3, app]
      · simp only [a1, a2, ne, decide_true, decide_false, oAnd_t, oAnd_f, bs, Bool.false_eq_true, if_false, and_false, false_and]
    · by_cases c1 : (xs.getD i (0, 0, 0)).2.1 = hd
      · by_cases c2 : 0 < ss.getD i 0
        · by_cases c3 : (xs.getD i (0, 0, 0)).1 ∈ ky L
          · simp only [a1, c1, c2, c3, decide_true, decide_false, Bool.not_true, oAnd_t, oAnd_f, bs, Bool.false_eq_true, if_false, not_true_eq_false, and_false, false_and]
          · simp only [a1, c1, c2, c3, decide_true, decide_false, Bool.not_false, oAnd_t, oAnd_f, bs, Bool.false_eq_true, if_false, if_true, oCons_some, o1_some, dTup2, not_false_eq_true, and_true, false_and, put _ (-1) c3, app]
        · simp only [a1, c1, c2, decide_true, decide_false, oAnd_t, oAnd_f, bs, Bool.false_eq_true, if_false, and_false, false_and]
      · simp only [a1, c1, decide_false, oAnd_t, oAnd_f, bs, Bool.false_eq_true, if_false, and_false, false_and]
  | false =>
    simp only [Bool.false_eq_true, if_false, bs, tru_bl]
    by_cases c1 : (xs.getD i (0, 0, 0)).1 = hd
    · have ne : ¬ (xs.getD i (0, 0, 0)).2.1 = hd := fun z => d3.1 (by rw [z, c1])
      by_cases c2 : 0 < ss.getD i 0
      · by_cases c3 : (xs.getD i (0, 0, 0)).2.1 ∈ ky L
        · simp only [c1, c2, c3, ne, decide_true, decide_false, Bool.not_true, oAnd_t, oAnd_f, bs, Bool.false_eq_true, if_false, not_true_eq_false, and_false, false_and]
        · simp only [c1, c2, c3, ne, decide_true, decide_false, Bool.not_false, oAnd_t, oAnd_f, bs, Bool.false_eq_true, if_false, if_true, oCons_some, o1_some, dTup2, not_false_eq_true, and_true, false_and, put _ (-1) c3, app]
      · simp only [c1, c2, ne, decide_true, decide_false, oAnd_t, oAnd_f, bs, Bool.false_eq_true, if_false, and_false, false_and]
    · by_cases a1 : (xs.getD i (0, 0, 0)).2.1 = hd
      · by_cases a2 : ss.getD i 0 < (xs.getD i (0, 0, 0)).2.2
        · by_cases a3 : (xs.getD i (0, 0, 0)).1 ∈ ky L
          · simp only [c1, a1, a2, a3, decide_true, decide_false, Bool.not_true, oAnd_t, oAnd_f, bs, Bool.false_eq_true, if_false, not_true_eq_false, and_false, false_and]
          · simp only [c1, a1, a2, a3, decide_true, decide_false, Bool.not_false, oAnd_t, oAnd_f, bs, Bool.false_eq_true, if_false, if_true, oCons_some, o1_some, dTup2, not_false_eq_true, and_true, false_and, put _ 1 a3, app]
        · simp only [c1, a1, a2, decide_true, decide_false, oAnd_t, oAnd_f, bs, Bool.false_eq_true, if_false, and_false, false_and]
      · simp only [c1, a1, decide_false, oAnd_t, oAnd_f, bs, Bool.false_eq_true, if_false, and_false, false_and]
theorem muW_eq (L : List Ent) (W : List Nat) : muF n (lstN W, dicW L) = 2 * (n - L.length) + W.length := by simp [muF, lstN, dicW]
theorem search_ok (b : Bool) {r : Nat} (hx : ∀ x ∈ xs, DOk n x) (hn8 : n ≤ 60) (ls : ss.length = xs.length) (hm : xs.length ≤ 1000) (hr : r < n) :
    ∃ L, m_search (bld n xs) (.lst (ss.map D.int)) (.int (r : Int)) (.bl b) = some (dicW L) ∧ Tree n (vw b xs) (bw xs) ss r L ∧ ∀ u ∈ ky L, Closed (vw b xs) (bw xs) ss xs.length (ky L) u := by
  have e2 : o1 dSeq (o1 (dFld "Building" "ducts") (some (bld n xs))) = some (xs.map dct) := by
    unfold bld
    rw [o1_some, fld2, o1_some, dSeq_tup]
  have t0 : Tree n (vw b xs) (bw xs) ss r [(r, none)] := ⟨⟨rfl, by simp⟩, by simp [ky], fun a ha => by simp [ky] at ha; omega, fun i h1 h2 => by simp at h2; omega⟩
  obtain ⟨o, ho, L, hL, t, hc⟩ := whileO_run (γ := Empty) (c := m_search_T2) (f := m_search_W3 (bld n xs) (.lst (ss.map D.int)) (.bl b))
    (fun s => ∃ (L : List Ent) (W : List Nat), s = (lstN W, dicW L) ∧ Tree n (vw b xs) (bw xs) ss r L ∧ (∀ w ∈ W, w ∈ ky L) ∧ (∀ u ∈ ky L, u ∉ W → Closed (vw b xs) (bw xs) ss xs.length (ky L) u) ∧ W.length + 2 * (n - L.length) ≤ 2 * n) (muF n)
    (fun o => ∃ L, o = .nx (lstN [], dicW L) ∧ Tree n (vw b xs) (bw xs) ss r L ∧ ∀ u ∈ ky L, Closed (vw b xs) (bw xs) ss xs.length (ky L) u)
    (fun s ⟨L, W, hb, t, iW, ic, im⟩ => by
      subst hb
      have ht : m_search_T2 (lstN W, dicW L) = some (decide (0 < W.length)) := by
        unfold m_search_T2 lstN
        rw [c1_s, dLen_lst, List.length_map, o2_some, dGt_ii, o1_some, tru_bl]
        congr 1
        by_cases z : 0 < W.length
        · rw [decide_eq_true z, decide_eq_true (by omega)]
        · rw [decide_eq_false z, decide_eq_false (by omega)]
      rcases List.eq_nil_or_concat W with e | ⟨W', hd, e⟩
      · subst e
        exact .inl ⟨by rw [ht]; rfl, L, rfl, t, fun u hu => ic u hu (by simp)⟩
      · rw [List.concat_eq_append] at e
        subst e
        refine .inr ⟨by rw [ht]; simp, .inl ?_⟩
        have vl := vw_len (xs := xs) b
        obtain ⟨L', W2, h1, t', iW', ic', im'⟩ := inner_gen (ys := vw b xs) (bo := bw xs) (ss := ss) (enc := dicW) (f := m_search_L1 (.lst (ss.map D.int)) (.bl b) (.int (hd : Int), lstN W')) (g := fun i => (D.int (i : Nat), (xs.map dct).getD i .non)) (W0 := W') (hd := hd) (vw_ok b hx) (by omega) (by omega) (fun i hi L W nd hL hW => by
          have hi : i < xs.length := by omega
          show m_search_L1 _ _ _ _ (D.int (i : Nat), (xs.map dct).getD i .non) = _
          rw [getD_map dct xs i (0, 0, 0) .non hi]
          exact sL1 b hx (by omega) ls hi nd hL hW) t (iW hd (by simp)) (fun w hw => iW w (by simp [hw])) (by simp at im; omega) (fun u hu hn => by
          rw [vl]
          by_cases z : u = hd
          · exact .inl z
          · exact .inr (ic u hu (by simp [hn, z])))
        rw [vl] at h1 ic'
        refine ⟨(lstN W2, dicW L'), ?_, ⟨L', W2, rfl, t', iW', ic', by simp at im; omega⟩, ?_⟩
        · unfold m_search_W3
          rw [pop_N, bs, e2, ms, bs, enumed_eq, List.length_map, h1, bs]
        · rw [muW_eq, muW_eq]
          simp
          omega) (lstN [r], dicW [(r, none)]) ⟨[(r, none)], [r], rfl, t0, fun w hw => by simp at hw; subst hw; simp [ky], fun u hu hn => by simp [ky] at hu; simp [hu] at hn, by simp; omega⟩
  refine ⟨L, ?_, t, hc⟩
  unfold m_search
  have d1 : dDisp1 (.int (r : Int)) .non = some (dicW [(r, none)]) := id rfl
  have l1 : dLst [.int (r : Int)] = some (lstN [r]) := dLst1 _
  rw [o2_some, d1, bs, oCons_some, o1_some, l1, bs, ho, hL, bs, Out.thnD_nx]
end
end Mi
namespace Mi
open PySem L2
section
variable {n : Nat} {xs ys : List (Nat × Nat × Int)} {bo : List (Int × Int)} {ss ns hs : List Int} {K : List Nat}
theorem turn_ok (bk : Bool) {r g : Nat} {L : List Ent} (hx : ∀ x ∈ xs, DOk n x) (hm : xs.length ≤ 1000) (t : Tree n (vw bk xs) (bw xs) ss r L) (hg : g ∈ ky L) (hf : fitB (bw xs) ss = true) :
    ∃ fin : List Int, m_turn_path (bld n xs) (.lst (ss.map D.int)) (dicW L) (.int (g : Int)) (.bl bk) = some (.non, [(1, .lst (fin.map D.int))]) ∧ fitB (bw xs) fin = true ∧ ∀ a, (gains n (vw bk xs) fin).getD a 0 = (gains n (vw bk xs) ss).getD a 0 - ind g a + ind r a := by
  have lb : (bw xs).length = xs.length := bw_len
  have vl := vw_len (xs := xs) bk
  have hx' := vw_ok bk hx
  have ls := (fit_len hf).trans lb
  obtain ⟨p0, hp0, hgp⟩ : ∃ p, p < L.length ∧ (L.getD p (0, none)).1 = g := by
    obtain ⟨e, he, rfl⟩ := List.mem_map.mp hg
    obtain ⟨j, hj, h⟩ := mem_getD (0, none) he
    exact ⟨j, hj, by rw [h]⟩
  have pos_of : ∀ {p q : Nat}, p < L.length → q < L.length → (L.getD p (0, none)).1 = (L.getD q (0, none)).1 → p = q := fun {p q} hp hq e => by
    have h1 : (ky L)[p]'(by simp [ky]; exact hp) = (ky L)[q]'(by simp [ky]; exact hq) := by
      simp only [ky, List.getElem_map]
      simpa [List.getD, hp, hq] using e
    exact (List.getElem_inj t.nd).mp h1
  have in_take : ∀ {v k : Nat}, v ∈ ky (L.take k) → ∃ q, q < k ∧ q < L.length ∧ (L.getD q (0, none)).1 = v := fun {v k} hv => by
    obtain ⟨e, he, rfl⟩ := List.mem_map.mp hv
    obtain ⟨j, hj, h⟩ := mem_getD (0, none) he
    rw [List.length_take] at hj
    refine ⟨j, by omega, by omega, ?_⟩
    have : (L.take k).getD j (0, none) = L.getD j (0, none) := by
      simp only [List.getD, List.getElem?_take]
      rw [if_pos (by omega)]
    rw [← this, h]
  have take_in : ∀ {q k : Nat}, q < k → q < L.length → (L.getD q (0, none)).1 ∈ ky (L.take k) := fun {q k} h1 h2 => by
    have : L.getD q (0, none) = (L.take k).getD q (0, none) := by
      simp only [List.getD, List.getElem?_take]
      rw [if_pos h1]
    rw [this]
    exact List.mem_map.mpr ⟨_, xin _ (by rw [List.length_take]; omega), rfl⟩
  obtain ⟨o, ho, fin, v, hfin, hff, hgg⟩ := whileO_run (γ := Empty) (c := m_turn_path_T1 (dicW L)) (f := m_turn_path_W2 (dicW L) (.bl bk) (bld n xs))
    (fun b => ∃ (p : Nat) (cur : List Int), p < L.length ∧ b = (.int ((L.getD p (0, none)).1 : Int), .lst (cur.map D.int)) ∧ fitB (bw xs) cur = true ∧ (∀ j, j < (vw bk xs).length → ((vw bk xs).getD j (0, 0, 0)).1 ∈ ky (L.take (p + 1)) → ((vw bk xs).getD j (0, 0, 0)).2.1 ∈ ky (L.take (p + 1)) → cur.getD j 0 = ss.getD j 0) ∧ ∀ a, (gains n (vw bk xs) cur).getD a 0 = (gains n (vw bk xs) ss).getD a 0 - ind g a + ind (L.getD p (0, none)).1 a)
    (fun b => match b.1 with | .int v => (ky L).idxOf v.toNat | _ => 0)
    (fun o => ∃ (fin : List Int) (v : D), o = .nx (v, .lst (fin.map D.int)) ∧ fitB (bw xs) fin = true ∧ ∀ a, (gains n (vw bk xs) fin).getD a 0 = (gains n (vw bk xs) ss).getD a 0 - ind g a + ind r a)
    (fun b ⟨p, cur, hp, hb, hfc, hsame, hga⟩ => by
      subst hb
      have lc := (fit_len hfc).trans lb
      have hix := dicW_ix t.nd hp
      have ht : m_turn_path_T1 (dicW L) (.int ((L.getD p (0, none)).1 : Int), .lst (cur.map D.int)) = some (match (L.getD p (0, none)).2 with | none => false | some _ => true) := by
        unfold m_turn_path_T1
        dsimp only
        rw [o2_some, hix]
        cases (L.getD p (0, none)).2 <;> rfl
      have idx : ∀ q, q < L.length → (ky L).idxOf (L.getD q (0, none)).1 = q := fun q hq => by
        have hk : q < (ky L).length := by simp [ky]; exact hq
        have e : (L.getD q (0, none)).1 = (ky L)[q] := by simp [ky, List.getD, hq]
        rw [e]
        exact t.nd.idxOf_getElem q hk
      by_cases hp0 : p = 0
      · subst hp0
        rw [t.h0.1] at ht hga
        rw [t.h0.1]
        exact .inl ⟨ht, cur, _, rfl, hfc, hga⟩
      · obtain ⟨h, d, s, he, hE, hh⟩ := t.st p (by omega) hp
        rw [he] at ht hix
        obtain ⟨q, q1, q2, q3⟩ := in_take hh
        obtain ⟨hd, hE'⟩ := hE
        refine .inr ⟨ht, .inl ?_⟩
        have pin : (L.getD p (0, none)).1 ∈ ky (L.take (p + 1)) := take_in (by omega) hp
        have hin : h ∈ ky (L.take (p + 1)) := by rw [← q3]; exact take_in (by omega) q2
        have cd : cur.getD d 0 = ss.getD d 0 := by
          refine hsame d hd ?_ ?_
          · rcases hE' with ⟨_, a, _, _⟩ | ⟨_, a, _, _⟩
            · rw [a]; exact pin
            · rw [a]; exact hin
          · rcases hE' with ⟨_, _, a, _⟩ | ⟨_, _, a, _⟩
            · rw [a]; exact hin
            · rw [a]; exact pin
        have hv : ∀ {x : Nat}, x ∈ ky (L.take (q + 1)) → x ≠ (L.getD p (0, none)).1 := fun {x} hx e => by
          obtain ⟨y, y1, y2, y3⟩ := in_take hx
          have := pos_of y2 hp (y3.trans e)
          omega
        refine ⟨(.int (h : Int), .lst ((cur.set d (cur.getD d 0 + s)).map D.int)), ?_, ⟨q, cur.set d (cur.getD d 0 + s), q2, by rw [q3], ?_, fun j hj h1 h2 => ?_, fun a => ?_⟩, ?_⟩
        · have hd' : d < xs.length := by rw [← vl]; exact hd
          have ed := vw_at (xs := xs) bk hd'
          obtain ⟨q1', q2', q3', _⟩ := hx _ (xin (0, 0, 0) hd')
          have efl : o1 (dFld "Building" "ducts") (some (bld n xs)) = some (.tup (xs.map dct)) := by
            unfold bld
            rw [o1_some, fld2]
          have xd := ixtD (f := dct) (xs := xs) (i := d) (0, 0, 0) hd'
          have x0 : dIx (dct (xs.getD d (0, 0, 0))) (.int 0) = some (.int ((xs.getD d (0, 0, 0)).1 : Int)) := id rfl
          have eu : ∀ K : D → D → Option (Out (D × D) (D × D)), un2 (.tup [.int (h : Int), .int (d : Int)]) K = K (.int (h : Int)) (.int (d : Int)) := fun K => id rfl
          have go := dGetO_i (G := cur) (i := d) (by omega)
          have s1 := dSet_i (G := cur) (i := d) (v := cur.getD d 0 - 1) (by omega)
          have s2 := dSet_i (G := cur) (i := d) (v := cur.getD d 0 + 1) (by omega)
          unfold m_turn_path_W2
          dsimp only
          rw [o2_some, hix, bs]
          simp only [encW]
          rw [eu, efl]
          simp only [bs, o1_some, tru_bl, o2_some, xd, x0, eqI, go, dSub_ii, dAddI_ii, s1, s2]
          cases bk with
          | true =>
            rw [if_pos rfl] at ed
            rw [ed] at hE'
            simp only [if_true, bs, eqI, o1_some, tru_bl]
            rcases hE' with ⟨e1, e2, e3, _⟩ | ⟨e1, e2, e3, _⟩
            · have e2 : (xs.getD d (0, 0, 0)).2.1 = (L.getD p (0, none)).1 := e2
              rw [e1, decide_eq_false (by omega)]
              rfl
            · have e3 : (xs.getD d (0, 0, 0)).1 = (L.getD p (0, none)).1 := e3
              rw [e1, decide_eq_true (by omega)]
              rfl
          | false =>
            rw [if_neg (by decide)] at ed
            rw [ed] at hE'
            simp only [Bool.false_eq_true, if_false, bs, eqI, o1_some, tru_bl]
            rcases hE' with ⟨e1, e2, e3, _⟩ | ⟨e1, e2, e3, _⟩
            · rw [e1, decide_eq_false (by omega)]
              rfl
            · rw [e1, decide_eq_true (by omega)]
              rfl
        · -- within the bounds
          unfold fitB at hfc ⊢
          rw [Bool.and_eq_true, List.all_eq_true] at hfc
          rw [Bool.and_eq_true, List.all_eq_true]
          refine ⟨by rw [List.length_set]; exact hfc.1, fun j hj => ?_⟩
          have hj' := hfc.2 j hj
          by_cases e : d = j
          · subst e
            rw [getD_set_eq _ _ _ (by omega)]
            rw [Bool.and_eq_true, decide_eq_true_eq, decide_eq_true_eq] at hj' ⊢
            rcases hE' with ⟨a, _, _, b⟩ | ⟨a, _, _, b⟩ <;> omega
          · rw [getD_set_ne _ _ _ e]
            exact hj'
        · -- the others stand
          have mono : ∀ {x : Nat}, x ∈ ky (L.take (q + 1)) → x ∈ ky (L.take (p + 1)) := fun {x} hx => by
            obtain ⟨y, y1, y2, y3⟩ := in_take hx
            rw [← y3]
            exact take_in (by omega) y2
          have ne : d ≠ j := fun e => by
            subst e
            rcases hE' with ⟨_, a, _, _⟩ | ⟨_, _, a, _⟩
            · exact hv h1 a
            · exact hv h2 a
          rw [getD_set_ne _ _ _ ne]
          exact hsame j hj (mono h1) (mono h2)
        · -- the gains
          rw [gains_set hx' hd (by omega), hga a, q3]
          unfold gj ind
          dsimp only
          rcases hE' with ⟨e1, e2, e3, _⟩ | ⟨e1, e2, e3, _⟩ <;> rw [e1, e2, e3] <;> split <;> split <;> omega
        · show (ky L).idxOf (h : Int).toNat < (ky L).idxOf ((L.getD p (0, none)).1 : Int).toNat
          rw [Int.toNat_natCast, Int.toNat_natCast, idx p hp, ← q3, idx q q2]
          exact q1)
    (.int (g : Int), .lst (ss.map D.int)) ⟨p0, ss, hp0, by rw [hgp], hf, fun j _ _ _ => rfl, fun a => by rw [hgp]; omega⟩
  refine ⟨fin, ?_, hff, hgg⟩
  unfold m_turn_path
  rw [bs, ho, hfin, bs, Out.thnU_nx]
/-! intakes -/
def ist (H : List Int) (z : (Nat × Nat × Int) × Int) : List Int :=
  let H1 := H.set z.1.2.1 (H.getD z.1.2.1 0 + z.2)
  H1.set z.1.1 (H1.getD z.1.1 0 + (z.1.2.2 - z.2))
def intk (n : Nat) (xs : List (Nat × Nat × Int)) (ss : List Int) : List Int := (xs.zip ss).foldl ist (List.replicate n 0)
def outw (xs : List (Nat × Nat × Int)) (a : Nat) : Int := (xs.map fun x => if x.1 = a then x.2.2 else 0).sum
theorem ist_len (H : List Int) (z : (Nat × Nat × Int) × Int) : (ist H z).length = H.length := by simp [ist]
theorem ist_at (H : List Int) (z : (Nat × Nat × Int) × Int) (h1 : z.1.1 < H.length) (h2 : z.1.2.1 < H.length) (a : Nat) : (ist H z).getD a 0 = H.getD a 0 + (gj a z + if z.1.1 = a then z.1.2.2 else 0) := by
  unfold ist gj
  dsimp only
  by_cases e1 : z.1.1 = a
  · subst e1
    rw [getD_set_eq _ _ _ (by rw [List.length_set]; exact h1), if_pos rfl, if_pos rfl]
    by_cases e2 : z.1.2.1 = z.1.1
    · rw [if_pos e2, e2, getD_set_eq _ _ _ h1]; omega
    · rw [if_neg e2, getD_set_ne _ _ _ e2]; omega
  · rw [getD_set_ne _ _ _ e1, if_neg e1, if_neg e1]
    by_cases e2 : z.1.2.1 = a
    · rw [if_pos e2, ← e2, getD_set_eq _ _ _ h2]; omega
    · rw [if_neg e2, getD_set_ne _ _ _ e2]; omega
theorem ifold_at {n : Nat} (a : Nat) : ∀ (zs : List ((Nat × Nat × Int) × Int)) (H : List Int), H.length = n → (∀ z ∈ zs, z.1.1 < n ∧ z.1.2.1 < n) → (zs.foldl ist H).length = n ∧ (zs.foldl ist H).getD a 0 = H.getD a 0 + ((zs.map (gj a)).sum + (zs.map fun z => if z.1.1 = a then z.1.2.2 else 0).sum)
  | [], H, hl, _ => ⟨hl, by simp⟩
  | z :: zs, H, hl, hz => by
    obtain ⟨z1, z2⟩ := hz z (by simp)
    obtain ⟨i1, i2⟩ := ifold_at a zs (ist H z) (by rw [ist_len, hl]) (fun y hy => hz y (by simp [hy]))
    rw [List.foldl_cons]
    refine ⟨i1, ?_⟩
    rw [i2, ist_at H z (by omega) (by omega), List.map_cons, List.map_cons, List.sum_cons, List.sum_cons]
    omega
theorem intk_at (hx : ∀ x ∈ xs, DOk n x) (ls : ss.length = xs.length) (a : Nat) : (intk n xs ss).length = n ∧ (intk n xs ss).getD a 0 = (gains n xs ss).getD a 0 + outw xs a := by
  obtain ⟨i1, i2⟩ := ifold_at (n := n) a (xs.zip ss) (List.replicate n 0) (by simp) (fun z hz => by
    have := hx _ (List.of_mem_zip hz).1
    exact ⟨this.1, this.2.1⟩)
  refine ⟨i1, ?_⟩
  unfold intk
  rw [i2, getD_rep, gains_at hx]
  have : ((xs.zip ss).map fun z => if z.1.1 = a then z.1.2.2 else 0).sum = outw xs a := by
    unfold outw
    have e : xs = (xs.zip ss).map Prod.fst := by rw [List.map_fst_zip (by omega)]
    conv => rhs; rw [e]
    rw [List.map_map]
    rfl
  rw [this]
  omega
theorem intakes_ok {st : D} (hx : ∀ x ∈ xs, DOk n x) (hn : n ≤ 1000) (ls : ss.length = xs.length) (hst : dSeq st = some (ss.map D.int)) : m_intakes_of (bld n xs) st = some (.tup ((intk n xs ss).map D.int)) := by
  unfold m_intakes_of
  have er : o1 (dFld "Building" "rooms") (some (bld n xs)) = some (.int (n : Nat)) := by
    unfold bld
    rw [o1_some, fld1]
  have e2 : o1 dSeq (o1 (dFld "Building" "ducts") (some (bld n xs))) = some (xs.map dct) := by
    unfold bld
    rw [o1_some, fld2, o1_some, dSeq_tup]
  rw [er, oCons_some, o1_some, dLst1, o2_some, dMulL_rep (by omega) (by simp; omega), rep1, bs, e2, o1_some, hst, o2_some, bs]
  have hz : (xs.map dct).zip (ss.map D.int) = (xs.zip ss).map fun z => (dct z.1, D.int z.2) := by
    rw [List.zip_map]
    rfl
  rw [hz]
  have key : ∀ (zs : List ((Nat × Nat × Int) × Int)) (H : List Int), H.length = n → (∀ z ∈ zs, z.1.1 < n ∧ z.1.2.1 < n) → foldO m_intakes_of_L1 (zs.map fun z => (dct z.1, D.int z.2)) (.lst (H.map D.int)) = some (.lst ((zs.foldl ist H).map D.int)) := by
    intro zs
    induction zs with
    | nil => intro H _ _; rfl
    | cons z zs ih =>
      intro H hl hz
      obtain ⟨z1, z2⟩ := hz z (by simp)
      have g1 := dGetO_i (G := H) (i := z.1.2.1) (by omega)
      have s1 := dSet_i (G := H) (i := z.1.2.1) (v := H.getD z.1.2.1 0 + z.2) (by omega)
      have g2 := dGetO_i (G := H.set z.1.2.1 (H.getD z.1.2.1 0 + z.2)) (i := z.1.1) (by rw [List.length_set]; omega)
      have s2 := dSet_i (G := H.set z.1.2.1 (H.getD z.1.2.1 0 + z.2)) (i := z.1.1) (v := (H.set z.1.2.1 (H.getD z.1.2.1 0 + z.2)).getD z.1.1 0 + (z.1.2.2 - z.2)) (by rw [List.length_set]; omega)
      have eu : ∀ Kk : D → D → D → Option D, un3 (dct z.1) Kk = Kk (.int (z.1.1 : Int)) (.int (z.1.2.1 : Int)) (.int z.1.2.2) := fun Kk => id rfl
      rw [List.map_cons, foldO_cons, List.foldl_cons]
      unfold m_intakes_of_L1
      rw [eu]
      simp only [bs, g1, dAddI_ii, s1, g2, o2_some, dSub_ii, s2]
      exact ih (ist H z) (by rw [ist_len, hl]) (fun y hy => hz y (by simp [hy]))
  rw [key _ _ (by simp) (fun z hz => by
    have := hx _ (List.of_mem_zip hz).1
    exact ⟨this.1, this.2.1⟩), bs, c1_s, dTuple_l]
  rfl
/-- the gains the other way round -/
theorem gains_rev (hx : ∀ x ∈ xs, DOk n x) (ls : ss.length = xs.length) (a : Nat) : (gains n (vw true xs) ss).getD a 0 = -(gains n xs ss).getD a 0 := by
  rw [gains_at (vw_ok true hx), gains_at hx]
  have e : (vw true xs).zip ss = (xs.zip ss).map fun z => (revD z.1, z.2) := by
    show (xs.map revD).zip ss = _
    have := List.zip_map (f := revD) (g := fun (i : Int) => i) (l₁ := xs) (l₂ := ss)
    rw [List.map_id'] at this
    rw [this]
    rfl
  rw [e, List.map_map]
  generalize xs.zip ss = zs
  induction zs with
  | nil => rfl
  | cons z zs ih =>
    rw [List.map_cons, List.map_cons, List.sum_cons, List.sum_cons, ih]
    have : (gj a ∘ fun z => (revD z.1, z.2)) z = -gj a z := by
      show gj a (revD z.1, z.2) = _
      unfold gj revD
      dsimp only
      omega
    rw [this]
    omega
/-! what a set holds within and what it touches -/
def insideS (K : List Nat) (xs : List (Nat × Nat × Int)) : Int := (xs.map fun x => if x.1 ∈ K ∧ x.2.1 ∈ K then x.2.2 else 0).sum
def touchS (K : List Nat) (xs : List (Nat × Nat × Int)) : Int := (xs.map fun x => if x.1 ∈ K ∨ x.2.1 ∈ K then x.2.2 else 0).sum
def outK (K : List Nat) (xs : List (Nat × Nat × Int)) : Int := (xs.map fun x => if x.1 ∈ K then x.2.2 else 0).sum
theorem sum_outw (hn : K.Nodup) : ∀ xs : List (Nat × Nat × Int), (K.map fun a => outw xs a).sum = outK K xs
  | [] => by
    unfold outw outK
    induction K with
    | nil => rfl
    | cons a K ih => rw [List.map_cons, List.sum_cons, ih (List.nodup_cons.mp hn).2]; rfl
  | x :: xs => by
    have ih := sum_outw hn xs
    have e : ∀ a, outw (x :: xs) a = (if x.1 = a then x.2.2 else 0) + outw xs a := fun a => by unfold outw; rw [List.map_cons, List.sum_cons]
    have e2 : outK K (x :: xs) = (if x.1 ∈ K then x.2.2 else 0) + outK K xs := by unfold outK; rw [List.map_cons, List.sum_cons]
    rw [e2, ← ih]
    have one : (K.map fun a => if x.1 = a then x.2.2 else 0).sum = if x.1 ∈ K then x.2.2 else 0 := by
      clear ih e e2
      induction K with
      | nil => simp
      | cons a K ih =>
        rw [List.nodup_cons] at hn
        rw [List.map_cons, List.sum_cons, ih hn.2]
        by_cases z : x.1 = a
        · have : ¬ x.1 ∈ K := fun h => hn.1 (z ▸ h)
          rw [if_pos z, if_neg this, if_pos (by rw [z]; simp)]; omega
        · rw [if_neg z]
          by_cases y : x.1 ∈ K
          · rw [if_pos y, if_pos (by simp [y])]; omega
          · rw [if_neg y, if_neg (by simp [y, z])]; omega
    rw [← one]
    clear one e2 ih
    induction K with
    | nil => rfl
    | cons a K ih =>
      rw [List.map_cons, List.map_cons, List.map_cons, List.sum_cons, List.sum_cons, List.sum_cons, ih (List.nodup_cons.mp hn).2, e a]
      omega
theorem rng_bw (K : List Nat) : ∀ (xs : List (Nat × Nat × Int)) (t : Int × Int), (xs.zip (bw xs)).foldl (rst K) t = (t.1 - (xs.map fun x => if x.1 ∈ K ∧ x.2.1 ∉ K then x.2.2 else 0).sum, t.2 + (xs.map fun x => if x.2.1 ∈ K ∧ x.1 ∉ K then x.2.2 else 0).sum)
  | [], t => by simp
  | x :: xs, t => by
    have e : (x :: xs).zip (bw (x :: xs)) = (x, (0, x.2.2)) :: xs.zip (bw xs) := rfl
    rw [e, List.foldl_cons, rng_bw K xs, List.map_cons, List.map_cons, List.sum_cons, List.sum_cons]
    unfold rst
    dsimp only
    by_cases h1 : x.1 ∈ K <;> by_cases h2 : x.2.1 ∈ K <;> simp only [h1, h2, if_true, if_false, not_true_eq_false, not_false_eq_true, and_true, and_false, and_self] <;> refine Prod.ext ?_ ?_ <;> dsimp only <;> omega
theorem in_touch (K : List Nat) : ∀ xs : List (Nat × Nat × Int), insideS K xs = outK K xs - (xs.map fun x => if x.1 ∈ K ∧ x.2.1 ∉ K then x.2.2 else 0).sum ∧ touchS K xs = outK K xs + (xs.map fun x => if x.2.1 ∈ K ∧ x.1 ∉ K then x.2.2 else 0).sum
  | [] => ⟨rfl, rfl⟩
  | x :: xs => by
    obtain ⟨i1, i2⟩ := in_touch K xs
    unfold insideS outK at i1
    unfold touchS outK at i2
    unfold insideS touchS outK
    simp only [List.map_cons, List.sum_cons]
    by_cases h1 : x.1 ∈ K <;> by_cases h2 : x.2.1 ∈ K <;> simp only [h1, h2, if_true, if_false, not_true_eq_false, not_false_eq_true, and_true, and_false, and_self, or_true, true_or, or_self] <;> omega
theorem rng_rev (K : List Nat) : (rng K (vw true xs) (bw xs)).2 = (xs.map fun x => if x.1 ∈ K ∧ x.2.1 ∉ K then x.2.2 else 0).sum := by
  have e : bw xs = bw (vw true xs) := by
    show xs.map _ = (xs.map revD).map _
    rw [List.map_map]
    rfl
  unfold rng
  rw [e, rng_bw]
  show 0 + ((xs.map revD).map _).sum = _
  rw [List.map_map, Int.zero_add]
  rfl
theorem needK_intk (hx : ∀ x ∈ xs, DOk n x) (ls : ss.length = xs.length) (hn : K.Nodup) : needK (intk n xs ss) K = needK (gains n xs ss) K + outK K xs := by
  rw [← sum_outw hn xs]
  unfold needK
  clear hn
  induction K with
  | nil => rfl
  | cons a K ih =>
    rw [List.map_cons, List.map_cons, List.map_cons, List.sum_cons, List.sum_cons, List.sum_cons, ih, (intk_at hx ls a).2]
    omega
theorem needK_neg {G H : List Int} (h : ∀ a, G.getD a 0 = -H.getD a 0) (K : List Nat) : needK G K = -needK H K := by
  unfold needK
  induction K with
  | nil => rfl
  | cons a K ih =>
    rw [List.map_cons, List.map_cons, List.sum_cons, List.sum_cons, ih, h a]
    omega
/-- a set that nothing leads out of -/
theorem crowd_cut (hx : ∀ x ∈ xs, DOk n x) (hf : fitB (bw xs) ss = true) (hn : K.Nodup) (hc : ∀ u ∈ K, Closed (vw true xs) (bw xs) ss xs.length K u) : needK (intk n xs ss) K = insideS K xs := by
  have lb : (bw xs).length = xs.length := bw_len
  have ls := (fit_len hf).trans lb
  have vl := vw_len (xs := xs) true
  have := closed_most (n := n) (xs := vw true xs) (ss := ss) (vw_ok true hx) (by omega) hf hn (by rw [vl]; exact hc)
  rw [needK_neg (gains_rev hx ls) K, rng_rev] at this
  rw [needK_intk hx ls hn, (in_touch K xs).1]
  omega
theorem thirst_cut (hx : ∀ x ∈ xs, DOk n x) (hf : fitB (bw xs) ss = true) (hn : K.Nodup) (hc : ∀ u ∈ K, Closed (vw false xs) (bw xs) ss xs.length K u) : needK (intk n xs ss) K = touchS K xs := by
  have lb : (bw xs).length = xs.length := bw_len
  have ls := (fit_len hf).trans lb
  have := closed_most (n := n) (xs := xs) (ss := ss) hx lb hf hn hc
  rw [needK_intk hx ls hn, (in_touch K xs).2, this]
  unfold rng
  rw [rng_bw]
  dsimp only
  omega
end
end Mi
namespace Mi
open PySem L2
section
variable {n : Nat} {xs ys : List (Nat × Nat × Int)} {bo : List (Int × Int)} {ss ns hs : List Int} {K : List Nat}
theorem fit_at (h : fitB bo ss = true) {j : Nat} (hj : j < bo.length) : (bo.getD j (0, 0)).1 ≤ ss.getD j 0 ∧ ss.getD j 0 ≤ (bo.getD j (0, 0)).2 := by
  unfold fitB at h
  rw [Bool.and_eq_true, List.all_eq_true] at h
  have := h.2 j (List.mem_range.mpr hj)
  rw [Bool.and_eq_true, decide_eq_true_eq, decide_eq_true_eq] at this
  exact this
theorem most_ge (hx : ∀ x ∈ xs, DOk n x) (lb : bo.length = xs.length) (hf : fitB bo ss = true) (hn : K.Nodup) : needK (gains n xs ss) K ≤ (rng K xs bo).2 := by
  have ls := (fit_len hf).trans lb
  rw [needK_gains hx hn]
  unfold rng
  rw [zip_range (0, 0, 0) 0 xs ss ls.symm, zip_range (0, 0, 0) (0, 0) xs bo lb.symm, List.map_map, List.foldl_map]
  have key : ∀ (l : List Nat), (∀ j ∈ l, j < xs.length) → ∀ t : Int × Int, t.2 + (l.map (nk K ∘ fun j => (xs.getD j (0, 0, 0), ss.getD j 0))).sum ≤ (l.foldl (fun t j => rst K t (xs.getD j (0, 0, 0), bo.getD j (0, 0))) t).2 := by
    intro l
    induction l with
    | nil => intro _ t; simp
    | cons j l ih =>
      intro hl t
      have hj := hl j (by simp)
      have := ih (fun i hi => hl i (by simp [hi])) (rst K t (xs.getD j (0, 0, 0), bo.getD j (0, 0)))
      rw [List.foldl_cons, List.map_cons, List.sum_cons]
      unfold fitB at hf
      rw [Bool.and_eq_true, List.all_eq_true] at hf
      have hfj := hf.2 j (List.mem_range.mpr (by omega))
      rw [Bool.and_eq_true, decide_eq_true_eq, decide_eq_true_eq] at hfj
      have e : t.2 + nk K (xs.getD j (0, 0, 0), ss.getD j 0) ≤ (rst K t (xs.getD j (0, 0, 0), bo.getD j (0, 0))).2 := by
        unfold rst nk
        dsimp only
        by_cases h1 : (xs.getD j (0, 0, 0)).2.1 ∈ K <;> by_cases h2 : (xs.getD j (0, 0, 0)).1 ∈ K <;> simp only [h1, h2, if_true, if_false, not_true_eq_false, not_false_eq_true, and_true, and_false, and_self] <;> omega
      show t.2 + (nk K (xs.getD j (0, 0, 0), ss.getD j 0) + _) ≤ _
      omega
  have := key (List.range xs.length) (fun j hj => List.mem_range.mp hj) (0, 0)
  simpa using this
theorem least_le (hx : ∀ x ∈ xs, DOk n x) (lb : bo.length = xs.length) (hf : fitB bo ss = true) (hn : K.Nodup) : (rng K xs bo).1 ≤ needK (gains n xs ss) K := by
  have ls := (fit_len hf).trans lb
  rw [needK_gains hx hn]
  unfold rng
  rw [zip_range (0, 0, 0) 0 xs ss ls.symm, zip_range (0, 0, 0) (0, 0) xs bo lb.symm, List.map_map, List.foldl_map]
  have key : ∀ (l : List Nat), (∀ j ∈ l, j < xs.length) → ∀ t : Int × Int, (l.foldl (fun t j => rst K t (xs.getD j (0, 0, 0), bo.getD j (0, 0))) t).1 ≤ t.1 + (l.map (nk K ∘ fun j => (xs.getD j (0, 0, 0), ss.getD j 0))).sum := by
    intro l
    induction l with
    | nil => intro _ t; simp
    | cons j l ih =>
      intro hl t
      have hj := hl j (by simp)
      have := ih (fun i hi => hl i (by simp [hi])) (rst K t (xs.getD j (0, 0, 0), bo.getD j (0, 0)))
      rw [List.foldl_cons, List.map_cons, List.sum_cons]
      have hfj := fit_at hf (j := j) (by omega)
      have e : (rst K t (xs.getD j (0, 0, 0), bo.getD j (0, 0))).1 ≤ t.1 + nk K (xs.getD j (0, 0, 0), ss.getD j 0) := by
        unfold rst nk
        dsimp only
        by_cases h1 : (xs.getD j (0, 0, 0)).2.1 ∈ K <;> by_cases h2 : (xs.getD j (0, 0, 0)).1 ∈ K <;> simp only [h1, h2, if_true, if_false, not_true_eq_false, not_false_eq_true, and_true, and_false, and_self] <;> omega
      show _ ≤ t.1 + (nk K (xs.getD j (0, 0, 0), ss.getD j 0) + _)
      omega
  have := key (List.range xs.length) (fun j hj => List.mem_range.mp hj) (0, 0)
  simpa using this
theorem not_refused (hx : ∀ x ∈ xs, DOk n x) (lb : bo.length = xs.length) (hf : fitB bo ss = true) {k : Str} (hk : k = "starved" ∨ k = "flooded") (hR : RSet n K) : refB k K xs bo (gains n xs ss) = false := by
  obtain ⟨_, _, ht, _⟩ := kinds hk
  have a := most_ge hx lb hf hR.nd
  have b := least_le hx lb hf hR.nd
  unfold refB
  rcases ht with ⟨z, _⟩ | ⟨z, _⟩
  · rw [z, if_pos rfl, decide_eq_false (by omega)]
  · rw [z, if_neg (by decide), decide_eq_false (by omega)]
theorem bw_bd (hx : ∀ x ∈ xs, DOk n x) : BdsOk (bw xs) := fun b hb => by
  obtain ⟨x, hx', rfl⟩ := List.mem_map.mp hb
  have := (hx x hx').2.2.2
  dsimp only
  omega
def muL (n : Nat) (xs : List (Nat × Nat × Int)) (hs : List Int) (b : D) : Nat := match dInts b with
  | some ss => gap hs (intk n xs ss) n
  | none => 0
theorem muL_eq (ss : List Int) : muL n xs hs (.lst (ss.map D.int)) = gap hs (intk n xs ss) n := by simp [muL, dInts, asInts_map]
/-- what lower_all leaves -/
def LowR (n : Nat) (xs : List (Nat × Nat × Int)) (hs : List Int) (d : D) (ss : List Int) : Prop :=
  fitB (bw xs) ss = true ∧ ((d = .tup [] ∧ ∀ a, a < n → (intk n xs ss).getD a 0 ≤ hs.getD a 0) ∨ ∃ K, d = tupN K ∧ RSet n K ∧ needK hs K < insideS K xs)
theorem lower_ok (hx : ∀ x ∈ xs, DOk n x) (hn8 : n ≤ 60) (hm : xs.length ≤ 16) (lh : hs.length = n) (h0 : fitB (bw xs) ss = true) :
    ∃ (d : D) (st : List Int), m_lower_all (bld n xs) (.lst (ss.map D.int)) (.lst (hs.map D.int)) = some (d, [(1, .lst (st.map D.int))]) ∧ LowR n xs hs d st := by
  have er : o1 (dFld "Building" "rooms") (some (bld n xs)) = some (.int (n : Nat)) := by
    unfold bld
    rw [o1_some, fld1]
  obtain ⟨o, ho, d, st, hd, hR⟩ := whileO_run (γ := Empty) (c := m_lower_all_T3) (f := m_lower_all_W4 (bld n xs) (.lst (hs.map D.int)))
    (fun b => ∃ ss : List Int, b = .lst (ss.map D.int) ∧ fitB (bw xs) ss = true) (muL n xs hs)
    (fun o => ∃ (d : D) (st : List Int), o = .rt d [(1, .lst (st.map D.int))] ∧ LowR n xs hs d st)
    (fun b ⟨ss, hb, hf⟩ => by
      subst hb
      refine .inr ⟨rfl, ?_⟩
      have lb : (bw xs).length = xs.length := bw_len
      have ls := (fit_len hf).trans lb
      have il := (intk_at hx ls 0).1
      have cm : dComp (m_lower_all_C1 (.tup ((intk n xs ss).map D.int)) (.lst (hs.map D.int))) ((List.range n).map fun (k : Nat) => D.int (k : Int)) = some (lstN ((List.range n).filter fun a => decide (hs.getD a 0 < (intk n xs ss).getD a 0))) := filt _ _ _ (by simp; omega) fun a ha => by
        have ha := List.mem_range.mp ha
        unfold m_lower_all_C1
        rw [o2_some, ixtD 0 (by omega), o2_some, ixmD 0 (by omega), o2_some, dGt_ii, o1_some, tru_bl, bs]
        by_cases z : hs.getD a 0 < (intk n xs ss).getD a 0 <;> simp [-List.getD_eq_getElem?_getD, z]
      unfold m_lower_all_W4
      rw [c2_s, intakes_ok hx (by omega) ls (dSeq_lst _), bs, er, oCons_some, o1_some, dRange1_s (by omega), bs, ranged0, cm, bs]
      rcases hMs : (List.range n).filter fun a => decide (hs.getD a 0 < (intk n xs ss).getD a 0) with _ | ⟨r, ms'⟩
      · right
        refine ⟨_, [(1, .lst (ss.map D.int))], ?_, _, ss, rfl, hf, .inl ⟨rfl, fun a ha => ?_⟩⟩
        · have : c1 dLen (some (lstN [])) = some (.int 0) := id rfl
          rw [this, o2_some, eqI, decide_eq_true rfl, o1_some, tru_bl, bs]
          simp only [if_true, o1_some, dTup0, bs]
        · have := (List.filter_eq_nil_iff.mp hMs) a (List.mem_range.mpr ha)
          simp only [decide_eq_true_eq] at this
          omega
      · have hr : r ∈ (List.range n).filter fun a => decide (hs.getD a 0 < (intk n xs ss).getD a 0) := by rw [hMs]; simp
        obtain ⟨hr1, hr2⟩ := List.mem_filter.mp hr
        have hr1 := List.mem_range.mp hr1
        simp only [decide_eq_true_eq] at hr2
        obtain ⟨L, hL, t, hc⟩ := search_ok true (r := r) hx hn8 ls (by omega) hr1
        obtain ⟨K, hK1, hK2, hK3⟩ := dicW_sorted t.nd (by have := t.len; omega)
        have Kn : K.Nodup := hK2.imp fun {a b} h => by omega
        have Klt : ∀ k ∈ K, k < n := fun k hk => t.lt k ((hK3 k).mp hk)
        have Kl : K.length ≤ n := by
          have := List.Nodup.length_le_of_subset (l₁ := K) (l₂ := List.range n) Kn fun x hx => List.mem_range.mpr (Klt x hx)
          simpa using this
        have cg : dComp (m_lower_all_C2 (.tup ((intk n xs ss).map D.int)) (.lst (hs.map D.int))) (K.map fun (k : Nat) => D.int (k : Int)) = some (lstN (K.filter fun a => decide ((intk n xs ss).getD a 0 < hs.getD a 0))) := filt _ _ _ (by omega) fun a ha => by
          have ha := Klt a ha
          unfold m_lower_all_C2
          rw [o2_some, ixtD 0 (by omega), o2_some, ixmD 0 (by omega), o2_some, dLt_ii, o1_some, tru_bl, bs]
          by_cases z : (intk n xs ss).getD a 0 < hs.getD a 0 <;> simp [-List.getD_eq_getElem?_getD, z]
        have len1 : c1 dLen (some (lstN (r :: ms'))) = some (.int ((ms'.length + 1 : Nat) : Int)) := by
          unfold lstN
          rw [c1_s, dLen_lst, List.length_map]
          rfl
        have ix0 : dIx (lstN (r :: ms')) (.int 0) = some (.int (r : Int)) := by
          unfold lstN
          rw [List.map_cons, dIx_lst, atI_0]
        rw [len1, o2_some, eqI, decide_eq_false (by omega), o1_some, tru_bl, bs]
        simp only [Bool.false_eq_true, if_false]
        rw [o2_some, ix0, c4_s, hL, bs, c1_s, hK1, o1_some, show dItems (lstN K) = some (K.map fun (k : Nat) => D.int (k : Int)) from rfl, bs, cg, bs]
        rcases hGs : K.filter fun a => decide ((intk n xs ss).getD a 0 < hs.getD a 0) with _ | ⟨g, gs'⟩
        · right
          have hle : ∀ a ∈ K, hs.getD a 0 ≤ (intk n xs ss).getD a 0 := fun a ha => by
            have := (List.filter_eq_nil_iff.mp hGs) a ha
            simp only [decide_eq_true_eq] at this
            omega
          have hrK : r ∈ K := (hK3 r).mpr t.root
          refine ⟨_, [(1, .lst (ss.map D.int))], ?_, _, ss, rfl, hf, .inr ⟨K, rfl, ⟨hK2, Klt, fun e => by rw [e] at hrK; cases hrK⟩, ?_⟩⟩
          · have : c1 dLen (some (lstN [])) = some (.int 0) := id rfl
            rw [this, o2_some, eqI, decide_eq_true rfl, o1_some, tru_bl, bs]
            simp only [if_true]
            have tu : dTuple (lstN K) = some (tupN K) := id rfl
            rw [c1_s, tu, bs]
          · rw [← crowd_cut hx hf Kn fun u hu => (hc u ((hK3 u).mp hu)).mono fun a ha => (hK3 a).mpr ha]
            unfold needK
            exact ssum_lt hle ⟨r, hrK, hr2⟩
        · left
          have hg : g ∈ K.filter fun a => decide ((intk n xs ss).getD a 0 < hs.getD a 0) := by rw [hGs]; simp
          obtain ⟨hg1, hg2⟩ := List.mem_filter.mp hg
          simp only [decide_eq_true_eq] at hg2
          obtain ⟨fin, hfd, hff, hfg⟩ := turn_ok true hx (by omega) t ((hK3 g).mp hg1) hf
          have lf := (fit_len hff).trans lb
          have len2 : c1 dLen (some (lstN (g :: gs'))) = some (.int ((gs'.length + 1 : Nat) : Int)) := by
            unfold lstN
            rw [c1_s, dLen_lst, List.length_map]
            rfl
          have ix1 : dIx (lstN (g :: gs')) (.int 0) = some (.int (g : Int)) := by
            unfold lstN
            rw [List.map_cons, dIx_lst, atI_0]
          have hfi : ∀ a, (intk n xs fin).getD a 0 = (intk n xs ss).getD a 0 + ind g a - ind r a := fun a => by
            have q1 := (intk_at hx lf a).2
            have q2 := (intk_at hx ls a).2
            have q3 := hfg a
            rw [gains_rev hx lf, gains_rev hx ls] at q3
            omega
          refine ⟨.lst (fin.map D.int), ?_, ⟨fin, rfl, hff⟩, ?_⟩
          · rw [len2, o2_some, eqI, decide_eq_false (by omega), o1_some, tru_bl, bs]
            simp only [Bool.false_eq_true, if_false]
            rw [o2_some, ix1, oCons_some, oCons_some, oCons_some, oCons_some, oCons_some, bs, f5_s, hfd, bs]
            rfl
          · rw [muL_eq, muL_eq]
            unfold gap
            have ne : g ≠ r := fun e => by subst e; omega
            refine sum_lt (fun a _ => ?_) ⟨r, List.mem_range.mpr hr1, ?_⟩
            · rw [hfi a]
              unfold ind
              by_cases e1 : g = a
              · subst e1
                rw [if_pos rfl, if_neg (Ne.symm ne)]
                omega
              · rw [if_neg e1]
                by_cases e2 : r = a
                · subst e2
                  rw [if_pos rfl]
                  omega
                · rw [if_neg e2]
                  omega
            · rw [hfi r]
              unfold ind
              rw [if_neg ne, if_pos rfl]
              omega)
    (.lst (ss.map D.int)) ⟨_, rfl, h0⟩
  refine ⟨d, st, ?_, hR⟩
  unfold m_lower_all
  rw [ho, hd, bs, Out.thnU_rt]
/-- raise_all, where none holds more than is asked -/
theorem raise_ok (hx : ∀ x ∈ xs, DOk n x) (hn8 : n ≤ 60) (hm : xs.length ≤ 16) (lh : hs.length = n) (hf : fitB (bw xs) ss = true) (hle : ∀ a, a < n → (intk n xs ss).getD a 0 ≤ hs.getD a 0) :
    ∃ d : D, m_raise_all (bld n xs) (.lst (ss.map D.int)) (.lst (hs.map D.int)) = some (d, [(1, .lst (ss.map D.int))]) ∧ ((d = .tup [] ∧ intk n xs ss = hs) ∨ ∃ K, d = tupN K ∧ RSet n K ∧ touchS K xs < needK hs K) := by
  have er : o1 (dFld "Building" "rooms") (some (bld n xs)) = some (.int (n : Nat)) := by
    unfold bld
    rw [o1_some, fld1]
  have lb : (bw xs).length = xs.length := bw_len
  have ls := (fit_len hf).trans lb
  have il := (intk_at hx ls 0).1
  have one : ∃ d : D, m_raise_all_W4 (bld n xs) (.lst (hs.map D.int)) (.lst (ss.map D.int)) = some (.rt d [(1, .lst (ss.map D.int))]) ∧ ((d = .tup [] ∧ intk n xs ss = hs) ∨ ∃ K, d = tupN K ∧ RSet n K ∧ touchS K xs < needK hs K) := by
    have cm : dComp (m_raise_all_C1 (.tup ((intk n xs ss).map D.int)) (.lst (hs.map D.int))) ((List.range n).map fun (k : Nat) => D.int (k : Int)) = some (lstN ((List.range n).filter fun a => decide ((intk n xs ss).getD a 0 < hs.getD a 0))) := filt _ _ _ (by simp; omega) fun a ha => by
      have ha := List.mem_range.mp ha
      unfold m_raise_all_C1
      rw [o2_some, ixtD 0 (by omega), o2_some, ixmD 0 (by omega), o2_some, dLt_ii, o1_some, tru_bl, bs]
      by_cases z : (intk n xs ss).getD a 0 < hs.getD a 0 <;> simp [-List.getD_eq_getElem?_getD, z]
    unfold m_raise_all_W4
    rw [c2_s, intakes_ok hx (by omega) ls (dSeq_lst _), bs, er, oCons_some, o1_some, dRange1_s (by omega), bs, ranged0, cm, bs]
    rcases hMs : (List.range n).filter fun a => decide ((intk n xs ss).getD a 0 < hs.getD a 0) with _ | ⟨r, ms'⟩
    · refine ⟨.tup [], ?_, .inl ⟨rfl, list_ext_getD (by omega) fun a ha => ?_⟩⟩
      · have : c1 dLen (some (lstN [])) = some (.int 0) := id rfl
        rw [this, o2_some, eqI, decide_eq_true rfl, o1_some, tru_bl, bs]
        simp only [if_true, o1_some, dTup0, bs]
      · have := (List.filter_eq_nil_iff.mp hMs) a (List.mem_range.mpr (by omega))
        simp only [decide_eq_true_eq] at this
        have := hle a (by omega)
        omega
    · have hr : r ∈ (List.range n).filter fun a => decide ((intk n xs ss).getD a 0 < hs.getD a 0) := by rw [hMs]; simp
      obtain ⟨hr1, hr2⟩ := List.mem_filter.mp hr
      have hr1 := List.mem_range.mp hr1
      simp only [decide_eq_true_eq] at hr2
      obtain ⟨L, hL, t, hc⟩ := search_ok false (r := r) hx hn8 ls (by omega) hr1
      obtain ⟨K, hK1, hK2, hK3⟩ := dicW_sorted t.nd (by have := t.len; omega)
      have Kn : K.Nodup := hK2.imp fun {a b} h => by omega
      have Klt : ∀ k ∈ K, k < n := fun k hk => t.lt k ((hK3 k).mp hk)
      have Kl : K.length ≤ n := by
        have := List.Nodup.length_le_of_subset (l₁ := K) (l₂ := List.range n) Kn fun x hx => List.mem_range.mpr (Klt x hx)
        simpa using this
      have cg : dComp (m_raise_all_C2 (.tup ((intk n xs ss).map D.int)) (.lst (hs.map D.int))) (K.map fun (k : Nat) => D.int (k : Int)) = some (lstN (K.filter fun a => decide (hs.getD a 0 < (intk n xs ss).getD a 0))) := filt _ _ _ (by omega) fun a ha => by
        have ha := Klt a ha
        unfold m_raise_all_C2
        rw [o2_some, ixtD 0 (by omega), o2_some, ixmD 0 (by omega), o2_some, dGt_ii, o1_some, tru_bl, bs]
        by_cases z : hs.getD a 0 < (intk n xs ss).getD a 0 <;> simp [-List.getD_eq_getElem?_getD, z]
      have cn : K.filter (fun a => decide (hs.getD a 0 < (intk n xs ss).getD a 0)) = [] := List.filter_eq_nil_iff.mpr fun a ha => by
        have := hle a (Klt a ha)
        simp only [decide_eq_true_eq]
        omega
      have len1 : c1 dLen (some (lstN (r :: ms'))) = some (.int ((ms'.length + 1 : Nat) : Int)) := by
        unfold lstN
        rw [c1_s, dLen_lst, List.length_map]
        rfl
      have ix0 : dIx (lstN (r :: ms')) (.int 0) = some (.int (r : Int)) := by
        unfold lstN
        rw [List.map_cons, dIx_lst, atI_0]
      rw [len1, o2_some, eqI, decide_eq_false (by omega), o1_some, tru_bl, bs]
      simp only [Bool.false_eq_true, if_false]
      rw [o2_some, ix0, c4_s, hL, bs, c1_s, hK1, o1_some, show dItems (lstN K) = some (K.map fun (k : Nat) => D.int (k : Int)) from rfl, bs, cg, cn, bs]
      have hrK : r ∈ K := (hK3 r).mpr t.root
      refine ⟨tupN K, ?_, .inr ⟨K, rfl, ⟨hK2, Klt, fun e => by rw [e] at hrK; cases hrK⟩, ?_⟩⟩
      · have : c1 dLen (some (lstN [])) = some (.int 0) := id rfl
        rw [this, o2_some, eqI, decide_eq_true rfl, o1_some, tru_bl, bs]
        simp only [if_true]
        have tu : dTuple (lstN K) = some (tupN K) := id rfl
        rw [c1_s, tu, bs]
      · rw [← thirst_cut hx hf Kn fun u hu => (hc u ((hK3 u).mp hu)).mono fun a ha => (hK3 a).mpr ha]
        unfold needK
        exact ssum_lt (fun a ha => hle a (Klt a ha)) ⟨r, hrK, hr2⟩
  obtain ⟨d, h1, h2⟩ := one
  obtain ⟨o, ho, hd⟩ := whileO_run (γ := Empty) (c := m_raise_all_T3) (f := m_raise_all_W4 (bld n xs) (.lst (hs.map D.int)))
    (fun b => b = .lst (ss.map D.int)) (fun _ => 0) (fun o => o = .rt d [(1, .lst (ss.map D.int))])
    (fun b hb => by subst hb; exact .inr ⟨rfl, .inr ⟨_, _, h1, rfl⟩⟩) (.lst (ss.map D.int)) rfl
  refine ⟨d, ?_, h2⟩
  unfold m_raise_all
  rw [ho, hd, bs, Out.thnU_rt]
theorem reqbi_ok {cs ds : List Int} (hl : cs.length = n) (hl2 : ds.length = n) (hn : n ≤ 1000) (h : ∀ c ∈ cs, -200 ≤ c ∧ c ≤ 200) (h2 : ∀ c ∈ ds, -200 ≤ c ∧ c ≤ 200) : m_require_bounds_intakes (bld n xs) (.lst (cs.map D.int)) (.lst (ds.map D.int)) = some .non := by
  have e : o1 (dFld "Building" "rooms") (some (bld n xs)) = some (.int (n : Nat)) := by
    unfold bld
    rw [o1_some, fld1]
  unfold m_require_bounds_intakes
  rw [e, o1_some, dNeg_i, c4_s, tab_ints hl (by omega) h, c2_s, req_t, bs, c4_s, tab_ints hl2 (by omega) h2, c2_s, req_t, bs]
/-- what the program holds, where low and high are one -/
theorem holdi_ok (h1 : 1 ≤ n) (h8 : n ≤ 8) (hm : xs.length ≤ 16) (hx : ∀ x ∈ xs, DOk n x) (la : ns.length = n) (na : ∀ c ∈ ns, -200 ≤ c ∧ c ≤ 200) :
    ∃ p, m_hold_intakes (bld n xs) (.lst (ns.map D.int)) (.lst (ns.map D.int)) = some p ∧ ((∃ ss : List Int, p = .tup [.str "air", .tup (ss.map D.int)] ∧ fitB (bw xs) ss = true ∧ intk n xs ss = ns) ∨ (∃ K, p = .tup [.str "crowded", tupN K] ∧ RSet n K ∧ needK ns K < insideS K xs) ∨ ∃ K, p = .tup [.str "thirsty", tupN K] ∧ RSet n K ∧ touchS K xs < needK ns K) := by
  have er : o1 (dFld "Building" "rooms") (some (bld n xs)) = some (.int (n : Nat)) := by
    unfold bld
    rw [o1_some, fld1]
  have el : c1 dLen (o1 (dFld "Building" "ducts") (some (bld n xs))) = some (.int (xs.length : Nat)) := by
    unfold bld
    rw [o1_some, fld2, c1_s, dLen_tup, List.length_map]
  have f0 : fitB (bw xs) (List.replicate xs.length 0) = true := by
    have lb : (bw xs).length = xs.length := bw_len
    unfold fitB
    rw [decide_eq_true (by rw [List.length_replicate, lb]), Bool.true_and, List.all_eq_true]
    intro j hj
    have hj := List.mem_range.mp hj
    rw [getD_rep, bw_at (by omega)]
    have := (hx _ (xin (0, 0, 0) (show j < xs.length by omega))).2.2.2
    rw [decide_eq_true (Int.le_refl _), decide_eq_true (by dsimp only; omega)]
    rfl
  obtain ⟨d, st, hd, hfs, hcase⟩ := lower_ok (hs := ns) hx (by omega) hm la f0
  have lenT : ∀ K : List Nat, c1 dLen (some (tupN K)) = some (.int (K.length : Nat)) := fun K => by
    unfold tupN
    rw [c1_s, dLen_tup, List.length_map]
  unfold m_hold_intakes
  rw [c1_s, reqb_ok, bs, c3_s, reqbi_ok la la (by omega) na na, bs, er, oCons_some, o1_some, dRange1_s (by omega), bs, ranged0]
  rw [loopO_nxI fun k hk => by
    have e1 := ixmD (f := D.int) (xs := ns) (i := k) 0 (by omega)
    unfold m_hold_intakes_L1
    rw [o2_some, e1, o2_some, dGt_ii, o1_some, tru_bl, bs, decide_eq_false (by omega)]
    rfl]
  rw [bs, Out.thnD_nx, oCons_some, o1_some, dLst1, el, o2_some, dMulL_rep (by omega) (by simp; omega), rep1, bs, oCons_some, oCons_some, oCons_some, bs, f3_s, hd, bs]
  have ck : ∀ d : D, chkU [(1, 4)] (d, [(1, .lst (st.map D.int))]) = some (d, [(1, .lst (st.map D.int))]) := fun d => id rfl
  have cu : ∀ d : D, cU (d, [(1, .lst (st.map D.int))]) 1 = .lst (st.map D.int) := fun d => id rfl
  rw [ck, bs]
  dsimp only
  rcases hcase with ⟨rfl, hle⟩ | ⟨K, rfl, hR, hK⟩
  · have l0 : c1 dLen (some (.tup [])) = some (.int 0) := id rfl
    obtain ⟨d2, hd2, hc2⟩ := raise_ok hx (by omega) hm la hfs hle
    rw [l0, o2_some, dGt_ii, o1_some, tru_bl, bs, decide_eq_false (by omega)]
    simp only [Bool.false_eq_true, if_false]
    rw [cu, oCons_some, oCons_some, bs, f3_s, hd2, bs, ck, bs]
    dsimp only
    rcases hc2 with ⟨rfl, hi⟩ | ⟨K, rfl, hR, hK⟩
    · rw [l0, o2_some, dGt_ii, o1_some, tru_bl, bs, decide_eq_false (by omega)]
      simp only [Bool.false_eq_true, if_false]
      rw [cu, c1_s, dTuple_l, oCons_some, oCons_some, o1_some, dTup2]
      exact ⟨_, rfl, .inl ⟨st, rfl, hfs, hi⟩⟩
    · have pos : 0 < K.length := List.length_pos_iff.mpr hR.2.2
      rw [lenT, o2_some, dGt_ii, o1_some, tru_bl, bs, decide_eq_true (by omega)]
      simp only [if_true]
      rw [oCons_some, oCons_some, o1_some, dTup2]
      exact ⟨_, rfl, .inr (.inr ⟨K, rfl, hR, hK⟩)⟩
  · have pos : 0 < K.length := List.length_pos_iff.mpr hR.2.2
    rw [lenT, o2_some, dGt_ii, o1_some, tru_bl, bs, decide_eq_true (by omega)]
    simp only [if_true]
    rw [oCons_some, oCons_some, o1_some, dTup2]
    exact ⟨_, rfl, .inr (.inl ⟨K, rfl, hR, hK⟩)⟩
end
end Mi
namespace Mi
open PySem L2
theorem dComp_fm {α : Type} {f : D → Option (Option D)} {g0 v : α → D} {p : α → Bool} {l : List α} (hl : l.length ≤ 16777216) (h : ∀ a ∈ l, f (g0 a) = some (if p a = true then some (v a) else none)) : dComp f (l.map g0) = some (.lst ((l.filter p).map v)) := by
  unfold dComp
  rw [if_pos (by rw [List.length_map]; exact hl)]
  have : compO f (l.map g0) = some ((l.filter p).map v) := by
    clear hl
    induction l with
    | nil => rfl
    | cons a l ih =>
      rw [List.map_cons, compO_cons, h a (by simp), ih fun b hb => h b (by simp [hb])]
      cases q : p a <;> simp [q, optC]
  rw [this]
  rfl
theorem sum_filter {α : Type} (p : α → Bool) (w : α → Int) (l : List α) : ((l.filter p).map w).sum = (l.map fun x => if p x = true then w x else 0).sum := by
  induction l with
  | nil => rfl
  | cons a l ih =>
    rw [List.map_cons, List.sum_cons, ← ih]
    cases q : p a <;> simp [q]
theorem kA : PyData.strOk "air" = true := by decide +kernel
theorem kX : PyData.strOk "crossed" = true := by decide +kernel
theorem kCr : PyData.strOk "crowded" = true := by decide +kernel
theorem kTh : PyData.strOk "thirsty" = true := by decide +kernel
section
variable {n : Nat} {xs ys : List (Nat × Nat × Int)} {bo : List (Int × Int)} {ss ns hs : List Int} {K : List Nat}
theorem it_bld : o1 dItems (o1 (dFld "Building" "ducts") (some (bld n xs))) = some (xs.map dct) := by
  unfold bld
  rw [o1_some, fld2, o1_some, dItems_tup]
theorem inside_ok (hm : xs.length ≤ 1000) : m_inside (bld n xs) (tupN K) = some (.int (insideS K xs)) := by
  unfold m_inside
  rw [it_bld, bs, dComp_fm (p := fun x => decide (x.1 ∈ K) && decide (x.2.1 ∈ K)) (v := fun x => D.int x.2.2) (by omega) fun x hx => ?_]
  · have e : (xs.filter fun x => decide (x.1 ∈ K) && decide (x.2.1 ∈ K)).map (fun x => D.int x.2.2) = ((xs.filter fun x => decide (x.1 ∈ K) && decide (x.2.1 ∈ K)).map fun x => x.2.2).map D.int := by rw [List.map_map]; rfl
    rw [e, c1_s, dSum_l, sum_filter]
    unfold insideS
    congr 2
    congr 1
    apply List.map_congr_left
    intro x _
    by_cases h1 : x.1 ∈ K <;> by_cases h2 : x.2.1 ∈ K <;> simp [h1, h2]
  · have y0 : dIx (dct x) (.int 0) = some (.int (x.1 : Int)) := id rfl
    have y1 : dIx (dct x) (.int 1) = some (.int (x.2.1 : Int)) := id rfl
    have y2 : dIx (dct x) (.int 2) = some (.int x.2.2) := id rfl
    unfold m_inside_C1
    rw [o2_some, y0, o2_some, dIn_N, o2_some, y1, o2_some, dIn_N, o2_some, y2, o1_some, tru_bl, o1_some, tru_bl]
    by_cases h1 : x.1 ∈ K <;> by_cases h2 : x.2.1 ∈ K <;> simp [h1, h2]
theorem touch_ok (hm : xs.length ≤ 1000) : m_touching (bld n xs) (tupN K) = some (.int (touchS K xs)) := by
  unfold m_touching
  rw [it_bld, bs, dComp_fm (p := fun x => decide (x.1 ∈ K) || decide (x.2.1 ∈ K)) (v := fun x => D.int x.2.2) (by omega) fun x hx => ?_]
  · have e : (xs.filter fun x => decide (x.1 ∈ K) || decide (x.2.1 ∈ K)).map (fun x => D.int x.2.2) = ((xs.filter fun x => decide (x.1 ∈ K) || decide (x.2.1 ∈ K)).map fun x => x.2.2).map D.int := by rw [List.map_map]; rfl
    rw [e, c1_s, dSum_l, sum_filter]
    unfold touchS
    congr 2
    congr 1
    apply List.map_congr_left
    intro x _
    by_cases h1 : x.1 ∈ K <;> by_cases h2 : x.2.1 ∈ K <;> simp [h1, h2]
  · have y0 : dIx (dct x) (.int 0) = some (.int (x.1 : Int)) := id rfl
    have y1 : dIx (dct x) (.int 1) = some (.int (x.2.1 : Int)) := id rfl
    have y2 : dIx (dct x) (.int 2) = some (.int x.2.2) := id rfl
    unfold m_touching_C1
    rw [o2_some, y0, o2_some, dIn_N, o2_some, y1, o2_some, dIn_N, o2_some, y2, o1_some, tru_bl, o1_some, tru_bl]
    by_cases h1 : x.1 ∈ K <;> by_cases h2 : x.2.1 ∈ K <;> simp [h1, h2]
structure Seti (n : Nat) (xs : List (Nat × Nat × Int)) (ns : List Int) : Prop where
  n1 : 1 ≤ n
  n8 : n ≤ 8
  nx : xs.length ≤ 16
  hx : ∀ x ∈ xs, DOk n x
  ln : ns.length = n
  nb : ∀ c ∈ ns, -200 ≤ c ∧ c ≤ 200
theorem showi_k {k : Str} (S : Seti n xs ns) (h : RSet n K) (hk : (k = "crowded" ∧ needK ns K < insideS K xs) ∨ (k = "thirsty" ∧ touchS K xs < needK ns K)) : m_shows_intakes (bld n xs) (.lst (ns.map D.int)) (.lst (ns.map D.int)) (.tup [.str k, tupN K]) = some (.bl true) := by
  have n8 := S.n8
  have nx := S.nx
  have hl := h.len
  have er : o1 (dFld "Building" "rooms") (some (bld n xs)) = some (.int (n : Nat)) := by
    unfold bld
    rw [o1_some, fld1]
  have sk : PyData.strOk k = true := by rcases hk with ⟨z, _⟩ | ⟨z, _⟩ <;> subst z <;> first | exact kCr | exact kTh
  have hd : hd1 (.tup [.str k, tupN K]) = true := sk
  have q1 := paper_ok (d := .tup [.str k, tupN K]) (k := "air") (n := 2) hd kA (by decide)
  have q2 := paper_ok (d := .tup [.str k, tupN K]) (k := "crossed") (n := 2) hd kX (by decide)
  have q3 := paper_ok (d := .tup [.str k, tupN K]) (k := "crowded") (n := 2) hd kCr (by decide)
  have q4 := paper_ok (d := .tup [.str k, tupN K]) (k := "thirsty") (n := 2) hd kTh (by decide)
  simp only [Int.cast_ofNat_Int, isP2] at q1 q2 q3 q4
  have na : (k == ("air" : Str)) = false := by rcases hk with ⟨z, _⟩ | ⟨z, _⟩ <;> subst z <;> decide +kernel
  have nc : (k == ("crossed" : Str)) = false := by rcases hk with ⟨z, _⟩ | ⟨z, _⟩ <;> subst z <;> decide +kernel
  have it : dItems (tupN K) = some (K.map fun (k : Nat) => D.int (k : Int)) := id rfl
  have cm1 := needs_comp (ns := ns) (K := K) (m_shows_intakes_C1 (.lst (ns.map D.int))) (fun a ha => by
    unfold m_shows_intakes_C1
    rw [o2_some, ixmD 0 ha]
    rfl) (fun k hk => by rw [S.ln]; exact h.2.1 k hk) (by omega)
  have cm2 := needs_comp (ns := ns) (K := K) (m_shows_intakes_C2 (.lst (ns.map D.int))) (fun a ha => by
    unfold m_shows_intakes_C2
    rw [o2_some, ixmD 0 ha]
    rfl) (fun k hk => by rw [S.ln]; exact h.2.1 k hk) (by omega)
  unfold m_shows_intakes
  rw [c1_s, reqb_ok, bs, c3_s, reqbi_ok S.ln S.ln (by omega) S.nb S.nb, bs, c3_s, q1, na, o1_some, tru_bl, bs]
  simp only [Bool.false_eq_true, if_false]
  rw [c3_s, q2, nc, o1_some, tru_bl, bs]
  simp only [Bool.false_eq_true, if_false, o2_some, dIx_tup, atI_0, atI_1]
  rw [er, c2_s, rset_ok h (by omega), c3_s, q3, c3_s, q4]
  simp only [o1_some, tru_bl, it]
  rcases hk with ⟨z, hlt⟩ | ⟨z, hlt⟩
  · subst z
    have e : ((("crowded" : Str) == ("crowded" : Str))) = true := by decide +kernel
    rw [e, oAnd_t, bs, if_pos rfl, c2_s, inside_ok (by omega), bs, cm1, c1_s, dSum_l, o2_some, dGt_ii]
    exact congrArg (fun b => some (D.bl b)) (decide_eq_true hlt)
  · subst z
    have e : ((("thirsty" : Str) == ("thirsty" : Str))) = true := by decide +kernel
    have e2 : ((("thirsty" : Str) == ("crowded" : Str))) = false := by decide +kernel
    rw [e, e2, oAnd_f, bs, if_neg (by decide), oAnd_t, bs, if_pos rfl, c2_s, touch_ok (by omega), bs, cm2, c1_s, dSum_l, o2_some, dGt_ii]
    exact congrArg (fun b => some (D.bl b)) (decide_eq_true hlt)
theorem showi_air (S : Seti n xs ns) (hf : fitB (bw xs) ss = true) (hi : intk n xs ss = ns) : m_shows_intakes (bld n xs) (.lst (ns.map D.int)) (.lst (ns.map D.int)) (.tup [.str "air", .tup (ss.map D.int)]) = some (.bl true) := by
  have n8 := S.n8
  have nx := S.nx
  have lb : (bw xs).length = xs.length := bw_len
  have ls := (fit_len hf).trans lb
  have q1 := paper_ok (d := .tup [.str "air", .tup (ss.map D.int)]) (k := "air") (n := 2) kA kA (by decide)
  simp only [Int.cast_ofNat_Int, isP2] at q1
  have el : c1 dLen (o1 (dFld "Building" "ducts") (some (bld n xs))) = some (.int (xs.length : Nat)) := by
    unfold bld
    rw [o1_some, fld2, c1_s, dLen_tup, List.length_map]
  have e2 : o1 dSeq (o1 (dFld "Building" "ducts") (some (bld n xs))) = some (xs.map dct) := by
    unfold bld
    rw [o1_some, fld2, o1_some, dSeq_tup]
  have fa : m_fits_air (bld n xs) (.tup (ss.map D.int)) = some (.bl true) := by
    unfold m_fits_air
    rw [o1_some, isi_lt (ty_tup _), el, e2]
    simp only [o1_some, tru_bl, oNot_s, Bool.not_true, oOr_f, c1_s, dLen_tup, o2_some, neI, List.length_map, ls, decide_true, bs, Bool.false_eq_true, if_false, dSeq_tup]
    rw [zip_idx (0, 0, 0) 0 ls.symm, loopO_nxI fun j hj => ?_]
    · rfl
    · have f := fit_at hf (j := j) (by omega)
      rw [bw_at (by omega)] at f
      dsimp only at f
      have hi' : m_is_integer (.int (ss.getD j 0)) = some (.bl true) := by rw [isint_ok rfl]
      have y2 : dIx (dct (xs.getD j (0, 0, 0))) (.int 2) = some (.int (xs.getD j (0, 0, 0)).2.2) := id rfl
      unfold m_fits_air_L1
      simp only [c1_s, hi', o1_some, tru_bl, oNot_s, Bool.not_true, oOr_f, o2_some, y2, dLt_ii, dGt_ii]
      rw [decide_eq_false (by omega), decide_eq_false (by omega)]
      rfl
  unfold m_shows_intakes
  rw [c1_s, reqb_ok, bs, c3_s, reqbi_ok S.ln S.ln (by omega) S.nb S.nb, bs, c3_s, q1, o1_some, tru_bl, bs, if_pos (by decide +kernel), o2_some, dIx_tup, atI_1, c4_s]
  unfold m_air_holds
  rw [o1_some, isi_tup (ty_tup _), isT_tup, o1_some, tru_bl, oNot_s, Bool.not_true, oOr_f, c2_s, fa, o1_some, tru_bl, oNot_s, bs]
  simp only [Bool.not_true, Bool.false_eq_true, if_false]
  rw [c2_s, intakes_ok S.hx (by omega) ls (dSeq_tup _), o1_some, dSeq_tup, ms, bs, enumed_eq, List.length_map, hi, loopO_nxI fun j hj => ?_]
  · rfl
  · have e1 := ixmD (f := D.int) (xs := ns) (i := j) 0 hj
    have e3 : (ns.map D.int).getD j .non = .int (ns.getD j 0) := getD_map D.int ns j 0 .non hj
    show m_air_holds_L1 _ _ () (D.int (j : Nat), (ns.map D.int).getD j .non) = _
    rw [e3]
    unfold m_air_holds_L1
    simp only [o2_some, e1, dLt_ii, dGt_ii, o1_some, tru_bl]
    rw [decide_eq_false (by omega)]
    rfl
/-! the law's own sums -/
theorem lintk_ok {st : D} (hx : ∀ x ∈ xs, DOk n x) (hm : xs.length ≤ 1000) (hn : n ≤ 1000) (ls : ss.length = xs.length) (hst : st = .lst (ss.map D.int) ∨ st = .tup (ss.map D.int)) : m_law_intakes (.int (n : Int)) (.lst (xs.map dct)) st = some (.lst ((intk n xs ss).map D.int)) := by
  unfold m_law_intakes
  rw [oCons_some, o1_some, dLst1, o2_some, dMulL_rep (by omega) (by simp; omega), rep1, bs, c1_s, dLen_lst, oCons_some, o1_some, List.length_map, dRange1_s (by omega), bs]
  have hlen : (ranged 0 (xs.length : Int)).length = xs.length := by rw [ranged_len]; omega
  obtain ⟨b', e1, hb, _⟩ := foldO_inv0 (f := m_law_intakes_L1 (.lst (xs.map dct)) st) (fun i b => b = .lst ((((xs.zip ss).take i).foldl ist (List.replicate n 0)).map D.int) ∧ (((xs.zip ss).take i).foldl ist (List.replicate n 0)).length = n) (ranged 0 (xs.length : Int)) (.lst ((List.replicate n 0).map D.int)) ⟨rfl, by simp⟩ (fun i hi b ⟨hb, hl⟩ => by
    subst hb
    have e0 : (ranged 0 (xs.length : Int))[i] = .int (i : Int) := by rw [ranged_get]; simp
    rw [hlen] at hi
    rw [e0, take_zip_succ xs ss (0, 0, 0) 0 i hi (by omega), List.foldl_append, List.foldl_cons, List.foldl_nil]
    generalize hG : ((xs.zip ss).take i).foldl ist (List.replicate n 0) = G at *
    obtain ⟨d1, d2, d3⟩ := hx _ (xin (0, 0, 0) hi)
    have x1 := ixmD (f := dct) (xs := xs) (i := i) (0, 0, 0) hi
    have s1 : dIx st (.int (i : Int)) = some (.int (ss.getD i 0)) := by
      rcases hst with h | h <;> subst h
      · exact ixmD 0 (by omega)
      · exact ixtD 0 (by omega)
    have y0 : dIx (dct (xs.getD i (0, 0, 0))) (.int 0) = some (.int ((xs.getD i (0, 0, 0)).1 : Int)) := id rfl
    have y1 : dIx (dct (xs.getD i (0, 0, 0))) (.int 1) = some (.int ((xs.getD i (0, 0, 0)).2.1 : Int)) := id rfl
    have y2 : dIx (dct (xs.getD i (0, 0, 0))) (.int 2) = some (.int (xs.getD i (0, 0, 0)).2.2) := id rfl
    have g1 := ixL (G := G) (i := (xs.getD i (0, 0, 0)).2.1) (by omega)
    have t1 := dSet_i (G := G) (i := (xs.getD i (0, 0, 0)).2.1) (v := G.getD (xs.getD i (0, 0, 0)).2.1 0 + ss.getD i 0) (by omega)
    have g2 := ixmD (f := D.int) (xs := G.set (xs.getD i (0, 0, 0)).2.1 (G.getD (xs.getD i (0, 0, 0)).2.1 0 + ss.getD i 0)) (i := (xs.getD i (0, 0, 0)).1) 0 (by rw [List.length_set]; omega)
    have t2 := dSet_i (G := G.set (xs.getD i (0, 0, 0)).2.1 (G.getD (xs.getD i (0, 0, 0)).2.1 0 + ss.getD i 0)) (i := (xs.getD i (0, 0, 0)).1) (v := (G.set (xs.getD i (0, 0, 0)).2.1 (G.getD (xs.getD i (0, 0, 0)).2.1 0 + ss.getD i 0)).getD (xs.getD i (0, 0, 0)).1 0 + ((xs.getD i (0, 0, 0)).2.2 - ss.getD i 0)) (by rw [List.length_set]; omega)
    refine ⟨_, ?_, rfl, by rw [ist_len]; exact hl⟩
    unfold m_law_intakes_L1
    simp only [o2_some, x1, s1, y0, y1, y2, g1, dAdd_ii, bs, t1, g2, dSub_ii]
    rw [show ∀ a b c : Int, a + b - c = a + (b - c) from fun a b c => by omega, t2]
    rfl)
  rw [e1, hb, bs, hlen, List.take_of_length_le (by rw [List.length_zip]; omega)]
  rfl
theorem ints_ok {l : List Int} {s : Nat} (hl : l.length = s) : m_law_ints (.tup (l.map D.int)) (.int (s : Int)) = some (.bl true) := by
  unfold m_law_ints
  have h1 : ∀ i : Int, dIsi "int" (.int i) = some (.bl true) := fun i => id rfl
  have h2 : ∀ i : Int, dIsi "bool" (.int i) = some (.bl false) := fun i => id rfl
  rw [o1_some, isi_tup (ty_tup _)]
  simp only [isT_tup, o1_some, tru_bl, oNot_s, Bool.not_true, oOr_f, c1_s, dLen_tup, o2_some, neI, List.length_map, hl, decide_true, bs, Bool.false_eq_true, if_false, dItems_tup]
  rw [loopO_nx fun d hd => ?_]
  · rfl
  · obtain ⟨i, _, rfl⟩ := List.mem_map.mp hd
    unfold m_law_ints_L1
    simp only [o1_some, h1, h2, tru_bl, oNot_s, Bool.not_true, oOr_f, bs, Bool.false_eq_true, if_false]
theorem lair_ok (hf : fitB (bw xs) ss = true) (hm : xs.length ≤ 1000) : m_law_air (.lst (xs.map dct)) (.tup (ss.map D.int)) = some (.bl true) := by
  have lb : (bw xs).length = xs.length := bw_len
  have ls := (fit_len hf).trans lb
  have e : c1 dLen (some (.lst (xs.map dct))) = some (.int (xs.length : Nat)) := by rw [c1_s, dLen_lst, List.length_map]
  unfold m_law_air
  rw [e, c2_s, ints_ok ls, o1_some, tru_bl, oNot_s, bs]
  simp only [Bool.not_true, Bool.false_eq_true, if_false, oCons_some, o1_some]
  rw [dRange1_s (by omega), bs, ranged0]
  rw [loopO_nxI fun j hj => ?_]
  · rfl
  · have s1 := ixtD (f := D.int) (xs := ss) (i := j) 0 (by omega)
    have x1 := ixmD (f := dct) (xs := xs) (i := j) (0, 0, 0) hj
    have y2 : dIx (dct (xs.getD j (0, 0, 0))) (.int 2) = some (.int (xs.getD j (0, 0, 0)).2.2) := id rfl
    have f := fit_at hf (j := j) (by omega)
    rw [bw_at hj] at f
    dsimp only at f
    unfold m_law_air_L1
    simp only [o2_some, s1, x1, y2, dLt_ii, dGt_ii, o1_some, tru_bl]
    rw [decide_eq_false (by omega), decide_eq_false (by omega)]
    rfl
end
end Mi
namespace Mi
open PySem L2
theorem sum_congr {f g : Nat → Int} : ∀ {l : List Nat}, (∀ a ∈ l, f a = g a) → (l.map f).sum = (l.map g).sum
  | [], _ => rfl
  | a :: l, h => by
    rw [List.map_cons, List.map_cons, List.sum_cons, List.sum_cons, h a (by simp), sum_congr fun b hb => h b (by simp [hb])]
def rowS (G : List (List Int)) (n a : Nat) (f : Nat → Int) : Int := ((List.range n).map fun b => (G.getD a []).getD b 0 * f b).sum
theorem modify_at (r : List Int) (q b : Nat) (w : Int) (hq : q < r.length) : (r.modify q fun x => x + w).getD b 0 = r.getD b 0 + if b = q then w else 0 := by
  by_cases e : b = q
  · subst e
    rw [if_pos rfl]
    simp [List.getD, List.getElem?_modify, hq]
  · rw [if_neg e]
    have e' : ¬ q = b := fun z => e z.symm
    simp [List.getD, List.getElem?_modify, e']
theorem row_mod (r : List Int) (q : Nat) (w : Int) (f : Nat → Int) (hq : q < r.length) : ∀ m, ((List.range m).map fun b => (r.modify q fun x => x + w).getD b 0 * f b).sum = ((List.range m).map fun b => r.getD b 0 * f b).sum + if q < m then w * f q else 0
  | 0 => by simp
  | m + 1 => by
    rw [List.range_succ, List.map_append, List.map_append, List.sum_append, List.sum_append, row_mod r q w f hq m]
    simp only [List.map_cons, List.map_nil, List.sum_cons, List.sum_nil]
    rw [modify_at r q m w hq]
    by_cases e : m = q
    · subst e
      rw [if_neg (Nat.lt_irrefl _), if_pos rfl, if_pos (Nat.lt_succ_self _), Int.add_mul]
      omega
    · rw [if_neg e]
      by_cases e2 : q < m
      · rw [if_pos e2, if_pos (by omega)]; simp only [Int.add_zero]; omega
      · rw [if_neg e2, if_neg (by omega)]; simp only [Int.add_zero]
theorem bump_row {n : Nat} {G : List (List Int)} (h : Sq n G) {p q a : Nat} (hp : p < n) (hq : q < n) (w : Int) (f : Nat → Int) : rowS (bump G p q w) n a f = rowS G n a f + if p = a then w * f q else 0 := by
  have lp : p < G.length := by rw [h.1]; exact hp
  unfold rowS bump
  by_cases e : p = a
  · subst e
    have eg : (G.modify p fun r => r.modify q fun x => x + w).getD p [] = (G.getD p []).modify q fun x => x + w := by
      simp [List.getD, List.getElem?_modify, lp]
    have lr : q < (G.getD p []).length := by
      have : G.getD p [] = G[p] := by simp [List.getD, lp]
      rw [this, h.2 _ (List.getElem_mem lp)]
      exact hq
    rw [eg, row_mod _ _ _ _ lr, if_pos hq, if_pos rfl]
  · have eg : (G.modify p fun r => r.modify q fun x => x + w).getD a [] = G.getD a [] := by
      simp [List.getD, List.getElem?_modify, e]
    rw [eg, if_neg e]
    omega
theorem fold_row {n : Nat} (a : Nat) (f : Nat → Int) : ∀ (xs : List (Nat × Nat × Int)) (G : List (List Int)), Sq n G → (∀ x ∈ xs, x.1 < n ∧ x.2.1 < n) → rowS (xs.foldl step2 G) n a f = rowS G n a f + (xs.map fun x => (if x.1 = a then x.2.2 * f x.2.1 else 0) + if x.2.1 = a then x.2.2 * f x.1 else 0).sum
  | [], G, _, _ => by simp
  | x :: xs, G, h, hx => by
    obtain ⟨x1, x2⟩ := hx x (by simp)
    have s1 := h.bump x.1 x.2.1 x.2.2
    rw [List.foldl_cons, fold_row a f xs (step2 G x) (s1.bump x.2.1 x.1 x.2.2) (fun y hy => hx y (by simp [hy])), List.map_cons, List.sum_cons]
    unfold step2
    rw [bump_row s1 x2 x1, bump_row h x1 x2]
    omega
theorem wid_row {n : Nat} {xs : List (Nat × Nat × Int)} (hx : ∀ x ∈ xs, x.1 < n ∧ x.2.1 < n) (a : Nat) (f : Nat → Int) : rowS (wid n xs) n a f = (xs.map fun x => (if x.1 = a then x.2.2 * f x.2.1 else 0) + if x.2.1 = a then x.2.2 * f x.1 else 0).sum := by
  unfold wid
  rw [fold_row a f xs _ (sq0 n) hx]
  have : rowS (List.replicate n (List.replicate n 0)) n a f = 0 := by
    unfold rowS
    have e : ∀ b, ((List.replicate n (List.replicate n (0 : Int))).getD a []).getD b 0 = 0 := fun b => by
      by_cases ha : a < n
      · have : (List.replicate n (List.replicate n (0 : Int))).getD a [] = List.replicate n 0 := by simp [List.getD, ha]
        rw [this, getD_rep]
      · have : (List.replicate n (List.replicate n (0 : Int))).getD a [] = [] := by simp [List.getD, ha]
        rw [this]
        rfl
    rw [sum_congr (g := fun _ => 0) fun b _ => by rw [e b, Int.zero_mul]]
    generalize List.range n = l
    induction l with
    | nil => rfl
    | cons b l ih => rw [List.map_cons, List.sum_cons, ih]; rfl
  rw [this]
  omega
section
variable {n : Nat} {xs ys : List (Nat × Nat × Int)} {bo : List (Int × Int)} {ss ns ld ts : List Int} {K : List Nat}
def dueA (n : Nat) (xs : List (Nat × Nat × Int)) (ld ts : List Int) (a : Nat) : Int := ld.getD a 0 - rowS (wid n xs) n a fun b => ts.getD a 0 - ts.getD b 0
def dueL (n : Nat) (xs : List (Nat × Nat × Int)) (ld ts : List Int) : List Int := (List.range n).map (dueA n xs ld ts)
def strm (xs : List (Nat × Nat × Int)) (ts : List Int) : List Int := xs.map fun x => x.2.2 * (ts.getD x.1 0 - ts.getD x.2.1 0)
theorem due_gains (hx : ∀ x ∈ xs, DOk n x) (a : Nat) : ld.getD a 0 + (gains n xs (strm xs ts)).getD a 0 = dueA n xs ld ts a := by
  unfold dueA
  rw [wid_row (fun x hx' => ⟨(hx x hx').1, (hx x hx').2.1⟩), gains_at hx]
  have : ((xs.zip (strm xs ts)).map (gj a)).sum = -(xs.map fun x => (if x.1 = a then x.2.2 * (ts.getD a 0 - ts.getD x.2.1 0) else 0) + if x.2.1 = a then x.2.2 * (ts.getD a 0 - ts.getD x.1 0) else 0).sum := by
    clear hx
    unfold strm
    induction xs with
    | nil => rfl
    | cons x xs ih =>
      rw [List.map_cons, List.zip_cons_cons, List.map_cons, List.map_cons, List.sum_cons, List.sum_cons, ih]
      have : gj a (x, x.2.2 * (ts.getD x.1 0 - ts.getD x.2.1 0)) = -((if x.1 = a then x.2.2 * (ts.getD a 0 - ts.getD x.2.1 0) else 0) + if x.2.1 = a then x.2.2 * (ts.getD a 0 - ts.getD x.1 0) else 0) := by
        unfold gj
        dsimp only
        by_cases h1 : x.1 = a
        · rw [if_pos h1, if_pos h1, h1]
          by_cases h2 : x.2.1 = a
          · rw [if_pos h2, if_pos h2, h2]; simp
          · rw [if_neg h2, if_neg h2]; omega
        · rw [if_neg h1, if_neg h1]
          by_cases h2 : x.2.1 = a
          · rw [if_pos h2, if_pos h2, h2, Int.mul_sub, Int.mul_sub]; omega
          · rw [if_neg h2, if_neg h2]; omega
      rw [this]
      omega
  rw [this]
  omega
/-! the program's and the law's own ways -/
theorem wid_len (hx : ∀ x ∈ xs, DOk n x) : Sq n (wid n xs) := wid_sq fun x hx' => ⟨(hx x hx').1, (hx x hx').2.1⟩
theorem lwid_ok (hx : ∀ x ∈ xs, DOk n x) (hn : n ≤ 1000) : m_law_widths (.int (n : Int)) (.lst (xs.map dct)) = some (.lst ((wid n xs).map fun r => .lst (r.map D.int))) := by
  unfold m_law_widths
  rw [oCons_some, o1_some, dRange1_s (by omega), bs]
  have hlen : (ranged 0 (n : Int)).length = n := by rw [ranged_len]; omega
  obtain ⟨b', e1, hb⟩ := foldO_inv0 (f := m_law_widths_A (.int (n : Int))) (fun i b => b = List.replicate i ((List.replicate n (0 : Int)).map D.int)) (ranged 0 (n : Int)) [] rfl (fun i hi b hb => by
    subst hb
    rw [hlen] at hi
    unfold m_law_widths_A
    rw [oCons_some, o1_some, dLst1, o2_some, dMulL_rep (by omega) (by simp; omega), rep1, bs]
    refine ⟨_, ?_, rfl⟩
    rw [List.replicate_succ']
    unfold dAppN
    dsimp only
    rw [if_pos (by simp; omega), bs])
  rw [hlen] at hb
  subst hb
  have e0 : List.replicate n ((List.replicate n (0 : Int)).map D.int) = up (List.replicate n (List.replicate n 0)) := by simp [up]
  have key : ∀ (xs : List (Nat × Nat × Int)) (G : List (List Int)), Sq n G → (∀ x ∈ xs, x.1 < n ∧ x.2.1 < n) → foldO m_law_widths_B (xs.map dct) (up G) = some (up (xs.foldl step2 G)) := by
    intro xs
    induction xs with
    | nil => intro G _ _; rfl
    | cons x xs ih =>
      intro G h hx
      obtain ⟨h1, h2⟩ := hx x (by simp)
      have q1 := nest_ok h h1 h2 x.2.2
      have s1 := h.bump x.1 x.2.1 x.2.2
      have q2 := nest_ok s1 h2 h1 x.2.2
      have y0 : dIx (dct x) (.int 0) = some (.int (x.1 : Int)) := id rfl
      have y1 : dIx (dct x) (.int 1) = some (.int (x.2.1 : Int)) := id rfl
      have y2 : dIx (dct x) (.int 2) = some (.int x.2.2) := id rfl
      rw [List.map_cons, foldO_cons, List.foldl_cons]
      unfold m_law_widths_B
      simp only [o2_some, y0, y1, y2, bs, q1, q2]
      exact ih (step2 G x) (s1.bump x.2.1 x.1 x.2.2) fun y hy => hx y (by simp [hy])
  rw [e1, bs, e0, o1_some, dItems_lst, bs, key xs _ (sq0 n) (fun x hx' => ⟨(hx x hx').1, (hx x hx').2.1⟩), bs]
  show some (D.lst ((up (wid n xs)).map D.lst)) = _
  unfold up
  rw [List.map_map]
  rfl
theorem ss_ok (hx : ∀ x ∈ xs, DOk n x) (hn : n ≤ 1000) (hm : xs.length ≤ 1000) (lt : ts.length = n) (tb : ∀ t ∈ ts, -2 ≤ t ∧ t ≤ 2) : m_script_stream (bld n xs) (.lst (ts.map D.int)) = some (.tup ((strm xs ts).map D.int)) := by
  have er : o1 (dFld "Building" "rooms") (some (bld n xs)) = some (.int (n : Nat)) := by
    unfold bld
    rw [o1_some, fld1]
  unfold m_script_stream
  rw [c1_s, reqb_ok, bs, er, o1_some, dNeg_i, c4_s, tab_ints lt (by omega) (fun c hc => by have := tb c hc; omega), c2_s, req_t, bs, it_bld, bs]
  rw [dComp_fm (p := fun _ => true) (v := fun x : Nat × Nat × Int => D.int (x.2.2 * (ts.getD x.1 0 - ts.getD x.2.1 0))) (by omega) fun x hx' => ?_]
  · have : xs.filter (fun _ => true) = xs := List.filter_eq_self.mpr fun a _ => rfl
    rw [this, c1_s, dTuple_l]
    unfold strm
    rw [List.map_map]
    rfl
  · obtain ⟨d1, d2, d3, d4⟩ := hx x hx'
    have e1 := ixmD (f := D.int) (xs := ts) (i := x.1) 0 (by omega)
    have e2 := ixmD (f := D.int) (xs := ts) (i := x.2.1) 0 (by omega)
    have eu : ∀ Kk : D → D → D → Option (Option D), un3 (dct x) Kk = Kk (.int (x.1 : Int)) (.int (x.2.1 : Int)) (.int x.2.2) := fun Kk => id rfl
    unfold m_script_stream_C1
    rw [eu, o2_some, e1, o2_some, e2, o2_some, dSub_ii, o2_some, mulS (by omega), ms]
    rfl
theorem row_at {G : List (List Int)} (h : Sq n G) {a : Nat} (ha : a < n) : (G.getD a []).length = n := by
  have hl : a < G.length := by rw [h.1]; exact ha
  have : G.getD a [] = G[a] := by simp [List.getD, hl]
  rw [this]
  exact h.2 _ (List.getElem_mem hl)
theorem lafter_ok (hx : ∀ x ∈ xs, DOk n x) (hn : n ≤ 1000) (ll : ld.length = n) (lt : ts.length = n) (tb : ∀ t ∈ ts, -2 ≤ t ∧ t ≤ 2) : m_law_after (.lst ((wid n xs).map fun r => .lst (r.map D.int))) (.lst (ld.map D.int)) (.lst (ts.map D.int)) = some (.lst ((dueL n xs ld ts).map D.int)) := by
  have sq := wid_len hx
  have hlen : (ranged 0 (n : Int)).length = n := by rw [ranged_len]; omega
  have lT : dLen (.lst ((wid n xs).map fun r => D.lst (r.map D.int))) = some (.int (n : Nat)) := by rw [dLen_lst, List.length_map, sq.1]
  unfold m_law_after
  rw [o1_some, dLst0, bs, c1_s, lT, oCons_some, o1_some, dRange1_s (by omega), bs]
  obtain ⟨b', e1, hb⟩ := foldO_inv0 (f := m_law_after_L2 (.lst ((wid n xs).map fun r => .lst (r.map D.int))) (.lst (ts.map D.int)) (.lst (ld.map D.int))) (fun i b => b = D.lst (((List.range i).map (dueA n xs ld ts)).map D.int)) (ranged 0 (n : Int)) (.lst []) rfl (fun i hi b hb => by
    subst hb
    have e0 : (ranged 0 (n : Int))[i] = .int (i : Int) := by rw [ranged_get]; simp
    rw [hlen] at hi
    rw [e0]
    have er := ixmD (f := fun r : List Int => D.lst (r.map D.int)) (xs := wid n xs) (i := i) [] (by rw [sq.1]; exact hi)
    have lr := row_at sq hi
    have ti := ixmD (f := D.int) (xs := ts) (i := i) 0 (by omega)
    have li := ixmD (f := D.int) (xs := ld) (i := i) 0 (by omega)
    have tbi := tb _ (xin (xs := ts) (j := i) 0 (by omega))
    unfold m_law_after_L2
    rw [bs, c1_s, lT, oCons_some, o1_some, dRange1_s (by omega), bs]
    obtain ⟨c', f1, hc⟩ := foldO_inv0 (f := m_law_after_L1 (.lst ((wid n xs).map fun r => .lst (r.map D.int))) (.int (i : Int)) (.lst (ts.map D.int))) (fun j s => s = D.int ((List.range j).map fun b => ((wid n xs).getD i []).getD b 0 * (ts.getD i 0 - ts.getD b 0)).sum) (ranged 0 (n : Int)) (.int 0) rfl (fun j hj s hs => by
      subst hs
      have e0 : (ranged 0 (n : Int))[j] = .int (j : Int) := by rw [ranged_get]; simp
      rw [hlen] at hj
      rw [e0]
      have tj := ixmD (f := D.int) (xs := ts) (i := j) 0 (by omega)
      have rj := ixmD (f := D.int) (xs := (wid n xs).getD i []) (i := j) 0 (by omega)
      have tbj := tb _ (xin (xs := ts) (j := j) 0 (by omega))
      unfold m_law_after_L1
      simp only [o2_some, er, rj, ti, tj, dSub_ii, mulSr (show -1000000000 ≤ ts.getD i 0 - ts.getD j 0 ∧ ts.getD i 0 - ts.getD j 0 ≤ 1000000000 by omega), dAdd_ii, bs]
      refine ⟨_, rfl, ?_⟩
      rw [List.range_succ, List.map_append, List.sum_append]
      simp only [List.map_cons, List.map_nil, List.sum_cons, List.sum_nil, Int.add_zero])
    rw [hlen] at hc
    subst hc
    rw [f1, bs, o2_some, li, o2_some, dSub_ii, bs, dApp_s (by simp; omega), bs]
    refine ⟨_, rfl, ?_⟩
    rw [List.range_succ, List.map_append, List.map_append]
    rfl)
  rw [hlen] at hb
  rw [e1, bs, hb]
  rfl
theorem shifted_ok (hx : ∀ x ∈ xs, DOk n x) (hn : n ≤ 1000) (ll : ld.length = n) (lt : ts.length = n) (tb : ∀ t ∈ ts, -2 ≤ t ∧ t ≤ 2) : m_shifted (.tup ((wid n xs).map fun r => .tup (r.map D.int))) (.lst (ld.map D.int)) (.lst (ts.map D.int)) = some (.tup ((dueL n xs ld ts).map D.int)) := by
  have sq := wid_len hx
  unfold m_shifted
  rw [o1_some, dLst0, bs, o1_some, dSeq_tup, ms, bs, enumed_eq, List.length_map, sq.1]
  obtain ⟨b', e1, hb⟩ := foldO_inv0 (f := m_shifted_L2 (.lst (ts.map D.int)) (.lst (ld.map D.int))) (fun i b => b = D.lst (((List.range i).map (dueA n xs ld ts)).map D.int)) ((List.range n).map fun i => (D.int (i : Nat), ((wid n xs).map fun r => D.tup (r.map D.int)).getD i .non)) (.lst []) rfl (fun i hi b hb => by
    subst hb
    have hi' : i < n := by simpa using hi
    have e0 : ((List.range n).map fun i => (D.int (i : Nat), ((wid n xs).map fun r => D.tup (r.map D.int)).getD i .non))[i] = (D.int (i : Nat), D.tup (((wid n xs).getD i []).map D.int)) := by
      simp only [List.getElem_map, List.getElem_range]
      rw [getD_map (fun r : List Int => D.tup (r.map D.int)) (wid n xs) i [] .non (by rw [sq.1]; exact hi')]
    have lr := row_at sq hi'
    have ti := ixmD (f := D.int) (xs := ts) (i := i) 0 (by omega)
    have li := ixmD (f := D.int) (xs := ld) (i := i) 0 (by omega)
    have tbi := tb _ (xin (xs := ts) (j := i) 0 (by omega))
    rw [e0]
    unfold m_shifted_L2
    rw [bs, o1_some, dSeq_tup, ms, bs, enumed_eq, List.length_map, lr]
    obtain ⟨c', f1, hc⟩ := foldO_inv0 (f := m_shifted_L1 (.lst (ts.map D.int)) (.int (i : Nat))) (fun j s => s = D.int ((List.range j).map fun b => ((wid n xs).getD i []).getD b 0 * (ts.getD i 0 - ts.getD b 0)).sum) ((List.range n).map fun j => (D.int (j : Nat), (((wid n xs).getD i []).map D.int).getD j .non)) (.int 0) rfl (fun j hj s hs => by
      subst hs
      have hj' : j < n := by simpa using hj
      have e0 : ((List.range n).map fun j => (D.int (j : Nat), (((wid n xs).getD i []).map D.int).getD j .non))[j] = (D.int (j : Nat), D.int (((wid n xs).getD i []).getD j 0)) := by
        simp only [List.getElem_map, List.getElem_range]
        rw [getD_map D.int ((wid n xs).getD i []) j 0 .non (by omega)]
      rw [e0]
      have tj := ixmD (f := D.int) (xs := ts) (i := j) 0 (by omega)
      have tbj := tb _ (xin (xs := ts) (j := j) 0 (by omega))
      unfold m_shifted_L1
      simp only [o2_some, ti, tj, dSub_ii, mulSr (show -1000000000 ≤ ts.getD i 0 - ts.getD j 0 ∧ ts.getD i 0 - ts.getD j 0 ≤ 1000000000 by omega), dAddI_ii, bs]
      refine ⟨_, rfl, ?_⟩
      rw [List.range_succ, List.map_append, List.sum_append]
      simp only [List.map_cons, List.map_nil, List.sum_cons, List.sum_nil, Int.add_zero])
    rw [show ((List.range n).map fun j => (D.int (j : Nat), (((wid n xs).getD i []).map D.int).getD j .non)).length = n by simp] at hc
    subst hc
    rw [f1, bs, o2_some, li, o2_some, dSub_ii, bs, dApp_s (by simp; omega), bs]
    refine ⟨_, rfl, ?_⟩
    rw [List.range_succ, List.map_append, List.map_append]
    rfl)
  rw [show ((List.range n).map fun i => (D.int (i : Nat), ((wid n xs).map fun r => D.tup (r.map D.int)).getD i .non)).length = n by simp] at hb
  rw [e1, bs, hb, c1_s, dTuple_l]
  rfl
end
end Mi
namespace Mi
open PySem L2
theorem neBl (b : Bool) : dNe (.bl b) (.bl b) = some (.bl false) := by cases b <;> rfl
theorem isB_bl (b : Bool) : dIsi "bool" (.bl b) = some (.bl true) := id rfl
theorem isT_t (l : List D) : dIsi "tuple" (.tup l) = some (.bl true) := id rfl
section
variable {n : Nat} {xs ys : List (Nat × Nat × Int)} {bo : List (Int × Int)} {ss ns ld ts : List Int} {K : List Nat}
theorem set_bd {G : List Int} {i : Nat} {v b : Int} (h : ∀ a ∈ G, -b ≤ a ∧ a ≤ b) (hv : -b ≤ v ∧ v ≤ b) : ∀ a ∈ G.set i v, -b ≤ a ∧ a ≤ b := fun a ha => by
  rcases mem_set_or ha with z | z
  · exact h a z
  · rw [z]; exact hv
theorem vented_ok (sc : List Int) (h1 : 1 ≤ n) (h8 : n ≤ 8) (hm : xs.length ≤ 16) (hx : ∀ x ∈ xs, DOk n x) (h3 : ∀ x ∈ xs, x.2.2 ≤ 3) : m_law_vented (.scr sc) (bld n xs) (.lst ((wid n xs).map fun r => .lst (r.map D.int))) (.lst (xs.map dct)) = some (.bl true) := by
  have er : o1 (dFld "Building" "rooms") (some (bld n xs)) = some (.int (n : Nat)) := by
    unfold bld
    rw [o1_some, fld1]
  have eW : o1 (dFld "Building" "_widths") (some (bld n xs)) = some (.tup ((wid n xs).map fun r => .tup (r.map D.int))) := by
    unfold bld
    rw [o1_some, fld3]
  have lx : dLen (.lst (xs.map dct)) = some (.int (xs.length : Nat)) := by rw [dLen_lst, List.length_map]
  obtain ⟨ld, hld, ll, bl⟩ := numbers_ok (cell sc 4) (n : Int) (-9) 9 (by omega) (by omega) (by omega) (by omega)
  obtain ⟨ts, hts, lt, tb⟩ := numbers_ok (cell sc 5) (n : Int) (-2) 2 (by omega) (by omega) (by omega) (by omega)
  rw [Int.toNat_natCast] at ll lt
  have c4' := cell_ok sc 4
  have c5' := cell_ok sc 5
  simp only [Int.cast_ofNat_Int] at c4' c5'
  have dlp : ∀ l : List Int, dList (.lst (l.map D.int)) = some (.lst (l.map D.int)) := fun l => id rfl
  have lS : (strm xs ts).length = xs.length := by simp [strm]
  have atS : ∀ j, j < xs.length → (strm xs ts).getD j 0 = (xs.getD j (0, 0, 0)).2.2 * (ts.getD (xs.getD j (0, 0, 0)).1 0 - ts.getD (xs.getD j (0, 0, 0)).2.1 0) := fun j hj => getD_map _ xs j (0, 0, 0) 0 hj
  have bS : ∀ j, j < xs.length → -12 ≤ (strm xs ts).getD j 0 ∧ (strm xs ts).getD j 0 ≤ 12 := fun j hj => by
    obtain ⟨d1, d2, d3, d4⟩ := hx _ (xin (0, 0, 0) hj)
    have w3 := h3 _ (xin (xs := xs) (0, 0, 0) hj)
    have t1 := tb _ (xin (xs := ts) (j := (xs.getD j (0, 0, 0)).1) 0 (by omega))
    have t2 := tb _ (xin (xs := ts) (j := (xs.getD j (0, 0, 0)).2.1) 0 (by omega))
    rw [atS j hj]
    have : (xs.getD j (0, 0, 0)).2.2 = 1 ∨ (xs.getD j (0, 0, 0)).2.2 = 2 ∨ (xs.getD j (0, 0, 0)).2.2 = 3 := by omega
    rcases this with z | z | z <;> rw [z] <;> omega
  have lB : (List.replicate xs.length ((-12 : Int), (12 : Int))).length = xs.length := by simp
  have bB : BdsOk (List.replicate xs.length ((-12 : Int), (12 : Int))) := fun b hb => by rw [(List.mem_replicate.mp hb).2]; decide
  have fS : fitB (List.replicate xs.length ((-12 : Int), (12 : Int))) (strm xs ts) = true := by
    unfold fitB
    rw [decide_eq_true (by rw [lS, lB]), Bool.true_and, List.all_eq_true]
    intro j hj
    have hj := List.mem_range.mp hj
    rw [lB] at hj
    have e : (List.replicate xs.length ((-12 : Int), (12 : Int))).getD j (0, 0) = (-12, 12) := by simp [List.getD, hj]
    rw [e]
    have := bS j hj
    rw [decide_eq_true this.1, decide_eq_true this.2]
    rfl
  have rep : dMul (.lst [.tup [.int (-12), .int 12]]) (.int (xs.length : Nat)) = some (.lst ((List.replicate xs.length ((-12 : Int), (12 : Int))).map pr2)) := by
    rw [dMul_rep (by omega) (by simp; omega)]
    exact congrArg (fun l => some (D.lst l)) (rep1 pr2 xs.length (-12, 12))
  have gof : m_gains_of (bld n xs) (.lst ((List.replicate xs.length ((-12 : Int), (12 : Int))).map pr2)) (.tup ((strm xs ts).map D.int)) = some (.tup ((gains n xs (strm xs ts)).map D.int)) := by
    unfold m_gains_of
    rw [c1_s, reqb_ok, bs, c2_s, reqbo_ok lB bB, bs, c2_s, fits_gen (.inr rfl), fS, c2_s, req_t, bs, c2_s, glist_ok hx (by omega) lS (dSeq_tup _), c1_s, dTuple_l]
  have gl : (gains n xs (strm xs ts)).length = n := (gains_fit (b0 := 0) hx hm bB lB fS).1
  have cv : dComp (m_law_vented_C2 (.lst (ld.map D.int)) (.tup ((gains n xs (strm xs ts)).map D.int))) ((List.range n).map fun (k : Nat) => D.int (k : Int)) = some (.lst ((dueL n xs ld ts).map D.int)) := by
    rw [dComp_fm (p := fun _ => true) (v := fun a : Nat => D.int (dueA n xs ld ts a)) (by simp; omega) fun a ha => ?_]
    · have : (List.range n).filter (fun _ => true) = List.range n := List.filter_eq_self.mpr fun a _ => rfl
      rw [this]
      unfold dueL
      rw [List.map_map]
      rfl
    · have ha := List.mem_range.mp ha
      have e1 := ixmD (f := D.int) (xs := ld) (i := a) 0 (by omega)
      have e2 := ixtD (f := D.int) (xs := gains n xs (strm xs ts)) (i := a) 0 (by omega)
      unfold m_law_vented_C2
      rw [o2_some, e1, o2_some, e2, o2_some, dAdd_ii, ms, due_gains hx a]
      rfl
  have aft : m_after (bld n xs) (.lst (ld.map D.int)) (.lst (ts.map D.int)) = some (.tup ((dueL n xs ld ts).map D.int)) := by
    have sf : o1 (dSelf "Building" "width_rows") (some (bld n xs)) = some (bld n xs) := by
      unfold bld
      rw [o1_some]
      unfold dSelf
      dsimp only
      rw [if_pos ⟨rfl, by decide +kernel⟩]
    unfold m_after m_require_load
    rw [c1_s, reqb_ok, bs, er, c3_s, er, o1_some, dNeg_i, c4_s, tab_ints ll (by omega) (fun c hc => by have := bl c hc; omega), c2_s, req_t, bs, bs, o1_some, dNeg_i, c4_s, tab_ints lt (by omega) (fun c hc => by have := tb c hc; omega), c2_s, req_t, bs, sf, oCons_some, o1_some, f1_s]
    unfold m_Building_width_rows
    rw [eW, c3_s, shifted_ok hx (by omega) ll lt tb]
  have dl : (dueL n xs ld ts).length = n := by simp [dueL]
  unfold m_law_vented
  rw [er, bs, c2_s, c4', o1_some, dNeg_i, c4_s, hld, bs, c2_s, c5', o1_some, dNeg_i, c4_s, hts, bs, o1_some, dlp, bs, c2_s, ss_ok hx (by omega) (by omega) lt tb, bs, o2_some, dNe_li, decide_eq_true rfl, o1_some, tru_bl, c1_s, lx, c2_s, ints_ok lS, o1_some, tru_bl, oNot_s]
  simp only [Bool.not_true, oOr_f, bs, Bool.false_eq_true, if_false]
  rw [oCons_some, o1_some, dRange1_s (by omega), bs, ranged0, loopO_nxI fun j hj => ?_]
  · rw [bs, Out.thnD_nx, c3_s, lafter_ok hx (by omega) ll lt tb, bs, o1_some, dNeg_i, oCons_some, oCons_some, o1_some, dTup2, oCons_some, o1_some, dLst1, o2_some, rep, c3_s, gof, bs, c2_s, ints_ok gl, o1_some, tru_bl, oNot_s, oCons_some, o1_some, dRange1_s (by omega), bs, ranged0, cv, o2_some, dNe_li, decide_eq_true rfl, o1_some, tru_bl]
    simp only [Bool.not_true, oOr_f, bs, Bool.false_eq_true, if_false]
    rw [c3_s, aft, bs, c2_s, ints_ok dl, oAndV_t, o1_some, dList_t, o2_some, dEq_li, decide_eq_true rfl]
  · obtain ⟨d1, d2, d3, d4⟩ := hx _ (xin (0, 0, 0) hj)
    have x1 := ixmD (f := dct) (xs := xs) (i := j) (0, 0, 0) hj
    have s1 := ixtD (f := D.int) (xs := strm xs ts) (i := j) 0 (by omega)
    have e1 := ixmD (f := D.int) (xs := ts) (i := (xs.getD j (0, 0, 0)).1) 0 (by omega)
    have e2 := ixmD (f := D.int) (xs := ts) (i := (xs.getD j (0, 0, 0)).2.1) 0 (by omega)
    have y0 : dIx (dct (xs.getD j (0, 0, 0))) (.int 0) = some (.int ((xs.getD j (0, 0, 0)).1 : Int)) := id rfl
    have y1 : dIx (dct (xs.getD j (0, 0, 0))) (.int 1) = some (.int ((xs.getD j (0, 0, 0)).2.1 : Int)) := id rfl
    have y2 : dIx (dct (xs.getD j (0, 0, 0))) (.int 2) = some (.int (xs.getD j (0, 0, 0)).2.2) := id rfl
    unfold m_law_vented_L1
    simp only [o2_some, s1, x1, y0, y1, y2, e1, e2, dSub_ii, mulS (show -1000000000 ≤ (xs.getD j (0, 0, 0)).2.2 ∧ (xs.getD j (0, 0, 0)).2.2 ≤ 1000000000 by omega), neI, o1_some, tru_bl, bs]
    rw [decide_eq_true (atS j hj)]
    rfl
/-! needs of a stream for what is asked of an air -/
def ned (xs : List (Nat × Nat × Int)) (G : List Int) : List Int := xs.foldl (fun G x => G.set x.1 (G.getD x.1 0 - x.2.2)) G
theorem ned_at : ∀ (xs : List (Nat × Nat × Int)) (G : List Int), (∀ x ∈ xs, x.1 < G.length) → (ned xs G).length = G.length ∧ ∀ a, (ned xs G).getD a 0 = G.getD a 0 - outw xs a
  | [], G, _ => ⟨rfl, fun a => by simp [ned, outw]⟩
  | x :: xs, G, h => by
    have hx := h x (by simp)
    obtain ⟨i1, i2⟩ := ned_at xs (G.set x.1 (G.getD x.1 0 - x.2.2)) (fun y hy => by rw [List.length_set]; exact h y (by simp [hy]))
    refine ⟨?_, fun a => ?_⟩
    · show (ned xs (G.set x.1 (G.getD x.1 0 - x.2.2))).length = _
      rw [i1, List.length_set]
    · show (ned xs (G.set x.1 (G.getD x.1 0 - x.2.2))).getD a 0 = _
      rw [i2 a]
      have : outw (x :: xs) a = (if x.1 = a then x.2.2 else 0) + outw xs a := by unfold outw; rw [List.map_cons, List.sum_cons]
      rw [this]
      by_cases e : x.1 = a
      · subst e
        rw [getD_set_eq _ _ _ hx, if_pos rfl]; omega
      · rw [getD_set_ne _ _ _ e, if_neg e]; omega
theorem gains_ned (hx : ∀ x ∈ xs, DOk n x) (hm : xs.length ≤ 16) (ln : ns.length = n) (hf : fitB (bw xs) ss = true) : gains n xs ss = ned xs ns ↔ intk n xs ss = ns := by
  have lb : (bw xs).length = xs.length := bw_len
  have ls := (fit_len hf).trans lb
  obtain ⟨n1, n2⟩ := ned_at xs ns (fun x hx' => by rw [ln]; exact (hx x hx').1)
  have g1 := (gains_fit (n := n) (b0 := 0) hx hm (bw_bd hx) lb hf).1
  constructor
  · intro e
    refine list_ext_getD (by rw [(intk_at hx ls 0).1, ln]) fun a _ => ?_
    rw [(intk_at hx ls a).2, e, n2 a]
    omega
  · intro e
    refine list_ext_getD (by omega) fun a _ => ?_
    have := (intk_at hx ls a).2
    rw [e] at this
    rw [n2 a]
    omega
theorem needK_ned (hx : ∀ x ∈ xs, DOk n x) (ln : ns.length = n) (hn : K.Nodup) : needK (ned xs ns) K = needK ns K - outK K xs := by
  obtain ⟨n1, n2⟩ := ned_at xs ns (fun x hx' => by rw [ln]; exact (hx x hx').1)
  rw [← sum_outw hn xs]
  unfold needK
  clear hn
  induction K with
  | nil => rfl
  | cons a K ih =>
    rw [List.map_cons, List.map_cons, List.map_cons, List.sum_cons, List.sum_cons, List.sum_cons, ih, n2 a]
    omega
theorem ref_st (hx : ∀ x ∈ xs, DOk n x) (ln : ns.length = n) (hn : K.Nodup) : refB "starved" K xs (bw xs) (ned xs ns) = decide (touchS K xs < needK ns K) := by
  unfold refB rng
  rw [st_eq, if_pos rfl, rng_bw, needK_ned hx ln hn, (in_touch K xs).2]
  dsimp only
  by_cases h : outK K xs + (xs.map fun x => if x.2.1 ∈ K ∧ x.1 ∉ K then x.2.2 else 0).sum < needK ns K
  · rw [decide_eq_true h, decide_eq_true (by omega)]
  · rw [decide_eq_false h, decide_eq_false (by omega)]
theorem ref_fl (hx : ∀ x ∈ xs, DOk n x) (ln : ns.length = n) (hn : K.Nodup) : refB "flooded" K xs (bw xs) (ned xs ns) = decide (needK ns K < insideS K xs) := by
  unfold refB rng
  rw [fs_ne, if_neg (by decide), rng_bw, needK_ned hx ln hn, (in_touch K xs).1]
  dsimp only
  by_cases h : needK ns K < outK K xs - (xs.map fun x => if x.1 ∈ K ∧ x.2.1 ∉ K then x.2.2 else 0).sum
  · rw [decide_eq_true h, decide_eq_true (by omega)]
  · rw [decide_eq_false h, decide_eq_false (by omega)]
end
end Mi
namespace Mi
open PySem L2
theorem op_gen {k k2 : Str} {tags others : List D} {v : D} {j : Int} (h1 : dNotIn (.str k) (.lst tags) = some (.bl false)) (h2 : dIdx (.lst tags) (.str k) = some (.int j)) (h3 : dIx (.lst others) (.int j) = some (.str k2)) : m_law_other_paper (.tup [.str k, v]) (.lst tags) (.lst others) = some (.tup [.str k2, v]) := by
  unfold m_law_other_paper
  rw [o1_some, isT_t, o1_some, tru_bl, oNot_s, Bool.not_true, oOr_f, c1_s, dLen_tup, o2_some]
  simp only [List.length_cons, List.length_nil, neI, dIx_tup, atI_0, atI_1, o2_some, h1, h2, h3, o1_some, tru_bl]
  rw [show (!decide (((0 + 1 + 1 : Nat) : Int) = 2)) = false from rfl, oOr_f, bs]
  simp only [Bool.false_eq_true, if_false, oCons_some, o1_some, dTup2]
def tgA : List D := [.str "air", .str "thirsty", .str "crowded"]
def tgS : List D := [.str "stream", .str "starved", .str "flooded"]
theorem s_ta : (("thirsty" : Str) == "air") = false := by decide +kernel
theorem s_ca : (("crowded" : Str) == "air") = false := by decide +kernel
theorem s_at : (("air" : Str) == "thirsty") = false := by decide +kernel
theorem s_ac : (("air" : Str) == "crowded") = false := by decide +kernel
theorem s_tc : (("thirsty" : Str) == "crowded") = false := by decide +kernel
theorem s_ct : (("crowded" : Str) == "thirsty") = false := by decide +kernel
theorem s_aa : (("air" : Str) == "air") = true := by decide +kernel
theorem s_tt : (("thirsty" : Str) == "thirsty") = true := by decide +kernel
theorem s_cc : (("crowded" : Str) == "crowded") = true := by decide +kernel
theorem op_1 {v : D} : m_law_other_paper (.tup [.str "air", v]) (.lst tgA) (.lst tgS) = some (.tup [.str "stream", v]) :=
  op_gen (j := 0) (by simp [dNotIn, dInB, flat, eqF, tgA, s_aa]) (by simp [dIdx, flat, eqF, tgA, s_aa, List.findIdx?_cons]) rfl
theorem op_2 {v : D} : m_law_other_paper (.tup [.str "thirsty", v]) (.lst tgA) (.lst tgS) = some (.tup [.str "starved", v]) :=
  op_gen (j := 1) (by simp [dNotIn, dInB, flat, eqF, tgA, s_at, s_tt]) (by simp only [dIdx, flat, eqF, tgA, s_at, s_tt, List.findIdx?_cons]; rfl) rfl
theorem op_3 {v : D} : m_law_other_paper (.tup [.str "crowded", v]) (.lst tgA) (.lst tgS) = some (.tup [.str "flooded", v]) :=
  op_gen (j := 2) (by simp [dNotIn, dInB, flat, eqF, tgA, s_ac, s_tc, s_cc]) (by simp only [dIdx, flat, eqF, tgA, s_ac, s_tc, s_cc, List.findIdx?_cons]; rfl) rfl
theorem op_4 {v : D} : m_law_other_paper (.tup [.str "stream", v]) (.lst tgS) (.lst tgA) = some (.tup [.str "air", v]) :=
  op_gen (j := 0) (by simp [dNotIn, dInB, flat, eqF, tgS, sss_eq]) (by simp only [dIdx, flat, eqF, tgS, sss_eq, List.findIdx?_cons]; rfl) rfl
theorem op_5 {v : D} : m_law_other_paper (.tup [.str "starved", v]) (.lst tgS) (.lst tgA) = some (.tup [.str "thirsty", v]) :=
  op_gen (j := 1) (by simp [dNotIn, dInB, flat, eqF, tgS, ss_ne, st_eq]) (by simp only [dIdx, flat, eqF, tgS, ss_ne, st_eq, List.findIdx?_cons]; rfl) rfl
theorem op_6 {v : D} : m_law_other_paper (.tup [.str "flooded", v]) (.lst tgS) (.lst tgA) = some (.tup [.str "crowded", v]) :=
  op_gen (j := 2) (by simp [dNotIn, dInB, flat, eqF, tgS, sf_ne, sfl_ne, fl_eq]) (by simp only [dIdx, flat, eqF, tgS, sf_ne, sfl_ne, fl_eq, List.findIdx?_cons]; rfl) rfl
section
variable {n : Nat} {xs ys : List (Nat × Nat × Int)} {bo : List (Int × Int)} {ss ns ld ts : List Int} {K : List Nat}
theorem lasked_ok (sc : List Int) {G : List Int} (h1 : 1 ≤ n) (h8 : n ≤ 8) (lg : G.length = n) : ∃ ns : List Int, m_law_asked (.scr sc) (.int (n : Int)) (.lst (G.map D.int)) = some (.lst (ns.map D.int)) ∧ ns.length = n ∧ ∀ a, -6 ≤ ns.getD a 0 - G.getD a 0 ∧ ns.getD a 0 - G.getD a 0 ≤ 6 := by
  obtain ⟨vs, hd, hl⟩ := draw_ok (cell sc 3) [2, (n : Int), (n : Int), 3] (by intro b hb; simp at hb; rcases hb with z | z | z <;> subst z <;> omega) (by simp)
  match vs, hl with
  | [q, a, b, c], hl =>
  obtain ⟨⟨q0, q1⟩, ⟨a0, a1⟩, ⟨b0, b1⟩, ⟨c0, c1'⟩, _⟩ := hl
  obtain ⟨A, rfl⟩ : ∃ A : Nat, a = (A : Int) := ⟨a.toNat, (Int.toNat_of_nonneg a0).symm⟩
  obtain ⟨B, rfl⟩ : ∃ B : Nat, b = (B : Int) := ⟨b.toNat, (Int.toNat_of_nonneg b0).symm⟩
  have hd' : m_law_draw (.int (cell sc 3)) (.lst [.int 2, .int (n : Int), .int (n : Int), .int 3]) = some (.lst [.int q, .int (A : Int), .int (B : Int), .int c]) := hd
  have v0 : dIx (.lst [.int q, .int (A : Int), .int (B : Int), .int c]) (.int 0) = some (.int q) := id rfl
  have v1 : dIx (.lst [.int q, .int (A : Int), .int (B : Int), .int c]) (.int 1) = some (.int (A : Int)) := id rfl
  have v2 : dIx (.lst [.int q, .int (A : Int), .int (B : Int), .int c]) (.int 2) = some (.int (B : Int)) := id rfl
  have v3 : dIx (.lst [.int q, .int (A : Int), .int (B : Int), .int c]) (.int 3) = some (.int c) := id rfl
  have c3' := cell_ok sc 3
  simp only [Int.cast_ofNat_Int] at c3'
  unfold m_law_asked
  rw [o1_some, dList_i, bs, c2_s, c3', oCons_some, oCons_some, oCons_some, oCons_some, o1_some, dLst4, c2_s, hd', bs]
  simp only [o2_some, v0, v1, v2, v3, eqI, o1_some, tru_bl]
  rw [bs]
  by_cases hq : q = 1
  · rw [decide_eq_true hq]
    simp only [if_true]
    have e1 := ixmD (f := D.int) (xs := G) (i := A) 0 (by omega)
    have e2 := dSet_i (G := G) (i := A) (v := G.getD A 0 - c - 1) (by omega)
    have e3 := ixL (G := G.set A (G.getD A 0 - c - 1)) (i := B) (by simp; omega)
    have e4 := dSet_i (G := G.set A (G.getD A 0 - c - 1)) (i := B) (v := (G.set A (G.getD A 0 - c - 1)).getD B 0 + c + 1) (by simp; omega)
    simp only [e1, o2_some, dSub_ii, bs, e2, e3, dAdd_ii, e4]
    refine ⟨_, rfl, by simp [lg], fun x => ?_⟩
    have s1 : ∀ x, -3 ≤ (G.set A (G.getD A 0 - c - 1)).getD x 0 - G.getD x 0 ∧ (G.set A (G.getD A 0 - c - 1)).getD x 0 - G.getD x 0 ≤ 3 := fun x => by
      by_cases z : A = x
      · subst z; rw [getD_set_eq _ _ _ (by omega)]; omega
      · rw [getD_set_ne _ _ _ z]; omega
    by_cases z : B = x
    · subst z
      have := s1 B
      rw [getD_set_eq _ _ _ (by rw [List.length_set]; omega)]
      omega
    · have := s1 x
      rw [getD_set_ne _ _ _ z]
      omega
  · rw [decide_eq_false hq]
    simp only [Bool.false_eq_true, if_false]
    exact ⟨G, rfl, lg, fun x => by omega⟩
theorem fit_bw (hx : ∀ x ∈ xs, DOk n x) (hf : fitB (bw xs) ss = true) : ∀ s ∈ ss, -6 ≤ s ∧ s ≤ 6 := fun s hs => by
  have l := fit_len hf
  have lb : (bw xs).length = xs.length := bw_len
  obtain ⟨j, hj, rfl⟩ := mem_getD 0 hs
  have f := fit_at hf (j := j) (by omega)
  rw [bw_at (by omega)] at f
  dsimp only at f
  have := (hx _ (xin (0, 0, 0) (show j < xs.length by omega))).2.2.2
  omega
theorem gains_b6 (hx : ∀ x ∈ xs, DOk n x) (hm : xs.length ≤ 11) (ls : ss.length = xs.length) (hs : ∀ s ∈ ss, -6 ≤ s ∧ s ≤ 6) : (gains n xs ss).length = n ∧ ∀ a ∈ gains n xs ss, -66 ≤ a ∧ a ≤ 66 := by
  obtain ⟨a1, a2, a3⟩ := fold_bd (n := n) (b := 6) (by decide) (zs := xs.zip ss) (G := List.replicate n 0) (B := 0) (by simp) (fun z hz => by
    have z1 := hx _ (List.of_mem_zip hz).1
    exact ⟨⟨z1.1, z1.2.1, z1.2.2.1⟩, hs _ (List.of_mem_zip hz).2⟩) (fun a ha => by rw [(List.mem_replicate.mp ha).2]; simp)
  refine ⟨a1, fun a ha => ?_⟩
  have := a3 a ha
  have : (xs.zip ss).length ≤ 11 := by rw [List.length_zip]; omega
  omega
theorem outw_bd (hx : ∀ x ∈ xs, DOk n x) (hm : xs.length ≤ 11) (a : Nat) : -66 ≤ outw xs a ∧ outw xs a ≤ 66 := by
  have := sum_bd (b := 6) (l := xs.map fun x => if x.1 = a then x.2.2 else 0) (fun y hy => by
    obtain ⟨x, hx', rfl⟩ := List.mem_map.mp hy
    have := (hx x hx').2.2.2
    split <;> omega)
  rw [List.length_map] at this
  unfold outw
  omega
theorem L4_ok {k : Str} {v : D} (hx : ∀ x ∈ xs, DOk n x) (hm : xs.length ≤ 16) (h8 : n ≤ 8) (sk : PyData.strOk k = true) (h : ((k == ("air" : Str)) = false ∧ (k == ("stream" : Str)) = false) ∨ ∃ ss : List Int, v = .tup (ss.map D.int) ∧ fitB (bw xs) ss = true ∧ intk n xs ss = ns) : m_law_L4 (.lst (xs.map dct)) (.int (n : Int)) (.lst (ns.map D.int)) () (.tup [.str k, v]) = some (.nx ()) := by
  unfold m_law_L4
  simp only [o2_some, dIx_tup, atI_0, atI_1, dEq_ss sk kA, dEq_ss sk kS, o1_some, tru_bl]
  rcases h with ⟨h1, h2⟩ | ⟨ss, rfl, hf, hi⟩
  · rw [h1, h2, oOr_f, bs]
    rfl
  · have lb : (bw xs).length = xs.length := bw_len
    have ls := (fit_len hf).trans lb
    rw [c2_s, lair_ok hf (by omega), c3_s, lintk_ok hx (by omega) (by omega) ls (.inr rfl), hi, o2_some, dNe_li, decide_eq_true rfl, o1_some, tru_bl, oNot_s, Bool.not_true, oOr_f]
    cases (k == ("air" : Str)) <;> cases (k == ("stream" : Str)) <;> rfl
end
theorem lned_ok {n : Nat} : ∀ (xs : List (Nat × Nat × Int)) (G : List Int), G.length = n → (∀ x ∈ xs, x.1 < n) → foldO m_law_L3 (xs.map dct) (.lst (G.map D.int)) = some (.lst ((ned xs G).map D.int))
  | [], G, _, _ => rfl
  | x :: xs, G, hl, h => by
    have hx := h x (by simp)
    have y0 : dIx (dct x) (.int 0) = some (.int (x.1 : Int)) := id rfl
    have y2 : dIx (dct x) (.int 2) = some (.int x.2.2) := id rfl
    have g1 := ixmD (f := D.int) (xs := G) (i := x.1) 0 (by omega)
    have s1 := dSet_i (G := G) (i := x.1) (v := G.getD x.1 0 - x.2.2) (by omega)
    rw [List.map_cons, foldO_cons]
    unfold m_law_L3
    simp only [o2_some, y0, y2, g1, dSub_ii, bs, s1]
    exact lned_ok xs _ (by rw [List.length_set]; exact hl) (fun y hy => h y (by simp [hy]))
theorem law_holds (sc : List Int) (h : sc.length ≤ 63) : m_law (.scr sc) = some (.bl true) := by
  obtain ⟨n, xs, hp, ⟨h1, h7⟩, hxl, hx, h3⟩ := plan_ok3 sc 0 (mr := 7) (me := 5) (mw := 3) (by omega) (by omega) (by omega)
  have hp' : m_law_plan (.scr sc) (.int 0) (.int 7) (.int 5) (.int 3) = some (.lst [.int (n : Int), .lst (xs.map dct)]) := hp
  have hm : xs.length ≤ 11 := by omega
  have bb := building_ok (n := n) (xs := xs) h1 (by omega) (by omega) hx
  have lb : (bw xs).length = xs.length := bw_len
  have bd := bw_bd hx
  have c2' := cell_ok sc 2
  simp only [Int.cast_ofNat_Int] at c2'
  have allT : xs.filter (fun _ => true) = xs := List.filter_eq_self.mpr fun a _ => rfl
  -- the air
  have cA : dComp m_law_C1 (xs.map dct) = some (.lst ((xs.map fun x => x.2.2 + 1).map D.int)) := by
    rw [dComp_fm (p := fun _ => true) (v := fun x : Nat × Nat × Int => D.int (x.2.2 + 1)) (by omega) fun x hx' => rfl, allT, List.map_map]
    rfl
  obtain ⟨air, hd, hl⟩ := draw_ok (cell sc 2) (xs.map fun x => x.2.2 + 1) (by
    intro b hb
    obtain ⟨x, hx', rfl⟩ := List.mem_map.mp hb
    have := (hx x hx').2.2.2
    omega) (by rw [List.length_map]; omega)
  have la : air.length = xs.length := by rw [hl.len, List.length_map]
  have fA : fitB (bw xs) air = true := by
    unfold fitB
    rw [decide_eq_true (by omega), Bool.true_and, List.all_eq_true]
    intro j hj
    have hj := List.mem_range.mp hj
    have hj' : j < xs.length := by omega
    obtain ⟨v, v1, v2, v3⟩ := hl.at j ((xs.getD j (0, 0, 0)).2.2 + 1) (by simp [List.getD, hj'])
    have : air.getD j 0 = v := by simp [List.getD, v1]
    rw [this, bw_at hj', decide_eq_true v2, decide_eq_true (by dsimp only; omega)]
    rfl
  have gb := gains_b6 (ss := air) hx hm la (fit_bw hx fA)
  have ia := intk_at (ss := air) hx la
  -- what is asked
  obtain ⟨ns, hns, ln, dn⟩ := lasked_ok sc (G := intk n xs air) h1 (by omega) (ia 0).1
  obtain ⟨nl, na⟩ := ned_at xs ns (fun x hx' => by rw [ln]; exact (hx x hx').1)
  rw [ln] at nl
  have gat : ∀ a, -66 ≤ (gains n xs air).getD a 0 ∧ (gains n xs air).getD a 0 ≤ 66 := fun a => by
    by_cases z : a < n
    · exact gb.2 _ (xin 0 (by omega))
    · have : (gains n xs air).getD a 0 = 0 := by
        simp only [List.getD]
        rw [List.getElem?_eq_none (by omega)]
        rfl
      omega
  have nsb : ∀ c ∈ ns, -200 ≤ c ∧ c ≤ 200 := fun c hc => by
    obtain ⟨a, ha, rfl⟩ := mem_getD 0 hc
    have := dn a
    have := (ia a).2
    have := gat a
    have := outw_bd hx hm a
    omega
  have neb : ∀ c ∈ ned xs ns, -200 ≤ c ∧ c ≤ 200 := fun c hc => by
    obtain ⟨a, ha, rfl⟩ := mem_getD 0 hc
    have := dn a
    have := (ia a).2
    have := gat a
    have := na a
    omega
  have cB : dComp m_law_C2 (xs.map dct) = some (.lst ((bw xs).map pr2)) := by
    have hC : ∀ x : Nat × Nat × Int, m_law_C2 (dct x) = some (some (pr2 (0, x.2.2))) := fun x => by
      have y2 : dIx (dct x) (.int 2) = some (.int x.2.2) := id rfl
      unfold m_law_C2
      rw [o2_some, y2, oCons_some, oCons_some, o1_some, dTup2, ms]
      rfl
    rw [dComp_fm (p := fun _ => true) (v := fun x : Nat × Nat × Int => pr2 (0, x.2.2)) (by omega) fun x hx' => hC x, allT]
    unfold bw
    rw [List.map_map]
    rfl
  have S : Setn n xs (bw xs) (ned xs ns) := ⟨h1, by omega, by omega, hx, lb, bd, nl, neb⟩
  have Si : Seti n xs ns := ⟨h1, by omega, by omega, hx, ln, nsb⟩
  have dlp : ∀ l : List D, dList (.lst l) = some (.lst l) := fun l => id rfl
  have told : m_shows_stream (bld n xs) (.lst ((bw xs).map pr2)) (.lst ((ned xs ns).map D.int)) (.tup [.str "stream", .tup (air.map D.int)]) = some (.bl (decide (ns = intk n xs air))) := by
    rw [stream_t S, fA, Bool.true_and]
    refine congrArg (fun b => some (D.bl b)) ?_
    by_cases z : ns = intk n xs air
    · rw [decide_eq_true z, decide_eq_true ((gains_ned hx (by omega) ln fA).mpr z.symm)]
    · rw [decide_eq_false z, decide_eq_false fun y => z ((gains_ned hx (by omega) ln fA).mp y).symm]
  -- no refused set where a stream serves
  have noref : ∀ {ss : List Int} {k : Str} {K : List Nat}, fitB (bw xs) ss = true → gains n xs ss = ned xs ns → (k = "starved" ∨ k = "flooded") → RSet n K → refB k K xs (bw xs) (ned xs ns) = true → False := fun hf hg hk hR hB => by
    rw [← hg, not_refused hx lb hf hk hR] at hB
    cases hB
  obtain ⟨p1, hp1, hc1⟩ := holdi_ok (ns := ns) h1 (by omega) (by omega) hx ln nsb
  obtain ⟨p2, hp2, hc2⟩ := hold_ok S
  have lned := lned_ok (n := n) xs ns ln (fun x hx' => (hx x hx').1)
  -- the tail
  have tail : ∀ (k1 k2 q1 q2 : Str) (v1 v2 : D), p1 = .tup [.str k1, v1] → p2 = .tup [.str k2, v2] → PyData.strOk k1 = true → PyData.strOk k2 = true →
      m_law_other_paper p1 (.lst tgA) (.lst tgS) = some (.tup [.str q1, v1]) → m_law_other_paper p2 (.lst tgS) (.lst tgA) = some (.tup [.str q2, v2]) →
      m_shows_stream (bld n xs) (.lst ((bw xs).map pr2)) (.lst ((ned xs ns).map D.int)) (.tup [.str q1, v1]) = some (.bl true) → m_shows_intakes (bld n xs) (.lst (ns.map D.int)) (.lst (ns.map D.int)) (.tup [.str q2, v2]) = some (.bl true) →
      (k1 == ("air" : Str)) = (k2 == ("stream" : Str)) → (ns = intk n xs air → (k1 == ("air" : Str)) = true) →
      m_law_L4 (.lst (xs.map dct)) (.int (n : Int)) (.lst (ns.map D.int)) () p1 = some (.nx ()) → m_law_L4 (.lst (xs.map dct)) (.int (n : Int)) (.lst (ns.map D.int)) () p2 = some (.nx ()) → m_law (.scr sc) = some (.bl true) := fun k1 k2 q1 q2 v1 v2 e1 e2 s1 s2 o1' o2' w1 w2 hb hn l1 l2 => by
    have x1 : dIx p1 (.int 0) = some (.str k1) := by rw [e1]; rfl
    have x2 : dIx p2 (.int 0) = some (.str k2) := by rw [e2]; rfl
    unfold m_law
    rw [c5_s, hp', bs, o2_some, dIx_lst, atI_0, bs, o2_some, dIx_lst, atI_1, bs, oCons_some, oCons_some, bs, bb, bs, c2_s, c2', o1_some, dItems_lst, bs, cA, c2_s, hd, bs, c3_s, lintk_ok hx (by omega) (by omega) la (.inl rfl), bs, c3_s, hns, bs, bs, cB, bs, o1_some, dList_i, bs, bs, lned, bs]
    rw [o1_some, dlp, c1_s, dTuple_l, oCons_some, oCons_some, o1_some, dTup2, c4_s, told, bs, o1_some, isB_bl, o1_some, tru_bl, oNot_s, Bool.not_true, oOr_f, o2_some, dEq_li, o2_some, neBl, o1_some, tru_bl, bs]
    simp only [Bool.false_eq_true, if_false]
    have dn1 : dList (.lst (ns.map D.int)) = some (.lst (ns.map D.int)) := id rfl
    have dn2 : dList (.lst ((ned xs ns).map D.int)) = some (.lst ((ned xs ns).map D.int)) := id rfl
    have dl3 : ∀ a b c : D, dLst [a, b, c] = some (.lst [a, b, c]) := fun a b c => dLst_s (by simp)
    simp only [o1_some, dn1, dn2, c3_s, hp1, hp2, bs, oCons_some, dl3]
    have o1'' : m_law_other_paper p1 (.lst [.str "air", .str "thirsty", .str "crowded"]) (.lst [.str "stream", .str "starved", .str "flooded"]) = some (.tup [.str q1, v1]) := o1'
    have o2'' : m_law_other_paper p2 (.lst [.str "stream", .str "starved", .str "flooded"]) (.lst [.str "air", .str "thirsty", .str "crowded"]) = some (.tup [.str q2, v2]) := o2'
    simp only [o1'', o2'', c4_s, w1, w2, o2_some, o1_some, dIsNot_bb, decide_true, tru_bl, bs, Bool.not_true, Bool.false_eq_true, if_false, x1, x2, dEq_ss s1 kA, dEq_ss s2 kS, hb, neBl, oOr_f, dEq_li]
    have hn' : oAnd (some (decide (ns = intk n xs air))) (o1 tru (dNe (.str k1) (.str "air"))) = some false := by
      rw [dNe_ss s1 kA, o1_some, tru_bl]
      by_cases z : ns = intk n xs air
      · rw [decide_eq_true z, oAnd_t, hn z]
        rfl
      · rw [decide_eq_false z, oAnd_f]
    have hn'' : oAnd (some (decide (ns = intk n xs air))) ((dNe (.str k1) (.str "air")).bind tru) = some false := hn'
    first
      | rw [hn', bs]
      | rw [hn'', bs]
    simp only [Bool.false_eq_true, if_false]
    rw [dLst2, o1_some, dItems_lst, bs, loopO_nx fun d hd => ?_]
    · rw [bs, Out.thnD_nx, c2_s, lwid_ok hx (by omega), c4_s, vented_ok sc h1 (by omega) (by omega) hx h3]
    · simp only [List.mem_cons, List.not_mem_nil, or_false] at hd
      rcases hd with z | z <;> subst z
      · exact l1
      · exact l2
  have sA : PyData.strOk "air" = true := kA
  rcases hc1 with ⟨s1, e1, f1, i1⟩ | ⟨K1, e1, R1, k1⟩ | ⟨K1, e1, R1, k1⟩
  · have g1 := (gains_ned hx (by omega) ln f1).mpr i1
    rcases hc2 with ⟨s2, e2, f2, g2⟩ | ⟨k, K2, hk, e2, R2, B2⟩
    · have i2 := (gains_ned hx (by omega) ln f2).mp g2
      refine tail "air" "stream" "stream" "air" _ _ e1 e2 kA kS (by rw [e1]; exact op_1) (by rw [e2]; exact op_4) ?_ (showi_air Si f2 i2) (by decide +kernel) (fun _ => s_aa) ?_ ?_
      · rw [stream_t S, f1, decide_eq_true g1]; rfl
      · rw [e1]; exact L4_ok hx (by omega) (by omega) kA (.inr ⟨s1, rfl, f1, i1⟩)
      · rw [e2]; exact L4_ok hx (by omega) (by omega) kS (.inr ⟨s2, rfl, f2, i2⟩)
    · exact (noref f1 g1 hk R2 B2).elim
  · have B1 : refB "flooded" K1 xs (bw xs) (ned xs ns) = true := by rw [ref_fl hx ln R1.nd]; exact decide_eq_true k1
    rcases hc2 with ⟨s2, e2, f2, g2⟩ | ⟨k, K2, hk, e2, R2, B2⟩
    · exact (noref f2 g2 (.inr rfl) R1 B1).elim
    · have hn : ns = intk n xs air → (("crowded" : Str) == ("air" : Str)) = true := fun z => (noref fA ((gains_ned hx (by omega) ln fA).mpr z.symm) (.inr rfl) R1 B1).elim
      have w1 : m_shows_stream (bld n xs) (.lst ((bw xs).map pr2)) (.lst ((ned xs ns).map D.int)) (.tup [.str "flooded", tupN K1]) = some (.bl true) := by
        rw [stream_k (.inr rfl) S, refused_ok (.inr rfl) R1 (by omega) nl, B1]
      have l1 : m_law_L4 (.lst (xs.map dct)) (.int (n : Int)) (.lst (ns.map D.int)) () p1 = some (.nx ()) := by rw [e1]; exact L4_ok hx (by omega) (by omega) kCr (.inl ⟨s_ca, by decide +kernel⟩)
      rcases hk with z | z <;> subst z
      · refine tail "crowded" "starved" "flooded" "thirsty" _ _ e1 e2 kCr kSt (by rw [e1]; exact op_3) (by rw [e2]; exact op_5) w1 (showi_k Si R2 (.inr ⟨rfl, ?_⟩)) (by decide +kernel) hn l1 ?_
        · rw [ref_st hx ln R2.nd] at B2; exact of_decide_eq_true B2
        · rw [e2]; exact L4_ok hx (by omega) (by omega) kSt (.inl ⟨by decide +kernel, str_ne⟩)
      · refine tail "crowded" "flooded" "flooded" "crowded" _ _ e1 e2 kCr kFl (by rw [e1]; exact op_3) (by rw [e2]; exact op_6) w1 (showi_k Si R2 (.inl ⟨rfl, ?_⟩)) (by decide +kernel) hn l1 ?_
        · rw [ref_fl hx ln R2.nd] at B2; exact of_decide_eq_true B2
        · rw [e2]; exact L4_ok hx (by omega) (by omega) kFl (.inl ⟨by decide +kernel, flr_ne⟩)
  · have B1 : refB "starved" K1 xs (bw xs) (ned xs ns) = true := by rw [ref_st hx ln R1.nd]; exact decide_eq_true k1
    rcases hc2 with ⟨s2, e2, f2, g2⟩ | ⟨k, K2, hk, e2, R2, B2⟩
    · exact (noref f2 g2 (.inl rfl) R1 B1).elim
    · have hn : ns = intk n xs air → (("thirsty" : Str) == ("air" : Str)) = true := fun z => (noref fA ((gains_ned hx (by omega) ln fA).mpr z.symm) (.inl rfl) R1 B1).elim
      have w1 : m_shows_stream (bld n xs) (.lst ((bw xs).map pr2)) (.lst ((ned xs ns).map D.int)) (.tup [.str "starved", tupN K1]) = some (.bl true) := by
        rw [stream_k (.inl rfl) S, refused_ok (.inl rfl) R1 (by omega) nl, B1]
      have l1 : m_law_L4 (.lst (xs.map dct)) (.int (n : Int)) (.lst (ns.map D.int)) () p1 = some (.nx ()) := by rw [e1]; exact L4_ok hx (by omega) (by omega) kTh (.inl ⟨s_ta, by decide +kernel⟩)
      rcases hk with z | z <;> subst z
      · refine tail "thirsty" "starved" "starved" "thirsty" _ _ e1 e2 kTh kSt (by rw [e1]; exact op_2) (by rw [e2]; exact op_5) w1 (showi_k Si R2 (.inr ⟨rfl, ?_⟩)) (by decide +kernel) hn l1 ?_
        · rw [ref_st hx ln R2.nd] at B2; exact of_decide_eq_true B2
        · rw [e2]; exact L4_ok hx (by omega) (by omega) kSt (.inl ⟨by decide +kernel, str_ne⟩)
      · refine tail "thirsty" "flooded" "starved" "crowded" _ _ e1 e2 kTh kFl (by rw [e1]; exact op_2) (by rw [e2]; exact op_6) w1 (showi_k Si R2 (.inl ⟨rfl, ?_⟩)) (by decide +kernel) hn l1 ?_
        · rw [ref_fl hx ln R2.nd] at B2; exact of_decide_eq_true B2
        · rw [e2]; exact L4_ok hx (by omega) (by omega) kFl (.inl ⟨by decide +kernel, flr_ne⟩)
end Mi
/-! the walks -/
namespace Mi
open PySem L2
open PyProof.Rows
theorem b0_bool : bootBuiltins "bool" = some (.type "bool") := by decide +kernel
theorem b0_enumerate : bootBuiltins "enumerate" = some (.type "enumerate") := by decide +kernel
theorem b0_int : bootBuiltins "int" = some (.type "int") := by decide +kernel
theorem b0_isinstance : bootBuiltins "isinstance" = some (.builtin "isinstance") := by decide +kernel
theorem b0_len : bootBuiltins "len" = some (.builtin "len") := by decide +kernel
theorem b0_list : bootBuiltins "list" = some (.type "list") := by decide +kernel
theorem b0_range : bootBuiltins "range" = some (.type "range") := by decide +kernel
theorem b0_sorted : bootBuiltins "sorted" = some (.builtin "sorted") := by decide +kernel
theorem b0_str : bootBuiltins "str" = some (.type "str") := by decide +kernel
theorem b0_sum : bootBuiltins "sum" = some (.builtin "sum") := by decide +kernel
theorem b0_tuple : bootBuiltins "tuple" = some (.type "tuple") := by decide +kernel
theorem b0_zip : bootBuiltins "zip" = some (.type "zip") := by decide +kernel
def top (i : Nat) : Stmt := PySem.Challenge.pw_warmhold_k72_airs_as_streams.main.body.getD i (.Pass ⟨0, 0, 0, 0⟩)
structure Txt (K : PySem.W.Frag) (mg : Str → Option Value) (C : Str → Addr) : Prop where
  b_bool : mg "bool" = none
  b_enumerate : mg "enumerate" = none
  b_int : mg "int" = none
  b_isinstance : mg "isinstance" = none
  b_len : mg "len" = none
  b_list : mg "list" = none
  b_range : mg "range" = none
  b_sorted : mg "sorted" = none
  b_str : mg "str" = none
  b_sum : mg "sum" = none
  b_tuple : mg "tuple" = none
  b_zip : mg "zip" = none
  g_MOST_DUCTS : ∃ t, mg "MOST_DUCTS" = some (.int 16 t)
  g_MOST_FLOW : ∃ t, mg "MOST_FLOW" = some (.int 12 t)
  g_MOST_ROOMS : ∃ t, mg "MOST_ROOMS" = some (.int 8 t)
  g_MOST_UNITS : ∃ t, mg "MOST_UNITS" = some (.int 200 t)
  g_MOST_VENTS : ∃ t, mg "MOST_VENTS" = some (.int 1000000 t)
  g_MOST_WIDTH : ∃ t, mg "MOST_WIDTH" = some (.int 6 t)
  cl_Building : Cls K (C "Building")
  mc_Building : mg "Building" = some (.ref (C "Building"))
  na_Building__widths : NoAttr K (C "Building") "_widths"
  na_Building_ducts : NoAttr K (C "Building") "ducts"
  na_Building_rooms : NoAttr K (C "Building") "rooms"
  ii_Building : ClsI ⟨K, C⟩ "Building"
section
variable {P : Program} {w : World} {K : PySem.W.Frag} {mg : Str → Option Value} {base : Heap} {C : Str → Addr}
abbrev s_law_draw : Stmt := top 62
abbrev N_law_draw : List Str := ["cell", "bounds", "found", "rest", "place", "mixed"]
theorem sc_law_draw : FnScope N_law_draw ["cell", "bounds"] (defScope s_law_draw) := ⟨rfl, rfl, rfl, by decide +kernel, rfl, by decide +kernel, by decide +kernel⟩
theorem ok_law_draw {f : Addr} {fd : FuncData} (F : Fun K "_law_draw" "_law_draw" s_law_draw f fd) (TX : Txt K mg C) : FnOk P w K mg base CX0 1 f fd ["cell", "bounds"] (spU ⟨K, C⟩ [.f, .f] (pur (f2 m_law_draw))) := by
  have nd := sc_law_draw.nd
  refine fn_ok (T := ⟨K, C⟩) F sc_law_draw rfl (by decide) (fun cdv A outer s H E hr => ?_)
  have hu := hr.units
  refine ⟨_, (pss_cons (ps_set (i := 2) nd rfl (Or.inl rfl) (pe_lst pa_nil))
  (pss_cons (ps_set (i := 3) nd rfl (Or.inl rfl) (pe_op op_sub (pv 0) (pe_op op_pow pe_int pe_int)))
  (pss_cons (ps_for PassesOwn.never rfl (pi_range1 rfl TX.b_range (pa_cons (pe_callB cl_len rfl TX.b_len b0_len (pa_cons (pv 1) pa_nil)) pa_nil)) (pg_name (i := 4) nd rfl (Or.inl rfl))
  (pss_cons (ps_if (pt_cmpR op_ge (pv 0) (pe_op op_pow pe_int pe_int) (nomark _))
  (pss_cons (ps_expr (pe_bm PySem.F.plainAttrs_list PySem.F.slot_list_append PySem.F.type_list_append mt_append (pv 2) (pa_cons (pe_op op_mod (pe_callTy call_int1 rfl TX.b_int b0_int (pa_cons (pv 3) pa_nil)) (pe_ix (ix_A hu) (pv 1) (pv 4) (fun _ _ => rfl))) pa_nil)))
  (pss_cons (ps_set (i := 3) nd rfl (Or.inl rfl) (pe_op op_fdiv (pv 3) (pe_ix (ix_A hu) (pv 1) (pv 4) (fun _ _ => rfl))))
  pss_nil))
  (pss_cons (ps_set (i := 5) nd rfl (Or.inl rfl) (pe_op op_mod (pe_callTy call_int1 rfl TX.b_int b0_int (pa_cons (pe_op op_addA (pe_op op_addA (pe_op op_mulA (pe_op op_mod (pe_callTy call_int1 rfl TX.b_int b0_int (pa_cons (pv 0) pa_nil)) pe_int) pe_int) (pe_op op_mulA (pv 4) pe_int)) pe_int) pa_nil)) pe_int))
  (pss_cons (ps_set (i := 5) nd rfl (Or.inl rfl) (pe_op op_mod (pe_callTy call_int1 rfl TX.b_int b0_int (pa_cons (pe_op op_addA (pe_op op_mulA (pv 5) pe_int) (pv 4)) pa_nil)) pe_int))
  (pss_cons (ps_expr (pe_bm PySem.F.plainAttrs_list PySem.F.slot_list_append PySem.F.type_list_append mt_append (pv 2) (pa_cons (pe_op op_mod (pe_callTy call_int1 rfl TX.b_int b0_int (pa_cons (pe_op op_fdiv (pv 5) pe_int) pa_nil)) (pe_ix (ix_A hu) (pv 1) (pv 4) (fun _ _ => rfl))) pa_nil)))
  pss_nil))))
  pss_nil))
  (pss_one (ps_ret (pv 2)))))), fun ds hds => ?_⟩
  match ds, hds with
  | [x_cell, x_bounds], _ =>
    refine bv_pur ?_
    show B _ _ _ (m_law_draw x_cell x_bounds) _
    unfold m_law_draw
    exact (bn_of (b_seq (bp_setO (i := 2) (evo_lst evl_nil)) fun x_found1 =>
  (b_seq (bp_set (i := 3) (ev_opS opS_sub (ev_val rfl) (ev_opS opS_pow ev_int ev_int))) fun x_rest2 =>
  (b_seq (bp_for (md := .f) (Γl := fun (x_b3 : D × D) => [.val x_cell, .val x_bounds, .own x_b3.2, .val x_b3.1, .no, .no]) (evi_range1 (evl_cons (ev_clS cS_len (evl_cons (ev_val rfl) evl_nil)) evl_nil)) (.keep (.keep (.keep (.keep (.skip (.skip .nil)))))) (fun x_b3 x_d5 =>
  (bg_name (b_seq (Γ1 := fun (x_j6 : D × D) => [.val x_cell, .val x_bounds, .own x_j6.2, .val x_j6.1, .val x_d5, .no]) (b_if (evt_test (ev_opS opS_ge (ev_val rfl) (ev_opS opS_pow ev_int ev_int)))
  (b_seq (bp_app (i := 2) rfl rfl (ev_opS opS_mod (ev_clS cS_int (evl_cons (ev_val rfl) evl_nil)) (ev_opP opP_ix (ev_val rfl) (ev_val rfl)))) fun x_found7 =>
  (b_seq (bp_set (i := 3) (ev_opS opS_div (ev_val rfl) (ev_opP opP_ix (ev_val rfl) (ev_val rfl)))) fun x_rest8 =>
  (bp_end (.keep (.keep (.keep (.keep (.keep (.skip .nil)))))))))
  (b_seq (bp_set (i := 5) (ev_opS opS_mod (ev_clS cS_int (evl_cons (ev_opM opM_add (ev_opM opM_add (ev_opM opM_mul (ev_opS opS_mod (ev_clS cS_int (evl_cons (ev_val rfl) evl_nil)) ev_int) ev_int) (ev_opM opM_mul (ev_val rfl) ev_int)) ev_int) evl_nil)) ev_int)) fun x_mixed9 =>
  (b_seq (bp_set (i := 5) (ev_opS opS_mod (ev_clS cS_int (evl_cons (ev_opM opM_add (ev_opM opM_mul (ev_val rfl) ev_int) (ev_val rfl)) evl_nil)) ev_int)) fun x_mixed10 =>
  (b_seq (bp_app (i := 2) rfl rfl (ev_opS opS_mod (ev_clS cS_int (evl_cons (ev_opS opS_div (ev_val rfl) ev_int) evl_nil)) (ev_opP opP_ix (ev_val rfl) (ev_val rfl)))) fun x_found11 =>
  (bp_end (.keep (.keep (.keep (.keep (.keep (.skip .nil))))))))))) fun x_j6 =>
  (bp_end (.keep (.keep (.keep (.keep (.skip (.skip .nil))))))))))) fun x_b3 =>
  (b_freeze 2 rfl (bd_ret (ev_val rfl)))))))

abbrev s_law_cell : Stmt := top 61
abbrev N_law_cell : List Str := ["script", "k"]
theorem sc_law_cell : FnScope N_law_cell ["script", "k"] (defScope s_law_cell) := ⟨rfl, rfl, rfl, by decide +kernel, rfl, by decide +kernel, by decide +kernel⟩
theorem ok_law_cell {f : Addr} {fd : FuncData} (F : Fun K "_law_cell" "_law_cell" s_law_cell f fd) (TX : Txt K mg C) : FnOk P w K mg base CX0 1 f fd ["script", "k"] (spU ⟨K, C⟩ [.f, .f] (pur (f2 m_law_cell))) := by
  have nd := sc_law_cell.nd
  refine fn_ok (T := ⟨K, C⟩) F sc_law_cell rfl (by decide) (fun cdv A outer s H E hr => ?_)
  have hu := hr.units
  refine ⟨_, (pss_cons (ps_if (pt_cmpR op_lt (pv 1) (pe_callB cl_len rfl TX.b_len b0_len (pa_cons (pv 0) pa_nil)) (nomark _))
  (pss_one (ps_ret (pe_ix (ix_A hu) (pv 0) (pv 1) (fun _ _ => rfl))))
  pss_nil)
  (pss_one (ps_ret pe_int))), fun ds hds => ?_⟩
  match ds, hds with
  | [x_script, x_k], _ =>
    refine bv_pur ?_
    show B _ _ _ (m_law_cell x_script x_k) _
    unfold m_law_cell
    exact (bn_of (bd_ifx0 (evt_test (ev_opS opS_lt (ev_val rfl) (ev_clS cS_len (evl_cons (ev_val rfl) evl_nil))))
  (bd_ret (ev_opP opP_ix (ev_val rfl) (ev_val rfl)))
  (bd_ret ev_int)))

abbrev s_law_ducts : Stmt := top 63
abbrev N_law_ducts : List Str := ["cell", "rooms", "joined", "extra", "most", "ducts", "bounds", "k", "draws", "first", "second"]
theorem sc_law_ducts : FnScope N_law_ducts ["cell", "rooms", "joined", "extra", "most"] (defScope s_law_ducts) := ⟨rfl, rfl, rfl, by decide +kernel, rfl, by decide +kernel, by decide +kernel⟩
theorem ok_law_ducts {f : Addr} {fd : FuncData} (F : Fun K "_law_ducts" "_law_ducts" s_law_ducts f fd) (TX : Txt K mg C) (C_law_draw : Cl P w K mg base 1 "_law_draw" ["cell", "bounds"] (spU ⟨K, C⟩ [.f, .f] (pur (f2 m_law_draw)))) : FnOk P w K mg base CX0 2 f fd ["cell", "rooms", "joined", "extra", "most"] (spU ⟨K, C⟩ [.f, .f, .f, .f, .f] (pur (f5 m_law_ducts))) := by
  have nd := sc_law_ducts.nd
  refine fn_ok (T := ⟨K, C⟩) F sc_law_ducts rfl (by decide) (fun cdv A outer s H E hr => ?_)
  have hu := hr.units
  refine ⟨_, (pss_cons (ps_set (i := 5) nd rfl (Or.inl rfl) (pe_lst pa_nil))
  (pss_cons (ps_if (pt_cmpR (op_eqD hu) (pv 1) pe_int (nomark _))
  (pss_one (ps_ret (pv 5)))
  pss_nil)
  (pss_cons (ps_set (i := 6) nd rfl (Or.inl rfl) (pe_lst pa_nil))
  (pss_cons (ps_for PassesOwn.never rfl (pi_range1 rfl TX.b_range (pa_cons (pe_op op_addA (pv 2) (pv 3)) pa_nil)) (pg_name (i := 7) nd rfl (Or.inl rfl))
  (pss_cons (ps_set (i := 6) nd rfl (Or.inl rfl) (pe_op op_addA (pv 6) (pe_lst (pa_cons pe_int (pa_cons (pe_op op_mulA pe_int (pe_op op_sub (pv 1) pe_int)) (pa_cons (pv 4) pa_nil))))))
  pss_nil))
  (pss_cons (ps_set (i := 8) nd rfl (Or.inl rfl) (pe_cl C_law_draw hr rfl (pa_cons (pv 0) (pa_cons (pv 6) pa_nil))))
  (pss_cons (ps_for PassesOwn.never rfl (pi_range1 rfl TX.b_range (pa_cons (pe_op op_addA (pv 2) (pv 3)) pa_nil)) (pg_name (i := 7) nd rfl (Or.inl rfl))
  (pss_cons (ps_set (i := 9) nd rfl (Or.inl rfl) (pe_op op_mod (pe_callTy call_int1 rfl TX.b_int b0_int (pa_cons (pe_ix (ix_A hu) (pv 8) (pe_op op_mulA pe_int (pv 7)) (fun _ _ => rfl)) pa_nil)) (pv 1)))
  (pss_cons (ps_set (i := 10) nd rfl (Or.inl rfl) (pe_op op_mod (pe_callTy call_int1 rfl TX.b_int b0_int (pa_cons (pe_op op_addA (pe_op op_addA (pv 9) pe_int) (pe_op op_fdiv (pe_ix (ix_A hu) (pv 8) (pe_op op_addA (pe_op op_mulA pe_int (pv 7)) pe_int) (fun _ _ => rfl)) pe_int)) pa_nil)) (pv 1)))
  (pss_cons (ps_if (pt_cmpR op_lt (pv 7) (pv 2) (nomark _))
  (pss_cons (ps_set (i := 9) nd rfl (Or.inl rfl) (pe_op op_addA (pv 7) pe_int))
  (pss_cons (ps_set (i := 10) nd rfl (Or.inl rfl) (pe_op op_mod (pe_callTy call_int1 rfl TX.b_int b0_int (pa_cons (pe_ix (ix_A hu) (pv 8) (pe_op op_mulA pe_int (pv 7)) (fun _ _ => rfl)) pa_nil)) (pe_op op_addA (pv 7) pe_int)))
  (pss_cons (ps_if (pt_cmpR (op_eqD hu) (pe_op op_mod (pe_callTy call_int1 rfl TX.b_int b0_int (pa_cons (pe_ix (ix_A hu) (pv 8) (pe_op op_addA (pe_op op_mulA pe_int (pv 7)) pe_int) (fun _ _ => rfl)) pa_nil)) pe_int) pe_int (nomark _))
  (pss_cons (ps_set (i := 9) nd rfl (Or.inl rfl) (pv 10))
  (pss_cons (ps_set (i := 10) nd rfl (Or.inl rfl) (pe_op op_addA (pv 7) pe_int))
  pss_nil))
  pss_nil)
  pss_nil)))
  pss_nil)
  (pss_cons (ps_expr (pe_bm PySem.F.plainAttrs_list PySem.F.slot_list_append PySem.F.type_list_append mt_append (pv 5) (pa_cons (pe_tup (pa_cons (pv 9) (pa_cons (pv 10) (pa_cons (pe_op op_addA (pe_ix (ix_A hu) (pv 8) (pe_op op_addA (pe_op op_mulA pe_int (pv 7)) pe_int) (fun _ _ => rfl)) pe_int) pa_nil)))) pa_nil)))
  pss_nil)))))
  (pss_one (ps_ret (pv 5))))))))), fun ds hds => ?_⟩
  match ds, hds with
  | [x_cell, x_rooms, x_joined, x_extra, x_most], _ =>
    refine bv_pur ?_
    show B _ _ _ (m_law_ducts x_cell x_rooms x_joined x_extra x_most) _
    unfold m_law_ducts
    exact (bn_of (b_seq (bp_setO (i := 5) (evo_lst evl_nil)) fun x_ducts1 =>
  (bd_ifx0 (evt_test (ev_opS opS_eq (ev_val rfl) ev_int))
  (b_freeze 5 rfl (bd_ret (ev_val rfl)))
  (b_seq (bp_set (i := 6) (ev_new (evo_lst evl_nil))) fun x_bounds2 =>
  (b_seq (bp_for (md := .f) (Γl := fun (x_b3 : D) => [.val x_cell, .val x_rooms, .val x_joined, .val x_extra, .val x_most, .own x_ducts1, .val x_b3, .no, .no, .no, .no]) (evi_range1 (evl_cons (ev_opM opM_add (ev_val rfl) (ev_val rfl)) evl_nil)) (.keep (.keep (.keep (.keep (.keep (.keep (.keep (.skip (.skip (.skip (.skip .nil))))))))))) (fun x_b3 x_d5 =>
  (bg_name (b_seq (bp_set (i := 6) (ev_opM opM_add (ev_val rfl) (ev_new (evo_lst (evl_cons ev_int (evl_cons (ev_opM opM_mul ev_int (ev_opS opS_sub (ev_val rfl) ev_int)) (evl_cons (ev_val rfl) evl_nil))))))) fun x_bounds6 =>
  (bp_end (.keep (.keep (.keep (.keep (.keep (.keep (.keep (.skip (.skip (.skip (.skip .nil)))))))))))))))) fun x_b3 =>
  (b_seq (bp_set (i := 8) (ev_callO rfl (eva_cons (ev_val rfl) (eva_cons (ev_val rfl) eva_nil)))) fun x_draws7 =>
  (b_seq (bp_for (md := .f) (Γl := fun (x_b8 : D) => [.val x_cell, .val x_rooms, .val x_joined, .val x_extra, .val x_most, .own x_b8, .val x_b3, .no, .val x_draws7, .no, .no]) (evi_range1 (evl_cons (ev_opM opM_add (ev_val rfl) (ev_val rfl)) evl_nil)) (.keep (.keep (.keep (.keep (.keep (.keep (.keep (.skip (.keep (.skip (.skip .nil))))))))))) (fun x_b8 x_d10 =>
  (bg_name (b_seq (bp_set (i := 9) (ev_opS opS_mod (ev_clS cS_int (evl_cons (ev_opP opP_ix (ev_val rfl) (ev_opM opM_mul ev_int (ev_val rfl))) evl_nil)) (ev_val rfl))) fun x_first11 =>
  (b_seq (bp_set (i := 10) (ev_opS opS_mod (ev_clS cS_int (evl_cons (ev_opM opM_add (ev_opM opM_add (ev_val rfl) ev_int) (ev_opS opS_div (ev_opP opP_ix (ev_val rfl) (ev_opM opM_add (ev_opM opM_mul ev_int (ev_val rfl)) ev_int)) ev_int)) evl_nil)) (ev_val rfl))) fun x_second12 =>
  (b_seq (Γ1 := fun (x_j13 : D × D) => [.val x_cell, .val x_rooms, .val x_joined, .val x_extra, .val x_most, .own x_b8, .val x_b3, .val x_d10, .val x_draws7, .val x_j13.1, .val x_j13.2]) (b_if (evt_test (ev_opS opS_lt (ev_val rfl) (ev_val rfl)))
  (b_seq (bp_set (i := 9) (ev_opM opM_add (ev_val rfl) ev_int)) fun x_first14 =>
  (b_seq (bp_set (i := 10) (ev_opS opS_mod (ev_clS cS_int (evl_cons (ev_opP opP_ix (ev_val rfl) (ev_opM opM_mul ev_int (ev_val rfl))) evl_nil)) (ev_opM opM_add (ev_val rfl) ev_int))) fun x_second15 =>
  (b_seq (Γ1 := fun (x_j16 : D × D) => [.val x_cell, .val x_rooms, .val x_joined, .val x_extra, .val x_most, .own x_b8, .val x_b3, .val x_d10, .val x_draws7, .val x_j16.1, .val x_j16.2]) (b_if (evt_test (ev_opS opS_eq (ev_opS opS_mod (ev_clS cS_int (evl_cons (ev_opP opP_ix (ev_val rfl) (ev_opM opM_add (ev_opM opM_mul ev_int (ev_val rfl)) ev_int)) evl_nil)) ev_int) ev_int))
  (b_seq (bp_set (i := 9) (ev_val rfl)) fun x_first17 =>
  (b_seq (bp_set (i := 10) (ev_opM opM_add (ev_val rfl) ev_int)) fun x_second18 =>
  (bp_end (.keep (.keep (.keep (.keep (.keep (.keep (.keep (.keep (.keep (.keep (.keep .nil))))))))))))))
  (bp_end (.keep (.keep (.keep (.keep (.keep (.keep (.keep (.keep (.keep (.keep (.keep .nil))))))))))))) fun x_j16 =>
  (bp_end (.keep (.keep (.keep (.keep (.keep (.keep (.keep (.keep (.keep (.keep (.keep .nil)))))))))))))))
  (bp_end (.keep (.keep (.keep (.keep (.keep (.keep (.keep (.keep (.keep (.keep (.keep .nil))))))))))))) fun x_j13 =>
  (b_seq (bp_app (i := 5) rfl rfl (ev_tup (evl_cons (ev_val rfl) (evl_cons (ev_val rfl) (evl_cons (ev_opM opM_add (ev_opP opP_ix (ev_val rfl) (ev_opM opM_add (ev_opM opM_mul ev_int (ev_val rfl)) ev_int)) ev_int) evl_nil))))) fun x_ducts19 =>
  (bp_end (.keep (.keep (.keep (.keep (.keep (.keep (.keep (.skip (.keep (.skip (.skip .nil))))))))))))))))))) fun x_b8 =>
  (b_freeze 5 rfl (bd_ret (ev_val rfl))))))))))

abbrev s_law_plan : Stmt := top 64
abbrev N_law_plan : List Str := ["script", "at", "most_rooms", "most_extra", "most_width", "head", "rooms", "joined"]
theorem sc_law_plan : FnScope N_law_plan ["script", "at", "most_rooms", "most_extra", "most_width"] (defScope s_law_plan) := ⟨rfl, rfl, rfl, by decide +kernel, rfl, by decide +kernel, by decide +kernel⟩
theorem ok_law_plan {f : Addr} {fd : FuncData} (F : Fun K "_law_plan" "_law_plan" s_law_plan f fd) (TX : Txt K mg C) (C_law_draw : Cl P w K mg base 1 "_law_draw" ["cell", "bounds"] (spU ⟨K, C⟩ [.f, .f] (pur (f2 m_law_draw)))) (C_law_cell : Cl P w K mg base 1 "_law_cell" ["script", "k"] (spU ⟨K, C⟩ [.f, .f] (pur (f2 m_law_cell)))) (C_law_ducts : Cl P w K mg base 2 "_law_ducts" ["cell", "rooms", "joined", "extra", "most"] (spU ⟨K, C⟩ [.f, .f, .f, .f, .f] (pur (f5 m_law_ducts)))) : FnOk P w K mg base CX0 3 f fd ["script", "at", "most_rooms", "most_extra", "most_width"] (spU ⟨K, C⟩ [.f, .f, .f, .f, .f] (pur (f5 m_law_plan))) := by
  have nd := sc_law_plan.nd
  refine fn_ok (T := ⟨K, C⟩) F sc_law_plan rfl (by decide) (fun cdv A outer s H E hr => ?_)
  have hu := hr.units
  refine ⟨_, (pss_cons (ps_set (i := 5) nd rfl (Or.inl rfl) (pe_cl C_law_draw hr rfl (pa_cons (pe_cl C_law_cell hr rfl (pa_cons (pv 0) (pa_cons (pv 1) pa_nil))) (pa_cons (pe_lst (pa_cons (pv 2) (pa_cons (pe_op op_addA (pv 3) pe_int) (pa_cons pe_int pa_nil)))) pa_nil))))
  (pss_cons (ps_set (i := 6) nd rfl (Or.inl rfl) (pe_op op_addA (pe_ix (ix_A hu) (pv 5) pe_int (fun _ _ => rfl)) pe_int))
  (pss_cons (ps_set (i := 7) nd rfl (Or.inl rfl) (pe_op op_sub (pv 6) pe_int))
  (pss_cons (ps_if (pt_cmpR (op_eqD hu) (pe_ix (ix_A hu) (pv 5) pe_int (fun _ _ => rfl)) pe_int (nomark _))
  (pss_cons (ps_set (i := 7) nd rfl (Or.inl rfl) pe_int)
  pss_nil)
  pss_nil)
  (pss_one (ps_ret (pe_lst (pa_cons (pv 6) (pa_cons (pe_cl C_law_ducts hr rfl (pa_cons (pe_cl C_law_cell hr rfl (pa_cons (pv 0) (pa_cons (pe_op op_addA (pv 1) pe_int) pa_nil))) (pa_cons (pv 6) (pa_cons (pv 7) (pa_cons (pe_ix (ix_A hu) (pv 5) pe_int (fun _ _ => rfl)) (pa_cons (pv 4) pa_nil)))))) pa_nil))))))))), fun ds hds => ?_⟩
  match ds, hds with
  | [x_script, x_at, x_most_rooms, x_most_extra, x_most_width], _ =>
    refine bv_pur ?_
    show B _ _ _ (m_law_plan x_script x_at x_most_rooms x_most_extra x_most_width) _
    unfold m_law_plan
    exact (bn_of (b_seq (bp_set (i := 5) (ev_callO rfl (eva_cons (ev_callO rfl (eva_cons (ev_val rfl) (eva_cons (ev_val rfl) eva_nil))) (eva_cons (ev_new (evo_lst (evl_cons (ev_val rfl) (evl_cons (ev_opM opM_add (ev_val rfl) ev_int) (evl_cons ev_int evl_nil))))) eva_nil)))) fun x_head1 =>
  (b_seq (bp_set (i := 6) (ev_opM opM_add (ev_opP opP_ix (ev_val rfl) ev_int) ev_int)) fun x_rooms2 =>
  (b_seq (bp_set (i := 7) (ev_opS opS_sub (ev_val rfl) ev_int)) fun x_joined3 =>
  (b_seq (Γ1 := fun (x_j4 : D) => [.val x_script, .val x_at, .val x_most_rooms, .val x_most_extra, .val x_most_width, .val x_head1, .val x_rooms2, .val x_j4]) (b_if (evt_test (ev_opS opS_eq (ev_opP opP_ix (ev_val rfl) ev_int) ev_int))
  (b_seq (bp_set (i := 7) ev_int) fun x_joined5 =>
  (bp_end (.keep (.keep (.keep (.keep (.keep (.keep (.keep (.keep .nil))))))))))
  (bp_end (.keep (.keep (.keep (.keep (.keep (.keep (.keep (.keep .nil)))))))))) fun x_j4 =>
  (bd_ret (ev_new (evo_lst (evl_cons (ev_val rfl) (evl_cons (ev_callO rfl (eva_cons (ev_callO rfl (eva_cons (ev_val rfl) (eva_cons (ev_opM opM_add (ev_val rfl) ev_int) eva_nil))) (eva_cons (ev_val rfl) (eva_cons (ev_val rfl) (eva_cons (ev_opP opP_ix (ev_val rfl) ev_int) (eva_cons (ev_val rfl) eva_nil)))))) evl_nil))))))))))

abbrev s_require : Stmt := top 11
abbrev N_require : List Str := ["holds", "name"]
theorem sc_require : FnScope N_require ["holds", "name"] (defScope s_require) := ⟨rfl, rfl, rfl, by decide +kernel, rfl, by decide +kernel, by decide +kernel⟩
theorem ok_require {f : Addr} {fd : FuncData} (F : Fun K "require" "require" s_require f fd) (TX : Txt K mg C) : FnOk P w K mg base CX0 1 f fd ["holds", "name"] (spU ⟨K, C⟩ [.f, .f] (pur (f2 m_require))) := by
  have nd := sc_require.nd
  refine fn_ok (T := ⟨K, C⟩) F sc_require rfl (by decide) (fun cdv A outer s H E hr => ?_)
  have hu := hr.units
  refine ⟨_, (pss_cons (ps_if (pt_not (pt_val (pv 0)))
  (pss_one ps_never)
  pss_nil)
  pss_nil), fun ds hds => ?_⟩
  match ds, hds with
  | [x_holds, x_name], _ =>
    refine bv_pur ?_
    show B _ _ _ (m_require x_holds x_name) _
    unfold m_require
    exact (bn_ifx0 (evt_not (evt_B (ev_val rfl)))
  b_never
  bn_end)

abbrev s_width_table : Stmt := top 21
abbrev N_width_table : List Str := ["rooms", "ducts", "rows", "first", "second", "width", "room", "row"]
theorem sc_width_table : FnScope N_width_table ["rooms", "ducts"] (defScope s_width_table) := ⟨rfl, rfl, rfl, by decide +kernel, rfl, by decide +kernel, by decide +kernel⟩
theorem ok_width_table {f : Addr} {fd : FuncData} (F : Fun K "width_table" "width_table" s_width_table f fd) (TX : Txt K mg C) : FnOk P w K mg base CX0 1 f fd ["rooms", "ducts"] (spU ⟨K, C⟩ [.f, .f] (pur (f2 m_width_table))) := by
  have nd := sc_width_table.nd
  refine fn_ok (T := ⟨K, C⟩) F sc_width_table rfl (by decide) (fun cdv A outer s H E hr => ?_)
  have hu := hr.units
  refine ⟨_, (pss_cons (ps_setLc (i := 2) (own := [("room", 6)]) (g := (gName 6)) (tt := tYes) (te := (tOp (rMulA K) (tLst (tCons (tC (.int 0)) tNil)) (tVar 0))) rfl nd rfl rfl (sw_true rfl rfl rfl (by decide +kernel)) (pi_range1 rfl TX.b_range (pa_cons (pv 0) pa_nil)) (blkOk_by (own := [("room", 6)]) (N := N_width_table) (sc := defScope s_width_table) (by decide +kernel)) (fun _ _ _ _ _ => (pg_name (i := 6) nd rfl (Or.inl rfl))) (fun _ _ _ _ _ => pts_nil) (fun _ _ _ _ _ => (pe_op op_mulA (pe_lst (pa_cons pe_int pa_nil)) (pv 0))))
  (pss_cons (ps_for PassesOwn.never rfl (pi_seqK (pv 1)) (pg_tup rfl (pgs_cons (pg_name (i := 3) nd rfl (Or.inl rfl)) (pgs_cons (pg_name (i := 4) nd rfl (Or.inl rfl)) (pgs_cons (pg_name (i := 5) nd rfl (Or.inl rfl)) pgs_nil))))
  (pss_cons (ps_augS (pe_ix (ix_A hu) (pv 2) (pv 3) (fun _ _ => rfl)) (pv 4) (get_A hu) (pv 5) ip_add (set_A hu))
  (pss_cons (ps_augS (pe_ix (ix_A hu) (pv 2) (pv 4) (fun _ _ => rfl)) (pv 3) (get_A hu) (pv 5) ip_add (set_A hu))
  pss_nil)))
  (pss_one (ps_ret (pe_callTy call_tuple_of rfl TX.b_tuple b0_tuple (pa_cons (pe_lc (own := [("row", 7)]) (g := (gName 7)) (tt := tYes) (te := (tCB (rTupOf K) (tCons (tVar 7) tNil))) rfl nd (pi_seqK (pv 2)) (blkOk_by (own := [("row", 7)]) (N := N_width_table) (sc := defScope s_width_table) (by decide +kernel)) (fun _ _ _ _ _ => (pg_name (i := 7) nd rfl (Or.inl rfl))) (fun _ _ _ _ _ => pts_nil) (fun _ _ _ _ _ => (pe_callTy call_tuple_of rfl TX.b_tuple b0_tuple (pa_cons (pv 7) pa_nil)))) pa_nil)))))), fun ds hds => ?_⟩
  match ds, hds with
  | [x_rooms, x_ducts], _ =>
    refine bv_pur ?_
    show B _ _ _ (m_width_table x_rooms x_ducts) _
    unfold m_width_table
    exact (bn_of (bn_grid (i := 2) (r := 0) (v := 6) (by decide) (by simp [ctx0]) rfl fun _ => bn_for3 (a := 3) (b := 4) (c := 5) (Γh := [.val x_rooms, .val x_ducts, .no, .no, .no, .no, .no, .no]) (evi_seq (ev_val (i := 1) rfl)) (.keep (.keep (.skip (.skip (.skip (.skip (.skip (.skip .nil)))))))) (by decide) (by decide) (by decide) (fun _ _ _ _ => (bn_aug rfl (ev_val (i := 3) rfl) (ev_val (i := 4) rfl) (ev_val (i := 5) rfl) fun _ => (bn_aug rfl (ev_val (i := 4) rfl) (ev_val (i := 3) rfl) (ev_val (i := 5) rfl) fun _ => (bnn_end (.keep (.keep (.skip (.skip (.skip (.skip (.skip (.skip .nil)))))))) rfl)))) fun x_dss => bn_frz rfl (bd_ret (ev_clM cM_tuple (evl_cons (ev_new (evo_comp (md := .f) rfl (tin_name (by decide)) (evi_seq (ev_val rfl)) (fun x_d1 => (bg_name (ce_all (ev_clM cM_tuple (evl_cons (ev_val rfl) evl_nil))))))) evl_nil)))))

abbrev s_is_integer : Stmt := top 12
abbrev N_is_integer : List Str := ["value"]
theorem sc_is_integer : FnScope N_is_integer ["value"] (defScope s_is_integer) := ⟨rfl, rfl, rfl, by decide +kernel, rfl, by decide +kernel, by decide +kernel⟩
theorem ok_is_integer {f : Addr} {fd : FuncData} (F : Fun K "is_integer" "is_integer" s_is_integer f fd) (TX : Txt K mg C) : FnOk P w K mg base CX0 1 f fd ["value"] (spU ⟨K, C⟩ [.h] (pur (f1 m_is_integer))) := by
  have nd := sc_is_integer.nd
  refine fn_ok (T := ⟨K, C⟩) F sc_is_integer rfl (by decide) (fun cdv A outer s H E hr => ?_)
  have hu := hr.units
  refine ⟨_, (pss_one (ps_ret (pe_and (pe_callB call_isi rfl TX.b_isinstance b0_isinstance (pa_cons (pv 0) (pa_cons (pe_bltn (v := .ty "int") rfl TX.b_int b0_int rfl) pa_nil))) (pe_one (pe_not (pe_callB call_isi rfl TX.b_isinstance b0_isinstance (pa_cons (pv 0) (pa_cons (pe_bltn (v := .ty "bool") rfl TX.b_bool b0_bool rfl) pa_nil)))))))), fun ds hds => ?_⟩
  match ds, hds with
  | [x_value], _ =>
    refine bv_pur ?_
    show B _ _ _ (m_is_integer x_value) _
    unfold m_is_integer
    exact (bn_of (bd_ret (ev_andV (ev_isi (ev_bor rfl)) (ev_notV (ev_isi (ev_bor rfl))))))

abbrev s_is_between : Stmt := top 13
abbrev N_is_between : List Str := ["value", "least", "most"]
theorem sc_is_between : FnScope N_is_between ["value", "least", "most"] (defScope s_is_between) := ⟨rfl, rfl, rfl, by decide +kernel, rfl, by decide +kernel, by decide +kernel⟩
theorem ok_is_between {f : Addr} {fd : FuncData} (F : Fun K "is_between" "is_between" s_is_between f fd) (TX : Txt K mg C) (C_is_integer : Cl P w K mg base 1 "is_integer" ["value"] (spU ⟨K, C⟩ [.h] (pur (f1 m_is_integer)))) : FnOk P w K mg base CX0 2 f fd ["value", "least", "most"] (spU ⟨K, C⟩ [.h, .f, .f] (pur (f3 m_is_between))) := by
  have nd := sc_is_between.nd
  refine fn_ok (T := ⟨K, C⟩) F sc_is_between rfl (by decide) (fun cdv A outer s H E hr => ?_)
  have hu := hr.units
  refine ⟨_, (pss_one (ps_ret (pe_and (pe_cl C_is_integer hr rfl (pa_cons (pv 0) pa_nil)) (pe_one (pe_chain op_le op_le (pv 1) (pv 0) (pv 2)))))), fun ds hds => ?_⟩
  match ds, hds with
  | [x_value, x_least, x_most], _ =>
    refine bv_pur ?_
    show B _ _ _ (m_is_between x_value x_least x_most) _
    unfold m_is_between
    exact (bn_of (bd_ret (ev_andV (ev_callO rfl (eva_cons (ev_bor rfl) eva_nil)) (ev_chain opS_le opS_le (ev_val rfl) (ev_bor rfl) (ev_val rfl)))))

abbrev s_is_table : Stmt := top 14
abbrev N_is_table : List Str := ["value", "size", "least", "most", "entry"]
theorem sc_is_table : FnScope N_is_table ["value", "size", "least", "most"] (defScope s_is_table) := ⟨rfl, rfl, rfl, by decide +kernel, rfl, by decide +kernel, by decide +kernel⟩
theorem ok_is_table {f : Addr} {fd : FuncData} (F : Fun K "is_table" "is_table" s_is_table f fd) (TX : Txt K mg C) (C_is_between : Cl P w K mg base 2 "is_between" ["value", "least", "most"] (spU ⟨K, C⟩ [.h, .f, .f] (pur (f3 m_is_between)))) : FnOk P w K mg base CX0 3 f fd ["value", "size", "least", "most"] (spU ⟨K, C⟩ [.h, .f, .f, .f] (pur (f4 m_is_table))) := by
  have nd := sc_is_table.nd
  refine fn_ok (T := ⟨K, C⟩) F sc_is_table rfl (by decide) (fun cdv A outer s H E hr => ?_)
  have hu := hr.units
  refine ⟨_, (pss_cons (ps_if (PW.pt (pw_or (pt_not (pt_val (pe_callB call_isiT rfl TX.b_isinstance b0_isinstance (pa_cons (pv 0) (pa_cons (pe_tup (pa_cons (pe_bltn (v := .ty "list") rfl TX.b_list b0_list rfl) (pa_cons (pe_bltn (v := .ty "tuple") rfl TX.b_tuple b0_tuple rfl) pa_nil))) pa_nil))))) (pw_or1 (pt_cmpR (op_neD hu) (pe_callB cl_len rfl TX.b_len b0_len (pa_cons (pv 0) pa_nil)) (pv 1) (nomark _)))))
  (pss_one (ps_ret pe_bl))
  pss_nil)
  (pss_cons (ps_for PassesOwn.never rfl (pi_seqK (pv 0)) (pg_name (i := 4) nd rfl (Or.inl rfl))
  (pss_cons (ps_if (pt_not (pt_val (pe_cl C_is_between hr rfl (pa_cons (pv 4) (pa_cons (pv 2) (pa_cons (pv 3) pa_nil))))))
  (pss_one (ps_ret pe_bl))
  pss_nil)
  pss_nil))
  (pss_one (ps_ret pe_bl)))), fun ds hds => ?_⟩
  match ds, hds with
  | [x_value, x_size, x_least, x_most], _ =>
    refine bv_pur ?_
    show B _ _ _ (m_is_table x_value x_size x_least x_most) _
    unfold m_is_table
    exact (bn_of (bd_ifx0 (evt_or (evt_not (evt_B (ev_isi2 (ev_bor rfl)))) (evt_test (ev_opS opS_ne (ev_clS cS_len (evl_cons (ev_bor rfl) evl_nil)) (ev_val rfl))))
  (bd_ret ev_bl)
  (bd_seqx (bt_for (md := .b) (Γl := fun (x_b1 : Unit) => [.bor x_value, .val x_size, .val x_least, .val x_most, .no]) (evi_seq (ev_borB rfl)) (.keep (.keep (.keep (.keep (.skip .nil))))) (fun x_b1 x_d3 =>
  (bg_name (b_ifx0 (evt_not (evt_B (ev_callO rfl (eva_cons (ev_bor rfl) (eva_cons (ev_val rfl) (eva_cons (ev_val rfl) eva_nil))))))
  (bt_ret' ev_bl)
  (bt_end (.keep (.keep (.keep (.keep (.skip .nil)))))))))) fun x_b1 =>
  (bd_ret ev_bl))))

abbrev s_are_ducts : Stmt := top 20
abbrev N_are_ducts : List Str := ["value", "rooms", "duct", "first", "second", "width"]
theorem sc_are_ducts : FnScope N_are_ducts ["value", "rooms"] (defScope s_are_ducts) := ⟨rfl, rfl, rfl, by decide +kernel, rfl, by decide +kernel, by decide +kernel⟩
theorem ok_are_ducts {f : Addr} {fd : FuncData} (F : Fun K "are_ducts" "are_ducts" s_are_ducts f fd) (TX : Txt K mg C) (C_is_table : Cl P w K mg base 3 "is_table" ["value", "size", "least", "most"] (spU ⟨K, C⟩ [.h, .f, .f, .f] (pur (f4 m_is_table)))) : FnOk P w K mg base CX0 4 f fd ["value", "rooms"] (spU ⟨K, C⟩ [.f, .f] (pur (f2 m_are_ducts))) := by
  have nd := sc_are_ducts.nd
  refine fn_ok (T := ⟨K, C⟩) F sc_are_ducts rfl (by decide) (fun cdv A outer s H E hr => ?_)
  have hu := hr.units
  refine ⟨_, (pss_cons (ps_if (PW.pt (pw_or (pt_not (pt_val (pe_callB call_isiT rfl TX.b_isinstance b0_isinstance (pa_cons (pv 0) (pa_cons (pe_tup (pa_cons (pe_bltn (v := .ty "list") rfl TX.b_list b0_list rfl) (pa_cons (pe_bltn (v := .ty "tuple") rfl TX.b_tuple b0_tuple rfl) pa_nil))) pa_nil))))) (pw_or1 (pt_cmpR op_gt (pe_callB cl_len rfl TX.b_len b0_len (pa_cons (pv 0) pa_nil)) (pe_gint rfl TX.g_MOST_DUCTS) (nomark _)))))
  (pss_one (ps_ret pe_bl))
  pss_nil)
  (pss_cons (ps_for PassesOwn.never rfl (pi_seqK (pv 0)) (pg_name (i := 2) nd rfl (Or.inl rfl))
  (pss_cons (ps_if (pt_not (pt_val (pe_cl C_is_table hr rfl (pa_cons (pv 2) (pa_cons pe_int (pa_cons pe_int (pa_cons (pe_gint rfl TX.g_MOST_ROOMS) pa_nil)))))))
  (pss_one (ps_ret pe_bl))
  pss_nil)
  (pss_cons (ps_asg (pv 2) (pg_tup rfl (pgs_cons (pg_name (i := 3) nd rfl (Or.inl rfl)) (pgs_cons (pg_name (i := 4) nd rfl (Or.inl rfl)) (pgs_cons (pg_name (i := 5) nd rfl (Or.inl rfl)) pgs_nil)))))
  (pss_cons (ps_if (PW.pt (pw_or (pt_cmpR op_ge (pv 3) (pv 1) (nomark _)) (pw_or (pt_cmpR op_ge (pv 4) (pv 1) (nomark _)) (pw_or1 (pt_cmpR (op_eqD hu) (pv 3) (pv 4) (nomark _))))))
  (pss_one (ps_ret pe_bl))
  pss_nil)
  (pss_cons (ps_if (pt_not (pt_chain op_le op_le pe_int (pv 5) (pe_gint rfl TX.g_MOST_WIDTH)))
  (pss_one (ps_ret pe_bl))
  pss_nil)
  pss_nil)))))
  (pss_one (ps_ret pe_bl)))), fun ds hds => ?_⟩
  match ds, hds with
  | [x_value, x_rooms], _ =>
    refine bv_pur ?_
    show B _ _ _ (m_are_ducts x_value x_rooms) _
    unfold m_are_ducts
    exact (bn_of (bd_ifx0 (evt_or (evt_not (evt_B (ev_isi2 (ev_val rfl)))) (evt_test (ev_opS opS_gt (ev_clS cS_len (evl_cons (ev_val rfl) evl_nil)) ev_int)))
  (bd_ret ev_bl)
  (bd_seqx (bt_for (md := .f) (Γl := fun (x_b1 : Unit) => [.val x_value, .val x_rooms, .no, .no, .no, .no]) (evi_seq (ev_val rfl)) (.keep (.keep (.skip (.skip (.skip (.skip .nil)))))) (fun x_b1 x_d3 =>
  (bg_name (b_ifx0 (evt_not (evt_B (ev_callO rfl (eva_cons (ev_val rfl) (eva_cons ev_int (eva_cons ev_int (eva_cons ev_int eva_nil)))))))
  (bt_ret' ev_bl)
  (b_unp (md := .f) (ev_val rfl) fun x_t4 =>
  (bg_tup3 fun x_first5 x_second6 x_width7 => (b_ifx0 (evt_or (evt_test (ev_opS opS_ge (ev_val rfl) (ev_val rfl))) (evt_or (evt_test (ev_opS opS_ge (ev_val rfl) (ev_val rfl))) (evt_test (ev_opS opS_eq (ev_val rfl) (ev_val rfl)))))
  (bt_ret' ev_bl)
  (b_ifx0 (evt_not (evt_test (ev_chain opS_le opS_le ev_int (ev_val rfl) ev_int)))
  (bt_ret' ev_bl)
  (bt_end (.keep (.keep (.skip (.skip (.skip (.skip .nil))))))))))))))) fun x_b1 =>
  (bd_ret ev_bl))))

abbrev s_Building_init : Stmt := inClass (top 22) 0
abbrev N_Building_init : List Str := ["self", "rooms", "ducts", "duct"]
theorem sc_Building_init : FnScope N_Building_init ["self", "rooms", "ducts"] (defScope s_Building_init) := ⟨rfl, rfl, rfl, by decide +kernel, rfl, by decide +kernel, by decide +kernel⟩
theorem ok_Building_init {f : Addr} {fd : FuncData} (F : Fun K "__init__" "Building.__init__" s_Building_init f fd) (TX : Txt K mg C) (C_require : Cl P w K mg base 1 "require" ["holds", "name"] (spU ⟨K, C⟩ [.f, .f] (pur (f2 m_require)))) (C_width_table : Cl P w K mg base 1 "width_table" ["rooms", "ducts"] (spU ⟨K, C⟩ [.f, .f] (pur (f2 m_width_table)))) (C_is_between : Cl P w K mg base 2 "is_between" ["value", "least", "most"] (spU ⟨K, C⟩ [.h, .f, .f] (pur (f3 m_is_between)))) (C_are_ducts : Cl P w K mg base 4 "are_ducts" ["value", "rooms"] (spU ⟨K, C⟩ [.f, .f] (pur (f2 m_are_ducts)))) : FnOk P w K mg base CX0 5 f fd ["self", "rooms", "ducts"] (spU ⟨K, C⟩ [.u, .f, .f] (f3 m_Building_init)) := by
  have nd := sc_Building_init.nd
  refine fn_ok (T := ⟨K, C⟩) F sc_Building_init rfl (by decide) (fun cdv A outer s H E hr => ?_)
  have hu := hr.units
  refine ⟨_, (pss_cons (ps_expr (pe_cl C_require hr rfl (pa_cons (pe_cl C_is_between hr rfl (pa_cons (pv 1) (pa_cons pe_int (pa_cons (pe_gint rfl TX.g_MOST_ROOMS) pa_nil)))) (pa_cons pe_str pa_nil))))
  (pss_cons (ps_expr (pe_cl C_require hr rfl (pa_cons (pe_cl C_are_ducts hr rfl (pa_cons (pv 2) (pa_cons (pv 1) pa_nil))) (pa_cons pe_str pa_nil))))
  (pss_cons (ps_fld (pv 0) (pv 1) rfl)
  (pss_cons (ps_fld (pv 0) (pe_callTy call_tuple_of rfl TX.b_tuple b0_tuple (pa_cons (pe_lc (own := [("duct", 3)]) (g := (gName 3)) (tt := tYes) (te := (tCB (rTupOf K) (tCons (tVar 3) tNil))) rfl nd (pi_seqK (pv 2)) (blkOk_by (own := [("duct", 3)]) (N := N_Building_init) (sc := defScope s_Building_init) (by decide +kernel)) (fun _ _ _ _ _ => (pg_name (i := 3) nd rfl (Or.inl rfl))) (fun _ _ _ _ _ => pts_nil) (fun _ _ _ _ _ => (pe_callTy call_tuple_of rfl TX.b_tuple b0_tuple (pa_cons (pv 3) pa_nil)))) pa_nil)) rfl)
  (pss_cons (ps_fld (pv 0) (pe_cl C_width_table hr rfl (pa_cons (pe_fld (pv 0) rfl) (pa_cons (pe_fld (pv 0) rfl) pa_nil))) rfl)
  pss_nil))))), fun ds hds => ?_⟩
  match ds, hds with
  | [x_self, x_rooms, x_ducts], _ =>
    skip
    show B _ _ _ (m_Building_init x_self x_rooms x_ducts) _
    unfold m_Building_init
    exact (b_seq (bp_drop (md := .h) (ev_callO rfl (eva_cons (ev_callO rfl (eva_cons (ev_val rfl) (eva_cons ev_int (eva_cons ev_int eva_nil)))) (eva_cons ev_str eva_nil)))) fun _ =>
  (b_seq (bp_drop (md := .h) (ev_callO rfl (eva_cons (ev_callO rfl (eva_cons (ev_val rfl) (eva_cons (ev_val rfl) eva_nil))) (eva_cons ev_str eva_nil)))) fun _ =>
  (b_seq (bp_fld (i := 0) TX.cl_Building TX.na_Building_rooms rfl rfl (ev_val rfl)) fun x_self1 =>
  (b_seq (bp_fld (i := 0) TX.cl_Building TX.na_Building_ducts rfl rfl (ev_clM cM_tuple (evl_cons (ev_new (evo_comp (md := .f) rfl (tin_name (by decide)) (evi_seq (ev_val rfl)) (fun x_d2 => (bg_name (ce_all (ev_clM cM_tuple (evl_cons (ev_val rfl) evl_nil))))))) evl_nil))) fun x_self3 =>
  (b_seq (bp_fld (i := 0) TX.cl_Building TX.na_Building__widths rfl rfl (ev_callO rfl (eva_cons (ev_fldO TX.cl_Building TX.na_Building_rooms rfl rfl) (eva_cons (ev_fldO TX.cl_Building TX.na_Building_ducts rfl rfl) eva_nil)))) fun x_self4 =>
  bv_end)))))

abbrev s_law_intakes : Stmt := top 70
abbrev N_law_intakes : List Str := ["rooms", "ducts", "air", "found", "k"]
theorem sc_law_intakes : FnScope N_law_intakes ["rooms", "ducts", "air"] (defScope s_law_intakes) := ⟨rfl, rfl, rfl, by decide +kernel, rfl, by decide +kernel, by decide +kernel⟩
theorem ok_law_intakes {f : Addr} {fd : FuncData} (F : Fun K "_law_intakes" "_law_intakes" s_law_intakes f fd) (TX : Txt K mg C) : FnOk P w K mg base CX0 1 f fd ["rooms", "ducts", "air"] (spU ⟨K, C⟩ [.f, .f, .f] (pur (f3 m_law_intakes))) := by
  have nd := sc_law_intakes.nd
  refine fn_ok (T := ⟨K, C⟩) F sc_law_intakes rfl (by decide) (fun cdv A outer s H E hr => ?_)
  have hu := hr.units
  refine ⟨_, (pss_cons (ps_set (i := 3) nd rfl (Or.inl rfl) (pe_op op_mulA (pe_lst (pa_cons pe_int pa_nil)) (pv 0)))
  (pss_cons (ps_for PassesOwn.never rfl (pi_range1 rfl TX.b_range (pa_cons (pe_callB cl_len rfl TX.b_len b0_len (pa_cons (pv 1) pa_nil)) pa_nil)) (pg_name (i := 4) nd rfl (Or.inl rfl))
  (pss_cons (ps_asg (pe_op op_addA (pe_ix (ix_A hu) (pv 3) (pe_ix (ix_A hu) (pe_ix (ix_A hu) (pv 1) (pv 4) (fun _ _ => rfl)) pe_int (fun _ _ => rfl)) (fun _ _ => rfl)) (pe_ix (ix_A hu) (pv 2) (pv 4) (fun _ _ => rfl))) (pg_sub (pv 3) (pe_ix (ix_A hu) (pe_ix (ix_A hu) (pv 1) (pv 4) (fun _ _ => rfl)) pe_int (fun _ _ => rfl)) (set_A hu)))
  (pss_cons (ps_asg (pe_op op_sub (pe_op op_addA (pe_ix (ix_A hu) (pv 3) (pe_ix (ix_A hu) (pe_ix (ix_A hu) (pv 1) (pv 4) (fun _ _ => rfl)) pe_int (fun _ _ => rfl)) (fun _ _ => rfl)) (pe_ix (ix_A hu) (pe_ix (ix_A hu) (pv 1) (pv 4) (fun _ _ => rfl)) pe_int (fun _ _ => rfl))) (pe_ix (ix_A hu) (pv 2) (pv 4) (fun _ _ => rfl))) (pg_sub (pv 3) (pe_ix (ix_A hu) (pe_ix (ix_A hu) (pv 1) (pv 4) (fun _ _ => rfl)) pe_int (fun _ _ => rfl)) (set_A hu)))
  pss_nil)))
  (pss_one (ps_ret (pv 3))))), fun ds hds => ?_⟩
  match ds, hds with
  | [x_rooms, x_ducts, x_air], _ =>
    refine bv_pur ?_
    show B _ _ _ (m_law_intakes x_rooms x_ducts x_air) _
    unfold m_law_intakes
    exact (bn_of (b_seq (bp_setO (i := 3) (evo_mulL (ev_new (evo_lst (evl_cons ev_int evl_nil))) (ev_val rfl))) fun x_found1 =>
  (b_seq (bp_for (md := .f) (Γl := fun (x_b2 : D) => [.val x_rooms, .val x_ducts, .val x_air, .own x_b2, .no]) (evi_range1 (evl_cons (ev_clS cS_len (evl_cons (ev_val rfl) evl_nil)) evl_nil)) (.keep (.keep (.keep (.keep (.skip .nil))))) (fun x_b2 x_d4 =>
  (bg_name (b_seq (bp_put (i := 3) rfl rfl (ev_opM opM_add (ev_ixO rfl rfl (ev_opP opP_ix (ev_opP opP_ix (ev_val rfl) (ev_val rfl)) ev_int)) (ev_opP opP_ix (ev_val rfl) (ev_val rfl))) (ev_opP opP_ix (ev_opP opP_ix (ev_val rfl) (ev_val rfl)) ev_int)) fun x_found5 =>
  (b_seq (bp_put (i := 3) rfl rfl (ev_opS opS_sub (ev_opM opM_add (ev_opP opP_ix (ev_own rfl) (ev_opP opP_ix (ev_opP opP_ix (ev_val rfl) (ev_val rfl)) ev_int)) (ev_opP opP_ix (ev_opP opP_ix (ev_val rfl) (ev_val rfl)) ev_int)) (ev_opP opP_ix (ev_val rfl) (ev_val rfl))) (ev_opP opP_ix (ev_opP opP_ix (ev_val rfl) (ev_val rfl)) ev_int)) fun x_found6 =>
  (bp_end (.keep (.keep (.keep (.keep (.skip .nil))))))))))) fun x_b2 =>
  (b_freeze 3 rfl (bd_ret (ev_val rfl))))))

abbrev s_law_asked : Stmt := top 73
abbrev N_law_asked : List Str := ["script", "rooms", "found", "asked", "draws"]
theorem sc_law_asked : FnScope N_law_asked ["script", "rooms", "found"] (defScope s_law_asked) := ⟨rfl, rfl, rfl, by decide +kernel, rfl, by decide +kernel, by decide +kernel⟩
theorem ok_law_asked {f : Addr} {fd : FuncData} (F : Fun K "_law_asked" "_law_asked" s_law_asked f fd) (TX : Txt K mg C) (C_law_draw : Cl P w K mg base 1 "_law_draw" ["cell", "bounds"] (spU ⟨K, C⟩ [.f, .f] (pur (f2 m_law_draw)))) (C_law_cell : Cl P w K mg base 1 "_law_cell" ["script", "k"] (spU ⟨K, C⟩ [.f, .f] (pur (f2 m_law_cell)))) : FnOk P w K mg base CX0 2 f fd ["script", "rooms", "found"] (spU ⟨K, C⟩ [.f, .f, .f] (pur (f3 m_law_asked))) := by
  have nd := sc_law_asked.nd
  refine fn_ok (T := ⟨K, C⟩) F sc_law_asked rfl (by decide) (fun cdv A outer s H E hr => ?_)
  have hu := hr.units
  refine ⟨_, (pss_cons (ps_set (i := 3) nd rfl (Or.inl rfl) (pe_callTy call_list_of rfl TX.b_list b0_list (pa_cons (pv 2) pa_nil)))
  (pss_cons (ps_set (i := 4) nd rfl (Or.inl rfl) (pe_cl C_law_draw hr rfl (pa_cons (pe_cl C_law_cell hr rfl (pa_cons (pv 0) (pa_cons pe_int pa_nil))) (pa_cons (pe_lst (pa_cons pe_int (pa_cons (pv 1) (pa_cons (pv 1) (pa_cons pe_int pa_nil))))) pa_nil))))
  (pss_cons (ps_if (pt_cmpR (op_eqD hu) (pe_ix (ix_A hu) (pv 4) pe_int (fun _ _ => rfl)) pe_int (nomark _))
  (pss_cons (ps_asg (pe_op op_sub (pe_op op_sub (pe_ix (ix_A hu) (pv 3) (pe_ix (ix_A hu) (pv 4) pe_int (fun _ _ => rfl)) (fun _ _ => rfl)) (pe_ix (ix_A hu) (pv 4) pe_int (fun _ _ => rfl))) pe_int) (pg_sub (pv 3) (pe_ix (ix_A hu) (pv 4) pe_int (fun _ _ => rfl)) (set_A hu)))
  (pss_cons (ps_asg (pe_op op_addA (pe_op op_addA (pe_ix (ix_A hu) (pv 3) (pe_ix (ix_A hu) (pv 4) pe_int (fun _ _ => rfl)) (fun _ _ => rfl)) (pe_ix (ix_A hu) (pv 4) pe_int (fun _ _ => rfl))) pe_int) (pg_sub (pv 3) (pe_ix (ix_A hu) (pv 4) pe_int (fun _ _ => rfl)) (set_A hu)))
  pss_nil))
  pss_nil)
  (pss_one (ps_ret (pv 3)))))), fun ds hds => ?_⟩
  match ds, hds with
  | [x_script, x_rooms, x_found], _ =>
    refine bv_pur ?_
    show B _ _ _ (m_law_asked x_script x_rooms x_found) _
    unfold m_law_asked
    exact (bn_of (b_seq (bp_setO (i := 3) (evo_list (ev_val rfl))) fun x_asked1 =>
  (b_seq (bp_set (i := 4) (ev_callO rfl (eva_cons (ev_callO rfl (eva_cons (ev_val rfl) (eva_cons ev_int eva_nil))) (eva_cons (ev_new (evo_lst (evl_cons ev_int (evl_cons (ev_val rfl) (evl_cons (ev_val rfl) (evl_cons ev_int evl_nil)))))) eva_nil)))) fun x_draws2 =>
  (b_seq (Γ1 := fun (x_j3 : D) => [.val x_script, .val x_rooms, .val x_found, .own x_j3, .val x_draws2]) (b_if (evt_test (ev_opS opS_eq (ev_opP opP_ix (ev_val rfl) ev_int) ev_int))
  (b_seq (bp_put (i := 3) rfl rfl (ev_opS opS_sub (ev_opS opS_sub (ev_opP opP_ix (ev_own rfl) (ev_opP opP_ix (ev_val rfl) ev_int)) (ev_opP opP_ix (ev_val rfl) ev_int)) ev_int) (ev_opP opP_ix (ev_val rfl) ev_int)) fun x_asked4 =>
  (b_seq (bp_put (i := 3) rfl rfl (ev_opM opM_add (ev_opM opM_add (ev_ixO rfl rfl (ev_opP opP_ix (ev_val rfl) ev_int)) (ev_opP opP_ix (ev_val rfl) ev_int)) ev_int) (ev_opP opP_ix (ev_val rfl) ev_int)) fun x_asked5 =>
  (bp_end (.keep (.keep (.keep (.keep (.keep .nil))))))))
  (bp_end (.keep (.keep (.keep (.keep (.keep .nil))))))) fun x_j3 =>
  (b_freeze 3 rfl (bd_ret (ev_val rfl)))))))

abbrev s_require_building : Stmt := top 23
abbrev N_require_building : List Str := ["building"]
theorem sc_require_building : FnScope N_require_building ["building"] (defScope s_require_building) := ⟨rfl, rfl, rfl, by decide +kernel, rfl, by decide +kernel, by decide +kernel⟩
theorem ok_require_building {f : Addr} {fd : FuncData} (F : Fun K "require_building" "require_building" s_require_building f fd) (TX : Txt K mg C) (C_require : Cl P w K mg base 1 "require" ["holds", "name"] (spU ⟨K, C⟩ [.f, .f] (pur (f2 m_require)))) : FnOk P w K mg base CX0 2 f fd ["building"] (spU ⟨K, C⟩ [.f] (pur (f1 m_require_building))) := by
  have nd := sc_require_building.nd
  refine fn_ok (T := ⟨K, C⟩) F sc_require_building rfl (by decide) (fun cdv A outer s H E hr => ?_)
  have hu := hr.units
  refine ⟨_, (pss_cons (ps_expr (pe_cl C_require hr rfl (pa_cons (pe_callB call_isi rfl TX.b_isinstance b0_isinstance (pa_cons (pv 0) (pa_cons (pe_glob (v := .ref (C "Building")) rfl TX.mc_Building rfl) pa_nil))) (pa_cons pe_str pa_nil))))
  pss_nil), fun ds hds => ?_⟩
  match ds, hds with
  | [x_building], _ =>
    refine bv_pur ?_
    show B _ _ _ (m_require_building x_building) _
    unfold m_require_building
    exact (b_seq (bp_drop (md := .h) (ev_callO rfl (eva_cons (ev_isiC (T := ⟨K, C⟩) TX.ii_Building (ev_val rfl)) (eva_cons ev_str eva_nil)))) fun _ =>
  bn_end)

abbrev s_are_bounds : Stmt := top 25
abbrev N_are_bounds : List Str := ["building", "value", "pair"]
theorem sc_are_bounds : FnScope N_are_bounds ["building", "value"] (defScope s_are_bounds) := ⟨rfl, rfl, rfl, by decide +kernel, rfl, by decide +kernel, by decide +kernel⟩
theorem ok_are_bounds {f : Addr} {fd : FuncData} (F : Fun K "are_bounds" "are_bounds" s_are_bounds f fd) (TX : Txt K mg C) (C_is_table : Cl P w K mg base 3 "is_table" ["value", "size", "least", "most"] (spU ⟨K, C⟩ [.h, .f, .f, .f] (pur (f4 m_is_table)))) : FnOk P w K mg base CX0 4 f fd ["building", "value"] (spU ⟨K, C⟩ [.f, .f] (pur (f2 m_are_bounds))) := by
  have nd := sc_are_bounds.nd
  refine fn_ok (T := ⟨K, C⟩) F sc_are_bounds rfl (by decide) (fun cdv A outer s H E hr => ?_)
  have hu := hr.units
  refine ⟨_, (pss_cons (ps_if (PW.pt (pw_or (pt_not (pt_val (pe_callB call_isiT rfl TX.b_isinstance b0_isinstance (pa_cons (pv 1) (pa_cons (pe_tup (pa_cons (pe_bltn (v := .ty "list") rfl TX.b_list b0_list rfl) (pa_cons (pe_bltn (v := .ty "tuple") rfl TX.b_tuple b0_tuple rfl) pa_nil))) pa_nil))))) (pw_or1 (pt_cmpR (op_neD hu) (pe_callB cl_len rfl TX.b_len b0_len (pa_cons (pv 1) pa_nil)) (pe_callB cl_len rfl TX.b_len b0_len (pa_cons (pe_fld (pv 0) rfl) pa_nil)) (nomark _)))))
  (pss_one (ps_ret pe_bl))
  pss_nil)
  (pss_cons (ps_for PassesOwn.never rfl (pi_seqK (pv 1)) (pg_name (i := 2) nd rfl (Or.inl rfl))
  (pss_cons (ps_if (PW.pt (pw_or (pt_not (pt_val (pe_cl C_is_table hr rfl (pa_cons (pv 2) (pa_cons pe_int (pa_cons (pe_un un_neg (pe_gint rfl TX.g_MOST_FLOW)) (pa_cons (pe_gint rfl TX.g_MOST_FLOW) pa_nil))))))) (pw_or1 (pt_cmpR op_gt (pe_ix (ix_A hu) (pv 2) pe_int (fun _ _ => rfl)) (pe_ix (ix_A hu) (pv 2) pe_int (fun _ _ => rfl)) (nomark _)))))
  (pss_one (ps_ret pe_bl))
  pss_nil)
  pss_nil))
  (pss_one (ps_ret pe_bl)))), fun ds hds => ?_⟩
  match ds, hds with
  | [x_building, x_value], _ =>
    refine bv_pur ?_
    show B _ _ _ (m_are_bounds x_building x_value) _
    unfold m_are_bounds
    exact (bn_of (bd_ifx0 (evt_or (evt_not (evt_B (ev_isi2 (ev_val rfl)))) (evt_test (ev_opS opS_ne (ev_clS cS_len (evl_cons (ev_val rfl) evl_nil)) (ev_clS cS_len (evl_cons (ev_fld TX.cl_Building TX.na_Building_ducts (ev_val rfl)) evl_nil)))))
  (bd_ret ev_bl)
  (bd_seqx (bt_for (md := .f) (Γl := fun (x_b1 : Unit) => [.val x_building, .val x_value, .no]) (evi_seq (ev_val rfl)) (.keep (.keep (.skip .nil))) (fun x_b1 x_d3 =>
  (bg_name (b_ifx0 (evt_or (evt_not (evt_B (ev_callO rfl (eva_cons (ev_val rfl) (eva_cons ev_int (eva_cons (ev_neg ev_int) (eva_cons ev_int eva_nil))))))) (evt_test (ev_opS opS_gt (ev_opP opP_ix (ev_val rfl) ev_int) (ev_opP opP_ix (ev_val rfl) ev_int))))
  (bt_ret' ev_bl)
  (bt_end (.keep (.keep (.skip .nil)))))))) fun x_b1 =>
  (bd_ret ev_bl))))

abbrev s_require_bounds_streams : Stmt := top 28
abbrev N_require_bounds_streams : List Str := ["building", "bounds"]
theorem sc_require_bounds_streams : FnScope N_require_bounds_streams ["building", "bounds"] (defScope s_require_bounds_streams) := ⟨rfl, rfl, rfl, by decide +kernel, rfl, by decide +kernel, by decide +kernel⟩
theorem ok_require_bounds_streams {f : Addr} {fd : FuncData} (F : Fun K "require_bounds" "require_bounds" s_require_bounds_streams f fd) (TX : Txt K mg C) (C_require : Cl P w K mg base 1 "require" ["holds", "name"] (spU ⟨K, C⟩ [.f, .f] (pur (f2 m_require)))) (C_are_bounds : Cl P w K mg base 4 "are_bounds" ["building", "value"] (spU ⟨K, C⟩ [.f, .f] (pur (f2 m_are_bounds)))) : FnOk P w K mg base CX0 5 f fd ["building", "bounds"] (spU ⟨K, C⟩ [.f, .f] (pur (f2 m_require_bounds_streams))) := by
  have nd := sc_require_bounds_streams.nd
  refine fn_ok (T := ⟨K, C⟩) F sc_require_bounds_streams rfl (by decide) (fun cdv A outer s H E hr => ?_)
  have hu := hr.units
  refine ⟨_, (pss_cons (ps_expr (pe_cl C_require hr rfl (pa_cons (pe_cl C_are_bounds hr rfl (pa_cons (pv 0) (pa_cons (pv 1) pa_nil))) (pa_cons pe_str pa_nil))))
  pss_nil), fun ds hds => ?_⟩
  match ds, hds with
  | [x_building, x_bounds], _ =>
    refine bv_pur ?_
    show B _ _ _ (m_require_bounds_streams x_building x_bounds) _
    unfold m_require_bounds_streams
    exact (b_seq (bp_drop (md := .h) (ev_callO rfl (eva_cons (ev_callO rfl (eva_cons (ev_val rfl) (eva_cons (ev_val rfl) eva_nil))) (eva_cons ev_str eva_nil)))) fun _ =>
  bn_end)

abbrev s_require_needs : Stmt := top 30
abbrev N_require_needs : List Str := ["building", "needs"]
theorem sc_require_needs : FnScope N_require_needs ["building", "needs"] (defScope s_require_needs) := ⟨rfl, rfl, rfl, by decide +kernel, rfl, by decide +kernel, by decide +kernel⟩
theorem ok_require_needs {f : Addr} {fd : FuncData} (F : Fun K "require_needs" "require_needs" s_require_needs f fd) (TX : Txt K mg C) (C_require : Cl P w K mg base 1 "require" ["holds", "name"] (spU ⟨K, C⟩ [.f, .f] (pur (f2 m_require)))) (C_is_table : Cl P w K mg base 3 "is_table" ["value", "size", "least", "most"] (spU ⟨K, C⟩ [.h, .f, .f, .f] (pur (f4 m_is_table)))) : FnOk P w K mg base CX0 4 f fd ["building", "needs"] (spU ⟨K, C⟩ [.f, .h] (pur (f2 m_require_needs))) := by
  have nd := sc_require_needs.nd
  refine fn_ok (T := ⟨K, C⟩) F sc_require_needs rfl (by decide) (fun cdv A outer s H E hr => ?_)
  have hu := hr.units
  refine ⟨_, (pss_cons (ps_expr (pe_cl C_require hr rfl (pa_cons (pe_cl C_is_table hr rfl (pa_cons (pv 1) (pa_cons (pe_fld (pv 0) rfl) (pa_cons (pe_un un_neg (pe_gint rfl TX.g_MOST_UNITS)) (pa_cons (pe_gint rfl TX.g_MOST_UNITS) pa_nil))))) (pa_cons pe_str pa_nil))))
  pss_nil), fun ds hds => ?_⟩
  match ds, hds with
  | [x_building, x_needs], _ =>
    refine bv_pur ?_
    show B _ _ _ (m_require_needs x_building x_needs) _
    unfold m_require_needs
    exact (b_seq (bp_drop (md := .h) (ev_callO rfl (eva_cons (ev_callO rfl (eva_cons (ev_bor rfl) (eva_cons (ev_fld TX.cl_Building TX.na_Building_rooms (ev_val rfl)) (eva_cons (ev_neg ev_int) (eva_cons ev_int eva_nil))))) (eva_cons ev_str eva_nil)))) fun _ =>
  bn_end)

abbrev s_is_paper : Stmt := top 18
abbrev N_is_paper : List Str := ["value", "kind", "size"]
theorem sc_is_paper : FnScope N_is_paper ["value", "kind", "size"] (defScope s_is_paper) := ⟨rfl, rfl, rfl, by decide +kernel, rfl, by decide +kernel, by decide +kernel⟩
theorem ok_is_paper {f : Addr} {fd : FuncData} (F : Fun K "is_paper" "is_paper" s_is_paper f fd) (TX : Txt K mg C) : FnOk P w K mg base CX0 1 f fd ["value", "kind", "size"] (spU ⟨K, C⟩ [.h, .f, .f] (pur (f3 m_is_paper))) := by
  have nd := sc_is_paper.nd
  refine fn_ok (T := ⟨K, C⟩) F sc_is_paper rfl (by decide) (fun cdv A outer s H E hr => ?_)
  have hu := hr.units
  refine ⟨_, (pss_cons (ps_if (PW.pt (pw_or (pt_not (pt_val (pe_callB call_isi rfl TX.b_isinstance b0_isinstance (pa_cons (pv 0) (pa_cons (pe_bltn (v := .ty "tuple") rfl TX.b_tuple b0_tuple rfl) pa_nil))))) (pw_or1 (pt_cmpR (op_neD hu) (pe_callB cl_len rfl TX.b_len b0_len (pa_cons (pv 0) pa_nil)) (pv 2) (nomark _)))))
  (pss_one (ps_ret pe_bl))
  pss_nil)
  (pss_one (ps_ret (pe_and (pe_callB call_isi rfl TX.b_isinstance b0_isinstance (pa_cons (pe_ix (ix_A hu) (pv 0) pe_int (fun _ _ => rfl)) (pa_cons (pe_bltn (v := .ty "str") rfl TX.b_str b0_str rfl) pa_nil))) (pe_one (pe_cmpR (op_eqD hu) (pe_ix (ix_A hu) (pv 0) pe_int (fun _ _ => rfl)) (pv 1) (nomark _))))))), fun ds hds => ?_⟩
  match ds, hds with
  | [x_value, x_kind, x_size], _ =>
    refine bv_pur ?_
    show B _ _ _ (m_is_paper x_value x_kind x_size) _
    unfold m_is_paper
    exact (bn_of (bd_ifx0 (evt_or (evt_not (evt_B (ev_isi (ev_bor rfl)))) (evt_test (ev_opS opS_ne (ev_clS cS_len (evl_cons (ev_bor rfl) evl_nil)) (ev_val rfl))))
  (bd_ret ev_bl)
  (bd_ret (ev_andV (ev_isi (ev_opP opP_ix (ev_bor rfl) ev_int)) (ev_opS opS_eq (ev_opP opP_ix (ev_bor rfl) ev_int) (ev_val rfl))))))

abbrev s_range_of_gain : Stmt := top 38
abbrev N_range_of_gain : List Str := ["building", "bounds", "rooms", "least", "most", "first", "second", "width", "low", "high"]
theorem sc_range_of_gain : FnScope N_range_of_gain ["building", "bounds", "rooms"] (defScope s_range_of_gain) := ⟨rfl, rfl, rfl, by decide +kernel, rfl, by decide +kernel, by decide +kernel⟩
theorem ok_range_of_gain {f : Addr} {fd : FuncData} (F : Fun K "range_of_gain" "range_of_gain" s_range_of_gain f fd) (TX : Txt K mg C) : FnOk P w K mg base CX0 1 f fd ["building", "bounds", "rooms"] (spU ⟨K, C⟩ [.f, .f, .f] (pur (f3 m_range_of_gain))) := by
  have nd := sc_range_of_gain.nd
  refine fn_ok (T := ⟨K, C⟩) F sc_range_of_gain rfl (by decide) (fun cdv A outer s H E hr => ?_)
  have hu := hr.units
  refine ⟨_, (pss_cons (ps_set (i := 3) nd rfl (Or.inl rfl) pe_int)
  (pss_cons (ps_set (i := 4) nd rfl (Or.inl rfl) pe_int)
  (pss_cons (ps_for PassesOwn.never rfl (pi_zipK rfl TX.b_zip (pa_cons (pe_fld (pv 0) rfl) (pa_cons (pv 1) pa_nil))) (pg_tup rfl (pgs_cons (pg_tup rfl (pgs_cons (pg_name (i := 5) nd rfl (Or.inl rfl)) (pgs_cons (pg_name (i := 6) nd rfl (Or.inl rfl)) (pgs_cons (pg_name (i := 7) nd rfl (Or.inl rfl)) pgs_nil)))) (pgs_cons (pg_tup rfl (pgs_cons (pg_name (i := 8) nd rfl (Or.inl rfl)) (pgs_cons (pg_name (i := 9) nd rfl (Or.inl rfl)) pgs_nil))) pgs_nil)))
  (pss_cons (ps_if (PW.pt (pw_and (pt_cmpR (op_inA hu) (pv 6) (pv 2) (by rfl)) (pw_and1 (pt_cmpR (op_notInA hu) (pv 5) (pv 2) (by rfl)))))
  (pss_cons (ps_aug (i := 3) nd rfl (Or.inl rfl) (pv 8) ip_add)
  (pss_cons (ps_aug (i := 4) nd rfl (Or.inl rfl) (pv 9) ip_add)
  pss_nil))
  (pss_cons (ps_if (PW.pt (pw_and (pt_cmpR (op_inA hu) (pv 5) (pv 2) (by rfl)) (pw_and1 (pt_cmpR (op_notInA hu) (pv 6) (pv 2) (by rfl)))))
  (pss_cons (ps_aug (i := 3) nd rfl (Or.inl rfl) (pv 9) ip_sub)
  (pss_cons (ps_aug (i := 4) nd rfl (Or.inl rfl) (pv 8) ip_sub)
  pss_nil))
  pss_nil)
  pss_nil))
  pss_nil))
  (pss_one (ps_ret (pe_tup (pa_cons (pv 3) (pa_cons (pv 4) pa_nil)))))))), fun ds hds => ?_⟩
  match ds, hds with
  | [x_building, x_bounds, x_rooms], _ =>
    refine bv_pur ?_
    show B _ _ _ (m_range_of_gain x_building x_bounds x_rooms) _
    unfold m_range_of_gain
    exact (bn_of (b_seq (bp_set (i := 3) ev_int) fun x_least1 =>
  (b_seq (bp_set (i := 4) ev_int) fun x_most2 =>
  (b_seq (bp_for2 (ma := .f) (mb := .f) (Γl := fun (x_b3 : D × D) => [.val x_building, .val x_bounds, .val x_rooms, .val x_b3.1, .val x_b3.2, .no, .no, .no, .no, .no]) (evi_zip (ev_fld TX.cl_Building TX.na_Building_ducts (ev_val rfl)) (ev_val rfl)) (.keep (.keep (.keep (.keep (.keep (.skip (.skip (.skip (.skip (.skip .nil)))))))))) (fun x_b3 x_d11 x_e12 =>
  (bg2_32 fun x_first13 x_second14 x_width15 x_low16 x_high17 => (b_seq (Γ1 := fun (x_j18 : D × D) => [.val x_building, .val x_bounds, .val x_rooms, .val x_j18.1, .val x_j18.2, .val x_first13, .val x_second14, .val x_width15, .val x_low16, .val x_high17]) (b_if (evt_and (evt_test (ev_opS opS_in (ev_val rfl) (ev_val rfl))) (evt_test (ev_opS opS_notIn (ev_val rfl) (ev_val rfl))))
  (b_seq (bp_augAdd (i := 3) (ev_val rfl) (ev_val rfl)) fun x_least19 =>
  (b_seq (bp_augAdd (i := 4) (ev_val rfl) (ev_val rfl)) fun x_most20 =>
  (bp_end (.keep (.keep (.keep (.keep (.keep (.keep (.keep (.keep (.keep (.keep .nil)))))))))))))
  (b_seq (Γ1 := fun (x_j21 : D × D) => [.val x_building, .val x_bounds, .val x_rooms, .val x_j21.1, .val x_j21.2, .val x_first13, .val x_second14, .val x_width15, .val x_low16, .val x_high17]) (b_if (evt_and (evt_test (ev_opS opS_in (ev_val rfl) (ev_val rfl))) (evt_test (ev_opS opS_notIn (ev_val rfl) (ev_val rfl))))
  (b_seq (bp_augSub (i := 3) (ev_val rfl) (ev_val rfl)) fun x_least22 =>
  (b_seq (bp_augSub (i := 4) (ev_val rfl) (ev_val rfl)) fun x_most23 =>
  (bp_end (.keep (.keep (.keep (.keep (.keep (.keep (.keep (.keep (.keep (.keep .nil)))))))))))))
  (bp_end (.keep (.keep (.keep (.keep (.keep (.keep (.keep (.keep (.keep (.keep .nil)))))))))))) fun x_j21 =>
  (bp_end (.keep (.keep (.keep (.keep (.keep (.keep (.keep (.keep (.keep (.keep .nil))))))))))))) fun x_j18 =>
  (bp_end (.keep (.keep (.keep (.keep (.keep (.skip (.skip (.skip (.skip (.skip .nil))))))))))))))) fun x_b3 =>
  (bd_ret (ev_tup (evl_cons (ev_val rfl) (evl_cons (ev_val rfl) evl_nil))))))))

abbrev s_are_places : Stmt := top 15
abbrev N_are_places : List Str := ["value", "count", "seen", "entry"]
theorem sc_are_places : FnScope N_are_places ["value", "count"] (defScope s_are_places) := ⟨rfl, rfl, rfl, by decide +kernel, rfl, by decide +kernel, by decide +kernel⟩
theorem ok_are_places {f : Addr} {fd : FuncData} (F : Fun K "are_places" "are_places" s_are_places f fd) (TX : Txt K mg C) (C_is_between : Cl P w K mg base 2 "is_between" ["value", "least", "most"] (spU ⟨K, C⟩ [.h, .f, .f] (pur (f3 m_is_between)))) : FnOk P w K mg base CX0 3 f fd ["value", "count"] (spU ⟨K, C⟩ [.f, .f] (pur (f2 m_are_places))) := by
  have nd := sc_are_places.nd
  refine fn_ok (T := ⟨K, C⟩) F sc_are_places rfl (by decide) (fun cdv A outer s H E hr => ?_)
  have hu := hr.units
  refine ⟨_, (pss_cons (ps_if (pt_not (pt_val (pe_callB call_isiT rfl TX.b_isinstance b0_isinstance (pa_cons (pv 0) (pa_cons (pe_tup (pa_cons (pe_bltn (v := .ty "list") rfl TX.b_list b0_list rfl) (pa_cons (pe_bltn (v := .ty "tuple") rfl TX.b_tuple b0_tuple rfl) pa_nil))) pa_nil)))))
  (pss_one (ps_ret pe_bl))
  pss_nil)
  (pss_cons (ps_set (i := 2) nd rfl (Or.inl rfl) pe_dnewK)
  (pss_cons (ps_for PassesOwn.never rfl (pi_seqK (pv 0)) (pg_name (i := 3) nd rfl (Or.inl rfl))
  (pss_cons (ps_if (PW.pt (pw_or (pt_not (pt_val (pe_cl C_is_between hr rfl (pa_cons (pv 3) (pa_cons pe_int (pa_cons (pe_op op_sub (pv 1) pe_int) pa_nil)))))) (pw_or1 (pt_cmpR (op_inA hu) (pv 3) (pv 2) (by rfl)))))
  (pss_one (ps_ret pe_bl))
  pss_nil)
  (pss_cons (ps_asg pe_bl (pg_sub (pv 2) (pv 3) (set_A hu)))
  pss_nil)))
  (pss_one (ps_ret pe_bl))))), fun ds hds => ?_⟩
  match ds, hds with
  | [x_value, x_count], _ =>
    refine bv_pur ?_
    show B _ _ _ (m_are_places x_value x_count) _
    unfold m_are_places
    exact (bn_of (bd_ifx0 (evt_not (evt_B (ev_isi2 (ev_val rfl))))
  (bd_ret ev_bl)
  (b_seq (bp_setO (i := 2) evo_dict) fun x_seen1 =>
  (bd_seqx (bt_for (md := .f) (Γl := fun (x_b2 : D) => [.val x_value, .val x_count, .own x_b2, .no]) (evi_seq (ev_val rfl)) (.keep (.keep (.keep (.skip .nil)))) (fun x_b2 x_d4 =>
  (bg_name (b_ifx0 (evt_or (evt_not (evt_B (ev_callO rfl (eva_cons (ev_val rfl) (eva_cons ev_int (eva_cons (ev_opS opS_sub (ev_val rfl) ev_int) eva_nil)))))) (evt_test (ev_opS opS_in (ev_val rfl) (ev_own rfl))))
  (bt_ret' ev_bl)
  (b_seq (bp_put (i := 2) rfl rfl ev_bl (ev_val rfl)) fun x_seen5 =>
  (bt_end (.keep (.keep (.keep (.skip .nil)))))))))) fun x_b2 =>
  (bd_ret ev_bl)))))

abbrev s_is_place_set : Stmt := top 16
abbrev N_is_place_set : List Str := ["value", "count"]
theorem sc_is_place_set : FnScope N_is_place_set ["value", "count"] (defScope s_is_place_set) := ⟨rfl, rfl, rfl, by decide +kernel, rfl, by decide +kernel, by decide +kernel⟩
theorem ok_is_place_set {f : Addr} {fd : FuncData} (F : Fun K "is_place_set" "is_place_set" s_is_place_set f fd) (TX : Txt K mg C) (C_are_places : Cl P w K mg base 3 "are_places" ["value", "count"] (spU ⟨K, C⟩ [.f, .f] (pur (f2 m_are_places)))) : FnOk P w K mg base CX0 4 f fd ["value", "count"] (spU ⟨K, C⟩ [.f, .f] (pur (f2 m_is_place_set))) := by
  have nd := sc_is_place_set.nd
  refine fn_ok (T := ⟨K, C⟩) F sc_is_place_set rfl (by decide) (fun cdv A outer s H E hr => ?_)
  have hu := hr.units
  refine ⟨_, (pss_one (ps_ret (pe_and (pe_callB call_isi rfl TX.b_isinstance b0_isinstance (pa_cons (pv 0) (pa_cons (pe_bltn (v := .ty "tuple") rfl TX.b_tuple b0_tuple rfl) pa_nil))) (pe_and (pe_cl C_are_places hr rfl (pa_cons (pv 0) (pa_cons (pv 1) pa_nil))) (pe_one (pe_cmpR (op_eqD hu) (pe_callTy call_list_of rfl TX.b_list b0_list (pa_cons (pv 0) pa_nil)) (pe_callB (cl_sorted rfl) rfl TX.b_sorted b0_sorted (pa_cons (pv 0) pa_nil)) (nomark _))))))), fun ds hds => ?_⟩
  match ds, hds with
  | [x_value, x_count], _ =>
    refine bv_pur ?_
    show B _ _ _ (m_is_place_set x_value x_count) _
    unfold m_is_place_set
    exact (bn_of (bd_ret (ev_andV (ev_isi (ev_val rfl)) (ev_andV (ev_callO rfl (eva_cons (ev_val rfl) (eva_cons (ev_val rfl) eva_nil))) (ev_opS opS_eq (ev_new (evo_list (ev_val rfl))) (ev_new (evo_clN cN_sorted (evl_cons (ev_val rfl) evl_nil))))))))

abbrev s_is_room_set : Stmt := top 17
abbrev N_is_room_set : List Str := ["value", "rooms"]
theorem sc_is_room_set : FnScope N_is_room_set ["value", "rooms"] (defScope s_is_room_set) := ⟨rfl, rfl, rfl, by decide +kernel, rfl, by decide +kernel, by decide +kernel⟩
theorem ok_is_room_set {f : Addr} {fd : FuncData} (F : Fun K "is_room_set" "is_room_set" s_is_room_set f fd) (TX : Txt K mg C) (C_is_place_set : Cl P w K mg base 4 "is_place_set" ["value", "count"] (spU ⟨K, C⟩ [.f, .f] (pur (f2 m_is_place_set)))) : FnOk P w K mg base CX0 5 f fd ["value", "rooms"] (spU ⟨K, C⟩ [.f, .f] (pur (f2 m_is_room_set))) := by
  have nd := sc_is_room_set.nd
  refine fn_ok (T := ⟨K, C⟩) F sc_is_room_set rfl (by decide) (fun cdv A outer s H E hr => ?_)
  have hu := hr.units
  refine ⟨_, (pss_one (ps_ret (pe_and (pe_cl C_is_place_set hr rfl (pa_cons (pv 0) (pa_cons (pv 1) pa_nil))) (pe_one (pe_cmpR op_gt (pe_callB cl_len rfl TX.b_len b0_len (pa_cons (pv 0) pa_nil)) pe_int (nomark _)))))), fun ds hds => ?_⟩
  match ds, hds with
  | [x_value, x_rooms], _ =>
    refine bv_pur ?_
    show B _ _ _ (m_is_room_set x_value x_rooms) _
    unfold m_is_room_set
    exact (bn_of (bd_ret (ev_andV (ev_callO rfl (eva_cons (ev_val rfl) (eva_cons (ev_val rfl) eva_nil))) (ev_opS opS_gt (ev_clS cS_len (evl_cons (ev_val rfl) evl_nil)) ev_int))))

abbrev s_is_refused_set : Stmt := top 39
abbrev N_is_refused_set : List Str := ["building", "bounds", "needs", "paper", "least", "most", "needed", "room"]
theorem sc_is_refused_set : FnScope N_is_refused_set ["building", "bounds", "needs", "paper"] (defScope s_is_refused_set) := ⟨rfl, rfl, rfl, by decide +kernel, rfl, by decide +kernel, by decide +kernel⟩
theorem ok_is_refused_set {f : Addr} {fd : FuncData} (F : Fun K "is_refused_set" "is_refused_set" s_is_refused_set f fd) (TX : Txt K mg C) (C_is_paper : Cl P w K mg base 1 "is_paper" ["value", "kind", "size"] (spU ⟨K, C⟩ [.h, .f, .f] (pur (f3 m_is_paper)))) (C_range_of_gain : Cl P w K mg base 1 "range_of_gain" ["building", "bounds", "rooms"] (spU ⟨K, C⟩ [.f, .f, .f] (pur (f3 m_range_of_gain)))) (C_is_room_set : Cl P w K mg base 5 "is_room_set" ["value", "rooms"] (spU ⟨K, C⟩ [.f, .f] (pur (f2 m_is_room_set)))) : FnOk P w K mg base CX0 6 f fd ["building", "bounds", "needs", "paper"] (spU ⟨K, C⟩ [.f, .f, .h, .f] (pur (f4 m_is_refused_set))) := by
  have nd := sc_is_refused_set.nd
  refine fn_ok (T := ⟨K, C⟩) F sc_is_refused_set rfl (by decide) (fun cdv A outer s H E hr => ?_)
  have hu := hr.units
  refine ⟨_, (pss_cons (ps_if (PW.pt (pw_and (pt_not (pt_val (pe_cl C_is_paper hr rfl (pa_cons (pv 3) (pa_cons pe_str (pa_cons pe_int pa_nil)))))) (pw_and1 (pt_not (pt_val (pe_cl C_is_paper hr rfl (pa_cons (pv 3) (pa_cons pe_str (pa_cons pe_int pa_nil)))))))))
  (pss_one (ps_ret pe_bl))
  pss_nil)
  (pss_cons (ps_if (pt_not (pt_val (pe_cl C_is_room_set hr rfl (pa_cons (pe_ix (ix_A hu) (pv 3) pe_int (fun _ _ => rfl)) (pa_cons (pe_fld (pv 0) rfl) pa_nil)))))
  (pss_one (ps_ret pe_bl))
  pss_nil)
  (pss_cons (ps_asg (pe_cl C_range_of_gain hr rfl (pa_cons (pv 0) (pa_cons (pv 1) (pa_cons (pe_ix (ix_A hu) (pv 3) pe_int (fun _ _ => rfl)) pa_nil)))) (pg_tup rfl (pgs_cons (pg_name (i := 4) nd rfl (Or.inl rfl)) (pgs_cons (pg_name (i := 5) nd rfl (Or.inl rfl)) pgs_nil))))
  (pss_cons (ps_set (i := 6) nd rfl (Or.inl rfl) (pe_callB (cl_sum rfl) rfl TX.b_sum b0_sum (pa_cons (pe_lc (own := [("room", 7)]) (g := (gName 7)) (tt := tYes) (te := (tOp (rIxA K) (tVar 2) (tVar 7))) rfl nd (pi_seqK (pe_ix (ix_A hu) (pv 3) pe_int (fun _ _ => rfl))) (blkOk_by (own := [("room", 7)]) (N := N_is_refused_set) (sc := defScope s_is_refused_set) (by decide +kernel)) (fun _ _ _ _ _ => (pg_name (i := 7) nd rfl (Or.inl rfl))) (fun _ _ _ _ _ => pts_nil) (fun _ _ _ _ _ => (pe_ix (ix_A hu) (pv 2) (pv 7) (fun _ _ => rfl)))) pa_nil)))
  (pss_cons (ps_if (pt_cmpR (op_eqD hu) (pe_ix (ix_A hu) (pv 3) pe_int (fun _ _ => rfl)) pe_str (nomark _))
  (pss_one (ps_ret (pe_cmpR op_gt (pv 6) (pv 5) (nomark _))))
  pss_nil)
  (pss_one (ps_ret (pe_cmpR op_lt (pv 6) (pv 4) (nomark _))))))))), fun ds hds => ?_⟩
  match ds, hds with
  | [x_building, x_bounds, x_needs, x_paper], _ =>
    refine bv_pur ?_
    show B _ _ _ (m_is_refused_set x_building x_bounds x_needs x_paper) _
    unfold m_is_refused_set
    exact (bn_of (bd_ifx0 (evt_and (evt_not (evt_B (ev_callO rfl (eva_cons (ev_val rfl) (eva_cons ev_str (eva_cons ev_int eva_nil)))))) (evt_not (evt_B (ev_callO rfl (eva_cons (ev_val rfl) (eva_cons ev_str (eva_cons ev_int eva_nil)))))))
  (bd_ret ev_bl)
  (bd_ifx0 (evt_not (evt_B (ev_callO rfl (eva_cons (ev_opP opP_ix (ev_val rfl) ev_int) (eva_cons (ev_fld TX.cl_Building TX.na_Building_rooms (ev_val rfl)) eva_nil)))))
  (bd_ret ev_bl)
  (b_unp (md := .f) (ev_callO rfl (eva_cons (ev_val rfl) (eva_cons (ev_val rfl) (eva_cons (ev_opP opP_ix (ev_val rfl) ev_int) eva_nil)))) fun x_t1 =>
  (bg_tup2 fun x_least2 x_most3 => (b_seq (bp_set (i := 6) (ev_clS cS_sum (evl_cons (ev_new (evo_comp (md := .f) rfl (tin_name (by decide)) (evi_seq (ev_opP opP_ix (ev_val rfl) ev_int)) (fun x_d5 => (bg_name (ce_all (ev_chk (ev_opP opP_ix (ev_bor rfl) (ev_val rfl)))))))) evl_nil))) fun x_needed4 =>
  (bd_ifx0 (evt_test (ev_opS opS_eq (ev_opP opP_ix (ev_val rfl) ev_int) ev_str))
  (bd_ret (ev_opS opS_gt (ev_val rfl) (ev_val rfl)))
  (bd_ret (ev_opS opS_lt (ev_val rfl) (ev_val rfl))))))))))

abbrev s_gain_list : Stmt := top 27
abbrev N_gain_list : List Str := ["building", "stream", "found", "first", "second", "width", "number"]
theorem sc_gain_list : FnScope N_gain_list ["building", "stream"] (defScope s_gain_list) := ⟨rfl, rfl, rfl, by decide +kernel, rfl, by decide +kernel, by decide +kernel⟩
theorem ok_gain_list {f : Addr} {fd : FuncData} (F : Fun K "gain_list" "gain_list" s_gain_list f fd) (TX : Txt K mg C) : FnOk P w K mg base CX0 1 f fd ["building", "stream"] (spU ⟨K, C⟩ [.f, .h] (pur (f2 m_gain_list))) := by
  have nd := sc_gain_list.nd
  refine fn_ok (T := ⟨K, C⟩) F sc_gain_list rfl (by decide) (fun cdv A outer s H E hr => ?_)
  have hu := hr.units
  refine ⟨_, (pss_cons (ps_set (i := 2) nd rfl (Or.inl rfl) (pe_op op_mulA (pe_lst (pa_cons pe_int pa_nil)) (pe_fld (pv 0) rfl)))
  (pss_cons (ps_for PassesOwn.never rfl (pi_zipK rfl TX.b_zip (pa_cons (pe_fld (pv 0) rfl) (pa_cons (pv 1) pa_nil))) (pg_tup rfl (pgs_cons (pg_tup rfl (pgs_cons (pg_name (i := 3) nd rfl (Or.inl rfl)) (pgs_cons (pg_name (i := 4) nd rfl (Or.inl rfl)) (pgs_cons (pg_name (i := 5) nd rfl (Or.inl rfl)) pgs_nil)))) (pgs_cons (pg_name (i := 6) nd rfl (Or.inl rfl)) pgs_nil)))
  (pss_cons (ps_augS (pv 2) (pv 3) (get_A hu) (pv 6) ip_sub (set_A hu))
  (pss_cons (ps_augS (pv 2) (pv 4) (get_A hu) (pv 6) ip_add (set_A hu))
  pss_nil)))
  (pss_one (ps_ret (pv 2))))), fun ds hds => ?_⟩
  match ds, hds with
  | [x_building, x_stream], _ =>
    refine bv_pur ?_
    show B _ _ _ (m_gain_list x_building x_stream) _
    unfold m_gain_list
    exact (bn_of (b_seq (bp_setO (i := 2) (evo_mulL (ev_new (evo_lst (evl_cons ev_int evl_nil))) (ev_fld TX.cl_Building TX.na_Building_rooms (ev_val rfl)))) fun x_found1 =>
  (b_seq (bp_for2 (ma := .f) (mb := .b) (Γl := fun (x_b2 : D) => [.val x_building, .bor x_stream, .own x_b2, .no, .no, .no, .no]) (evi_zip (ev_fld TX.cl_Building TX.na_Building_ducts (ev_val rfl)) (ev_borB rfl)) (.keep (.keep (.keep (.skip (.skip (.skip (.skip .nil))))))) (fun x_b2 x_d8 x_e9 =>
  (bg2_3n fun x_first10 x_second11 x_width12 => (b_seq (bp_augIt (i := 2) (f := fun i j => i - j) (h := dSub) hh_sub rfl rfl (ev_val rfl) (ev_bor rfl)) fun x_found13 =>
  (b_seq (bp_augIt (i := 2) (f := fun i j => i + j) (h := dAddI) hh_add rfl rfl (ev_val rfl) (ev_bor rfl)) fun x_found14 =>
  (bp_end (.keep (.keep (.keep (.skip (.skip (.skip (.skip .nil))))))))))))) fun x_b2 =>
  (b_freeze 2 rfl (bd_ret (ev_val rfl))))))

abbrev s_fits_bounds : Stmt := top 26
abbrev N_fits_bounds : List Str := ["bounds", "value", "least", "most", "number"]
theorem sc_fits_bounds : FnScope N_fits_bounds ["bounds", "value"] (defScope s_fits_bounds) := ⟨rfl, rfl, rfl, by decide +kernel, rfl, by decide +kernel, by decide +kernel⟩
theorem ok_fits_bounds {f : Addr} {fd : FuncData} (F : Fun K "fits_bounds" "fits_bounds" s_fits_bounds f fd) (TX : Txt K mg C) (C_is_integer : Cl P w K mg base 1 "is_integer" ["value"] (spU ⟨K, C⟩ [.h] (pur (f1 m_is_integer)))) : FnOk P w K mg base CX0 2 f fd ["bounds", "value"] (spU ⟨K, C⟩ [.f, .f] (pur (f2 m_fits_bounds))) := by
  have nd := sc_fits_bounds.nd
  refine fn_ok (T := ⟨K, C⟩) F sc_fits_bounds rfl (by decide) (fun cdv A outer s H E hr => ?_)
  have hu := hr.units
  refine ⟨_, (pss_cons (ps_if (PW.pt (pw_or (pt_not (pt_val (pe_callB call_isiT rfl TX.b_isinstance b0_isinstance (pa_cons (pv 1) (pa_cons (pe_tup (pa_cons (pe_bltn (v := .ty "list") rfl TX.b_list b0_list rfl) (pa_cons (pe_bltn (v := .ty "tuple") rfl TX.b_tuple b0_tuple rfl) pa_nil))) pa_nil))))) (pw_or1 (pt_cmpR (op_neD hu) (pe_callB cl_len rfl TX.b_len b0_len (pa_cons (pv 1) pa_nil)) (pe_callB cl_len rfl TX.b_len b0_len (pa_cons (pv 0) pa_nil)) (nomark _)))))
  (pss_one (ps_ret pe_bl))
  pss_nil)
  (pss_cons (ps_for PassesOwn.never rfl (pi_zipK rfl TX.b_zip (pa_cons (pv 0) (pa_cons (pv 1) pa_nil))) (pg_tup rfl (pgs_cons (pg_tup rfl (pgs_cons (pg_name (i := 2) nd rfl (Or.inl rfl)) (pgs_cons (pg_name (i := 3) nd rfl (Or.inl rfl)) pgs_nil))) (pgs_cons (pg_name (i := 4) nd rfl (Or.inl rfl)) pgs_nil)))
  (pss_cons (ps_if (PW.pt (pw_or (pt_not (pt_val (pe_cl C_is_integer hr rfl (pa_cons (pv 4) pa_nil)))) (pw_or (pt_cmpR op_lt (pv 4) (pv 2) (nomark _)) (pw_or1 (pt_cmpR op_gt (pv 4) (pv 3) (nomark _))))))
  (pss_one (ps_ret pe_bl))
  pss_nil)
  pss_nil))
  (pss_one (ps_ret pe_bl)))), fun ds hds => ?_⟩
  match ds, hds with
  | [x_bounds, x_value], _ =>
    refine bv_pur ?_
    show B _ _ _ (m_fits_bounds x_bounds x_value) _
    unfold m_fits_bounds
    exact (bn_of (bd_ifx0 (evt_or (evt_not (evt_B (ev_isi2 (ev_val rfl)))) (evt_test (ev_opS opS_ne (ev_clS cS_len (evl_cons (ev_val rfl) evl_nil)) (ev_clS cS_len (evl_cons (ev_val rfl) evl_nil)))))
  (bd_ret ev_bl)
  (bd_seqx (bt_for2 (ma := .f) (mb := .f) (Γl := fun (x_b1 : Unit) => [.val x_bounds, .val x_value, .no, .no, .no]) (evi_zip (ev_val rfl) (ev_val rfl)) (.keep (.keep (.skip (.skip (.skip .nil))))) (fun x_b1 x_d6 x_e7 =>
  (bg2_2n fun x_least8 x_most9 => (b_ifx0 (evt_or (evt_not (evt_B (ev_callO rfl (eva_cons (ev_val rfl) eva_nil)))) (evt_or (evt_test (ev_opS opS_lt (ev_val rfl) (ev_val rfl))) (evt_test (ev_opS opS_gt (ev_val rfl) (ev_val rfl)))))
  (bt_ret' ev_bl)
  (bt_end (.keep (.keep (.skip (.skip (.skip .nil)))))))))) fun x_b1 =>
  (bd_ret ev_bl))))

abbrev s_serves : Stmt := top 37
abbrev N_serves : List Str := ["building", "bounds", "needs", "value"]
theorem sc_serves : FnScope N_serves ["building", "bounds", "needs", "value"] (defScope s_serves) := ⟨rfl, rfl, rfl, by decide +kernel, rfl, by decide +kernel, by decide +kernel⟩
theorem ok_serves {f : Addr} {fd : FuncData} (F : Fun K "serves" "serves" s_serves f fd) (TX : Txt K mg C) (C_gain_list : Cl P w K mg base 1 "gain_list" ["building", "stream"] (spU ⟨K, C⟩ [.f, .h] (pur (f2 m_gain_list)))) (C_fits_bounds : Cl P w K mg base 2 "fits_bounds" ["bounds", "value"] (spU ⟨K, C⟩ [.f, .f] (pur (f2 m_fits_bounds)))) : FnOk P w K mg base CX0 3 f fd ["building", "bounds", "needs", "value"] (spU ⟨K, C⟩ [.f, .f, .h, .f] (pur (f4 m_serves))) := by
  have nd := sc_serves.nd
  refine fn_ok (T := ⟨K, C⟩) F sc_serves rfl (by decide) (fun cdv A outer s H E hr => ?_)
  have hu := hr.units
  refine ⟨_, (pss_cons (ps_if (PW.pt (pw_or (pt_not (pt_val (pe_callB call_isi rfl TX.b_isinstance b0_isinstance (pa_cons (pv 3) (pa_cons (pe_bltn (v := .ty "tuple") rfl TX.b_tuple b0_tuple rfl) pa_nil))))) (pw_or1 (pt_not (pt_val (pe_cl C_fits_bounds hr rfl (pa_cons (pv 1) (pa_cons (pv 3) pa_nil))))))))
  (pss_one (ps_ret pe_bl))
  pss_nil)
  (pss_one (ps_ret (pe_cmpR (op_eqD hu) (pe_cl C_gain_list hr rfl (pa_cons (pv 0) (pa_cons (pv 3) pa_nil))) (pe_callTy call_list_of rfl TX.b_list b0_list (pa_cons (pv 2) pa_nil)) (nomark _))))), fun ds hds => ?_⟩
  match ds, hds with
  | [x_building, x_bounds, x_needs, x_value], _ =>
    refine bv_pur ?_
    show B _ _ _ (m_serves x_building x_bounds x_needs x_value) _
    unfold m_serves
    exact (bn_of (bd_ifx0 (evt_or (evt_not (evt_B (ev_isi (ev_val rfl)))) (evt_not (evt_B (ev_callO rfl (eva_cons (ev_val rfl) (eva_cons (ev_val rfl) eva_nil))))))
  (bd_ret ev_bl)
  (bd_ret (ev_opS opS_eq (ev_callO rfl (eva_cons (ev_val rfl) (eva_cons (ev_val rfl) eva_nil))) (ev_new (evo_listS (ev_bor rfl)))))))

abbrev s_shows_stream : Stmt := top 40
abbrev N_shows_stream : List Str := ["building", "bounds", "needs", "paper"]
theorem sc_shows_stream : FnScope N_shows_stream ["building", "bounds", "needs", "paper"] (defScope s_shows_stream) := ⟨rfl, rfl, rfl, by decide +kernel, rfl, by decide +kernel, by decide +kernel⟩
theorem ok_shows_stream {f : Addr} {fd : FuncData} (F : Fun K "shows_stream" "shows_stream" s_shows_stream f fd) (TX : Txt K mg C) (C_require_building : Cl P w K mg base 2 "require_building" ["building"] (spU ⟨K, C⟩ [.f] (pur (f1 m_require_building)))) (C_require_bounds_streams : Cl P w K mg base 5 "require_bounds_streams" ["building", "bounds"] (spU ⟨K, C⟩ [.f, .f] (pur (f2 m_require_bounds_streams)))) (C_require_needs : Cl P w K mg base 4 "require_needs" ["building", "needs"] (spU ⟨K, C⟩ [.f, .h] (pur (f2 m_require_needs)))) (C_is_paper : Cl P w K mg base 1 "is_paper" ["value", "kind", "size"] (spU ⟨K, C⟩ [.h, .f, .f] (pur (f3 m_is_paper)))) (C_is_refused_set : Cl P w K mg base 6 "is_refused_set" ["building", "bounds", "needs", "paper"] (spU ⟨K, C⟩ [.f, .f, .h, .f] (pur (f4 m_is_refused_set)))) (C_serves : Cl P w K mg base 3 "serves" ["building", "bounds", "needs", "value"] (spU ⟨K, C⟩ [.f, .f, .h, .f] (pur (f4 m_serves)))) : FnOk P w K mg base CX0 7 f fd ["building", "bounds", "needs", "paper"] (spU ⟨K, C⟩ [.f, .f, .h, .f] (pur (f4 m_shows_stream))) := by
  have nd := sc_shows_stream.nd
  refine fn_ok (T := ⟨K, C⟩) F sc_shows_stream rfl (by decide) (fun cdv A outer s H E hr => ?_)
  have hu := hr.units
  refine ⟨_, (pss_cons (ps_expr (pe_cl C_require_building hr rfl (pa_cons (pv 0) pa_nil)))
  (pss_cons (ps_expr (pe_cl C_require_bounds_streams hr rfl (pa_cons (pv 0) (pa_cons (pv 1) pa_nil))))
  (pss_cons (ps_expr (pe_cl C_require_needs hr rfl (pa_cons (pv 0) (pa_cons (pv 2) pa_nil))))
  (pss_cons (ps_if (pt_val (pe_cl C_is_paper hr rfl (pa_cons (pv 3) (pa_cons pe_str (pa_cons pe_int pa_nil)))))
  (pss_one (ps_ret (pe_cl C_serves hr rfl (pa_cons (pv 0) (pa_cons (pv 1) (pa_cons (pv 2) (pa_cons (pe_ix (ix_A hu) (pv 3) pe_int (fun _ _ => rfl)) pa_nil)))))))
  pss_nil)
  (pss_one (ps_ret (pe_cl C_is_refused_set hr rfl (pa_cons (pv 0) (pa_cons (pv 1) (pa_cons (pv 2) (pa_cons (pv 3) pa_nil))))))))))), fun ds hds => ?_⟩
  match ds, hds with
  | [x_building, x_bounds, x_needs, x_paper], _ =>
    refine bv_pur ?_
    show B _ _ _ (m_shows_stream x_building x_bounds x_needs x_paper) _
    unfold m_shows_stream
    exact (bn_of (b_seq (bp_drop (md := .h) (ev_callO rfl (eva_cons (ev_val rfl) eva_nil))) fun _ =>
  (b_seq (bp_drop (md := .h) (ev_callO rfl (eva_cons (ev_val rfl) (eva_cons (ev_val rfl) eva_nil)))) fun _ =>
  (b_seq (bp_drop (md := .h) (ev_callO rfl (eva_cons (ev_val rfl) (eva_cons (ev_bor rfl) eva_nil)))) fun _ =>
  (bd_ifx0 (evt_B (ev_callO rfl (eva_cons (ev_val rfl) (eva_cons ev_str (eva_cons ev_int eva_nil)))))
  (bd_ret (ev_callO rfl (eva_cons (ev_val rfl) (eva_cons (ev_val rfl) (eva_cons (ev_bor rfl) (eva_cons (ev_opP opP_ix (ev_val rfl) ev_int) eva_nil))))))
  (bd_ret (ev_callO rfl (eva_cons (ev_val rfl) (eva_cons (ev_val rfl) (eva_cons (ev_bor rfl) (eva_cons (ev_val rfl) eva_nil)))))))))))

abbrev s_require_bounds_intakes : Stmt := top 49
abbrev N_require_bounds_intakes : List Str := ["building", "low", "high"]
theorem sc_require_bounds_intakes : FnScope N_require_bounds_intakes ["building", "low", "high"] (defScope s_require_bounds_intakes) := ⟨rfl, rfl, rfl, by decide +kernel, rfl, by decide +kernel, by decide +kernel⟩
theorem ok_require_bounds_intakes {f : Addr} {fd : FuncData} (F : Fun K "require_bounds" "require_bounds" s_require_bounds_intakes f fd) (TX : Txt K mg C) (C_require : Cl P w K mg base 1 "require" ["holds", "name"] (spU ⟨K, C⟩ [.f, .f] (pur (f2 m_require)))) (C_is_table : Cl P w K mg base 3 "is_table" ["value", "size", "least", "most"] (spU ⟨K, C⟩ [.h, .f, .f, .f] (pur (f4 m_is_table)))) : FnOk P w K mg base CX0 4 f fd ["building", "low", "high"] (spU ⟨K, C⟩ [.f, .f, .f] (pur (f3 m_require_bounds_intakes))) := by
  have nd := sc_require_bounds_intakes.nd
  refine fn_ok (T := ⟨K, C⟩) F sc_require_bounds_intakes rfl (by decide) (fun cdv A outer s H E hr => ?_)
  have hu := hr.units
  refine ⟨_, (pss_cons (ps_expr (pe_cl C_require hr rfl (pa_cons (pe_cl C_is_table hr rfl (pa_cons (pv 1) (pa_cons (pe_fld (pv 0) rfl) (pa_cons (pe_un un_neg (pe_gint rfl TX.g_MOST_UNITS)) (pa_cons (pe_gint rfl TX.g_MOST_UNITS) pa_nil))))) (pa_cons pe_str pa_nil))))
  (pss_cons (ps_expr (pe_cl C_require hr rfl (pa_cons (pe_cl C_is_table hr rfl (pa_cons (pv 2) (pa_cons (pe_fld (pv 0) rfl) (pa_cons (pe_un un_neg (pe_gint rfl TX.g_MOST_UNITS)) (pa_cons (pe_gint rfl TX.g_MOST_UNITS) pa_nil))))) (pa_cons pe_str pa_nil))))
  pss_nil)), fun ds hds => ?_⟩
  match ds, hds with
  | [x_building, x_low, x_high], _ =>
    refine bv_pur ?_
    show B _ _ _ (m_require_bounds_intakes x_building x_low x_high) _
    unfold m_require_bounds_intakes
    exact (b_seq (bp_drop (md := .h) (ev_callO rfl (eva_cons (ev_callO rfl (eva_cons (ev_val rfl) (eva_cons (ev_fld TX.cl_Building TX.na_Building_rooms (ev_val rfl)) (eva_cons (ev_neg ev_int) (eva_cons ev_int eva_nil))))) (eva_cons ev_str eva_nil)))) fun _ =>
  (b_seq (bp_drop (md := .h) (ev_callO rfl (eva_cons (ev_callO rfl (eva_cons (ev_val rfl) (eva_cons (ev_fld TX.cl_Building TX.na_Building_rooms (ev_val rfl)) (eva_cons (ev_neg ev_int) (eva_cons ev_int eva_nil))))) (eva_cons ev_str eva_nil)))) fun _ =>
  bn_end))

abbrev s_intakes_of : Stmt := top 43
abbrev N_intakes_of : List Str := ["building", "air", "found", "first", "second", "width", "number"]
theorem sc_intakes_of : FnScope N_intakes_of ["building", "air"] (defScope s_intakes_of) := ⟨rfl, rfl, rfl, by decide +kernel, rfl, by decide +kernel, by decide +kernel⟩
theorem ok_intakes_of {f : Addr} {fd : FuncData} (F : Fun K "intakes_of" "intakes_of" s_intakes_of f fd) (TX : Txt K mg C) : FnOk P w K mg base CX0 1 f fd ["building", "air"] (spU ⟨K, C⟩ [.f, .h] (pur (f2 m_intakes_of))) := by
  have nd := sc_intakes_of.nd
  refine fn_ok (T := ⟨K, C⟩) F sc_intakes_of rfl (by decide) (fun cdv A outer s H E hr => ?_)
  have hu := hr.units
  refine ⟨_, (pss_cons (ps_set (i := 2) nd rfl (Or.inl rfl) (pe_op op_mulA (pe_lst (pa_cons pe_int pa_nil)) (pe_fld (pv 0) rfl)))
  (pss_cons (ps_for PassesOwn.never rfl (pi_zipK rfl TX.b_zip (pa_cons (pe_fld (pv 0) rfl) (pa_cons (pv 1) pa_nil))) (pg_tup rfl (pgs_cons (pg_tup rfl (pgs_cons (pg_name (i := 3) nd rfl (Or.inl rfl)) (pgs_cons (pg_name (i := 4) nd rfl (Or.inl rfl)) (pgs_cons (pg_name (i := 5) nd rfl (Or.inl rfl)) pgs_nil)))) (pgs_cons (pg_name (i := 6) nd rfl (Or.inl rfl)) pgs_nil)))
  (pss_cons (ps_augS (pv 2) (pv 4) (get_A hu) (pv 6) ip_add (set_A hu))
  (pss_cons (ps_augS (pv 2) (pv 3) (get_A hu) (pe_op op_sub (pv 5) (pv 6)) ip_add (set_A hu))
  pss_nil)))
  (pss_one (ps_ret (pe_callTy call_tuple_of rfl TX.b_tuple b0_tuple (pa_cons (pv 2) pa_nil)))))), fun ds hds => ?_⟩
  match ds, hds with
  | [x_building, x_air], _ =>
    refine bv_pur ?_
    show B _ _ _ (m_intakes_of x_building x_air) _
    unfold m_intakes_of
    exact (bn_of (b_seq (bp_setO (i := 2) (evo_mulL (ev_new (evo_lst (evl_cons ev_int evl_nil))) (ev_fld TX.cl_Building TX.na_Building_rooms (ev_val rfl)))) fun x_found1 =>
  (b_seq (bp_for2 (ma := .f) (mb := .b) (Γl := fun (x_b2 : D) => [.val x_building, .bor x_air, .own x_b2, .no, .no, .no, .no]) (evi_zip (ev_fld TX.cl_Building TX.na_Building_ducts (ev_val rfl)) (ev_borB rfl)) (.keep (.keep (.keep (.skip (.skip (.skip (.skip .nil))))))) (fun x_b2 x_d8 x_e9 =>
  (bg2_3n fun x_first10 x_second11 x_width12 => (b_seq (bp_augIt (i := 2) (f := fun i j => i + j) (h := dAddI) hh_add rfl rfl (ev_val rfl) (ev_bor rfl)) fun x_found13 =>
  (b_seq (bp_augIt (i := 2) (f := fun i j => i + j) (h := dAddI) hh_add rfl rfl (ev_val rfl) (ev_opS opS_sub (ev_val rfl) (ev_bor rfl))) fun x_found14 =>
  (bp_end (.keep (.keep (.keep (.skip (.skip (.skip (.skip .nil))))))))))))) fun x_b2 =>
  (b_freeze 2 rfl (bd_ret (ev_clM cM_tuple (evl_cons (ev_val rfl) evl_nil)))))))

abbrev s_search : Stmt := top 45
abbrev N_search : List Str := ["building", "air", "start", "backward", "steps", "waiting", "room", "number", "first", "second", "width", "leaves_first", "leaves_second"]
theorem sc_search : FnScope N_search ["building", "air", "start", "backward"] (defScope s_search) := ⟨rfl, rfl, rfl, by decide +kernel, rfl, by decide +kernel, by decide +kernel⟩
theorem ok_search {f : Addr} {fd : FuncData} (F : Fun K "search" "search" s_search f fd) (TX : Txt K mg C) : FnOk P w K mg base CX0 1 f fd ["building", "air", "start", "backward"] (spU ⟨K, C⟩ [.f, .h, .f, .f] (pur (f4 m_search))) := by
  have nd := sc_search.nd
  refine fn_ok (T := ⟨K, C⟩) F sc_search rfl (by decide) (fun cdv A outer s H E hr => ?_)
  have hu := hr.units
  refine ⟨_, (pss_cons (ps_set (i := 4) nd rfl (Or.inl rfl) (pe_disp (pps_cons (pv 2) pe_non pps_nil) (by rfl) (by rfl) (fun z => by cases z) (by decide)))
  (pss_cons (ps_set (i := 5) nd rfl (Or.inl rfl) (pe_lst (pa_cons (pv 2) pa_nil)))
  (pss_cons (ps_while PassesOwn.never (pt_cmpR op_gt (pe_callB cl_len rfl TX.b_len b0_len (pa_cons (pv 5) pa_nil)) pe_int (nomark _))
  (pss_cons (ps_set (i := 6) nd rfl (Or.inl rfl) (pe_bm0 PySem.F.plainAttrs_list PySem.F.slot_list_pop PySem.F.type_list_pop mt_pop (pv 5)))
  (pss_cons (ps_for PassesOwn.never rfl (pi_enumK rfl TX.b_enumerate (pa_cons (pe_fld (pv 0) rfl) pa_nil)) (pg_tup rfl (pgs_cons (pg_name (i := 7) nd rfl (Or.inl rfl)) (pgs_cons (pg_tup rfl (pgs_cons (pg_name (i := 8) nd rfl (Or.inl rfl)) (pgs_cons (pg_name (i := 9) nd rfl (Or.inl rfl)) (pgs_cons (pg_name (i := 10) nd rfl (Or.inl rfl)) pgs_nil)))) pgs_nil)))
  (pss_cons (ps_set (i := 11) nd rfl (Or.inl rfl) (pe_cmpR op_gt (pe_ix (ix_A hu) (pv 1) (pv 7) (fun _ _ => rfl)) pe_int (nomark _)))
  (pss_cons (ps_set (i := 12) nd rfl (Or.inl rfl) (pe_cmpR op_lt (pe_ix (ix_A hu) (pv 1) (pv 7) (fun _ _ => rfl)) (pv 10) (nomark _)))
  (pss_cons (ps_if (pt_val (pv 3))
  (pss_cons (ps_par (i := 11) (j := 12) rfl nd rfl rfl (by decide) rfl rfl (pa_cons (pv 12) (pa_cons (pv 11) pa_nil)) rfl)
  pss_nil)
  pss_nil)
  (pss_cons (ps_if (PW.pt (pw_and (pt_cmpR (op_eqD hu) (pv 6) (pv 8) (nomark _)) (pw_and (pt_val (pv 11)) (pw_and1 (pt_cmpR (op_notInA hu) (pv 9) (pv 4) (by rfl))))))
  (pss_cons (ps_asg (pe_tup (pa_cons (pv 6) (pa_cons (pv 7) pa_nil))) (pg_sub (pv 4) (pv 9) (set_A hu)))
  (pss_cons (ps_expr (pe_bm PySem.F.plainAttrs_list PySem.F.slot_list_append PySem.F.type_list_append mt_append (pv 5) (pa_cons (pv 9) pa_nil)))
  pss_nil))
  (pss_cons (ps_if (PW.pt (pw_and (pt_cmpR (op_eqD hu) (pv 6) (pv 9) (nomark _)) (pw_and (pt_val (pv 12)) (pw_and1 (pt_cmpR (op_notInA hu) (pv 8) (pv 4) (by rfl))))))
  (pss_cons (ps_asg (pe_tup (pa_cons (pv 6) (pa_cons (pv 7) pa_nil))) (pg_sub (pv 4) (pv 8) (set_A hu)))
  (pss_cons (ps_expr (pe_bm PySem.F.plainAttrs_list PySem.F.slot_list_append PySem.F.type_list_append mt_append (pv 5) (pa_cons (pv 8) pa_nil)))
  pss_nil))
  pss_nil)
  pss_nil))
  pss_nil)))))
  pss_nil)))
  (pss_one (ps_ret (pv 4)))))), fun ds hds => ?_⟩
  match ds, hds with
  | [x_building, x_air, x_start, x_backward], _ =>
    refine bv_pur ?_
    show B _ _ _ (m_search x_building x_air x_start x_backward) _
    unfold m_search
    exact (bn_of (b_seq (bp_setO (i := 4) (evo_disp1 (ev_val rfl) ev_non)) fun x_steps1 =>
  (b_seq (bp_setO (i := 5) (evo_lst (evl_cons (ev_val rfl) evl_nil))) fun x_waiting2 =>
  (bd_seqx (bt_while (Γl := fun (x_b3 : D × D) => [.val x_building, .bor x_air, .val x_start, .val x_backward, .own x_b3.2, .own x_b3.1, .no, .no, .no, .no, .no, .no, .no]) (.keep (.keep (.keep (.keep (.keep (.keep (.skip (.skip (.skip (.skip (.skip (.skip (.skip .nil))))))))))))) (fun x_b3 => (evt_test (ev_opS opS_gt (ev_clS cS_len (evl_cons (ev_own rfl) evl_nil)) ev_int))) (fun x_b3 =>
  (b_seq (bp_pop (i := 5) (j := 6) (by decide) rfl rfl) fun x_p4 =>
  (b_seq (bp_for2 (ma := .f) (mb := .f) (Γl := fun (x_b5 : D × D) => [.val x_building, .bor x_air, .val x_start, .val x_backward, .own x_b5.1, .own x_b5.2, .val x_p4.1, .no, .no, .no, .no, .no, .no]) (evi_enum (ev_fld TX.cl_Building TX.na_Building_ducts (ev_val rfl))) (.keep (.keep (.keep (.keep (.keep (.keep (.keep (.skip (.skip (.skip (.skip (.skip (.skip .nil))))))))))))) (fun x_b5 x_d11 x_e12 =>
  (bg2_np (bg_tup3 fun x_first13 x_second14 x_width15 => (b_seq (bp_set (i := 11) (ev_opS opS_gt (ev_opP opP_ix (ev_bor rfl) (ev_val rfl)) ev_int)) fun x_leaves_first16 =>
  (b_seq (bp_set (i := 12) (ev_opS opS_lt (ev_opP opP_ix (ev_bor rfl) (ev_val rfl)) (ev_val rfl))) fun x_leaves_second17 =>
  (b_seq (Γ1 := fun (x_j18 : D × D) => [.val x_building, .bor x_air, .val x_start, .val x_backward, .own x_b5.1, .own x_b5.2, .val x_p4.1, .val x_d11, .val x_first13, .val x_second14, .val x_width15, .val x_j18.1, .val x_j18.2]) (b_if (evt_B (ev_val rfl))
  (b_seq (b_par (tr := tNil) (ev_val rfl) (ev_val rfl)) fun x_c19 =>
  (bp_end (.keep (.keep (.keep (.keep (.keep (.keep (.keep (.keep (.keep (.keep (.keep (.keep (.keep .nil)))))))))))))))
  (bp_end (.keep (.keep (.keep (.keep (.keep (.keep (.keep (.keep (.keep (.keep (.keep (.keep (.keep .nil))))))))))))))) fun x_j18 =>
  (b_seq (Γ1 := fun (x_j20 : D × D) => [.val x_building, .bor x_air, .val x_start, .val x_backward, .own x_j20.1, .own x_j20.2, .val x_p4.1, .val x_d11, .val x_first13, .val x_second14, .val x_width15, .val x_j18.1, .val x_j18.2]) (b_if (evt_and (evt_test (ev_opS opS_eq (ev_val rfl) (ev_val rfl))) (evt_and (evt_B (ev_val rfl)) (evt_test (ev_opS opS_notIn (ev_val rfl) (ev_own rfl)))))
  (b_seq (bp_put (i := 4) rfl rfl (ev_tup (evl_cons (ev_val rfl) (evl_cons (ev_val rfl) evl_nil))) (ev_val rfl)) fun x_steps21 =>
  (b_seq (bp_app (i := 5) rfl rfl (ev_val rfl)) fun x_waiting22 =>
  (bp_end (.keep (.keep (.keep (.keep (.keep (.keep (.keep (.keep (.keep (.keep (.keep (.keep (.keep .nil))))))))))))))))
  (b_seq (Γ1 := fun (x_j23 : D × D) => [.val x_building, .bor x_air, .val x_start, .val x_backward, .own x_j23.1, .own x_j23.2, .val x_p4.1, .val x_d11, .val x_first13, .val x_second14, .val x_width15, .val x_j18.1, .val x_j18.2]) (b_if (evt_and (evt_test (ev_opS opS_eq (ev_val rfl) (ev_val rfl))) (evt_and (evt_B (ev_val rfl)) (evt_test (ev_opS opS_notIn (ev_val rfl) (ev_own rfl)))))
  (b_seq (bp_put (i := 4) rfl rfl (ev_tup (evl_cons (ev_val rfl) (evl_cons (ev_val rfl) evl_nil))) (ev_val rfl)) fun x_steps24 =>
  (b_seq (bp_app (i := 5) rfl rfl (ev_val rfl)) fun x_waiting25 =>
  (bp_end (.keep (.keep (.keep (.keep (.keep (.keep (.keep (.keep (.keep (.keep (.keep (.keep (.keep .nil))))))))))))))))
  (bp_end (.keep (.keep (.keep (.keep (.keep (.keep (.keep (.keep (.keep (.keep (.keep (.keep (.keep .nil))))))))))))))) fun x_j23 =>
  (bp_end (.keep (.keep (.keep (.keep (.keep (.keep (.keep (.keep (.keep (.keep (.keep (.keep (.keep .nil)))))))))))))))) fun x_j20 =>
  (bp_end (.keep (.keep (.keep (.keep (.keep (.keep (.keep (.skip (.skip (.skip (.skip (.skip (.skip .nil)))))))))))))))))))))) fun x_b5 =>
  (bt_end (.keep (.keep (.keep (.keep (.keep (.keep (.skip (.skip (.skip (.skip (.skip (.skip (.skip .nil)))))))))))))))))) fun x_b3 =>
  (b_freeze 4 rfl (bd_ret (ev_val rfl)))))))

abbrev s_turn_path : Stmt := top 46
abbrev N_turn_path : List Str := ["building", "air", "steps", "end", "backward", "room", "before", "number", "tail"]
theorem sc_turn_path : FnScope N_turn_path ["building", "air", "steps", "end", "backward"] (defScope s_turn_path) := ⟨rfl, rfl, rfl, by decide +kernel, rfl, by decide +kernel, by decide +kernel⟩
theorem ok_turn_path {f : Addr} {fd : FuncData} (F : Fun K "turn_path" "turn_path" s_turn_path f fd) (TX : Txt K mg C) : FnOk P w K mg base CX0 1 f fd ["building", "air", "steps", "end", "backward"] (spU ⟨K, C⟩ [.f, .u, .f, .f, .f] (f5 m_turn_path)) := by
  have nd := sc_turn_path.nd
  refine fn_ok (T := ⟨K, C⟩) F sc_turn_path rfl (by decide) (fun cdv A outer s H E hr => ?_)
  have hu := hr.units
  refine ⟨_, (pss_cons (ps_set (i := 5) nd rfl (Or.inl rfl) (pv 3))
  (pss_cons (ps_while PassesOwn.never (pt_cmpR op_isNotA (pe_ix (ix_A hu) (pv 2) (pv 5) (fun _ _ => rfl)) pe_non (nomark _))
  (pss_cons (ps_asg (pe_ix (ix_A hu) (pv 2) (pv 5) (fun _ _ => rfl)) (pg_tup rfl (pgs_cons (pg_name (i := 6) nd rfl (Or.inl rfl)) (pgs_cons (pg_name (i := 7) nd rfl (Or.inl rfl)) pgs_nil))))
  (pss_cons (ps_set (i := 8) nd rfl (Or.inl rfl) (pv 6))
  (pss_cons (ps_if (pt_val (pv 4))
  (pss_cons (ps_set (i := 8) nd rfl (Or.inl rfl) (pv 5))
  pss_nil)
  pss_nil)
  (pss_cons (ps_if (pt_cmpR (op_eqD hu) (pv 8) (pe_ix (ix_A hu) (pe_ix (ix_A hu) (pe_fld (pv 0) rfl) (pv 7) (fun _ _ => rfl)) pe_int (fun _ _ => rfl)) (nomark _))
  (pss_cons (ps_augS (pv 1) (pv 7) (get_A hu) pe_int ip_sub (set_A hu))
  pss_nil)
  (pss_cons (ps_augS (pv 1) (pv 7) (get_A hu) pe_int ip_add (set_A hu))
  pss_nil))
  (pss_cons (ps_set (i := 5) nd rfl (Or.inl rfl) (pv 6))
  pss_nil))))))
  pss_nil)), fun ds hds => ?_⟩
  match ds, hds with
  | [x_building, x_air, x_steps, x_end, x_backward], _ =>
    skip
    show B _ _ _ (m_turn_path x_building x_air x_steps x_end x_backward) _
    unfold m_turn_path
    exact (b_seq (bp_set (i := 5) (ev_val rfl)) fun x_room1 =>
  (bv_seqx (bt_while (Γl := fun (x_b2 : D × D) => [.val x_building, .mu x_b2.2, .val x_steps, .val x_end, .val x_backward, .val x_b2.1, .no, .no, .no]) (.keep (.keep (.keep (.keep (.keep (.keep (.skip (.skip (.skip .nil))))))))) (fun x_b2 => (evt_test (ev_opS opS_isNot (ev_opP opP_ix (ev_val rfl) (ev_val rfl)) ev_non))) (fun x_b2 =>
  (b_unp (md := .f) (ev_opP opP_ix (ev_val rfl) (ev_val rfl)) fun x_t3 =>
  (bg_tup2 fun x_before4 x_number5 => (b_seq (bp_set (i := 8) (ev_val rfl)) fun x_tail6 =>
  (b_seq (Γ1 := fun (x_j7 : D) => [.val x_building, .mu x_b2.2, .val x_steps, .val x_end, .val x_backward, .val x_b2.1, .val x_before4, .val x_number5, .val x_j7]) (b_if (evt_B (ev_val rfl))
  (b_seq (bp_set (i := 8) (ev_val rfl)) fun x_tail8 =>
  (bp_end (.keep (.keep (.keep (.keep (.keep (.keep (.keep (.keep (.keep .nil)))))))))))
  (bp_end (.keep (.keep (.keep (.keep (.keep (.keep (.keep (.keep (.keep .nil))))))))))) fun x_j7 =>
  (b_seq (Γ1 := fun (x_j9 : D) => [.val x_building, .mu x_j9, .val x_steps, .val x_end, .val x_backward, .val x_b2.1, .val x_before4, .val x_number5, .val x_j7]) (b_if (evt_test (ev_opS opS_eq (ev_val rfl) (ev_opP opP_ix (ev_opP opP_ix (ev_fld TX.cl_Building TX.na_Building_ducts (ev_val rfl)) (ev_val rfl)) ev_int)))
  (b_seq (bp_augIt (i := 1) (f := fun i j => i - j) (h := dSub) hh_sub rfl rfl (ev_val rfl) ev_int) fun x_air10 =>
  (bp_end (.keep (.keep (.keep (.keep (.keep (.keep (.keep (.keep (.keep .nil)))))))))))
  (b_seq (bp_augIt (i := 1) (f := fun i j => i + j) (h := dAddI) hh_add rfl rfl (ev_val rfl) ev_int) fun x_air11 =>
  (bp_end (.keep (.keep (.keep (.keep (.keep (.keep (.keep (.keep (.keep .nil)))))))))))) fun x_j9 =>
  (b_seq (bp_set (i := 5) (ev_val rfl)) fun x_room12 =>
  (bt_end (.keep (.keep (.keep (.keep (.keep (.keep (.skip (.skip (.skip .nil)))))))))))))))))) fun x_b2 =>
  bv_end))

abbrev s_lower_all : Stmt := top 47
abbrev N_lower_all : List Str := ["building", "air", "high", "held", "over", "steps", "ends", "room"]
theorem sc_lower_all : FnScope N_lower_all ["building", "air", "high"] (defScope s_lower_all) := ⟨rfl, rfl, rfl, by decide +kernel, rfl, by decide +kernel, by decide +kernel⟩
theorem ok_lower_all {f : Addr} {fd : FuncData} (F : Fun K "lower_all" "lower_all" s_lower_all f fd) (TX : Txt K mg C) (C_intakes_of : Cl P w K mg base 1 "intakes_of" ["building", "air"] (spU ⟨K, C⟩ [.f, .h] (pur (f2 m_intakes_of)))) (C_search : Cl P w K mg base 1 "search" ["building", "air", "start", "backward"] (spU ⟨K, C⟩ [.f, .h, .f, .f] (pur (f4 m_search)))) (C_turn_path : Cl P w K mg base 1 "turn_path" ["building", "air", "steps", "end", "backward"] (spU ⟨K, C⟩ [.f, .u, .f, .f, .f] (f5 m_turn_path))) : FnOk P w K mg base CX0 2 f fd ["building", "air", "high"] (spU ⟨K, C⟩ [.f, .u, .f] (f3 m_lower_all)) := by
  have nd := sc_lower_all.nd
  refine fn_ok (T := ⟨K, C⟩) F sc_lower_all rfl (by decide) (fun cdv A outer s H E hr => ?_)
  have hu := hr.units
  refine ⟨_, (pss_one (ps_while PassesOwn.never (pt_val pe_bl)
  (pss_cons (ps_set (i := 3) nd rfl (Or.inr rfl) (pe_cl C_intakes_of hr rfl (pa_cons (pv 0) (pa_cons (pv 1) pa_nil))))
  (pss_cons (ps_setLc (i := 4) (own := [("room", 7)]) (g := (gName 7)) (tt := (tTest (tOp (rI0 fun i j => .bl (decide (j < i))) (tOp (rIxA K) (tVar 3) (tVar 7)) (tOp (rIxA K) (tVar 2) (tVar 7))))) (te := (tVar 7)) rfl nd rfl rfl (sw_true rfl rfl rfl (by decide +kernel)) (pi_range1 rfl TX.b_range (pa_cons (pe_fld (pv 0) rfl) pa_nil)) (blkOk_by (own := [("room", 7)]) (N := N_lower_all) (sc := defScope s_lower_all) (by decide +kernel)) (fun _ _ _ _ _ => (pg_name (i := 7) nd rfl (Or.inl rfl))) (fun _ _ _ _ _ => (pts_one (pt_cmpR op_gt (pe_ix (ix_A hu) (pv 3) (pv 7) (fun _ _ => rfl)) (pe_ix (ix_A hu) (pv 2) (pv 7) (fun _ _ => rfl)) (nomark _)))) (fun _ _ _ _ _ => (pv 7)))
  (pss_cons (ps_if (pt_cmpR (op_eqD hu) (pe_callB cl_len rfl TX.b_len b0_len (pa_cons (pv 4) pa_nil)) pe_int (nomark _))
  (pss_one (ps_ret (pe_tup pa_nil)))
  pss_nil)
  (pss_cons (ps_set (i := 5) nd rfl (Or.inl rfl) (pe_cl C_search hr rfl (pa_cons (pv 0) (pa_cons (pv 1) (pa_cons (pe_ix (ix_A hu) (pv 4) pe_int (fun _ _ => rfl)) (pa_cons pe_bl pa_nil))))))
  (pss_cons (ps_setLc (i := 6) (own := [("room", 7)]) (g := (gName 7)) (tt := (tTest (tOp (rI0 fun i j => .bl (decide (i < j))) (tOp (rIxA K) (tVar 3) (tVar 7)) (tOp (rIxA K) (tVar 2) (tVar 7))))) (te := (tVar 7)) rfl nd rfl rfl (sw_true rfl rfl rfl (by decide +kernel)) (pi_seqK (pe_callB (cl_sorted rfl) rfl TX.b_sorted b0_sorted (pa_cons (pv 5) pa_nil))) (blkOk_by (own := [("room", 7)]) (N := N_lower_all) (sc := defScope s_lower_all) (by decide +kernel)) (fun _ _ _ _ _ => (pg_name (i := 7) nd rfl (Or.inl rfl))) (fun _ _ _ _ _ => (pts_one (pt_cmpR op_lt (pe_ix (ix_A hu) (pv 3) (pv 7) (fun _ _ => rfl)) (pe_ix (ix_A hu) (pv 2) (pv 7) (fun _ _ => rfl)) (nomark _)))) (fun _ _ _ _ _ => (pv 7)))
  (pss_cons (ps_if (pt_cmpR (op_eqD hu) (pe_callB cl_len rfl TX.b_len b0_len (pa_cons (pv 6) pa_nil)) pe_int (nomark _))
  (pss_one (ps_ret (pe_callTy call_tuple_of rfl TX.b_tuple b0_tuple (pa_cons (pe_callB (cl_sorted rfl) rfl TX.b_sorted b0_sorted (pa_cons (pv 5) pa_nil)) pa_nil))))
  pss_nil)
  (pss_cons (ps_expr (pe_cl C_turn_path hr rfl (pa_cons (pv 0) (pa_cons (pv 1) (pa_cons (pv 5) (pa_cons (pe_ix (ix_A hu) (pv 6) pe_int (fun _ _ => rfl)) (pa_cons pe_bl pa_nil)))))))
  pss_nil))))))))), fun ds hds => ?_⟩
  match ds, hds with
  | [x_building, x_air, x_high], _ =>
    skip
    show B _ _ _ (m_lower_all x_building x_air x_high) _
    unfold m_lower_all
    exact (bv_of (bu_lastn (bt_while (Γl := fun (x_b1 : D) => [.val x_building, .mu x_b1, .val x_high, .no, .no, .no, .no, .no]) (.keep (.keep (.keep (.skip (.skip (.skip (.skip (.skip .nil)))))))) (fun x_b1 => (evt_B ev_bl)) (fun x_b1 =>
  (b_seq (bp_set (i := 3) (ev_callO rfl (eva_cons (ev_val rfl) (eva_cons (ev_mu rfl) eva_nil)))) fun x_held2 =>
  (b_seq (bp_set (i := 4) (ev_new (evo_comp (md := .f) rfl (tin_name (by decide)) (evi_range1 (evl_cons (ev_fld TX.cl_Building TX.na_Building_rooms (ev_val rfl)) evl_nil)) (fun x_d4 => (bg_name (ce_if (evt_test (ev_opS opS_gt (ev_opP opP_ix (ev_val rfl) (ev_val rfl)) (ev_opP opP_ix (ev_val rfl) (ev_val rfl)))) (ev_val rfl))))))) fun x_over3 =>
  (b_ifx0 (evt_test (ev_opS opS_eq (ev_clS cS_len (evl_cons (ev_val rfl) evl_nil)) ev_int))
  (bt_ret' (ev_tup evl_nil))
  (b_seq (bp_set (i := 5) (ev_callO rfl (eva_cons (ev_val rfl) (eva_cons (ev_mu rfl) (eva_cons (ev_opP opP_ix (ev_val rfl) ev_int) (eva_cons ev_bl eva_nil)))))) fun x_steps5 =>
  (b_seq (bp_set (i := 6) (ev_new (evo_comp (md := .f) rfl (tin_name (by decide)) (evi_seq (ev_new (evo_clN cN_sorted (evl_cons (ev_val rfl) evl_nil)))) (fun x_d7 => (bg_name (ce_if (evt_test (ev_opS opS_lt (ev_opP opP_ix (ev_val rfl) (ev_val rfl)) (ev_opP opP_ix (ev_val rfl) (ev_val rfl)))) (ev_val rfl))))))) fun x_ends6 =>
  (b_ifx0 (evt_test (ev_opS opS_eq (ev_clS cS_len (evl_cons (ev_val rfl) evl_nil)) ev_int))
  (bt_ret' (ev_clM cM_tuple (evl_cons (ev_new (evo_clN cN_sorted (evl_cons (ev_val rfl) evl_nil))) evl_nil)))
  (b_seq (Γ1 := fun (x_o8 : UR) => [.val x_building, .mu (cU x_o8 1), .val x_high, .val x_held2, .val x_over3, .val x_steps5, .val x_ends6, .no]) (bp_callU (as := [.f, .u 1, .f, .f, .f]) (by decide) (by decide) rfl (fun _ => rfl) (evk_f (ev_val rfl) (evk_u (i := 1) rfl rfl (evk_f (ev_val rfl) (evk_f (ev_opP opP_ix (ev_val rfl) ev_int) (evk_f ev_bl evk_nil)))))) fun x_o8 =>
  (bt_end (.keep (.keep (.keep (.skip (.skip (.skip (.skip (.skip .nil))))))))))))))))))))

abbrev s_raise_all : Stmt := top 48
abbrev N_raise_all : List Str := ["building", "air", "low", "held", "under", "steps", "ends", "room"]
theorem sc_raise_all : FnScope N_raise_all ["building", "air", "low"] (defScope s_raise_all) := ⟨rfl, rfl, rfl, by decide +kernel, rfl, by decide +kernel, by decide +kernel⟩
theorem ok_raise_all {f : Addr} {fd : FuncData} (F : Fun K "raise_all" "raise_all" s_raise_all f fd) (TX : Txt K mg C) (C_intakes_of : Cl P w K mg base 1 "intakes_of" ["building", "air"] (spU ⟨K, C⟩ [.f, .h] (pur (f2 m_intakes_of)))) (C_search : Cl P w K mg base 1 "search" ["building", "air", "start", "backward"] (spU ⟨K, C⟩ [.f, .h, .f, .f] (pur (f4 m_search)))) (C_turn_path : Cl P w K mg base 1 "turn_path" ["building", "air", "steps", "end", "backward"] (spU ⟨K, C⟩ [.f, .u, .f, .f, .f] (f5 m_turn_path))) : FnOk P w K mg base CX0 2 f fd ["building", "air", "low"] (spU ⟨K, C⟩ [.f, .u, .f] (f3 m_raise_all)) := by
  have nd := sc_raise_all.nd
  refine fn_ok (T := ⟨K, C⟩) F sc_raise_all rfl (by decide) (fun cdv A outer s H E hr => ?_)
  have hu := hr.units
  refine ⟨_, (pss_one (ps_while PassesOwn.never (pt_val pe_bl)
  (pss_cons (ps_set (i := 3) nd rfl (Or.inr rfl) (pe_cl C_intakes_of hr rfl (pa_cons (pv 0) (pa_cons (pv 1) pa_nil))))
  (pss_cons (ps_setLc (i := 4) (own := [("room", 7)]) (g := (gName 7)) (tt := (tTest (tOp (rI0 fun i j => .bl (decide (i < j))) (tOp (rIxA K) (tVar 3) (tVar 7)) (tOp (rIxA K) (tVar 2) (tVar 7))))) (te := (tVar 7)) rfl nd rfl rfl (sw_true rfl rfl rfl (by decide +kernel)) (pi_range1 rfl TX.b_range (pa_cons (pe_fld (pv 0) rfl) pa_nil)) (blkOk_by (own := [("room", 7)]) (N := N_raise_all) (sc := defScope s_raise_all) (by decide +kernel)) (fun _ _ _ _ _ => (pg_name (i := 7) nd rfl (Or.inl rfl))) (fun _ _ _ _ _ => (pts_one (pt_cmpR op_lt (pe_ix (ix_A hu) (pv 3) (pv 7) (fun _ _ => rfl)) (pe_ix (ix_A hu) (pv 2) (pv 7) (fun _ _ => rfl)) (nomark _)))) (fun _ _ _ _ _ => (pv 7)))
  (pss_cons (ps_if (pt_cmpR (op_eqD hu) (pe_callB cl_len rfl TX.b_len b0_len (pa_cons (pv 4) pa_nil)) pe_int (nomark _))
  (pss_one (ps_ret (pe_tup pa_nil)))
  pss_nil)
  (pss_cons (ps_set (i := 5) nd rfl (Or.inl rfl) (pe_cl C_search hr rfl (pa_cons (pv 0) (pa_cons (pv 1) (pa_cons (pe_ix (ix_A hu) (pv 4) pe_int (fun _ _ => rfl)) (pa_cons pe_bl pa_nil))))))
  (pss_cons (ps_setLc (i := 6) (own := [("room", 7)]) (g := (gName 7)) (tt := (tTest (tOp (rI0 fun i j => .bl (decide (j < i))) (tOp (rIxA K) (tVar 3) (tVar 7)) (tOp (rIxA K) (tVar 2) (tVar 7))))) (te := (tVar 7)) rfl nd rfl rfl (sw_true rfl rfl rfl (by decide +kernel)) (pi_seqK (pe_callB (cl_sorted rfl) rfl TX.b_sorted b0_sorted (pa_cons (pv 5) pa_nil))) (blkOk_by (own := [("room", 7)]) (N := N_raise_all) (sc := defScope s_raise_all) (by decide +kernel)) (fun _ _ _ _ _ => (pg_name (i := 7) nd rfl (Or.inl rfl))) (fun _ _ _ _ _ => (pts_one (pt_cmpR op_gt (pe_ix (ix_A hu) (pv 3) (pv 7) (fun _ _ => rfl)) (pe_ix (ix_A hu) (pv 2) (pv 7) (fun _ _ => rfl)) (nomark _)))) (fun _ _ _ _ _ => (pv 7)))
  (pss_cons (ps_if (pt_cmpR (op_eqD hu) (pe_callB cl_len rfl TX.b_len b0_len (pa_cons (pv 6) pa_nil)) pe_int (nomark _))
  (pss_one (ps_ret (pe_callTy call_tuple_of rfl TX.b_tuple b0_tuple (pa_cons (pe_callB (cl_sorted rfl) rfl TX.b_sorted b0_sorted (pa_cons (pv 5) pa_nil)) pa_nil))))
  pss_nil)
  (pss_cons (ps_expr (pe_cl C_turn_path hr rfl (pa_cons (pv 0) (pa_cons (pv 1) (pa_cons (pv 5) (pa_cons (pe_ix (ix_A hu) (pv 6) pe_int (fun _ _ => rfl)) (pa_cons pe_bl pa_nil)))))))
  pss_nil))))))))), fun ds hds => ?_⟩
  match ds, hds with
  | [x_building, x_air, x_low], _ =>
    skip
    show B _ _ _ (m_raise_all x_building x_air x_low) _
    unfold m_raise_all
    exact (bv_of (bu_lastn (bt_while (Γl := fun (x_b1 : D) => [.val x_building, .mu x_b1, .val x_low, .no, .no, .no, .no, .no]) (.keep (.keep (.keep (.skip (.skip (.skip (.skip (.skip .nil)))))))) (fun x_b1 => (evt_B ev_bl)) (fun x_b1 =>
  (b_seq (bp_set (i := 3) (ev_callO rfl (eva_cons (ev_val rfl) (eva_cons (ev_mu rfl) eva_nil)))) fun x_held2 =>
  (b_seq (bp_set (i := 4) (ev_new (evo_comp (md := .f) rfl (tin_name (by decide)) (evi_range1 (evl_cons (ev_fld TX.cl_Building TX.na_Building_rooms (ev_val rfl)) evl_nil)) (fun x_d4 => (bg_name (ce_if (evt_test (ev_opS opS_lt (ev_opP opP_ix (ev_val rfl) (ev_val rfl)) (ev_opP opP_ix (ev_val rfl) (ev_val rfl)))) (ev_val rfl))))))) fun x_under3 =>
  (b_ifx0 (evt_test (ev_opS opS_eq (ev_clS cS_len (evl_cons (ev_val rfl) evl_nil)) ev_int))
  (bt_ret' (ev_tup evl_nil))
  (b_seq (bp_set (i := 5) (ev_callO rfl (eva_cons (ev_val rfl) (eva_cons (ev_mu rfl) (eva_cons (ev_opP opP_ix (ev_val rfl) ev_int) (eva_cons ev_bl eva_nil)))))) fun x_steps5 =>
  (b_seq (bp_set (i := 6) (ev_new (evo_comp (md := .f) rfl (tin_name (by decide)) (evi_seq (ev_new (evo_clN cN_sorted (evl_cons (ev_val rfl) evl_nil)))) (fun x_d7 => (bg_name (ce_if (evt_test (ev_opS opS_gt (ev_opP opP_ix (ev_val rfl) (ev_val rfl)) (ev_opP opP_ix (ev_val rfl) (ev_val rfl)))) (ev_val rfl))))))) fun x_ends6 =>
  (b_ifx0 (evt_test (ev_opS opS_eq (ev_clS cS_len (evl_cons (ev_val rfl) evl_nil)) ev_int))
  (bt_ret' (ev_clM cM_tuple (evl_cons (ev_new (evo_clN cN_sorted (evl_cons (ev_val rfl) evl_nil))) evl_nil)))
  (b_seq (Γ1 := fun (x_o8 : UR) => [.val x_building, .mu (cU x_o8 1), .val x_low, .val x_held2, .val x_under3, .val x_steps5, .val x_ends6, .no]) (bp_callU (as := [.f, .u 1, .f, .f, .f]) (by decide) (by decide) rfl (fun _ => rfl) (evk_f (ev_val rfl) (evk_u (i := 1) rfl rfl (evk_f (ev_val rfl) (evk_f (ev_opP opP_ix (ev_val rfl) ev_int) (evk_f ev_bl evk_nil)))))) fun x_o8 =>
  (bt_end (.keep (.keep (.keep (.skip (.skip (.skip (.skip (.skip .nil))))))))))))))))))))

abbrev s_hold_intakes : Stmt := top 51
abbrev N_hold_intakes : List Str := ["building", "low", "high", "room", "air", "crowded", "thirsty"]
theorem sc_hold_intakes : FnScope N_hold_intakes ["building", "low", "high"] (defScope s_hold_intakes) := ⟨rfl, rfl, rfl, by decide +kernel, rfl, by decide +kernel, by decide +kernel⟩
theorem ok_hold_intakes {f : Addr} {fd : FuncData} (F : Fun K "hold_intakes" "hold_intakes" s_hold_intakes f fd) (TX : Txt K mg C) (C_require_building : Cl P w K mg base 2 "require_building" ["building"] (spU ⟨K, C⟩ [.f] (pur (f1 m_require_building)))) (C_require_bounds_intakes : Cl P w K mg base 4 "require_bounds_intakes" ["building", "low", "high"] (spU ⟨K, C⟩ [.f, .f, .f] (pur (f3 m_require_bounds_intakes)))) (C_lower_all : Cl P w K mg base 2 "lower_all" ["building", "air", "high"] (spU ⟨K, C⟩ [.f, .u, .f] (f3 m_lower_all))) (C_raise_all : Cl P w K mg base 2 "raise_all" ["building", "air", "low"] (spU ⟨K, C⟩ [.f, .u, .f] (f3 m_raise_all))) : FnOk P w K mg base CX0 5 f fd ["building", "low", "high"] (spU ⟨K, C⟩ [.f, .f, .f] (pur (f3 m_hold_intakes))) := by
  have nd := sc_hold_intakes.nd
  refine fn_ok (T := ⟨K, C⟩) F sc_hold_intakes rfl (by decide) (fun cdv A outer s H E hr => ?_)
  have hu := hr.units
  refine ⟨_, (pss_cons (ps_expr (pe_cl C_require_building hr rfl (pa_cons (pv 0) pa_nil)))
  (pss_cons (ps_expr (pe_cl C_require_bounds_intakes hr rfl (pa_cons (pv 0) (pa_cons (pv 1) (pa_cons (pv 2) pa_nil)))))
  (pss_cons (ps_for PassesOwn.never rfl (pi_range1 rfl TX.b_range (pa_cons (pe_fld (pv 0) rfl) pa_nil)) (pg_name (i := 3) nd rfl (Or.inl rfl))
  (pss_cons (ps_if (pt_cmpR op_gt (pe_ix (ix_A hu) (pv 1) (pv 3) (fun _ _ => rfl)) (pe_ix (ix_A hu) (pv 2) (pv 3) (fun _ _ => rfl)) (nomark _))
  (pss_one (ps_ret (pe_tup (pa_cons pe_str (pa_cons (pv 3) pa_nil)))))
  pss_nil)
  pss_nil))
  (pss_cons (ps_set (i := 4) nd rfl (Or.inl rfl) (pe_op op_mulA (pe_lst (pa_cons pe_int pa_nil)) (pe_callB cl_len rfl TX.b_len b0_len (pa_cons (pe_fld (pv 0) rfl) pa_nil))))
  (pss_cons (ps_set (i := 5) nd rfl (Or.inl rfl) (pe_cl C_lower_all hr rfl (pa_cons (pv 0) (pa_cons (pv 4) (pa_cons (pv 2) pa_nil)))))
  (pss_cons (ps_if (pt_cmpR op_gt (pe_callB cl_len rfl TX.b_len b0_len (pa_cons (pv 5) pa_nil)) pe_int (nomark _))
  (pss_one (ps_ret (pe_tup (pa_cons pe_str (pa_cons (pv 5) pa_nil)))))
  pss_nil)
  (pss_cons (ps_set (i := 6) nd rfl (Or.inl rfl) (pe_cl C_raise_all hr rfl (pa_cons (pv 0) (pa_cons (pv 4) (pa_cons (pv 1) pa_nil)))))
  (pss_cons (ps_if (pt_cmpR op_gt (pe_callB cl_len rfl TX.b_len b0_len (pa_cons (pv 6) pa_nil)) pe_int (nomark _))
  (pss_one (ps_ret (pe_tup (pa_cons pe_str (pa_cons (pv 6) pa_nil)))))
  pss_nil)
  (pss_one (ps_ret (pe_tup (pa_cons pe_str (pa_cons (pe_callTy call_tuple_of rfl TX.b_tuple b0_tuple (pa_cons (pv 4) pa_nil)) pa_nil))))))))))))), fun ds hds => ?_⟩
  match ds, hds with
  | [x_building, x_low, x_high], _ =>
    refine bv_pur ?_
    show B _ _ _ (m_hold_intakes x_building x_low x_high) _
    unfold m_hold_intakes
    exact (bn_of (b_seq (bp_drop (md := .h) (ev_callO rfl (eva_cons (ev_val rfl) eva_nil))) fun _ =>
  (b_seq (bp_drop (md := .h) (ev_callO rfl (eva_cons (ev_val rfl) (eva_cons (ev_val rfl) (eva_cons (ev_val rfl) eva_nil))))) fun _ =>
  (bd_seqx (bt_for (md := .f) (Γl := fun (x_b1 : Unit) => [.val x_building, .val x_low, .val x_high, .no, .no, .no, .no]) (evi_range1 (evl_cons (ev_fld TX.cl_Building TX.na_Building_rooms (ev_val rfl)) evl_nil)) (.keep (.keep (.keep (.skip (.skip (.skip (.skip .nil))))))) (fun x_b1 x_d3 =>
  (bg_name (b_ifx0 (evt_test (ev_opS opS_gt (ev_opP opP_ix (ev_val rfl) (ev_val rfl)) (ev_opP opP_ix (ev_val rfl) (ev_val rfl))))
  (bt_ret' (ev_tup (evl_cons ev_str (evl_cons (ev_val rfl) evl_nil))))
  (bt_end (.keep (.keep (.keep (.skip (.skip (.skip (.skip .nil)))))))))))) fun x_b1 =>
  (b_seq (bp_setO (i := 4) (evo_mulL (ev_new (evo_lst (evl_cons ev_int evl_nil))) (ev_clS cS_len (evl_cons (ev_fld TX.cl_Building TX.na_Building_ducts (ev_val rfl)) evl_nil)))) fun x_air4 =>
  (b_seq (Γ1 := fun (x_o5 : UR) => [.val x_building, .val x_low, .val x_high, .no, .own (cU x_o5 1), .val x_o5.1, .no]) (bp_callUS (i := 5) (as := [.f, .u 4, .f]) (by decide) (by decide) rfl (fun _ => rfl) (evk_f (ev_val rfl) (evk_u (i := 4) rfl rfl (evk_f (ev_val rfl) evk_nil)))) fun x_o5 =>
  (bd_ifx0 (evt_test (ev_opS opS_gt (ev_clS cS_len (evl_cons (ev_val rfl) evl_nil)) ev_int))
  (bd_ret (ev_tup (evl_cons ev_str (evl_cons (ev_val rfl) evl_nil))))
  (b_seq (Γ1 := fun (x_o6 : UR) => [.val x_building, .val x_low, .val x_high, .no, .own (cU x_o6 1), .val x_o5.1, .val x_o6.1]) (bp_callUS (i := 6) (as := [.f, .u 4, .f]) (by decide) (by decide) rfl (fun _ => rfl) (evk_f (ev_val rfl) (evk_u (i := 4) rfl rfl (evk_f (ev_val rfl) evk_nil)))) fun x_o6 =>
  (bd_ifx0 (evt_test (ev_opS opS_gt (ev_clS cS_len (evl_cons (ev_val rfl) evl_nil)) ev_int))
  (bd_ret (ev_tup (evl_cons ev_str (evl_cons (ev_val rfl) evl_nil))))
  (b_freeze 4 rfl (bd_ret (ev_tup (evl_cons ev_str (evl_cons (ev_clM cM_tuple (evl_cons (ev_val rfl) evl_nil)) evl_nil))))))))))))))

abbrev s_feeders : Stmt := top 33
abbrev N_feeders : List Str := ["building", "bounds", "stream", "room", "steps", "waiting", "head", "duct", "first", "second", "width"]
theorem sc_feeders : FnScope N_feeders ["building", "bounds", "stream", "room"] (defScope s_feeders) := ⟨rfl, rfl, rfl, by decide +kernel, rfl, by decide +kernel, by decide +kernel⟩
theorem ok_feeders {f : Addr} {fd : FuncData} (F : Fun K "feeders" "feeders" s_feeders f fd) (TX : Txt K mg C) : FnOk P w K mg base CX0 1 f fd ["building", "bounds", "stream", "room"] (spU ⟨K, C⟩ [.f, .f, .h, .f] (pur (f4 m_feeders))) := by
  have nd := sc_feeders.nd
  refine fn_ok (T := ⟨K, C⟩) F sc_feeders rfl (by decide) (fun cdv A outer s H E hr => ?_)
  have hu := hr.units
  refine ⟨_, (pss_cons (ps_set (i := 4) nd rfl (Or.inl rfl) (pe_disp (pps_cons (pv 3) pe_non pps_nil) (by rfl) (by rfl) (fun z => by cases z) (by decide)))
  (pss_cons (ps_set (i := 5) nd rfl (Or.inl rfl) (pe_lst (pa_cons (pv 3) pa_nil)))
  (pss_cons (ps_while PassesOwn.never (pt_cmpR op_gt (pe_callB cl_len rfl TX.b_len b0_len (pa_cons (pv 5) pa_nil)) pe_int (nomark _))
  (pss_cons (ps_set (i := 6) nd rfl (Or.inl rfl) (pe_bm0 PySem.F.plainAttrs_list PySem.F.slot_list_pop PySem.F.type_list_pop mt_pop (pv 5)))
  (pss_cons (ps_for PassesOwn.never rfl (pi_enumK rfl TX.b_enumerate (pa_cons (pe_fld (pv 0) rfl) pa_nil)) (pg_tup rfl (pgs_cons (pg_name (i := 7) nd rfl (Or.inl rfl)) (pgs_cons (pg_tup rfl (pgs_cons (pg_name (i := 8) nd rfl (Or.inl rfl)) (pgs_cons (pg_name (i := 9) nd rfl (Or.inl rfl)) (pgs_cons (pg_name (i := 10) nd rfl (Or.inl rfl)) pgs_nil)))) pgs_nil)))
  (pss_cons (ps_if (PW.pt (pw_and (pt_cmpR (op_eqD hu) (pv 9) (pv 6) (nomark _)) (pw_and (pt_cmpR op_lt (pe_ix (ix_A hu) (pv 2) (pv 7) (fun _ _ => rfl)) (pe_ix (ix_A hu) (pe_ix (ix_A hu) (pv 1) (pv 7) (fun _ _ => rfl)) pe_int (fun _ _ => rfl)) (nomark _)) (pw_and1 (pt_cmpR (op_notInA hu) (pv 8) (pv 4) (by rfl))))))
  (pss_cons (ps_asg (pe_tup (pa_cons (pv 6) (pa_cons (pv 7) (pa_cons pe_int pa_nil)))) (pg_sub (pv 4) (pv 8) (set_A hu)))
  (pss_cons (ps_expr (pe_bm PySem.F.plainAttrs_list PySem.F.slot_list_append PySem.F.type_list_append mt_append (pv 5) (pa_cons (pv 8) pa_nil)))
  pss_nil))
  (pss_cons (ps_if (PW.pt (pw_and (pt_cmpR (op_eqD hu) (pv 8) (pv 6) (nomark _)) (pw_and (pt_cmpR op_gt (pe_ix (ix_A hu) (pv 2) (pv 7) (fun _ _ => rfl)) (pe_ix (ix_A hu) (pe_ix (ix_A hu) (pv 1) (pv 7) (fun _ _ => rfl)) pe_int (fun _ _ => rfl)) (nomark _)) (pw_and1 (pt_cmpR (op_notInA hu) (pv 9) (pv 4) (by rfl))))))
  (pss_cons (ps_asg (pe_tup (pa_cons (pv 6) (pa_cons (pv 7) (pa_cons (pe_un un_neg pe_int) pa_nil)))) (pg_sub (pv 4) (pv 9) (set_A hu)))
  (pss_cons (ps_expr (pe_bm PySem.F.plainAttrs_list PySem.F.slot_list_append PySem.F.type_list_append mt_append (pv 5) (pa_cons (pv 9) pa_nil)))
  pss_nil))
  pss_nil)
  pss_nil))
  pss_nil))
  pss_nil)))
  (pss_one (ps_ret (pv 4)))))), fun ds hds => ?_⟩
  match ds, hds with
  | [x_building, x_bounds, x_stream, x_room], _ =>
    refine bv_pur ?_
    show B _ _ _ (m_feeders x_building x_bounds x_stream x_room) _
    unfold m_feeders
    exact (bn_of (b_seq (bp_setO (i := 4) (evo_disp1 (ev_val rfl) ev_non)) fun x_steps1 =>
  (b_seq (bp_setO (i := 5) (evo_lst (evl_cons (ev_val rfl) evl_nil))) fun x_waiting2 =>
  (bd_seqx (bt_while (Γl := fun (x_b3 : D × D) => [.val x_building, .val x_bounds, .bor x_stream, .val x_room, .own x_b3.2, .own x_b3.1, .no, .no, .no, .no, .no]) (.keep (.keep (.keep (.keep (.keep (.keep (.skip (.skip (.skip (.skip (.skip .nil))))))))))) (fun x_b3 => (evt_test (ev_opS opS_gt (ev_clS cS_len (evl_cons (ev_own rfl) evl_nil)) ev_int))) (fun x_b3 =>
  (b_seq (bp_pop (i := 5) (j := 6) (by decide) rfl rfl) fun x_p4 =>
  (b_seq (bp_for2 (ma := .f) (mb := .f) (Γl := fun (x_b5 : D × D) => [.val x_building, .val x_bounds, .bor x_stream, .val x_room, .own x_b5.1, .own x_b5.2, .val x_p4.1, .no, .no, .no, .no]) (evi_enum (ev_fld TX.cl_Building TX.na_Building_ducts (ev_val rfl))) (.keep (.keep (.keep (.keep (.keep (.keep (.keep (.skip (.skip (.skip (.skip .nil))))))))))) (fun x_b5 x_d11 x_e12 =>
  (bg2_np (bg_tup3 fun x_first13 x_second14 x_width15 => (b_seq (Γ1 := fun (x_j16 : D × D) => [.val x_building, .val x_bounds, .bor x_stream, .val x_room, .own x_j16.1, .own x_j16.2, .val x_p4.1, .val x_d11, .val x_first13, .val x_second14, .val x_width15]) (b_if (evt_and (evt_test (ev_opS opS_eq (ev_val rfl) (ev_val rfl))) (evt_and (evt_test (ev_opS opS_lt (ev_opP opP_ix (ev_bor rfl) (ev_val rfl)) (ev_opP opP_ix (ev_opP opP_ix (ev_val rfl) (ev_val rfl)) ev_int))) (evt_test (ev_opS opS_notIn (ev_val rfl) (ev_own rfl)))))
  (b_seq (bp_put (i := 4) rfl rfl (ev_tup (evl_cons (ev_val rfl) (evl_cons (ev_val rfl) (evl_cons ev_int evl_nil)))) (ev_val rfl)) fun x_steps17 =>
  (b_seq (bp_app (i := 5) rfl rfl (ev_val rfl)) fun x_waiting18 =>
  (bp_end (.keep (.keep (.keep (.keep (.keep (.keep (.keep (.keep (.keep (.keep (.keep .nil))))))))))))))
  (b_seq (Γ1 := fun (x_j19 : D × D) => [.val x_building, .val x_bounds, .bor x_stream, .val x_room, .own x_j19.1, .own x_j19.2, .val x_p4.1, .val x_d11, .val x_first13, .val x_second14, .val x_width15]) (b_if (evt_and (evt_test (ev_opS opS_eq (ev_val rfl) (ev_val rfl))) (evt_and (evt_test (ev_opS opS_gt (ev_opP opP_ix (ev_bor rfl) (ev_val rfl)) (ev_opP opP_ix (ev_opP opP_ix (ev_val rfl) (ev_val rfl)) ev_int))) (evt_test (ev_opS opS_notIn (ev_val rfl) (ev_own rfl)))))
  (b_seq (bp_put (i := 4) rfl rfl (ev_tup (evl_cons (ev_val rfl) (evl_cons (ev_val rfl) (evl_cons (ev_neg ev_int) evl_nil)))) (ev_val rfl)) fun x_steps20 =>
  (b_seq (bp_app (i := 5) rfl rfl (ev_val rfl)) fun x_waiting21 =>
  (bp_end (.keep (.keep (.keep (.keep (.keep (.keep (.keep (.keep (.keep (.keep (.keep .nil))))))))))))))
  (bp_end (.keep (.keep (.keep (.keep (.keep (.keep (.keep (.keep (.keep (.keep (.keep .nil))))))))))))) fun x_j19 =>
  (bp_end (.keep (.keep (.keep (.keep (.keep (.keep (.keep (.keep (.keep (.keep (.keep .nil)))))))))))))) fun x_j16 =>
  (bp_end (.keep (.keep (.keep (.keep (.keep (.keep (.keep (.skip (.skip (.skip (.skip .nil))))))))))))))))) fun x_b5 =>
  (bt_end (.keep (.keep (.keep (.keep (.keep (.keep (.skip (.skip (.skip (.skip (.skip .nil)))))))))))))))) fun x_b3 =>
  (b_freeze 4 rfl (bd_ret (ev_val rfl)))))))

abbrev s_feed : Stmt := top 34
abbrev N_feed : List Str := ["stream", "steps", "room", "at", "head", "duct", "sign"]
theorem sc_feed : FnScope N_feed ["stream", "steps", "room"] (defScope s_feed) := ⟨rfl, rfl, rfl, by decide +kernel, rfl, by decide +kernel, by decide +kernel⟩
theorem ok_feed {f : Addr} {fd : FuncData} (F : Fun K "feed" "feed" s_feed f fd) (TX : Txt K mg C) : FnOk P w K mg base CX0 1 f fd ["stream", "steps", "room"] (spU ⟨K, C⟩ [.u, .f, .f] (f3 m_feed)) := by
  have nd := sc_feed.nd
  refine fn_ok (T := ⟨K, C⟩) F sc_feed rfl (by decide) (fun cdv A outer s H E hr => ?_)
  have hu := hr.units
  refine ⟨_, (pss_cons (ps_set (i := 3) nd rfl (Or.inl rfl) (pv 2))
  (pss_cons (ps_while PassesOwn.never (pt_cmpR op_isNotA (pe_ix (ix_A hu) (pv 1) (pv 3) (fun _ _ => rfl)) pe_non (nomark _))
  (pss_cons (ps_asg (pe_ix (ix_A hu) (pv 1) (pv 3) (fun _ _ => rfl)) (pg_tup rfl (pgs_cons (pg_name (i := 4) nd rfl (Or.inl rfl)) (pgs_cons (pg_name (i := 5) nd rfl (Or.inl rfl)) (pgs_cons (pg_name (i := 6) nd rfl (Or.inl rfl)) pgs_nil)))))
  (pss_cons (ps_augS (pv 0) (pv 5) (get_A hu) (pv 6) ip_add (set_A hu))
  (pss_cons (ps_set (i := 3) nd rfl (Or.inl rfl) (pv 4))
  pss_nil))))
  pss_nil)), fun ds hds => ?_⟩
  match ds, hds with
  | [x_stream, x_steps, x_room], _ =>
    skip
    show B _ _ _ (m_feed x_stream x_steps x_room) _
    unfold m_feed
    exact (b_seq (bp_set (i := 3) (ev_val rfl)) fun x_at1 =>
  (bv_seqx (bt_while (Γl := fun (x_b2 : D × D) => [.mu x_b2.2, .val x_steps, .val x_room, .val x_b2.1, .no, .no, .no]) (.keep (.keep (.keep (.keep (.skip (.skip (.skip .nil))))))) (fun x_b2 => (evt_test (ev_opS opS_isNot (ev_opP opP_ix (ev_val rfl) (ev_val rfl)) ev_non))) (fun x_b2 =>
  (b_unp (md := .f) (ev_opP opP_ix (ev_val rfl) (ev_val rfl)) fun x_t3 =>
  (bg_tup3 fun x_head4 x_duct5 x_sign6 => (b_seq (bp_augIt (i := 0) (f := fun i j => i + j) (h := dAddI) hh_add rfl rfl (ev_val rfl) (ev_val rfl)) fun x_stream7 =>
  (b_seq (bp_set (i := 3) (ev_val rfl)) fun x_at8 =>
  (bt_end (.keep (.keep (.keep (.keep (.skip (.skip (.skip .nil)))))))))))))) fun x_b2 =>
  bv_end))

abbrev s_serve : Stmt := top 35
abbrev N_serve : List Str := ["building", "bounds", "needs", "stream", "gains", "missing", "steps", "givers", "least", "most", "room"]
theorem sc_serve : FnScope N_serve ["building", "bounds", "needs"] (defScope s_serve) := ⟨rfl, rfl, rfl, by decide +kernel, rfl, by decide +kernel, by decide +kernel⟩
theorem ok_serve {f : Addr} {fd : FuncData} (F : Fun K "serve" "serve" s_serve f fd) (TX : Txt K mg C) (C_gain_list : Cl P w K mg base 1 "gain_list" ["building", "stream"] (spU ⟨K, C⟩ [.f, .h] (pur (f2 m_gain_list)))) (C_feeders : Cl P w K mg base 1 "feeders" ["building", "bounds", "stream", "room"] (spU ⟨K, C⟩ [.f, .f, .h, .f] (pur (f4 m_feeders)))) (C_feed : Cl P w K mg base 1 "feed" ["stream", "steps", "room"] (spU ⟨K, C⟩ [.u, .f, .f] (f3 m_feed))) : FnOk P w K mg base CX0 2 f fd ["building", "bounds", "needs"] (spU ⟨K, C⟩ [.f, .f, .f] (pur (f3 m_serve))) := by
  have nd := sc_serve.nd
  refine fn_ok (T := ⟨K, C⟩) F sc_serve rfl (by decide) (fun cdv A outer s H E hr => ?_)
  have hu := hr.units
  refine ⟨_, (pss_cons (ps_setLc (i := 3) (own := [("least", 8), ("most", 9)]) (g := (gTup K 2 (gCons (gName 8) (gCons (gName 9) gNil)))) (tt := tYes) (te := (tVar 8)) rfl nd rfl rfl (sw_true rfl rfl rfl (by decide +kernel)) (pi_seqK (pv 1)) (blkOk_by (own := [("least", 8), ("most", 9)]) (N := N_serve) (sc := defScope s_serve) (by decide +kernel)) (fun _ _ _ _ _ => (pg_tup rfl (pgs_cons (pg_name (i := 8) nd rfl (Or.inl rfl)) (pgs_cons (pg_name (i := 9) nd rfl (Or.inl rfl)) pgs_nil)))) (fun _ _ _ _ _ => pts_nil) (fun _ _ _ _ _ => (pv 8)))
  (pss_one (ps_while PassesOwn.never (pt_val pe_bl)
  (pss_cons (ps_set (i := 4) nd rfl (Or.inr rfl) (pe_cl C_gain_list hr rfl (pa_cons (pv 0) (pa_cons (pv 3) pa_nil))))
  (pss_cons (ps_setLc (i := 5) (own := [("room", 10)]) (g := (gName 10)) (tt := (tTest (tOp (rI0 fun i j => .bl (decide (i < j))) (tOp (rIxA K) (tVar 4) (tVar 10)) (tOp (rIxA K) (tVar 2) (tVar 10))))) (te := (tVar 10)) rfl nd rfl rfl (sw_true rfl rfl rfl (by decide +kernel)) (pi_range1 rfl TX.b_range (pa_cons (pe_fld (pv 0) rfl) pa_nil)) (blkOk_by (own := [("room", 10)]) (N := N_serve) (sc := defScope s_serve) (by decide +kernel)) (fun _ _ _ _ _ => (pg_name (i := 10) nd rfl (Or.inl rfl))) (fun _ _ _ _ _ => (pts_one (pt_cmpR op_lt (pe_ix (ix_A hu) (pv 4) (pv 10) (fun _ _ => rfl)) (pe_ix (ix_A hu) (pv 2) (pv 10) (fun _ _ => rfl)) (nomark _)))) (fun _ _ _ _ _ => (pv 10)))
  (pss_cons (ps_if (pt_cmpR (op_eqD hu) (pe_callB cl_len rfl TX.b_len b0_len (pa_cons (pv 5) pa_nil)) pe_int (nomark _))
  (pss_one (ps_ret (pe_tup (pa_cons (pv 3) (pa_cons (pe_tup pa_nil) pa_nil)))))
  pss_nil)
  (pss_cons (ps_set (i := 6) nd rfl (Or.inl rfl) (pe_cl C_feeders hr rfl (pa_cons (pv 0) (pa_cons (pv 1) (pa_cons (pv 3) (pa_cons (pe_ix (ix_A hu) (pv 5) pe_int (fun _ _ => rfl)) pa_nil))))))
  (pss_cons (ps_setLc (i := 7) (own := [("room", 10)]) (g := (gName 10)) (tt := (tTest (tOp (rI0 fun i j => .bl (decide (j < i))) (tOp (rIxA K) (tVar 4) (tVar 10)) (tOp (rIxA K) (tVar 2) (tVar 10))))) (te := (tVar 10)) rfl nd rfl rfl (sw_true rfl rfl rfl (by decide +kernel)) (pi_seqK (pe_callB (cl_sorted rfl) rfl TX.b_sorted b0_sorted (pa_cons (pv 6) pa_nil))) (blkOk_by (own := [("room", 10)]) (N := N_serve) (sc := defScope s_serve) (by decide +kernel)) (fun _ _ _ _ _ => (pg_name (i := 10) nd rfl (Or.inl rfl))) (fun _ _ _ _ _ => (pts_one (pt_cmpR op_gt (pe_ix (ix_A hu) (pv 4) (pv 10) (fun _ _ => rfl)) (pe_ix (ix_A hu) (pv 2) (pv 10) (fun _ _ => rfl)) (nomark _)))) (fun _ _ _ _ _ => (pv 10)))
  (pss_cons (ps_if (pt_cmpR (op_eqD hu) (pe_callB cl_len rfl TX.b_len b0_len (pa_cons (pv 7) pa_nil)) pe_int (nomark _))
  (pss_one (ps_ret (pe_tup (pa_cons (pe_lst pa_nil) (pa_cons (pe_callTy call_tuple_of rfl TX.b_tuple b0_tuple (pa_cons (pe_callB (cl_sorted rfl) rfl TX.b_sorted b0_sorted (pa_cons (pv 6) pa_nil)) pa_nil)) pa_nil)))))
  pss_nil)
  (pss_cons (ps_expr (pe_cl C_feed hr rfl (pa_cons (pv 3) (pa_cons (pv 6) (pa_cons (pe_ix (ix_A hu) (pv 7) pe_int (fun _ _ => rfl)) pa_nil)))))
  pss_nil)))))))))), fun ds hds => ?_⟩
  match ds, hds with
  | [x_building, x_bounds, x_needs], _ =>
    refine bv_pur ?_
    show B _ _ _ (m_serve x_building x_bounds x_needs) _
    unfold m_serve
    exact (bn_of (b_seq (bp_setO (i := 3) (evo_comp (md := .f) rfl (tin_tup (tins_cons (tin_name (by decide)) (tins_cons (tin_name (by decide)) tins_nil))) (evi_seq (ev_val rfl)) (fun x_d2 => (bg_tup2 fun x_least3 x_most4 => (ce_all (ev_val rfl)))))) fun x_stream1 =>
  (bd_lastn (bt_while (Γl := fun (x_b5 : D) => [.val x_building, .val x_bounds, .val x_needs, .own x_b5, .no, .no, .no, .no, .no, .no, .no]) (.keep (.keep (.keep (.keep (.skip (.skip (.skip (.skip (.skip (.skip (.skip .nil))))))))))) (fun x_b5 => (evt_B ev_bl)) (fun x_b5 =>
  (b_seq (bp_set (i := 4) (ev_callO rfl (eva_cons (ev_val rfl) (eva_cons (ev_own rfl) eva_nil)))) fun x_gains6 =>
  (b_seq (bp_set (i := 5) (ev_new (evo_comp (md := .f) rfl (tin_name (by decide)) (evi_range1 (evl_cons (ev_fld TX.cl_Building TX.na_Building_rooms (ev_val rfl)) evl_nil)) (fun x_d8 => (bg_name (ce_if (evt_test (ev_opS opS_lt (ev_opP opP_ix (ev_val rfl) (ev_val rfl)) (ev_opP opP_ix (ev_val rfl) (ev_val rfl)))) (ev_val rfl))))))) fun x_missing7 =>
  (b_ifx0 (evt_test (ev_opS opS_eq (ev_clS cS_len (evl_cons (ev_val rfl) evl_nil)) ev_int))
  (b_freeze 3 rfl (bt_ret' (ev_tup (evl_cons (ev_val rfl) (evl_cons (ev_tup evl_nil) evl_nil)))))
  (b_seq (bp_set (i := 6) (ev_callO rfl (eva_cons (ev_val rfl) (eva_cons (ev_val rfl) (eva_cons (ev_own rfl) (eva_cons (ev_opP opP_ix (ev_val rfl) ev_int) eva_nil)))))) fun x_steps9 =>
  (b_seq (bp_set (i := 7) (ev_new (evo_comp (md := .f) rfl (tin_name (by decide)) (evi_seq (ev_new (evo_clN cN_sorted (evl_cons (ev_val rfl) evl_nil)))) (fun x_d11 => (bg_name (ce_if (evt_test (ev_opS opS_gt (ev_opP opP_ix (ev_val rfl) (ev_val rfl)) (ev_opP opP_ix (ev_val rfl) (ev_val rfl)))) (ev_val rfl))))))) fun x_givers10 =>
  (b_ifx0 (evt_test (ev_opS opS_eq (ev_clS cS_len (evl_cons (ev_val rfl) evl_nil)) ev_int))
  (bt_ret' (ev_tup (evl_cons (ev_new (evo_lst evl_nil)) (evl_cons (ev_clM cM_tuple (evl_cons (ev_new (evo_clN cN_sorted (evl_cons (ev_val rfl) evl_nil))) evl_nil)) evl_nil))))
  (b_seq (Γ1 := fun (x_o12 : UR) => [.val x_building, .val x_bounds, .val x_needs, .own (cU x_o12 0), .val x_gains6, .val x_missing7, .val x_steps9, .val x_givers10, .no, .no, .no]) (bp_callU (as := [.u 3, .f, .f]) (by decide) (by decide) rfl (fun _ => rfl) (evk_u (i := 3) rfl rfl (evk_f (ev_val rfl) (evk_f (ev_opP opP_ix (ev_val rfl) ev_int) evk_nil)))) fun x_o12 =>
  (bt_end (.keep (.keep (.keep (.keep (.skip (.skip (.skip (.skip (.skip (.skip (.skip .nil))))))))))))))))))))))))

abbrev s_hold_stream : Stmt := top 36
abbrev N_hold_stream : List Str := ["building", "bounds", "needs", "stream", "starved"]
theorem sc_hold_stream : FnScope N_hold_stream ["building", "bounds", "needs"] (defScope s_hold_stream) := ⟨rfl, rfl, rfl, by decide +kernel, rfl, by decide +kernel, by decide +kernel⟩
theorem ok_hold_stream {f : Addr} {fd : FuncData} (F : Fun K "hold_stream" "hold_stream" s_hold_stream f fd) (TX : Txt K mg C) (C_require_building : Cl P w K mg base 2 "require_building" ["building"] (spU ⟨K, C⟩ [.f] (pur (f1 m_require_building)))) (C_require_bounds_streams : Cl P w K mg base 5 "require_bounds_streams" ["building", "bounds"] (spU ⟨K, C⟩ [.f, .f] (pur (f2 m_require_bounds_streams)))) (C_require_needs : Cl P w K mg base 4 "require_needs" ["building", "needs"] (spU ⟨K, C⟩ [.f, .h] (pur (f2 m_require_needs)))) (C_serve : Cl P w K mg base 2 "serve" ["building", "bounds", "needs"] (spU ⟨K, C⟩ [.f, .f, .f] (pur (f3 m_serve)))) : FnOk P w K mg base CX0 6 f fd ["building", "bounds", "needs"] (spU ⟨K, C⟩ [.f, .f, .f] (pur (f3 m_hold_stream))) := by
  have nd := sc_hold_stream.nd
  refine fn_ok (T := ⟨K, C⟩) F sc_hold_stream rfl (by decide) (fun cdv A outer s H E hr => ?_)
  have hu := hr.units
  refine ⟨_, (pss_cons (ps_expr (pe_cl C_require_building hr rfl (pa_cons (pv 0) pa_nil)))
  (pss_cons (ps_expr (pe_cl C_require_bounds_streams hr rfl (pa_cons (pv 0) (pa_cons (pv 1) pa_nil))))
  (pss_cons (ps_expr (pe_cl C_require_needs hr rfl (pa_cons (pv 0) (pa_cons (pv 2) pa_nil))))
  (pss_cons (ps_if (pt_cmpR op_lt (pe_callB (cl_sum rfl) rfl TX.b_sum b0_sum (pa_cons (pv 2) pa_nil)) pe_int (nomark _))
  (pss_one (ps_ret (pe_tup (pa_cons pe_str (pa_cons (pe_tupRg rfl rfl TX.b_tuple (prg_1 rfl TX.b_range (pe_fld (pv 0) rfl))) pa_nil)))))
  pss_nil)
  (pss_cons (ps_asg (pe_cl C_serve hr rfl (pa_cons (pv 0) (pa_cons (pv 1) (pa_cons (pv 2) pa_nil)))) (pg_tup rfl (pgs_cons (pg_name (i := 3) nd rfl (Or.inl rfl)) (pgs_cons (pg_name (i := 4) nd rfl (Or.inl rfl)) pgs_nil))))
  (pss_cons (ps_if (pt_cmpR op_gt (pe_callB cl_len rfl TX.b_len b0_len (pa_cons (pv 4) pa_nil)) pe_int (nomark _))
  (pss_one (ps_ret (pe_tup (pa_cons pe_str (pa_cons (pv 4) pa_nil)))))
  pss_nil)
  (pss_one (ps_ret (pe_tup (pa_cons pe_str (pa_cons (pe_callTy call_tuple_of rfl TX.b_tuple b0_tuple (pa_cons (pv 3) pa_nil)) pa_nil))))))))))), fun ds hds => ?_⟩
  match ds, hds with
  | [x_building, x_bounds, x_needs], _ =>
    refine bv_pur ?_
    show B _ _ _ (m_hold_stream x_building x_bounds x_needs) _
    unfold m_hold_stream
    exact (bn_of (b_seq (bp_drop (md := .h) (ev_callO rfl (eva_cons (ev_val rfl) eva_nil))) fun _ =>
  (b_seq (bp_drop (md := .h) (ev_callO rfl (eva_cons (ev_val rfl) (eva_cons (ev_val rfl) eva_nil)))) fun _ =>
  (b_seq (bp_drop (md := .h) (ev_callO rfl (eva_cons (ev_val rfl) (eva_cons (ev_val rfl) eva_nil)))) fun _ =>
  (bd_ifx0 (evt_test (ev_opS opS_lt (ev_clS cS_sum (evl_cons (ev_val rfl) evl_nil)) ev_int))
  (bd_ret (ev_tup (evl_cons ev_str (evl_cons (ev_tupRg (evr_1 (ev_fld TX.cl_Building TX.na_Building_rooms (ev_val rfl)))) evl_nil))))
  (b_unp (md := .f) (ev_callO rfl (eva_cons (ev_val rfl) (eva_cons (ev_val rfl) (eva_cons (ev_val rfl) eva_nil)))) fun x_t1 =>
  (bg_tup2 fun x_stream2 x_starved3 => (bd_ifx0 (evt_test (ev_opS opS_gt (ev_clS cS_len (evl_cons (ev_val rfl) evl_nil)) ev_int))
  (bd_ret (ev_tup (evl_cons ev_str (evl_cons (ev_val rfl) evl_nil))))
  (bd_ret (ev_tup (evl_cons ev_str (evl_cons (ev_clM cM_tuple (evl_cons (ev_val rfl) evl_nil)) evl_nil))))))))))))

abbrev s_law_numbers : Stmt := top 65
abbrev N_law_numbers : List Str := ["cell", "count", "least", "most", "bounds", "number"]
theorem sc_law_numbers : FnScope N_law_numbers ["cell", "count", "least", "most"] (defScope s_law_numbers) := ⟨rfl, rfl, rfl, by decide +kernel, rfl, by decide +kernel, by decide +kernel⟩
theorem ok_law_numbers {f : Addr} {fd : FuncData} (F : Fun K "_law_numbers" "_law_numbers" s_law_numbers f fd) (TX : Txt K mg C) (C_law_draw : Cl P w K mg base 1 "_law_draw" ["cell", "bounds"] (spU ⟨K, C⟩ [.f, .f] (pur (f2 m_law_draw)))) : FnOk P w K mg base CX0 2 f fd ["cell", "count", "least", "most"] (spU ⟨K, C⟩ [.f, .f, .f, .f] (pur (f4 m_law_numbers))) := by
  have nd := sc_law_numbers.nd
  refine fn_ok (T := ⟨K, C⟩) F sc_law_numbers rfl (by decide) (fun cdv A outer s H E hr => ?_)
  have hu := hr.units
  refine ⟨_, (pss_cons (ps_set (i := 4) nd rfl (Or.inl rfl) (pe_op op_mulA (pe_lst (pa_cons (pe_op op_addA (pe_op op_sub (pv 3) (pv 2)) pe_int) pa_nil)) (pv 1)))
  (pss_one (ps_ret (pe_lc (own := [("number", 5)]) (g := (gName 5)) (tt := tYes) (te := (tOp (rAddA K) (tVar 2) (tVar 5))) rfl nd (pi_seqK (pe_cl C_law_draw hr rfl (pa_cons (pv 0) (pa_cons (pv 4) pa_nil)))) (blkOk_by (own := [("number", 5)]) (N := N_law_numbers) (sc := defScope s_law_numbers) (by decide +kernel)) (fun _ _ _ _ _ => (pg_name (i := 5) nd rfl (Or.inl rfl))) (fun _ _ _ _ _ => pts_nil) (fun _ _ _ _ _ => (pe_op op_addA (pv 2) (pv 5))))))), fun ds hds => ?_⟩
  match ds, hds with
  | [x_cell, x_count, x_least, x_most], _ =>
    refine bv_pur ?_
    show B _ _ _ (m_law_numbers x_cell x_count x_least x_most) _
    unfold m_law_numbers
    exact (bn_of (b_seq (bp_set (i := 4) (ev_opM opM_mul (ev_new (evo_lst (evl_cons (ev_opM opM_add (ev_opS opS_sub (ev_val rfl) (ev_val rfl)) ev_int) evl_nil))) (ev_val rfl))) fun x_bounds1 =>
  (bd_ret (ev_new (evo_comp (md := .f) rfl (tin_name (by decide)) (evi_seq (ev_callO rfl (eva_cons (ev_val rfl) (eva_cons (ev_val rfl) eva_nil)))) (fun x_d2 => (bg_name (ce_all (ev_opM opM_add (ev_val rfl) (ev_val rfl))))))))))

abbrev s_script_stream : Stmt := top 32
abbrev N_script_stream : List Str := ["building", "script", "first", "second", "width"]
theorem sc_script_stream : FnScope N_script_stream ["building", "script"] (defScope s_script_stream) := ⟨rfl, rfl, rfl, by decide +kernel, rfl, by decide +kernel, by decide +kernel⟩
theorem ok_script_stream {f : Addr} {fd : FuncData} (F : Fun K "script_stream" "script_stream" s_script_stream f fd) (TX : Txt K mg C) (C_require : Cl P w K mg base 1 "require" ["holds", "name"] (spU ⟨K, C⟩ [.f, .f] (pur (f2 m_require)))) (C_is_table : Cl P w K mg base 3 "is_table" ["value", "size", "least", "most"] (spU ⟨K, C⟩ [.h, .f, .f, .f] (pur (f4 m_is_table)))) (C_require_building : Cl P w K mg base 2 "require_building" ["building"] (spU ⟨K, C⟩ [.f] (pur (f1 m_require_building)))) : FnOk P w K mg base CX0 4 f fd ["building", "script"] (spU ⟨K, C⟩ [.f, .f] (pur (f2 m_script_stream))) := by
  have nd := sc_script_stream.nd
  refine fn_ok (T := ⟨K, C⟩) F sc_script_stream rfl (by decide) (fun cdv A outer s H E hr => ?_)
  have hu := hr.units
  refine ⟨_, (pss_cons (ps_expr (pe_cl C_require_building hr rfl (pa_cons (pv 0) pa_nil)))
  (pss_cons (ps_expr (pe_cl C_require hr rfl (pa_cons (pe_cl C_is_table hr rfl (pa_cons (pv 1) (pa_cons (pe_fld (pv 0) rfl) (pa_cons (pe_un un_neg (pe_gint rfl TX.g_MOST_VENTS)) (pa_cons (pe_gint rfl TX.g_MOST_VENTS) pa_nil))))) (pa_cons pe_str pa_nil))))
  (pss_one (ps_ret (pe_callTy call_tuple_of rfl TX.b_tuple b0_tuple (pa_cons (pe_lc (own := [("first", 2), ("second", 3), ("width", 4)]) (g := (gTup K 3 (gCons (gName 2) (gCons (gName 3) (gCons (gName 4) gNil))))) (tt := tYes) (te := (tOp (rMulA K) (tVar 4) (tOp (rI0 fun i j => .int (i - j)) (tOp (rIxA K) (tVar 1) (tVar 2)) (tOp (rIxA K) (tVar 1) (tVar 3))))) rfl nd (pi_seqK (pe_fld (pv 0) rfl)) (blkOk_by (own := [("first", 2), ("second", 3), ("width", 4)]) (N := N_script_stream) (sc := defScope s_script_stream) (by decide +kernel)) (fun _ _ _ _ _ => (pg_tup rfl (pgs_cons (pg_name (i := 2) nd rfl (Or.inl rfl)) (pgs_cons (pg_name (i := 3) nd rfl (Or.inl rfl)) (pgs_cons (pg_name (i := 4) nd rfl (Or.inl rfl)) pgs_nil))))) (fun _ _ _ _ _ => pts_nil) (fun _ _ _ _ _ => (pe_op op_mulA (pv 4) (pe_op op_sub (pe_ix (ix_A hu) (pv 1) (pv 2) (fun _ _ => rfl)) (pe_ix (ix_A hu) (pv 1) (pv 3) (fun _ _ => rfl)))))) pa_nil)))))), fun ds hds => ?_⟩
  match ds, hds with
  | [x_building, x_script], _ =>
    refine bv_pur ?_
    show B _ _ _ (m_script_stream x_building x_script) _
    unfold m_script_stream
    exact (bn_of (b_seq (bp_drop (md := .h) (ev_callO rfl (eva_cons (ev_val rfl) eva_nil))) fun _ =>
  (b_seq (bp_drop (md := .h) (ev_callO rfl (eva_cons (ev_callO rfl (eva_cons (ev_val rfl) (eva_cons (ev_fld TX.cl_Building TX.na_Building_rooms (ev_val rfl)) (eva_cons (ev_neg ev_int) (eva_cons ev_int eva_nil))))) (eva_cons ev_str eva_nil)))) fun _ =>
  (bd_ret (ev_clM cM_tuple (evl_cons (ev_new (evo_comp (md := .f) rfl (tin_tup (tins_cons (tin_name (by decide)) (tins_cons (tin_name (by decide)) (tins_cons (tin_name (by decide)) tins_nil)))) (evi_seq (ev_fld TX.cl_Building TX.na_Building_ducts (ev_val rfl))) (fun x_d1 => (bg_tup3 fun x_first2 x_second3 x_width4 => (ce_all (ev_opM opM_mul (ev_val rfl) (ev_opS opS_sub (ev_opP opP_ix (ev_val rfl) (ev_val rfl)) (ev_opP opP_ix (ev_val rfl) (ev_val rfl))))))))) evl_nil))))))

abbrev s_law_after : Stmt := top 67
abbrev N_law_after : List Str := ["table", "load", "script", "held", "a", "lost", "b"]
theorem sc_law_after : FnScope N_law_after ["table", "load", "script"] (defScope s_law_after) := ⟨rfl, rfl, rfl, by decide +kernel, rfl, by decide +kernel, by decide +kernel⟩
theorem ok_law_after {f : Addr} {fd : FuncData} (F : Fun K "_law_after" "_law_after" s_law_after f fd) (TX : Txt K mg C) : FnOk P w K mg base CX0 1 f fd ["table", "load", "script"] (spU ⟨K, C⟩ [.f, .f, .f] (pur (f3 m_law_after))) := by
  have nd := sc_law_after.nd
  refine fn_ok (T := ⟨K, C⟩) F sc_law_after rfl (by decide) (fun cdv A outer s H E hr => ?_)
  have hu := hr.units
  refine ⟨_, (pss_cons (ps_set (i := 3) nd rfl (Or.inl rfl) (pe_lst pa_nil))
  (pss_cons (ps_for PassesOwn.never rfl (pi_range1 rfl TX.b_range (pa_cons (pe_callB cl_len rfl TX.b_len b0_len (pa_cons (pv 0) pa_nil)) pa_nil)) (pg_name (i := 4) nd rfl (Or.inl rfl))
  (pss_cons (ps_set (i := 5) nd rfl (Or.inl rfl) pe_int)
  (pss_cons (ps_for PassesOwn.never rfl (pi_range1 rfl TX.b_range (pa_cons (pe_callB cl_len rfl TX.b_len b0_len (pa_cons (pv 0) pa_nil)) pa_nil)) (pg_name (i := 6) nd rfl (Or.inl rfl))
  (pss_cons (ps_set (i := 5) nd rfl (Or.inl rfl) (pe_op op_addA (pv 5) (pe_op op_mulA (pe_ix (ix_A hu) (pe_ix (ix_A hu) (pv 0) (pv 4) (fun _ _ => rfl)) (pv 6) (fun _ _ => rfl)) (pe_op op_sub (pe_ix (ix_A hu) (pv 2) (pv 4) (fun _ _ => rfl)) (pe_ix (ix_A hu) (pv 2) (pv 6) (fun _ _ => rfl))))))
  pss_nil))
  (pss_cons (ps_expr (pe_bm PySem.F.plainAttrs_list PySem.F.slot_list_append PySem.F.type_list_append mt_append (pv 3) (pa_cons (pe_op op_sub (pe_ix (ix_A hu) (pv 1) (pv 4) (fun _ _ => rfl)) (pv 5)) pa_nil)))
  pss_nil))))
  (pss_one (ps_ret (pv 3))))), fun ds hds => ?_⟩
  match ds, hds with
  | [x_table, x_load, x_script], _ =>
    refine bv_pur ?_
    show B _ _ _ (m_law_after x_table x_load x_script) _
    unfold m_law_after
    exact (bn_of (b_seq (bp_setO (i := 3) (evo_lst evl_nil)) fun x_held1 =>
  (b_seq (bp_for (md := .f) (Γl := fun (x_b2 : D) => [.val x_table, .val x_load, .val x_script, .own x_b2, .no, .no, .no]) (evi_range1 (evl_cons (ev_clS cS_len (evl_cons (ev_val rfl) evl_nil)) evl_nil)) (.keep (.keep (.keep (.keep (.skip (.skip (.skip .nil))))))) (fun x_b2 x_d4 =>
  (bg_name (b_seq (bp_set (i := 5) ev_int) fun x_lost5 =>
  (b_seq (bp_for (md := .f) (Γl := fun (x_b6 : D) => [.val x_table, .val x_load, .val x_script, .own x_b2, .val x_d4, .val x_b6, .no]) (evi_range1 (evl_cons (ev_clS cS_len (evl_cons (ev_val rfl) evl_nil)) evl_nil)) (.keep (.keep (.keep (.keep (.keep (.keep (.skip .nil))))))) (fun x_b6 x_d8 =>
  (bg_name (b_seq (bp_set (i := 5) (ev_opM opM_add (ev_val rfl) (ev_opM opM_mul (ev_opP opP_ix (ev_opP opP_ix (ev_val rfl) (ev_val rfl)) (ev_val rfl)) (ev_opS opS_sub (ev_opP opP_ix (ev_val rfl) (ev_val rfl)) (ev_opP opP_ix (ev_val rfl) (ev_val rfl)))))) fun x_lost9 =>
  (bp_end (.keep (.keep (.keep (.keep (.keep (.keep (.skip .nil)))))))))))) fun x_b6 =>
  (b_seq (bp_app (i := 3) rfl rfl (ev_opS opS_sub (ev_opP opP_ix (ev_val rfl) (ev_val rfl)) (ev_val rfl))) fun x_held10 =>
  (bp_end (.keep (.keep (.keep (.keep (.skip (.skip (.skip .nil)))))))))))))) fun x_b2 =>
  (b_freeze 3 rfl (bd_ret (ev_val rfl))))))

abbrev s_gains_of : Stmt := top 31
abbrev N_gains_of : List Str := ["building", "bounds", "stream"]
theorem sc_gains_of : FnScope N_gains_of ["building", "bounds", "stream"] (defScope s_gains_of) := ⟨rfl, rfl, rfl, by decide +kernel, rfl, by decide +kernel, by decide +kernel⟩
theorem ok_gains_of {f : Addr} {fd : FuncData} (F : Fun K "gains_of" "gains_of" s_gains_of f fd) (TX : Txt K mg C) (C_require : Cl P w K mg base 1 "require" ["holds", "name"] (spU ⟨K, C⟩ [.f, .f] (pur (f2 m_require)))) (C_require_building : Cl P w K mg base 2 "require_building" ["building"] (spU ⟨K, C⟩ [.f] (pur (f1 m_require_building)))) (C_require_bounds_streams : Cl P w K mg base 5 "require_bounds_streams" ["building", "bounds"] (spU ⟨K, C⟩ [.f, .f] (pur (f2 m_require_bounds_streams)))) (C_gain_list : Cl P w K mg base 1 "gain_list" ["building", "stream"] (spU ⟨K, C⟩ [.f, .h] (pur (f2 m_gain_list)))) (C_fits_bounds : Cl P w K mg base 2 "fits_bounds" ["bounds", "value"] (spU ⟨K, C⟩ [.f, .f] (pur (f2 m_fits_bounds)))) : FnOk P w K mg base CX0 6 f fd ["building", "bounds", "stream"] (spU ⟨K, C⟩ [.f, .f, .f] (pur (f3 m_gains_of))) := by
  have nd := sc_gains_of.nd
  refine fn_ok (T := ⟨K, C⟩) F sc_gains_of rfl (by decide) (fun cdv A outer s H E hr => ?_)
  have hu := hr.units
  refine ⟨_, (pss_cons (ps_expr (pe_cl C_require_building hr rfl (pa_cons (pv 0) pa_nil)))
  (pss_cons (ps_expr (pe_cl C_require_bounds_streams hr rfl (pa_cons (pv 0) (pa_cons (pv 1) pa_nil))))
  (pss_cons (ps_expr (pe_cl C_require hr rfl (pa_cons (pe_cl C_fits_bounds hr rfl (pa_cons (pv 1) (pa_cons (pv 2) pa_nil))) (pa_cons pe_str pa_nil))))
  (pss_one (ps_ret (pe_callTy call_tuple_of rfl TX.b_tuple b0_tuple (pa_cons (pe_cl C_gain_list hr rfl (pa_cons (pv 0) (pa_cons (pv 2) pa_nil))) pa_nil))))))), fun ds hds => ?_⟩
  match ds, hds with
  | [x_building, x_bounds, x_stream], _ =>
    refine bv_pur ?_
    show B _ _ _ (m_gains_of x_building x_bounds x_stream) _
    unfold m_gains_of
    exact (bn_of (b_seq (bp_drop (md := .h) (ev_callO rfl (eva_cons (ev_val rfl) eva_nil))) fun _ =>
  (b_seq (bp_drop (md := .h) (ev_callO rfl (eva_cons (ev_val rfl) (eva_cons (ev_val rfl) eva_nil)))) fun _ =>
  (b_seq (bp_drop (md := .h) (ev_callO rfl (eva_cons (ev_callO rfl (eva_cons (ev_val rfl) (eva_cons (ev_val rfl) eva_nil))) (eva_cons ev_str eva_nil)))) fun _ =>
  (bd_ret (ev_clM cM_tuple (evl_cons (ev_callO rfl (eva_cons (ev_val rfl) (eva_cons (ev_val rfl) eva_nil))) evl_nil)))))))

abbrev s_require_load : Stmt := top 57
abbrev N_require_load : List Str := ["building", "load", "name"]
theorem sc_require_load : FnScope N_require_load ["building", "load", "name"] (defScope s_require_load) := ⟨rfl, rfl, rfl, by decide +kernel, rfl, by decide +kernel, by decide +kernel⟩
theorem ok_require_load {f : Addr} {fd : FuncData} (F : Fun K "require_load" "require_load" s_require_load f fd) (TX : Txt K mg C) (C_require : Cl P w K mg base 1 "require" ["holds", "name"] (spU ⟨K, C⟩ [.f, .f] (pur (f2 m_require)))) (C_is_table : Cl P w K mg base 3 "is_table" ["value", "size", "least", "most"] (spU ⟨K, C⟩ [.h, .f, .f, .f] (pur (f4 m_is_table)))) : FnOk P w K mg base CX0 4 f fd ["building", "load", "name"] (spU ⟨K, C⟩ [.f, .f, .f] (pur (f3 m_require_load))) := by
  have nd := sc_require_load.nd
  refine fn_ok (T := ⟨K, C⟩) F sc_require_load rfl (by decide) (fun cdv A outer s H E hr => ?_)
  have hu := hr.units
  refine ⟨_, (pss_cons (ps_expr (pe_cl C_require hr rfl (pa_cons (pe_cl C_is_table hr rfl (pa_cons (pv 1) (pa_cons (pe_fld (pv 0) rfl) (pa_cons (pe_un un_neg (pe_gint rfl TX.g_MOST_UNITS)) (pa_cons (pe_gint rfl TX.g_MOST_UNITS) pa_nil))))) (pa_cons (pv 2) pa_nil))))
  pss_nil), fun ds hds => ?_⟩
  match ds, hds with
  | [x_building, x_load, x_name], _ =>
    refine bv_pur ?_
    show B _ _ _ (m_require_load x_building x_load x_name) _
    unfold m_require_load
    exact (b_seq (bp_drop (md := .h) (ev_callO rfl (eva_cons (ev_callO rfl (eva_cons (ev_val rfl) (eva_cons (ev_fld TX.cl_Building TX.na_Building_rooms (ev_val rfl)) (eva_cons (ev_neg ev_int) (eva_cons ev_int eva_nil))))) (eva_cons (ev_val rfl) eva_nil)))) fun _ =>
  bn_end)

abbrev s_shifted : Stmt := top 58
abbrev N_shifted : List Str := ["widths", "load", "script", "held", "a", "row", "lost", "b", "width"]
theorem sc_shifted : FnScope N_shifted ["widths", "load", "script"] (defScope s_shifted) := ⟨rfl, rfl, rfl, by decide +kernel, rfl, by decide +kernel, by decide +kernel⟩
theorem ok_shifted {f : Addr} {fd : FuncData} (F : Fun K "shifted" "shifted" s_shifted f fd) (TX : Txt K mg C) : FnOk P w K mg base CX0 1 f fd ["widths", "load", "script"] (spU ⟨K, C⟩ [.f, .f, .f] (pur (f3 m_shifted))) := by
  have nd := sc_shifted.nd
  refine fn_ok (T := ⟨K, C⟩) F sc_shifted rfl (by decide) (fun cdv A outer s H E hr => ?_)
  have hu := hr.units
  refine ⟨_, (pss_cons (ps_set (i := 3) nd rfl (Or.inl rfl) (pe_lst pa_nil))
  (pss_cons (ps_for PassesOwn.never rfl (pi_enumK rfl TX.b_enumerate (pa_cons (pv 0) pa_nil)) (pg_tup rfl (pgs_cons (pg_name (i := 4) nd rfl (Or.inl rfl)) (pgs_cons (pg_name (i := 5) nd rfl (Or.inl rfl)) pgs_nil)))
  (pss_cons (ps_set (i := 6) nd rfl (Or.inl rfl) pe_int)
  (pss_cons (ps_for PassesOwn.never rfl (pi_enumK rfl TX.b_enumerate (pa_cons (pv 5) pa_nil)) (pg_tup rfl (pgs_cons (pg_name (i := 7) nd rfl (Or.inl rfl)) (pgs_cons (pg_name (i := 8) nd rfl (Or.inl rfl)) pgs_nil)))
  (pss_cons (ps_aug (i := 6) nd rfl (Or.inl rfl) (pe_op op_mulA (pv 8) (pe_op op_sub (pe_ix (ix_A hu) (pv 2) (pv 4) (fun _ _ => rfl)) (pe_ix (ix_A hu) (pv 2) (pv 7) (fun _ _ => rfl)))) ip_add)
  pss_nil))
  (pss_cons (ps_expr (pe_bm PySem.F.plainAttrs_list PySem.F.slot_list_append PySem.F.type_list_append mt_append (pv 3) (pa_cons (pe_op op_sub (pe_ix (ix_A hu) (pv 1) (pv 4) (fun _ _ => rfl)) (pv 6)) pa_nil)))
  pss_nil))))
  (pss_one (ps_ret (pe_callTy call_tuple_of rfl TX.b_tuple b0_tuple (pa_cons (pv 3) pa_nil)))))), fun ds hds => ?_⟩
  match ds, hds with
  | [x_widths, x_load, x_script], _ =>
    refine bv_pur ?_
    show B _ _ _ (m_shifted x_widths x_load x_script) _
    unfold m_shifted
    exact (bn_of (b_seq (bp_setO (i := 3) (evo_lst evl_nil)) fun x_held1 =>
  (b_seq (bp_for2 (ma := .f) (mb := .f) (Γl := fun (x_b2 : D) => [.val x_widths, .val x_load, .val x_script, .own x_b2, .no, .no, .no, .no, .no]) (evi_enum (ev_val rfl)) (.keep (.keep (.keep (.keep (.skip (.skip (.skip (.skip (.skip .nil))))))))) (fun x_b2 x_d5 x_e6 =>
  (bg2_nn (b_seq (bp_set (i := 6) ev_int) fun x_lost7 =>
  (b_seq (bp_for2 (ma := .f) (mb := .f) (Γl := fun (x_b8 : D) => [.val x_widths, .val x_load, .val x_script, .own x_b2, .val x_d5, .val x_e6, .val x_b8, .no, .no]) (evi_enum (ev_val rfl)) (.keep (.keep (.keep (.keep (.keep (.keep (.keep (.skip (.skip .nil))))))))) (fun x_b8 x_d11 x_e12 =>
  (bg2_nn (b_seq (bp_augAdd (i := 6) (ev_val rfl) (ev_opM opM_mul (ev_val rfl) (ev_opS opS_sub (ev_opP opP_ix (ev_val rfl) (ev_val rfl)) (ev_opP opP_ix (ev_val rfl) (ev_val rfl))))) fun x_lost13 =>
  (bp_end (.keep (.keep (.keep (.keep (.keep (.keep (.keep (.skip (.skip .nil)))))))))))))) fun x_b8 =>
  (b_seq (bp_app (i := 3) rfl rfl (ev_opS opS_sub (ev_opP opP_ix (ev_val rfl) (ev_val rfl)) (ev_val rfl))) fun x_held14 =>
  (bp_end (.keep (.keep (.keep (.keep (.skip (.skip (.skip (.skip (.skip .nil)))))))))))))))) fun x_b2 =>
  (b_freeze 3 rfl (bd_ret (ev_clM cM_tuple (evl_cons (ev_val rfl) evl_nil)))))))

abbrev s_Building_width_rows : Stmt := inClass (top 22) 5
abbrev N_Building_width_rows : List Str := ["self"]
theorem sc_Building_width_rows : FnScope N_Building_width_rows ["self"] (defScope s_Building_width_rows) := ⟨rfl, rfl, rfl, by decide +kernel, rfl, by decide +kernel, by decide +kernel⟩
theorem ok_Building_width_rows {f : Addr} {fd : FuncData} (F : Fun K "width_rows" "Building.width_rows" s_Building_width_rows f fd) (TX : Txt K mg C) : FnOk P w K mg base CX0 1 f fd ["self"] (spU ⟨K, C⟩ [.f] (pur (f1 m_Building_width_rows))) := by
  have nd := sc_Building_width_rows.nd
  refine fn_ok (T := ⟨K, C⟩) F sc_Building_width_rows rfl (by decide) (fun cdv A outer s H E hr => ?_)
  have hu := hr.units
  refine ⟨_, (pss_one (ps_ret (pe_fld (pv 0) rfl))), fun ds hds => ?_⟩
  match ds, hds with
  | [x_self], _ =>
    refine bv_pur ?_
    show B _ _ _ (m_Building_width_rows x_self) _
    unfold m_Building_width_rows
    exact (bn_of (bd_ret (ev_fld TX.cl_Building TX.na_Building__widths (ev_val rfl))))

abbrev s_after : Stmt := top 59
abbrev N_after : List Str := ["building", "load", "script"]
theorem sc_after : FnScope N_after ["building", "load", "script"] (defScope s_after) := ⟨rfl, rfl, rfl, by decide +kernel, rfl, by decide +kernel, by decide +kernel⟩
theorem ok_after {f : Addr} {fd : FuncData} (F : Fun K "after" "after" s_after f fd) (TX : Txt K mg C) (C_require : Cl P w K mg base 1 "require" ["holds", "name"] (spU ⟨K, C⟩ [.f, .f] (pur (f2 m_require)))) (C_is_table : Cl P w K mg base 3 "is_table" ["value", "size", "least", "most"] (spU ⟨K, C⟩ [.h, .f, .f, .f] (pur (f4 m_is_table)))) (C_require_building : Cl P w K mg base 2 "require_building" ["building"] (spU ⟨K, C⟩ [.f] (pur (f1 m_require_building)))) (C_require_load : Cl P w K mg base 4 "require_load" ["building", "load", "name"] (spU ⟨K, C⟩ [.f, .f, .f] (pur (f3 m_require_load)))) (C_shifted : Cl P w K mg base 1 "shifted" ["widths", "load", "script"] (spU ⟨K, C⟩ [.f, .f, .f] (pur (f3 m_shifted)))) (C_Building_width_rows : Ml P w K mg base 1 (C "Building") "width_rows" ["self"] (spU ⟨K, C⟩ [.f] (pur (f1 m_Building_width_rows)))) : FnOk P w K mg base CX0 5 f fd ["building", "load", "script"] (spU ⟨K, C⟩ [.f, .f, .f] (pur (f3 m_after))) := by
  have nd := sc_after.nd
  refine fn_ok (T := ⟨K, C⟩) F sc_after rfl (by decide) (fun cdv A outer s H E hr => ?_)
  have hu := hr.units
  refine ⟨_, (pss_cons (ps_expr (pe_cl C_require_building hr rfl (pa_cons (pv 0) pa_nil)))
  (pss_cons (ps_expr (pe_cl C_require_load hr rfl (pa_cons (pv 0) (pa_cons (pv 1) (pa_cons pe_str pa_nil)))))
  (pss_cons (ps_expr (pe_cl C_require hr rfl (pa_cons (pe_cl C_is_table hr rfl (pa_cons (pv 2) (pa_cons (pe_fld (pv 0) rfl) (pa_cons (pe_un un_neg (pe_gint rfl TX.g_MOST_VENTS)) (pa_cons (pe_gint rfl TX.g_MOST_VENTS) pa_nil))))) (pa_cons pe_str pa_nil))))
  (pss_one (ps_ret (pe_cl C_shifted hr rfl (pa_cons (pe_ml0 (pv 0) TX.cl_Building C_Building_width_rows hr) (pa_cons (pv 1) (pa_cons (pv 2) pa_nil))))))))), fun ds hds => ?_⟩
  match ds, hds with
  | [x_building, x_load, x_script], _ =>
    refine bv_pur ?_
    show B _ _ _ (m_after x_building x_load x_script) _
    unfold m_after
    exact (bn_of (b_seq (bp_drop (md := .h) (ev_callO rfl (eva_cons (ev_val rfl) eva_nil))) fun _ =>
  (b_seq (bp_drop (md := .h) (ev_callO rfl (eva_cons (ev_val rfl) (eva_cons (ev_val rfl) (eva_cons ev_str eva_nil))))) fun _ =>
  (b_seq (bp_drop (md := .h) (ev_callO rfl (eva_cons (ev_callO rfl (eva_cons (ev_val rfl) (eva_cons (ev_fld TX.cl_Building TX.na_Building_rooms (ev_val rfl)) (eva_cons (ev_neg ev_int) (eva_cons ev_int eva_nil))))) (eva_cons ev_str eva_nil)))) fun _ =>
  (bd_ret (ev_callO rfl (eva_cons (ev_meth (T := ⟨K, C⟩) rfl (ev_val rfl) eva_nil) (eva_cons (ev_val rfl) (eva_cons (ev_val rfl) eva_nil)))))))))

abbrev s_law_ints : Stmt := top 68
abbrev N_law_ints : List Str := ["value", "size", "entry"]
theorem sc_law_ints : FnScope N_law_ints ["value", "size"] (defScope s_law_ints) := ⟨rfl, rfl, rfl, by decide +kernel, rfl, by decide +kernel, by decide +kernel⟩
theorem ok_law_ints {f : Addr} {fd : FuncData} (F : Fun K "_law_ints" "_law_ints" s_law_ints f fd) (TX : Txt K mg C) : FnOk P w K mg base CX0 1 f fd ["value", "size"] (spU ⟨K, C⟩ [.h, .f] (pur (f2 m_law_ints))) := by
  have nd := sc_law_ints.nd
  refine fn_ok (T := ⟨K, C⟩) F sc_law_ints rfl (by decide) (fun cdv A outer s H E hr => ?_)
  have hu := hr.units
  refine ⟨_, (pss_cons (ps_if (PW.pt (pw_or (pt_not (pt_val (pe_callB call_isi rfl TX.b_isinstance b0_isinstance (pa_cons (pv 0) (pa_cons (pe_bltn (v := .ty "tuple") rfl TX.b_tuple b0_tuple rfl) pa_nil))))) (pw_or1 (pt_cmpR (op_neD hu) (pe_callB cl_len rfl TX.b_len b0_len (pa_cons (pv 0) pa_nil)) (pv 1) (nomark _)))))
  (pss_one (ps_ret pe_bl))
  pss_nil)
  (pss_cons (ps_for PassesOwn.never rfl (pi_seqK (pv 0)) (pg_name (i := 2) nd rfl (Or.inl rfl))
  (pss_cons (ps_if (PW.pt (pw_or (pt_not (pt_val (pe_callB call_isi rfl TX.b_isinstance b0_isinstance (pa_cons (pv 2) (pa_cons (pe_bltn (v := .ty "int") rfl TX.b_int b0_int rfl) pa_nil))))) (pw_or1 (pt_val (pe_callB call_isi rfl TX.b_isinstance b0_isinstance (pa_cons (pv 2) (pa_cons (pe_bltn (v := .ty "bool") rfl TX.b_bool b0_bool rfl) pa_nil)))))))
  (pss_one (ps_ret pe_bl))
  pss_nil)
  pss_nil))
  (pss_one (ps_ret pe_bl)))), fun ds hds => ?_⟩
  match ds, hds with
  | [x_value, x_size], _ =>
    refine bv_pur ?_
    show B _ _ _ (m_law_ints x_value x_size) _
    unfold m_law_ints
    exact (bn_of (bd_ifx0 (evt_or (evt_not (evt_B (ev_isi (ev_bor rfl)))) (evt_test (ev_opS opS_ne (ev_clS cS_len (evl_cons (ev_bor rfl) evl_nil)) (ev_val rfl))))
  (bd_ret ev_bl)
  (bd_seqx (bt_for (md := .b) (Γl := fun (x_b1 : Unit) => [.bor x_value, .val x_size, .no]) (evi_seq (ev_borB rfl)) (.keep (.keep (.skip .nil))) (fun x_b1 x_d3 =>
  (bg_name (b_ifx0 (evt_or (evt_not (evt_B (ev_isi (ev_bor rfl)))) (evt_B (ev_isi (ev_bor rfl))))
  (bt_ret' ev_bl)
  (bt_end (.keep (.keep (.skip .nil)))))))) fun x_b1 =>
  (bd_ret ev_bl))))

abbrev s_law_vented : Stmt := top 74
abbrev N_law_vented : List Str := ["script", "building", "table", "ducts", "rooms", "load", "times", "passed", "stream", "k", "due", "gains", "told", "a"]
theorem sc_law_vented : FnScope N_law_vented ["script", "building", "table", "ducts"] (defScope s_law_vented) := ⟨rfl, rfl, rfl, by decide +kernel, rfl, by decide +kernel, by decide +kernel⟩
theorem ok_law_vented {f : Addr} {fd : FuncData} (F : Fun K "_law_vented" "_law_vented" s_law_vented f fd) (TX : Txt K mg C) (C_law_cell : Cl P w K mg base 1 "_law_cell" ["script", "k"] (spU ⟨K, C⟩ [.f, .f] (pur (f2 m_law_cell)))) (C_law_numbers : Cl P w K mg base 2 "_law_numbers" ["cell", "count", "least", "most"] (spU ⟨K, C⟩ [.f, .f, .f, .f] (pur (f4 m_law_numbers)))) (C_script_stream : Cl P w K mg base 4 "script_stream" ["building", "script"] (spU ⟨K, C⟩ [.f, .f] (pur (f2 m_script_stream)))) (C_law_after : Cl P w K mg base 1 "_law_after" ["table", "load", "script"] (spU ⟨K, C⟩ [.f, .f, .f] (pur (f3 m_law_after)))) (C_gains_of : Cl P w K mg base 6 "gains_of" ["building", "bounds", "stream"] (spU ⟨K, C⟩ [.f, .f, .f] (pur (f3 m_gains_of)))) (C_after : Cl P w K mg base 5 "after" ["building", "load", "script"] (spU ⟨K, C⟩ [.f, .f, .f] (pur (f3 m_after)))) (C_law_ints : Cl P w K mg base 1 "_law_ints" ["value", "size"] (spU ⟨K, C⟩ [.h, .f] (pur (f2 m_law_ints)))) : FnOk P w K mg base CX0 7 f fd ["script", "building", "table", "ducts"] (spU ⟨K, C⟩ [.f, .f, .f, .f] (pur (f4 m_law_vented))) := by
  have nd := sc_law_vented.nd
  refine fn_ok (T := ⟨K, C⟩) F sc_law_vented rfl (by decide) (fun cdv A outer s H E hr => ?_)
  have hu := hr.units
  refine ⟨_, (pss_cons (ps_set (i := 4) nd rfl (Or.inl rfl) (pe_fld (pv 1) rfl))
  (pss_cons (ps_set (i := 5) nd rfl (Or.inr rfl) (pe_cl C_law_numbers hr rfl (pa_cons (pe_cl C_law_cell hr rfl (pa_cons (pv 0) (pa_cons pe_int pa_nil))) (pa_cons (pv 4) (pa_cons (pe_un un_neg pe_int) (pa_cons pe_int pa_nil))))))
  (pss_cons (ps_set (i := 6) nd rfl (Or.inl rfl) (pe_cl C_law_numbers hr rfl (pa_cons (pe_cl C_law_cell hr rfl (pa_cons (pv 0) (pa_cons pe_int pa_nil))) (pa_cons (pv 4) (pa_cons (pe_un un_neg pe_int) (pa_cons pe_int pa_nil))))))
  (pss_cons (ps_set (i := 7) nd rfl (Or.inl rfl) (pe_callTy call_list_of rfl TX.b_list b0_list (pa_cons (pv 6) pa_nil)))
  (pss_cons (ps_set (i := 8) nd rfl (Or.inl rfl) (pe_cl C_script_stream hr rfl (pa_cons (pv 1) (pa_cons (pv 7) pa_nil))))
  (pss_cons (ps_if (PW.pt (pw_or (pt_cmpR (op_neD hu) (pv 7) (pv 6) (nomark _)) (pw_or1 (pt_not (pt_val (pe_cl C_law_ints hr rfl (pa_cons (pv 8) (pa_cons (pe_callB cl_len rfl TX.b_len b0_len (pa_cons (pv 3) pa_nil)) pa_nil))))))))
  (pss_one (ps_ret pe_bl))
  pss_nil)
  (pss_cons (ps_for PassesOwn.never rfl (pi_range1 rfl TX.b_range (pa_cons (pe_callB cl_len rfl TX.b_len b0_len (pa_cons (pv 3) pa_nil)) pa_nil)) (pg_name (i := 9) nd rfl (Or.inl rfl))
  (pss_cons (ps_if (pt_cmpR (op_neD hu) (pe_ix (ix_A hu) (pv 8) (pv 9) (fun _ _ => rfl)) (pe_op op_mulA (pe_ix (ix_A hu) (pe_ix (ix_A hu) (pv 3) (pv 9) (fun _ _ => rfl)) pe_int (fun _ _ => rfl)) (pe_op op_sub (pe_ix (ix_A hu) (pv 6) (pe_ix (ix_A hu) (pe_ix (ix_A hu) (pv 3) (pv 9) (fun _ _ => rfl)) pe_int (fun _ _ => rfl)) (fun _ _ => rfl)) (pe_ix (ix_A hu) (pv 6) (pe_ix (ix_A hu) (pe_ix (ix_A hu) (pv 3) (pv 9) (fun _ _ => rfl)) pe_int (fun _ _ => rfl)) (fun _ _ => rfl)))) (nomark _))
  (pss_one (ps_ret pe_bl))
  pss_nil)
  pss_nil))
  (pss_cons (ps_set (i := 10) nd rfl (Or.inl rfl) (pe_cl C_law_after hr rfl (pa_cons (pv 2) (pa_cons (pv 5) (pa_cons (pv 6) pa_nil)))))
  (pss_cons (ps_set (i := 11) nd rfl (Or.inr rfl) (pe_cl C_gains_of hr rfl (pa_cons (pv 1) (pa_cons (pe_op op_mulA (pe_lst (pa_cons (pe_tup (pa_cons (pe_un un_neg pe_int) (pa_cons pe_int pa_nil))) pa_nil)) (pe_callB cl_len rfl TX.b_len b0_len (pa_cons (pv 3) pa_nil))) (pa_cons (pv 8) pa_nil)))))
  (pss_cons (ps_if (PW.pt (pw_or (pt_not (pt_val (pe_cl C_law_ints hr rfl (pa_cons (pv 11) (pa_cons (pv 4) pa_nil))))) (pw_or1 (pt_cmpR (op_neD hu) (pe_lc (own := [("a", 13)]) (g := (gName 13)) (tt := tYes) (te := (tOp (rAddA K) (tOp (rIxA K) (tVar 5) (tVar 13)) (tOp (rIxA K) (tVar 11) (tVar 13)))) rfl nd (pi_range1 rfl TX.b_range (pa_cons (pv 4) pa_nil)) (blkOk_by (own := [("a", 13)]) (N := N_law_vented) (sc := defScope s_law_vented) (by decide +kernel)) (fun _ _ _ _ _ => (pg_name (i := 13) nd rfl (Or.inl rfl))) (fun _ _ _ _ _ => pts_nil) (fun _ _ _ _ _ => (pe_op op_addA (pe_ix (ix_A hu) (pv 5) (pv 13) (fun _ _ => rfl)) (pe_ix (ix_A hu) (pv 11) (pv 13) (fun _ _ => rfl))))) (pv 10) (nomark _)))))
  (pss_one (ps_ret pe_bl))
  pss_nil)
  (pss_cons (ps_set (i := 12) nd rfl (Or.inl rfl) (pe_cl C_after hr rfl (pa_cons (pv 1) (pa_cons (pv 5) (pa_cons (pv 6) pa_nil)))))
  (pss_one (ps_ret (pe_and (pe_cl C_law_ints hr rfl (pa_cons (pv 12) (pa_cons (pv 4) pa_nil))) (pe_one (pe_cmpR (op_eqD hu) (pe_callTy call_list_of rfl TX.b_list b0_list (pa_cons (pv 12) pa_nil)) (pv 10) (nomark _))))))))))))))))), fun ds hds => ?_⟩
  match ds, hds with
  | [x_script, x_building, x_table, x_ducts], _ =>
    refine bv_pur ?_
    show B _ _ _ (m_law_vented x_script x_building x_table x_ducts) _
    unfold m_law_vented
    exact (bn_of (b_seq (bp_set (i := 4) (ev_fld TX.cl_Building TX.na_Building_rooms (ev_val rfl))) fun x_rooms1 =>
  (b_seq (bp_set (i := 5) (ev_callO rfl (eva_cons (ev_callO rfl (eva_cons (ev_val rfl) (eva_cons ev_int eva_nil))) (eva_cons (ev_val rfl) (eva_cons (ev_neg ev_int) (eva_cons ev_int eva_nil)))))) fun x_load2 =>
  (b_seq (bp_set (i := 6) (ev_callO rfl (eva_cons (ev_callO rfl (eva_cons (ev_val rfl) (eva_cons ev_int eva_nil))) (eva_cons (ev_val rfl) (eva_cons (ev_neg ev_int) (eva_cons ev_int eva_nil)))))) fun x_times3 =>
  (b_seq (bp_set (i := 7) (ev_new (evo_list (ev_val rfl)))) fun x_passed4 =>
  (b_seq (bp_set (i := 8) (ev_callO rfl (eva_cons (ev_val rfl) (eva_cons (ev_val rfl) eva_nil)))) fun x_stream5 =>
  (bd_ifx0 (evt_or (evt_test (ev_opS opS_ne (ev_val rfl) (ev_val rfl))) (evt_not (evt_B (ev_callO rfl (eva_cons (ev_val rfl) (eva_cons (ev_clS cS_len (evl_cons (ev_val rfl) evl_nil)) eva_nil))))))
  (bd_ret ev_bl)
  (bd_seqx (bt_for (md := .f) (Γl := fun (x_b6 : Unit) => [.val x_script, .val x_building, .val x_table, .val x_ducts, .val x_rooms1, .val x_load2, .val x_times3, .val x_passed4, .val x_stream5, .no, .no, .no, .no, .no]) (evi_range1 (evl_cons (ev_clS cS_len (evl_cons (ev_val rfl) evl_nil)) evl_nil)) (.keep (.keep (.keep (.keep (.keep (.keep (.keep (.keep (.keep (.skip (.skip (.skip (.skip (.skip .nil)))))))))))))) (fun x_b6 x_d8 =>
  (bg_name (b_ifx0 (evt_test (ev_opS opS_ne (ev_opP opP_ix (ev_val rfl) (ev_val rfl)) (ev_opM opM_mul (ev_opP opP_ix (ev_opP opP_ix (ev_val rfl) (ev_val rfl)) ev_int) (ev_opS opS_sub (ev_opP opP_ix (ev_val rfl) (ev_opP opP_ix (ev_opP opP_ix (ev_val rfl) (ev_val rfl)) ev_int)) (ev_opP opP_ix (ev_val rfl) (ev_opP opP_ix (ev_opP opP_ix (ev_val rfl) (ev_val rfl)) ev_int))))))
  (bt_ret' ev_bl)
  (bt_end (.keep (.keep (.keep (.keep (.keep (.keep (.keep (.keep (.keep (.skip (.skip (.skip (.skip (.skip .nil))))))))))))))))))) fun x_b6 =>
  (b_seq (bp_set (i := 10) (ev_callO rfl (eva_cons (ev_val rfl) (eva_cons (ev_val rfl) (eva_cons (ev_val rfl) eva_nil))))) fun x_due9 =>
  (b_seq (bp_set (i := 11) (ev_callO rfl (eva_cons (ev_val rfl) (eva_cons (ev_opM opM_mul (ev_new (evo_lst (evl_cons (ev_tup (evl_cons (ev_neg ev_int) (evl_cons ev_int evl_nil))) evl_nil))) (ev_clS cS_len (evl_cons (ev_val rfl) evl_nil))) (eva_cons (ev_val rfl) eva_nil))))) fun x_gains10 =>
  (bd_ifx0 (evt_or (evt_not (evt_B (ev_callO rfl (eva_cons (ev_val rfl) (eva_cons (ev_val rfl) eva_nil))))) (evt_test (ev_opS opS_ne (ev_new (evo_comp (md := .f) rfl (tin_name (by decide)) (evi_range1 (evl_cons (ev_val rfl) evl_nil)) (fun x_d11 => (bg_name (ce_all (ev_opM opM_add (ev_opP opP_ix (ev_val rfl) (ev_val rfl)) (ev_opP opP_ix (ev_val rfl) (ev_val rfl)))))))) (ev_val rfl))))
  (bd_ret ev_bl)
  (b_seq (bp_set (i := 12) (ev_callO rfl (eva_cons (ev_val rfl) (eva_cons (ev_val rfl) (eva_cons (ev_val rfl) eva_nil))))) fun x_told12 =>
  (bd_ret (ev_andV (ev_callO rfl (eva_cons (ev_val rfl) (eva_cons (ev_val rfl) eva_nil))) (ev_opS opS_eq (ev_new (evo_list (ev_val rfl))) (ev_val rfl))))))))))))))))

abbrev s_fits_air : Stmt := top 42
abbrev N_fits_air : List Str := ["building", "value", "duct", "number"]
theorem sc_fits_air : FnScope N_fits_air ["building", "value"] (defScope s_fits_air) := ⟨rfl, rfl, rfl, by decide +kernel, rfl, by decide +kernel, by decide +kernel⟩
theorem ok_fits_air {f : Addr} {fd : FuncData} (F : Fun K "fits_air" "fits_air" s_fits_air f fd) (TX : Txt K mg C) (C_is_integer : Cl P w K mg base 1 "is_integer" ["value"] (spU ⟨K, C⟩ [.h] (pur (f1 m_is_integer)))) : FnOk P w K mg base CX0 2 f fd ["building", "value"] (spU ⟨K, C⟩ [.f, .f] (pur (f2 m_fits_air))) := by
  have nd := sc_fits_air.nd
  refine fn_ok (T := ⟨K, C⟩) F sc_fits_air rfl (by decide) (fun cdv A outer s H E hr => ?_)
  have hu := hr.units
  refine ⟨_, (pss_cons (ps_if (PW.pt (pw_or (pt_not (pt_val (pe_callB call_isiT rfl TX.b_isinstance b0_isinstance (pa_cons (pv 1) (pa_cons (pe_tup (pa_cons (pe_bltn (v := .ty "list") rfl TX.b_list b0_list rfl) (pa_cons (pe_bltn (v := .ty "tuple") rfl TX.b_tuple b0_tuple rfl) pa_nil))) pa_nil))))) (pw_or1 (pt_cmpR (op_neD hu) (pe_callB cl_len rfl TX.b_len b0_len (pa_cons (pv 1) pa_nil)) (pe_callB cl_len rfl TX.b_len b0_len (pa_cons (pe_fld (pv 0) rfl) pa_nil)) (nomark _)))))
  (pss_one (ps_ret pe_bl))
  pss_nil)
  (pss_cons (ps_for PassesOwn.never rfl (pi_zipK rfl TX.b_zip (pa_cons (pe_fld (pv 0) rfl) (pa_cons (pv 1) pa_nil))) (pg_tup rfl (pgs_cons (pg_name (i := 2) nd rfl (Or.inl rfl)) (pgs_cons (pg_name (i := 3) nd rfl (Or.inl rfl)) pgs_nil)))
  (pss_cons (ps_if (PW.pt (pw_or (pt_not (pt_val (pe_cl C_is_integer hr rfl (pa_cons (pv 3) pa_nil)))) (pw_or (pt_cmpR op_lt (pv 3) pe_int (nomark _)) (pw_or1 (pt_cmpR op_gt (pv 3) (pe_ix (ix_A hu) (pv 2) pe_int (fun _ _ => rfl)) (nomark _))))))
  (pss_one (ps_ret pe_bl))
  pss_nil)
  pss_nil))
  (pss_one (ps_ret pe_bl)))), fun ds hds => ?_⟩
  match ds, hds with
  | [x_building, x_value], _ =>
    refine bv_pur ?_
    show B _ _ _ (m_fits_air x_building x_value) _
    unfold m_fits_air
    exact (bn_of (bd_ifx0 (evt_or (evt_not (evt_B (ev_isi2 (ev_val rfl)))) (evt_test (ev_opS opS_ne (ev_clS cS_len (evl_cons (ev_val rfl) evl_nil)) (ev_clS cS_len (evl_cons (ev_fld TX.cl_Building TX.na_Building_ducts (ev_val rfl)) evl_nil)))))
  (bd_ret ev_bl)
  (bd_seqx (bt_for2 (ma := .f) (mb := .f) (Γl := fun (x_b1 : Unit) => [.val x_building, .val x_value, .no, .no]) (evi_zip (ev_fld TX.cl_Building TX.na_Building_ducts (ev_val rfl)) (ev_val rfl)) (.keep (.keep (.skip (.skip .nil)))) (fun x_b1 x_d4 x_e5 =>
  (bg2_nn (b_ifx0 (evt_or (evt_not (evt_B (ev_callO rfl (eva_cons (ev_val rfl) eva_nil)))) (evt_or (evt_test (ev_opS opS_lt (ev_val rfl) ev_int)) (evt_test (ev_opS opS_gt (ev_val rfl) (ev_opP opP_ix (ev_val rfl) ev_int)))))
  (bt_ret' ev_bl)
  (bt_end (.keep (.keep (.skip (.skip .nil))))))))) fun x_b1 =>
  (bd_ret ev_bl))))

abbrev s_air_holds : Stmt := top 54
abbrev N_air_holds : List Str := ["building", "low", "high", "air", "room", "number"]
theorem sc_air_holds : FnScope N_air_holds ["building", "low", "high", "air"] (defScope s_air_holds) := ⟨rfl, rfl, rfl, by decide +kernel, rfl, by decide +kernel, by decide +kernel⟩
theorem ok_air_holds {f : Addr} {fd : FuncData} (F : Fun K "air_holds" "air_holds" s_air_holds f fd) (TX : Txt K mg C) (C_intakes_of : Cl P w K mg base 1 "intakes_of" ["building", "air"] (spU ⟨K, C⟩ [.f, .h] (pur (f2 m_intakes_of)))) (C_fits_air : Cl P w K mg base 2 "fits_air" ["building", "value"] (spU ⟨K, C⟩ [.f, .f] (pur (f2 m_fits_air)))) : FnOk P w K mg base CX0 3 f fd ["building", "low", "high", "air"] (spU ⟨K, C⟩ [.f, .f, .f, .f] (pur (f4 m_air_holds))) := by
  have nd := sc_air_holds.nd
  refine fn_ok (T := ⟨K, C⟩) F sc_air_holds rfl (by decide) (fun cdv A outer s H E hr => ?_)
  have hu := hr.units
  refine ⟨_, (pss_cons (ps_if (PW.pt (pw_or (pt_not (pt_val (pe_callB call_isi rfl TX.b_isinstance b0_isinstance (pa_cons (pv 3) (pa_cons (pe_bltn (v := .ty "tuple") rfl TX.b_tuple b0_tuple rfl) pa_nil))))) (pw_or1 (pt_not (pt_val (pe_cl C_fits_air hr rfl (pa_cons (pv 0) (pa_cons (pv 3) pa_nil))))))))
  (pss_one (ps_ret pe_bl))
  pss_nil)
  (pss_cons (ps_for PassesOwn.never rfl (pi_enumK rfl TX.b_enumerate (pa_cons (pe_cl C_intakes_of hr rfl (pa_cons (pv 0) (pa_cons (pv 3) pa_nil))) pa_nil)) (pg_tup rfl (pgs_cons (pg_name (i := 4) nd rfl (Or.inl rfl)) (pgs_cons (pg_name (i := 5) nd rfl (Or.inl rfl)) pgs_nil)))
  (pss_cons (ps_if (PW.pt (pw_or (pt_cmpR op_lt (pv 5) (pe_ix (ix_A hu) (pv 1) (pv 4) (fun _ _ => rfl)) (nomark _)) (pw_or1 (pt_cmpR op_gt (pv 5) (pe_ix (ix_A hu) (pv 2) (pv 4) (fun _ _ => rfl)) (nomark _)))))
  (pss_one (ps_ret pe_bl))
  pss_nil)
  pss_nil))
  (pss_one (ps_ret pe_bl)))), fun ds hds => ?_⟩
  match ds, hds with
  | [x_building, x_low, x_high, x_air], _ =>
    refine bv_pur ?_
    show B _ _ _ (m_air_holds x_building x_low x_high x_air) _
    unfold m_air_holds
    exact (bn_of (bd_ifx0 (evt_or (evt_not (evt_B (ev_isi (ev_val rfl)))) (evt_not (evt_B (ev_callO rfl (eva_cons (ev_val rfl) (eva_cons (ev_val rfl) eva_nil))))))
  (bd_ret ev_bl)
  (bd_seqx (bt_for2 (ma := .f) (mb := .f) (Γl := fun (x_b1 : Unit) => [.val x_building, .val x_low, .val x_high, .val x_air, .no, .no]) (evi_enum (ev_callO rfl (eva_cons (ev_val rfl) (eva_cons (ev_val rfl) eva_nil)))) (.keep (.keep (.keep (.keep (.skip (.skip .nil)))))) (fun x_b1 x_d4 x_e5 =>
  (bg2_nn (b_ifx0 (evt_or (evt_test (ev_opS opS_lt (ev_val rfl) (ev_opP opP_ix (ev_val rfl) (ev_val rfl)))) (evt_test (ev_opS opS_gt (ev_val rfl) (ev_opP opP_ix (ev_val rfl) (ev_val rfl)))))
  (bt_ret' ev_bl)
  (bt_end (.keep (.keep (.keep (.keep (.skip (.skip .nil))))))))))) fun x_b1 =>
  (bd_ret ev_bl))))

abbrev s_inside : Stmt := top 52
abbrev N_inside : List Str := ["building", "rooms", "duct"]
theorem sc_inside : FnScope N_inside ["building", "rooms"] (defScope s_inside) := ⟨rfl, rfl, rfl, by decide +kernel, rfl, by decide +kernel, by decide +kernel⟩
theorem ok_inside {f : Addr} {fd : FuncData} (F : Fun K "inside" "inside" s_inside f fd) (TX : Txt K mg C) : FnOk P w K mg base CX0 1 f fd ["building", "rooms"] (spU ⟨K, C⟩ [.f, .f] (pur (f2 m_inside))) := by
  have nd := sc_inside.nd
  refine fn_ok (T := ⟨K, C⟩) F sc_inside rfl (by decide) (fun cdv A outer s H E hr => ?_)
  have hu := hr.units
  refine ⟨_, (pss_one (ps_ret (pe_callB (cl_sum rfl) rfl TX.b_sum b0_sum (pa_cons (pe_lc (own := [("duct", 2)]) (g := (gName 2)) (tt := (tAnd (tTest (tOp (rInA K) (tOp (rIxA K) (tVar 2) (tC (.int 0))) (tVar 1))) (tTest (tOp (rInA K) (tOp (rIxA K) (tVar 2) (tC (.int 1))) (tVar 1))))) (te := (tOp (rIxA K) (tVar 2) (tC (.int 2)))) rfl nd (pi_seqK (pe_fld (pv 0) rfl)) (blkOk_by (own := [("duct", 2)]) (N := N_inside) (sc := defScope s_inside) (by decide +kernel)) (fun _ _ _ _ _ => (pg_name (i := 2) nd rfl (Or.inl rfl))) (fun _ _ _ _ _ => (pts_one (PW.pt (pw_and (pt_cmpR (op_inA hu) (pe_ix (ix_A hu) (pv 2) pe_int (fun _ _ => rfl)) (pv 1) (by rfl)) (pw_and1 (pt_cmpR (op_inA hu) (pe_ix (ix_A hu) (pv 2) pe_int (fun _ _ => rfl)) (pv 1) (by rfl))))))) (fun _ _ _ _ _ => (pe_ix (ix_A hu) (pv 2) pe_int (fun _ _ => rfl)))) pa_nil)))), fun ds hds => ?_⟩
  match ds, hds with
  | [x_building, x_rooms], _ =>
    refine bv_pur ?_
    show B _ _ _ (m_inside x_building x_rooms) _
    unfold m_inside
    exact (bn_of (bd_ret (ev_clS cS_sum (evl_cons (ev_new (evo_comp (md := .f) rfl (tin_name (by decide)) (evi_seq (ev_fld TX.cl_Building TX.na_Building_ducts (ev_val rfl))) (fun x_d1 => (bg_name (ce_if (evt_and (evt_test (ev_opS opS_in (ev_opP opP_ix (ev_val rfl) ev_int) (ev_val rfl))) (evt_test (ev_opS opS_in (ev_opP opP_ix (ev_val rfl) ev_int) (ev_val rfl)))) (ev_opP opP_ix (ev_val rfl) ev_int)))))) evl_nil))))

abbrev s_touching : Stmt := top 53
abbrev N_touching : List Str := ["building", "rooms", "duct"]
theorem sc_touching : FnScope N_touching ["building", "rooms"] (defScope s_touching) := ⟨rfl, rfl, rfl, by decide +kernel, rfl, by decide +kernel, by decide +kernel⟩
theorem ok_touching {f : Addr} {fd : FuncData} (F : Fun K "touching" "touching" s_touching f fd) (TX : Txt K mg C) : FnOk P w K mg base CX0 1 f fd ["building", "rooms"] (spU ⟨K, C⟩ [.f, .f] (pur (f2 m_touching))) := by
  have nd := sc_touching.nd
  refine fn_ok (T := ⟨K, C⟩) F sc_touching rfl (by decide) (fun cdv A outer s H E hr => ?_)
  have hu := hr.units
  refine ⟨_, (pss_one (ps_ret (pe_callB (cl_sum rfl) rfl TX.b_sum b0_sum (pa_cons (pe_lc (own := [("duct", 2)]) (g := (gName 2)) (tt := (tOr (tTest (tOp (rInA K) (tOp (rIxA K) (tVar 2) (tC (.int 0))) (tVar 1))) (tTest (tOp (rInA K) (tOp (rIxA K) (tVar 2) (tC (.int 1))) (tVar 1))))) (te := (tOp (rIxA K) (tVar 2) (tC (.int 2)))) rfl nd (pi_seqK (pe_fld (pv 0) rfl)) (blkOk_by (own := [("duct", 2)]) (N := N_touching) (sc := defScope s_touching) (by decide +kernel)) (fun _ _ _ _ _ => (pg_name (i := 2) nd rfl (Or.inl rfl))) (fun _ _ _ _ _ => (pts_one (PW.pt (pw_or (pt_cmpR (op_inA hu) (pe_ix (ix_A hu) (pv 2) pe_int (fun _ _ => rfl)) (pv 1) (by rfl)) (pw_or1 (pt_cmpR (op_inA hu) (pe_ix (ix_A hu) (pv 2) pe_int (fun _ _ => rfl)) (pv 1) (by rfl))))))) (fun _ _ _ _ _ => (pe_ix (ix_A hu) (pv 2) pe_int (fun _ _ => rfl)))) pa_nil)))), fun ds hds => ?_⟩
  match ds, hds with
  | [x_building, x_rooms], _ =>
    refine bv_pur ?_
    show B _ _ _ (m_touching x_building x_rooms) _
    unfold m_touching
    exact (bn_of (bd_ret (ev_clS cS_sum (evl_cons (ev_new (evo_comp (md := .f) rfl (tin_name (by decide)) (evi_seq (ev_fld TX.cl_Building TX.na_Building_ducts (ev_val rfl))) (fun x_d1 => (bg_name (ce_if (evt_or (evt_test (ev_opS opS_in (ev_opP opP_ix (ev_val rfl) ev_int) (ev_val rfl))) (evt_test (ev_opS opS_in (ev_opP opP_ix (ev_val rfl) ev_int) (ev_val rfl)))) (ev_opP opP_ix (ev_val rfl) ev_int)))))) evl_nil))))

abbrev s_shows_intakes : Stmt := top 55
abbrev N_shows_intakes : List Str := ["building", "low", "high", "paper", "room"]
theorem sc_shows_intakes : FnScope N_shows_intakes ["building", "low", "high", "paper"] (defScope s_shows_intakes) := ⟨rfl, rfl, rfl, by decide +kernel, rfl, by decide +kernel, by decide +kernel⟩
theorem ok_shows_intakes {f : Addr} {fd : FuncData} (F : Fun K "shows_intakes" "shows_intakes" s_shows_intakes f fd) (TX : Txt K mg C) (C_is_between : Cl P w K mg base 2 "is_between" ["value", "least", "most"] (spU ⟨K, C⟩ [.h, .f, .f] (pur (f3 m_is_between)))) (C_require_building : Cl P w K mg base 2 "require_building" ["building"] (spU ⟨K, C⟩ [.f] (pur (f1 m_require_building)))) (C_is_paper : Cl P w K mg base 1 "is_paper" ["value", "kind", "size"] (spU ⟨K, C⟩ [.h, .f, .f] (pur (f3 m_is_paper)))) (C_is_room_set : Cl P w K mg base 5 "is_room_set" ["value", "rooms"] (spU ⟨K, C⟩ [.f, .f] (pur (f2 m_is_room_set)))) (C_require_bounds_intakes : Cl P w K mg base 4 "require_bounds_intakes" ["building", "low", "high"] (spU ⟨K, C⟩ [.f, .f, .f] (pur (f3 m_require_bounds_intakes)))) (C_air_holds : Cl P w K mg base 3 "air_holds" ["building", "low", "high", "air"] (spU ⟨K, C⟩ [.f, .f, .f, .f] (pur (f4 m_air_holds)))) (C_inside : Cl P w K mg base 1 "inside" ["building", "rooms"] (spU ⟨K, C⟩ [.f, .f] (pur (f2 m_inside)))) (C_touching : Cl P w K mg base 1 "touching" ["building", "rooms"] (spU ⟨K, C⟩ [.f, .f] (pur (f2 m_touching)))) : FnOk P w K mg base CX0 6 f fd ["building", "low", "high", "paper"] (spU ⟨K, C⟩ [.f, .f, .f, .f] (pur (f4 m_shows_intakes))) := by
  have nd := sc_shows_intakes.nd
  refine fn_ok (T := ⟨K, C⟩) F sc_shows_intakes rfl (by decide) (fun cdv A outer s H E hr => ?_)
  have hu := hr.units
  refine ⟨_, (pss_cons (ps_expr (pe_cl C_require_building hr rfl (pa_cons (pv 0) pa_nil)))
  (pss_cons (ps_expr (pe_cl C_require_bounds_intakes hr rfl (pa_cons (pv 0) (pa_cons (pv 1) (pa_cons (pv 2) pa_nil)))))
  (pss_cons (ps_if (pt_val (pe_cl C_is_paper hr rfl (pa_cons (pv 3) (pa_cons pe_str (pa_cons pe_int pa_nil)))))
  (pss_one (ps_ret (pe_cl C_air_holds hr rfl (pa_cons (pv 0) (pa_cons (pv 1) (pa_cons (pv 2) (pa_cons (pe_ix (ix_A hu) (pv 3) pe_int (fun _ _ => rfl)) pa_nil)))))))
  pss_nil)
  (pss_cons (ps_if (pt_val (pe_cl C_is_paper hr rfl (pa_cons (pv 3) (pa_cons pe_str (pa_cons pe_int pa_nil)))))
  (pss_cons (ps_set (i := 4) nd rfl (Or.inl rfl) (pe_ix (ix_A hu) (pv 3) pe_int (fun _ _ => rfl)))
  (pss_one (ps_ret (pe_and (pe_cl C_is_between hr rfl (pa_cons (pv 4) (pa_cons pe_int (pa_cons (pe_op op_sub (pe_fld (pv 0) rfl) pe_int) pa_nil)))) (pe_one (pe_cmpR op_gt (pe_ix (ix_A hu) (pv 1) (pv 4) (fun _ _ => rfl)) (pe_ix (ix_A hu) (pv 2) (pv 4) (fun _ _ => rfl)) (nomark _)))))))
  pss_nil)
  (pss_cons (ps_if (PW.pt (pw_and (pt_val (pe_cl C_is_paper hr rfl (pa_cons (pv 3) (pa_cons pe_str (pa_cons pe_int pa_nil))))) (pw_and1 (pt_val (pe_cl C_is_room_set hr rfl (pa_cons (pe_ix (ix_A hu) (pv 3) pe_int (fun _ _ => rfl)) (pa_cons (pe_fld (pv 0) rfl) pa_nil)))))))
  (pss_one (ps_ret (pe_cmpR op_gt (pe_cl C_inside hr rfl (pa_cons (pv 0) (pa_cons (pe_ix (ix_A hu) (pv 3) pe_int (fun _ _ => rfl)) pa_nil))) (pe_callB (cl_sum rfl) rfl TX.b_sum b0_sum (pa_cons (pe_lc (own := [("room", 4)]) (g := (gName 4)) (tt := tYes) (te := (tOp (rIxA K) (tVar 2) (tVar 4))) rfl nd (pi_seqK (pe_ix (ix_A hu) (pv 3) pe_int (fun _ _ => rfl))) (blkOk_by (own := [("room", 4)]) (N := N_shows_intakes) (sc := defScope s_shows_intakes) (by decide +kernel)) (fun _ _ _ _ _ => (pg_name (i := 4) nd rfl (Or.inl rfl))) (fun _ _ _ _ _ => pts_nil) (fun _ _ _ _ _ => (pe_ix (ix_A hu) (pv 2) (pv 4) (fun _ _ => rfl)))) pa_nil)) (nomark _))))
  pss_nil)
  (pss_cons (ps_if (PW.pt (pw_and (pt_val (pe_cl C_is_paper hr rfl (pa_cons (pv 3) (pa_cons pe_str (pa_cons pe_int pa_nil))))) (pw_and1 (pt_val (pe_cl C_is_room_set hr rfl (pa_cons (pe_ix (ix_A hu) (pv 3) pe_int (fun _ _ => rfl)) (pa_cons (pe_fld (pv 0) rfl) pa_nil)))))))
  (pss_one (ps_ret (pe_cmpR op_gt (pe_callB (cl_sum rfl) rfl TX.b_sum b0_sum (pa_cons (pe_lc (own := [("room", 4)]) (g := (gName 4)) (tt := tYes) (te := (tOp (rIxA K) (tVar 1) (tVar 4))) rfl nd (pi_seqK (pe_ix (ix_A hu) (pv 3) pe_int (fun _ _ => rfl))) (blkOk_by (own := [("room", 4)]) (N := N_shows_intakes) (sc := defScope s_shows_intakes) (by decide +kernel)) (fun _ _ _ _ _ => (pg_name (i := 4) nd rfl (Or.inl rfl))) (fun _ _ _ _ _ => pts_nil) (fun _ _ _ _ _ => (pe_ix (ix_A hu) (pv 1) (pv 4) (fun _ _ => rfl)))) pa_nil)) (pe_cl C_touching hr rfl (pa_cons (pv 0) (pa_cons (pe_ix (ix_A hu) (pv 3) pe_int (fun _ _ => rfl)) pa_nil))) (nomark _))))
  pss_nil)
  (pss_one (ps_ret pe_bl)))))))), fun ds hds => ?_⟩
  match ds, hds with
  | [x_building, x_low, x_high, x_paper], _ =>
    refine bv_pur ?_
    show B _ _ _ (m_shows_intakes x_building x_low x_high x_paper) _
    unfold m_shows_intakes
    exact (bn_of (b_seq (bp_drop (md := .h) (ev_callO rfl (eva_cons (ev_val rfl) eva_nil))) fun _ =>
  (b_seq (bp_drop (md := .h) (ev_callO rfl (eva_cons (ev_val rfl) (eva_cons (ev_val rfl) (eva_cons (ev_val rfl) eva_nil))))) fun _ =>
  (bd_ifx0 (evt_B (ev_callO rfl (eva_cons (ev_val rfl) (eva_cons ev_str (eva_cons ev_int eva_nil)))))
  (bd_ret (ev_callO rfl (eva_cons (ev_val rfl) (eva_cons (ev_val rfl) (eva_cons (ev_val rfl) (eva_cons (ev_opP opP_ix (ev_val rfl) ev_int) eva_nil))))))
  (bd_ifx0 (evt_B (ev_callO rfl (eva_cons (ev_val rfl) (eva_cons ev_str (eva_cons ev_int eva_nil)))))
  (b_seq (bp_set (i := 4) (ev_opP opP_ix (ev_val rfl) ev_int)) fun x_room1 =>
  (bd_ret (ev_andV (ev_callO rfl (eva_cons (ev_val rfl) (eva_cons ev_int (eva_cons (ev_opS opS_sub (ev_fld TX.cl_Building TX.na_Building_rooms (ev_val rfl)) ev_int) eva_nil)))) (ev_opS opS_gt (ev_opP opP_ix (ev_val rfl) (ev_val rfl)) (ev_opP opP_ix (ev_val rfl) (ev_val rfl))))))
  (bd_ifx0 (evt_and (evt_B (ev_callO rfl (eva_cons (ev_val rfl) (eva_cons ev_str (eva_cons ev_int eva_nil))))) (evt_B (ev_callO rfl (eva_cons (ev_opP opP_ix (ev_val rfl) ev_int) (eva_cons (ev_fld TX.cl_Building TX.na_Building_rooms (ev_val rfl)) eva_nil)))))
  (bd_ret (ev_opS opS_gt (ev_callO rfl (eva_cons (ev_val rfl) (eva_cons (ev_opP opP_ix (ev_val rfl) ev_int) eva_nil))) (ev_clS cS_sum (evl_cons (ev_new (evo_comp (md := .f) rfl (tin_name (by decide)) (evi_seq (ev_opP opP_ix (ev_val rfl) ev_int)) (fun x_d2 => (bg_name (ce_all (ev_opP opP_ix (ev_val rfl) (ev_val rfl))))))) evl_nil))))
  (bd_ifx0 (evt_and (evt_B (ev_callO rfl (eva_cons (ev_val rfl) (eva_cons ev_str (eva_cons ev_int eva_nil))))) (evt_B (ev_callO rfl (eva_cons (ev_opP opP_ix (ev_val rfl) ev_int) (eva_cons (ev_fld TX.cl_Building TX.na_Building_rooms (ev_val rfl)) eva_nil)))))
  (bd_ret (ev_opS opS_gt (ev_clS cS_sum (evl_cons (ev_new (evo_comp (md := .f) rfl (tin_name (by decide)) (evi_seq (ev_opP opP_ix (ev_val rfl) ev_int)) (fun x_d3 => (bg_name (ce_all (ev_opP opP_ix (ev_val rfl) (ev_val rfl))))))) evl_nil)) (ev_callO rfl (eva_cons (ev_val rfl) (eva_cons (ev_opP opP_ix (ev_val rfl) ev_int) eva_nil)))))
  (bd_ret ev_bl))))))))

abbrev s_law_widths : Stmt := top 66
abbrev N_law_widths : List Str := ["rooms", "ducts", "table", "a", "duct", "row"]
theorem sc_law_widths : FnScope N_law_widths ["rooms", "ducts"] (defScope s_law_widths) := ⟨rfl, rfl, rfl, by decide +kernel, rfl, by decide +kernel, by decide +kernel⟩
theorem ok_law_widths {f : Addr} {fd : FuncData} (F : Fun K "_law_widths" "_law_widths" s_law_widths f fd) (TX : Txt K mg C) : FnOk P w K mg base CX0 1 f fd ["rooms", "ducts"] (spU ⟨K, C⟩ [.f, .f] (pur (f2 m_law_widths))) := by
  have nd := sc_law_widths.nd
  refine fn_ok (T := ⟨K, C⟩) F sc_law_widths rfl (by decide) (fun cdv A outer s H E hr => ?_)
  have hu := hr.units
  refine ⟨_, (pss_cons (ps_set (i := 2) nd rfl (Or.inl rfl) (pe_lst pa_nil))
  (pss_cons (ps_for PassesOwn.never rfl (pi_range1 rfl TX.b_range (pa_cons (pv 0) pa_nil)) (pg_name (i := 3) nd rfl (Or.inl rfl))
  (pss_cons (ps_expr (pe_bm PySem.F.plainAttrs_list PySem.F.slot_list_append PySem.F.type_list_append mt_append (pv 2) (pa_cons (pe_op op_mulA (pe_lst (pa_cons pe_int pa_nil)) (pv 0)) pa_nil)))
  pss_nil))
  (pss_cons (ps_for PassesOwn.never rfl (pi_seqK (pv 1)) (pg_name (i := 4) nd rfl (Or.inl rfl))
  (pss_cons (ps_set (i := 5) nd rfl (Or.inl rfl) (pe_ix (ix_A hu) (pv 2) (pe_ix (ix_A hu) (pv 4) pe_int (fun _ _ => rfl)) (fun _ _ => rfl)))
  (pss_cons (ps_asg (pe_op op_addA (pe_ix (ix_A hu) (pv 5) (pe_ix (ix_A hu) (pv 4) pe_int (fun _ _ => rfl)) (fun _ _ => rfl)) (pe_ix (ix_A hu) (pv 4) pe_int (fun _ _ => rfl))) (pg_sub (pv 5) (pe_ix (ix_A hu) (pv 4) pe_int (fun _ _ => rfl)) (set_A hu)))
  (pss_cons (ps_set (i := 5) nd rfl (Or.inl rfl) (pe_ix (ix_A hu) (pv 2) (pe_ix (ix_A hu) (pv 4) pe_int (fun _ _ => rfl)) (fun _ _ => rfl)))
  (pss_cons (ps_asg (pe_op op_addA (pe_ix (ix_A hu) (pv 5) (pe_ix (ix_A hu) (pv 4) pe_int (fun _ _ => rfl)) (fun _ _ => rfl)) (pe_ix (ix_A hu) (pv 4) pe_int (fun _ _ => rfl))) (pg_sub (pv 5) (pe_ix (ix_A hu) (pv 4) pe_int (fun _ _ => rfl)) (set_A hu)))
  pss_nil)))))
  (pss_one (ps_ret (pv 2)))))), fun ds hds => ?_⟩
  match ds, hds with
  | [x_rooms, x_ducts], _ =>
    refine bv_pur ?_
    show B _ _ _ (m_law_widths x_rooms x_ducts) _
    unfold m_law_widths
    exact (bn_of (bnn_start (i := 2) (by simp [ctx0]) (bn_for1 (a := 3) (Γh := [.val x_rooms, .val x_ducts, .no, .no, .no, .no]) (evi_range1 (evl_cons (ev_val (i := 0) rfl) evl_nil)) (.keep (.keep (.skip (.skip (.skip (.skip .nil)))))) (by decide) (fun _ _ => bn_app rfl (evo_mulL (ev_new (evo_lst (evl_cons ev_int evl_nil))) (ev_val (i := 0) rfl)) fun _ => bnn_end (.keep (.keep (.skip (.skip (.skip (.skip .nil)))))) rfl) fun _ => bn_for1 (a := 4) (Γh := [.val x_rooms, .val x_ducts, .no, .no, .no, .no]) (evi_seq (ev_val (i := 1) rfl)) (.keep (.keep (.skip (.skip (.skip (.skip .nil)))))) (by decide) (fun _ _ => (bn_alias (j := 5) rfl (by decide) (by simp) (ev_opP opP_ix (ev_val (i := 4) rfl) ev_int) (ev_opP opP_ix (ev_val (i := 4) rfl) ev_int) (ev_opP opP_ix (ev_val (i := 4) rfl) ev_int) fun _ => (bn_alias (j := 5) rfl (by decide) (by simp) (ev_opP opP_ix (ev_val (i := 4) rfl) ev_int) (ev_opP opP_ix (ev_val (i := 4) rfl) ev_int) (ev_opP opP_ix (ev_val (i := 4) rfl) ev_int) fun _ => (bnn_end (.keep (.keep (.skip (.skip (.skip (.skip .nil)))))) rfl)))) fun _ => bn_frz rfl (bd_ret (ev_val (i := 2) rfl)))))

abbrev s_law_other_paper : Stmt := top 72
abbrev N_law_other_paper : List Str := ["paper", "tags", "others"]
theorem sc_law_other_paper : FnScope N_law_other_paper ["paper", "tags", "others"] (defScope s_law_other_paper) := ⟨rfl, rfl, rfl, by decide +kernel, rfl, by decide +kernel, by decide +kernel⟩
theorem ok_law_other_paper {f : Addr} {fd : FuncData} (F : Fun K "_law_other_paper" "_law_other_paper" s_law_other_paper f fd) (TX : Txt K mg C) : FnOk P w K mg base CX0 1 f fd ["paper", "tags", "others"] (spU ⟨K, C⟩ [.f, .f, .f] (pur (f3 m_law_other_paper))) := by
  have nd := sc_law_other_paper.nd
  refine fn_ok (T := ⟨K, C⟩) F sc_law_other_paper rfl (by decide) (fun cdv A outer s H E hr => ?_)
  have hu := hr.units
  refine ⟨_, (pss_cons (ps_if (PW.pt (pw_or (pt_not (pt_val (pe_callB call_isi rfl TX.b_isinstance b0_isinstance (pa_cons (pv 0) (pa_cons (pe_bltn (v := .ty "tuple") rfl TX.b_tuple b0_tuple rfl) pa_nil))))) (pw_or (pt_cmpR (op_neD hu) (pe_callB cl_len rfl TX.b_len b0_len (pa_cons (pv 0) pa_nil)) pe_int (nomark _)) (pw_or1 (pt_cmpR (op_notInA hu) (pe_ix (ix_A hu) (pv 0) pe_int (fun _ _ => rfl)) (pv 1) (by rfl))))))
  (pss_one (ps_ret pe_non))
  pss_nil)
  (pss_one (ps_ret (pe_tup (pa_cons (pe_ix (ix_A hu) (pv 2) (pe_bm PySem.F.plainAttrs_list PySem.F.slot_list_index PySem.F.type_list_index mt_index (pv 1) (pa_cons (pe_ix (ix_A hu) (pv 0) pe_int (fun _ _ => rfl)) pa_nil)) (fun _ _ => rfl)) (pa_cons (pe_ix (ix_A hu) (pv 0) pe_int (fun _ _ => rfl)) pa_nil)))))), fun ds hds => ?_⟩
  match ds, hds with
  | [x_paper, x_tags, x_others], _ =>
    refine bv_pur ?_
    show B _ _ _ (m_law_other_paper x_paper x_tags x_others) _
    unfold m_law_other_paper
    exact (bn_of (bd_ifx0 (evt_or (evt_not (evt_B (ev_isi (ev_val rfl)))) (evt_or (evt_test (ev_opS opS_ne (ev_clS cS_len (evl_cons (ev_val rfl) evl_nil)) ev_int)) (evt_test (ev_opS opS_notIn (ev_opP opP_ix (ev_val rfl) ev_int) (ev_val rfl)))))
  (bd_ret ev_non)
  (bd_ret (ev_tup (evl_cons (ev_opP opP_ix (ev_val rfl) (ev_index (ev_val rfl) (ev_opP opP_ix (ev_val rfl) ev_int))) (evl_cons (ev_opP opP_ix (ev_val rfl) ev_int) evl_nil))))))

abbrev s_law_air : Stmt := top 69
abbrev N_law_air : List Str := ["ducts", "value", "k"]
theorem sc_law_air : FnScope N_law_air ["ducts", "value"] (defScope s_law_air) := ⟨rfl, rfl, rfl, by decide +kernel, rfl, by decide +kernel, by decide +kernel⟩
theorem ok_law_air {f : Addr} {fd : FuncData} (F : Fun K "_law_air" "_law_air" s_law_air f fd) (TX : Txt K mg C) (C_law_ints : Cl P w K mg base 1 "_law_ints" ["value", "size"] (spU ⟨K, C⟩ [.h, .f] (pur (f2 m_law_ints)))) : FnOk P w K mg base CX0 2 f fd ["ducts", "value"] (spU ⟨K, C⟩ [.f, .f] (pur (f2 m_law_air))) := by
  have nd := sc_law_air.nd
  refine fn_ok (T := ⟨K, C⟩) F sc_law_air rfl (by decide) (fun cdv A outer s H E hr => ?_)
  have hu := hr.units
  refine ⟨_, (pss_cons (ps_if (pt_not (pt_val (pe_cl C_law_ints hr rfl (pa_cons (pv 1) (pa_cons (pe_callB cl_len rfl TX.b_len b0_len (pa_cons (pv 0) pa_nil)) pa_nil)))))
  (pss_one (ps_ret pe_bl))
  pss_nil)
  (pss_cons (ps_for PassesOwn.never rfl (pi_range1 rfl TX.b_range (pa_cons (pe_callB cl_len rfl TX.b_len b0_len (pa_cons (pv 0) pa_nil)) pa_nil)) (pg_name (i := 2) nd rfl (Or.inl rfl))
  (pss_cons (ps_if (PW.pt (pw_or (pt_cmpR op_lt (pe_ix (ix_A hu) (pv 1) (pv 2) (fun _ _ => rfl)) pe_int (nomark _)) (pw_or1 (pt_cmpR op_gt (pe_ix (ix_A hu) (pv 1) (pv 2) (fun _ _ => rfl)) (pe_ix (ix_A hu) (pe_ix (ix_A hu) (pv 0) (pv 2) (fun _ _ => rfl)) pe_int (fun _ _ => rfl)) (nomark _)))))
  (pss_one (ps_ret pe_bl))
  pss_nil)
  pss_nil))
  (pss_one (ps_ret pe_bl)))), fun ds hds => ?_⟩
  match ds, hds with
  | [x_ducts, x_value], _ =>
    refine bv_pur ?_
    show B _ _ _ (m_law_air x_ducts x_value) _
    unfold m_law_air
    exact (bn_of (bd_ifx0 (evt_not (evt_B (ev_callO rfl (eva_cons (ev_val rfl) (eva_cons (ev_clS cS_len (evl_cons (ev_val rfl) evl_nil)) eva_nil)))))
  (bd_ret ev_bl)
  (bd_seqx (bt_for (md := .f) (Γl := fun (x_b1 : Unit) => [.val x_ducts, .val x_value, .no]) (evi_range1 (evl_cons (ev_clS cS_len (evl_cons (ev_val rfl) evl_nil)) evl_nil)) (.keep (.keep (.skip .nil))) (fun x_b1 x_d3 =>
  (bg_name (b_ifx0 (evt_or (evt_test (ev_opS opS_lt (ev_opP opP_ix (ev_val rfl) (ev_val rfl)) ev_int)) (evt_test (ev_opS opS_gt (ev_opP opP_ix (ev_val rfl) (ev_val rfl)) (ev_opP opP_ix (ev_opP opP_ix (ev_val rfl) (ev_val rfl)) ev_int))))
  (bt_ret' ev_bl)
  (bt_end (.keep (.keep (.skip .nil)))))))) fun x_b1 =>
  (bd_ret ev_bl))))

abbrev s_law : Stmt := top 75
abbrev N_law : List Str := ["script", "plan", "rooms", "ducts", "building", "air", "found", "asked", "bounds", "needs", "duct", "told", "one", "two", "tags", "others", "paper"]
theorem sc_law : FnScope N_law ["script"] (defScope s_law) := ⟨rfl, rfl, rfl, by decide +kernel, rfl, by decide +kernel, by decide +kernel⟩
theorem ok_law {f : Addr} {fd : FuncData} (F : Fun K "law" "law" s_law f fd) (TX : Txt K mg C) (C_law_draw : Cl P w K mg base 1 "_law_draw" ["cell", "bounds"] (spU ⟨K, C⟩ [.f, .f] (pur (f2 m_law_draw)))) (C_law_cell : Cl P w K mg base 1 "_law_cell" ["script", "k"] (spU ⟨K, C⟩ [.f, .f] (pur (f2 m_law_cell)))) (C_law_plan : Cl P w K mg base 3 "_law_plan" ["script", "at", "most_rooms", "most_extra", "most_width"] (spU ⟨K, C⟩ [.f, .f, .f, .f, .f] (pur (f5 m_law_plan)))) (C_Building_init : Cm P w K mg base 5 "Building" (C "Building") ["self", "rooms", "ducts"] (spU ⟨K, C⟩ [.u, .f, .f] (f3 m_Building_init))) (C_law_intakes : Cl P w K mg base 1 "_law_intakes" ["rooms", "ducts", "air"] (spU ⟨K, C⟩ [.f, .f, .f] (pur (f3 m_law_intakes)))) (C_law_asked : Cl P w K mg base 2 "_law_asked" ["script", "rooms", "found"] (spU ⟨K, C⟩ [.f, .f, .f] (pur (f3 m_law_asked)))) (C_shows_stream : Cl P w K mg base 7 "shows_stream" ["building", "bounds", "needs", "paper"] (spU ⟨K, C⟩ [.f, .f, .h, .f] (pur (f4 m_shows_stream)))) (C_hold_intakes : Cl P w K mg base 5 "hold_intakes" ["building", "low", "high"] (spU ⟨K, C⟩ [.f, .f, .f] (pur (f3 m_hold_intakes)))) (C_hold_stream : Cl P w K mg base 6 "hold_stream" ["building", "bounds", "needs"] (spU ⟨K, C⟩ [.f, .f, .f] (pur (f3 m_hold_stream)))) (C_law_vented : Cl P w K mg base 7 "_law_vented" ["script", "building", "table", "ducts"] (spU ⟨K, C⟩ [.f, .f, .f, .f] (pur (f4 m_law_vented)))) (C_shows_intakes : Cl P w K mg base 6 "shows_intakes" ["building", "low", "high", "paper"] (spU ⟨K, C⟩ [.f, .f, .f, .f] (pur (f4 m_shows_intakes)))) (C_law_widths : Cl P w K mg base 1 "_law_widths" ["rooms", "ducts"] (spU ⟨K, C⟩ [.f, .f] (pur (f2 m_law_widths)))) (C_law_other_paper : Cl P w K mg base 1 "_law_other_paper" ["paper", "tags", "others"] (spU ⟨K, C⟩ [.f, .f, .f] (pur (f3 m_law_other_paper)))) (C_law_air : Cl P w K mg base 2 "_law_air" ["ducts", "value"] (spU ⟨K, C⟩ [.f, .f] (pur (f2 m_law_air)))) : FnOk P w K mg base CX0 8 f fd ["script"] (spU ⟨K, C⟩ [.f] (pur (f1 m_law))) := by
  have nd := sc_law.nd
  refine fn_ok (T := ⟨K, C⟩) F sc_law rfl (by decide) (fun cdv A outer s H E hr => ?_)
  have hu := hr.units
  refine ⟨_, (pss_cons (ps_set (i := 1) nd rfl (Or.inl rfl) (pe_cl C_law_plan hr rfl (pa_cons (pv 0) (pa_cons pe_int (pa_cons pe_int (pa_cons pe_int (pa_cons pe_int pa_nil)))))))
  (pss_cons (ps_set (i := 2) nd rfl (Or.inl rfl) (pe_ix (ix_A hu) (pv 1) pe_int (fun _ _ => rfl)))
  (pss_cons (ps_set (i := 3) nd rfl (Or.inl rfl) (pe_ix (ix_A hu) (pv 1) pe_int (fun _ _ => rfl)))
  (pss_cons (ps_set (i := 4) nd rfl (Or.inl rfl) (pe_cm C_Building_init hr rfl (pa_cons (pv 2) (pa_cons (pv 3) pa_nil))))
  (pss_cons (ps_set (i := 5) nd rfl (Or.inl rfl) (pe_cl C_law_draw hr rfl (pa_cons (pe_cl C_law_cell hr rfl (pa_cons (pv 0) (pa_cons pe_int pa_nil))) (pa_cons (pe_lc (own := [("duct", 10)]) (g := (gName 10)) (tt := tYes) (te := (tOp (rAddA K) (tOp (rIxA K) (tVar 10) (tC (.int 2))) (tC (.int 1)))) rfl nd (pi_seqK (pv 3)) (blkOk_by (own := [("duct", 10)]) (N := N_law) (sc := defScope s_law) (by decide +kernel)) (fun _ _ _ _ _ => (pg_name (i := 10) nd rfl (Or.inl rfl))) (fun _ _ _ _ _ => pts_nil) (fun _ _ _ _ _ => (pe_op op_addA (pe_ix (ix_A hu) (pv 10) pe_int (fun _ _ => rfl)) pe_int))) pa_nil))))
  (pss_cons (ps_set (i := 6) nd rfl (Or.inl rfl) (pe_cl C_law_intakes hr rfl (pa_cons (pv 2) (pa_cons (pv 3) (pa_cons (pv 5) pa_nil)))))
  (pss_cons (ps_set (i := 7) nd rfl (Or.inl rfl) (pe_cl C_law_asked hr rfl (pa_cons (pv 0) (pa_cons (pv 2) (pa_cons (pv 6) pa_nil)))))
  (pss_cons (ps_setLc (i := 8) (own := [("duct", 10)]) (g := (gName 10)) (tt := tYes) (te := (tTup (tCons (tC (.int 0)) (tCons (tOp (rIxA K) (tVar 10) (tC (.int 2))) tNil)))) rfl nd rfl rfl (sw_true rfl rfl rfl (by decide +kernel)) (pi_seqK (pv 3)) (blkOk_by (own := [("duct", 10)]) (N := N_law) (sc := defScope s_law) (by decide +kernel)) (fun _ _ _ _ _ => (pg_name (i := 10) nd rfl (Or.inl rfl))) (fun _ _ _ _ _ => pts_nil) (fun _ _ _ _ _ => (pe_tup (pa_cons pe_int (pa_cons (pe_ix (ix_A hu) (pv 10) pe_int (fun _ _ => rfl)) pa_nil)))))
  (pss_cons (ps_set (i := 9) nd rfl (Or.inl rfl) (pe_callTy call_list_of rfl TX.b_list b0_list (pa_cons (pv 7) pa_nil)))
  (pss_cons (ps_for PassesOwn.never rfl (pi_seqK (pv 3)) (pg_name (i := 10) nd rfl (Or.inl rfl))
  (pss_cons (ps_asg (pe_op op_sub (pe_ix (ix_A hu) (pv 9) (pe_ix (ix_A hu) (pv 10) pe_int (fun _ _ => rfl)) (fun _ _ => rfl)) (pe_ix (ix_A hu) (pv 10) pe_int (fun _ _ => rfl))) (pg_sub (pv 9) (pe_ix (ix_A hu) (pv 10) pe_int (fun _ _ => rfl)) (set_A hu)))
  pss_nil))
  (pss_cons (ps_set (i := 11) nd rfl (Or.inl rfl) (pe_cl C_shows_stream hr rfl (pa_cons (pv 4) (pa_cons (pe_callTy call_list_of rfl TX.b_list b0_list (pa_cons (pv 8) pa_nil)) (pa_cons (pv 9) (pa_cons (pe_tup (pa_cons pe_str (pa_cons (pe_callTy call_tuple_of rfl TX.b_tuple b0_tuple (pa_cons (pv 5) pa_nil)) pa_nil))) pa_nil))))))
  (pss_cons (ps_if (PW.pt (pw_or (pt_not (pt_val (pe_callB call_isi rfl TX.b_isinstance b0_isinstance (pa_cons (pv 11) (pa_cons (pe_bltn (v := .ty "bool") rfl TX.b_bool b0_bool rfl) pa_nil))))) (pw_or1 (pt_cmpR (op_neD hu) (pv 11) (pe_cmpR (op_eqD hu) (pv 7) (pv 6) (nomark _)) (nomark _)))))
  (pss_one (ps_ret pe_bl))
  pss_nil)
  (pss_cons (ps_set (i := 12) nd rfl (Or.inl rfl) (pe_cl C_hold_intakes hr rfl (pa_cons (pv 4) (pa_cons (pe_callTy call_list_of rfl TX.b_list b0_list (pa_cons (pv 7) pa_nil)) (pa_cons (pe_callTy call_list_of rfl TX.b_list b0_list (pa_cons (pv 7) pa_nil)) pa_nil)))))
  (pss_cons (ps_set (i := 13) nd rfl (Or.inl rfl) (pe_cl C_hold_stream hr rfl (pa_cons (pv 4) (pa_cons (pe_callTy call_list_of rfl TX.b_list b0_list (pa_cons (pv 8) pa_nil)) (pa_cons (pe_callTy call_list_of rfl TX.b_list b0_list (pa_cons (pv 9) pa_nil)) pa_nil)))))
  (pss_cons (ps_set (i := 14) nd rfl (Or.inl rfl) (pe_lst (pa_cons pe_str (pa_cons pe_str (pa_cons pe_str pa_nil)))))
  (pss_cons (ps_set (i := 15) nd rfl (Or.inl rfl) (pe_lst (pa_cons pe_str (pa_cons pe_str (pa_cons pe_str pa_nil)))))
  (pss_cons (ps_if (pt_cmpR op_isNotA (pe_cl C_shows_stream hr rfl (pa_cons (pv 4) (pa_cons (pe_callTy call_list_of rfl TX.b_list b0_list (pa_cons (pv 8) pa_nil)) (pa_cons (pv 9) (pa_cons (pe_cl C_law_other_paper hr rfl (pa_cons (pv 12) (pa_cons (pv 14) (pa_cons (pv 15) pa_nil)))) pa_nil))))) pe_bl (nomark _))
  (pss_one (ps_ret pe_bl))
  pss_nil)
  (pss_cons (ps_if (pt_cmpR op_isNotA (pe_cl C_shows_intakes hr rfl (pa_cons (pv 4) (pa_cons (pv 7) (pa_cons (pv 7) (pa_cons (pe_cl C_law_other_paper hr rfl (pa_cons (pv 13) (pa_cons (pv 15) (pa_cons (pv 14) pa_nil)))) pa_nil))))) pe_bl (nomark _))
  (pss_one (ps_ret pe_bl))
  pss_nil)
  (pss_cons (ps_if (PW.pt (pw_or (pt_cmpR (op_neD hu) (pe_cmpR (op_eqD hu) (pe_ix (ix_A hu) (pv 12) pe_int (fun _ _ => rfl)) pe_str (nomark _)) (pe_cmpR (op_eqD hu) (pe_ix (ix_A hu) (pv 13) pe_int (fun _ _ => rfl)) pe_str (nomark _)) (nomark _)) (pw_or1 (PW.pt (pw_and (pt_cmpR (op_eqD hu) (pv 7) (pv 6) (nomark _)) (pw_and1 (pt_cmpR (op_neD hu) (pe_ix (ix_A hu) (pv 12) pe_int (fun _ _ => rfl)) pe_str (nomark _))))))))
  (pss_one (ps_ret pe_bl))
  pss_nil)
  (pss_cons (ps_for PassesOwn.never rfl (pi_seqK (pe_lst (pa_cons (pv 12) (pa_cons (pv 13) pa_nil)))) (pg_name (i := 16) nd rfl (Or.inl rfl))
  (pss_cons (ps_if (PW.pt (pw_or (pt_cmpR (op_eqD hu) (pe_ix (ix_A hu) (pv 16) pe_int (fun _ _ => rfl)) pe_str (nomark _)) (pw_or1 (pt_cmpR (op_eqD hu) (pe_ix (ix_A hu) (pv 16) pe_int (fun _ _ => rfl)) pe_str (nomark _)))))
  (pss_cons (ps_if (PW.pt (pw_or (pt_not (pt_val (pe_cl C_law_air hr rfl (pa_cons (pv 3) (pa_cons (pe_ix (ix_A hu) (pv 16) pe_int (fun _ _ => rfl)) pa_nil))))) (pw_or1 (pt_cmpR (op_neD hu) (pe_cl C_law_intakes hr rfl (pa_cons (pv 2) (pa_cons (pv 3) (pa_cons (pe_ix (ix_A hu) (pv 16) pe_int (fun _ _ => rfl)) pa_nil)))) (pv 7) (nomark _)))))
  (pss_one (ps_ret pe_bl))
  pss_nil)
  pss_nil)
  pss_nil)
  pss_nil))
  (pss_one (ps_ret (pe_cl C_law_vented hr rfl (pa_cons (pv 0) (pa_cons (pv 4) (pa_cons (pe_cl C_law_widths hr rfl (pa_cons (pv 2) (pa_cons (pv 3) pa_nil))) (pa_cons (pv 3) pa_nil))))))))))))))))))))))))))), fun ds hds => ?_⟩
  match ds, hds with
  | [x_script], _ =>
    refine bv_pur ?_
    show B _ _ _ (m_law x_script) _
    unfold m_law
    exact (bn_of (b_seq (bp_set (i := 1) (ev_callO rfl (eva_cons (ev_val rfl) (eva_cons ev_int (eva_cons ev_int (eva_cons ev_int (eva_cons ev_int eva_nil))))))) fun x_plan1 =>
  (b_seq (bp_set (i := 2) (ev_opP opP_ix (ev_val rfl) ev_int)) fun x_rooms2 =>
  (b_seq (bp_set (i := 3) (ev_opP opP_ix (ev_val rfl) ev_int)) fun x_ducts3 =>
  (b_seq (bp_set (i := 4) (ev_new (evo_make (T := ⟨K, C⟩) rfl (eva_cons (ev_val rfl) (eva_cons (ev_val rfl) eva_nil))))) fun x_building4 =>
  (b_seq (bp_set (i := 5) (ev_callO rfl (eva_cons (ev_callO rfl (eva_cons (ev_val rfl) (eva_cons ev_int eva_nil))) (eva_cons (ev_new (evo_comp (md := .f) rfl (tin_name (by decide)) (evi_seq (ev_val rfl)) (fun x_d6 => (bg_name (ce_all (ev_opM opM_add (ev_opP opP_ix (ev_val rfl) ev_int) ev_int)))))) eva_nil)))) fun x_air5 =>
  (b_seq (bp_set (i := 6) (ev_callO rfl (eva_cons (ev_val rfl) (eva_cons (ev_val rfl) (eva_cons (ev_val rfl) eva_nil))))) fun x_found7 =>
  (b_seq (bp_set (i := 7) (ev_callO rfl (eva_cons (ev_val rfl) (eva_cons (ev_val rfl) (eva_cons (ev_val rfl) eva_nil))))) fun x_asked8 =>
  (b_seq (bp_set (i := 8) (ev_new (evo_comp (md := .f) rfl (tin_name (by decide)) (evi_seq (ev_val rfl)) (fun x_d10 => (bg_name (ce_all (ev_tup (evl_cons ev_int (evl_cons (ev_opP opP_ix (ev_val rfl) ev_int) evl_nil))))))))) fun x_bounds9 =>
  (b_seq (bp_setO (i := 9) (evo_list (ev_val rfl))) fun x_needs11 =>
  (b_seq (bp_for (md := .f) (Γl := fun (x_b12 : D) => [.val x_script, .val x_plan1, .val x_rooms2, .val x_ducts3, .val x_building4, .val x_air5, .val x_found7, .val x_asked8, .val x_bounds9, .own x_b12, .no, .no, .no, .no, .no, .no, .no]) (evi_seq (ev_val rfl)) (.keep (.keep (.keep (.keep (.keep (.keep (.keep (.keep (.keep (.keep (.skip (.skip (.skip (.skip (.skip (.skip (.skip .nil))))))))))))))))) (fun x_b12 x_d14 =>
  (bg_name (b_seq (bp_put (i := 9) rfl rfl (ev_opS opS_sub (ev_opP opP_ix (ev_own rfl) (ev_opP opP_ix (ev_val rfl) ev_int)) (ev_opP opP_ix (ev_val rfl) ev_int)) (ev_opP opP_ix (ev_val rfl) ev_int)) fun x_needs15 =>
  (bp_end (.keep (.keep (.keep (.keep (.keep (.keep (.keep (.keep (.keep (.keep (.skip (.skip (.skip (.skip (.skip (.skip (.skip .nil)))))))))))))))))))))) fun x_b12 =>
  (b_seq (bp_set (i := 11) (ev_callO rfl (eva_cons (ev_val rfl) (eva_cons (ev_new (evo_list (ev_val rfl))) (eva_cons (ev_own rfl) (eva_cons (ev_tup (evl_cons ev_str (evl_cons (ev_clM cM_tuple (evl_cons (ev_val rfl) evl_nil)) evl_nil))) eva_nil)))))) fun x_told16 =>
  (bd_ifx0 (evt_or (evt_not (evt_B (ev_isi (ev_val rfl)))) (evt_test (ev_opS opS_ne (ev_val rfl) (ev_opS opS_eq (ev_val rfl) (ev_val rfl)))))
  (bd_ret ev_bl)
  (b_seq (bp_set (i := 12) (ev_callO rfl (eva_cons (ev_val rfl) (eva_cons (ev_new (evo_list (ev_val rfl))) (eva_cons (ev_new (evo_list (ev_val rfl))) eva_nil))))) fun x_one17 =>
  (b_freeze 9 rfl (b_seq (bp_set (i := 13) (ev_callO rfl (eva_cons (ev_val rfl) (eva_cons (ev_new (evo_list (ev_val rfl))) (eva_cons (ev_new (evo_list (ev_val rfl))) eva_nil))))) fun x_two18 =>
  (b_seq (bp_set (i := 14) (ev_new (evo_lst (evl_cons ev_str (evl_cons ev_str (evl_cons ev_str evl_nil)))))) fun x_tags19 =>
  (b_seq (bp_set (i := 15) (ev_new (evo_lst (evl_cons ev_str (evl_cons ev_str (evl_cons ev_str evl_nil)))))) fun x_others20 =>
  (bd_ifx0 (evt_test (ev_opS opS_isNot (ev_callO rfl (eva_cons (ev_val rfl) (eva_cons (ev_new (evo_list (ev_val rfl))) (eva_cons (ev_val rfl) (eva_cons (ev_callO rfl (eva_cons (ev_val rfl) (eva_cons (ev_val rfl) (eva_cons (ev_val rfl) eva_nil)))) eva_nil))))) ev_bl))
  (bd_ret ev_bl)
  (bd_ifx0 (evt_test (ev_opS opS_isNot (ev_callO rfl (eva_cons (ev_val rfl) (eva_cons (ev_val rfl) (eva_cons (ev_val rfl) (eva_cons (ev_callO rfl (eva_cons (ev_val rfl) (eva_cons (ev_val rfl) (eva_cons (ev_val rfl) eva_nil)))) eva_nil))))) ev_bl))
  (bd_ret ev_bl)
  (bd_ifx0 (evt_or (evt_test (ev_opS opS_ne (ev_opS opS_eq (ev_opP opP_ix (ev_val rfl) ev_int) ev_str) (ev_opS opS_eq (ev_opP opP_ix (ev_val rfl) ev_int) ev_str))) (evt_and (evt_test (ev_opS opS_eq (ev_val rfl) (ev_val rfl))) (evt_test (ev_opS opS_ne (ev_opP opP_ix (ev_val rfl) ev_int) ev_str))))
  (bd_ret ev_bl)
  (bd_seqx (bt_for (md := .f) (Γl := fun (x_b21 : Unit) => [.val x_script, .val x_plan1, .val x_rooms2, .val x_ducts3, .val x_building4, .val x_air5, .val x_found7, .val x_asked8, .val x_bounds9, .val x_b12, .no, .val x_told16, .val x_one17, .val x_two18, .val x_tags19, .val x_others20, .no]) (evi_seq (ev_new (evo_lst (evl_cons (ev_val rfl) (evl_cons (ev_val rfl) evl_nil))))) (.keep (.keep (.keep (.keep (.keep (.keep (.keep (.keep (.keep (.keep (.skip (.keep (.keep (.keep (.keep (.keep (.skip .nil))))))))))))))))) (fun x_b21 x_d23 =>
  (bg_name (b_seqx (Γ1 := fun (x_j24 : Unit) => [.val x_script, .val x_plan1, .val x_rooms2, .val x_ducts3, .val x_building4, .val x_air5, .val x_found7, .val x_asked8, .val x_bounds9, .val x_b12, .no, .val x_told16, .val x_one17, .val x_two18, .val x_tags19, .val x_others20, .val x_d23]) (b_if (evt_or (evt_test (ev_opS opS_eq (ev_opP opP_ix (ev_val rfl) ev_int) ev_str)) (evt_test (ev_opS opS_eq (ev_opP opP_ix (ev_val rfl) ev_int) ev_str)))
  (b_ifx0 (evt_or (evt_not (evt_B (ev_callO rfl (eva_cons (ev_val rfl) (eva_cons (ev_opP opP_ix (ev_val rfl) ev_int) eva_nil))))) (evt_test (ev_opS opS_ne (ev_callO rfl (eva_cons (ev_val rfl) (eva_cons (ev_val rfl) (eva_cons (ev_opP opP_ix (ev_val rfl) ev_int) eva_nil)))) (ev_val rfl))))
  (bt_ret' ev_bl)
  (bt_end (.keep (.keep (.keep (.keep (.keep (.keep (.keep (.keep (.keep (.keep (.skip (.keep (.keep (.keep (.keep (.keep (.keep .nil)))))))))))))))))))
  (bt_end (.keep (.keep (.keep (.keep (.keep (.keep (.keep (.keep (.keep (.keep (.skip (.keep (.keep (.keep (.keep (.keep (.keep .nil))))))))))))))))))) fun x_j24 =>
  (bt_end (.keep (.keep (.keep (.keep (.keep (.keep (.keep (.keep (.keep (.keep (.skip (.keep (.keep (.keep (.keep (.keep (.skip .nil)))))))))))))))))))))) fun x_b21 =>
  (bd_ret (ev_callO rfl (eva_cons (ev_val rfl) (eva_cons (ev_val rfl) (eva_cons (ev_callO rfl (eva_cons (ev_val rfl) (eva_cons (ev_val rfl) eva_nil))) (eva_cons (ev_val rfl) eva_nil))))))))))))))))))))))))))))
end
end Mi
namespace Mi
open PySem L2
open PyProof.Rows
theorem all_mk {l : PySem.W.OpenLaw} {w : World} {K : PySem.W.Frag} {h : Heap} {mg : Str → Option Value} {fa : Addr} (HL : ∀ ns : List Int, ns.length ≤ 63 → m_law (.scr ns) = some (.bl true)) (X : K.In h) (G : h.Ns mainGlobals mg) (hfa : mg "law" = some (.ref fa))
    {fC_Building : Addr}
    {f_law_draw : Addr} {od_law_draw an_law_draw : Option Addr} {sl_law_draw : Array (Option Value)} {oc_law_draw kV_law_draw dc_law_draw pm_law_draw cd_law_draw ct_law_draw : Value}
    {f_law_cell : Addr} {od_law_cell an_law_cell : Option Addr} {sl_law_cell : Array (Option Value)} {oc_law_cell kV_law_cell dc_law_cell pm_law_cell cd_law_cell ct_law_cell : Value}
    {f_law_ducts : Addr} {od_law_ducts an_law_ducts : Option Addr} {sl_law_ducts : Array (Option Value)} {oc_law_ducts kV_law_ducts dc_law_ducts pm_law_ducts cd_law_ducts ct_law_ducts : Value}
    {f_law_plan : Addr} {od_law_plan an_law_plan : Option Addr} {sl_law_plan : Array (Option Value)} {oc_law_plan kV_law_plan dc_law_plan pm_law_plan cd_law_plan ct_law_plan : Value}
    {f_require : Addr} {od_require an_require : Option Addr} {sl_require : Array (Option Value)} {oc_require kV_require dc_require pm_require cd_require ct_require : Value}
    {f_width_table : Addr} {od_width_table an_width_table : Option Addr} {sl_width_table : Array (Option Value)} {oc_width_table kV_width_table dc_width_table pm_width_table cd_width_table ct_width_table : Value}
    {f_is_integer : Addr} {od_is_integer an_is_integer : Option Addr} {sl_is_integer : Array (Option Value)} {oc_is_integer kV_is_integer dc_is_integer pm_is_integer cd_is_integer ct_is_integer : Value}
    {f_is_between : Addr} {od_is_between an_is_between : Option Addr} {sl_is_between : Array (Option Value)} {oc_is_between kV_is_between dc_is_between pm_is_between cd_is_between ct_is_between : Value}
    {f_is_table : Addr} {od_is_table an_is_table : Option Addr} {sl_is_table : Array (Option Value)} {oc_is_table kV_is_table dc_is_table pm_is_table cd_is_table ct_is_table : Value}
    {f_are_ducts : Addr} {od_are_ducts an_are_ducts : Option Addr} {sl_are_ducts : Array (Option Value)} {oc_are_ducts kV_are_ducts dc_are_ducts pm_are_ducts cd_are_ducts ct_are_ducts : Value}
    {f_Building_init : Addr} {od_Building_init an_Building_init : Option Addr} {sl_Building_init : Array (Option Value)} {oc_Building_init kV_Building_init dc_Building_init pm_Building_init cd_Building_init ct_Building_init : Value}
    {f_law_intakes : Addr} {od_law_intakes an_law_intakes : Option Addr} {sl_law_intakes : Array (Option Value)} {oc_law_intakes kV_law_intakes dc_law_intakes pm_law_intakes cd_law_intakes ct_law_intakes : Value}
    {f_law_asked : Addr} {od_law_asked an_law_asked : Option Addr} {sl_law_asked : Array (Option Value)} {oc_law_asked kV_law_asked dc_law_asked pm_law_asked cd_law_asked ct_law_asked : Value}
    {f_require_building : Addr} {od_require_building an_require_building : Option Addr} {sl_require_building : Array (Option Value)} {oc_require_building kV_require_building dc_require_building pm_require_building cd_require_building ct_require_building : Value}
    {f_are_bounds : Addr} {od_are_bounds an_are_bounds : Option Addr} {sl_are_bounds : Array (Option Value)} {oc_are_bounds kV_are_bounds dc_are_bounds pm_are_bounds cd_are_bounds ct_are_bounds : Value}
    {f_require_bounds_streams : Addr} {od_require_bounds_streams an_require_bounds_streams : Option Addr} {sl_require_bounds_streams : Array (Option Value)} {oc_require_bounds_streams kV_require_bounds_streams dc_require_bounds_streams pm_require_bounds_streams cd_require_bounds_streams ct_require_bounds_streams : Value}
    {f_require_needs : Addr} {od_require_needs an_require_needs : Option Addr} {sl_require_needs : Array (Option Value)} {oc_require_needs kV_require_needs dc_require_needs pm_require_needs cd_require_needs ct_require_needs : Value}
    {f_is_paper : Addr} {od_is_paper an_is_paper : Option Addr} {sl_is_paper : Array (Option Value)} {oc_is_paper kV_is_paper dc_is_paper pm_is_paper cd_is_paper ct_is_paper : Value}
    {f_range_of_gain : Addr} {od_range_of_gain an_range_of_gain : Option Addr} {sl_range_of_gain : Array (Option Value)} {oc_range_of_gain kV_range_of_gain dc_range_of_gain pm_range_of_gain cd_range_of_gain ct_range_of_gain : Value}
    {f_are_places : Addr} {od_are_places an_are_places : Option Addr} {sl_are_places : Array (Option Value)} {oc_are_places kV_are_places dc_are_places pm_are_places cd_are_places ct_are_places : Value}
    {f_is_place_set : Addr} {od_is_place_set an_is_place_set : Option Addr} {sl_is_place_set : Array (Option Value)} {oc_is_place_set kV_is_place_set dc_is_place_set pm_is_place_set cd_is_place_set ct_is_place_set : Value}
    {f_is_room_set : Addr} {od_is_room_set an_is_room_set : Option Addr} {sl_is_room_set : Array (Option Value)} {oc_is_room_set kV_is_room_set dc_is_room_set pm_is_room_set cd_is_room_set ct_is_room_set : Value}
    {f_is_refused_set : Addr} {od_is_refused_set an_is_refused_set : Option Addr} {sl_is_refused_set : Array (Option Value)} {oc_is_refused_set kV_is_refused_set dc_is_refused_set pm_is_refused_set cd_is_refused_set ct_is_refused_set : Value}
    {f_gain_list : Addr} {od_gain_list an_gain_list : Option Addr} {sl_gain_list : Array (Option Value)} {oc_gain_list kV_gain_list dc_gain_list pm_gain_list cd_gain_list ct_gain_list : Value}
    {f_fits_bounds : Addr} {od_fits_bounds an_fits_bounds : Option Addr} {sl_fits_bounds : Array (Option Value)} {oc_fits_bounds kV_fits_bounds dc_fits_bounds pm_fits_bounds cd_fits_bounds ct_fits_bounds : Value}
    {f_serves : Addr} {od_serves an_serves : Option Addr} {sl_serves : Array (Option Value)} {oc_serves kV_serves dc_serves pm_serves cd_serves ct_serves : Value}
    {f_shows_stream : Addr} {od_shows_stream an_shows_stream : Option Addr} {sl_shows_stream : Array (Option Value)} {oc_shows_stream kV_shows_stream dc_shows_stream pm_shows_stream cd_shows_stream ct_shows_stream : Value}
    {f_require_bounds_intakes : Addr} {od_require_bounds_intakes an_require_bounds_intakes : Option Addr} {sl_require_bounds_intakes : Array (Option Value)} {oc_require_bounds_intakes kV_require_bounds_intakes dc_require_bounds_intakes pm_require_bounds_intakes cd_require_bounds_intakes ct_require_bounds_intakes : Value}
    {f_intakes_of : Addr} {od_intakes_of an_intakes_of : Option Addr} {sl_intakes_of : Array (Option Value)} {oc_intakes_of kV_intakes_of dc_intakes_of pm_intakes_of cd_intakes_of ct_intakes_of : Value}
    {f_search : Addr} {od_search an_search : Option Addr} {sl_search : Array (Option Value)} {oc_search kV_search dc_search pm_search cd_search ct_search : Value}
    {f_turn_path : Addr} {od_turn_path an_turn_path : Option Addr} {sl_turn_path : Array (Option Value)} {oc_turn_path kV_turn_path dc_turn_path pm_turn_path cd_turn_path ct_turn_path : Value}
    {f_lower_all : Addr} {od_lower_all an_lower_all : Option Addr} {sl_lower_all : Array (Option Value)} {oc_lower_all kV_lower_all dc_lower_all pm_lower_all cd_lower_all ct_lower_all : Value}
    {f_raise_all : Addr} {od_raise_all an_raise_all : Option Addr} {sl_raise_all : Array (Option Value)} {oc_raise_all kV_raise_all dc_raise_all pm_raise_all cd_raise_all ct_raise_all : Value}
    {f_hold_intakes : Addr} {od_hold_intakes an_hold_intakes : Option Addr} {sl_hold_intakes : Array (Option Value)} {oc_hold_intakes kV_hold_intakes dc_hold_intakes pm_hold_intakes cd_hold_intakes ct_hold_intakes : Value}
    {f_feeders : Addr} {od_feeders an_feeders : Option Addr} {sl_feeders : Array (Option Value)} {oc_feeders kV_feeders dc_feeders pm_feeders cd_feeders ct_feeders : Value}
    {f_feed : Addr} {od_feed an_feed : Option Addr} {sl_feed : Array (Option Value)} {oc_feed kV_feed dc_feed pm_feed cd_feed ct_feed : Value}
    {f_serve : Addr} {od_serve an_serve : Option Addr} {sl_serve : Array (Option Value)} {oc_serve kV_serve dc_serve pm_serve cd_serve ct_serve : Value}
    {f_hold_stream : Addr} {od_hold_stream an_hold_stream : Option Addr} {sl_hold_stream : Array (Option Value)} {oc_hold_stream kV_hold_stream dc_hold_stream pm_hold_stream cd_hold_stream ct_hold_stream : Value}
    {f_law_numbers : Addr} {od_law_numbers an_law_numbers : Option Addr} {sl_law_numbers : Array (Option Value)} {oc_law_numbers kV_law_numbers dc_law_numbers pm_law_numbers cd_law_numbers ct_law_numbers : Value}
    {f_script_stream : Addr} {od_script_stream an_script_stream : Option Addr} {sl_script_stream : Array (Option Value)} {oc_script_stream kV_script_stream dc_script_stream pm_script_stream cd_script_stream ct_script_stream : Value}
    {f_law_after : Addr} {od_law_after an_law_after : Option Addr} {sl_law_after : Array (Option Value)} {oc_law_after kV_law_after dc_law_after pm_law_after cd_law_after ct_law_after : Value}
    {f_gains_of : Addr} {od_gains_of an_gains_of : Option Addr} {sl_gains_of : Array (Option Value)} {oc_gains_of kV_gains_of dc_gains_of pm_gains_of cd_gains_of ct_gains_of : Value}
    {f_require_load : Addr} {od_require_load an_require_load : Option Addr} {sl_require_load : Array (Option Value)} {oc_require_load kV_require_load dc_require_load pm_require_load cd_require_load ct_require_load : Value}
    {f_shifted : Addr} {od_shifted an_shifted : Option Addr} {sl_shifted : Array (Option Value)} {oc_shifted kV_shifted dc_shifted pm_shifted cd_shifted ct_shifted : Value}
    {f_Building_width_rows : Addr} {od_Building_width_rows an_Building_width_rows : Option Addr} {sl_Building_width_rows : Array (Option Value)} {oc_Building_width_rows kV_Building_width_rows dc_Building_width_rows pm_Building_width_rows cd_Building_width_rows ct_Building_width_rows : Value}
    {f_after : Addr} {od_after an_after : Option Addr} {sl_after : Array (Option Value)} {oc_after kV_after dc_after pm_after cd_after ct_after : Value}
    {f_law_ints : Addr} {od_law_ints an_law_ints : Option Addr} {sl_law_ints : Array (Option Value)} {oc_law_ints kV_law_ints dc_law_ints pm_law_ints cd_law_ints ct_law_ints : Value}
    {f_law_vented : Addr} {od_law_vented an_law_vented : Option Addr} {sl_law_vented : Array (Option Value)} {oc_law_vented kV_law_vented dc_law_vented pm_law_vented cd_law_vented ct_law_vented : Value}
    {f_fits_air : Addr} {od_fits_air an_fits_air : Option Addr} {sl_fits_air : Array (Option Value)} {oc_fits_air kV_fits_air dc_fits_air pm_fits_air cd_fits_air ct_fits_air : Value}
    {f_air_holds : Addr} {od_air_holds an_air_holds : Option Addr} {sl_air_holds : Array (Option Value)} {oc_air_holds kV_air_holds dc_air_holds pm_air_holds cd_air_holds ct_air_holds : Value}
    {f_inside : Addr} {od_inside an_inside : Option Addr} {sl_inside : Array (Option Value)} {oc_inside kV_inside dc_inside pm_inside cd_inside ct_inside : Value}
    {f_touching : Addr} {od_touching an_touching : Option Addr} {sl_touching : Array (Option Value)} {oc_touching kV_touching dc_touching pm_touching cd_touching ct_touching : Value}
    {f_shows_intakes : Addr} {od_shows_intakes an_shows_intakes : Option Addr} {sl_shows_intakes : Array (Option Value)} {oc_shows_intakes kV_shows_intakes dc_shows_intakes pm_shows_intakes cd_shows_intakes ct_shows_intakes : Value}
    {f_law_widths : Addr} {od_law_widths an_law_widths : Option Addr} {sl_law_widths : Array (Option Value)} {oc_law_widths kV_law_widths dc_law_widths pm_law_widths cd_law_widths ct_law_widths : Value}
    {f_law_other_paper : Addr} {od_law_other_paper an_law_other_paper : Option Addr} {sl_law_other_paper : Array (Option Value)} {oc_law_other_paper kV_law_other_paper dc_law_other_paper pm_law_other_paper cd_law_other_paper ct_law_other_paper : Value}
    {f_law_air : Addr} {od_law_air an_law_air : Option Addr} {sl_law_air : Array (Option Value)} {oc_law_air kV_law_air dc_law_air pm_law_air cd_law_air ct_law_air : Value}
    {f_law : Addr} {od_law an_law : Option Addr} {sl_law : Array (Option Value)} {oc_law kV_law dc_law pm_law cd_law ct_law : Value}
    {t_MOST_DUCTS : _}
    {t_MOST_FLOW : _}
    {t_MOST_ROOMS : _}
    {t_MOST_UNITS : _}
    {t_MOST_VENTS : _}
    {t_MOST_WIDTH : _}
    (aC_Building : PySem.W.nsIn K mainGlobals "Building" = some (some (.ref fC_Building)))
    (pg_Building : PySem.W.plainGet K fC_Building Str.empty = true)
    (hd_Building : PySem.W.hasDictIn K fC_Building = true)
    (po_Building : PySem.W.plainOver K fC_Building = true)
    (sa_Building : PySem.W.findIn K (.ref fC_Building) "__setattr__" = some (some (.builtin "object.__setattr__")))
    (mk_Building : PySem.W.makesIn K fC_Building = true)
    (kc_Building : PySem.W.keepIn K (.ref fC_Building) = true)
    (nf_Building__widths : PySem.W.findIn K (.ref fC_Building) "_widths" = some none)
    (nf_Building_ducts : PySem.W.findIn K (.ref fC_Building) "ducts" = some none)
    (nf_Building_rooms : PySem.W.findIn K (.ref fC_Building) "rooms" = some none)
    (io_Building : PySem.W.isClsIn K fC_Building = true)
    (iy_Building : PySem.W.typeIn K (.ref fC_Building) = some (.type "type"))
    (ih_Building : PySem.W.findIn K (.ref fC_Building) "__class__" = some (some (.builtin "object.__class__")))
    (in_Building : PySem.W.specialIn K (.builtin "object.__class__") "__get__" = some (some (.builtin "getset_descriptor.__get__")))
    (it_Building : PySem.W.takesIn K (.builtin "object.__class__") = some true)
    (im_Building : PySem.W.mroIn K fC_Building (.type "object") = some true)
    (a_law_draw : PySem.W.nsIn K mainGlobals "_law_draw" = some (some (.ref f_law_draw)))
    (l_law_draw : K.lookup f_law_draw = some ⟨oc_law_draw, od_law_draw, .func (PySem.W.fnOf "_law_draw" "_law_draw" (defArgs s_law_draw) (defBody s_law_draw) (defScope s_law_draw) .none kV_law_draw dc_law_draw pm_law_draw an_law_draw cd_law_draw ct_law_draw), sl_law_draw⟩)
    (c_law_draw : PySem.W.codeIn K cd_law_draw "_law_draw" = true)
    (k_law_draw : PySem.W.keepIn K (.ref f_law_draw) = true)
    (a_law_cell : PySem.W.nsIn K mainGlobals "_law_cell" = some (some (.ref f_law_cell)))
    (l_law_cell : K.lookup f_law_cell = some ⟨oc_law_cell, od_law_cell, .func (PySem.W.fnOf "_law_cell" "_law_cell" (defArgs s_law_cell) (defBody s_law_cell) (defScope s_law_cell) .none kV_law_cell dc_law_cell pm_law_cell an_law_cell cd_law_cell ct_law_cell), sl_law_cell⟩)
    (c_law_cell : PySem.W.codeIn K cd_law_cell "_law_cell" = true)
    (k_law_cell : PySem.W.keepIn K (.ref f_law_cell) = true)
    (a_law_ducts : PySem.W.nsIn K mainGlobals "_law_ducts" = some (some (.ref f_law_ducts)))
    (l_law_ducts : K.lookup f_law_ducts = some ⟨oc_law_ducts, od_law_ducts, .func (PySem.W.fnOf "_law_ducts" "_law_ducts" (defArgs s_law_ducts) (defBody s_law_ducts) (defScope s_law_ducts) .none kV_law_ducts dc_law_ducts pm_law_ducts an_law_ducts cd_law_ducts ct_law_ducts), sl_law_ducts⟩)
    (c_law_ducts : PySem.W.codeIn K cd_law_ducts "_law_ducts" = true)
    (k_law_ducts : PySem.W.keepIn K (.ref f_law_ducts) = true)
    (a_law_plan : PySem.W.nsIn K mainGlobals "_law_plan" = some (some (.ref f_law_plan)))
    (l_law_plan : K.lookup f_law_plan = some ⟨oc_law_plan, od_law_plan, .func (PySem.W.fnOf "_law_plan" "_law_plan" (defArgs s_law_plan) (defBody s_law_plan) (defScope s_law_plan) .none kV_law_plan dc_law_plan pm_law_plan an_law_plan cd_law_plan ct_law_plan), sl_law_plan⟩)
    (c_law_plan : PySem.W.codeIn K cd_law_plan "_law_plan" = true)
    (k_law_plan : PySem.W.keepIn K (.ref f_law_plan) = true)
    (a_require : PySem.W.nsIn K mainGlobals "require" = some (some (.ref f_require)))
    (l_require : K.lookup f_require = some ⟨oc_require, od_require, .func (PySem.W.fnOf "require" "require" (defArgs s_require) (defBody s_require) (defScope s_require) .none kV_require dc_require pm_require an_require cd_require ct_require), sl_require⟩)
    (c_require : PySem.W.codeIn K cd_require "require" = true)
    (k_require : PySem.W.keepIn K (.ref f_require) = true)
    (a_width_table : PySem.W.nsIn K mainGlobals "width_table" = some (some (.ref f_width_table)))
    (l_width_table : K.lookup f_width_table = some ⟨oc_width_table, od_width_table, .func (PySem.W.fnOf "width_table" "width_table" (defArgs s_width_table) (defBody s_width_table) (defScope s_width_table) .none kV_width_table dc_width_table pm_width_table an_width_table cd_width_table ct_width_table), sl_width_table⟩)
    (c_width_table : PySem.W.codeIn K cd_width_table "width_table" = true)
    (k_width_table : PySem.W.keepIn K (.ref f_width_table) = true)
    (a_is_integer : PySem.W.nsIn K mainGlobals "is_integer" = some (some (.ref f_is_integer)))
    (l_is_integer : K.lookup f_is_integer = some ⟨oc_is_integer, od_is_integer, .func (PySem.W.fnOf "is_integer" "is_integer" (defArgs s_is_integer) (defBody s_is_integer) (defScope s_is_integer) .none kV_is_integer dc_is_integer pm_is_integer an_is_integer cd_is_integer ct_is_integer), sl_is_integer⟩)
    (c_is_integer : PySem.W.codeIn K cd_is_integer "is_integer" = true)
    (k_is_integer : PySem.W.keepIn K (.ref f_is_integer) = true)
    (a_is_between : PySem.W.nsIn K mainGlobals "is_between" = some (some (.ref f_is_between)))
    (l_is_between : K.lookup f_is_between = some ⟨oc_is_between, od_is_between, .func (PySem.W.fnOf "is_between" "is_between" (defArgs s_is_between) (defBody s_is_between) (defScope s_is_between) .none kV_is_between dc_is_between pm_is_between an_is_between cd_is_between ct_is_between), sl_is_between⟩)
    (c_is_between : PySem.W.codeIn K cd_is_between "is_between" = true)
    (k_is_between : PySem.W.keepIn K (.ref f_is_between) = true)
    (a_is_table : PySem.W.nsIn K mainGlobals "is_table" = some (some (.ref f_is_table)))
    (l_is_table : K.lookup f_is_table = some ⟨oc_is_table, od_is_table, .func (PySem.W.fnOf "is_table" "is_table" (defArgs s_is_table) (defBody s_is_table) (defScope s_is_table) .none kV_is_table dc_is_table pm_is_table an_is_table cd_is_table ct_is_table), sl_is_table⟩)
    (c_is_table : PySem.W.codeIn K cd_is_table "is_table" = true)
    (k_is_table : PySem.W.keepIn K (.ref f_is_table) = true)
    (a_are_ducts : PySem.W.nsIn K mainGlobals "are_ducts" = some (some (.ref f_are_ducts)))
    (l_are_ducts : K.lookup f_are_ducts = some ⟨oc_are_ducts, od_are_ducts, .func (PySem.W.fnOf "are_ducts" "are_ducts" (defArgs s_are_ducts) (defBody s_are_ducts) (defScope s_are_ducts) .none kV_are_ducts dc_are_ducts pm_are_ducts an_are_ducts cd_are_ducts ct_are_ducts), sl_are_ducts⟩)
    (c_are_ducts : PySem.W.codeIn K cd_are_ducts "are_ducts" = true)
    (k_are_ducts : PySem.W.keepIn K (.ref f_are_ducts) = true)
    (a_Building_init : PySem.W.findIn K (.ref fC_Building) "__init__" = some (some (.ref f_Building_init)))
    (i_Building_init : PySem.W.isFn K (.ref f_Building_init) = true)
    (l_Building_init : K.lookup f_Building_init = some ⟨oc_Building_init, od_Building_init, .func (PySem.W.fnOf "__init__" "Building.__init__" (defArgs s_Building_init) (defBody s_Building_init) (defScope s_Building_init) .none kV_Building_init dc_Building_init pm_Building_init an_Building_init cd_Building_init ct_Building_init), sl_Building_init⟩)
    (c_Building_init : PySem.W.codeIn K cd_Building_init "Building.__init__" = true)
    (k_Building_init : PySem.W.keepIn K (.ref f_Building_init) = true)
    (a_law_intakes : PySem.W.nsIn K mainGlobals "_law_intakes" = some (some (.ref f_law_intakes)))
    (l_law_intakes : K.lookup f_law_intakes = some ⟨oc_law_intakes, od_law_intakes, .func (PySem.W.fnOf "_law_intakes" "_law_intakes" (defArgs s_law_intakes) (defBody s_law_intakes) (defScope s_law_intakes) .none kV_law_intakes dc_law_intakes pm_law_intakes an_law_intakes cd_law_intakes ct_law_intakes), sl_law_intakes⟩)
    (c_law_intakes : PySem.W.codeIn K cd_law_intakes "_law_intakes" = true)
    (k_law_intakes : PySem.W.keepIn K (.ref f_law_intakes) = true)
    (a_law_asked : PySem.W.nsIn K mainGlobals "_law_asked" = some (some (.ref f_law_asked)))
    (l_law_asked : K.lookup f_law_asked = some ⟨oc_law_asked, od_law_asked, .func (PySem.W.fnOf "_law_asked" "_law_asked" (defArgs s_law_asked) (defBody s_law_asked) (defScope s_law_asked) .none kV_law_asked dc_law_asked pm_law_asked an_law_asked cd_law_asked ct_law_asked), sl_law_asked⟩)
    (c_law_asked : PySem.W.codeIn K cd_law_asked "_law_asked" = true)
    (k_law_asked : PySem.W.keepIn K (.ref f_law_asked) = true)
    (a_require_building : PySem.W.nsIn K mainGlobals "require_building" = some (some (.ref f_require_building)))
    (l_require_building : K.lookup f_require_building = some ⟨oc_require_building, od_require_building, .func (PySem.W.fnOf "require_building" "require_building" (defArgs s_require_building) (defBody s_require_building) (defScope s_require_building) .none kV_require_building dc_require_building pm_require_building an_require_building cd_require_building ct_require_building), sl_require_building⟩)
    (c_require_building : PySem.W.codeIn K cd_require_building "require_building" = true)
    (k_require_building : PySem.W.keepIn K (.ref f_require_building) = true)
    (a_are_bounds : PySem.W.nsIn K mainGlobals "are_bounds" = some (some (.ref f_are_bounds)))
    (l_are_bounds : K.lookup f_are_bounds = some ⟨oc_are_bounds, od_are_bounds, .func (PySem.W.fnOf "are_bounds" "are_bounds" (defArgs s_are_bounds) (defBody s_are_bounds) (defScope s_are_bounds) .none kV_are_bounds dc_are_bounds pm_are_bounds an_are_bounds cd_are_bounds ct_are_bounds), sl_are_bounds⟩)
    (c_are_bounds : PySem.W.codeIn K cd_are_bounds "are_bounds" = true)
    (k_are_bounds : PySem.W.keepIn K (.ref f_are_bounds) = true)
    (a_require_bounds_streams : PySem.W.nsIn K mainGlobals "require_bounds_streams" = some (some (.ref f_require_bounds_streams)))
    (l_require_bounds_streams : K.lookup f_require_bounds_streams = some ⟨oc_require_bounds_streams, od_require_bounds_streams, .func (PySem.W.fnOf "require_bounds" "require_bounds" (defArgs s_require_bounds_streams) (defBody s_require_bounds_streams) (defScope s_require_bounds_streams) .none kV_require_bounds_streams dc_require_bounds_streams pm_require_bounds_streams an_require_bounds_streams cd_require_bounds_streams ct_require_bounds_streams), sl_require_bounds_streams⟩)
    (c_require_bounds_streams : PySem.W.codeIn K cd_require_bounds_streams "require_bounds" = true)
    (k_require_bounds_streams : PySem.W.keepIn K (.ref f_require_bounds_streams) = true)
    (a_require_needs : PySem.W.nsIn K mainGlobals "require_needs" = some (some (.ref f_require_needs)))
    (l_require_needs : K.lookup f_require_needs = some ⟨oc_require_needs, od_require_needs, .func (PySem.W.fnOf "require_needs" "require_needs" (defArgs s_require_needs) (defBody s_require_needs) (defScope s_require_needs) .none kV_require_needs dc_require_needs pm_require_needs an_require_needs cd_require_needs ct_require_needs), sl_require_needs⟩)
    (c_require_needs : PySem.W.codeIn K cd_require_needs "require_needs" = true)
    (k_require_needs : PySem.W.keepIn K (.ref f_require_needs) = true)
    (a_is_paper : PySem.W.nsIn K mainGlobals "is_paper" = some (some (.ref f_is_paper)))
    (l_is_paper : K.lookup f_is_paper = some ⟨oc_is_paper, od_is_paper, .func (PySem.W.fnOf "is_paper" "is_paper" (defArgs s_is_paper) (defBody s_is_paper) (defScope s_is_paper) .none kV_is_paper dc_is_paper pm_is_paper an_is_paper cd_is_paper ct_is_paper), sl_is_paper⟩)
    (c_is_paper : PySem.W.codeIn K cd_is_paper "is_paper" = true)
    (k_is_paper : PySem.W.keepIn K (.ref f_is_paper) = true)
    (a_range_of_gain : PySem.W.nsIn K mainGlobals "range_of_gain" = some (some (.ref f_range_of_gain)))
    (l_range_of_gain : K.lookup f_range_of_gain = some ⟨oc_range_of_gain, od_range_of_gain, .func (PySem.W.fnOf "range_of_gain" "range_of_gain" (defArgs s_range_of_gain) (defBody s_range_of_gain) (defScope s_range_of_gain) .none kV_range_of_gain dc_range_of_gain pm_range_of_gain an_range_of_gain cd_range_of_gain ct_range_of_gain), sl_range_of_gain⟩)
    (c_range_of_gain : PySem.W.codeIn K cd_range_of_gain "range_of_gain" = true)
    (k_range_of_gain : PySem.W.keepIn K (.ref f_range_of_gain) = true)
    (a_are_places : PySem.W.nsIn K mainGlobals "are_places" = some (some (.ref f_are_places)))
    (l_are_places : K.lookup f_are_places = some ⟨oc_are_places, od_are_places, .func (PySem.W.fnOf "are_places" "are_places" (defArgs s_are_places) (defBody s_are_places) (defScope s_are_places) .none kV_are_places dc_are_places pm_are_places an_are_places cd_are_places ct_are_places), sl_are_places⟩)
    (c_are_places : PySem.W.codeIn K cd_are_places "are_places" = true)
    (k_are_places : PySem.W.keepIn K (.ref f_are_places) = true)
    (a_is_place_set : PySem.W.nsIn K mainGlobals "is_place_set" = some (some (.ref f_is_place_set)))
    (l_is_place_set : K.lookup f_is_place_set = some ⟨oc_is_place_set, od_is_place_set, .func (PySem.W.fnOf "is_place_set" "is_place_set" (defArgs s_is_place_set) (defBody s_is_place_set) (defScope s_is_place_set) .none kV_is_place_set dc_is_place_set pm_is_place_set an_is_place_set cd_is_place_set ct_is_place_set), sl_is_place_set⟩)
    (c_is_place_set : PySem.W.codeIn K cd_is_place_set "is_place_set" = true)
    (k_is_place_set : PySem.W.keepIn K (.ref f_is_place_set) = true)
    (a_is_room_set : PySem.W.nsIn K mainGlobals "is_room_set" = some (some (.ref f_is_room_set)))
    (l_is_room_set : K.lookup f_is_room_set = some ⟨oc_is_room_set, od_is_room_set, .func (PySem.W.fnOf "is_room_set" "is_room_set" (defArgs s_is_room_set) (defBody s_is_room_set) (defScope s_is_room_set) .none kV_is_room_set dc_is_room_set pm_is_room_set an_is_room_set cd_is_room_set ct_is_room_set), sl_is_room_set⟩)
    (c_is_room_set : PySem.W.codeIn K cd_is_room_set "is_room_set" = true)
    (k_is_room_set : PySem.W.keepIn K (.ref f_is_room_set) = true)
    (a_is_refused_set : PySem.W.nsIn K mainGlobals "is_refused_set" = some (some (.ref f_is_refused_set)))
    (l_is_refused_set : K.lookup f_is_refused_set = some ⟨oc_is_refused_set, od_is_refused_set, .func (PySem.W.fnOf "is_refused_set" "is_refused_set" (defArgs s_is_refused_set) (defBody s_is_refused_set) (defScope s_is_refused_set) .none kV_is_refused_set dc_is_refused_set pm_is_refused_set an_is_refused_set cd_is_refused_set ct_is_refused_set), sl_is_refused_set⟩)
    (c_is_refused_set : PySem.W.codeIn K cd_is_refused_set "is_refused_set" = true)
    (k_is_refused_set : PySem.W.keepIn K (.ref f_is_refused_set) = true)
    (a_gain_list : PySem.W.nsIn K mainGlobals "gain_list" = some (some (.ref f_gain_list)))
    (l_gain_list : K.lookup f_gain_list = some ⟨oc_gain_list, od_gain_list, .func (PySem.W.fnOf "gain_list" "gain_list" (defArgs s_gain_list) (defBody s_gain_list) (defScope s_gain_list) .none kV_gain_list dc_gain_list pm_gain_list an_gain_list cd_gain_list ct_gain_list), sl_gain_list⟩)
    (c_gain_list : PySem.W.codeIn K cd_gain_list "gain_list" = true)
    (k_gain_list : PySem.W.keepIn K (.ref f_gain_list) = true)
    (a_fits_bounds : PySem.W.nsIn K mainGlobals "fits_bounds" = some (some (.ref f_fits_bounds)))
    (l_fits_bounds : K.lookup f_fits_bounds = some ⟨oc_fits_bounds, od_fits_bounds, .func (PySem.W.fnOf "fits_bounds" "fits_bounds" (defArgs s_fits_bounds) (defBody s_fits_bounds) (defScope s_fits_bounds) .none kV_fits_bounds dc_fits_bounds pm_fits_bounds an_fits_bounds cd_fits_bounds ct_fits_bounds), sl_fits_bounds⟩)
    (c_fits_bounds : PySem.W.codeIn K cd_fits_bounds "fits_bounds" = true)
    (k_fits_bounds : PySem.W.keepIn K (.ref f_fits_bounds) = true)
    (a_serves : PySem.W.nsIn K mainGlobals "serves" = some (some (.ref f_serves)))
    (l_serves : K.lookup f_serves = some ⟨oc_serves, od_serves, .func (PySem.W.fnOf "serves" "serves" (defArgs s_serves) (defBody s_serves) (defScope s_serves) .none kV_serves dc_serves pm_serves an_serves cd_serves ct_serves), sl_serves⟩)
    (c_serves : PySem.W.codeIn K cd_serves "serves" = true)
    (k_serves : PySem.W.keepIn K (.ref f_serves) = true)
    (a_shows_stream : PySem.W.nsIn K mainGlobals "shows_stream" = some (some (.ref f_shows_stream)))
    (l_shows_stream : K.lookup f_shows_stream = some ⟨oc_shows_stream, od_shows_stream, .func (PySem.W.fnOf "shows_stream" "shows_stream" (defArgs s_shows_stream) (defBody s_shows_stream) (defScope s_shows_stream) .none kV_shows_stream dc_shows_stream pm_shows_stream an_shows_stream cd_shows_stream ct_shows_stream), sl_shows_stream⟩)
    (c_shows_stream : PySem.W.codeIn K cd_shows_stream "shows_stream" = true)
    (k_shows_stream : PySem.W.keepIn K (.ref f_shows_stream) = true)
    (a_require_bounds_intakes : PySem.W.nsIn K mainGlobals "require_bounds_intakes" = some (some (.ref f_require_bounds_intakes)))
    (l_require_bounds_intakes : K.lookup f_require_bounds_intakes = some ⟨oc_require_bounds_intakes, od_require_bounds_intakes, .func (PySem.W.fnOf "require_bounds" "require_bounds" (defArgs s_require_bounds_intakes) (defBody s_require_bounds_intakes) (defScope s_require_bounds_intakes) .none kV_require_bounds_intakes dc_require_bounds_intakes pm_require_bounds_intakes an_require_bounds_intakes cd_require_bounds_intakes ct_require_bounds_intakes), sl_require_bounds_intakes⟩)
    (c_require_bounds_intakes : PySem.W.codeIn K cd_require_bounds_intakes "require_bounds" = true)
    (k_require_bounds_intakes : PySem.W.keepIn K (.ref f_require_bounds_intakes) = true)
    (a_intakes_of : PySem.W.nsIn K mainGlobals "intakes_of" = some (some (.ref f_intakes_of)))
    (l_intakes_of : K.lookup f_intakes_of = some ⟨oc_intakes_of, od_intakes_of, .func (PySem.W.fnOf "intakes_of" "intakes_of" (defArgs s_intakes_of) (defBody s_intakes_of) (defScope s_intakes_of) .none kV_intakes_of dc_intakes_of pm_intakes_of an_intakes_of cd_intakes_of ct_intakes_of), sl_intakes_of⟩)
    (c_intakes_of : PySem.W.codeIn K cd_intakes_of "intakes_of" = true)
    (k_intakes_of : PySem.W.keepIn K (.ref f_intakes_of) = true)
    (a_search : PySem.W.nsIn K mainGlobals "search" = some (some (.ref f_search)))
    (l_search : K.lookup f_search = some ⟨oc_search, od_search, .func (PySem.W.fnOf "search" "search" (defArgs s_search) (defBody s_search) (defScope s_search) .none kV_search dc_search pm_search an_search cd_search ct_search), sl_search⟩)
    (c_search : PySem.W.codeIn K cd_search "search" = true)
    (k_search : PySem.W.keepIn K (.ref f_search) = true)
    (a_turn_path : PySem.W.nsIn K mainGlobals "turn_path" = some (some (.ref f_turn_path)))
    (l_turn_path : K.lookup f_turn_path = some ⟨oc_turn_path, od_turn_path, .func (PySem.W.fnOf "turn_path" "turn_path" (defArgs s_turn_path) (defBody s_turn_path) (defScope s_turn_path) .none kV_turn_path dc_turn_path pm_turn_path an_turn_path cd_turn_path ct_turn_path), sl_turn_path⟩)
    (c_turn_path : PySem.W.codeIn K cd_turn_path "turn_path" = true)
    (k_turn_path : PySem.W.keepIn K (.ref f_turn_path) = true)
    (a_lower_all : PySem.W.nsIn K mainGlobals "lower_all" = some (some (.ref f_lower_all)))
    (l_lower_all : K.lookup f_lower_all = some ⟨oc_lower_all, od_lower_all, .func (PySem.W.fnOf "lower_all" "lower_all" (defArgs s_lower_all) (defBody s_lower_all) (defScope s_lower_all) .none kV_lower_all dc_lower_all pm_lower_all an_lower_all cd_lower_all ct_lower_all), sl_lower_all⟩)
    (c_lower_all : PySem.W.codeIn K cd_lower_all "lower_all" = true)
    (k_lower_all : PySem.W.keepIn K (.ref f_lower_all) = true)
    (a_raise_all : PySem.W.nsIn K mainGlobals "raise_all" = some (some (.ref f_raise_all)))
    (l_raise_all : K.lookup f_raise_all = some ⟨oc_raise_all, od_raise_all, .func (PySem.W.fnOf "raise_all" "raise_all" (defArgs s_raise_all) (defBody s_raise_all) (defScope s_raise_all) .none kV_raise_all dc_raise_all pm_raise_all an_raise_all cd_raise_all ct_raise_all), sl_raise_all⟩)
    (c_raise_all : PySem.W.codeIn K cd_raise_all "raise_all" = true)
    (k_raise_all : PySem.W.keepIn K (.ref f_raise_all) = true)
    (a_hold_intakes : PySem.W.nsIn K mainGlobals "hold_intakes" = some (some (.ref f_hold_intakes)))
    (l_hold_intakes : K.lookup f_hold_intakes = some ⟨oc_hold_intakes, od_hold_intakes, .func (PySem.W.fnOf "hold_intakes" "hold_intakes" (defArgs s_hold_intakes) (defBody s_hold_intakes) (defScope s_hold_intakes) .none kV_hold_intakes dc_hold_intakes pm_hold_intakes an_hold_intakes cd_hold_intakes ct_hold_intakes), sl_hold_intakes⟩)
    (c_hold_intakes : PySem.W.codeIn K cd_hold_intakes "hold_intakes" = true)
    (k_hold_intakes : PySem.W.keepIn K (.ref f_hold_intakes) = true)
    (a_feeders : PySem.W.nsIn K mainGlobals "feeders" = some (some (.ref f_feeders)))
    (l_feeders : K.lookup f_feeders = some ⟨oc_feeders, od_feeders, .func (PySem.W.fnOf "feeders" "feeders" (defArgs s_feeders) (defBody s_feeders) (defScope s_feeders) .none kV_feeders dc_feeders pm_feeders an_feeders cd_feeders ct_feeders), sl_feeders⟩)
    (c_feeders : PySem.W.codeIn K cd_feeders "feeders" = true)
    (k_feeders : PySem.W.keepIn K (.ref f_feeders) = true)
    (a_feed : PySem.W.nsIn K mainGlobals "feed" = some (some (.ref f_feed)))
    (l_feed : K.lookup f_feed = some ⟨oc_feed, od_feed, .func (PySem.W.fnOf "feed" "feed" (defArgs s_feed) (defBody s_feed) (defScope s_feed) .none kV_feed dc_feed pm_feed an_feed cd_feed ct_feed), sl_feed⟩)
    (c_feed : PySem.W.codeIn K cd_feed "feed" = true)
    (k_feed : PySem.W.keepIn K (.ref f_feed) = true)
    (a_serve : PySem.W.nsIn K mainGlobals "serve" = some (some (.ref f_serve)))
    (l_serve : K.lookup f_serve = some ⟨oc_serve, od_serve, .func (PySem.W.fnOf "serve" "serve" (defArgs s_serve) (defBody s_serve) (defScope s_serve) .none kV_serve dc_serve pm_serve an_serve cd_serve ct_serve), sl_serve⟩)
    (c_serve : PySem.W.codeIn K cd_serve "serve" = true)
    (k_serve : PySem.W.keepIn K (.ref f_serve) = true)
    (a_hold_stream : PySem.W.nsIn K mainGlobals "hold_stream" = some (some (.ref f_hold_stream)))
    (l_hold_stream : K.lookup f_hold_stream = some ⟨oc_hold_stream, od_hold_stream, .func (PySem.W.fnOf "hold_stream" "hold_stream" (defArgs s_hold_stream) (defBody s_hold_stream) (defScope s_hold_stream) .none kV_hold_stream dc_hold_stream pm_hold_stream an_hold_stream cd_hold_stream ct_hold_stream), sl_hold_stream⟩)
    (c_hold_stream : PySem.W.codeIn K cd_hold_stream "hold_stream" = true)
    (k_hold_stream : PySem.W.keepIn K (.ref f_hold_stream) = true)
    (a_law_numbers : PySem.W.nsIn K mainGlobals "_law_numbers" = some (some (.ref f_law_numbers)))
    (l_law_numbers : K.lookup f_law_numbers = some ⟨oc_law_numbers, od_law_numbers, .func (PySem.W.fnOf "_law_numbers" "_law_numbers" (defArgs s_law_numbers) (defBody s_law_numbers) (defScope s_law_numbers) .none kV_law_numbers dc_law_numbers pm_law_numbers an_law_numbers cd_law_numbers ct_law_numbers), sl_law_numbers⟩)
    (c_law_numbers : PySem.W.codeIn K cd_law_numbers "_law_numbers" = true)
    (k_law_numbers : PySem.W.keepIn K (.ref f_law_numbers) = true)
    (a_script_stream : PySem.W.nsIn K mainGlobals "script_stream" = some (some (.ref f_script_stream)))
    (l_script_stream : K.lookup f_script_stream = some ⟨oc_script_stream, od_script_stream, .func (PySem.W.fnOf "script_stream" "script_stream" (defArgs s_script_stream) (defBody s_script_stream) (defScope s_script_stream) .none kV_script_stream dc_script_stream pm_script_stream an_script_stream cd_script_stream ct_script_stream), sl_script_stream⟩)
    (c_script_stream : PySem.W.codeIn K cd_script_stream "script_stream" = true)
    (k_script_stream : PySem.W.keepIn K (.ref f_script_stream) = true)
    (a_law_after : PySem.W.nsIn K mainGlobals "_law_after" = some (some (.ref f_law_after)))
    (l_law_after : K.lookup f_law_after = some ⟨oc_law_after, od_law_after, .func (PySem.W.fnOf "_law_after" "_law_after" (defArgs s_law_after) (defBody s_law_after) (defScope s_law_after) .none kV_law_after dc_law_after pm_law_after an_law_after cd_law_after ct_law_after), sl_law_after⟩)
    (c_law_after : PySem.W.codeIn K cd_law_after "_law_after" = true)
    (k_law_after : PySem.W.keepIn K (.ref f_law_after) = true)
    (a_gains_of : PySem.W.nsIn K mainGlobals "gains_of" = some (some (.ref f_gains_of)))
    (l_gains_of : K.lookup f_gains_of = some ⟨oc_gains_of, od_gains_of, .func (PySem.W.fnOf "gains_of" "gains_of" (defArgs s_gains_of) (defBody s_gains_of) (defScope s_gains_of) .none kV_gains_of dc_gains_of pm_gains_of an_gains_of cd_gains_of ct_gains_of), sl_gains_of⟩)
    (c_gains_of : PySem.W.codeIn K cd_gains_of "gains_of" = true)
    (k_gains_of : PySem.W.keepIn K (.ref f_gains_of) = true)
    (a_require_load : PySem.W.nsIn K mainGlobals "require_load" = some (some (.ref f_require_load)))
    (l_require_load : K.lookup f_require_load = some ⟨oc_require_load, od_require_load, .func (PySem.W.fnOf "require_load" "require_load" (defArgs s_require_load) (defBody s_require_load) (defScope s_require_load) .none kV_require_load dc_require_load pm_require_load an_require_load cd_require_load ct_require_load), sl_require_load⟩)
    (c_require_load : PySem.W.codeIn K cd_require_load "require_load" = true)
    (k_require_load : PySem.W.keepIn K (.ref f_require_load) = true)
    (a_shifted : PySem.W.nsIn K mainGlobals "shifted" = some (some (.ref f_shifted)))
    (l_shifted : K.lookup f_shifted = some ⟨oc_shifted, od_shifted, .func (PySem.W.fnOf "shifted" "shifted" (defArgs s_shifted) (defBody s_shifted) (defScope s_shifted) .none kV_shifted dc_shifted pm_shifted an_shifted cd_shifted ct_shifted), sl_shifted⟩)
    (c_shifted : PySem.W.codeIn K cd_shifted "shifted" = true)
    (k_shifted : PySem.W.keepIn K (.ref f_shifted) = true)
    (a_Building_width_rows : PySem.W.findIn K (.ref fC_Building) "width_rows" = some (some (.ref f_Building_width_rows)))
    (i_Building_width_rows : PySem.W.isFn K (.ref f_Building_width_rows) = true)
    (l_Building_width_rows : K.lookup f_Building_width_rows = some ⟨oc_Building_width_rows, od_Building_width_rows, .func (PySem.W.fnOf "width_rows" "Building.width_rows" (defArgs s_Building_width_rows) (defBody s_Building_width_rows) (defScope s_Building_width_rows) .none kV_Building_width_rows dc_Building_width_rows pm_Building_width_rows an_Building_width_rows cd_Building_width_rows ct_Building_width_rows), sl_Building_width_rows⟩)
    (c_Building_width_rows : PySem.W.codeIn K cd_Building_width_rows "Building.width_rows" = true)
    (k_Building_width_rows : PySem.W.keepIn K (.ref f_Building_width_rows) = true)
    (a_after : PySem.W.nsIn K mainGlobals "after" = some (some (.ref f_after)))
    (l_after : K.lookup f_after = some ⟨oc_after, od_after, .func (PySem.W.fnOf "after" "after" (defArgs s_after) (defBody s_after) (defScope s_after) .none kV_after dc_after pm_after an_after cd_after ct_after), sl_after⟩)
    (c_after : PySem.W.codeIn K cd_after "after" = true)
    (k_after : PySem.W.keepIn K (.ref f_after) = true)
    (a_law_ints : PySem.W.nsIn K mainGlobals "_law_ints" = some (some (.ref f_law_ints)))
    (l_law_ints : K.lookup f_law_ints = some ⟨oc_law_ints, od_law_ints, .func (PySem.W.fnOf "_law_ints" "_law_ints" (defArgs s_law_ints) (defBody s_law_ints) (defScope s_law_ints) .none kV_law_ints dc_law_ints pm_law_ints an_law_ints cd_law_ints ct_law_ints), sl_law_ints⟩)
    (c_law_ints : PySem.W.codeIn K cd_law_ints "_law_ints" = true)
    (k_law_ints : PySem.W.keepIn K (.ref f_law_ints) = true)
    (a_law_vented : PySem.W.nsIn K mainGlobals "_law_vented" = some (some (.ref f_law_vented)))
    (l_law_vented : K.lookup f_law_vented = some ⟨oc_law_vented, od_law_vented, .func (PySem.W.fnOf "_law_vented" "_law_vented" (defArgs s_law_vented) (defBody s_law_vented) (defScope s_law_vented) .none kV_law_vented dc_law_vented pm_law_vented an_law_vented cd_law_vented ct_law_vented), sl_law_vented⟩)
    (c_law_vented : PySem.W.codeIn K cd_law_vented "_law_vented" = true)
    (k_law_vented : PySem.W.keepIn K (.ref f_law_vented) = true)
    (a_fits_air : PySem.W.nsIn K mainGlobals "fits_air" = some (some (.ref f_fits_air)))
    (l_fits_air : K.lookup f_fits_air = some ⟨oc_fits_air, od_fits_air, .func (PySem.W.fnOf "fits_air" "fits_air" (defArgs s_fits_air) (defBody s_fits_air) (defScope s_fits_air) .none kV_fits_air dc_fits_air pm_fits_air an_fits_air cd_fits_air ct_fits_air), sl_fits_air⟩)
    (c_fits_air : PySem.W.codeIn K cd_fits_air "fits_air" = true)
    (k_fits_air : PySem.W.keepIn K (.ref f_fits_air) = true)
    (a_air_holds : PySem.W.nsIn K mainGlobals "air_holds" = some (some (.ref f_air_holds)))
    (l_air_holds : K.lookup f_air_holds = some ⟨oc_air_holds, od_air_holds, .func (PySem.W.fnOf "air_holds" "air_holds" (defArgs s_air_holds) (defBody s_air_holds) (defScope s_air_holds) .none kV_air_holds dc_air_holds pm_air_holds an_air_holds cd_air_holds ct_air_holds), sl_air_holds⟩)
    (c_air_holds : PySem.W.codeIn K cd_air_holds "air_holds" = true)
    (k_air_holds : PySem.W.keepIn K (.ref f_air_holds) = true)
    (a_inside : PySem.W.nsIn K mainGlobals "inside" = some (some (.ref f_inside)))
    (l_inside : K.lookup f_inside = some ⟨oc_inside, od_inside, .func (PySem.W.fnOf "inside" "inside" (defArgs s_inside) (defBody s_inside) (defScope s_inside) .none kV_inside dc_inside pm_inside an_inside cd_inside ct_inside), sl_inside⟩)
    (c_inside : PySem.W.codeIn K cd_inside "inside" = true)
    (k_inside : PySem.W.keepIn K (.ref f_inside) = true)
    (a_touching : PySem.W.nsIn K mainGlobals "touching" = some (some (.ref f_touching)))
    (l_touching : K.lookup f_touching = some ⟨oc_touching, od_touching, .func (PySem.W.fnOf "touching" "touching" (defArgs s_touching) (defBody s_touching) (defScope s_touching) .none kV_touching dc_touching pm_touching an_touching cd_touching ct_touching), sl_touching⟩)
    (c_touching : PySem.W.codeIn K cd_touching "touching" = true)
    (k_touching : PySem.W.keepIn K (.ref f_touching) = true)
    (a_shows_intakes : PySem.W.nsIn K mainGlobals "shows_intakes" = some (some (.ref f_shows_intakes)))
    (l_shows_intakes : K.lookup f_shows_intakes = some ⟨oc_shows_intakes, od_shows_intakes, .func (PySem.W.fnOf "shows_intakes" "shows_intakes" (defArgs s_shows_intakes) (defBody s_shows_intakes) (defScope s_shows_intakes) .none kV_shows_intakes dc_shows_intakes pm_shows_intakes an_shows_intakes cd_shows_intakes ct_shows_intakes), sl_shows_intakes⟩)
    (c_shows_intakes : PySem.W.codeIn K cd_shows_intakes "shows_intakes" = true)
    (k_shows_intakes : PySem.W.keepIn K (.ref f_shows_intakes) = true)
    (a_law_widths : PySem.W.nsIn K mainGlobals "_law_widths" = some (some (.ref f_law_widths)))
    (l_law_widths : K.lookup f_law_widths = some ⟨oc_law_widths, od_law_widths, .func (PySem.W.fnOf "_law_widths" "_law_widths" (defArgs s_law_widths) (defBody s_law_widths) (defScope s_law_widths) .none kV_law_widths dc_law_widths pm_law_widths an_law_widths cd_law_widths ct_law_widths), sl_law_widths⟩)
    (c_law_widths : PySem.W.codeIn K cd_law_widths "_law_widths" = true)
    (k_law_widths : PySem.W.keepIn K (.ref f_law_widths) = true)
    (a_law_other_paper : PySem.W.nsIn K mainGlobals "_law_other_paper" = some (some (.ref f_law_other_paper)))
    (l_law_other_paper : K.lookup f_law_other_paper = some ⟨oc_law_other_paper, od_law_other_paper, .func (PySem.W.fnOf "_law_other_paper" "_law_other_paper" (defArgs s_law_other_paper) (defBody s_law_other_paper) (defScope s_law_other_paper) .none kV_law_other_paper dc_law_other_paper pm_law_other_paper an_law_other_paper cd_law_other_paper ct_law_other_paper), sl_law_other_paper⟩)
    (c_law_other_paper : PySem.W.codeIn K cd_law_other_paper "_law_other_paper" = true)
    (k_law_other_paper : PySem.W.keepIn K (.ref f_law_other_paper) = true)
    (a_law_air : PySem.W.nsIn K mainGlobals "_law_air" = some (some (.ref f_law_air)))
    (l_law_air : K.lookup f_law_air = some ⟨oc_law_air, od_law_air, .func (PySem.W.fnOf "_law_air" "_law_air" (defArgs s_law_air) (defBody s_law_air) (defScope s_law_air) .none kV_law_air dc_law_air pm_law_air an_law_air cd_law_air ct_law_air), sl_law_air⟩)
    (c_law_air : PySem.W.codeIn K cd_law_air "_law_air" = true)
    (k_law_air : PySem.W.keepIn K (.ref f_law_air) = true)
    (a_law : PySem.W.nsIn K mainGlobals "law" = some (some (.ref f_law)))
    (l_law : K.lookup f_law = some ⟨oc_law, od_law, .func (PySem.W.fnOf "law" "law" (defArgs s_law) (defBody s_law) (defScope s_law) .none kV_law dc_law pm_law an_law cd_law ct_law), sl_law⟩)
    (c_law : PySem.W.codeIn K cd_law "law" = true)
    (k_law : PySem.W.keepIn K (.ref f_law) = true)
    (z_bool : PySem.W.nsIn K mainGlobals "bool" = some none)
    (z_enumerate : PySem.W.nsIn K mainGlobals "enumerate" = some none)
    (z_int : PySem.W.nsIn K mainGlobals "int" = some none)
    (z_isinstance : PySem.W.nsIn K mainGlobals "isinstance" = some none)
    (z_len : PySem.W.nsIn K mainGlobals "len" = some none)
    (z_list : PySem.W.nsIn K mainGlobals "list" = some none)
    (z_range : PySem.W.nsIn K mainGlobals "range" = some none)
    (z_sorted : PySem.W.nsIn K mainGlobals "sorted" = some none)
    (z_str : PySem.W.nsIn K mainGlobals "str" = some none)
    (z_sum : PySem.W.nsIn K mainGlobals "sum" = some none)
    (z_tuple : PySem.W.nsIn K mainGlobals "tuple" = some none)
    (z_zip : PySem.W.nsIn K mainGlobals "zip" = some none)
    (g_MOST_DUCTS : PySem.W.nsIn K mainGlobals "MOST_DUCTS" = some (some (.int 16 t_MOST_DUCTS)))
    (g_MOST_FLOW : PySem.W.nsIn K mainGlobals "MOST_FLOW" = some (some (.int 12 t_MOST_FLOW)))
    (g_MOST_ROOMS : PySem.W.nsIn K mainGlobals "MOST_ROOMS" = some (some (.int 8 t_MOST_ROOMS)))
    (g_MOST_UNITS : PySem.W.nsIn K mainGlobals "MOST_UNITS" = some (some (.int 200 t_MOST_UNITS)))
    (g_MOST_VENTS : PySem.W.nsIn K mainGlobals "MOST_VENTS" = some (some (.int 1000000 t_MOST_VENTS)))
    (g_MOST_WIDTH : PySem.W.nsIn K mainGlobals "MOST_WIDTH" = some (some (.int 6 t_MOST_WIDTH))) :
    ∃ fd : FuncData, (∀ (s : Shared) (v : Value), BindsTo s fd ⟨[v], []⟩ [("script", v)]) ∧ ∀ base : Heap, K.In base → base.Ns mainGlobals mg → FnOk l.prog w K mg base CX0 8 fa fd ["script"] (spTrue K) := by
  have e := hfa.symm.trans (PySem.W.mg_of X G a_law)
  cases e
  obtain ⟨C, hC⟩ : ∃ C : Str → Addr, C "Building" = fC_Building ∧ True := ⟨fun x => if x = "Building" then fC_Building else 0, by simp (config := { decide := true }), trivial⟩
  obtain ⟨e_Building, _⟩ := hC
  subst e_Building
  have TX : Txt K mg C := ⟨PySem.W.mg_none_of X G z_bool, PySem.W.mg_none_of X G z_enumerate, PySem.W.mg_none_of X G z_int, PySem.W.mg_none_of X G z_isinstance, PySem.W.mg_none_of X G z_len, PySem.W.mg_none_of X G z_list, PySem.W.mg_none_of X G z_range, PySem.W.mg_none_of X G z_sorted, PySem.W.mg_none_of X G z_str, PySem.W.mg_none_of X G z_sum, PySem.W.mg_none_of X G z_tuple, PySem.W.mg_none_of X G z_zip, ⟨_, PySem.W.mg_of X G g_MOST_DUCTS⟩, ⟨_, PySem.W.mg_of X G g_MOST_FLOW⟩, ⟨_, PySem.W.mg_of X G g_MOST_ROOMS⟩, ⟨_, PySem.W.mg_of X G g_MOST_UNITS⟩, ⟨_, PySem.W.mg_of X G g_MOST_VENTS⟩, ⟨_, PySem.W.mg_of X G g_MOST_WIDTH⟩, ⟨pg_Building, hd_Building, po_Building, sa_Building⟩, PySem.W.mg_of X G aC_Building, nf_Building__widths, nf_Building_ducts, nf_Building_rooms, ⟨kit_ty_no io_Building iy_Building, ⟨pg_Building, hd_Building, po_Building, sa_Building⟩, ih_Building, in_Building, it_Building, im_Building⟩⟩
  have F_law_draw := fun_mk (st := s_law_draw) l_law_draw c_law_draw k_law_draw
  have b_law_draw := F_law_draw.binds (ps := ["cell", "bounds"]) fun _ _ _ _ _ _ us hl => match us, hl with | [_, _], _ => rfl
  have F_law_cell := fun_mk (st := s_law_cell) l_law_cell c_law_cell k_law_cell
  have b_law_cell := F_law_cell.binds (ps := ["script", "k"]) fun _ _ _ _ _ _ us hl => match us, hl with | [_, _], _ => rfl
  have F_law_ducts := fun_mk (st := s_law_ducts) l_law_ducts c_law_ducts k_law_ducts
  have b_law_ducts := F_law_ducts.binds (ps := ["cell", "rooms", "joined", "extra", "most"]) fun _ _ _ _ _ _ us hl => match us, hl with | [_, _, _, _, _], _ => rfl
  have F_law_plan := fun_mk (st := s_law_plan) l_law_plan c_law_plan k_law_plan
  have b_law_plan := F_law_plan.binds (ps := ["script", "at", "most_rooms", "most_extra", "most_width"]) fun _ _ _ _ _ _ us hl => match us, hl with | [_, _, _, _, _], _ => rfl
  have F_require := fun_mk (st := s_require) l_require c_require k_require
  have b_require := F_require.binds (ps := ["holds", "name"]) fun _ _ _ _ _ _ us hl => match us, hl with | [_, _], _ => rfl
  have F_width_table := fun_mk (st := s_width_table) l_width_table c_width_table k_width_table
  have b_width_table := F_width_table.binds (ps := ["rooms", "ducts"]) fun _ _ _ _ _ _ us hl => match us, hl with | [_, _], _ => rfl
  have F_is_integer := fun_mk (st := s_is_integer) l_is_integer c_is_integer k_is_integer
  have b_is_integer := F_is_integer.binds (ps := ["value"]) fun _ _ _ _ _ _ us hl => match us, hl with | [_], _ => rfl
  have F_is_between := fun_mk (st := s_is_between) l_is_between c_is_between k_is_between
  have b_is_between := F_is_between.binds (ps := ["value", "least", "most"]) fun _ _ _ _ _ _ us hl => match us, hl with | [_, _, _], _ => rfl
  have F_is_table := fun_mk (st := s_is_table) l_is_table c_is_table k_is_table
  have b_is_table := F_is_table.binds (ps := ["value", "size", "least", "most"]) fun _ _ _ _ _ _ us hl => match us, hl with | [_, _, _, _], _ => rfl
  have F_are_ducts := fun_mk (st := s_are_ducts) l_are_ducts c_are_ducts k_are_ducts
  have b_are_ducts := F_are_ducts.binds (ps := ["value", "rooms"]) fun _ _ _ _ _ _ us hl => match us, hl with | [_, _], _ => rfl
  have F_Building_init := fun_mk (st := s_Building_init) l_Building_init c_Building_init k_Building_init
  have b_Building_init := F_Building_init.binds (ps := ["self", "rooms", "ducts"]) fun _ _ _ _ _ _ us hl => match us, hl with | [_, _, _], _ => rfl
  have F_law_intakes := fun_mk (st := s_law_intakes) l_law_intakes c_law_intakes k_law_intakes
  have b_law_intakes := F_law_intakes.binds (ps := ["rooms", "ducts", "air"]) fun _ _ _ _ _ _ us hl => match us, hl with | [_, _, _], _ => rfl
  have F_law_asked := fun_mk (st := s_law_asked) l_law_asked c_law_asked k_law_asked
  have b_law_asked := F_law_asked.binds (ps := ["script", "rooms", "found"]) fun _ _ _ _ _ _ us hl => match us, hl with | [_, _, _], _ => rfl
  have F_require_building := fun_mk (st := s_require_building) l_require_building c_require_building k_require_building
  have b_require_building := F_require_building.binds (ps := ["building"]) fun _ _ _ _ _ _ us hl => match us, hl with | [_], _ => rfl
  have F_are_bounds := fun_mk (st := s_are_bounds) l_are_bounds c_are_bounds k_are_bounds
  have b_are_bounds := F_are_bounds.binds (ps := ["building", "value"]) fun _ _ _ _ _ _ us hl => match us, hl with | [_, _], _ => rfl
  have F_require_bounds_streams := fun_mk (st := s_require_bounds_streams) l_require_bounds_streams c_require_bounds_streams k_require_bounds_streams
  have b_require_bounds_streams := F_require_bounds_streams.binds (ps := ["building", "bounds"]) fun _ _ _ _ _ _ us hl => match us, hl with | [_, _], _ => rfl
  have F_require_needs := fun_mk (st := s_require_needs) l_require_needs c_require_needs k_require_needs
  have b_require_needs := F_require_needs.binds (ps := ["building", "needs"]) fun _ _ _ _ _ _ us hl => match us, hl with | [_, _], _ => rfl
  have F_is_paper := fun_mk (st := s_is_paper) l_is_paper c_is_paper k_is_paper
  have b_is_paper := F_is_paper.binds (ps := ["value", "kind", "size"]) fun _ _ _ _ _ _ us hl => match us, hl with | [_, _, _], _ => rfl
  have F_range_of_gain := fun_mk (st := s_range_of_gain) l_range_of_gain c_range_of_gain k_range_of_gain
  have b_range_of_gain := F_range_of_gain.binds (ps := ["building", "bounds", "rooms"]) fun _ _ _ _ _ _ us hl => match us, hl with | [_, _, _], _ => rfl
  have F_are_places := fun_mk (st := s_are_places) l_are_places c_are_places k_are_places
  have b_are_places := F_are_places.binds (ps := ["value", "count"]) fun _ _ _ _ _ _ us hl => match us, hl with | [_, _], _ => rfl
  have F_is_place_set := fun_mk (st := s_is_place_set) l_is_place_set c_is_place_set k_is_place_set
  have b_is_place_set := F_is_place_set.binds (ps := ["value", "count"]) fun _ _ _ _ _ _ us hl => match us, hl with | [_, _], _ => rfl
  have F_is_room_set := fun_mk (st := s_is_room_set) l_is_room_set c_is_room_set k_is_room_set
  have b_is_room_set := F_is_room_set.binds (ps := ["value", "rooms"]) fun _ _ _ _ _ _ us hl => match us, hl with | [_, _], _ => rfl
  have F_is_refused_set := fun_mk (st := s_is_refused_set) l_is_refused_set c_is_refused_set k_is_refused_set
  have b_is_refused_set := F_is_refused_set.binds (ps := ["building", "bounds", "needs", "paper"]) fun _ _ _ _ _ _ us hl => match us, hl with | [_, _, _, _], _ => rfl
  have F_gain_list := fun_mk (st := s_gain_list) l_gain_list c_gain_list k_gain_list
  have b_gain_list := F_gain_list.binds (ps := ["building", "stream"]) fun _ _ _ _ _ _ us hl => match us, hl with | [_, _], _ => rfl
  have F_fits_bounds := fun_mk (st := s_fits_bounds) l_fits_bounds c_fits_bounds k_fits_bounds
  have b_fits_bounds := F_fits_bounds.binds (ps := ["bounds", "value"]) fun _ _ _ _ _ _ us hl => match us, hl with | [_, _], _ => rfl
  have F_serves := fun_mk (st := s_serves) l_serves c_serves k_serves
  have b_serves := F_serves.binds (ps := ["building", "bounds", "needs", "value"]) fun _ _ _ _ _ _ us hl => match us, hl with | [_, _, _, _], _ => rfl
  have F_shows_stream := fun_mk (st := s_shows_stream) l_shows_stream c_shows_stream k_shows_stream
  have b_shows_stream := F_shows_stream.binds (ps := ["building", "bounds", "needs", "paper"]) fun _ _ _ _ _ _ us hl => match us, hl with | [_, _, _, _], _ => rfl
  have F_require_bounds_intakes := fun_mk (st := s_require_bounds_intakes) l_require_bounds_intakes c_require_bounds_intakes k_require_bounds_intakes
  have b_require_bounds_intakes := F_require_bounds_intakes.binds (ps := ["building", "low", "high"]) fun _ _ _ _ _ _ us hl => match us, hl with | [_, _, _], _ => rfl
  have F_intakes_of := fun_mk (st := s_intakes_of) l_intakes_of c_intakes_of k_intakes_of
  have b_intakes_of := F_intakes_of.binds (ps := ["building", "air"]) fun _ _ _ _ _ _ us hl => match us, hl with | [_, _], _ => rfl
  have F_search := fun_mk (st := s_search) l_search c_search k_search
  have b_search := F_search.binds (ps := ["building", "air", "start", "backward"]) fun _ _ _ _ _ _ us hl => match us, hl with | [_, _, _, _], _ => rfl
  have F_turn_path := fun_mk (st := s_turn_path) l_turn_path c_turn_path k_turn_path
  have b_turn_path := F_turn_path.binds (ps := ["building", "air", "steps", "end", "backward"]) fun _ _ _ _ _ _ us hl => match us, hl with | [_, _, _, _, _], _ => rfl
  have F_lower_all := fun_mk (st := s_lower_all) l_lower_all c_lower_all k_lower_all
  have b_lower_all := F_lower_all.binds (ps := ["building", "air", "high"]) fun _ _ _ _ _ _ us hl => match us, hl with | [_, _, _], _ => rfl
  have F_raise_all := fun_mk (st := s_raise_all) l_raise_all c_raise_all k_raise_all
  have b_raise_all := F_raise_all.binds (ps := ["building", "air", "low"]) fun _ _ _ _ _ _ us hl => match us, hl with | [_, _, _], _ => rfl
  have F_hold_intakes := fun_mk (st := s_hold_intakes) l_hold_intakes c_hold_intakes k_hold_intakes
  have b_hold_intakes := F_hold_intakes.binds (ps := ["building", "low", "high"]) fun _ _ _ _ _ _ us hl => match us, hl with | [_, _, _], _ => rfl
  have F_feeders := fun_mk (st := s_feeders) l_feeders c_feeders k_feeders
  have b_feeders := F_feeders.binds (ps := ["building", "bounds", "stream", "room"]) fun _ _ _ _ _ _ us hl => match us, hl with | [_, _, _, _], _ => rfl
  have F_feed := fun_mk (st := s_feed) l_feed c_feed k_feed
  have b_feed := F_feed.binds (ps := ["stream", "steps", "room"]) fun _ _ _ _ _ _ us hl => match us, hl with | [_, _, _], _ => rfl
  have F_serve := fun_mk (st := s_serve) l_serve c_serve k_serve
  have b_serve := F_serve.binds (ps := ["building", "bounds", "needs"]) fun _ _ _ _ _ _ us hl => match us, hl with | [_, _, _], _ => rfl
  have F_hold_stream := fun_mk (st := s_hold_stream) l_hold_stream c_hold_stream k_hold_stream
  have b_hold_stream := F_hold_stream.binds (ps := ["building", "bounds", "needs"]) fun _ _ _ _ _ _ us hl => match us, hl with | [_, _, _], _ => rfl
  have F_law_numbers := fun_mk (st := s_law_numbers) l_law_numbers c_law_numbers k_law_numbers
  have b_law_numbers := F_law_numbers.binds (ps := ["cell", "count", "least", "most"]) fun _ _ _ _ _ _ us hl => match us, hl with | [_, _, _, _], _ => rfl
  have F_script_stream := fun_mk (st := s_script_stream) l_script_stream c_script_stream k_script_stream
  have b_script_stream := F_script_stream.binds (ps := ["building", "script"]) fun _ _ _ _ _ _ us hl => match us, hl with | [_, _], _ => rfl
  have F_law_after := fun_mk (st := s_law_after) l_law_after c_law_after k_law_after
  have b_law_after := F_law_after.binds (ps := ["table", "load", "script"]) fun _ _ _ _ _ _ us hl => match us, hl with | [_, _, _], _ => rfl
  have F_gains_of := fun_mk (st := s_gains_of) l_gains_of c_gains_of k_gains_of
  have b_gains_of := F_gains_of.binds (ps := ["building", "bounds", "stream"]) fun _ _ _ _ _ _ us hl => match us, hl with | [_, _, _], _ => rfl
  have F_require_load := fun_mk (st := s_require_load) l_require_load c_require_load k_require_load
  have b_require_load := F_require_load.binds (ps := ["building", "load", "name"]) fun _ _ _ _ _ _ us hl => match us, hl with | [_, _, _], _ => rfl
  have F_shifted := fun_mk (st := s_shifted) l_shifted c_shifted k_shifted
  have b_shifted := F_shifted.binds (ps := ["widths", "load", "script"]) fun _ _ _ _ _ _ us hl => match us, hl with | [_, _, _], _ => rfl
  have F_Building_width_rows := fun_mk (st := s_Building_width_rows) l_Building_width_rows c_Building_width_rows k_Building_width_rows
  have b_Building_width_rows := F_Building_width_rows.binds (ps := ["self"]) fun _ _ _ _ _ _ us hl => match us, hl with | [_], _ => rfl
  have F_after := fun_mk (st := s_after) l_after c_after k_after
  have b_after := F_after.binds (ps := ["building", "load", "script"]) fun _ _ _ _ _ _ us hl => match us, hl with | [_, _, _], _ => rfl
  have F_law_ints := fun_mk (st := s_law_ints) l_law_ints c_law_ints k_law_ints
  have b_law_ints := F_law_ints.binds (ps := ["value", "size"]) fun _ _ _ _ _ _ us hl => match us, hl with | [_, _], _ => rfl
  have F_law_vented := fun_mk (st := s_law_vented) l_law_vented c_law_vented k_law_vented
  have b_law_vented := F_law_vented.binds (ps := ["script", "building", "table", "ducts"]) fun _ _ _ _ _ _ us hl => match us, hl with | [_, _, _, _], _ => rfl
  have F_fits_air := fun_mk (st := s_fits_air) l_fits_air c_fits_air k_fits_air
  have b_fits_air := F_fits_air.binds (ps := ["building", "value"]) fun _ _ _ _ _ _ us hl => match us, hl with | [_, _], _ => rfl
  have F_air_holds := fun_mk (st := s_air_holds) l_air_holds c_air_holds k_air_holds
  have b_air_holds := F_air_holds.binds (ps := ["building", "low", "high", "air"]) fun _ _ _ _ _ _ us hl => match us, hl with | [_, _, _, _], _ => rfl
  have F_inside := fun_mk (st := s_inside) l_inside c_inside k_inside
  have b_inside := F_inside.binds (ps := ["building", "rooms"]) fun _ _ _ _ _ _ us hl => match us, hl with | [_, _], _ => rfl
  have F_touching := fun_mk (st := s_touching) l_touching c_touching k_touching
  have b_touching := F_touching.binds (ps := ["building", "rooms"]) fun _ _ _ _ _ _ us hl => match us, hl with | [_, _], _ => rfl
  have F_shows_intakes := fun_mk (st := s_shows_intakes) l_shows_intakes c_shows_intakes k_shows_intakes
  have b_shows_intakes := F_shows_intakes.binds (ps := ["building", "low", "high", "paper"]) fun _ _ _ _ _ _ us hl => match us, hl with | [_, _, _, _], _ => rfl
  have F_law_widths := fun_mk (st := s_law_widths) l_law_widths c_law_widths k_law_widths
  have b_law_widths := F_law_widths.binds (ps := ["rooms", "ducts"]) fun _ _ _ _ _ _ us hl => match us, hl with | [_, _], _ => rfl
  have F_law_other_paper := fun_mk (st := s_law_other_paper) l_law_other_paper c_law_other_paper k_law_other_paper
  have b_law_other_paper := F_law_other_paper.binds (ps := ["paper", "tags", "others"]) fun _ _ _ _ _ _ us hl => match us, hl with | [_, _, _], _ => rfl
  have F_law_air := fun_mk (st := s_law_air) l_law_air c_law_air k_law_air
  have b_law_air := F_law_air.binds (ps := ["ducts", "value"]) fun _ _ _ _ _ _ us hl => match us, hl with | [_, _], _ => rfl
  have F_law := fun_mk (st := s_law) l_law c_law k_law
  refine ⟨PySem.W.fnOf "law" "law" (defArgs s_law) (defBody s_law) (defScope s_law) .none kV_law dc_law pm_law an_law cd_law ct_law, fun s v => .of_eq rfl, fun base _ _ => ?_⟩
  have C_law_draw : Cl l.prog w K mg base 1 "_law_draw" ["cell", "bounds"] (spU ⟨K, C⟩ [.f, .f] (pur (f2 m_law_draw))) := ⟨_, _, ok_law_draw F_law_draw TX , PySem.W.mg_of X G a_law_draw, k_law_draw, b_law_draw⟩
  have C_law_cell : Cl l.prog w K mg base 1 "_law_cell" ["script", "k"] (spU ⟨K, C⟩ [.f, .f] (pur (f2 m_law_cell))) := ⟨_, _, ok_law_cell F_law_cell TX , PySem.W.mg_of X G a_law_cell, k_law_cell, b_law_cell⟩
  have C_law_ducts : Cl l.prog w K mg base 2 "_law_ducts" ["cell", "rooms", "joined", "extra", "most"] (spU ⟨K, C⟩ [.f, .f, .f, .f, .f] (pur (f5 m_law_ducts))) := ⟨_, _, ok_law_ducts F_law_ducts TX C_law_draw, PySem.W.mg_of X G a_law_ducts, k_law_ducts, b_law_ducts⟩
  have C_law_plan : Cl l.prog w K mg base 3 "_law_plan" ["script", "at", "most_rooms", "most_extra", "most_width"] (spU ⟨K, C⟩ [.f, .f, .f, .f, .f] (pur (f5 m_law_plan))) := ⟨_, _, ok_law_plan F_law_plan TX C_law_draw C_law_cell C_law_ducts, PySem.W.mg_of X G a_law_plan, k_law_plan, b_law_plan⟩
  have C_require : Cl l.prog w K mg base 1 "require" ["holds", "name"] (spU ⟨K, C⟩ [.f, .f] (pur (f2 m_require))) := ⟨_, _, ok_require F_require TX , PySem.W.mg_of X G a_require, k_require, b_require⟩
  have C_width_table : Cl l.prog w K mg base 1 "width_table" ["rooms", "ducts"] (spU ⟨K, C⟩ [.f, .f] (pur (f2 m_width_table))) := ⟨_, _, ok_width_table F_width_table TX , PySem.W.mg_of X G a_width_table, k_width_table, b_width_table⟩
  have C_is_integer : Cl l.prog w K mg base 1 "is_integer" ["value"] (spU ⟨K, C⟩ [.h] (pur (f1 m_is_integer))) := ⟨_, _, ok_is_integer F_is_integer TX , PySem.W.mg_of X G a_is_integer, k_is_integer, b_is_integer⟩
  have C_is_between : Cl l.prog w K mg base 2 "is_between" ["value", "least", "most"] (spU ⟨K, C⟩ [.h, .f, .f] (pur (f3 m_is_between))) := ⟨_, _, ok_is_between F_is_between TX C_is_integer, PySem.W.mg_of X G a_is_between, k_is_between, b_is_between⟩
  have C_is_table : Cl l.prog w K mg base 3 "is_table" ["value", "size", "least", "most"] (spU ⟨K, C⟩ [.h, .f, .f, .f] (pur (f4 m_is_table))) := ⟨_, _, ok_is_table F_is_table TX C_is_between, PySem.W.mg_of X G a_is_table, k_is_table, b_is_table⟩
  have C_are_ducts : Cl l.prog w K mg base 4 "are_ducts" ["value", "rooms"] (spU ⟨K, C⟩ [.f, .f] (pur (f2 m_are_ducts))) := ⟨_, _, ok_are_ducts F_are_ducts TX C_is_table, PySem.W.mg_of X G a_are_ducts, k_are_ducts, b_are_ducts⟩
  have C_Building_init : Cm l.prog w K mg base 5 "Building" (C "Building") ["self", "rooms", "ducts"] (spU ⟨K, C⟩ [.u, .f, .f] (f3 m_Building_init)) := ⟨_, _, ok_Building_init F_Building_init TX C_require C_width_table C_is_between C_are_ducts, ⟨mk_Building, a_Building_init, i_Building_init, kc_Building⟩, PySem.W.mg_of X G aC_Building, b_Building_init⟩
  have C_law_intakes : Cl l.prog w K mg base 1 "_law_intakes" ["rooms", "ducts", "air"] (spU ⟨K, C⟩ [.f, .f, .f] (pur (f3 m_law_intakes))) := ⟨_, _, ok_law_intakes F_law_intakes TX , PySem.W.mg_of X G a_law_intakes, k_law_intakes, b_law_intakes⟩
  have C_law_asked : Cl l.prog w K mg base 2 "_law_asked" ["script", "rooms", "found"] (spU ⟨K, C⟩ [.f, .f, .f] (pur (f3 m_law_asked))) := ⟨_, _, ok_law_asked F_law_asked TX C_law_draw C_law_cell, PySem.W.mg_of X G a_law_asked, k_law_asked, b_law_asked⟩
  have C_require_building : Cl l.prog w K mg base 2 "require_building" ["building"] (spU ⟨K, C⟩ [.f] (pur (f1 m_require_building))) := ⟨_, _, ok_require_building F_require_building TX C_require, PySem.W.mg_of X G a_require_building, k_require_building, b_require_building⟩
  have C_are_bounds : Cl l.prog w K mg base 4 "are_bounds" ["building", "value"] (spU ⟨K, C⟩ [.f, .f] (pur (f2 m_are_bounds))) := ⟨_, _, ok_are_bounds F_are_bounds TX C_is_table, PySem.W.mg_of X G a_are_bounds, k_are_bounds, b_are_bounds⟩
  have C_require_bounds_streams : Cl l.prog w K mg base 5 "require_bounds_streams" ["building", "bounds"] (spU ⟨K, C⟩ [.f, .f] (pur (f2 m_require_bounds_streams))) := ⟨_, _, ok_require_bounds_streams F_require_bounds_streams TX C_require C_are_bounds, PySem.W.mg_of X G a_require_bounds_streams, k_require_bounds_streams, b_require_bounds_streams⟩
  have C_require_needs : Cl l.prog w K mg base 4 "require_needs" ["building", "needs"] (spU ⟨K, C⟩ [.f, .h] (pur (f2 m_require_needs))) := ⟨_, _, ok_require_needs F_require_needs TX C_require C_is_table, PySem.W.mg_of X G a_require_needs, k_require_needs, b_require_needs⟩
  have C_is_paper : Cl l.prog w K mg base 1 "is_paper" ["value", "kind", "size"] (spU ⟨K, C⟩ [.h, .f, .f] (pur (f3 m_is_paper))) := ⟨_, _, ok_is_paper F_is_paper TX , PySem.W.mg_of X G a_is_paper, k_is_paper, b_is_paper⟩
  have C_range_of_gain : Cl l.prog w K mg base 1 "range_of_gain" ["building", "bounds", "rooms"] (spU ⟨K, C⟩ [.f, .f, .f] (pur (f3 m_range_of_gain))) := ⟨_, _, ok_range_of_gain F_range_of_gain TX , PySem.W.mg_of X G a_range_of_gain, k_range_of_gain, b_range_of_gain⟩
  have C_are_places : Cl l.prog w K mg base 3 "are_places" ["value", "count"] (spU ⟨K, C⟩ [.f, .f] (pur (f2 m_are_places))) := ⟨_, _, ok_are_places F_are_places TX C_is_between, PySem.W.mg_of X G a_are_places, k_are_places, b_are_places⟩
  have C_is_place_set : Cl l.prog w K mg base 4 "is_place_set" ["value", "count"] (spU ⟨K, C⟩ [.f, .f] (pur (f2 m_is_place_set))) := ⟨_, _, ok_is_place_set F_is_place_set TX C_are_places, PySem.W.mg_of X G a_is_place_set, k_is_place_set, b_is_place_set⟩
  have C_is_room_set : Cl l.prog w K mg base 5 "is_room_set" ["value", "rooms"] (spU ⟨K, C⟩ [.f, .f] (pur (f2 m_is_room_set))) := ⟨_, _, ok_is_room_set F_is_room_set TX C_is_place_set, PySem.W.mg_of X G a_is_room_set, k_is_room_set, b_is_room_set⟩
  have C_is_refused_set : Cl l.prog w K mg base 6 "is_refused_set" ["building", "bounds", "needs", "paper"] (spU ⟨K, C⟩ [.f, .f, .h, .f] (pur (f4 m_is_refused_set))) := ⟨_, _, ok_is_refused_set F_is_refused_set TX C_is_paper C_range_of_gain C_is_room_set, PySem.W.mg_of X G a_is_refused_set, k_is_refused_set, b_is_refused_set⟩
  have C_gain_list : Cl l.prog w K mg base 1 "gain_list" ["building", "stream"] (spU ⟨K, C⟩ [.f, .h] (pur (f2 m_gain_list))) := ⟨_, _, ok_gain_list F_gain_list TX , PySem.W.mg_of X G a_gain_list, k_gain_list, b_gain_list⟩
  have C_fits_bounds : Cl l.prog w K mg base 2 "fits_bounds" ["bounds", "value"] (spU ⟨K, C⟩ [.f, .f] (pur (f2 m_fits_bounds))) := ⟨_, _, ok_fits_bounds F_fits_bounds TX C_is_integer, PySem.W.mg_of X G a_fits_bounds, k_fits_bounds, b_fits_bounds⟩
  have C_serves : Cl l.prog w K mg base 3 "serves" ["building", "bounds", "needs", "value"] (spU ⟨K, C⟩ [.f, .f, .h, .f] (pur (f4 m_serves))) := ⟨_, _, ok_serves F_serves TX C_gain_list C_fits_bounds, PySem.W.mg_of X G a_serves, k_serves, b_serves⟩
  have C_shows_stream : Cl l.prog w K mg base 7 "shows_stream" ["building", "bounds", "needs", "paper"] (spU ⟨K, C⟩ [.f, .f, .h, .f] (pur (f4 m_shows_stream))) := ⟨_, _, ok_shows_stream F_shows_stream TX C_require_building C_require_bounds_streams C_require_needs C_is_paper C_is_refused_set C_serves, PySem.W.mg_of X G a_shows_stream, k_shows_stream, b_shows_stream⟩
  have C_require_bounds_intakes : Cl l.prog w K mg base 4 "require_bounds_intakes" ["building", "low", "high"] (spU ⟨K, C⟩ [.f, .f, .f] (pur (f3 m_require_bounds_intakes))) := ⟨_, _, ok_require_bounds_intakes F_require_bounds_intakes TX C_require C_is_table, PySem.W.mg_of X G a_require_bounds_intakes, k_require_bounds_intakes, b_require_bounds_intakes⟩
  have C_intakes_of : Cl l.prog w K mg base 1 "intakes_of" ["building", "air"] (spU ⟨K, C⟩ [.f, .h] (pur (f2 m_intakes_of))) := ⟨_, _, ok_intakes_of F_intakes_of TX , PySem.W.mg_of X G a_intakes_of, k_intakes_of, b_intakes_of⟩
  have C_search : Cl l.prog w K mg base 1 "search" ["building", "air", "start", "backward"] (spU ⟨K, C⟩ [.f, .h, .f, .f] (pur (f4 m_search))) := ⟨_, _, ok_search F_search TX , PySem.W.mg_of X G a_search, k_search, b_search⟩
  have C_turn_path : Cl l.prog w K mg base 1 "turn_path" ["building", "air", "steps", "end", "backward"] (spU ⟨K, C⟩ [.f, .u, .f, .f, .f] (f5 m_turn_path)) := ⟨_, _, ok_turn_path F_turn_path TX , PySem.W.mg_of X G a_turn_path, k_turn_path, b_turn_path⟩
  have C_lower_all : Cl l.prog w K mg base 2 "lower_all" ["building", "air", "high"] (spU ⟨K, C⟩ [.f, .u, .f] (f3 m_lower_all)) := ⟨_, _, ok_lower_all F_lower_all TX C_intakes_of C_search C_turn_path, PySem.W.mg_of X G a_lower_all, k_lower_all, b_lower_all⟩
  have C_raise_all : Cl l.prog w K mg base 2 "raise_all" ["building", "air", "low"] (spU ⟨K, C⟩ [.f, .u, .f] (f3 m_raise_all)) := ⟨_, _, ok_raise_all F_raise_all TX C_intakes_of C_search C_turn_path, PySem.W.mg_of X G a_raise_all, k_raise_all, b_raise_all⟩
  have C_hold_intakes : Cl l.prog w K mg base 5 "hold_intakes" ["building", "low", "high"] (spU ⟨K, C⟩ [.f, .f, .f] (pur (f3 m_hold_intakes))) := ⟨_, _, ok_hold_intakes F_hold_intakes TX C_require_building C_require_bounds_intakes C_lower_all C_raise_all, PySem.W.mg_of X G a_hold_intakes, k_hold_intakes, b_hold_intakes⟩
  have C_feeders : Cl l.prog w K mg base 1 "feeders" ["building", "bounds", "stream", "room"] (spU ⟨K, C⟩ [.f, .f, .h, .f] (pur (f4 m_feeders))) := ⟨_, _, ok_feeders F_feeders TX , PySem.W.mg_of X G a_feeders, k_feeders, b_feeders⟩
  have C_feed : Cl l.prog w K mg base 1 "feed" ["stream", "steps", "room"] (spU ⟨K, C⟩ [.u, .f, .f] (f3 m_feed)) := ⟨_, _, ok_feed F_feed TX , PySem.W.mg_of X G a_feed, k_feed, b_feed⟩
  have C_serve : Cl l.prog w K mg base 2 "serve" ["building", "bounds", "needs"] (spU ⟨K, C⟩ [.f, .f, .f] (pur (f3 m_serve))) := ⟨_, _, ok_serve F_serve TX C_gain_list C_feeders C_feed, PySem.W.mg_of X G a_serve, k_serve, b_serve⟩
  have C_hold_stream : Cl l.prog w K mg base 6 "hold_stream" ["building", "bounds", "needs"] (spU ⟨K, C⟩ [.f, .f, .f] (pur (f3 m_hold_stream))) := ⟨_, _, ok_hold_stream F_hold_stream TX C_require_building C_require_bounds_streams C_require_needs C_serve, PySem.W.mg_of X G a_hold_stream, k_hold_stream, b_hold_stream⟩
  have C_law_numbers : Cl l.prog w K mg base 2 "_law_numbers" ["cell", "count", "least", "most"] (spU ⟨K, C⟩ [.f, .f, .f, .f] (pur (f4 m_law_numbers))) := ⟨_, _, ok_law_numbers F_law_numbers TX C_law_draw, PySem.W.mg_of X G a_law_numbers, k_law_numbers, b_law_numbers⟩
  have C_script_stream : Cl l.prog w K mg base 4 "script_stream" ["building", "script"] (spU ⟨K, C⟩ [.f, .f] (pur (f2 m_script_stream))) := ⟨_, _, ok_script_stream F_script_stream TX C_require C_is_table C_require_building, PySem.W.mg_of X G a_script_stream, k_script_stream, b_script_stream⟩
  have C_law_after : Cl l.prog w K mg base 1 "_law_after" ["table", "load", "script"] (spU ⟨K, C⟩ [.f, .f, .f] (pur (f3 m_law_after))) := ⟨_, _, ok_law_after F_law_after TX , PySem.W.mg_of X G a_law_after, k_law_after, b_law_after⟩
  have C_gains_of : Cl l.prog w K mg base 6 "gains_of" ["building", "bounds", "stream"] (spU ⟨K, C⟩ [.f, .f, .f] (pur (f3 m_gains_of))) := ⟨_, _, ok_gains_of F_gains_of TX C_require C_require_building C_require_bounds_streams C_gain_list C_fits_bounds, PySem.W.mg_of X G a_gains_of, k_gains_of, b_gains_of⟩
  have C_require_load : Cl l.prog w K mg base 4 "require_load" ["building", "load", "name"] (spU ⟨K, C⟩ [.f, .f, .f] (pur (f3 m_require_load))) := ⟨_, _, ok_require_load F_require_load TX C_require C_is_table, PySem.W.mg_of X G a_require_load, k_require_load, b_require_load⟩
  have C_shifted : Cl l.prog w K mg base 1 "shifted" ["widths", "load", "script"] (spU ⟨K, C⟩ [.f, .f, .f] (pur (f3 m_shifted))) := ⟨_, _, ok_shifted F_shifted TX , PySem.W.mg_of X G a_shifted, k_shifted, b_shifted⟩
  have C_Building_width_rows : Ml l.prog w K mg base 1 (C "Building") "width_rows" ["self"] (spU ⟨K, C⟩ [.f] (pur (f1 m_Building_width_rows))) := ⟨_, _, ok_Building_width_rows F_Building_width_rows TX , ⟨a_Building_width_rows, i_Building_width_rows, k_Building_width_rows⟩, b_Building_width_rows⟩
  have C_after : Cl l.prog w K mg base 5 "after" ["building", "load", "script"] (spU ⟨K, C⟩ [.f, .f, .f] (pur (f3 m_after))) := ⟨_, _, ok_after F_after TX C_require C_is_table C_require_building C_require_load C_shifted C_Building_width_rows, PySem.W.mg_of X G a_after, k_after, b_after⟩
  have C_law_ints : Cl l.prog w K mg base 1 "_law_ints" ["value", "size"] (spU ⟨K, C⟩ [.h, .f] (pur (f2 m_law_ints))) := ⟨_, _, ok_law_ints F_law_ints TX , PySem.W.mg_of X G a_law_ints, k_law_ints, b_law_ints⟩
  have C_law_vented : Cl l.prog w K mg base 7 "_law_vented" ["script", "building", "table", "ducts"] (spU ⟨K, C⟩ [.f, .f, .f, .f] (pur (f4 m_law_vented))) := ⟨_, _, ok_law_vented F_law_vented TX C_law_cell C_law_numbers C_script_stream C_law_after C_gains_of C_after C_law_ints, PySem.W.mg_of X G a_law_vented, k_law_vented, b_law_vented⟩
  have C_fits_air : Cl l.prog w K mg base 2 "fits_air" ["building", "value"] (spU ⟨K, C⟩ [.f, .f] (pur (f2 m_fits_air))) := ⟨_, _, ok_fits_air F_fits_air TX C_is_integer, PySem.W.mg_of X G a_fits_air, k_fits_air, b_fits_air⟩
  have C_air_holds : Cl l.prog w K mg base 3 "air_holds" ["building", "low", "high", "air"] (spU ⟨K, C⟩ [.f, .f, .f, .f] (pur (f4 m_air_holds))) := ⟨_, _, ok_air_holds F_air_holds TX C_intakes_of C_fits_air, PySem.W.mg_of X G a_air_holds, k_air_holds, b_air_holds⟩
  have C_inside : Cl l.prog w K mg base 1 "inside" ["building", "rooms"] (spU ⟨K, C⟩ [.f, .f] (pur (f2 m_inside))) := ⟨_, _, ok_inside F_inside TX , PySem.W.mg_of X G a_inside, k_inside, b_inside⟩
  have C_touching : Cl l.prog w K mg base 1 "touching" ["building", "rooms"] (spU ⟨K, C⟩ [.f, .f] (pur (f2 m_touching))) := ⟨_, _, ok_touching F_touching TX , PySem.W.mg_of X G a_touching, k_touching, b_touching⟩
  have C_shows_intakes : Cl l.prog w K mg base 6 "shows_intakes" ["building", "low", "high", "paper"] (spU ⟨K, C⟩ [.f, .f, .f, .f] (pur (f4 m_shows_intakes))) := ⟨_, _, ok_shows_intakes F_shows_intakes TX C_is_between C_require_building C_is_paper C_is_room_set C_require_bounds_intakes C_air_holds C_inside C_touching, PySem.W.mg_of X G a_shows_intakes, k_shows_intakes, b_shows_intakes⟩
  have C_law_widths : Cl l.prog w K mg base 1 "_law_widths" ["rooms", "ducts"] (spU ⟨K, C⟩ [.f, .f] (pur (f2 m_law_widths))) := ⟨_, _, ok_law_widths F_law_widths TX , PySem.W.mg_of X G a_law_widths, k_law_widths, b_law_widths⟩
  have C_law_other_paper : Cl l.prog w K mg base 1 "_law_other_paper" ["paper", "tags", "others"] (spU ⟨K, C⟩ [.f, .f, .f] (pur (f3 m_law_other_paper))) := ⟨_, _, ok_law_other_paper F_law_other_paper TX , PySem.W.mg_of X G a_law_other_paper, k_law_other_paper, b_law_other_paper⟩
  have C_law_air : Cl l.prog w K mg base 2 "_law_air" ["ducts", "value"] (spU ⟨K, C⟩ [.f, .f] (pur (f2 m_law_air))) := ⟨_, _, ok_law_air F_law_air TX C_law_ints, PySem.W.mg_of X G a_law_air, k_law_air, b_law_air⟩
  exact law_true (T := ⟨K, C⟩) (ok_law F_law TX C_law_draw C_law_cell C_law_plan C_Building_init C_law_intakes C_law_asked C_shows_stream C_hold_intakes C_hold_stream C_law_vented C_shows_intakes C_law_widths C_law_other_paper C_law_air) HL
end Mi

open PySem PySem.W PyProof.Rows in
set_option maxRecDepth 100000 in
set_option maxHeartbeats 0 in
theorem PySem.Challenge.cw_warmhold_k72_airs_as_streams_holds : PySem.Challenge.rw_warmhold_k72_airs_as_streams.Holds := by
  w_on; o_law; k_head; (case hw => w_witness2)
  k_fill
  refine Mi.law_walk (l := PySem.Challenge.rw_warmhold_k72_airs_as_streams) (k := 8) rfl rfl ⟨rfl, by decide, by decide⟩ (fun w h Y => PySem.W.kIn_of Y) ?F
  case F =>
    intro w mg fa h KX G hmg
    refine' Mi.all_mk Mi.law_holds KX G hmg ?aC_Building ?pg_Building ?hd_Building ?po_Building ?sa_Building ?mk_Building ?kc_Building ?nf_Building__widths ?nf_Building_ducts ?nf_Building_rooms ?io_Building ?iy_Building ?ih_Building ?in_Building ?it_Building ?im_Building ?a_law_draw ?l_law_draw ?c_law_draw ?k_law_draw ?a_law_cell ?l_law_cell ?c_law_cell ?k_law_cell ?a_law_ducts ?l_law_ducts ?c_law_ducts ?k_law_ducts ?a_law_plan ?l_law_plan ?c_law_plan ?k_law_plan ?a_require ?l_require ?c_require ?k_require ?a_width_table ?l_width_table ?c_width_table ?k_width_table ?a_is_integer ?l_is_integer ?c_is_integer ?k_is_integer ?a_is_between ?l_is_between ?c_is_between ?k_is_between ?a_is_table ?l_is_table ?c_is_table ?k_is_table ?a_are_ducts ?l_are_ducts ?c_are_ducts ?k_are_ducts ?a_Building_init ?i_Building_init ?l_Building_init ?c_Building_init ?k_Building_init ?a_law_intakes ?l_law_intakes ?c_law_intakes ?k_law_intakes ?a_law_asked ?l_law_asked ?c_law_asked ?k_law_asked ?a_require_building ?l_require_building ?c_require_building ?k_require_building ?a_are_bounds ?l_are_bounds ?c_are_bounds ?k_are_bounds ?a_require_bounds_streams ?l_require_bounds_streams ?c_require_bounds_streams ?k_require_bounds_streams ?a_require_needs ?l_require_needs ?c_require_needs ?k_require_needs ?a_is_paper ?l_is_paper ?c_is_paper ?k_is_paper ?a_range_of_gain ?l_range_of_gain ?c_range_of_gain ?k_range_of_gain ?a_are_places ?l_are_places ?c_are_places ?k_are_places ?a_is_place_set ?l_is_place_set ?c_is_place_set ?k_is_place_set ?a_is_room_set ?l_is_room_set ?c_is_room_set ?k_is_room_set ?a_is_refused_set ?l_is_refused_set ?c_is_refused_set ?k_is_refused_set ?a_gain_list ?l_gain_list ?c_gain_list ?k_gain_list ?a_fits_bounds ?l_fits_bounds ?c_fits_bounds ?k_fits_bounds ?a_serves ?l_serves ?c_serves ?k_serves ?a_shows_stream ?l_shows_stream ?c_shows_stream ?k_shows_stream ?a_require_bounds_intakes ?l_require_bounds_intakes ?c_require_bounds_intakes ?k_require_bounds_intakes ?a_intakes_of ?l_intakes_of ?c_intakes_of ?k_intakes_of ?a_search ?l_search ?c_search ?k_search ?a_turn_path ?l_turn_path ?c_turn_path ?k_turn_path ?a_lower_all ?l_lower_all ?c_lower_all ?k_lower_all ?a_raise_all ?l_raise_all ?c_raise_all ?k_raise_all ?a_hold_intakes ?l_hold_intakes ?c_hold_intakes ?k_hold_intakes ?a_feeders ?l_feeders ?c_feeders ?k_feeders ?a_feed ?l_feed ?c_feed ?k_feed ?a_serve ?l_serve ?c_serve ?k_serve ?a_hold_stream ?l_hold_stream ?c_hold_stream ?k_hold_stream ?a_law_numbers ?l_law_numbers ?c_law_numbers ?k_law_numbers ?a_script_stream ?l_script_stream ?c_script_stream ?k_script_stream ?a_law_after ?l_law_after ?c_law_after ?k_law_after ?a_gains_of ?l_gains_of ?c_gains_of ?k_gains_of ?a_require_load ?l_require_load ?c_require_load ?k_require_load ?a_shifted ?l_shifted ?c_shifted ?k_shifted ?a_Building_width_rows ?i_Building_width_rows ?l_Building_width_rows ?c_Building_width_rows ?k_Building_width_rows ?a_after ?l_after ?c_after ?k_after ?a_law_ints ?l_law_ints ?c_law_ints ?k_law_ints ?a_law_vented ?l_law_vented ?c_law_vented ?k_law_vented ?a_fits_air ?l_fits_air ?c_fits_air ?k_fits_air ?a_air_holds ?l_air_holds ?c_air_holds ?k_air_holds ?a_inside ?l_inside ?c_inside ?k_inside ?a_touching ?l_touching ?c_touching ?k_touching ?a_shows_intakes ?l_shows_intakes ?c_shows_intakes ?k_shows_intakes ?a_law_widths ?l_law_widths ?c_law_widths ?k_law_widths ?a_law_other_paper ?l_law_other_paper ?c_law_other_paper ?k_law_other_paper ?a_law_air ?l_law_air ?c_law_air ?k_law_air ?a_law ?l_law ?c_law ?k_law ?z_bool ?z_enumerate ?z_int ?z_isinstance ?z_len ?z_list ?z_range ?z_sorted ?z_str ?z_sum ?z_tuple ?z_zip ?g_MOST_DUCTS ?g_MOST_FLOW ?g_MOST_ROOMS ?g_MOST_UNITS ?g_MOST_VENTS ?g_MOST_WIDTH
    (case aC_Building => k_is)
    (case pg_Building => k_is)
    (case hd_Building => k_is)
    (case po_Building => k_is)
    (case sa_Building => k_is)
    (case mk_Building => k_is)
    (case kc_Building => k_is)
    (case nf_Building__widths => k_is)
    (case nf_Building_ducts => k_is)
    (case nf_Building_rooms => k_is)
    (case io_Building => k_is)
    (case iy_Building => k_is)
    (case ih_Building => k_is)
    (case in_Building => k_is)
    (case it_Building => k_is)
    (case im_Building => k_is)
    (case a_law_draw => k_is)
    (case l_law_draw => k_is)
    (case c_law_draw => k_is)
    (case k_law_draw => k_is)
    (case a_law_cell => k_is)
    (case l_law_cell => k_is)
    (case c_law_cell => k_is)
    (case k_law_cell => k_is)
    (case a_law_ducts => k_is)
    (case l_law_ducts => k_is)
    (case c_law_ducts => k_is)
    (case k_law_ducts => k_is)
    (case a_law_plan => k_is)
    (case l_law_plan => k_is)
    (case c_law_plan => k_is)
    (case k_law_plan => k_is)
    (case a_require => k_is)
    (case l_require => k_is)
    (case c_require => k_is)
    (case k_require => k_is)
    (case a_width_table => k_is)
    (case l_width_table => k_is)
    (case c_width_table => k_is)
    (case k_width_table => k_is)
    (case a_is_integer => k_is)
    (case l_is_integer => k_is)
    (case c_is_integer => k_is)
    (case k_is_integer => k_is)
    (case a_is_between => k_is)
    (case l_is_between => k_is)
    (case c_is_between => k_is)
    (case k_is_between => k_is)
    (case a_is_table => k_is)
    (case l_is_table => k_is)
    (case c_is_table => k_is)
    (case k_is_table => k_is)
    (case a_are_ducts => k_is)
    (case l_are_ducts => k_is)
    (case c_are_ducts => k_is)
    (case k_are_ducts => k_is)
    (case a_Building_init => k_is)
    (case i_Building_init => k_is)
    (case l_Building_init => k_is)
    (case c_Building_init => k_is)
    (case k_Building_init => k_is)
    (case a_law_intakes => k_is)
    (case l_law_intakes => k_is)
    (case c_law_intakes => k_is)
    (case k_law_intakes => k_is)
    (case a_law_asked => k_is)
    (case l_law_asked => k_is)
    (case c_law_asked => k_is)
    (case k_law_asked => k_is)
    (case a_require_building => k_is)
    (case l_require_building => k_is)
    (case c_require_building => k_is)
    (case k_require_building => k_is)
    (case a_are_bounds => k_is)
    (case l_are_bounds => k_is)
    (case c_are_bounds => k_is)
    (case k_are_bounds => k_is)
    (case a_require_bounds_streams => k_is)
    (case l_require_bounds_streams => k_is)
    (case c_require_bounds_streams => k_is)
    (case k_require_bounds_streams => k_is)
    (case a_require_needs => k_is)
    (case l_require_needs => k_is)
    (case c_require_needs => k_is)
    (case k_require_needs => k_is)
    (case a_is_paper => k_is)
    (case l_is_paper => k_is)
    (case c_is_paper => k_is)
    (case k_is_paper => k_is)
    (case a_range_of_gain => k_is)
    (case l_range_of_gain => k_is)
    (case c_range_of_gain => k_is)
    (case k_range_of_gain => k_is)
    (case a_are_places => k_is)
    (case l_are_places => k_is)
    (case c_are_places => k_is)
    (case k_are_places => k_is)
    (case a_is_place_set => k_is)
    (case l_is_place_set => k_is)
    (case c_is_place_set => k_is)
    (case k_is_place_set => k_is)
    (case a_is_room_set => k_is)
    (case l_is_room_set => k_is)
    (case c_is_room_set => k_is)
    (case k_is_room_set => k_is)
    (case a_is_refused_set => k_is)
    (case l_is_refused_set => k_is)
    (case c_is_refused_set => k_is)
    (case k_is_refused_set => k_is)
    (case a_gain_list => k_is)
    (case l_gain_list => k_is)
    (case c_gain_list => k_is)
    (case k_gain_list => k_is)
    (case a_fits_bounds => k_is)
    (case l_fits_bounds => k_is)
    (case c_fits_bounds => k_is)
    (case k_fits_bounds => k_is)
    (case a_serves => k_is)
    (case l_serves => k_is)
    (case c_serves => k_is)
    (case k_serves => k_is)
    (case a_shows_stream => k_is)
    (case l_shows_stream => k_is)
    (case c_shows_stream => k_is)
    (case k_shows_stream => k_is)
    (case a_require_bounds_intakes => k_is)
    (case l_require_bounds_intakes => k_is)
    (case c_require_bounds_intakes => k_is)
    (case k_require_bounds_intakes => k_is)
    (case a_intakes_of => k_is)
    (case l_intakes_of => k_is)
    (case c_intakes_of => k_is)
    (case k_intakes_of => k_is)
    (case a_search => k_is)
    (case l_search => k_is)
    (case c_search => k_is)
    (case k_search => k_is)
    (case a_turn_path => k_is)
    (case l_turn_path => k_is)
    (case c_turn_path => k_is)
    (case k_turn_path => k_is)
    (case a_lower_all => k_is)
    (case l_lower_all => k_is)
    (case c_lower_all => k_is)
    (case k_lower_all => k_is)
    (case a_raise_all => k_is)
    (case l_raise_all => k_is)
    (case c_raise_all => k_is)
    (case k_raise_all => k_is)
    (case a_hold_intakes => k_is)
    (case l_hold_intakes => k_is)
    (case c_hold_intakes => k_is)
    (case k_hold_intakes => k_is)
    (case a_feeders => k_is)
    (case l_feeders => k_is)
    (case c_feeders => k_is)
    (case k_feeders => k_is)
    (case a_feed => k_is)
    (case l_feed => k_is)
    (case c_feed => k_is)
    (case k_feed => k_is)
    (case a_serve => k_is)
    (case l_serve => k_is)
    (case c_serve => k_is)
    (case k_serve => k_is)
    (case a_hold_stream => k_is)
    (case l_hold_stream => k_is)
    (case c_hold_stream => k_is)
    (case k_hold_stream => k_is)
    (case a_law_numbers => k_is)
    (case l_law_numbers => k_is)
    (case c_law_numbers => k_is)
    (case k_law_numbers => k_is)
    (case a_script_stream => k_is)
    (case l_script_stream => k_is)
    (case c_script_stream => k_is)
    (case k_script_stream => k_is)
    (case a_law_after => k_is)
    (case l_law_after => k_is)
    (case c_law_after => k_is)
    (case k_law_after => k_is)
    (case a_gains_of => k_is)
    (case l_gains_of => k_is)
    (case c_gains_of => k_is)
    (case k_gains_of => k_is)
    (case a_require_load => k_is)
    (case l_require_load => k_is)
    (case c_require_load => k_is)
    (case k_require_load => k_is)
    (case a_shifted => k_is)
    (case l_shifted => k_is)
    (case c_shifted => k_is)
    (case k_shifted => k_is)
    (case a_Building_width_rows => k_is)
    (case i_Building_width_rows => k_is)
    (case l_Building_width_rows => k_is)
    (case c_Building_width_rows => k_is)
    (case k_Building_width_rows => k_is)
    (case a_after => k_is)
    (case l_after => k_is)
    (case c_after => k_is)
    (case k_after => k_is)
    (case a_law_ints => k_is)
    (case l_law_ints => k_is)
    (case c_law_ints => k_is)
    (case k_law_ints => k_is)
    (case a_law_vented => k_is)
    (case l_law_vented => k_is)
    (case c_law_vented => k_is)
    (case k_law_vented => k_is)
    (case a_fits_air => k_is)
    (case l_fits_air => k_is)
    (case c_fits_air => k_is)
    (case k_fits_air => k_is)
    (case a_air_holds => k_is)
    (case l_air_holds => k_is)
    (case c_air_holds => k_is)
    (case k_air_holds => k_is)
    (case a_inside => k_is)
    (case l_inside => k_is)
    (case c_inside => k_is)
    (case k_inside => k_is)
    (case a_touching => k_is)
    (case l_touching => k_is)
    (case c_touching => k_is)
    (case k_touching => k_is)
    (case a_shows_intakes => k_is)
    (case l_shows_intakes => k_is)
    (case c_shows_intakes => k_is)
    (case k_shows_intakes => k_is)
    (case a_law_widths => k_is)
    (case l_law_widths => k_is)
    (case c_law_widths => k_is)
    (case k_law_widths => k_is)
    (case a_law_other_paper => k_is)
    (case l_law_other_paper => k_is)
    (case c_law_other_paper => k_is)
    (case k_law_other_paper => k_is)
    (case a_law_air => k_is)
    (case l_law_air => k_is)
    (case c_law_air => k_is)
    (case k_law_air => k_is)
    (case a_law => k_is)
    (case l_law => k_is)
    (case c_law => k_is)
    (case k_law => k_is)
    (case z_bool => k_is)
    (case z_enumerate => k_is)
    (case z_int => k_is)
    (case z_isinstance => k_is)
    (case z_len => k_is)
    (case z_list => k_is)
    (case z_range => k_is)
    (case z_sorted => k_is)
    (case z_str => k_is)
    (case z_sum => k_is)
    (case z_tuple => k_is)
    (case z_zip => k_is)
    (case g_MOST_DUCTS => k_is)
    (case g_MOST_FLOW => k_is)
    (case g_MOST_ROOMS => k_is)
    (case g_MOST_UNITS => k_is)
    (case g_MOST_VENTS => k_is)
    (case g_MOST_WIDTH => k_is)
