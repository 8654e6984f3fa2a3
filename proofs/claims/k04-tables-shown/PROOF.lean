import PyProof.Rows.All
import Wide.All
import OpenK.AllK
import Wide.FinOn
import HandS.ForMost
import HandS.Deep
import HandS.Wide
import HandS.Small
import HandS.TupAny
import HandS.TupMul
import HandS.TupLe
import HandS.Conv
import HandS.IsInst
import HandS.SortInts
import KE.GoesEnum
import PySem.Challenge.RW_mirrorkin_k04_tables_shown
set_option Elab.async false
set_option linter.all false
set_option maxRecDepth 100000
set_option maxHeartbeats 4000000
/-! FL: what a def's body does to plain data, by one function. Part A: data, owned trees, places, steps. -/
namespace FL
open PySem L2

theorem seqT {K : PySem.W.Frag} {H H' : Hp} {a : Addr} {xs : List V} (e : Same H H') (h : SqT K H a xs) : SqT K H' a xs := by
  rcases h with (h | ⟨o, h⟩) | h
  · exact .inl (.inl (e _ _ h))
  · exact .inl (.inr ⟨o, e _ _ h⟩)
  · exact .inr h

mutual
theorem dpMono {K : PySem.W.Frag} {H H' : Hp} (e : Same H H') : ∀ (d : PyData) (v : V), Dp K H v d → Dp K H' v d
  | .none, _, h => by cases h; exact .non
  | .bool _, _, h => by cases h; exact .bl _
  | .int _, _, h => by cases h; exact .int _
  | .str _, _, h => by cases h; exact .str _
  | .list ds, _, h => by
    cases h with
    | lst hs ha => exact .lst (e.seq hs) (dpMonos e ds _ ha)
  | .tuple ds, _, h => by
    cases h with
    | tup hs ha => exact .tup (seqT e hs) (dpMonos e ds _ ha)
  | .dict _, _, h => by cases h
theorem dpMonos {K : PySem.W.Frag} {H H' : Hp} (e : Same H H') : ∀ (ds : List PyData) (vs : List V), DpAll K H vs ds → DpAll K H' vs ds
  | [], _, h => by cases h; exact .nil
  | d :: ds, _, h => by
    cases h with
    | cons h1 h2 => exact .cons (dpMono e d _ h1) (dpMonos e ds _ h2)
end

/-- a tree: a datum that stands still, or a list (a dict) that one name alone holds -/
inductive Tr where
  | imm (d : PyData)
  | lst (ts : List Tr)
  | dic (kvs : List (Key × PyData))
mutual
def Tr.toD : Tr → Option PyData
  | .imm d => some d
  | .lst ts => (Tr.toDs ts).map PyData.list
  | .dic _ => none
def Tr.toDs : List Tr → Option (List PyData)
  | [] => some []
  | t :: ts => (Tr.toD t).bind fun d => (Tr.toDs ts).map (d :: ·)
end

mutual
inductive RepT (K : PySem.W.Frag) (Hi H : Hp) : V → Tr → List Addr → Prop
  | imm {v : V} {d : PyData} : Dp K Hi v d → RepT K Hi H v (.imm d) []
  | lst {a : Addr} {vs : List V} {ts : List Tr} {F : List Addr} : H a = some (.lst vs) → Hi a = none → RepTs K Hi H vs ts F → a ∉ F → RepT K Hi H (.ref a) (.lst ts) (a :: F)
  | dic {a : Addr} {kvs : List (Key × V)} {ds : List (Key × PyData)} : H a = some (.dK kvs) → Hi a = none → Paired (fun (p : Key × V) (q : Key × PyData) => p.1 = q.1 ∧ Dp K Hi p.2 q.2) kvs ds → RepT K Hi H (.ref a) (.dic ds) [a]
inductive RepTs (K : PySem.W.Frag) (Hi H : Hp) : List V → List Tr → List Addr → Prop
  | nil : RepTs K Hi H [] [] []
  | cons {v : V} {vs : List V} {t : Tr} {ts : List Tr} {F G : List Addr} : RepT K Hi H v t F → RepTs K Hi H vs ts G → (∀ a ∈ F, a ∉ G) → RepTs K Hi H (v :: vs) (t :: ts) (F ++ G)
end

section
variable {K : PySem.W.Frag} {Hi H Hi' H' : Hp}
mutual
theorem RepT.own : ∀ (t : Tr) (v : V) (F : List Addr), RepT K Hi H v t F → ∀ a ∈ F, Hi a = none ∧ ∃ o, H a = some o
  | .imm _, _, _, h, a, ha => by cases h; cases ha
  | .lst ts, _, _, h, b, hb => by
    cases h with
    | lst h1 h2 h3 h4 =>
      rcases List.mem_cons.mp hb with rfl | hb
      · exact ⟨h2, _, h1⟩
      · exact RepTs.own ts _ _ h3 b hb
  | .dic _, _, _, h, b, hb => by
    cases h with
    | dic h1 h2 _ =>
      rcases List.mem_cons.mp hb with rfl | hb
      · exact ⟨h2, _, h1⟩
      · cases hb
theorem RepTs.own : ∀ (ts : List Tr) (vs : List V) (F : List Addr), RepTs K Hi H vs ts F → ∀ a ∈ F, Hi a = none ∧ ∃ o, H a = some o
  | [], _, _, h, a, ha => by cases h; cases ha
  | t :: ts, _, _, h, a, ha => by
    cases h with
    | cons h1 h2 _ =>
      rcases List.mem_append.mp ha with ha | ha
      · exact RepT.own t _ _ h1 a ha
      · exact RepTs.own ts _ _ h2 a ha
end
mutual
theorem RepT.frame (e : Same Hi Hi') : ∀ (t : Tr) (v : V) (F : List Addr), RepT K Hi H v t F → (∀ a ∈ F, H' a = H a) → (∀ a ∈ F, Hi' a = none) → RepT K Hi' H' v t F
  | .imm d, _, _, h, _, _ => by
    cases h with
    | imm h => exact .imm (dpMono e d _ h)
  | .lst ts, _, _, h, k1, k2 => by
    cases h with
    | lst h1 h2 h3 h4 =>
      exact .lst ((k1 _ List.mem_cons_self).trans h1) (k2 _ List.mem_cons_self) (RepTs.frame e ts _ _ h3 (fun a ha => k1 a (List.mem_cons_of_mem _ ha)) (fun a ha => k2 a (List.mem_cons_of_mem _ ha))) h4
  | .dic _, _, _, h, k1, k2 => by
    cases h with
    | dic h1 h2 h3 => exact .dic ((k1 _ List.mem_cons_self).trans h1) (k2 _ List.mem_cons_self) (Paired.mapP h3 fun p q z => ⟨z.1, dpMono e _ _ z.2⟩)
theorem RepTs.frame (e : Same Hi Hi') : ∀ (ts : List Tr) (vs : List V) (F : List Addr), RepTs K Hi H vs ts F → (∀ a ∈ F, H' a = H a) → (∀ a ∈ F, Hi' a = none) → RepTs K Hi' H' vs ts F
  | [], _, _, h, _, _ => by cases h; exact .nil
  | t :: ts, _, _, h, k1, k2 => by
    cases h with
    | cons h1 h2 h3 =>
      exact .cons (RepT.frame e t _ _ h1 (fun a ha => k1 a (List.mem_append_left _ ha)) (fun a ha => k2 a (List.mem_append_left _ ha)))
        (RepTs.frame e ts _ _ h2 (fun a ha => k1 a (List.mem_append_right _ ha)) (fun a ha => k2 a (List.mem_append_right _ ha))) h3
end
mutual
/-- frozen, or looked at -/
theorem RepT.froz (e : Same Hi Hi') : ∀ (t : Tr) (v : V) (F : List Addr) (d : PyData), RepT K Hi H v t F → (∀ a ∈ F, Hi' a = H a) → t.toD = some d → Dp K Hi' v d
  | .imm d, _, _, d', h, _, q => by
    cases h with
    | imm h =>
      rw [Tr.toD] at q
      cases q
      exact dpMono e d _ h
  | .lst ts, _, _, d', h, k1, q => by
    cases h with
    | lst h1 h2 h3 h4 =>
      rw [Tr.toD, Option.map_eq_some_iff] at q
      obtain ⟨ds, q1, rfl⟩ := q
      exact .lst (.inl (.inl ((k1 _ List.mem_cons_self).trans h1))) (RepTs.froz e ts _ _ ds h3 (fun a ha => k1 a (List.mem_cons_of_mem _ ha)) q1)
  | .dic _, _, _, _, _, _, q => by rw [Tr.toD] at q; cases q
theorem RepTs.froz (e : Same Hi Hi') : ∀ (ts : List Tr) (vs : List V) (F : List Addr) (ds : List PyData), RepTs K Hi H vs ts F → (∀ a ∈ F, Hi' a = H a) → Tr.toDs ts = some ds → DpAll K Hi' vs ds
  | [], _, _, _, h, _, q => by
    cases h
    rw [Tr.toDs] at q
    cases q
    exact .nil
  | t :: ts, _, _, _, h, k1, q => by
    cases h with
    | cons h1 h2 h3 =>
      rw [Tr.toDs, Option.bind_eq_some_iff] at q
      obtain ⟨d, q1, q2⟩ := q
      rw [Option.map_eq_some_iff] at q2
      obtain ⟨ds, q2, rfl⟩ := q2
      exact .cons (RepT.froz e t _ _ d h1 (fun a ha => k1 a (List.mem_append_left _ ha)) q1) (RepTs.froz e ts _ _ ds h2 (fun a ha => k1 a (List.mem_append_right _ ha)) q2)
end
/-- a tree of data alone -/
theorem RepTs.imms : ∀ {ds : List PyData} {vs : List V}, DpAll K Hi vs ds → RepTs K Hi H vs (ds.map Tr.imm) []
  | [], _, h => by cases h; exact .nil
  | d :: ds, _, h => by
    cases h with
    | cons h1 h2 => exact RepTs.cons (F := []) (G := []) (.imm h1) (RepTs.imms h2) (fun a z => nomatch z)
theorem RepTs.length : ∀ {ts : List Tr} {vs : List V} {F : List Addr}, RepTs K Hi H vs ts F → vs.length = ts.length
  | [], _, _, h => by cases h; rfl
  | t :: ts, _, _, h => by
    cases h with
    | cons h1 h2 h3 =>
      have := RepTs.length h2
      simp [this]
end

/-! ### places -/
inductive SL where
  | no
  | val (t : Tr)
  | par (t : Tr)
abbrev En := List SL
def SL.tree : SL → Option Tr
  | .no => none
  | .val t => some t
  | .par t => some t
def SL.with : SL → Tr → SL
  | .no, _ => .no
  | .val _, t => .val t
  | .par _, t => .par t
/-- the tree at a place -/
def at? (E : En) (i : Nat) : Option Tr := E[i]?.bind SL.tree
def InE (Fs : Nat → List Addr) : Addr → Prop := fun a => ∃ i, a ∈ Fs i
/-- A: the arguments as they were handed in -/
structure RepE (K : PySem.W.Frag) (A : List V) (Hi H : Hp) (σ : L2.St) (E : En) (Fs : Nat → List Addr) : Prop where
  sub : Same Hi H
  len : E.length = σ.length
  val : ∀ (i : Nat) t, at? E i = some t → ∃ v, σ[i]? = some (some v) ∧ RepT K Hi H v t (Fs i)
  par : ∀ (i : Nat) t, E[i]? = some (.par t) → ∃ v, σ[i]? = some (some v) ∧ A[i]? = some v
  no : ∀ i, at? E i = none → Fs i = []
  dis : ∀ i j a, a ∈ Fs i → a ∈ Fs j → i = j

structure Step (Hi H : Hp) (F : Addr → Prop) (Hi' H' : Hp) (F' : Addr → Prop) : Prop where
  ex : Same Hi Hi'
  fr : ∀ a o, H a = some o → ¬ F a → H' a = some o
  nw : ∀ a, F' a → F a ∨ H a = none
  nh : ∀ a o, Hi' a = some o → (∃ o', Hi a = some o') ∨ F a ∨ H a = none

section
variable {K : PySem.W.Frag} {A : List V} {Hi H Hi' H' Hi1 H1 Hi2 H2 : Hp} {F F' F1 F2 : Addr → Prop} {σ : L2.St} {E : En} {Fs : Nat → List Addr}
theorem Step.refl (Hi H : Hp) (F : Addr → Prop) : Step Hi H F Hi H F := ⟨Same.refl _, fun _ _ h _ => h, fun _ h => .inl h, fun _ o h => .inl ⟨o, h⟩⟩
theorem Step.trans (a : Step Hi H F Hi1 H1 F1) (b : Step Hi1 H1 F1 Hi2 H2 F2) : Step Hi H F Hi2 H2 F2 := by
  have k1 : ∀ x, F1 x ∨ H1 x = none → F x ∨ H x = none := fun x h => by
    rcases h with h | h
    · exact a.nw x h
    · cases q : H x with
      | none => exact .inr rfl
      | some o =>
        by_cases f : F x
        · exact .inl f
        · rw [a.fr x o q f] at h
          cases h
  refine ⟨a.ex.trans b.ex, fun x o h f => b.fr x o (a.fr x o h f) fun f1 => ?_, fun x h => k1 x (b.nw x h), fun x o h => ?_⟩
  · rcases a.nw x f1 with z | z
    · exact f z
    · rw [h] at z; cases z
  · rcases b.nh x o h with ⟨o', h'⟩ | h'
    · exact a.nh x o' h'
    · exact .inr (k1 x h')
theorem Step.weak (a : Step Hi H F Hi' H' F') (h : ∀ x, F2 x → F' x) : Step Hi H F Hi' H' F2 := ⟨a.ex, a.fr, fun x z => a.nw x (h x z), a.nh⟩
theorem Step.more (a : Step Hi H F Hi' H' F') (h : ∀ x, F x → F2 x) : Step Hi H F2 Hi' H' F' := ⟨a.ex, fun x o e z => a.fr x o e fun y => z (h x y), fun x z => (a.nw x z).imp (h x) id, fun x o e => (a.nh x o e).imp id (Or.imp (h x) id)⟩
/-- what is held besides stays, and stays apart -/
theorem Step.keep {v : V} {t : Tr} {G : List Addr} (a : Step Hi H F Hi' H' F') (h : RepT K Hi H v t G) (d : ∀ x ∈ G, ¬ F x) : RepT K Hi' H' v t G :=
  h.frame a.ex _ _ _ (fun x hx => by
    obtain ⟨_, o, e⟩ := h.own _ _ _ x hx
    rw [a.fr x o e (d x hx), e]) fun x hx => by
    obtain ⟨e0, o, e⟩ := h.own _ _ _ x hx
    cases q : Hi' x with
    | none => rfl
    | some u =>
      rcases a.nh x u q with ⟨o', z⟩ | z | z
      · rw [e0] at z; cases z
      · exact absurd z (d x hx)
      · rw [e] at z; cases z
theorem Step.keeps {vs : List V} {ts : List Tr} {G : List Addr} (a : Step Hi H F Hi' H' F') (h : RepTs K Hi H vs ts G) (d : ∀ x ∈ G, ¬ F x) : RepTs K Hi' H' vs ts G :=
  h.frame a.ex _ _ _ (fun x hx => by
    obtain ⟨_, o, e⟩ := h.own _ _ _ x hx
    rw [a.fr x o e (d x hx), e]) fun x hx => by
    obtain ⟨e0, o, e⟩ := h.own _ _ _ x hx
    cases q : Hi' x with
    | none => rfl
    | some u =>
      rcases a.nh x u q with ⟨o', z⟩ | z | z
      · rw [e0] at z; cases z
      · exact absurd z (d x hx)
      · rw [e] at z; cases z
theorem Step.apart {G : List Addr} (a : Step Hi H F Hi' H' F') (h : ∀ x ∈ G, ∃ o, H x = some o) (d : ∀ x ∈ G, ¬ F x) : ∀ x ∈ G, ¬ F' x := fun x hx f => by
  rcases a.nw x f with z | z
  · exact d x hx z
  · obtain ⟨o, e⟩ := h x hx
    rw [e] at z; cases z
theorem RepE.own (h : RepE K A Hi H σ E Fs) {a : Addr} (ha : InE Fs a) : Hi a = none ∧ ∃ o, H a = some o := by
  obtain ⟨i, hi⟩ := ha
  cases q : at? E i with
  | none => rw [h.no i q] at hi; cases hi
  | some t =>
    obtain ⟨v, _, r⟩ := h.val i t q
    exact r.own _ _ _ a hi
/-- all of E is held besides -/
theorem RepE.keep (h : RepE K A Hi H σ E Fs) (s : Step Hi H F Hi' H' F') (sub : Same Hi' H') (d : ∀ x, InE Fs x → ¬ F x) : RepE K A Hi' H' σ E Fs :=
  ⟨sub, h.len, fun i t q => let ⟨v, e, r⟩ := h.val i t q; ⟨v, e, s.keep r fun x hx => d x ⟨i, hx⟩⟩, h.par, h.no, h.dis⟩
end
end FL

/-! FL, part B: what a reading of an expression gives. -/
namespace FL
open PySem L2

/-- what an operand is: a place, or a value of one's own -/
inductive Rf where
  | slot (i : Nat)
  | own (t : Tr)
def view (E : En) : Rf → Option Tr
  | .slot i => at? E i
  | .own t => some t
abbrev MR := En → Option (Rf × En)
abbrev MF := En → Option (Tr × En)
abbrev MT := En → Option (Bool × En)
abbrev MA := En → Option (List Rf × En)
abbrev MFs := En → Option (List Tr × En)
abbrev MI := En → Option (List PyData × En)

section
variable (K : PySem.W.Frag)
inductive RepR (Hi H : Hp) (σ : L2.St) : V → Rf → List Addr → Prop
  | slot {i : Nat} {v : V} : σ[i]? = some (some v) → RepR Hi H σ v (.slot i) []
  | own {v : V} {t : Tr} {G : List Addr} : RepT K Hi H v t G → RepR Hi H σ v (.own t) G
inductive RepRs (Hi H : Hp) (σ : L2.St) : List V → List Rf → List Addr → Prop
  | nil : RepRs Hi H σ [] [] []
  | cons {v : V} {vs : List V} {o : Rf} {os : List Rf} {F G : List Addr} : RepR K Hi H σ v o F → RepRs Hi H σ vs os G → (∀ a ∈ F, a ∉ G) → RepRs Hi H σ (v :: vs) (o :: os) (F ++ G)
/-- an operand -/
def ER (te : TE) (m : MR) : Prop := ∀ E o E', m E = some (o, E') → ∀ A σ Hi H Fs, RepE K A Hi H σ E Fs → ∀ Q : VK,
  (∀ v Hi' H' Fs' G, RepR K Hi' H' σ v o G → RepE K A Hi' H' σ E' Fs' → (∀ a ∈ G, ¬ InE Fs' a) → Step Hi H (InE Fs) Hi' H' (fun a => InE Fs' a ∨ a ∈ G) → Q v H') → te σ H Q
/-- a value of one's own -/
def FR (te : TE) (m : MF) : Prop := ∀ E t E', m E = some (t, E') → ∀ A σ Hi H Fs, RepE K A Hi H σ E Fs → ∀ Q : VK,
  (∀ v Hi' H' Fs' G, RepT K Hi' H' v t G → RepE K A Hi' H' σ E' Fs' → (∀ a ∈ G, ¬ InE Fs' a) → Step Hi H (InE Fs) Hi' H' (fun a => InE Fs' a ∨ a ∈ G) → Q v H') → te σ H Q
def TR (tt : TT) (m : MT) : Prop := ∀ E b E', m E = some (b, E') → ∀ A σ Hi H Fs, RepE K A Hi H σ E Fs → ∀ Q : Bool → Hp → Prop,
  (∀ Hi' H' Fs', RepE K A Hi' H' σ E' Fs' → Step Hi H (InE Fs) Hi' H' (InE Fs') → Q b H') → tt σ H Q
/-- arguments -/
def AR (ta : TA) (m : MA) : Prop := ∀ E os E', m E = some (os, E') → ∀ A σ Hi H Fs, RepE K A Hi H σ E Fs → ∀ Q : List V → Hp → Prop,
  (∀ vs Hi' H' Fs' G, RepRs K Hi' H' σ vs os G → RepE K A Hi' H' σ E' Fs' → (∀ a ∈ G, ¬ InE Fs' a) → Step Hi H (InE Fs) Hi' H' (fun a => InE Fs' a ∨ a ∈ G) → Q vs H') → ta σ H Q
/-- the items of a display -/
def FA (ta : TA) (m : MFs) : Prop := ∀ E ts E', m E = some (ts, E') → ∀ A σ Hi H Fs, RepE K A Hi H σ E Fs → ∀ Q : List V → Hp → Prop,
  (∀ vs Hi' H' Fs' G, RepTs K Hi' H' vs ts G → RepE K A Hi' H' σ E' Fs' → (∀ a ∈ G, ¬ InE Fs' a) → Step Hi H (InE Fs) Hi' H' (fun a => InE Fs' a ∨ a ∈ G) → Q vs H') → ta σ H Q
end

section
variable {K : PySem.W.Frag} {A : List V} {Hi H Hi' H' : Hp} {σ : L2.St} {E : En} {Fs : Nat → List Addr}
theorem RepR.ownG {v : V} {o : Rf} {G : List Addr} (h : RepR K Hi H σ v o G) : ∀ a ∈ G, Hi a = none ∧ ∃ o, H a = some o := by
  cases h with
  | slot h => intro a z; cases z
  | own h => exact h.own _ _ _
theorem RepRs.ownG : ∀ {vs : List V} {os : List Rf} {G : List Addr}, RepRs K Hi H σ vs os G → ∀ a ∈ G, Hi a = none ∧ ∃ o, H a = some o
  | _, _, _, .nil, a, z => nomatch z
  | _, _, _, .cons h t _, a, z => (List.mem_append.mp z).elim (h.ownG a) (RepRs.ownG t a)
theorem RepTs.ownG {vs : List V} {ts : List Tr} {G : List Addr} (h : RepTs K Hi H vs ts G) : ∀ a ∈ G, Hi a = none ∧ ∃ o, H a = some o := h.own _ _ _
theorem RepT.ownG {v : V} {t : Tr} {G : List Addr} (h : RepT K Hi H v t G) : ∀ a ∈ G, Hi a = none ∧ ∃ o, H a = some o := h.own _ _ _
theorem Step.keepR {v : V} {o : Rf} {G : List Addr} {F F' : Addr → Prop} (a : Step Hi H F Hi' H' F') (h : RepR K Hi H σ v o G) (d : ∀ x ∈ G, ¬ F x) : RepR K Hi' H' σ v o G := by
  cases h with
  | slot h => exact .slot h
  | own h => exact .own (a.keep h d)
/-- what an operand is, seen now -/
theorem RepE.view (h : RepE K A Hi H σ E Fs) {v : V} {o : Rf} {t : Tr} {G : List Addr} (r : RepR K Hi H σ v o G) (q : view E o = some t) : ∃ G, RepT K Hi H v t G := by
  cases r with
  | slot e' =>
    obtain ⟨u, e, rt⟩ := h.val _ t q
    rw [e'] at e
    cases e
    exact ⟨_, rt⟩
  | own r =>
    have q' : some _ = some t := q
    cases q'
    exact ⟨_, r⟩
theorem looks {v : V} {t : Tr} {G : List Addr} {d : PyData} (s : Same Hi H) (r : RepT K Hi H v t G) (qd : t.toD = some d) : Dp K H v d := r.froz s _ _ _ d (fun _ _ => rfl) qd

/-! ### growth -/
/-- new objects alone: those of W are one's own -/
structure Grow (Hi H Hi' H' : Hp) (W : List Addr) : Prop where
  ex : Same Hi Hi'
  all : Same H H'
  sub : Same Hi' H'
  new : ∀ a ∈ W, H a = none
  nh : ∀ a o, Hi' a = some o → (∃ o', Hi a = some o') ∨ H a = none
theorem Grow.refl (h : Same Hi H) : Grow Hi H Hi H [] := ⟨Same.refl _, Same.refl _, h, fun _ z => (nomatch z), fun _ o e => .inl ⟨o, e⟩⟩
theorem Grow.step {W : List Addr} (g : Grow Hi H Hi' H' W) (F : Addr → Prop) : Step Hi H F Hi' H' (fun a => F a ∨ a ∈ W) :=
  ⟨g.ex, fun a o e _ => g.all a o e, fun a z => z.imp id (g.new a), fun a o e => (g.nh a o e).imp id .inr⟩
theorem RepE.grow {W : List Addr} (h : RepE K A Hi H σ E Fs) (g : Grow Hi H Hi' H' W) : RepE K A Hi' H' σ E Fs := by
  have s0 : Step Hi H (fun _ => False) Hi' H' (fun a => False ∨ a ∈ W) := g.step _
  exact h.keep s0 g.sub fun _ _ z => z
theorem RepE.fresh {W : List Addr} (h : RepE K A Hi H σ E Fs) (g : Grow Hi H Hi' H' W) : ∀ a ∈ W, ¬ InE Fs a := fun a ha hf => by
  obtain ⟨_, o, e⟩ := h.own hf
  rw [g.new a ha] at e
  cases e
theorem same_new {p : Addr} {o : HO} (n : H p = none) : Same H (upd H p o) := fun b x e => by
  rw [upd_ne (ne_of_none e n)]
  exact e
theorem free_of (s : Same Hi H) {p : Addr} (n : H p = none) : Hi p = none := Same.free s n
theorem same_upd2 (s : Same Hi H) {p : Addr} {o : HO} : Same (upd Hi p o) (upd H p o) := fun b x e => by
  by_cases hb : b = p
  · subst hb; rw [upd_same] at e ⊢; exact e
  · rw [upd_ne hb] at e ⊢; exact s b x e
/-- a new object that stands still -/
theorem Grow.imm (s : Same Hi H) {p : Addr} {o : HO} (n : H p = none) : Grow Hi H (upd Hi p o) (upd H p o) [] :=
  ⟨same_new (free_of s n), same_new n, same_upd2 s, fun _ z => (nomatch z), fun a u e => by
    by_cases hb : a = p
    · subst hb; exact .inr n
    · rw [upd_ne hb] at e; exact .inl ⟨u, e⟩⟩
/-- a new object of one's own -/
theorem Grow.own (s : Same Hi H) {p : Addr} {o : HO} (n : H p = none) : Grow Hi H Hi (upd H p o) [p] :=
  ⟨Same.refl _, same_new n, s.trans (same_new n), fun a z => by
    have e : a = p := by simpa using z
    rw [e]
    exact n, fun a u e => .inl ⟨u, e⟩⟩

/-! ### operations by values -/
/-- two operands -/
def OpT (K : PySem.W.Frag) (r : R2) (f : Tr → Tr → Option Tr) : Prop := ∀ t u w, f t u = some w → ∀ Hi H x y F G, Same Hi H → RepT K Hi H x t F → RepT K Hi H y u G → ∀ Q : VK,
  (∀ v Hi' H' W, RepT K Hi' H' v w W → Grow Hi H Hi' H' W → Q v H') → r x y H Q
/-- one operand -/
def UnT (K : PySem.W.Frag) (r : V → Hp → VK → Prop) (f : Tr → Option Tr) : Prop := ∀ t w, f t = some w → ∀ Hi H x F, Same Hi H → RepT K Hi H x t F → ∀ Q : VK,
  (∀ v Hi' H' W, RepT K Hi' H' v w W → Grow Hi H Hi' H' W → Q v H') → r x H Q
/-- what is handed in, one by one -/
inductive RepVs (K : PySem.W.Frag) (Hi H : Hp) : List V → List Tr → Prop
  | nil : RepVs K Hi H [] []
  | cons {v : V} {vs : List V} {t : Tr} {ts : List Tr} {F : List Addr} : RepT K Hi H v t F → RepVs K Hi H vs ts → RepVs K Hi H (v :: vs) (t :: ts)
def CallT (K : PySem.W.Frag) (r : List V → Hp → VK → Prop) (f : List Tr → Option Tr) : Prop := ∀ ts w, f ts = some w → ∀ Hi H xs, Same Hi H → RepVs K Hi H xs ts → ∀ Q : VK,
  (∀ v Hi' H' W, RepT K Hi' H' v w W → Grow Hi H Hi' H' W → Q v H') → r xs H Q
/-- x.m(..) that changes nothing -/
def MetT (K : PySem.W.Frag) (r : V → List V → Hp → VK → Prop) (f : Tr → List Tr → Option Tr) : Prop := ∀ t ts w, f t ts = some w → ∀ Hi H x xs F, Same Hi H → RepT K Hi H x t F → RepVs K Hi H xs ts → ∀ Q : VK,
  (∀ v Hi' H' W, RepT K Hi' H' v w W → Grow Hi H Hi' H' W → Q v H') → r x xs H Q

def views (E : En) : List Rf → Option (List Tr)
  | [] => some []
  | o :: os => (view E o).bind fun t => (views E os).map (t :: ·)
theorem RepE.views (h : RepE K A Hi H σ E Fs) : ∀ {vs : List V} {os : List Rf} {G : List Addr} {ts : List Tr}, RepRs K Hi H σ vs os G → views E os = some ts → RepVs K Hi H vs ts
  | _, _, _, _, .nil, q => by
    have q' : some [] = some _ := q
    cases q'
    exact .nil
  | _, _, _, _, .cons r rs _, q => by
    rw [FL.views, Option.bind_eq_some_iff] at q
    obtain ⟨t, q1, q2⟩ := q
    rw [Option.map_eq_some_iff] at q2
    obtain ⟨ts, q2, rfl⟩ := q2
    obtain ⟨G, rt⟩ := h.view r q1
    exact .cons rt (RepE.views h rs q2)

/-! ### operands -/
theorem stepN {F : Addr → Prop} : Step Hi H F Hi H (fun a => F a ∨ a ∈ ([] : List Addr)) := (Step.refl Hi H F).weak fun x z => z.elim id fun y => nomatch y
def mVar (i : Nat) : MR := fun E => (at? E i).bind fun _ => some (.slot i, E)
theorem er_var {i : Nat} : ER K (tVar i) (mVar i) := fun E o E' q A σ Hi H Fs h Q k => by
  unfold mVar at q
  rw [Option.bind_eq_some_iff] at q
  obtain ⟨t, q1, q2⟩ := q
  cases q2
  obtain ⟨v, e, _⟩ := h.val i t q1
  exact ⟨v, e, k v Hi H Fs [] (.slot e) h (fun a z => nomatch z) stepN⟩
def mC (d : PyData) : MF := fun E => some (.imm d, E)
theorem fr_d {v : V} {d : PyData} (hd : ∀ H, Dp K H v d) : FR K (tC v) (mC d) := fun E t E' q A σ Hi H Fs h Q k => by
  cases q
  exact k v Hi H Fs [] (.imm (hd Hi)) h (fun a z => nomatch z) stepN
theorem fr_int {i : Int} : FR K (tC (.int i)) (mC (.int i)) := fr_d fun _ => .int i
theorem fr_bl {b : Bool} : FR K (tC (.bl b)) (mC (.bool b)) := fr_d fun _ => .bl b
theorem fr_str {x : Str} : FR K (tC (.str x)) (mC (.str x)) := fr_d fun _ => .str x
theorem fr_non : FR K (tC .non) (mC .none) := fr_d fun _ => .non
theorem RepT.imm_inv {v : V} {d : PyData} {F : List Addr} (h : RepT K Hi H v (.imm d) F) : Dp K Hi v d ∧ F = [] := by
  cases h with
  | imm h => exact ⟨h, rfl⟩
/-- what is one's own stands still from now on -/
def fzH (Hi H : Hp) (G : List Addr) : Hp := fun a => if a ∈ G then H a else Hi a
theorem fz_same {G : List Addr} (o : ∀ a ∈ G, Hi a = none) : Same Hi (fzH Hi H G) := fun a u e => by
  have : a ∉ G := fun z => by rw [o a z] at e; cases e
  unfold fzH
  rw [if_neg this]
  exact e
theorem fz_in {G : List Addr} {a : Addr} (h : a ∈ G) : fzH Hi H G a = H a := if_pos h
theorem fz_sub {G : List Addr} (s : Same Hi H) : Same (fzH Hi H G) H := fun a u e => by
  unfold fzH at e
  split at e
  · exact e
  · exact s a u e
theorem fz_step {G : List Addr} {F : Addr → Prop} (o : ∀ a ∈ G, Hi a = none) : Step Hi H (fun a => F a ∨ a ∈ G) (fzH Hi H G) H F :=
  ⟨fz_same o, fun _ _ e _ => e, fun _ z => .inl (.inl z), fun a u e => by
    by_cases ha : a ∈ G
    · exact .inr (.inl (.inr ha))
    · unfold fzH at e
      rw [if_neg ha] at e
      exact .inl ⟨u, e⟩⟩
/-- an operand made of a value of one's own -/
def mER (m : MF) : MR := fun E => (m E).bind fun p => some (.own p.1, p.2)
theorem er_of {te : TE} {m : MF} (hm : FR K te m) : ER K te (mER m) := fun E o E' q A σ Hi H Fs h Q k => by
  unfold mER at q
  rw [Option.bind_eq_some_iff] at q
  obtain ⟨⟨t, E1⟩, q1, q2⟩ := q
  cases q2
  exact hm E t E1 q1 A σ Hi H Fs h Q fun v Hi1 H1 Fs1 G rt h1 da st => k v Hi1 H1 Fs1 G (.own rt) h1 da st
/-- a name's value, kept: it stands still from now on -/
def mFz (m : MR) : MF := fun E => (m E).bind fun p => match p.1 with
  | .own t => some (t, p.2)
  | .slot i => match p.2[i]? with
    | some (.val (.imm d)) => some (.imm d, p.2)
    | some (.val t) => t.toD.bind fun d => some (.imm d, p.2.set i (.val (.imm d)))
    | some (.par (.imm d)) => some (.imm d, p.2)
    | _ => none
theorem at_val {E : En} {i : Nat} {t : Tr} (h : E[i]? = some (.val t)) : at? E i = some t := by
  unfold at?
  rw [h]
  rfl
theorem at_par {E : En} {i : Nat} {t : Tr} (h : E[i]? = some (.par t)) : at? E i = some t := by
  unfold at?
  rw [h]
  rfl
theorem at_set {E : En} {i j : Nat} {s : SL} : at? (E.set i s) j = if i = j ∧ i < E.length then s.tree else at? E j := by
  unfold at?
  rw [List.getElem?_set]
  by_cases hi : i = j
  · subst hi
    by_cases hl : i < E.length
    · rw [if_pos rfl, if_pos hl, if_pos ⟨rfl, hl⟩] <;> rfl
    · have : E[i]? = none := List.getElem?_eq_none_iff.mpr (by omega)
      rw [if_pos rfl, if_neg hl, if_neg (fun z => hl z.2), this]
  · rw [if_neg hi, if_neg (fun z => hi z.1)]
theorem lt_of_at {E : En} {i : Nat} {s : SL} (h : E[i]? = some s) : i < E.length := (List.getElem?_eq_some_iff.mp h).1
/-- another footprint at a place -/
def fset (Fs : Nat → List Addr) (i : Nat) (G : List Addr) : Nat → List Addr := fun j => if j = i then G else Fs j
theorem fset_same {Fs : Nat → List Addr} {i : Nat} {G : List Addr} : fset Fs i G i = G := if_pos rfl
theorem fset_ne {Fs : Nat → List Addr} {i j : Nat} {G : List Addr} (h : j ≠ i) : fset Fs i G j = Fs j := if_neg h
theorem inE_fset {Fs : Nat → List Addr} {i : Nat} {G : List Addr} {a : Addr} (h : InE (fset Fs i G) a) : InE Fs a ∨ a ∈ G := by
  obtain ⟨j, hj⟩ := h
  by_cases e : j = i
  · subst e
    rw [fset_same] at hj
    exact .inr hj
  · rw [fset_ne e] at hj
    exact .inl ⟨j, hj⟩
/-- a place's tree is another one now; all else is as it was -/
theorem RepE.put {i : Nat} {t' : Tr} {s s' : SL} {G : List Addr} {v : V} {σ' : L2.St} (h : RepE K A Hi H σ E Fs) (he : E[i]? = some s) (hs : s'.tree = some t') (hp : ∀ t, s' = .par t → ∃ v, σ'[i]? = some (some v) ∧ A[i]? = some v)
    (st : Step Hi H (fun a => a ∈ Fs i ∨ a ∈ G) Hi' H' (fun a => a ∈ G)) (dg : ∀ a ∈ G, ∀ j, j ≠ i → a ∉ Fs j) (sub : Same Hi' H')
    (hl : σ'.length = σ.length) (hv : σ'[i]? = some (some v)) (ho : ∀ j, j ≠ i → σ'[j]? = σ[j]?) (r : RepT K Hi' H' v t' G) : RepE K A Hi' H' σ' (E.set i s') (fset Fs i G) := by
  have hlt := lt_of_at he
  refine ⟨sub, by rw [List.length_set, h.len, hl], fun j t q => ?_, fun j t q => ?_, fun j q => ?_, fun j k a hj hk => ?_⟩
  · rw [at_set] at q
    by_cases e : i = j
    · subst e
      rw [if_pos ⟨rfl, hlt⟩, hs] at q
      cases q
      exact ⟨v, hv, by rw [fset_same]; exact r⟩
    · rw [if_neg (fun z => e z.1)] at q
      obtain ⟨u, e1, r1⟩ := h.val j t q
      refine ⟨u, by rw [ho j (Ne.symm e)]; exact e1, ?_⟩
      rw [fset_ne (Ne.symm e)]
      refine st.keep r1 fun x hx z => ?_
      rcases z with z | z
      · exact e (h.dis i j x z hx)
      · exact dg x z j (Ne.symm e) hx
  · rw [List.getElem?_set] at q
    by_cases e : i = j
    · subst e
      rw [if_pos rfl, if_pos hlt] at q
      exact hp t (Option.some.inj q)
    · rw [if_neg e] at q
      obtain ⟨u, e1, e2⟩ := h.par j t q
      exact ⟨u, by rw [ho j (Ne.symm e)]; exact e1, e2⟩
  · rw [at_set] at q
    by_cases e : i = j
    · subst e
      rw [if_pos ⟨rfl, hlt⟩, hs] at q
      cases q
    · rw [if_neg (fun z => e z.1)] at q
      rw [fset_ne (Ne.symm e)]
      exact h.no j q
  · by_cases e1 : j = i
    · subst e1
      rw [fset_same] at hj
      by_cases e2 : k = j
      · exact e2.symm
      · rw [fset_ne e2] at hk
        exact absurd hk (dg a hj k e2)
    · rw [fset_ne e1] at hj
      by_cases e2 : k = i
      · subst e2
        rw [fset_same] at hk
        exact absurd hj (dg a hk j e1)
      · rw [fset_ne e2] at hk
        exact h.dis j k a hj hk
theorem fr_of {te : TE} {m : MR} (hm : ER K te m) : FR K te (mFz m) := fun E t E' q A σ Hi H Fs h Q k => by
  unfold mFz at q
  rw [Option.bind_eq_some_iff] at q
  obtain ⟨⟨o, E1⟩, q1, q2⟩ := q
  refine hm E o E1 q1 A σ Hi H Fs h Q fun v Hi1 H1 Fs1 G r h1 dg st => ?_
  cases r with
  | own r =>
    cases q2
    exact k v Hi1 H1 Fs1 G r h1 dg st
  | @slot i _ r' =>
    have st : Step Hi H (InE Fs) Hi1 H1 (InE Fs1) := st.weak fun x z => .inl z
    have still : ∀ d, Dp K Hi1 v d → t = .imm d → E' = E1 → Q v H1 := fun d hd e1 e2 => by
      subst e1 e2
      exact k v Hi1 H1 Fs1 [] (.imm hd) h1 (fun a z => nomatch z) (st.weak fun x z => z.elim id fun y => nomatch y)
    have q2' : (match E1[i]? with
      | some (.val (.imm d)) => some (Tr.imm d, E1)
      | some (.val t) => t.toD.bind fun d => some (.imm d, E1.set i (.val (.imm d)))
      | some (.par (.imm d)) => some (.imm d, E1)
      | _ => none) = some (t, E') := q2
    have seen : ∀ t0, at? E1 i = some t0 → RepT K Hi1 H1 v t0 (Fs1 i) := fun t0 e => by
      obtain ⟨u, e1, r1⟩ := h1.val i t0 e
      rw [r'] at e1
      cases e1
      exact r1
    split at q2'
    · rename_i d e
      cases q2'
      have z := seen _ (at_val e)
      exact still d z.imm_inv.1 rfl rfl
    · rename_i t0 _ e
      rw [Option.bind_eq_some_iff] at q2'
      obtain ⟨d, e2, e3⟩ := q2'
      cases e3
      have rt := seen _ (at_val e)
      have og : ∀ a ∈ Fs1 i, Hi1 a = none := fun a ha => (rt.own _ _ _ a ha).1
      have hd := rt.froz (fz_same (H := H1) og) _ _ _ d (fun a ha => fz_in ha) e2
      have s1 : Step Hi1 H1 (fun a => a ∈ Fs1 i ∨ a ∈ ([] : List Addr)) (fzH Hi1 H1 (Fs1 i)) H1 (fun a => a ∈ ([] : List Addr)) :=
        ⟨fz_same og, fun _ _ e _ => e, fun _ z => (nomatch z), fun a u e => by
          by_cases ha : a ∈ Fs1 i
          · exact .inr (.inl (.inl ha))
          · unfold fzH at e
            rw [if_neg ha] at e
            exact .inl ⟨u, e⟩⟩
      refine k v (fzH Hi1 H1 (Fs1 i)) H1 (fset Fs1 i []) [] (.imm hd) (h1.put e rfl (fun t z => by cases z) s1 (fun a z => nomatch z) (fz_sub h1.sub) rfl r' (fun _ _ => rfl) (.imm hd)) (fun a z => nomatch z) ?_
      refine st.trans ⟨fz_same og, fun _ _ e _ => e, fun x z => ?_, fun a u e => ?_⟩
      · rcases z with z | z
        · rcases inE_fset z with z | z
          · exact .inl z
          · cases z
        · cases z
      · by_cases ha : a ∈ Fs1 i
        · exact .inr (.inl ⟨i, ha⟩)
        · unfold fzH at e
          rw [if_neg ha] at e
          exact .inl ⟨u, e⟩
    · rename_i d e
      cases q2'
      have z := seen _ (at_par e)
      exact still d z.imm_inv.1 rfl rfl
    · cases q2'
end
end FL

/-! FL, part C: expressions. -/
namespace FL
open PySem L2
section
variable {K : PySem.W.Frag} {A : List V} {Hi H Hi' H' : Hp} {σ : L2.St} {E : En} {Fs : Nat → List Addr} {ta tb te : TE} {ma mb : MR} {m m' : MF}
/-- two readings in a row -/
theorem Step.seq {Hi1 H1 Hi2 H2 : Hp} {F F1 F2 : Addr → Prop} {G : List Addr} (a : Step Hi H F Hi1 H1 (fun x => F1 x ∨ x ∈ G)) (b : Step Hi1 H1 F1 Hi2 H2 F2) : Step Hi H F Hi2 H2 F2 := (a.weak fun _ z => .inl z).trans b

def mOp (f : Tr → Tr → Option Tr) (ma mb : MR) : MF := fun E => (ma E).bind fun p => (mb p.2).bind fun q => (view q.2 p.1).bind fun t => (view q.2 q.1).bind fun u => (f t u).bind fun w => some (w, q.2)
theorem fr_op {r : R2} {f : Tr → Tr → Option Tr} (ha : ER K ta ma) (hb : ER K tb mb) (hr : OpT K r f) : FR K (tOp r ta tb) (mOp f ma mb) := fun E w E' q A σ Hi H Fs h Q k => by
  unfold mOp at q
  obtain ⟨⟨o1, E1⟩, q1, q⟩ := Option.bind_eq_some_iff.mp q
  obtain ⟨⟨o2, E2⟩, q2, q⟩ := Option.bind_eq_some_iff.mp q
  obtain ⟨t, q3, q⟩ := Option.bind_eq_some_iff.mp q
  obtain ⟨u, q4, q⟩ := Option.bind_eq_some_iff.mp q
  obtain ⟨w', q5, q⟩ := Option.bind_eq_some_iff.mp q
  cases q
  refine ha E o1 E1 q1 A σ Hi H Fs h _ fun v1 Hi1 H1 Fs1 G1 r1 h1 d1 s1 => ?_
  refine hb E1 o2 E2 q2 A σ Hi1 H1 Fs1 h1 _ fun v2 Hi2 H2 Fs2 G2 r2 h2 d2 s2 => ?_
  obtain ⟨F1, rt⟩ := h2.view (s2.keepR r1 d1) q3
  obtain ⟨F2, ru⟩ := h2.view r2 q4
  exact hr t u _ q5 Hi2 H2 v1 v2 F1 F2 h2.sub rt ru Q fun v Hi3 H3 W rw g => k v Hi3 H3 Fs2 W rw (h2.grow g) (h2.fresh g) (s1.seq (s2.seq (g.step _)))
def mUn (f : Tr → Option Tr) (ma : MR) : MF := fun E => (ma E).bind fun p => (view p.2 p.1).bind fun t => (f t).bind fun w => some (w, p.2)
theorem fr_un {r : V → Hp → VK → Prop} {f : Tr → Option Tr} (ha : ER K ta ma) (hr : UnT K r f) : FR K (tUn r ta) (mUn f ma) := fun E w E' q A σ Hi H Fs h Q k => by
  unfold mUn at q
  obtain ⟨⟨o1, E1⟩, q1, q⟩ := Option.bind_eq_some_iff.mp q
  obtain ⟨t, q3, q⟩ := Option.bind_eq_some_iff.mp q
  obtain ⟨w', q5, q⟩ := Option.bind_eq_some_iff.mp q
  cases q
  refine ha E o1 E1 q1 A σ Hi H Fs h _ fun v1 Hi1 H1 Fs1 G1 r1 h1 d1 s1 => ?_
  obtain ⟨F1, rt⟩ := h1.view r1 q3
  exact hr t _ q5 Hi1 H1 v1 F1 h1.sub rt Q fun v Hi3 H3 W rw g => k v Hi3 H3 Fs1 W rw (h1.grow g) (h1.fresh g) (s1.seq (g.step _))

/-! ### tests -/
def bOf : Tr → Option Bool
  | .imm (.bool b) => some b
  | _ => none
theorem bOf_inv {t : Tr} {b : Bool} (h : bOf t = some b) : t = .imm (.bool b) := by
  unfold bOf at h
  split at h
  · cases h; rfl
  · cases h
theorem RepT.bl_inv {v : V} {b : Bool} {F : List Addr} (h : RepT K Hi H v (.imm (.bool b)) F) : v = .bl b ∧ F = [] := by
  obtain ⟨d, e⟩ := h.imm_inv
  cases d
  exact ⟨rfl, e⟩
theorem RepT.int_inv {v : V} {i : Int} {F : List Addr} (h : RepT K Hi H v (.imm (.int i)) F) : v = .int i ∧ F = [] := by
  obtain ⟨d, e⟩ := h.imm_inv
  cases d
  exact ⟨rfl, e⟩
theorem RepT.str_inv {v : V} {i : Str} {F : List Addr} (h : RepT K Hi H v (.imm (.str i)) F) : v = .str i ∧ F = [] := by
  obtain ⟨d, e⟩ := h.imm_inv
  cases d
  exact ⟨rfl, e⟩
theorem RepT.non_inv {v : V} {F : List Addr} (h : RepT K Hi H v (.imm .none) F) : v = .non ∧ F = [] := by
  obtain ⟨d, e⟩ := h.imm_inv
  cases d
  exact ⟨rfl, e⟩
def mTest (m : MF) : MT := fun E => (m E).bind fun p => (bOf p.1).bind fun b => some (b, p.2)
theorem tr_val {tt : TT} (ht : tt = fun σ H Q => te σ H fun x H' => ∃ k, x = .bl k ∧ Q k H') (h : FR K te m) : TR K tt (mTest m) := fun E b E' q A σ Hi H Fs hE Q k => by
  unfold mTest at q
  obtain ⟨⟨t, E1⟩, q1, q⟩ := Option.bind_eq_some_iff.mp q
  obtain ⟨b', q2, q⟩ := Option.bind_eq_some_iff.mp q
  cases q
  rw [ht]
  refine h E t E1 q1 A σ Hi H Fs hE _ fun v Hi1 H1 Fs1 G r h1 d s => ?_
  have e := bOf_inv q2
  subst e
  obtain ⟨e, _⟩ := r.bl_inv
  exact ⟨_, e, k Hi1 H1 Fs1 h1 (s.weak fun x z => .inl z)⟩
theorem tr_test (h : FR K te m) : TR K (tTest te) (mTest m) := tr_val rfl h
theorem tr_B (h : FR K te m) : TR K (tB te) (mTest m) := tr_val rfl h
section
variable {t u : TT} {mt mu : MT}
def mAnd (mt mu : MT) : MT := fun E => (mt E).bind fun p => if p.1 = true then mu p.2 else some (false, p.2)
theorem tr_and (ht : TR K t mt) (hu : TR K u mu) : TR K (tAnd t u) (mAnd mt mu) := fun E b E' q A σ Hi H Fs hE Q k => by
  unfold mAnd at q
  obtain ⟨⟨c, E1⟩, q1, q⟩ := Option.bind_eq_some_iff.mp q
  refine ht E c E1 q1 A σ Hi H Fs hE _ fun Hi1 H1 Fs1 h1 s1 => ?_
  cases c with
  | true =>
    rw [if_pos rfl] at q ⊢
    exact hu E1 b E' q A σ Hi1 H1 Fs1 h1 Q fun Hi2 H2 Fs2 h2 s2 => k Hi2 H2 Fs2 h2 (s1.trans s2)
  | false =>
    rw [if_neg Bool.false_ne_true] at q ⊢
    cases q
    exact k Hi1 H1 Fs1 h1 s1
def mOr (mt mu : MT) : MT := fun E => (mt E).bind fun p => if p.1 = true then some (true, p.2) else mu p.2
theorem tr_or (ht : TR K t mt) (hu : TR K u mu) : TR K (tOr t u) (mOr mt mu) := fun E b E' q A σ Hi H Fs hE Q k => by
  unfold mOr at q
  obtain ⟨⟨c, E1⟩, q1, q⟩ := Option.bind_eq_some_iff.mp q
  refine ht E c E1 q1 A σ Hi H Fs hE _ fun Hi1 H1 Fs1 h1 s1 => ?_
  cases c with
  | true =>
    rw [if_pos rfl] at q ⊢
    cases q
    exact k Hi1 H1 Fs1 h1 s1
  | false =>
    rw [if_neg Bool.false_ne_true] at q ⊢
    exact hu E1 b E' q A σ Hi1 H1 Fs1 h1 Q fun Hi2 H2 Fs2 h2 s2 => k Hi2 H2 Fs2 h2 (s1.trans s2)
def mNot (mt : MT) : MT := fun E => (mt E).bind fun p => some (!p.1, p.2)
theorem tr_not (ht : TR K t mt) : TR K (tNot t) (mNot mt) := fun E b E' q A σ Hi H Fs hE Q k => by
  unfold mNot at q
  obtain ⟨⟨c, E1⟩, q1, q⟩ := Option.bind_eq_some_iff.mp q
  cases q
  exact ht E c E1 q1 A σ Hi H Fs hE _ fun Hi1 H1 Fs1 h1 s1 => k Hi1 H1 Fs1 h1 s1
/-- a value's truth -/
def truT : Tr → Option Bool
  | .imm .none => some false
  | .imm (.bool b) => some b
  | .imm (.int i) => some (i != 0)
  | .imm (.str z) => if z.length ≤ 16777216 then some ((z.length : Int) != 0) else none
  | .imm (.list ds) => some (!ds.isEmpty)
  | .imm (.tuple ds) => some (!ds.isEmpty)
  | .imm (.dict _) => none
  | .lst ts => some (!ts.isEmpty)
  | .dic kvs => some (!kvs.isEmpty)
theorem dpAll_len : ∀ {ds : List PyData} {vs : List V}, DpAll K H vs ds → vs.length = ds.length
  | _, _, .nil => rfl
  | _, _, .cons _ t => congrArg (· + 1) (dpAll_len t)
theorem emp_len {α β : Type} {xs : List α} {ys : List β} (h : xs.length = ys.length) : xs.isEmpty = ys.isEmpty := by
  cases xs <;> cases ys <;> first | rfl | cases h
theorem tru_ok {x : V} {t : Tr} {F : List Addr} {b : Bool} (s : Same Hi H) (r : RepT K Hi H x t F) (q : truT t = some b) : TruV K x H b := by
  cases r with
  | imm h =>
    cases h with
    | non => cases q; rfl
    | bl b => cases q; rfl
    | int i => cases q; rfl
    | str z =>
      rw [truT] at q
      split at q
      · rename_i hz
        cases q
        exact ⟨by rw [sizeLine_eq]; exact hz, rfl⟩
      · cases q
    | lst hs ha => cases q; exact .inl ⟨_, s.seq hs, by rw [emp_len (dpAll_len ha)]⟩
    | tup hs ha => cases q; exact .inr (.inl ⟨_, seqT s hs, by rw [emp_len (dpAll_len ha)]⟩)
  | lst h1 h2 h3 h4 => cases q; exact .inl ⟨_, .inl (.inl h1), by rw [emp_len h3.length]⟩
  | dic h1 h2 h3 => cases q; exact .inr (.inr ⟨_, h1, by rw [emp_len (Paired.length h3)]⟩)
def mTru (ma : MR) : MT := fun E => (ma E).bind fun p => (view p.2 p.1).bind fun t => (truT t).bind fun b => some (b, p.2)
theorem tr_tru (h : ER K te ma) : TR K (fun σ H Q => te σ H fun x H' => ∃ k, TruV K x H' k ∧ Q k H') (mTru ma) := fun E b E' q A σ Hi H Fs hE Q k => by
  unfold mTru at q
  obtain ⟨⟨o, E1⟩, q1, q⟩ := Option.bind_eq_some_iff.mp q
  obtain ⟨t, q2, q⟩ := Option.bind_eq_some_iff.mp q
  obtain ⟨b', q3, q⟩ := Option.bind_eq_some_iff.mp q
  cases q
  refine h E o E1 q1 A σ Hi H Fs hE _ fun v Hi1 H1 Fs1 G r h1 d s => ?_
  obtain ⟨F, rt⟩ := h1.view r q2
  exact ⟨_, tru_ok h1.sub rt q3, k Hi1 H1 Fs1 h1 (s.weak fun x z => .inl z)⟩
/-- truths as values -/
def mAndV (m m' : MF) : MF := fun E => (m E).bind fun p => (bOf p.1).bind fun b => if b = true then m' p.2 else some (.imm (.bool false), p.2)
theorem fr_andV (h : FR K ta m) (h' : FR K tb m') : FR K (tAndV ta tb) (mAndV m m') := fun E w E' q A σ Hi H Fs hE Q k => by
  unfold mAndV at q
  obtain ⟨⟨t, E1⟩, q1, q⟩ := Option.bind_eq_some_iff.mp q
  obtain ⟨b, q2, q⟩ := Option.bind_eq_some_iff.mp q
  have e := bOf_inv q2
  subst e
  refine h E _ E1 q1 A σ Hi H Fs hE _ fun v Hi1 H1 Fs1 G r h1 d s => ?_
  obtain ⟨e, _⟩ := r.bl_inv
  refine ⟨b, e, ?_⟩
  cases b with
  | true =>
    rw [if_pos rfl] at q ⊢
    exact h' E1 w E' q A σ Hi1 H1 Fs1 h1 Q fun v2 Hi2 H2 Fs2 G2 r2 h2 d2 s2 => k v2 Hi2 H2 Fs2 G2 r2 h2 d2 (s.seq s2)
  | false =>
    rw [if_neg Bool.false_ne_true] at q ⊢
    cases q
    exact k _ Hi1 H1 Fs1 [] (.imm (.bl false)) h1 (fun a z => nomatch z) ((s.weak fun x z => .inl z).weak fun x z => z.elim id fun y => nomatch y)
def mOrV (m m' : MF) : MF := fun E => (m E).bind fun p => (bOf p.1).bind fun b => if b = true then some (.imm (.bool true), p.2) else m' p.2
theorem fr_orV (h : FR K ta m) (h' : FR K tb m') : FR K (tOrV ta tb) (mOrV m m') := fun E w E' q A σ Hi H Fs hE Q k => by
  unfold mOrV at q
  obtain ⟨⟨t, E1⟩, q1, q⟩ := Option.bind_eq_some_iff.mp q
  obtain ⟨b, q2, q⟩ := Option.bind_eq_some_iff.mp q
  have e := bOf_inv q2
  subst e
  refine h E _ E1 q1 A σ Hi H Fs hE _ fun v Hi1 H1 Fs1 G r h1 d s => ?_
  obtain ⟨e, _⟩ := r.bl_inv
  refine ⟨b, e, ?_⟩
  cases b with
  | true =>
    rw [if_pos rfl] at q ⊢
    cases q
    exact k _ Hi1 H1 Fs1 [] (.imm (.bl true)) h1 (fun a z => nomatch z) ((s.weak fun x z => .inl z).weak fun x z => z.elim id fun y => nomatch y)
  | false =>
    rw [if_neg Bool.false_ne_true] at q ⊢
    exact h' E1 w E' q A σ Hi1 H1 Fs1 h1 Q fun v2 Hi2 H2 Fs2 G2 r2 h2 d2 s2 => k v2 Hi2 H2 Fs2 G2 r2 h2 d2 (s.seq s2)
def mNotV (m : MF) : MF := fun E => (m E).bind fun p => (bOf p.1).bind fun b => some (.imm (.bool (!b)), p.2)
theorem fr_notV (h : FR K ta m) : FR K (tNotV ta) (mNotV m) := fun E w E' q A σ Hi H Fs hE Q k => by
  unfold mNotV at q
  obtain ⟨⟨t, E1⟩, q1, q⟩ := Option.bind_eq_some_iff.mp q
  obtain ⟨b, q2, q⟩ := Option.bind_eq_some_iff.mp q
  have e := bOf_inv q2
  subst e
  cases q
  refine h E _ E1 q1 A σ Hi H Fs hE _ fun v Hi1 H1 Fs1 G r h1 d s => ?_
  obtain ⟨e, _⟩ := r.bl_inv
  exact ⟨b, e, k _ Hi1 H1 Fs1 [] (.imm (.bl (!b))) h1 (fun a z => nomatch z) ((s.weak fun x z => .inl z).weak fun x z => z.elim id fun y => nomatch y)⟩
def mIf (mt : MT) (m m' : MF) : MF := fun E => (mt E).bind fun p => if p.1 = true then m p.2 else m' p.2
theorem fr_if (ht : TR K t mt) (h : FR K ta m) (h' : FR K tb m') : FR K (tIf t ta tb) (mIf mt m m') := fun E w E' q A σ Hi H Fs hE Q k => by
  unfold mIf at q
  obtain ⟨⟨c, E1⟩, q1, q⟩ := Option.bind_eq_some_iff.mp q
  refine ht E c E1 q1 A σ Hi H Fs hE _ fun Hi1 H1 Fs1 h1 s1 => ?_
  cases c with
  | true =>
    rw [if_pos rfl] at q ⊢
    exact h E1 w E' q A σ Hi1 H1 Fs1 h1 Q fun v2 Hi2 H2 Fs2 G2 r2 h2 d2 s2 => k v2 Hi2 H2 Fs2 G2 r2 h2 d2 (s1.trans s2)
  | false =>
    rw [if_neg Bool.false_ne_true] at q ⊢
    exact h' E1 w E' q A σ Hi1 H1 Fs1 h1 Q fun v2 Hi2 H2 Fs2 G2 r2 h2 d2 s2 => k v2 Hi2 H2 Fs2 G2 r2 h2 d2 (s1.trans s2)
end

/-- a < b < c -/
def mChain (f f' : Tr → Tr → Option Tr) (ma mb mc : MR) : MF := fun E => (ma E).bind fun p => (mb p.2).bind fun q => (view q.2 p.1).bind fun t => (view q.2 q.1).bind fun u => (f t u).bind fun w => (bOf w).bind fun b =>
  if b = true then (mc q.2).bind fun r => (view r.2 q.1).bind fun u' => (view r.2 r.1).bind fun x => (f' u' x).bind fun w' => some (w', r.2) else some (.imm (.bool false), q.2)
theorem fr_chain {tc : TE} {mc : MR} {r r' : R2} {f f' : Tr → Tr → Option Tr} (ha : ER K ta ma) (hb : ER K tb mb) (hc : ER K tc mc) (hr : OpT K r f) (hr' : OpT K r' f') : FR K (tChain r r' ta tb tc) (mChain f f' ma mb mc) := fun E w E' q A σ Hi H Fs h Q k => by
  unfold mChain at q
  obtain ⟨⟨o1, E1⟩, q1, q⟩ := Option.bind_eq_some_iff.mp q
  obtain ⟨⟨o2, E2⟩, q2, q⟩ := Option.bind_eq_some_iff.mp q
  obtain ⟨t, q3, q⟩ := Option.bind_eq_some_iff.mp q
  obtain ⟨u, q4, q⟩ := Option.bind_eq_some_iff.mp q
  obtain ⟨w', q5, q⟩ := Option.bind_eq_some_iff.mp q
  obtain ⟨b, q6, q⟩ := Option.bind_eq_some_iff.mp q
  rw [bOf_inv q6] at q5
  refine ha E o1 E1 q1 A σ Hi H Fs h _ fun v1 Hi1 H1 Fs1 G1 r1 h1 d1 s1 => ?_
  refine hb E1 o2 E2 q2 A σ Hi1 H1 Fs1 h1 _ fun v2 Hi2 H2 Fs2 G2 r2 h2 d2 s2 => ?_
  obtain ⟨F1, rt⟩ := h2.view (s2.keepR r1 d1) q3
  obtain ⟨F2, ru⟩ := h2.view r2 q4
  refine hr t u _ q5 Hi2 H2 v1 v2 F1 F2 h2.sub rt ru _ fun v Hi3 H3 W rw g => ?_
  obtain ⟨e, eW⟩ := rw.bl_inv
  subst eW
  refine ⟨b, e, ?_⟩
  have s3 : Step Hi H (InE Fs) Hi3 H3 (InE Fs2) := s1.seq (s2.seq ((g.step _).weak fun x z => .inl z))
  have h3 := h2.grow g
  cases b with
  | true =>
    dsimp only at q ⊢
    rw [if_pos rfl] at q ⊢
    obtain ⟨⟨o3, E3⟩, q7, q⟩ := Option.bind_eq_some_iff.mp q
    obtain ⟨u', q8, q⟩ := Option.bind_eq_some_iff.mp q
    obtain ⟨x, q9, q⟩ := Option.bind_eq_some_iff.mp q
    obtain ⟨w2, q10, q⟩ := Option.bind_eq_some_iff.mp q
    cases q
    have r2' := (g.step (fun _ => False)).keepR r2 fun _ _ z => z
    refine hc E2 o3 E3 q7 A σ Hi3 H3 Fs2 h3 _ fun v4 Hi4 H4 Fs4 G4 r4 h4 d4 s4 => ?_
    obtain ⟨F3, ru'⟩ := h4.view (s4.keepR r2' d2) q8
    obtain ⟨F4, rx⟩ := h4.view r4 q9
    exact hr' u' x _ q10 Hi4 H4 v2 v4 F3 F4 h4.sub ru' rx Q fun v Hi5 H5 W rw g => k v Hi5 H5 Fs4 W rw (h4.grow g) (h4.fresh g) (s3.trans (s4.seq (g.step _)))
  | false =>
    dsimp only at q ⊢
    rw [if_neg Bool.false_ne_true] at q ⊢
    cases q
    exact k _ Hi3 H3 Fs2 [] (.imm (.bl false)) h3 (fun a z => nomatch z) (s3.weak fun x z => z.elim id fun y => nomatch y)

/-! ### arguments, displays -/
def arNil : MA := fun E => some ([], E)
theorem ar_nil : AR K tNil arNil := fun E os E' q A σ Hi H Fs h Q k => by
  cases q
  exact k [] Hi H Fs [] .nil h (fun a z => nomatch z) stepN
def arCons (ma : MR) (ms : MA) : MA := fun E => (ma E).bind fun p => (ms p.2).bind fun q => some (p.1 :: q.1, q.2)
theorem ar_cons {tr : TA} {ms : MA} (ha : ER K ta ma) (hs : AR K tr ms) : AR K (tCons ta tr) (arCons ma ms) := fun E os E' q A σ Hi H Fs h Q k => by
  unfold arCons at q
  obtain ⟨⟨o, E1⟩, q1, q⟩ := Option.bind_eq_some_iff.mp q
  obtain ⟨⟨os', E2⟩, q2, q⟩ := Option.bind_eq_some_iff.mp q
  cases q
  refine ha E o E1 q1 A σ Hi H Fs h _ fun v1 Hi1 H1 Fs1 G1 r1 h1 d1 s1 => ?_
  refine hs E1 os' E2 q2 A σ Hi1 H1 Fs1 h1 _ fun vs Hi2 H2 Fs2 G2 r2 h2 d2 s2 => ?_
  have r1' := s2.keepR r1 d1
  have ap := s2.apart (fun x hx => (r1.ownG x hx).2) d1
  refine k (v1 :: vs) Hi2 H2 Fs2 (G1 ++ G2) (.cons r1' r2 fun a ha hb => ap a ha (.inr hb)) h2 (fun a ha hf => ?_) ?_
  · rcases List.mem_append.mp ha with z | z
    · exact ap a z (.inl hf)
    · exact d2 a z hf
  · refine ⟨s1.ex.trans s2.ex, (s1.seq s2).fr, fun x z => ?_, (s1.seq s2).nh⟩
    rcases z with z | z
    · exact (s1.seq s2).nw x (.inl z)
    · rcases List.mem_append.mp z with z | z
      · exact s1.nw x (.inr z)
      · exact (s1.seq s2).nw x (.inr z)
def faNil : MFs := fun E => some ([], E)
theorem fa_nil : FA K tNil faNil := fun E os E' q A σ Hi H Fs h Q k => by
  cases q
  exact k [] Hi H Fs [] .nil h (fun a z => nomatch z) stepN
def faCons (ma : MF) (ms : MFs) : MFs := fun E => (ma E).bind fun p => (ms p.2).bind fun q => some (p.1 :: q.1, q.2)
theorem fa_cons {tr : TA} {ms : MFs} (ha : FR K ta m) (hs : FA K tr ms) : FA K (tCons ta tr) (faCons m ms) := fun E os E' q A σ Hi H Fs h Q k => by
  unfold faCons at q
  obtain ⟨⟨o, E1⟩, q1, q⟩ := Option.bind_eq_some_iff.mp q
  obtain ⟨⟨os', E2⟩, q2, q⟩ := Option.bind_eq_some_iff.mp q
  cases q
  refine ha E o E1 q1 A σ Hi H Fs h _ fun v1 Hi1 H1 Fs1 G1 r1 h1 d1 s1 => ?_
  refine hs E1 os' E2 q2 A σ Hi1 H1 Fs1 h1 _ fun vs Hi2 H2 Fs2 G2 r2 h2 d2 s2 => ?_
  have r1' := s2.keep r1 d1
  have ap := s2.apart (fun x hx => (r1.ownG x hx).2) d1
  refine k (v1 :: vs) Hi2 H2 Fs2 (G1 ++ G2) (.cons r1' r2 fun a ha hb => ap a ha (.inr hb)) h2 (fun a ha hf => ?_) ?_
  · rcases List.mem_append.mp ha with z | z
    · exact ap a z (.inl hf)
    · exact d2 a z hf
  · refine ⟨s1.ex.trans s2.ex, (s1.seq s2).fr, fun x z => ?_, (s1.seq s2).nh⟩
    rcases z with z | z
    · exact (s1.seq s2).nw x (.inl z)
    · rcases List.mem_append.mp z with z | z
      · exact s1.nw x (.inr z)
      · exact (s1.seq s2).nw x (.inr z)
/-- what is held besides stands still from now on -/
theorem RepE.fz {G : List Addr} (h : RepE K A Hi H σ E Fs) (og : ∀ a ∈ G, Hi a = none) (da : ∀ a ∈ G, ¬ InE Fs a) : RepE K A (fzH Hi H G) H σ E Fs := by
  refine h.keep (F := fun a => a ∈ G) (F' := fun _ => False) ⟨fz_same og, fun _ _ e _ => e, fun _ z => z.elim, fun a u e => ?_⟩ (fz_sub h.sub) fun x hx hg => da x hg hx
  by_cases ha : a ∈ G
  · exact .inr (.inl ha)
  · unfold fzH at e
    rw [if_neg ha] at e
    exact .inl ⟨u, e⟩
def mTup (ms : MFs) : MF := fun E => (ms E).bind fun p => (Tr.toDs p.1).bind fun ds => if p.1.length ≤ 16777216 then some (.imm (.tuple ds), p.2) else none
theorem fr_tup {tr : TA} {ms : MFs} (hs : FA K tr ms) : FR K (tTup tr) (mTup ms) := fun E w E' q A σ Hi H Fs h Q k => by
  unfold mTup at q
  obtain ⟨⟨ts, E1⟩, q1, q⟩ := Option.bind_eq_some_iff.mp q
  obtain ⟨ds, q2, q⟩ := Option.bind_eq_some_iff.mp q
  split at q
  · rename_i hl
    cases q
    refine hs E ts E1 q1 A σ Hi H Fs h _ fun vs Hi1 H1 Fs1 G r h1 d s => ?_
    refine ⟨by rw [sizeLine_eq, r.length]; exact hl, fun p hp => ?_⟩
    have og : ∀ a ∈ G, Hi1 a = none := fun a ha => (r.ownG a ha).1
    have hd : DpAll K (fzH Hi1 H1 G) vs ds := r.froz (fz_same og) _ _ _ ds (fun a ha => fz_in ha) q2
    have h2 := h1.fz og d
    have g : Grow (fzH Hi1 H1 G) H1 (upd (fzH Hi1 H1 G) p (.tup vs)) (upd H1 p (.tup vs)) [] := Grow.imm h2.sub hp
    have s2 : Step Hi1 H1 (fun a => InE Fs1 a ∨ a ∈ G) (fzH Hi1 H1 G) H1 (InE Fs1) := fz_step og
    exact k (.ref p) _ _ Fs1 [] (.imm (.tup (SqT.of upd_same) (dpMonos g.ex _ _ hd))) (h2.grow g) (fun a z => nomatch z) (s.trans (s2.trans (g.step _)))
  · cases q
def mLst (ms : MFs) : MF := fun E => (ms E).bind fun p => if p.1.length ≤ 16777216 then some (.lst p.1, p.2) else none
theorem fr_lst {tr : TA} {ms : MFs} (hs : FA K tr ms) : FR K (tLst tr) (mLst ms) := fun E w E' q A σ Hi H Fs h Q k => by
  unfold mLst at q
  obtain ⟨⟨ts, E1⟩, q1, q⟩ := Option.bind_eq_some_iff.mp q
  split at q
  · rename_i hl
    cases q
    refine hs E ts E1 q1 A σ Hi H Fs h _ fun vs Hi1 H1 Fs1 G r h1 d s => ?_
    refine ⟨by rw [sizeLine_eq, r.length]; exact hl, fun p hp => ?_⟩
    have g : Grow Hi1 H1 Hi1 (upd H1 p (.lst vs)) [p] := Grow.own h1.sub hp
    have pG : p ∉ G := fun z => by
      obtain ⟨_, o, e⟩ := r.ownG p z
      rw [hp] at e; cases e
    have r' := (g.step (fun _ => False)).keeps r fun _ _ z => z
    refine k (.ref p) _ _ Fs1 (p :: G) (.lst upd_same (free_of h1.sub hp) r' pG) (h1.grow g) (fun a ha => ?_) ?_
    · rcases List.mem_cons.mp ha with e | ha
      · subst e; exact h1.fresh g a (by simp)
      · exact d a ha
    · refine ⟨s.ex, fun x o e f => g.all x o (s.fr x o e f), fun x z => ?_, s.nh⟩
      rcases z with z | z
      · exact s.nw x (.inl z)
      · rcases List.mem_cons.mp z with e | z
        · subst e
          cases q : H x with
          | none => exact .inr rfl
          | some o =>
            by_cases f : InE Fs x
            · exact .inl f
            · have := s.fr x o q f
              rw [hp] at this; cases this
        · exact s.nw x (.inr z)
  · cases q
/-! ### builtins, methods that change nothing, slices -/
def mCB (f : List Tr → Option Tr) (ms : MA) : MF := fun E => (ms E).bind fun p => (views p.2 p.1).bind fun ts => (f ts).bind fun w => some (w, p.2)
theorem fr_cb {r : List V → Hp → VK → Prop} {f : List Tr → Option Tr} {tr : TA} {ms : MA} (hs : AR K tr ms) (hr : CallT K r f) : FR K (tCB r tr) (mCB f ms) := fun E w E' q A σ Hi H Fs h Q k => by
  unfold mCB at q
  obtain ⟨⟨os, E1⟩, q1, q⟩ := Option.bind_eq_some_iff.mp q
  obtain ⟨ts, q2, q⟩ := Option.bind_eq_some_iff.mp q
  obtain ⟨w', q3, q⟩ := Option.bind_eq_some_iff.mp q
  cases q
  refine hs E os E1 q1 A σ Hi H Fs h _ fun vs Hi1 H1 Fs1 G r1 h1 d s => ?_
  exact hr ts _ q3 Hi1 H1 vs h1.sub (h1.views r1 q2) Q fun v Hi3 H3 W rw g => k v Hi3 H3 Fs1 W rw (h1.grow g) (h1.fresh g) (s.seq (g.step _))
def tyB : String → Tr → Bool
  | "str", .imm (.str _) => true
  | "int", .imm (.int _) => true
  | "list", .imm (.list _) => true
  | "list", .lst _ => true
  | "dict", .dic _ => true
  | _, _ => false
theorem tyV_of {T : String} {v : V} {t : Tr} {F : List Addr} (s : Same Hi H) (r : RepT K Hi H v t F) (q : tyB T t = true) : tyV K T v H := by
  unfold tyB at q
  split at q
  · obtain ⟨e, _⟩ := r.str_inv; subst e; rfl
  · obtain ⟨e, _⟩ := r.int_inv; subst e; rfl
  · obtain ⟨d, _⟩ := r.imm_inv
    cases d with
    | lst hs ha => exact .inl ⟨rfl, _, s.seq hs⟩
  · cases r with
    | lst h1 h2 h3 h4 => exact .inl ⟨rfl, _, SqL.of h1⟩
  · cases r with
    | dic h1 h2 h3 => exact .inr (.inr (.inl ⟨rfl, .inl ⟨_, h1⟩⟩))
  · cases q
def mBM (T : String) (f : Tr → List Tr → Option Tr) (mo : MR) (ms : MA) : MF := fun E => (mo E).bind fun p => (view p.2 p.1).bind fun t0 => if tyB T t0 = true then (ms p.2).bind fun q => (view q.2 p.1).bind fun t => (views q.2 q.1).bind fun ts => (f t ts).bind fun w => some (w, q.2) else none
theorem fr_bm {T : String} {r : V → List V → Hp → VK → Prop} {f : Tr → List Tr → Option Tr} {to : TE} {mo : MR} {tr : TA} {ms : MA} (ho : ER K to mo) (hs : AR K tr ms) (hr : MetT K r f) : FR K (tBM K T r to tr) (mBM T f mo ms) := fun E w E' q A σ Hi H Fs h Q k => by
  unfold mBM at q
  obtain ⟨⟨o, E1⟩, q1, q⟩ := Option.bind_eq_some_iff.mp q
  obtain ⟨t0, q2, q⟩ := Option.bind_eq_some_iff.mp q
  split at q
  · rename_i hT
    obtain ⟨⟨os, E2⟩, q3, q⟩ := Option.bind_eq_some_iff.mp q
    obtain ⟨t, q4, q⟩ := Option.bind_eq_some_iff.mp q
    obtain ⟨ts, q5, q⟩ := Option.bind_eq_some_iff.mp q
    obtain ⟨w', q6, q⟩ := Option.bind_eq_some_iff.mp q
    cases q
    refine ho E o E1 q1 A σ Hi H Fs h _ fun v1 Hi1 H1 Fs1 G1 r1 h1 d1 s1 => ?_
    obtain ⟨F0, rt0⟩ := h1.view r1 q2
    refine ⟨tyV_of h1.sub rt0 hT, ?_⟩
    refine hs E1 os E2 q3 A σ Hi1 H1 Fs1 h1 _ fun vs Hi2 H2 Fs2 G2 r2 h2 d2 s2 => ?_
    obtain ⟨F1, rt⟩ := h2.view (s2.keepR r1 d1) q4
    exact hr t ts _ q6 Hi2 H2 v1 vs F1 h2.sub rt (h2.views r2 q5) Q fun v Hi3 H3 W rw g => k v Hi3 H3 Fs2 W rw (h2.grow g) (h2.fresh g) (s1.seq (s2.seq (g.step _)))
  · cases q
def mBM0 (T : String) (f : Tr → List Tr → Option Tr) (mo : MR) : MF := fun E => (mo E).bind fun p => (view p.2 p.1).bind fun t0 => if tyB T t0 = true then (f t0 []).bind fun w => some (w, p.2) else none
theorem fr_bm0 {T : String} {r : V → List V → Hp → VK → Prop} {f : Tr → List Tr → Option Tr} {to : TE} {mo : MR} (ho : ER K to mo) (hr : MetT K r f) : FR K (tBM0 K T r to) (mBM0 T f mo) := fun E w E' q A σ Hi H Fs h Q k => by
  unfold mBM0 at q
  obtain ⟨⟨o, E1⟩, q1, q⟩ := Option.bind_eq_some_iff.mp q
  obtain ⟨t0, q2, q⟩ := Option.bind_eq_some_iff.mp q
  split at q
  · rename_i hT
    obtain ⟨w', q6, q⟩ := Option.bind_eq_some_iff.mp q
    cases q
    refine ho E o E1 q1 A σ Hi H Fs h _ fun v1 Hi1 H1 Fs1 G1 r1 h1 d1 s1 => ?_
    obtain ⟨F0, rt0⟩ := h1.view r1 q2
    exact ⟨tyV_of h1.sub rt0 hT, hr t0 [] _ q6 Hi1 H1 v1 [] F0 h1.sub rt0 .nil Q fun v Hi3 H3 W rw g => k v Hi3 H3 Fs1 W rw (h1.grow g) (h1.fresh g) (s1.seq (g.step _))⟩
  · cases q
/-- a part of a slice -/
abbrev MO := En → Option (Option Int × En)
def OR (K : PySem.W.Frag) (to : TO) (m : MO) : Prop := ∀ E o E', m E = some (o, E') → ∀ A σ Hi H Fs, RepE K A Hi H σ E Fs → ∀ Q : Option Int → Hp → Prop,
  (∀ Hi' H' Fs', RepE K A Hi' H' σ E' Fs' → Step Hi H (InE Fs) Hi' H' (InE Fs') → Q o H') → to σ H Q
def iOf : Tr → Option Int
  | .imm (.int i) => some i
  | _ => none
theorem iOf_inv {t : Tr} {b : Int} (h : iOf t = some b) : t = .imm (.int b) := by
  unfold iOf at h
  split at h
  · cases h; rfl
  · cases h
def moNone : MO := fun E => some (none, E)
theorem or_none : OR K tNoPart moNone := fun E o E' q A σ Hi H Fs h Q k => by
  cases q
  exact k Hi H Fs h (Step.refl _ _ _)
def moSome (m : MF) : MO := fun E => (m E).bind fun p => (iOf p.1).bind fun i => some (some i, p.2)
theorem or_some (ha : FR K te m) : OR K (tPart te) (moSome m) := fun E o E' q A σ Hi H Fs h Q k => by
  unfold moSome at q
  obtain ⟨⟨t, E1⟩, q1, q⟩ := Option.bind_eq_some_iff.mp q
  obtain ⟨i, q2, q⟩ := Option.bind_eq_some_iff.mp q
  cases q
  have e := iOf_inv q2
  subst e
  refine ha E _ E1 q1 A σ Hi H Fs h _ fun v1 Hi1 H1 Fs1 G1 r1 h1 d1 s1 => ?_
  exact ⟨i, r1.int_inv.1, k Hi1 H1 Fs1 h1 (s1.weak fun _ z => .inl z)⟩
def SlT (K : PySem.W.Frag) (r : V → Option Int → Option Int → Hp → VK → Prop) (f : Tr → Option Int → Option Int → Option Tr) : Prop := ∀ t lo hi w, f t lo hi = some w → ∀ Hi H x F, Same Hi H → RepT K Hi H x t F → ∀ Q : VK,
  (∀ v Hi' H' W, RepT K Hi' H' v w W → Grow Hi H Hi' H' W → Q v H') → r x lo hi H Q
def mSl (f : Tr → Option Int → Option Int → Option Tr) (ma : MR) (ml mh : MO) : MF := fun E => (ma E).bind fun p => (ml p.2).bind fun l => (mh l.2).bind fun u => (view u.2 p.1).bind fun t => (f t l.1 u.1).bind fun w => some (w, u.2)
theorem fr_sl {r : V → Option Int → Option Int → Hp → VK → Prop} {f : Tr → Option Int → Option Int → Option Tr} {tl th : TO} {ml mh : MO} (ha : ER K te ma) (hl : OR K tl ml) (hh : OR K th mh) (hr : SlT K r f) : FR K (tSl r te tl th) (mSl f ma ml mh) := fun E w E' q A σ Hi H Fs h Q k => by
  unfold mSl at q
  obtain ⟨⟨o1, E1⟩, q1, q⟩ := Option.bind_eq_some_iff.mp q
  obtain ⟨⟨l, E2⟩, q2, q⟩ := Option.bind_eq_some_iff.mp q
  obtain ⟨⟨u, E3⟩, q3, q⟩ := Option.bind_eq_some_iff.mp q
  obtain ⟨t, q4, q⟩ := Option.bind_eq_some_iff.mp q
  obtain ⟨w', q5, q⟩ := Option.bind_eq_some_iff.mp q
  cases q
  refine ha E o1 E1 q1 A σ Hi H Fs h _ fun v1 Hi1 H1 Fs1 G1 r1 h1 d1 s1 => ?_
  refine hl E1 l E2 q2 A σ Hi1 H1 Fs1 h1 _ fun Hi2 H2 Fs2 h2 s2 => ?_
  refine hh E2 u E3 q3 A σ Hi2 H2 Fs2 h2 _ fun Hi3 H3 Fs3 h3 s3 => ?_
  have s23 := s2.trans s3
  obtain ⟨F1, rt⟩ := h3.view (s23.keepR r1 d1) q4
  exact hr t l u _ q5 Hi3 H3 v1 F1 h3.sub rt Q fun v Hi4 H4 W rw g => k v Hi4 H4 Fs3 W rw (h3.grow g) (h3.fresh g) (s1.seq (s23.trans (g.step _)))
end
end FL

/-! FL, part D: statements; defs and their calls. -/
namespace FL
open PySem L2

/-! ### what a statement ends in -/
inductive Out where
  | nx (E : En)
  | rt (t : Tr) (E : En)
  | bk (E : En)
  | ct (E : En)
abbrev MS := En → Option Out
section
variable (K : PySem.W.Frag)
def Goal (A : List V) (Hi H : Hp) (F : Addr → Prop) : Out → Ends → Prop
  | .nx E', D => ∀ σ' Hi' H' Fs', RepE K A Hi' H' σ' E' Fs' → Step Hi H F Hi' H' (InE Fs') → D.nx σ' H'
  | .rt t E', D => ∀ v σ' Hi' H' Fs' G, RepT K Hi' H' v t G → RepE K A Hi' H' σ' E' Fs' → (∀ a ∈ G, ¬ InE Fs' a) → Step Hi H F Hi' H' (fun a => InE Fs' a ∨ a ∈ G) → D.rt v H'
  | .bk E', D => ∀ σ' Hi' H' Fs', RepE K A Hi' H' σ' E' Fs' → Step Hi H F Hi' H' (InE Fs') → D.bk σ' H'
  | .ct E', D => ∀ σ' Hi' H' Fs', RepE K A Hi' H' σ' E' Fs' → Step Hi H F Hi' H' (InE Fs') → D.ct σ' H'
def SR (ts : TS) (m : MS) : Prop := ∀ E out, m E = some out → ∀ A σ Hi H Fs D, RepE K A Hi H σ E Fs → Goal K A Hi H (InE Fs) out D → ts D σ H
/-- where a value is stored -/
def Chg (ws : List Nat) (σ σ' : L2.St) : Prop := σ'.length = σ.length ∧ ∀ j, j ∉ ws → σ'[j]? = σ[j]?
def GR (g : TG) (m : Tr → En → Option En) (ws : List Nat) : Prop := ∀ t E E', m t E = some E' → ∀ A σ Hi H Fs v G, RepE K A Hi H σ E Fs → RepT K Hi H v t G → (∀ a ∈ G, ¬ InE Fs a) → ∀ Q : L2.St → Hp → Prop,
  (∀ σ' Hi' H' Fs', Chg ws σ σ' → RepE K A Hi' H' σ' E' Fs' → Step Hi H (fun a => InE Fs a ∨ a ∈ G) Hi' H' (InE Fs') → Q σ' H') → g v σ H Q
def GRs (g : TGs) (m : List PyData → En → Option En) (ws : List Nat) : Prop := ∀ ds E E', m ds E = some E' → ∀ A σ Hi H Fs vs, RepE K A Hi H σ E Fs → DpAll K Hi vs ds → ∀ Q : L2.St → Hp → Prop,
  (∀ σ' Hi' H' Fs', Chg ws σ σ' → RepE K A Hi' H' σ' E' Fs' → Step Hi H (InE Fs) Hi' H' (InE Fs') → Q σ' H') → g vs σ H Q
end
section
variable {K : PySem.W.Frag} {A : List V} {Hi H Hi1 H1 Hi' H' : Hp} {σ : L2.St} {E : En} {Fs : Nat → List Addr} {te : TE} {m : MF} {ma : MR}
theorem Goal.from {F F1 : Addr → Prop} {out : Out} {D : Ends} (g : Goal K A Hi H F out D) (s : Step Hi H F Hi1 H1 F1) : Goal K A Hi1 H1 F1 out D := by
  cases out with
  | nx E' => exact fun σ' Hi' H' Fs' h s' => g σ' Hi' H' Fs' h (s.trans s')
  | rt t E' => exact fun v σ' Hi' H' Fs' G r h d s' => g v σ' Hi' H' Fs' G r h d (s.trans s')
  | bk E' => exact fun σ' Hi' H' Fs' h s' => g σ' Hi' H' Fs' h (s.trans s')
  | ct E' => exact fun σ' Hi' H' Fs' h s' => g σ' Hi' H' Fs' h (s.trans s')
def mNext : MS := fun E => some (.nx E)
theorem sr_next : SR K tNext mNext := fun E out q A σ Hi H Fs D h g => by
  cases q
  exact g σ Hi H Fs h (Step.refl _ _ _)
def mBreak : MS := fun E => some (.bk E)
theorem sr_break : SR K tBreak mBreak := fun E out q A σ Hi H Fs D h g => by
  cases q
  exact g σ Hi H Fs h (Step.refl _ _ _)
def mCont : MS := fun E => some (.ct E)
theorem sr_cont : SR K tCont mCont := fun E out q A σ Hi H Fs D h g => by
  cases q
  exact g σ Hi H Fs h (Step.refl _ _ _)
def mThen (m' : MS) : Out → Option Out
  | .nx E => m' E
  | .rt t E => some (.rt t E)
  | .bk E => some (.bk E)
  | .ct E => some (.ct E)
def mSeq (m m' : MS) : MS := fun E => (m E).bind (mThen m')
theorem sr_seq {t u : TS} {m m' : MS} (ht : SR K t m) (hu : SR K u m') : SR K (tSeq t u) (mSeq m m') := fun E out q A σ Hi H Fs D h g => by
  obtain ⟨o1, q1, q⟩ := Option.bind_eq_some_iff.mp q
  refine ht E o1 q1 A σ Hi H Fs { D with nx := u D } h ?_
  cases o1 with
  | nx E1 => exact fun σ' Hi' H' Fs' h' s => hu E1 out q A σ' Hi' H' Fs' D h' (g.from s)
  | rt t E1 => cases q; exact g
  | bk E1 => cases q; exact g
  | ct E1 => cases q; exact g
def mDrop (m : MF) : MS := fun E => (m E).bind fun p => some (.nx p.2)
theorem sr_drop (h : FR K te m) : SR K (tDrop te) (mDrop m) := fun E out q A σ Hi H Fs D hE g => by
  obtain ⟨⟨t, E1⟩, q1, q⟩ := Option.bind_eq_some_iff.mp q
  cases q
  exact h E t E1 q1 A σ Hi H Fs hE _ fun v Hi1 H1 Fs1 G r h1 d s => g σ Hi1 H1 Fs1 h1 (s.weak fun _ z => .inl z)
def mRet (m : MF) : MS := fun E => (m E).bind fun p => some (.rt p.1 p.2)
theorem sr_ret (h : FR K te m) : SR K (tRet te) (mRet m) := fun E out q A σ Hi H Fs D hE g => by
  obtain ⟨⟨t, E1⟩, q1, q⟩ := Option.bind_eq_some_iff.mp q
  cases q
  exact h E t E1 q1 A σ Hi H Fs hE _ fun v Hi1 H1 Fs1 G r h1 d s => g v σ Hi1 H1 Fs1 G r h1 d s
def mRetN : MS := fun E => some (.rt (.imm .none) E)
theorem sr_retN : SR K tRetN mRetN := fun E out q A σ Hi H Fs D h g => by
  cases q
  exact g .non σ Hi H Fs [] (.imm .non) h (fun a z => nomatch z) stepN
def mIfS (mt : MT) (m m' : MS) : MS := fun E => (mt E).bind fun p => if p.1 = true then m p.2 else m' p.2
theorem sr_if {c : TT} {t u : TS} {mt : MT} {m m' : MS} (hc : TR K c mt) (ht : SR K t m) (hu : SR K u m') : SR K (tIfS c t u) (mIfS mt m m') := fun E out q A σ Hi H Fs D h g => by
  obtain ⟨⟨b, E1⟩, q1, q⟩ := Option.bind_eq_some_iff.mp q
  refine hc E b E1 q1 A σ Hi H Fs h _ fun Hi1 H1 Fs1 h1 s => ?_
  cases b with
  | true => exact ht E1 out q A σ Hi1 H1 Fs1 D h1 (g.from s)
  | false => exact hu E1 out q A σ Hi1 H1 Fs1 D h1 (g.from s)
def mAsg (m : MF) (mg : Tr → En → Option En) : MS := fun E => (m E).bind fun p => (mg p.1 p.2).bind fun E' => some (.nx E')
theorem sr_asg {g : TG} {mg : Tr → En → Option En} {ws : List Nat} (h : FR K te m) (hg : GR K g mg ws) : SR K (tAsg te g) (mAsg m mg) := fun E out q A σ Hi H Fs D hE go => by
  obtain ⟨⟨t, E1⟩, q1, q⟩ := Option.bind_eq_some_iff.mp q
  obtain ⟨E2, q2, q⟩ := Option.bind_eq_some_iff.mp q
  cases q
  refine h E t E1 q1 A σ Hi H Fs hE _ fun v Hi1 H1 Fs1 G r h1 d s => ?_
  exact hg t E1 E2 q2 A σ Hi1 H1 Fs1 v G h1 r d _ fun σ' Hi2 H2 Fs2 _ h2 s2 => go σ' Hi2 H2 Fs2 h2 (s.trans s2)
/-- a name -/
def mName (i : Nat) : Tr → En → Option En := fun t E => match E[i]? with
  | some .no => some (E.set i (.val t))
  | some (.val _) => some (E.set i (.val t))
  | _ => none
theorem RepE.name {i : Nat} {t : Tr} {s : SL} {v : V} {G : List Addr} (h : RepE K A Hi H σ E Fs) (he : E[i]? = some s) (r : RepT K Hi H v t G) (d : ∀ a ∈ G, ¬ InE Fs a) :
    RepE K A Hi H (σ.set i (some v)) (E.set i (.val t)) (fset Fs i G) ∧ Step Hi H (fun a => InE Fs a ∨ a ∈ G) Hi H (InE (fset Fs i G)) := by
  have hlt : i < σ.length := by rw [← h.len]; exact lt_of_at he
  refine ⟨h.put (s' := .val t) he rfl (fun t z => by cases z) ⟨Same.refl _, fun _ _ e _ => e, fun _ z => .inl (.inr z), fun _ o e => .inl ⟨o, e⟩⟩ (fun a ha j _ z => d a ha ⟨j, z⟩) h.sub (by simp) (by rw [List.getElem?_set_self hlt]) (fun j hj => List.getElem?_set_ne (Ne.symm hj)) r, ?_⟩
  exact (Step.refl Hi H (fun a => InE Fs a ∨ a ∈ G)).weak fun x z => inE_fset z
theorem chg_set {i : Nat} {x : Option V} : Chg [i] σ (σ.set i x) := ⟨by simp, fun j h => List.getElem?_set_ne fun e => h (by simp [e])⟩
theorem Chg.refl {ws : List Nat} : Chg ws σ σ := ⟨rfl, fun _ _ => rfl⟩
theorem gr_name {i : Nat} : GR K (gName i) (mName i) [i] := fun t E E' q A σ Hi H Fs v G h r d Q k => by
  unfold mName at q
  split at q
  · rename_i e
    cases q
    obtain ⟨h', s⟩ := h.name e r d
    exact k _ Hi H _ chg_set h' s
  · rename_i e
    cases q
    obtain ⟨h', s⟩ := h.name e r d
    exact k _ Hi H _ chg_set h' s
  · cases q
/-- several names -/
def gsNil : List PyData → En → Option En := fun ds E => match ds with
  | [] => some E
  | _ => none
theorem grs_nil : GRs K gNil gsNil [] := fun ds E E' q A σ Hi H Fs vs h r Q k => by
  cases r with
  | nil =>
    cases q
    exact ⟨rfl, k σ Hi H Fs Chg.refl h (Step.refl _ _ _)⟩
  | cons => cases q
def gsCons (mg : Tr → En → Option En) (ms : List PyData → En → Option En) : List PyData → En → Option En := fun ds E => match ds with
  | [] => none
  | d :: r => (mg (.imm d) E).bind (ms r)
theorem grs_cons {t : TG} {u : TGs} {mg : Tr → En → Option En} {ms : List PyData → En → Option En} {ws ws' : List Nat} (ht : GR K t mg ws) (hu : GRs K u ms ws') : GRs K (gCons t u) (gsCons mg ms) (ws ++ ws') := fun ds E E' q A σ Hi H Fs vs h r Q k => by
  cases r with
  | nil => cases q
  | @cons v vs d ds r1 r2 =>
    obtain ⟨E1, q1, q⟩ := Option.bind_eq_some_iff.mp q
    refine ⟨v, vs, rfl, ?_⟩
    refine ht (.imm d) E E1 q1 A σ Hi H Fs v [] h (.imm r1) (fun a z => nomatch z) _ fun σ1 Hi1 H1 Fs1 c1 h1 s1 => ?_
    exact hu ds E1 E' q A σ1 Hi1 H1 Fs1 vs h1 (dpMonos s1.ex _ _ r2) _ fun σ2 Hi2 H2 Fs2 c2 h2 s2 => k σ2 Hi2 H2 Fs2 ⟨c2.1.trans c1.1, fun j hj => (c2.2 j fun z => hj (List.mem_append_right _ z)).trans (c1.2 j fun z => hj (List.mem_append_left _ z))⟩ h2 ((s1.more (F2 := InE Fs) fun x z => z.elim id fun y => nomatch y).trans s2)
def mTupG (n : Nat) (ms : List PyData → En → Option En) : Tr → En → Option En := fun t E => match t with
  | .imm (.tuple ds) => if ds.length = n then ms ds E else none
  | _ => none
theorem gr_tup {n : Nat} {t : TGs} {ms : List PyData → En → Option En} {ws : List Nat} (ht : GRs K t ms ws) : GR K (gTup K n t) (mTupG n ms) ws := fun t E E' q A σ Hi H Fs v G h r d Q k => by
  unfold mTupG at q
  split at q
  · rename_i ds
    split at q
    · rename_i hn
      obtain ⟨hd, rfl⟩ := r.imm_inv
      cases hd with
      | @tup a vs _ hs ha =>
        refine ⟨a, vs, rfl, seqT h.sub hs, by rw [dpAll_len ha, hn], ?_⟩
        exact ht ds E E' q A σ Hi H Fs vs h ha _ fun σ1 Hi1 H1 Fs1 c1 h1 s1 => k σ1 Hi1 H1 Fs1 c1 h1 (s1.more fun x z => .inl z)
    · cases q
  · cases q

/-! ### defs and their calls -/
abbrev MFn := List Tr → Option (Tr × List Tr)
structure RepAs (K : PySem.W.Frag) (Hi H : Hp) (vs : List V) (ts : List Tr) (Fs : Nat → List Addr) : Prop where
  len : vs.length = ts.length
  val : ∀ (i : Nat) t, ts[i]? = some t → ∃ v, vs[i]? = some v ∧ RepT K Hi H v t (Fs i)
  no : ∀ i, ts[i]? = none → Fs i = []
  dis : ∀ i j a, a ∈ Fs i → a ∈ Fs j → i = j
/-- what a def promises: from its arguments' trees its value and the arguments' trees behind it -/
def spM (K : PySem.W.Frag) (n : Nat) (m : MFn) : Sp := fun vs H Q _ => ∃ ts r ts' Hi Fs, m ts = some (r, ts') ∧ ts.length = n ∧ Same Hi H ∧ RepAs K Hi H vs ts Fs ∧
  ∀ v Hi' H' Fs' G, RepAs K Hi' H' vs ts' Fs' → Same Hi' H' → RepT K Hi' H' v r G → (∀ a ∈ G, ¬ InE Fs' a) → Step Hi H (InE Fs) Hi' H' (fun a => InE Fs' a ∨ a ∈ G) → Q v H'
def isOwn : Tr → Bool
  | .imm _ => false
  | _ => true
def ownSlot (E : En) : Rf → Option Nat
  | .own _ => none
  | .slot i => match at? E i with
    | some t => if isOwn t = true then some i else none
    | none => none
/-- the arguments' trees go back to their places -/
def gives (E0 : En) : En → List Rf → List Tr → Option En
  | E, [], [] => some E
  | E, .own _ :: os, _ :: ts => gives E0 E os ts
  | E, .slot i :: os, t :: ts => match E0[i]? with
    | some s => if (s.tree.map isOwn) = some true then gives E0 (E.set i (s.with t)) os ts else gives E0 E os ts
    | none => none
  | _, _, _ => none
def mCall (n : Nat) (m : MFn) (ma : MA) : MF := fun E => (ma E).bind fun p => (views p.2 p.1).bind fun ts => if ts.length = n ∧ (p.1.filterMap (ownSlot p.2)).Nodup then (m ts).bind fun r => (gives p.2 p.2 p.1 r.2).bind fun E' => some (r.1, E') else none
theorem own_nil {v : V} {t : Tr} {F : List Addr} (h : RepT K Hi H v t F) (o : isOwn t = false) : F = [] := by
  cases h with
  | imm _ => rfl
  | lst _ _ _ _ => cases o
  | dic _ _ _ => cases o
theorem still {v : V} {t : Tr} {F : List Addr} (h : RepT K Hi H v t F) (o : isOwn t = false) (e : Same Hi Hi') : RepT K Hi' H' v t [] := by
  cases t with
  | imm d => exact .imm (dpMono e _ _ h.imm_inv.1)
  | lst _ => cases o
  | dic _ => cases o
theorem tree_with {s : SL} {t t' : Tr} (h : s.tree = some t) : (s.with t').tree = some t' := by
  cases s with
  | no => cases h
  | val _ => rfl
  | par _ => rfl
theorem ownSlot_eq {E : En} {o : Rf} {i : Nat} (h : ownSlot E o = some i) : o = .slot i ∧ ∃ t, at? E i = some t ∧ isOwn t = true := by
  cases o with
  | own t => cases h
  | slot k =>
    unfold ownSlot at h
    dsimp only at h
    cases q : at? E k with
    | none => rw [q] at h; cases h
    | some t =>
      rw [q] at h
      dsimp only at h
      split at h
      · rename_i ho
        cases h
        exact ⟨rfl, t, q, ho⟩
      · cases h
theorem args_ok : ∀ {os : List Rf} {vs : List V} {G : List Addr} {ts : List Tr}, RepE K A Hi H σ E Fs → RepRs K Hi H σ vs os G → views E os = some ts → (os.filterMap (ownSlot E)).Nodup → (∀ a ∈ G, ¬ InE Fs a) →
    ∃ FA : Nat → List Addr, RepAs K Hi H vs ts FA ∧ ∀ j a, a ∈ FA j → (∃ i, i ∈ os.filterMap (ownSlot E) ∧ a ∈ Fs i) ∨ a ∈ G
  | [], _, _, _, h, r, q, _, _ => by
    cases r
    cases q
    exact ⟨fun _ => [], ⟨rfl, fun i t z => by simp at z, fun _ _ => rfl, fun _ _ _ z => nomatch z⟩, fun _ _ z => nomatch z⟩
  | o :: os, _, _, _, h, r, q, nd, d => by
    cases r with
    | @cons v vs _ _ F G r rs df =>
      rw [views, Option.bind_eq_some_iff] at q
      obtain ⟨t, q1, q2⟩ := q
      rw [Option.map_eq_some_iff] at q2
      obtain ⟨ts, q2, rfl⟩ := q2
      have nd2 : (os.filterMap (ownSlot E)).Nodup := by
        rw [List.filterMap_cons] at nd
        split at nd
        · exact nd
        · exact (List.nodup_cons.mp nd).2
      obtain ⟨FA, ra, fa⟩ := args_ok h rs q2 nd2 fun a ha => d a (List.mem_append_right _ ha)
      -- the first one's own things
      have hd : ∃ F0, RepT K Hi H v t F0 ∧ (∀ a ∈ F0, (∃ i, ownSlot E o = some i ∧ a ∈ Fs i) ∨ a ∈ F) := by
        cases r with
        | @slot i _ e =>
          obtain ⟨u, e1, rt⟩ := h.val i t q1
          rw [e] at e1
          cases e1
          cases ho : isOwn t with
          | true =>
            refine ⟨Fs i, rt, fun a ha => .inl ⟨i, ?_, ha⟩⟩
            unfold ownSlot
            dsimp only
            have q1' : at? E i = some t := q1
            rw [q1']
            dsimp only
            rw [if_pos ho]
          | false => exact ⟨Fs i, rt, fun a ha => by rw [own_nil rt ho] at ha; cases ha⟩
        | own rt =>
          cases q1
          exact ⟨F, rt, fun a ha => .inr ha⟩
      obtain ⟨F0, rt, f0⟩ := hd
      have dj : ∀ j a, a ∈ F0 → a ∈ FA j → False := fun j a h0 hj => by
        rcases f0 a h0 with ⟨i, ei, hi⟩ | hF
        · rcases fa j a hj with ⟨k, hk, hk2⟩ | hG
          · have e := h.dis i k a hi hk2
            subst e
            rw [List.filterMap_cons, ei] at nd
            exact (List.nodup_cons.mp nd).1 hk
          · exact d a (List.mem_append_right _ hG) ⟨i, hi⟩
        · rcases fa j a hj with ⟨k, hk, hk2⟩ | hG
          · exact d a (List.mem_append_left _ hF) ⟨k, hk2⟩
          · exact df a hF hG
      refine ⟨fun j => match j with | 0 => F0 | j + 1 => FA j, ⟨by simp [ra.len], fun i t' z => ?_, fun i z => ?_, fun i j a hi hj => ?_⟩, fun j a hj => ?_⟩
      · cases i with
        | zero => simp at z; subst z; exact ⟨v, rfl, rt⟩
        | succ i => exact ra.val i t' (by simpa using z)
      · cases i with
        | zero => simp at z
        | succ i => exact ra.no i (by simpa using z)
      · cases i with
        | zero =>
          cases j with
          | zero => rfl
          | succ j => exact (dj j a hi hj).elim
        | succ i =>
          cases j with
          | zero => exact (dj i a hj hi).elim
          | succ j => rw [ra.dis i j a hi hj]
      · cases j with
        | zero =>
          rcases f0 a hj with ⟨i, ei, hi⟩ | hF
          · exact .inl ⟨i, List.mem_filterMap.mpr ⟨o, List.mem_cons_self, ei⟩, hi⟩
          · exact .inr (List.mem_append_left _ hF)
        | succ j =>
          rcases fa j a hj with ⟨i, hi, hi2⟩ | hG
          · refine .inl ⟨i, ?_, hi2⟩
            obtain ⟨o', ho, e⟩ := List.mem_filterMap.mp hi
            exact List.mem_filterMap.mpr ⟨o', List.mem_cons_of_mem _ ho, e⟩
          · exact .inr (List.mem_append_right _ hG)
/-- the places but those of S, whose things are out -/
structure RepP (K : PySem.W.Frag) (A : List V) (Hi H : Hp) (σ : L2.St) (E : En) (Fs : Nat → List Addr) (S : List Nat) : Prop where
  sub : Same Hi H
  len : E.length = σ.length
  val : ∀ (i : Nat) t, i ∉ S → at? E i = some t → ∃ v, σ[i]? = some (some v) ∧ RepT K Hi H v t (Fs i)
  par : ∀ (i : Nat) t, E[i]? = some (.par t) → ∃ v, σ[i]? = some (some v) ∧ A[i]? = some v
  no : ∀ i, at? E i = none → Fs i = []
  out : ∀ i, i ∈ S → Fs i = []
  dis : ∀ i j a, a ∈ Fs i → a ∈ Fs j → i = j
theorem gives_ok {E0 : En} : ∀ {os : List Rf} {vs : List V} {ts : List Tr} {FA : Nat → List Addr} {E E' : En} {Fs : Nat → List Addr}, RepP K A Hi H σ E Fs (os.filterMap (ownSlot E0)) → RepAs K Hi H vs ts FA → (∀ j a, a ∈ FA j → ¬ InE Fs a) →
    (∀ (j : Nat) i, os[j]? = some (.slot i) → ∃ v, σ[i]? = some (some v) ∧ vs[j]? = some v) → (os.filterMap (ownSlot E0)).Nodup → (∀ i, i ∈ os.filterMap (ownSlot E0) → E[i]? = E0[i]?) → gives E0 E os ts = some E' →
    ∃ Fs', RepE K A Hi H σ E' Fs' ∧ ∀ a, InE Fs' a → InE Fs a ∨ InE FA a
  | [], _, [], FA, E, E', Fs, h, ra, _, _, _, _, q => by
    cases q
    exact ⟨Fs, ⟨h.sub, h.len, fun i t => h.val i t (fun z => nomatch z), h.par, h.no, h.dis⟩, fun a => .inl⟩
  | [], _, _ :: _, _, _, _, _, _, _, _, _, _, _, q => by cases q
  | .own _ :: _, _, [], _, _, _, _, _, _, _, _, _, _, q => by cases q
  | .slot _ :: _, _, [], _, _, _, _, _, _, _, _, _, _, q => by cases q
  | o :: os, [], t :: ts, _, _, _, _, _, ra, _, _, _, _, _ => by
    have := ra.len
    cases this
  | .own t0 :: os, v :: vs, t :: ts, FA, E, E', Fs, h, ra, df, hv, nd, he, q => by
    have e0 : (Rf.own t0 :: os).filterMap (ownSlot E0) = os.filterMap (ownSlot E0) := rfl
    rw [e0] at h nd he
    have ra' : RepAs K Hi H vs ts (fun j => FA (j + 1)) := ⟨by have := ra.len; simpa using this, fun i t z => by simpa using ra.val (i + 1) t (by simpa using z), fun i z => ra.no (i + 1) (by simpa using z), fun i j a hi hj => by have := ra.dis _ _ a hi hj; omega⟩
    obtain ⟨Fs', h', hF⟩ := gives_ok h ra' (fun j a hj => df (j + 1) a hj) (fun j i z => by simpa using hv (j + 1) i (by simpa using z)) nd he q
    exact ⟨Fs', h', fun a ha => (hF a ha).imp id fun ⟨j, hj⟩ => ⟨j + 1, hj⟩⟩
  | .slot i :: os, v :: vs, t :: ts, FA, E, E', Fs, h, ra, df, hv, nd, he, q => by
    have ra' : RepAs K Hi H vs ts (fun j => FA (j + 1)) := ⟨by have := ra.len; simpa using this, fun i t z => by simpa using ra.val (i + 1) t (by simpa using z), fun i z => ra.no (i + 1) (by simpa using z), fun i j a hi hj => by have := ra.dis _ _ a hi hj; omega⟩
    have hv' : ∀ (j : Nat) k, os[j]? = some (.slot k) → ∃ v, σ[k]? = some (some v) ∧ vs[j]? = some v := fun j k z => by simpa using hv (j + 1) k (by simpa using z)
    rw [gives] at q
    cases q0 : E0[i]? with
    | none => rw [q0] at q; cases q
    | some s =>
      rw [q0] at q
      dsimp only at q
      by_cases ho : s.tree.map isOwn = some true
      · rw [if_pos ho] at q
        obtain ⟨t0, ht0, ho0⟩ := Option.map_eq_some_iff.mp ho
        have es : ownSlot E0 (.slot i) = some i := by
          unfold ownSlot at?
          dsimp only
          rw [q0]
          show (match s.tree with | some t => if isOwn t = true then some i else none | none => none) = some i
          rw [ht0]
          show (if isOwn t0 = true then some i else none) = some i
          rw [if_pos ho0]
        rw [List.filterMap_cons, es] at h nd he
        dsimp only at h nd he
        obtain ⟨ni, nd'⟩ := List.nodup_cons.mp nd
        have ei : E[i]? = some s := (he i List.mem_cons_self).trans q0
        have hlt := lt_of_at ei
        obtain ⟨v', ev', evv⟩ := hv 0 i rfl
        have evv' : v = v' := by simpa using evv
        subst evv'
        obtain ⟨v2, ev2, rt⟩ := ra.val 0 t rfl
        have ev2' : v = v2 := by simpa using ev2
        subst ev2'
        have tw := tree_with (t' := t) ht0
        have hnew : RepP K A Hi H σ (E.set i (s.with t)) (fset Fs i (FA 0)) (os.filterMap (ownSlot E0)) := by
          refine ⟨h.sub, by rw [List.length_set]; exact h.len, fun j t' nj z => ?_, fun j t' z => ?_, fun j z => ?_, fun j hj => ?_, fun j k a hj hk => ?_⟩
          · rw [at_set] at z
            by_cases e : i = j
            · subst e
              rw [if_pos ⟨rfl, hlt⟩, tw] at z
              cases z
              exact ⟨v, ev', by rw [fset_same]; exact rt⟩
            · rw [if_neg (fun y => e y.1)] at z
              obtain ⟨u, e1, r1⟩ := h.val j t' (fun y => (List.mem_cons.mp y).elim (fun x => e x.symm) nj) z
              exact ⟨u, e1, by rw [fset_ne (Ne.symm e)]; exact r1⟩
          · rw [List.getElem?_set] at z
            by_cases e : i = j
            · subst e
              rw [if_pos rfl, if_pos hlt] at z
              cases s with
              | no => cases ht0
              | val _ => cases z
              | par t1 => exact h.par i t1 ei
            · rw [if_neg e] at z
              exact h.par j t' z
          · rw [at_set] at z
            by_cases e : i = j
            · subst e
              rw [if_pos ⟨rfl, hlt⟩, tw] at z
              cases z
            · rw [if_neg (fun y => e y.1)] at z
              rw [fset_ne (Ne.symm e)]
              exact h.no j z
          · by_cases e : j = i
            · subst e
              exact absurd hj ni
            · rw [fset_ne e]
              exact h.out j (List.mem_cons_of_mem _ hj)
          · by_cases e1 : j = i
            · subst e1
              rw [fset_same] at hj
              by_cases e2 : k = j
              · exact e2.symm
              · rw [fset_ne e2] at hk
                exact absurd ⟨k, hk⟩ (df 0 a hj)
            · rw [fset_ne e1] at hj
              by_cases e2 : k = i
              · subst e2
                rw [fset_same] at hk
                exact absurd ⟨j, hj⟩ (df 0 a hk)
              · rw [fset_ne e2] at hk
                exact h.dis j k a hj hk
        obtain ⟨Fs', h', hF⟩ := gives_ok hnew ra' (fun j a hj hin => by
          rcases inE_fset hin with z | z
          · exact df (j + 1) a hj z
          · have := ra.dis _ _ a hj z
            omega) hv' nd' (fun k hk => by
          have hne : i ≠ k := fun e => ni (e ▸ hk)
          rw [List.getElem?_set_ne hne]
          exact he k (List.mem_cons_of_mem _ hk)) q
        refine ⟨Fs', h', fun a ha => ?_⟩
        rcases hF a ha with z | ⟨j, hj⟩
        · rcases inE_fset z with z | z
          · exact .inl z
          · exact .inr ⟨0, z⟩
        · exact .inr ⟨j + 1, hj⟩
      · rw [if_neg ho] at q
        have es : ownSlot E0 (.slot i) = none := by
          cases z : ownSlot E0 (.slot i) with
          | none => rfl
          | some k =>
            obtain ⟨e1, t1, e2, e3⟩ := ownSlot_eq z
            cases e1
            refine absurd ?_ ho
            unfold at? at e2
            rw [q0] at e2
            have e2' : s.tree = some t1 := e2
            rw [e2']
            show some (isOwn t1) = some true
            rw [e3]
        rw [List.filterMap_cons, es] at h nd he
        dsimp only at h nd he
        obtain ⟨Fs', h', hF⟩ := gives_ok h ra' (fun j a hj => df (j + 1) a hj) hv' nd he q
        exact ⟨Fs', h', fun a ha => (hF a ha).imp id fun ⟨j, hj⟩ => ⟨j + 1, hj⟩⟩
theorem repRs_slot : ∀ {vs : List V} {os : List Rf} {G : List Addr}, RepRs K Hi H σ vs os G → ∀ (j : Nat) i, os[j]? = some (.slot i) → ∃ v, σ[i]? = some (some v) ∧ vs[j]? = some v
  | _, _, _, .nil, j, i, z => by simp at z
  | _, _, _, .cons (o := o) r rs _, 0, i, z => by
    have e : o = Rf.slot i := by simpa using z
    subst e
    cases r with
    | slot e => exact ⟨_, e, rfl⟩
  | _, _, _, .cons r rs _, j + 1, i, z => by
    obtain ⟨v, a, b⟩ := repRs_slot rs j i (by simpa using z)
    exact ⟨v, a, by simpa using b⟩
theorem fr_call {n : Nat} {mf : MFn} {tr : TA} {ms : MA} {E0 : XK} (hs : AR K tr ms) : FR K (tCall (spM K n mf) [] E0 tr) (mCall n mf ms) := fun E w E' q A σ Hi H Fs h Q k => by
  unfold mCall at q
  obtain ⟨⟨os, E1⟩, q1, q⟩ := Option.bind_eq_some_iff.mp q
  obtain ⟨ts, q2, q⟩ := Option.bind_eq_some_iff.mp q
  dsimp only at q q2
  split at q
  · rename_i hc
    obtain ⟨hn, nd⟩ := hc
    obtain ⟨⟨r, ts'⟩, q3, q⟩ := Option.bind_eq_some_iff.mp q
    obtain ⟨E2, q4, q⟩ := Option.bind_eq_some_iff.mp q
    cases q
    refine hs E os E1 q1 A σ Hi H Fs h _ fun vs Hi1 H1 Fs1 G r1 h1 d1 s1 => ?_
    obtain ⟨FA, ra, fa⟩ := args_ok h1 r1 q2 nd d1
    have hsl := repRs_slot r1
    show spM K n mf (vs ++ []) H1 Q E0
    rw [List.append_nil]
    refine ⟨ts, _, ts', Hi1, FA, q3, hn, h1.sub, ra, fun v Hi2 H2 FA' W ra' sub rw dw s2 => ?_⟩
    -- the other places stand
    have apart : ∀ i a, a ∈ Fs1 i → i ∉ os.filterMap (ownSlot E1) → ¬ InE FA a := fun i a ha ni ⟨j, hj⟩ => by
      rcases fa j a hj with ⟨k, hk, hk2⟩ | hG
      · have e := h1.dis i k a ha hk2
        subst e
        exact ni hk
      · exact d1 a hG ⟨i, ha⟩
    have hP : RepP K A Hi2 H2 σ E1 (fun i => if i ∈ os.filterMap (ownSlot E1) then [] else Fs1 i) (os.filterMap (ownSlot E1)) := by
      refine ⟨sub, h1.len, fun i t ni z => ?_, h1.par, fun i z => ?_, fun i hi => if_pos hi, fun i j a hi hj => ?_⟩
      · obtain ⟨u, e1, rt⟩ := h1.val i t z
        refine ⟨u, e1, ?_⟩
        rw [if_neg ni]
        exact s2.keep rt fun x hx => apart i x hx ni
      · rw [h1.no i z]
        split <;> rfl
      · split at hi
        · cases hi
        · split at hj
          · cases hj
          · exact h1.dis i j a hi hj
    have out : ∀ a, InE (fun i => if i ∈ os.filterMap (ownSlot E1) then [] else Fs1 i) a → InE Fs1 a ∧ ¬ InE FA a := fun a ⟨i, hi⟩ => by
      dsimp only at hi
      split at hi
      · cases hi
      · rename_i ni
        exact ⟨⟨i, hi⟩, apart i a hi ni⟩
    have away : ∀ a, InE Fs1 a → ¬ InE FA a → ¬ (InE FA' a ∨ a ∈ W) := fun a ha na hf => by
      obtain ⟨_, o, e⟩ := h1.own ha
      rcases s2.nw a hf with z | z
      · exact na z
      · rw [e] at z; cases z
    obtain ⟨Fs2, h2, hF⟩ := gives_ok hP ra' (fun j a hj hin => by
      obtain ⟨x1, x2⟩ := out a hin
      exact away a x1 x2 (.inl ⟨j, hj⟩)) hsl nd (fun _ _ => rfl) q4
    refine k v Hi2 H2 Fs2 W rw h2 (fun a ha hin => ?_) ?_
    · rcases hF a hin with z | z
      · obtain ⟨x1, x2⟩ := out a z
        exact away a x1 x2 (.inr ha)
      · exact dw a ha z
    · have s2' : Step Hi1 H1 (fun a => InE Fs1 a ∨ a ∈ G) Hi2 H2 (fun a => InE Fs2 a ∨ a ∈ W) := by
        refine ⟨s2.ex, fun a o e f => s2.fr a o e fun ⟨j, hj⟩ => ?_, fun a z => ?_, fun a o e => ?_⟩
        · rcases fa j a hj with ⟨i, _, hi⟩ | hG
          · exact f (.inl ⟨i, hi⟩)
          · exact f (.inr hG)
        · rcases z with z | z
          · rcases hF a z with z | z
            · exact .inl (.inl (out a z).1)
            · rcases s2.nw a (.inl z) with ⟨j, hj⟩ | z
              · rcases fa j a hj with ⟨i, _, hi⟩ | hG
                · exact .inl (.inl ⟨i, hi⟩)
                · exact .inl (.inr hG)
              · exact .inr z
          · rcases s2.nw a (.inr z) with ⟨j, hj⟩ | z
            · rcases fa j a hj with ⟨i, _, hi⟩ | hG
              · exact .inl (.inl ⟨i, hi⟩)
              · exact .inl (.inr hG)
            · exact .inr z
        · rcases s2.nh a o e with z | ⟨j, hj⟩ | z
          · exact .inl z
          · rcases fa j a hj with ⟨i, _, hi⟩ | hG
            · exact .inr (.inl (.inl ⟨i, hi⟩))
            · exact .inr (.inl (.inr hG))
          · exact .inr (.inr z)
      exact s1.trans s2'
  · cases q

/-! ### a def by its body -/
def startE (n : Nat) (ts : List Tr) : En := ts.map (fun t => if isOwn t = true then SL.par t else SL.val t) ++ List.replicate (n - ts.length) .no
def backs : List Tr → En → Option (List Tr)
  | [], _ => some []
  | t :: ts, s :: E => if isOwn t = true then (match s with | .par t' => (backs ts E).map (t' :: ·) | _ => none) else (backs ts E).map (t :: ·)
  | _ :: _, [] => none
def mFn (n : Nat) (mb : MS) : MFn := fun ts => (mb (startE n ts)).bind fun o => match o with
  | .rt r E' => (backs ts E').map fun ts' => (r, ts')
  | .nx E' => (backs ts E').map fun ts' => (.imm .none, ts')
  | _ => none
theorem startE_at {n : Nat} {ts : List Tr} {i : Nat} : at? (startE n ts) i = ts[i]? := by
  unfold at? startE
  rw [List.getElem?_append]
  by_cases h : i < ts.length
  · rw [if_pos (by simpa using h), List.getElem?_map]
    cases q : ts[i]? with
    | none => rfl
    | some t =>
      show SL.tree (if isOwn t = true then SL.par t else SL.val t) = some t
      split <;> rfl
  · rw [if_neg (by simpa using h), List.getElem?_eq_none_iff.mpr (show ts.length ≤ i by omega)]
    rw [List.getElem?_replicate]
    split <;> rfl
theorem backs_get : ∀ {ts : List Tr} {E : En} {ts' : List Tr}, backs ts E = some ts' → ts'.length = ts.length ∧ ∀ (i : Nat) t', ts'[i]? = some t' → ∃ t, ts[i]? = some t ∧ ((isOwn t = true ∧ E[i]? = some (.par t')) ∨ (isOwn t = false ∧ t' = t))
  | [], _, _, q => by
    cases q
    exact ⟨rfl, fun i t' z => by simp at z⟩
  | _ :: _, [], _, q => by cases q
  | t :: ts, s :: E, ts', q => by
    unfold backs at q
    split at q
    · rename_i ho
      split at q
      · rename_i t1
        obtain ⟨r, q1, rfl⟩ := Option.map_eq_some_iff.mp q
        obtain ⟨l, g⟩ := backs_get q1
        refine ⟨by simp [l], fun i t' z => ?_⟩
        cases i with
        | zero => simp at z; subst z; exact ⟨t, rfl, .inl ⟨ho, rfl⟩⟩
        | succ i => simpa using g i t' (by simpa using z)
      · cases q
    · rename_i ho
      obtain ⟨r, q1, rfl⟩ := Option.map_eq_some_iff.mp q
      obtain ⟨l, g⟩ := backs_get q1
      refine ⟨by simp [l], fun i t' z => ?_⟩
      cases i with
      | zero => simp at z; subst z; exact ⟨t, rfl, .inr ⟨by simpa using ho, rfl⟩⟩
      | succ i => simpa using g i t' (by simpa using z)
theorem start_ok {N : List Str} {vs : List V} {ts : List Tr} (ra : RepAs K Hi H vs ts Fs) (sub : Same Hi H) (hl : vs.length ≤ N.length) : RepE K vs Hi H (L2.start N vs) (startE N.length ts) Fs := by
  have hvs : ∀ (i : Nat) v, vs[i]? = some v → (L2.start N vs)[i]? = some (some v) := fun i v z => by
    unfold L2.start
    have hi := (List.getElem?_eq_some_iff.mp z).1
    rw [List.getElem?_append, if_pos (by simpa using hi), List.getElem?_map, z]
    rfl
  refine ⟨sub, ?_, fun i t q => ?_, fun i t q => ?_, fun i q => ?_, ra.dis⟩
  · unfold startE L2.start
    simp [ra.len]
  · rw [startE_at] at q
    obtain ⟨v, e, r⟩ := ra.val i t q
    exact ⟨v, hvs i v e, r⟩
  · have q' : at? (startE N.length ts) i = some t := at_par q
    rw [startE_at] at q'
    obtain ⟨v, e, r⟩ := ra.val i t q'
    exact ⟨v, hvs i v e, e⟩
  · rw [startE_at] at q
    exact ra.no i q
theorem back_ok {vs : List V} {ts ts' : List Tr} {E' : En} {Fs' : Nat → List Addr} {σ' : L2.St} (ra : RepAs K Hi H vs ts Fs) (ex : Same Hi Hi') (h : RepE K vs Hi' H' σ' E' Fs') (q : backs ts E' = some ts') :
    RepAs K Hi' H' vs ts' (fun i => if (ts[i]?.map isOwn) = some true then Fs' i else []) := by
  obtain ⟨l, g⟩ := backs_get q
  refine ⟨by rw [l, ra.len], fun i t' z => ?_, fun i z => ?_, fun i j a hi hj => ?_⟩
  · obtain ⟨t, e, c⟩ := g i t' z
    obtain ⟨v, ev, rt⟩ := ra.val i t e
    rcases c with ⟨ho, ep⟩ | ⟨ho, rfl⟩
    · obtain ⟨u, e1, r1⟩ := h.val i t' (at_par ep)
      obtain ⟨u', e2, e3⟩ := h.par i t' ep
      rw [e1] at e2
      cases e2
      refine ⟨u, e3, ?_⟩
      rw [e]
      dsimp only [Option.map]
      rw [if_pos (by rw [ho])]
      exact r1
    · refine ⟨v, ev, ?_⟩
      rw [e]
      dsimp only [Option.map]
      rw [if_neg (by rw [ho]; decide)]
      exact still rt ho ex
  · have : ts[i]? = none := by
      rw [List.getElem?_eq_none_iff] at z ⊢
      omega
    rw [this]
    exact if_neg (by intro z; cases z)
  · split at hi
    · split at hj
      · exact h.dis i j a hi hj
      · cases hj
    · cases hi
/-- THE RULE for a def: its body's reading gives what it promises -/
theorem fn_run {N : List Str} {n : Nat} {t : TS} {m : MS} {vs : List V} {Q : VK} {E1 : XK} (hb : SR K t m) (hn : n ≤ N.length) (h : spM K n (mFn N.length m) vs H Q E1) : t { nx := fun _ H' => Q .non H', rt := Q } (L2.start N vs) H := by
  obtain ⟨ts, r, ts', Hi, Fs, q, hl, sub, ra, k⟩ := h
  unfold mFn at q
  obtain ⟨o, q1, q⟩ := Option.bind_eq_some_iff.mp q
  refine hb _ o q1 vs _ Hi H Fs _ (start_ok ra sub (by rw [ra.len, hl]; exact hn)) ?_
  have fin : ∀ (v : V) (σ' : L2.St) (Hi' H' : Hp) (Fs' : Nat → List Addr) (G : List Addr) (E' : En) (tr : Tr), RepT K Hi' H' v tr G → RepE K vs Hi' H' σ' E' Fs' → (∀ a ∈ G, ¬ InE Fs' a) → Step Hi H (InE Fs) Hi' H' (fun a => InE Fs' a ∨ a ∈ G) →
      backs ts E' = some ts' → r = tr → Q v H' := fun v σ' Hi' H' Fs' G E' tr rt h' d s e er => by
    subst er
    have sb : ∀ a, InE (fun i => if (ts[i]?.map isOwn) = some true then Fs' i else []) a → InE Fs' a := fun a ⟨i, hi⟩ => by
      dsimp only at hi
      split at hi
      · exact ⟨i, hi⟩
      · cases hi
    exact k v Hi' H' _ G (back_ok ra s.ex h' e) h'.sub rt (fun a ha hf => d a ha (sb a hf)) (s.weak fun x z => z.imp (sb x) id)
  cases o with
  | rt tr E' =>
    obtain ⟨ts2, q2, e⟩ := Option.map_eq_some_iff.mp q
    cases e
    exact fun v σ' Hi' H' Fs' G rt h' d s => fin v σ' Hi' H' Fs' G E' _ rt h' d s q2 rfl
  | nx E' =>
    obtain ⟨ts2, q2, e⟩ := Option.map_eq_some_iff.mp q
    cases e
    exact fun σ' Hi' H' Fs' h' s => fin .non σ' Hi' H' Fs' [] E' (.imm .none) (.imm .non) h' (fun a z => nomatch z) (s.weak fun x z => z.elim id fun y => nomatch y) q2 rfl
  | bk E' => cases q
  | ct E' => cases q
end
end FL

/-! FL, part E: loops, comprehensions. -/
namespace FL
open PySem L2

structure ItOk (K : PySem.W.Frag) (J : It) (Hi1 : Hp) (ds : List PyData) : Prop where
  stop : ∀ Hi H, Same Hi1 Hi → Same Hi H → ∀ i, ds.length ≤ i → J.stop i H
  go : ∀ Hi H, Same Hi1 Hi → Same Hi H → ∀ i, i < ds.length → J.go i H
  yld : ∀ Hi H, Same Hi1 Hi → Same Hi H → ∀ (i : Nat) d x H', ds[i]? = some d → J.yld i H x H' → ∃ Hi', Grow Hi H Hi' H' [] ∧ Dp K Hi' x d
def IR (K : PySem.W.Frag) (wi : TI) (m : MI) : Prop := ∀ E ds E', m E = some (ds, E') → ∀ A σ Hi H Fs, RepE K A Hi H σ E Fs → ∀ R : It → Hp → Prop,
  (∀ J Hi' H' Fs', ItOk K J Hi' ds → RepE K A Hi' H' σ E' Fs' → Step Hi H (InE Fs) Hi' H' (InE Fs') → R J H') → wi σ H R
section
variable {K : PySem.W.Frag} {A : List V} {Hi H Hi1 H1 Hi' H' : Hp} {σ : L2.St} {E : En} {Fs : Nat → List Addr} {te : TE} {m : MF} {ma : MR}
/-! ### for -/
def afterTurn (go : En → Option Out) : Out → Option Out
  | .nx E => go E
  | .ct E => go E
  | .bk E => some (.nx E)
  | .rt t E => some (.rt t E)
def forD (mg : Tr → En → Option En) (mb : MS) : List PyData → MS
  | [], E => some (.nx E)
  | d :: ds, E => (mg (.imm d) E).bind fun E1 => (mb E1).bind (afterTurn (forD mg mb ds))
def mFor (mi : MI) (mg : Tr → En → Option En) (mb : MS) : MS := fun E => (mi E).bind fun p => forD mg mb p.1 p.2
theorem sr_for {wi : TI} {g : TG} {tb : TS} {mi : MI} {mg : Tr → En → Option En} {mb : MS} {ws : List Nat} (hi : IR K wi mi) (hg : GR K g mg ws) (hb : SR K tb mb) : SR K (tFor wi g tb) (mFor mi mg mb) := fun E out q A σ Hi H Fs D h go => by
  obtain ⟨⟨ds, E1⟩, q1, q⟩ := Option.bind_eq_some_iff.mp q
  refine hi E ds E1 q1 A σ Hi H Fs h _ fun J Hi1 H1 Fs1 it h1 s1 => ?_
  refine ⟨fun i m σ' H' => i + m = ds.length ∧ ∃ E' Hi' Fs', RepE K A Hi' H' σ' E' Fs' ∧ Same Hi1 Hi' ∧ Step Hi H (InE Fs) Hi' H' (InE Fs') ∧ forD mg mb (ds.drop i) E' = some out,
    ⟨ds.length, by simp, E1, Hi1, Fs1, h1, Same.refl _, s1, q⟩, fun i m σ' H' hw => ?_⟩
  obtain ⟨hm, E', Hi', Fs', h', ex, s', qf⟩ := hw
  cases e : ds.drop i with
  | nil =>
    rw [e] at qf
    cases qf
    have hl : ds.length ≤ i := List.drop_eq_nil_iff.mp e
    exact .inl ⟨it.stop Hi' H' ex h'.sub i hl, go σ' Hi' H' Fs' h' s'⟩
  | cons d r =>
    have hlt : i < ds.length := by
      refine Nat.lt_of_not_le fun z => ?_
      rw [List.drop_eq_nil_iff.mpr z] at e
      cases e
    have hd : ds[i]? = some d := by
      have := List.getElem?_drop (xs := ds) (i := i) (j := 0)
      rw [e] at this
      simpa using this.symm
    have hr : ds.drop (i + 1) = r := by
      rw [← List.drop_drop, e]
      rfl
    rw [e] at qf
    obtain ⟨E2, q2, qf⟩ := Option.bind_eq_some_iff.mp qf
    obtain ⟨o, q3, qf⟩ := Option.bind_eq_some_iff.mp qf
    refine .inr ⟨it.go Hi' H' ex h'.sub i hlt, fun σ2 H2 => i + 1 + (m - 1) = ds.length ∧ ∃ E' Hi' Fs', RepE K A Hi' H2 σ2 E' Fs' ∧ Same Hi1 Hi' ∧ Step Hi H (InE Fs) Hi' H2 (InE Fs') ∧ forD mg mb (ds.drop (i + 1)) E' = some out,
      fun σ2 H2 hN => ⟨m - 1, by omega, hN⟩, fun x H2 hy => ?_⟩
    obtain ⟨Hi2, gr, hx⟩ := it.yld Hi' H' ex h'.sub i d x H2 hd hy
    refine hg (.imm d) E' E2 q2 A σ' Hi2 H2 Fs' x [] (h'.grow gr) (.imm hx) (fun a z => nomatch z) _ fun σ3 Hi3 H3 Fs3 _ h3 s3 => ?_
    have s03 : Step Hi H (InE Fs) Hi3 H3 (InE Fs3) := s'.trans ((gr.step _).trans s3)
    have ex3 : Same Hi1 Hi3 := ex.trans (gr.ex.trans s3.ex)
    refine hb E2 o q3 A σ3 Hi3 H3 Fs3 _ h3 ?_
    have again : ∀ E4, forD mg mb r E4 = some out → ∀ σ4 Hi4 H4 Fs4, RepE K A Hi4 H4 σ4 E4 Fs4 → Step Hi3 H3 (InE Fs3) Hi4 H4 (InE Fs4) → i + 1 + (m - 1) = ds.length ∧ ∃ E' Hi' Fs', RepE K A Hi' H4 σ4 E' Fs' ∧ Same Hi1 Hi' ∧ Step Hi H (InE Fs) Hi' H4 (InE Fs') ∧ forD mg mb (ds.drop (i + 1)) E' = some out :=
      fun E4 q4 σ4 Hi4 H4 Fs4 h4 s4 => ⟨by omega, E4, Hi4, Fs4, h4, ex3.trans s4.ex, s03.trans s4, by rw [hr]; exact q4⟩
    cases o with
    | nx E4 => exact again E4 qf
    | ct E4 => exact again E4 qf
    | bk E4 => cases qf; exact Goal.from (out := .nx E4) go s03
    | rt t E4 => cases qf; exact Goal.from (out := .rt t E4) go s03
/-! ### while -/
def whileF (mc : MT) (mb : MS) : Nat → MS
  | 0, _ => none
  | n + 1, E => (mc E).bind fun p => if p.1 = true then (mb p.2).bind (afterTurn (whileF mc mb n)) else some (.nx p.2)
theorem whileF_succ {mc : MT} {mb : MS} : ∀ {n : Nat} {E : En} {o : Out}, whileF mc mb n E = some o → whileF mc mb (n + 1) E = some o
  | 0, _, _, q => by cases q
  | n + 1, E, o, q => by
    obtain ⟨p, q1, q⟩ := Option.bind_eq_some_iff.mp q
    show (mc E).bind _ = some o
    rw [q1]
    show (if p.1 = true then (mb p.2).bind (afterTurn (whileF mc mb (n + 1))) else some (.nx p.2)) = some o
    split at q
    · rename_i hp
      rw [if_pos hp]
      obtain ⟨o1, q2, q⟩ := Option.bind_eq_some_iff.mp q
      rw [q2]
      cases o1 with
      | nx E1 => exact whileF_succ q
      | ct E1 => exact whileF_succ q
      | bk E1 => exact q
      | rt t E1 => exact q
    · rename_i hp
      rw [if_neg hp]
      exact q
theorem whileF_more {mc : MT} {mb : MS} {n : Nat} {E : En} {o : Out} (q : whileF mc mb n E = some o) : ∀ k, whileF mc mb (n + k) E = some o
  | 0 => q
  | k + 1 => whileF_succ (whileF_more q k)
open Classical in
noncomputable def mWhile (mc : MT) (mb : MS) : MS := fun E => if h : ∃ n o, whileF mc mb n E = some o then whileF mc mb (Classical.choose h) E else none
theorem mWhile_of {mc : MT} {mb : MS} {n : Nat} {E : En} {o : Out} (q : whileF mc mb n E = some o) : mWhile mc mb E = some o := by
  have h : ∃ n o, whileF mc mb n E = some o := ⟨n, o, q⟩
  unfold mWhile
  rw [dif_pos h]
  obtain ⟨o', q'⟩ := Classical.choose_spec h
  have a := whileF_more q (Classical.choose h)
  have b := whileF_more q' n
  rw [Nat.add_comm] at b
  rw [a] at b
  rw [q', b]
theorem mWhile_fuel {mc : MT} {mb : MS} {E : En} {o : Out} (q : mWhile mc mb E = some o) : ∃ n, whileF mc mb n E = some o := by
  unfold mWhile at q
  split at q
  · exact ⟨_, q⟩
  · cases q
theorem sr_while {c : TT} {tb : TS} {mc : MT} {mb : MS} (hc : TR K c mc) (hb : SR K tb mb) : SR K (tWhile c tb) (mWhile mc mb) := fun E out q A σ Hi H Fs D h go => by
  obtain ⟨n, q⟩ := mWhile_fuel q
  refine ⟨fun m σ' H' => ∃ E' Hi' Fs', RepE K A Hi' H' σ' E' Fs' ∧ Step Hi H (InE Fs) Hi' H' (InE Fs') ∧ whileF mc mb m E' = some out, ⟨n, E, Hi, Fs, h, Step.refl _ _ _, q⟩, fun m σ' H' hw => ?_⟩
  obtain ⟨E', Hi', Fs', h', s', qf⟩ := hw
  cases m with
  | zero => cases qf
  | succ m =>
    obtain ⟨⟨b, E1⟩, q1, qf⟩ := Option.bind_eq_some_iff.mp qf
    refine hc E' b E1 q1 A σ' Hi' H' Fs' h' _ fun Hi1 H1 Fs1 h1 s1 => ?_
    have s01 := s'.trans s1
    cases b with
    | false =>
      cases qf
      exact go σ' Hi1 H1 Fs1 h1 s01
    | true =>
      obtain ⟨o, q2, qf⟩ := Option.bind_eq_some_iff.mp (show (mb E1).bind (afterTurn (whileF mc mb m)) = some out from qf)
      refine ⟨fun σ2 H2 => ∃ E' Hi' Fs', RepE K A Hi' H2 σ2 E' Fs' ∧ Step Hi H (InE Fs) Hi' H2 (InE Fs') ∧ whileF mc mb m E' = some out, fun σ2 H2 hN => ⟨m, Nat.lt_succ_self _, hN⟩, ?_⟩
      refine hb E1 o q2 A σ' Hi1 H1 Fs1 _ h1 ?_
      cases o with
      | nx E4 => exact fun σ4 Hi4 H4 Fs4 h4 s4 => ⟨E4, Hi4, Fs4, h4, s01.trans s4, qf⟩
      | ct E4 => exact fun σ4 Hi4 H4 Fs4 h4 s4 => ⟨E4, Hi4, Fs4, h4, s01.trans s4, qf⟩
      | bk E4 => cases qf; exact Goal.from (out := .nx E4) go s01
      | rt t E4 => cases qf; exact Goal.from (out := .rt t E4) go s01

/-! ### comprehensions -/
def wipeE (E : En) : List Nat → Option En
  | [] => some E
  | v :: vs => (wipeE E vs).bind fun E' => match E'[v]? with
    | some (.par _) => none
    | _ => some (E'.set v .no)
/-- the comprehension's own names are as they were -/
def backE (E0 E : En) : List Nat → En
  | [] => E
  | v :: vs => match E0[v]? with
    | some (.val (.imm d)) => (backE E0 E vs).set v (.val (.imm d))
    | _ => backE E0 E vs
def lcD (mg : Tr → En → Option En) (mt : MT) (mf : MF) (vs : List Nat) : List PyData → List Tr → En → Option (List Tr × En)
  | [], acc, E => some (acc, E)
  | d :: ds, acc, E => (mg (.imm d) E).bind fun E1 => (mt E1).bind fun p => if p.1 = true then (mf p.2).bind fun r => if acc.length < 16777216 then (wipeE r.2 vs).bind fun E4 => lcD mg mt mf vs ds (acc ++ [r.1]) E4 else none
    else (wipeE p.2 vs).bind fun E4 => lcD mg mt mf vs ds acc E4
def mLc (mi : MI) (mg : Tr → En → Option En) (mt : MT) (mf : MF) (vs : List Nat) : MF := fun E => (mi E).bind fun p => (wipeE p.2 vs).bind fun E1 => (lcD mg mt mf vs p.1 [] E1).bind fun r => some (.lst r.1, backE p.2 r.2 vs)
theorem wipeE_ok : ∀ {vs : List Nat} {E E' : En}, RepE K A Hi H σ E Fs → wipeE E vs = some E' → ∃ Fs', RepE K A Hi H (wipe σ vs) E' Fs' ∧ (∀ a, InE Fs' a → InE Fs a) ∧ ∀ i ∈ vs, at? E' i = none
  | [], E, E', h, q => by
    cases q
    exact ⟨Fs, h, fun _ z => z, fun _ z => nomatch z⟩
  | v :: vs, E, E', h, q => by
    obtain ⟨E1, q1, q⟩ := Option.bind_eq_some_iff.mp q
    obtain ⟨Fs1, h1, f1, n1⟩ := wipeE_ok h q1
    have q' : E' = E1.set v .no ∧ ∀ t, E1[v]? ≠ some (.par t) := by
      split at q
      · cases q
      · rename_i e
        cases q
        exact ⟨rfl, fun t z => e t z⟩
    obtain ⟨rfl, np⟩ := q'
    have hat : ∀ j, at? (E1.set v .no) j = if v = j then none else at? E1 j := fun j => by
      rw [at_set]
      by_cases e : v = j
      · subst e
        by_cases hl : v < E1.length
        · rw [if_pos ⟨rfl, hl⟩, if_pos rfl]
          rfl
        · rw [if_neg (fun z => hl z.2), if_pos rfl]
          unfold at?
          rw [List.getElem?_eq_none_iff.mpr (by omega)]
          rfl
      · rw [if_neg (fun z => e z.1), if_neg e]
    refine ⟨fset Fs1 v [], ⟨h1.sub, by show (E1.set v .no).length = ((wipe σ vs).set v none).length; rw [List.length_set, List.length_set, h1.len], fun i t z => ?_, fun i t z => ?_, fun i z => ?_, fun i j a hi hj => ?_⟩, fun a ha => ?_, fun i hi => ?_⟩
    · rw [hat] at z
      by_cases e : v = i
      · rw [if_pos e] at z; cases z
      · rw [if_neg e] at z
        obtain ⟨u, e1, r⟩ := h1.val i t z
        refine ⟨u, ?_, by rw [fset_ne (Ne.symm e)]; exact r⟩
        show ((wipe σ vs).set v none)[i]? = _
        rw [List.getElem?_set_ne e]
        exact e1
    · rw [List.getElem?_set] at z
      by_cases e : v = i
      · rw [if_pos e] at z
        split at z <;> cases z
      · rw [if_neg e] at z
        obtain ⟨u, e1, r⟩ := h1.par i t z
        refine ⟨u, ?_, r⟩
        show ((wipe σ vs).set v none)[i]? = _
        rw [List.getElem?_set_ne e]
        exact e1
    · rw [hat] at z
      by_cases e : v = i
      · subst e; exact fset_same
      · rw [if_neg e] at z
        rw [fset_ne (Ne.symm e)]
        exact h1.no i z
    · by_cases e1 : i = v
      · subst e1; rw [fset_same] at hi; cases hi
      · by_cases e2 : j = v
        · subst e2; rw [fset_same] at hj; cases hj
        · rw [fset_ne e1] at hi
          rw [fset_ne e2] at hj
          exact h1.dis i j a hi hj
    · rcases inE_fset ha with z | z
      · exact f1 a z
      · cases z
    · rw [hat]
      rcases List.mem_cons.mp hi with e | hi
      · rw [if_pos e.symm]
      · split
        · rfl
        · exact n1 i hi
theorem backE_ok : ∀ {vs : List Nat} {E0 E : En} {Fs0 : Nat → List Addr}, RepE K A Hi H σ E0 Fs0 → Same Hi Hi' → RepE K A Hi' H' (wipe σ vs) E Fs → (∀ i ∈ vs, at? E i = none) → RepE K A Hi' H' σ (backE E0 E vs) Fs
  | vs, E0, E, Fs0, h0, ex, h, hn => by
    -- E at σ itself: the places of vs are empty
    have hl : σ.length = (wipe σ vs).length := (wipe_length σ vs).symm
    have base : RepE K A Hi' H' σ E Fs := by
      refine ⟨h.sub, by rw [h.len, hl], fun i t z => ?_, fun i t z => ?_, h.no, h.dis⟩
      · obtain ⟨u, e, r⟩ := h.val i t z
        exact ⟨u, (wipe_some e).1, r⟩
      · obtain ⟨u, e, r⟩ := h.par i t z
        exact ⟨u, (wipe_some e).1, r⟩
    have step : ∀ (ws : List Nat), (∀ i ∈ ws, i ∈ vs) → RepE K A Hi' H' σ (backE E0 E ws) Fs := by
      intro ws
      induction ws with
      | nil => intro _; exact base
      | cons v ws ih =>
        intro hv
        have ih := ih fun i hi => hv i (List.mem_cons_of_mem _ hi)
        unfold backE
        split
        · rename_i d e
          obtain ⟨u, e1, r⟩ := h0.val v _ (at_val e)
          have hd := dpMono ex _ _ r.imm_inv.1
          have hlt : v < (backE E0 E ws).length := by rw [ih.len, ← h0.len]; exact lt_of_at e
          have hF : Fs v = [] := h.no v (hn v (hv v List.mem_cons_self))
          refine ⟨ih.sub, by rw [List.length_set]; exact ih.len, fun i t z => ?_, fun i t z => ?_, fun i z => ?_, ih.dis⟩
          · rw [at_set] at z
            by_cases ei : v = i
            · subst ei
              rw [if_pos ⟨rfl, hlt⟩] at z
              cases z
              exact ⟨u, e1, by rw [hF]; exact .imm hd⟩
            · rw [if_neg (fun y => ei y.1)] at z
              exact ih.val i t z
          · rw [List.getElem?_set] at z
            by_cases ei : v = i
            · rw [if_pos ei] at z
              split at z <;> cases z
            · rw [if_neg ei] at z
              exact ih.par i t z
          · rw [at_set] at z
            by_cases ei : v = i
            · subst ei; exact hF
            · rw [if_neg (fun y => ei y.1)] at z
              exact ih.no i z
        · exact ih
    exact step vs fun _ z => z
theorem wipe_chg {ws vs : List Nat} {σ0 σ2 : L2.St} (c : Chg ws (wipe σ0 vs) σ2) (hs : ∀ i ∈ ws, i ∈ vs) : wipe σ2 vs = wipe σ0 vs := by
  refine List.ext_getElem? fun i => ?_
  have hmem : ∀ (τ : L2.St), i ∈ vs → (wipe τ vs)[i]? = if i < τ.length then some none else none := fun τ hi => by
    by_cases hl : i < τ.length
    · rw [if_pos hl]
      have hl2 : i < (wipe τ vs).length := by rw [wipe_length]; exact hl
      cases q : (wipe τ vs)[i]? with
      | none => rw [List.getElem?_eq_none_iff] at q; omega
      | some o =>
        cases o with
        | none => rfl
        | some x => exact absurd hi (wipe_some q).2
    · rw [if_neg hl, List.getElem?_eq_none_iff, wipe_length]
      omega
  by_cases hi : i ∈ vs
  · rw [hmem _ hi, hmem _ hi, c.1, wipe_length]
  · rw [wipe_out hi, c.2 i fun z => hi (hs i z)]
theorem RepTs.snoc {vs : List V} {ts : List Tr} {F G : List Addr} {v : V} {t : Tr} : RepTs K Hi H vs ts F → RepT K Hi H v t G → (∀ a ∈ F, a ∉ G) → ∃ F', RepTs K Hi H (vs ++ [v]) (ts ++ [t]) F' ∧ ∀ a, a ∈ F' ↔ a ∈ F ∨ a ∈ G
  | .nil, r, _ => ⟨G ++ [], .cons r .nil (fun a _ z => nomatch z), fun a => by simp⟩
  | .cons (F := F1) (G := G1) r1 rs d1, r, d => by
    obtain ⟨F', r', hF⟩ := RepTs.snoc rs r fun a ha => d a (List.mem_append_right _ ha)
    refine ⟨F1 ++ F', .cons r1 r' fun a ha hb => ?_, fun a => by simp [hF, or_assoc]⟩
    rcases (hF a).mp hb with z | z
    · exact d1 a ha z
    · exact d a (List.mem_append_left _ ha) z
theorem fr_lc {wi : TI} {g : TG} {tt : TT} {mi : MI} {mg : Tr → En → Option En} {mt : MT} {mf : MF} {ws vs : List Nat} (hi : IR K wi mi) (hg : GR K g mg ws) (ht : TR K tt mt) (he : FR K te mf) (hws : ∀ i ∈ ws, i ∈ vs) : FR K (tLc wi g tt te vs) (mLc mi mg mt mf vs) := fun E w E' q A σ Hi H Fs h Q k => by
  unfold mLc at q
  obtain ⟨⟨ds, E1⟩, q1, q⟩ := Option.bind_eq_some_iff.mp q
  obtain ⟨E2, q2, q⟩ := Option.bind_eq_some_iff.mp q
  obtain ⟨⟨ts, E3⟩, q3, q⟩ := Option.bind_eq_some_iff.mp q
  cases q
  refine hi E ds E1 q1 A σ Hi H Fs h _ fun J Hi1 H1 Fs1 it h1 s1 => ?_
  intro Dl hD
  obtain ⟨Fs2, h2, f2, n2⟩ := wipeE_ok h1 q2
  have g0 : Grow Hi1 H1 Hi1 (upd H1 Dl (.lst [])) [Dl] := Grow.own h1.sub hD
  -- what holds at a turn
  refine ⟨fun i m H' => i + m = ds.length ∧ ∃ E' Hi' Fs' G vsa acc, RepE K A Hi' H' (wipe σ vs) E' Fs' ∧ (∀ i ∈ vs, at? E' i = none) ∧ Same Hi1 Hi' ∧ H' Dl = some (.lst vsa) ∧ Hi' Dl = none ∧ ¬ InE Fs' Dl ∧ Dl ∉ G ∧ RepTs K Hi' H' vsa acc G ∧ (∀ a ∈ G, ¬ InE Fs' a) ∧
      Step Hi H (InE Fs) Hi' H' (fun a => InE Fs' a ∨ a ∈ Dl :: G) ∧ lcD mg mt mf vs (ds.drop i) acc E' = some (ts, E3),
    ⟨ds.length, by simp, E2, Hi1, Fs2, [], [], [], h2.grow g0, n2, Same.refl _, upd_same, free_of h1.sub hD, fun z => ?_, (fun z => nomatch z), .nil, (fun a z => nomatch z), ?_, q3⟩, fun i m H' hw => ?_⟩
  · obtain ⟨_, o, e⟩ := h2.own z
    rw [hD] at e; cases e
  · refine s1.trans ((g0.step _).weak fun a z => ?_)
    rcases z with z | z
    · exact .inl (f2 a z)
    · exact .inr z
  obtain ⟨hm, E', Hi', Fs', G, vsa, acc, h', n', ex, hDl, hDi, dF, dG, ra, rd, s', ql⟩ := hw
  cases e : ds.drop i with
  | nil =>
    rw [e] at ql
    cases ql
    have hl : ds.length ≤ i := List.drop_eq_nil_iff.mp e
    refine .inl ⟨it.stop Hi' H' ex h'.sub i hl, ?_⟩
    refine k (.ref Dl) Hi' H' Fs' (Dl :: G) (.lst hDl hDi ra dG) (backE_ok h1 ex h' n') (fun a ha => ?_) s'
    rcases List.mem_cons.mp ha with rfl | ha
    · exact dF
    · exact rd a ha
  | cons d r =>
    have hlt : i < ds.length := by
      refine Nat.lt_of_not_le fun z => ?_
      rw [List.drop_eq_nil_iff.mpr z] at e
      cases e
    have hd : ds[i]? = some d := by
      have := List.getElem?_drop (xs := ds) (i := i) (j := 0)
      rw [e] at this
      simpa using this.symm
    have hr : ds.drop (i + 1) = r := by
      rw [← List.drop_drop, e]
      rfl
    rw [e] at ql
    obtain ⟨E4, q4, ql⟩ := Option.bind_eq_some_iff.mp ql
    obtain ⟨⟨b, E5⟩, q5, ql⟩ := Option.bind_eq_some_iff.mp ql
    refine .inr ⟨it.go Hi' H' ex h'.sub i hlt, fun H' => i + 1 + (m - 1) = ds.length ∧ ∃ E' Hi' Fs' G vsa acc, RepE K A Hi' H' (wipe σ vs) E' Fs' ∧ (∀ i ∈ vs, at? E' i = none) ∧ Same Hi1 Hi' ∧ H' Dl = some (.lst vsa) ∧ Hi' Dl = none ∧ ¬ InE Fs' Dl ∧ Dl ∉ G ∧ RepTs K Hi' H' vsa acc G ∧ (∀ a ∈ G, ¬ InE Fs' a) ∧
      Step Hi H (InE Fs) Hi' H' (fun a => InE Fs' a ∨ a ∈ Dl :: G) ∧ lcD mg mt mf vs (ds.drop (i + 1)) acc E' = some (ts, E3), fun H' hN => ⟨m - 1, by omega, hN⟩, fun x H2 hy => ?_⟩
    obtain ⟨Hi2, gr, hx⟩ := it.yld Hi' H' ex h'.sub i d x H2 hd hy
    have sg : Step Hi' H' (fun _ => False) Hi2 H2 (fun a => False ∨ a ∈ ([] : List Addr)) := gr.step _
    -- what is held besides: the new list and its items
    have out0 : ∀ a ∈ Dl :: G, ¬ InE Fs' a := fun a ha => (List.mem_cons.mp ha).elim (fun z => by rw [z]; exact dF) (rd a)
    have there : ∀ a ∈ Dl :: G, ∃ o, H' a = some o := fun a ha => (List.mem_cons.mp ha).elim (fun z => by rw [z]; exact ⟨_, hDl⟩) fun z => (ra.ownG a z).2
    have held : RepT K Hi' H' (.ref Dl) (.lst acc) (Dl :: G) := .lst hDl hDi ra dG
    have held2 := sg.keep held fun _ _ z => z
    refine hg (.imm d) E' E4 q4 A (wipe σ vs) Hi2 H2 Fs' x [] (h'.grow gr) (.imm hx) (fun a z => nomatch z) _ fun σ3 Hi3 H3 Fs3 c3 h3 s3 => ?_
    have s3 : Step Hi2 H2 (InE Fs') Hi3 H3 (InE Fs3) := s3.more fun x z => z.elim id fun y => nomatch y
    have out3 := s3.apart (fun a ha => (held2.ownG a ha).2) out0
    have held3 := s3.keep held2 out0
    refine ⟨wipe_chg c3 hws, ?_⟩
    refine ht E4 b E5 q5 A σ3 Hi3 H3 Fs3 h3 _ fun Hi5 H5 Fs5 h5 s5 => ?_
    have out5 := s5.apart (fun a ha => (held3.ownG a ha).2) out3
    have held5 := s5.keep held3 out3
    have s05 : Step Hi H (InE Fs) Hi5 H5 (fun a => InE Fs5 a ∨ a ∈ Dl :: G) := by
      have st : Step Hi' H' (InE Fs') Hi5 H5 (InE Fs5) := ((gr.step (InE Fs')).weak fun x z => .inl z).trans (s3.trans s5)
      refine ⟨s'.ex.trans st.ex, fun a o ea fa => st.fr a o (s'.fr a o ea fa) fun z => ?_, fun a z => ?_, fun a o ea => ?_⟩
      · rcases s'.nw a (.inl z) with y | y
        · exact fa y
        · rw [ea] at y; cases y
      · rcases z with z | z
        · rcases st.nw a z with y | y
          · exact s'.nw a (.inl y)
          · cases qa : H a with
            | none => exact .inr rfl
            | some o =>
              by_cases fa : InE Fs a
              · exact .inl fa
              · rw [s'.fr a o qa fa] at y; cases y
        · exact s'.nw a (.inr z)
      · rcases st.nh a o ea with ⟨o', y⟩ | y | y
        · exact s'.nh a o' y
        · exact .inr (s'.nw a (.inl y))
        · cases qa : H a with
          | none => exact .inr (.inr rfl)
          | some o' =>
            by_cases fa : InE Fs a
            · exact .inr (.inl fa)
            · rw [s'.fr a o' qa fa] at y; cases y
    have ex5 : Same Hi1 Hi5 := ex.trans (gr.ex.trans (s3.ex.trans s5.ex))
    have hw5 : wipe σ3 vs = wipe σ vs := wipe_chg c3 hws
    cases b with
    | false =>
      obtain ⟨E6, q6, ql⟩ := Option.bind_eq_some_iff.mp (show (wipeE E5 vs).bind _ = _ from ql)
      obtain ⟨Fs6, h6, f6, n6⟩ := wipeE_ok h5 q6
      rw [hw5] at h6
      cases held5 with
      | lst a1 a2 a3 a4 =>
        exact ⟨by omega, E6, Hi5, Fs6, G, _, acc, h6, n6, ex5, a1, a2, fun z => out5 Dl List.mem_cons_self (f6 _ z), a4, a3, fun a ha z => out5 a (List.mem_cons_of_mem _ ha) (f6 _ z), s05.weak fun a z => z.imp (f6 a) id, by rw [hr]; exact ql⟩
    | true =>
      obtain ⟨⟨t, E6⟩, q6, ql⟩ := Option.bind_eq_some_iff.mp (show (mf E5).bind _ = _ from ql)
      dsimp only at ql
      split at ql
      · rename_i hz
        obtain ⟨E7, q7, ql⟩ := Option.bind_eq_some_iff.mp ql
        refine he E5 t E6 q6 A σ3 Hi5 H5 Fs5 h5 _ fun y Hi6 H6 Fs6 W ry h6 dW s6 => ?_
        have out6 := s6.apart (fun a ha => (held5.ownG a ha).2) out5
        have held6 := s6.keep held5 out5
        obtain ⟨Fs7, h7, f7, n7⟩ := wipeE_ok h6 q7
        rw [hw5] at h7
        cases held6 with
        | @lst _ vsb _ _ a1 a2 a3 a4 =>
          have nDW : Dl ∉ W := fun z => out6 Dl List.mem_cons_self (.inr z)
          refine ⟨vsb, a1, by rw [sizeLine_eq, a3.length]; exact hz, by omega, ?_⟩
          obtain ⟨G', rG, hG⟩ := a3.snoc ry fun a ha hb => out6 a (List.mem_cons_of_mem _ ha) (.inr hb)
          -- the list grows by one
          have su : Step Hi6 H6 (fun a => a = Dl) Hi6 (upd H6 Dl (.lst (vsb ++ [y]))) (fun a => a = Dl) :=
            ⟨Same.refl _, fun a o ea na => by rw [upd_ne na]; exact ea, fun a z => .inl z, fun a o ea => .inl ⟨o, ea⟩⟩
          have sub7 : Same Hi6 (upd H6 Dl (.lst (vsb ++ [y]))) := fun a o ea => by
            have : a ≠ Dl := fun z => by rw [z, a2] at ea; cases ea
            rw [upd_ne this]
            exact h6.sub a o ea
          have nD7 : ¬ InE Fs7 Dl := fun z => out6 Dl List.mem_cons_self (.inl (f7 _ z))
          have nDG : Dl ∉ G' := fun z => ((hG Dl).mp z).elim a4 nDW
          have h7' := h7.keep su sub7 fun a ha z => nD7 (z ▸ ha)
          have rG' := su.keeps rG fun a ha z => nDG (z ▸ ha)
          refine ⟨E7, Hi6, Fs7, G', _, acc ++ [t], h7', n7, ex5.trans s6.ex, upd_same, a2, nD7, nDG, rG', fun a ha z => ?_, ?_, by rw [hr]; exact ql⟩
          · rcases (hG a).mp ha with y | y
            · exact out6 a (List.mem_cons_of_mem _ y) (.inl (f7 _ z))
            · exact dW a y (f7 _ z)
          · refine ⟨s05.ex.trans s6.ex, fun a o ea fa => ?_, fun a z => ?_, fun a o ea => ?_⟩
            · have h5a := s05.fr a o ea fa
              have n5 : ¬ (InE Fs5 a ∨ a ∈ Dl :: G) := fun z => by
                rcases s05.nw a z with y | y
                · exact fa y
                · rw [ea] at y; cases y
              have h6a := s6.fr a o h5a fun z => n5 (.inl z)
              rw [upd_ne fun z => n5 (.inr (by rw [z]; exact List.mem_cons_self))]
              exact h6a
            · have back : ∀ b, InE Fs5 b ∨ H5 b = none → InE Fs b ∨ H b = none := fun b z => by
                rcases z with z | z
                · exact s05.nw b (.inl z)
                · cases qb : H b with
                  | none => exact .inr rfl
                  | some o =>
                    by_cases fb : InE Fs b
                    · exact .inl fb
                    · rw [s05.fr b o qb fb] at z; cases z
              rcases z with z | z
              · exact back a (s6.nw a (.inl (f7 a z)))
              · rcases List.mem_cons.mp z with rfl | z
                · exact s05.nw a (.inr List.mem_cons_self)
                · rcases (hG a).mp z with y | y
                  · exact s05.nw a (.inr (List.mem_cons_of_mem _ y))
                  · exact back a (s6.nw a (.inr y))
            · rcases s6.nh a o ea with ⟨o', y⟩ | y | y
              · exact s05.nh a o' y
              · exact .inr (s05.nw a (.inl y))
              · cases qa : H a with
                | none => exact .inr (.inr rfl)
                | some o' =>
                  by_cases fa : InE Fs a
                  · exact .inr (.inl fa)
                  · rw [s05.fr a o' qa fa] at y; cases y
      · cases ql
end
end FL

/-! FL, part F: stores into lists and dicts, methods that change their list. -/
namespace FL
open PySem L2
section
variable {K : PySem.W.Frag} {A : List V} {Hi H Hi1 H1 Hi' H' : Hp} {σ : L2.St} {E : En} {Fs : Nat → List Addr} {te : TE} {m : MF} {ma : MR}
theorem RepTs.get : ∀ {vs : List V} {ts : List Tr} {F : List Addr} {j : Nat} {t : Tr}, RepTs K Hi H vs ts F → ts[j]? = some t → ∃ v G, vs[j]? = some v ∧ RepT K Hi H v t G ∧ ∀ a ∈ G, a ∈ F
  | _, _, _, j, _, .nil, e => by simp at e
  | _, _, _, 0, _, .cons r _ _, e => by
    simp at e
    subst e
    exact ⟨_, _, rfl, r, fun a ha => List.mem_append_left _ ha⟩
  | _, _, _, j + 1, _, .cons _ rs _, e => by
    obtain ⟨v, G, a, b, c⟩ := RepTs.get rs (by simpa using e)
    exact ⟨v, G, by simpa using a, b, fun x hx => List.mem_append_right _ (c x hx)⟩
/-- an item is another one now -/
theorem RepTs.set {v : V} {t : Tr} {G : List Addr} : ∀ {vs : List V} {ts : List Tr} {F : List Addr} (j : Nat), RepTs K Hi H vs ts F → RepT K Hi H v t G → (∀ a ∈ G, a ∉ F) → ∃ F', RepTs K Hi H (vs.set j v) (ts.set j t) F' ∧ ∀ a ∈ F', a ∈ F ∨ a ∈ G
  | _, _, _, _, .nil, _, _ => ⟨[], .nil, fun _ z => nomatch z⟩
  | _, _, _, 0, .cons r rs d, rt, dg => ⟨_, .cons rt rs fun a ha hb => dg a ha (List.mem_append_right _ hb), fun a ha => (List.mem_append.mp ha).elim .inr fun z => .inl (List.mem_append_right _ z)⟩
  | _, _, _, j + 1, .cons r rs d, rt, dg => by
    obtain ⟨F', r', hF⟩ := RepTs.set j rs rt fun a ha hb => dg a ha (List.mem_append_right _ hb)
    refine ⟨_, .cons r r' fun a ha hb => ?_, fun a ha => ?_⟩
    · rcases hF a hb with z | z
      · exact d a ha z
      · exact dg a z (List.mem_append_left _ ha)
    · rcases List.mem_append.mp ha with z | z
      · exact .inl (List.mem_append_left _ z)
      · exact (hF a z).imp (List.mem_append_right _) id
/-- a list of one's own is written -/
theorem lst_upd {a : Addr} {vs' : List V} {ts ts' : List Tr} {F F' : List Addr} (h : RepT K Hi H (.ref a) (.lst ts) (a :: F)) (n : a ∉ F') (r : RepTs K Hi H vs' ts' F') (sub : Same Hi H) :
    RepT K Hi (upd H a (.lst vs')) (.ref a) (.lst ts') (a :: F') ∧ Same Hi (upd H a (.lst vs')) := by
  obtain ⟨n0, _⟩ := h.ownG a List.mem_cons_self
  have s : Same Hi (upd H a (.lst vs')) := fun b o e => by
    have : b ≠ a := fun z => by rw [z, n0] at e; cases e
    rw [upd_ne this]
    exact sub b o e
  refine ⟨.lst upd_same n0 (r.frame (Same.refl _) _ _ _ (fun b hb => upd_ne fun z => n (z ▸ hb)) fun b hb => (r.ownG b hb).1) n, s⟩

/-- o.m(..) of a place that changes its own tree alone: what it gives, the tree behind it -/
def MutT (K : PySem.W.Frag) (r : V → List V → Hp → VK → Prop) (f : Tr → List Tr → Option (Tr × Tr)) : Prop := ∀ t us w t', f t us = some (w, t') → ∀ Hi H x xs F G, Same Hi H → RepT K Hi H x t F → RepTs K Hi H xs us G → (∀ a ∈ F, a ∉ G) → ∀ Q : VK,
  (∀ v H' F' W, RepT K Hi H' x t' F' → RepT K Hi H' v w W → (∀ a ∈ F', a ∉ W) → (∀ a, a ∈ F' ∨ a ∈ W → a ∈ F ∨ a ∈ G) → (∀ a o, H a = some o → a ∉ F → a ∉ G → H' a = some o) → Same Hi H' → Q v H') → r x xs H Q
theorem mut_done {i : Nat} {s : SL} {t t' w : Tr} {x v : V} {F' W G : List Addr} (h : RepE K A Hi H σ E Fs) (he : E[i]? = some s) (ht : s.tree = some t) (hx : σ[i]? = some (some x)) (dG : ∀ a ∈ G, ¬ InE Fs a) (gG : ∀ a ∈ G, ∃ o, H a = some o)
    (r : RepT K Hi H' x t' F') (rw_ : RepT K Hi H' v w W) (d : ∀ a ∈ F', a ∉ W) (sb : ∀ a, a ∈ F' ∨ a ∈ W → a ∈ Fs i ∨ a ∈ G) (fr : ∀ a o, H a = some o → a ∉ Fs i → a ∉ G → H' a = some o) (sub : Same Hi H') :
    RepE K A Hi H' σ (E.set i (s.with t')) (fset Fs i F') ∧ (∀ a ∈ W, ¬ InE (fset Fs i F') a) ∧ Step Hi H (fun a => InE Fs a ∨ a ∈ G) Hi H' (fun a => InE (fset Fs i F') a ∨ a ∈ W) := by
  have st : Step Hi H (fun a => (a ∈ Fs i ∨ a ∈ F') ∨ a ∈ G) Hi H' (fun a => a ∈ F') :=
    ⟨Same.refl _, fun a o e z => fr a o e (fun y => z (.inl (.inl y))) (fun y => z (.inr y)), fun a z => .inl (.inl (.inr z)), fun a o e => .inl ⟨o, e⟩⟩
  have away : ∀ a, a ∈ Fs i ∨ a ∈ G → ∀ j, j ≠ i → a ∉ Fs j := fun a ha j hj z => ha.elim (fun y => hj (h.dis j i a z y)) fun y => dG a y ⟨j, z⟩
  refine ⟨?_, fun a ha hin => ?_, ?_⟩
  · -- all the other places
    have hlt := lt_of_at he
    have tw := tree_with (t' := t') ht
    refine ⟨sub, by rw [List.length_set]; exact h.len, fun j t2 z => ?_, fun j t2 z => ?_, fun j z => ?_, fun j k a hj hk => ?_⟩
    · rw [at_set] at z
      by_cases e : i = j
      · subst e
        rw [if_pos ⟨rfl, hlt⟩, tw] at z
        cases z
        exact ⟨x, hx, by rw [fset_same]; exact r⟩
      · rw [if_neg (fun y => e y.1)] at z
        obtain ⟨u, e1, r1⟩ := h.val j t2 z
        refine ⟨u, e1, ?_⟩
        rw [fset_ne (Ne.symm e)]
        refine st.keep r1 fun b hb y => ?_
        rcases y with (y | y) | y
        · exact e (h.dis i j b y hb)
        · exact away b (sb b (.inl y)) j (Ne.symm e) hb
        · exact dG b y ⟨j, hb⟩
    · rw [List.getElem?_set] at z
      by_cases e : i = j
      · subst e
        rw [if_pos rfl, if_pos hlt] at z
        cases s with
        | no => cases ht
        | val _ => cases z
        | par t1 => exact h.par i t1 he
      · rw [if_neg e] at z
        exact h.par j t2 z
    · rw [at_set] at z
      by_cases e : i = j
      · subst e
        rw [if_pos ⟨rfl, hlt⟩, tw] at z
        cases z
      · rw [if_neg (fun y => e y.1)] at z
        rw [fset_ne (Ne.symm e)]
        exact h.no j z
    · by_cases e1 : j = i
      · subst e1
        rw [fset_same] at hj
        by_cases e2 : k = j
        · exact e2.symm
        · rw [fset_ne e2] at hk
          exact absurd hk (away a (sb a (.inl hj)) k e2)
      · rw [fset_ne e1] at hj
        by_cases e2 : k = i
        · subst e2
          rw [fset_same] at hk
          exact absurd hj (away a (sb a (.inl hk)) j e1)
        · rw [fset_ne e2] at hk
          exact h.dis j k a hj hk
  · obtain ⟨j, hj⟩ := hin
    by_cases e : j = i
    · subst e
      rw [fset_same] at hj
      exact d a hj ha
    · rw [fset_ne e] at hj
      exact away a (sb a (.inr ha)) j e hj
  · refine ⟨Same.refl _, fun a o e z => fr a o e (fun y => z (.inl ⟨i, y⟩)) (fun y => z (.inr y)), fun a z => ?_, fun a o e => .inl ⟨o, e⟩⟩
    have : a ∈ F' ∨ a ∈ W → InE Fs a ∨ a ∈ G := fun y => (sb a y).imp (fun z => ⟨i, z⟩) id
    rcases z with z | z
    · rcases inE_fset z with y | y
      · exact .inl (.inl y)
      · exact .inl (this (.inl y))
    · exact .inl (this (.inr z))
def mMut (i : Nat) (T : String) (f : Tr → List Tr → Option (Tr × Tr)) (ms : MFs) : MF := fun E => (at? E i).bind fun t0 => if tyB T t0 = true then (ms E).bind fun p => (p.2[i]?).bind fun s => s.tree.bind fun t => (f t p.1).bind fun r => some (r.1, p.2.set i (s.with r.2)) else none
theorem fr_mut {i : Nat} {T : String} {r : V → List V → Hp → VK → Prop} {f : Tr → List Tr → Option (Tr × Tr)} {tr : TA} {ms : MFs} (hs : FA K tr ms) (hr : MutT K r f) : FR K (tBM K T r (tVar i) tr) (mMut i T f ms) := fun E w E' q A σ Hi H Fs h Q k => by
  unfold mMut at q
  obtain ⟨t0, q1, q⟩ := Option.bind_eq_some_iff.mp q
  split at q
  · rename_i hT
    obtain ⟨⟨us, E1⟩, q2, q⟩ := Option.bind_eq_some_iff.mp q
    obtain ⟨s, q3, q⟩ := Option.bind_eq_some_iff.mp q
    obtain ⟨t, q4, q⟩ := Option.bind_eq_some_iff.mp q
    obtain ⟨⟨w', t'⟩, q5, q⟩ := Option.bind_eq_some_iff.mp q
    cases q
    obtain ⟨x, ex, rt0⟩ := h.val i t0 q1
    refine ⟨x, ex, tyV_of h.sub rt0 hT, ?_⟩
    refine hs E us E1 q2 A σ Hi H Fs h _ fun xs Hi1 H1 Fs1 G rs h1 d1 s1 => ?_
    dsimp only at q3
    have qa : at? E1 i = some t := by
      unfold at?
      rw [q3]
      exact q4
    obtain ⟨x', ex', rt⟩ := h1.val i t qa
    rw [ex] at ex'
    cases ex'
    refine hr t us _ t' q5 Hi1 H1 x xs (Fs1 i) G h1.sub rt rs (fun a ha hb => d1 a hb ⟨i, ha⟩) Q fun v H2 F' W r1 r2 d sb fr sub => ?_
    obtain ⟨h2, dW, s2⟩ := mut_done (H' := H2) h1 q3 q4 ex d1 (fun a ha => (rs.ownG a ha).2) r1 r2 d sb fr sub
    exact k v Hi1 H2 _ W r2 h2 dW (s1.trans s2)
  · cases q
def mMut0 (i : Nat) (T : String) (f : Tr → List Tr → Option (Tr × Tr)) : MF := fun E => (E[i]?).bind fun s => s.tree.bind fun t => if tyB T t = true then (f t []).bind fun r => some (r.1, E.set i (s.with r.2)) else none
theorem fr_mut0 {i : Nat} {T : String} {r : V → List V → Hp → VK → Prop} {f : Tr → List Tr → Option (Tr × Tr)} (hr : MutT K r f) : FR K (tBM0 K T r (tVar i)) (mMut0 i T f) := fun E w E' q A σ Hi H Fs h Q k => by
  unfold mMut0 at q
  obtain ⟨s, q3, q⟩ := Option.bind_eq_some_iff.mp q
  obtain ⟨t, q4, q⟩ := Option.bind_eq_some_iff.mp q
  split at q
  · rename_i hT
    obtain ⟨⟨w', t'⟩, q5, q⟩ := Option.bind_eq_some_iff.mp q
    cases q
    have qa : at? E i = some t := by
      unfold at?
      rw [q3]
      exact q4
    obtain ⟨x, ex, rt⟩ := h.val i t qa
    refine ⟨x, ex, tyV_of h.sub rt hT, ?_⟩
    refine hr t [] _ t' q5 Hi H x [] (Fs i) [] h.sub rt .nil (fun a _ z => nomatch z) Q fun v H2 F' W r1 r2 d sb fr sub => ?_
    obtain ⟨h2, dW, s2⟩ := mut_done (H' := H2) (G := []) h q3 q4 ex (fun a z => nomatch z) (fun a z => nomatch z) r1 r2 d sb fr sub
    exact k v Hi H2 _ W r2 h2 dW (s2.more fun x z => z.elim id fun y => nomatch y)
  · cases q

/-! #### the methods of a list -/
def fAppend : Tr → List Tr → Option (Tr × Tr)
  | .lst ts, [u] => if ts.length < 16777216 then some (.imm .none, .lst (ts ++ [u])) else none
  | _, _ => none
theorem mu_append : MutT K rAppend fAppend := fun t us w t' q Hi H x xs F G sub rt rs d Q k => by
  unfold fAppend at q
  split at q
  · rename_i ts u
    split at q
    · rename_i hl
      cases q
      cases rs with
      | cons ru rn dn =>
        cases rn
        cases rt with
        | @lst a vs _ F1 h1 h2 h3 h4 =>
          obtain ⟨F2, r2, hF⟩ := h3.snoc ru fun b hb hc => d b (List.mem_cons_of_mem _ hb) (List.mem_append_left _ hc)
          have n2 : a ∉ F2 := fun z => ((hF a).mp z).elim h4 fun y => d a List.mem_cons_self (List.mem_append_left _ y)
          obtain ⟨r3, s3⟩ := lst_upd (RepT.lst h1 h2 h3 h4) n2 r2 sub
          refine ⟨a, vs, _, rfl, rfl, h1, by rw [sizeLine_eq, h3.length]; exact hl, ?_⟩
          refine k .non _ _ [] r3 (.imm .non) (fun b _ z => nomatch z) (fun b hb => ?_) (fun b o e nb _ => ?_) s3
          · rcases hb with hb | hb
            · rcases List.mem_cons.mp hb with rfl | hb
              · exact .inl List.mem_cons_self
              · rcases (hF b).mp hb with z | z
                · exact .inl (List.mem_cons_of_mem _ z)
                · exact .inr (List.mem_append_left _ z)
            · cases hb
          · rw [upd_ne fun z => nb (by rw [z]; exact List.mem_cons_self)]
            exact e
    · cases q
  · cases q
theorem RepTs.app : ∀ {vs ws : List V} {ts us : List Tr} {F G : List Addr}, RepTs K Hi H vs ts F → RepTs K Hi H ws us G → (∀ a ∈ F, a ∉ G) → RepTs K Hi H (vs ++ ws) (ts ++ us) (F ++ G)
  | _, _, _, _, _, _, .nil, r, _ => r
  | _, _, _, _, _, G, .cons (F := F1) (G := G1) r1 rs d1, r, d => by
    rw [List.append_assoc]
    refine .cons r1 (RepTs.app rs r fun a ha => d a (List.mem_append_right _ ha)) fun a ha hb => ?_
    rcases List.mem_append.mp hb with z | z
    · exact d1 a ha z
    · exact d a (List.mem_append_left _ ha) z
def fExtend : Tr → List Tr → Option (Tr × Tr)
  | .lst ts, [.lst us] => if ts.length + us.length ≤ 16777216 then some (.imm .none, .lst (ts ++ us)) else none
  | _, _ => none
theorem mu_extend : MutT K rExtend fExtend := fun t us w t' q Hi H x xs F G sub rt rs d Q k => by
  unfold fExtend at q
  split at q
  · rename_i ts us
    split at q
    · rename_i hl
      cases q
      cases rs with
      | cons ru rn dn =>
        cases rn
        cases rt with
        | @lst a vs _ F1 h1 h2 h3 h4 =>
          cases ru with
          | @lst b ws _ G1 g1 g2 g3 g4 =>
            have dd : ∀ c ∈ F1, c ∉ G1 := fun c hc hz => d c (List.mem_cons_of_mem _ hc) (List.mem_append_left _ (List.mem_cons_of_mem _ hz))
            have r2 := h3.app g3 dd
            have n2 : a ∉ F1 ++ G1 := fun z => (List.mem_append.mp z).elim h4 fun y => d a List.mem_cons_self (List.mem_append_left _ (List.mem_cons_of_mem _ y))
            obtain ⟨r3, s3⟩ := lst_upd (RepT.lst h1 h2 h3 h4) n2 r2 sub
            refine ⟨a, b, vs, ws, rfl, rfl, h1, g1, by rw [sizeLine_eq, h3.length, g3.length]; exact hl, ?_⟩
            refine k .non _ _ [] r3 (.imm .non) (fun c _ z => nomatch z) (fun c hc => ?_) (fun c o e nc _ => ?_) s3
            · rcases hc with hc | hc
              · rcases List.mem_cons.mp hc with rfl | hc
                · exact .inl List.mem_cons_self
                · rcases List.mem_append.mp hc with z | z
                  · exact .inl (List.mem_cons_of_mem _ z)
                  · exact .inr (List.mem_append_left _ (List.mem_cons_of_mem _ z))
              · cases hc
            · rw [upd_ne fun z => nc (by rw [z]; exact List.mem_cons_self)]
              exact e
    · cases q
  · cases q
/-- an item goes out -/
theorem RepTs.out : ∀ {vs : List V} {ts : List Tr} {F : List Addr} {j : Nat} {t : Tr}, RepTs K Hi H vs ts F → ts[j]? = some t → ∃ v G F', vs[j]? = some v ∧ RepT K Hi H v t G ∧ RepTs K Hi H (vs.eraseIdx j) (ts.eraseIdx j) F' ∧ (∀ a ∈ F', a ∉ G) ∧ ∀ a, a ∈ F' ∨ a ∈ G → a ∈ F
  | _, _, _, j, _, .nil, e => by simp at e
  | _, _, _, 0, _, .cons r rs d, e => by
    simp at e
    subst e
    exact ⟨_, _, _, rfl, r, rs, fun a ha hb => d a hb ha, fun a ha => ha.elim (List.mem_append_right _) (List.mem_append_left _)⟩
  | _, _, _, j + 1, _, .cons (F := F1) r rs d, e => by
    obtain ⟨v, G, F', e1, r1, rs1, d1, s1⟩ := RepTs.out (j := j) rs (by simpa using e)
    refine ⟨v, G, F1 ++ F', by simpa using e1, r1, .cons r rs1 fun a ha hb => d a ha (s1 a (.inl hb)), fun a ha hb => ?_, fun a ha => ?_⟩
    · rcases List.mem_append.mp ha with z | z
      · exact d a z (s1 a (.inr hb))
      · exact d1 a z hb
    · rcases ha with ha | ha
      · rcases List.mem_append.mp ha with z | z
        · exact List.mem_append_left _ z
        · exact List.mem_append_right _ (s1 a (.inl z))
      · exact List.mem_append_right _ (s1 a (.inr ha))
theorem pop_mut {j : Nat} {ts : List Tr} {t : Tr} {a : Addr} {vs : List V} {F1 G : List Addr} (sub : Same Hi H) (h1 : H a = some (.lst vs)) (h2 : Hi a = none) (h3 : RepTs K Hi H vs ts F1) (h4 : a ∉ F1) (e : ts[j]? = some t) :
    ∃ v, vs[j]? = some v ∧ ∀ Q : VK, (∀ v H' F' W, RepT K Hi H' (.ref a) (.lst (ts.eraseIdx j)) F' → RepT K Hi H' v t W → (∀ b ∈ F', b ∉ W) → (∀ b, b ∈ F' ∨ b ∈ W → b ∈ a :: F1 ∨ b ∈ G) → (∀ b o, H b = some o → b ∉ a :: F1 → b ∉ G → H' b = some o) → Same Hi H' → Q v H') →
      Q v (upd H a (.lst (vs.eraseIdx j))) := by
  obtain ⟨v, W, F', e1, r1, rs1, d1, s1⟩ := h3.out e
  refine ⟨v, e1, fun Q k => ?_⟩
  have n2 : a ∉ F' := fun z => h4 (s1 a (.inl z))
  have nW : a ∉ W := fun z => h4 (s1 a (.inr z))
  obtain ⟨r3, s3⟩ := lst_upd (RepT.lst h1 h2 h3 h4) n2 rs1 sub
  refine k v _ (a :: F') W r3 (r1.frame (Same.refl _) _ _ _ (fun b hb => upd_ne fun z => nW (z ▸ hb)) fun b hb => (r1.ownG b hb).1) (fun b hb hw => ?_) (fun b hb => ?_) (fun b o eb nb _ => ?_) s3
  · rcases List.mem_cons.mp hb with rfl | hb
    · exact nW hw
    · exact d1 b hb hw
  · rcases hb with hb | hb
    · rcases List.mem_cons.mp hb with rfl | hb
      · exact .inl List.mem_cons_self
      · exact .inl (List.mem_cons_of_mem _ (s1 b (.inl hb)))
    · exact .inl (List.mem_cons_of_mem _ (s1 b (.inr hb)))
  · rw [upd_ne fun z => nb (by rw [z]; exact List.mem_cons_self)]
    exact eb
def fPop : Tr → List Tr → Option (Tr × Tr)
  | .lst ts, [] => (ts[ts.length - 1]?).map fun t => (t, .lst (ts.eraseIdx (ts.length - 1)))
  | _, _ => none
theorem dropLast_erase {α : Type} : ∀ (xs : List α), xs.dropLast = xs.eraseIdx (xs.length - 1)
  | [] => rfl
  | [_] => rfl
  | x :: y :: r => by
    show x :: (y :: r).dropLast = (x :: y :: r).eraseIdx (r.length + 1)
    rw [dropLast_erase (y :: r)]
    rfl
theorem mu_pop : MutT K rPop fPop := fun t us w t' q Hi H x xs F G sub rt rs d Q k => by
  unfold fPop at q
  split at q
  · rename_i ts
    obtain ⟨t0, e, q⟩ := Option.map_eq_some_iff.mp q
    cases q
    cases rs
    cases rt with
    | @lst a vs _ F1 h1 h2 h3 h4 =>
      obtain ⟨v, ev, kk⟩ := pop_mut (G := []) sub h1 h2 h3 h4 e
      rw [← h3.length] at ev
      refine ⟨a, vs, v, rfl, rfl, h1, ev, ?_⟩
      rw [dropLast_erase, h3.length]
      exact kk Q k
  · cases q
def fPopAt : Tr → List Tr → Option (Tr × Tr)
  | .lst ts, [.imm (.int i)] => if ts.length ≤ 16777216 then (ixN ts.length i).bind fun j => (ts[j]?).map fun t => (t, .lst (ts.eraseIdx j)) else none
  | _, _ => none
theorem ixN_seq {n : Nat} {i : Int} {j : Nat} (h : ixN n i = some j) (hn : n < 2 ^ 62) : seqIndex? i n = some j ∧ -(2 ^ 63) ≤ i ∧ i < 2 ^ 63 ∧ j < n := by
  unfold ixN at h
  split at h
  · rename_i h0
    split at h
    · rename_i h1
      cases h
      exact ⟨PySem.StrLaws.seqIndex_nonneg h0 h1, by omega, by omega, by omega⟩
    · cases h
  · rename_i h0
    split at h
    · rename_i h1
      cases h
      refine ⟨?_, by omega, by omega, by omega⟩
      unfold seqIndex?
      have e1 : i < 0 := by omega
      simp only [e1, if_true]
      have e2 : (decide (0 ≤ i + (n : Int)) && decide (i + (n : Int) < (n : Int))) = true := by
        rw [Bool.and_eq_true, decide_eq_true_eq, decide_eq_true_eq]
        omega
      rw [if_pos e2]
    · cases h
theorem mu_popAt : MutT K rPopAt fPopAt := fun t us w t' q Hi H x xs F G sub rt rs d Q k => by
  unfold fPopAt at q
  split at q
  · rename_i ts i
    split at q
    · rename_i hz
      obtain ⟨j, ej, q⟩ := Option.bind_eq_some_iff.mp q
      obtain ⟨t0, e, q⟩ := Option.map_eq_some_iff.mp q
      cases q
      cases rs with
      | @cons vi _ _ _ F2 _ ri rn dn =>
        cases rn
        obtain ⟨e1, _⟩ := ri.int_inv
        subst e1
        cases rt with
        | @lst a vs _ F1 h1 h2 h3 h4 =>
          obtain ⟨v, ev, kk⟩ := pop_mut (G := F2 ++ []) sub h1 h2 h3 h4 e
          obtain ⟨a1, a2, a3, a4⟩ := ixN_seq ej (by omega)
          rw [← h3.length] at a1
          exact ⟨a, vs, i, j, v, rfl, rfl, h1, a2, a3, a1, ev, kk Q k⟩
    · cases q
  · cases q
end
end FL

/-! FL, part G: o[i] = v; x op= e; a, b = x, y. -/
namespace FL
open PySem L2
section
variable {K : PySem.W.Frag} {A : List V} {Hi H Hi1 H1 Hi' H' : Hp} {σ : L2.St} {E : En} {Fs : Nat → List Addr} {te ti tj : TE} {m : MF} {ma : MR}
def rSetA : TSet := fun o i v H Q => rSetL o i v H Q ∨ rSetD o i v H Q
theorem set_any {X : Cx} (hu : X.A.units + 1 < cLine) : PSet X rSetA := by
  intro pins s σ H o i v ov iv u Q I ro ri rv h
  rcases h with h | h
  · exact set_list pins s σ H o i v ov iv u Q I ro ri rv h
  · exact set_dict hu pins s σ H o i v ov iv u Q I ro ri rv h
def SetT (K : PySem.W.Frag) (r : TSet) (f : Tr → Tr → Tr → Option Tr) : Prop := ∀ t ix u t', f t ix u = some t' → ∀ Hi H x xi xv F Fi G, Same Hi H → RepT K Hi H x t F → RepT K Hi H xi ix Fi → RepT K Hi H xv u G → (∀ a ∈ F, a ∉ G) → ∀ Q : Hp → Prop,
  (∀ H' F', RepT K Hi H' x t' F' → (∀ a, a ∈ F' → a ∈ F ∨ a ∈ G) → (∀ a o, H a = some o → a ∉ F → a ∉ G → H' a = some o) → Same Hi H' → Q H') → r x xi xv H Q
def keyD : PyData → Option Key
  | .int i => some (.inl i)
  | .str s => some (.inr s)
  | _ => none
def putD (kvs : List (Key × PyData)) (k : Key) (v : PyData) : List (Key × PyData) :=
  if (kvs.any fun kv => decide (kv.1 = k)) = true then kvs.map (fun kv => if kv.1 = k then (kv.1, v) else kv) else kvs ++ [(k, v)]
def getD (kvs : List (Key × PyData)) (k : Key) : Option PyData := (kvs.find? fun kv => decide (kv.1 = k)).map (·.2)
theorem keyD_kV {d : PyData} {k : Key} {v : V} (q : keyD d = some k) (h : Dp K H v d) : v = kV k := by
  cases h with
  | int i => cases q; rfl
  | str x => cases q; rfl
  | non => cases q
  | bl b => cases q
  | lst _ _ => cases q
  | tup _ _ => cases q
abbrev KvR (K : PySem.W.Frag) (Hi : Hp) : List (Key × V) → List (Key × PyData) → Prop := Paired (fun (p : Key × V) (q : Key × PyData) => p.1 = q.1 ∧ Dp K Hi p.2 q.2)
theorem kv_any {k : Key} : ∀ {xs : List (Key × V)} {ds : List (Key × PyData)}, KvR K Hi xs ds → (xs.any fun kv => decide (kv.1 = k)) = ds.any fun kv => decide (kv.1 = k)
  | _, _, .nil => rfl
  | _, _, .cons r t => by rw [List.any_cons, List.any_cons, kv_any t, r.1]
theorem kv_map {k : Key} {v : V} {d : PyData} : ∀ {xs : List (Key × V)} {ds : List (Key × PyData)}, KvR K Hi xs ds → Dp K Hi v d → KvR K Hi (xs.map fun kv => if kv.1 = k then (kv.1, v) else kv) (ds.map fun kv => if kv.1 = k then (kv.1, d) else kv)
  | _, _, .nil, _ => .nil
  | _, _, .cons r1 t, r => by
    refine .cons ?_ (kv_map t r)
    dsimp only
    rw [r1.1]
    split
    · exact ⟨rfl, r⟩
    · exact ⟨r1.1, r1.2⟩
theorem kv_snoc {k : Key} {v : V} {d : PyData} : ∀ {xs : List (Key × V)} {ds : List (Key × PyData)}, KvR K Hi xs ds → Dp K Hi v d → KvR K Hi (xs ++ [(k, v)]) (ds ++ [(k, d)])
  | _, _, .nil, r => .cons ⟨rfl, r⟩ .nil
  | _, _, .cons r1 t, r => .cons r1 (kv_snoc t r)
theorem kv_put {k : Key} {v : V} {d : PyData} {xs : List (Key × V)} {ds : List (Key × PyData)} (h : KvR K Hi xs ds) (r : Dp K Hi v d) : KvR K Hi (putK xs k v) (putD ds k d) := by
  unfold putK putD
  rw [kv_any h]
  split
  · exact kv_map h r
  · exact kv_snoc h r
theorem kv_get {k : Key} : ∀ {xs : List (Key × V)} {ds : List (Key × PyData)}, KvR K Hi xs ds → match getD ds k with
    | some d => ∃ v, valV xs k = some v ∧ Dp K Hi v d
    | none => valV xs k = none
  | _, _, .nil => rfl
  | _, _, .cons (a := p) (b := q) r t => by
    have ih := kv_get (k := k) t
    unfold getD at ih ⊢
    rw [List.find?_cons]
    by_cases e : q.1 = k
    · rw [decide_eq_true e]
      exact ⟨p.2, valV_pos (r.1.trans e), r.2⟩
    · rw [decide_eq_false e]
      have e' : ¬ p.1 = k := fun z => e (r.1 ▸ z)
      rw [valV_neg e']
      exact ih
def fSetA : Tr → Tr → Tr → Option Tr
  | .lst ts, .imm (.int k), u => (ixN ts.length k).map fun j => .lst (ts.set j u)
  | .dic kvs, .imm kd, .imm d => (keyD kd).bind fun k => if kvs.length < 16777216 then some (.dic (putD kvs k d)) else none
  | _, _, _ => none
theorem set_tree : SetT K rSetA fSetA := fun t ix u t' q Hi H x xi xv F Fi G sub rt ri ru d Q k => by
  unfold fSetA at q
  split at q
  · rename_i ts kk
    obtain ⟨j, ej, q⟩ := Option.map_eq_some_iff.mp q
    cases q
    obtain ⟨e1, _⟩ := ri.int_inv
    subst e1
    cases rt with
    | @lst a vs _ F1 h1 h2 h3 h4 =>
      obtain ⟨F2, r2, hF⟩ := h3.set j ru fun b hb hc => d b (List.mem_cons_of_mem _ hc) hb
      have n2 : a ∉ F2 := fun z => (hF a z).elim h4 fun y => d a List.mem_cons_self y
      obtain ⟨r3, s3⟩ := lst_upd (RepT.lst h1 h2 h3 h4) n2 r2 sub
      refine .inl ⟨a, vs, kk, j, rfl, rfl, h1, by rw [h3.length]; exact ej, ?_⟩
      refine k _ _ r3 (fun b hb => ?_) (fun b o e nb _ => ?_) s3
      · rcases List.mem_cons.mp hb with rfl | hb
        · exact .inl List.mem_cons_self
        · exact (hF b hb).imp (List.mem_cons_of_mem _) id
      · rw [upd_ne fun z => nb (by rw [z]; exact List.mem_cons_self)]
        exact e
  · rename_i kvs kd dd
    obtain ⟨key, e1, q⟩ := Option.bind_eq_some_iff.mp q
    split at q
    · rename_i hl
      cases q
      have ek := keyD_kV e1 ri.imm_inv.1
      subst ek
      cases rt with
      | @dic a xs _ h1 h2 h3 =>
        have hs : Same Hi (upd H a (.dK (putK xs key xv))) := fun b o e => by
          have : b ≠ a := fun z => by rw [z, h2] at e; cases e
          rw [upd_ne this]
          exact sub b o e
        refine .inr ⟨a, _, rfl, DPut.k h1 (by rw [sizeLine_eq, Paired.length h3]; exact hl), ?_⟩
        refine k _ [a] (.dic upd_same h2 (kv_put h3 ru.imm_inv.1)) (fun b hb => .inl hb) (fun b o e nb _ => ?_) hs
        rw [upd_ne fun z => nb (by rw [z]; exact List.mem_cons_self)]
        exact e
    · cases q
  · cases q
def mSub (i : Nat) (f : Tr → Tr → Tr → Option Tr) (mi : MF) : Tr → En → Option En := fun u E => (at? E i).bind fun _ => (mi E).bind fun p => (p.2[i]?).bind fun s => s.tree.bind fun t => (f t p.1 u).bind fun t' => some (p.2.set i (s.with t'))
theorem gr_sub {i : Nat} {r : TSet} {f : Tr → Tr → Tr → Option Tr} {mi : MF} (hi : FR K ti mi) (hr : SetT K r f) : GR K (gSub (tVar i) ti r) (mSub i f mi) [] := fun u E E' q A σ Hi H Fs v G h ru dG Q k => by
  unfold mSub at q
  obtain ⟨t0, q0, q⟩ := Option.bind_eq_some_iff.mp q
  obtain ⟨⟨ix, E1⟩, q1, q⟩ := Option.bind_eq_some_iff.mp q
  obtain ⟨s, q2, q⟩ := Option.bind_eq_some_iff.mp q
  obtain ⟨t, q3, q⟩ := Option.bind_eq_some_iff.mp q
  obtain ⟨t', q4, q⟩ := Option.bind_eq_some_iff.mp q
  cases q
  dsimp only at q2
  -- the place, ahead of the index
  have key : ∀ Hi1 H1 Fs1 xi W, RepT K Hi1 H1 xi ix W → RepE K A Hi1 H1 σ E1 Fs1 → (∀ a ∈ W, ¬ InE Fs1 a) → Step Hi H (InE Fs) Hi1 H1 (fun a => InE Fs1 a ∨ a ∈ W) → ∀ x, σ[i]? = some (some x) → r x xi v H1 fun H3 => Q σ H3 := fun Hi1 H1 Fs1 xi W ri h1 dW s1 x ex => by
    have qa : at? E1 i = some t := by
      unfold at?
      rw [q2]
      exact q3
    obtain ⟨x', ex', rt⟩ := h1.val i t qa
    rw [ex] at ex'
    cases ex'
    have ru1 := s1.keep ru dG
    have out1 := s1.apart (fun a ha => (ru.ownG a ha).2) dG
    refine hr t ix u t' q4 Hi1 H1 x xi v (Fs1 i) W G h1.sub rt ri ru1 (fun a ha hb => out1 a hb (.inl ⟨i, ha⟩)) _ fun H2 F' r1 sb fr sub => ?_
    obtain ⟨h2, _, s2⟩ := mut_done (H' := H2) (w := .imm .none) (v := .non) (W := []) h1 q2 q3 ex (fun a ha z => out1 a ha (.inl z)) (fun a ha => (ru1.ownG a ha).2) r1 (.imm .non) (fun a _ z => nomatch z) (fun a ha => ha.elim (sb a) fun z => nomatch z) fr sub
    refine k σ Hi1 H2 _ Chg.refl h2 ?_
    have s1' : Step Hi H (fun a => InE Fs a ∨ a ∈ G) Hi1 H1 (fun a => InE Fs1 a ∨ a ∈ G) := by
      refine ⟨s1.ex, fun a o e f => s1.fr a o e fun z => f (.inl z), fun a z => ?_, fun a o e => (s1.nh a o e).imp id (Or.imp .inl id)⟩
      rcases z with z | z
      · exact (s1.nw a (.inl z)).imp .inl id
      · exact .inl (.inr z)
    exact s1'.trans (s2.weak fun a z => .inl z)
  obtain ⟨x, ex, _⟩ := h.val i t0 q0
  refine ⟨x, ex, ?_⟩
  exact hi E ix E1 q1 A σ Hi H Fs h _ fun xi Hi1 H1 Fs1 W ri h1 dW s1 => key Hi1 H1 Fs1 xi W ri h1 dW s1 x ex

/-! ### readings that leave all places as they are -/
/-- an int, by the places as they stand -/
def PR (K : PySem.W.Frag) (te : TE) (f : En → Option Int) : Prop := ∀ E k, f E = some k → ∀ A σ Hi H Fs, RepE K A Hi H σ E Fs → ∀ Q : VK, (∀ Hi' H', Grow Hi H Hi' H' [] → Q (.int k) H') → te σ H Q
def iAt (i : Nat) : En → Option Int := fun E => (at? E i).bind iOf
theorem pr_var {i : Nat} : PR K (tVar i) (iAt i) := fun E k q A σ Hi H Fs h Q kk => by
  obtain ⟨t, q1, q2⟩ := Option.bind_eq_some_iff.mp q
  have e := iOf_inv q2
  subst e
  obtain ⟨v, ev, r⟩ := h.val i _ q1
  obtain ⟨e1, _⟩ := r.int_inv
  subst e1
  exact ⟨_, ev, kk Hi H (Grow.refl h.sub)⟩
def iC (c : Int) : En → Option Int := fun _ => some c
theorem pr_int {c : Int} : PR K (tC (.int c)) (iC c) := fun E k q A σ Hi H Fs h Q kk => by
  cases q
  exact kk Hi H (Grow.refl h.sub)
theorem Grow.trans {Hi2 H2 : Hp} (a : Grow Hi H Hi1 H1 []) (b : Grow Hi1 H1 Hi2 H2 []) : Grow Hi H Hi2 H2 [] :=
  ⟨a.ex.trans b.ex, a.all.trans b.all, b.sub, fun _ z => (nomatch z), fun x o e => by
    rcases b.nh x o e with ⟨o', z⟩ | z
    · exact a.nh x o' z
    · exact .inr (Same.free a.all z)⟩
def iOp (f : Int → Int → Int) (fa fb : En → Option Int) : En → Option Int := fun E => (fa E).bind fun a => (fb E).bind fun b => some (f a b)
theorem pr_op {f : Int → Int → Int} {ta tb : TE} {fa fb : En → Option Int} (ha : PR K ta fa) (hb : PR K tb fb) : PR K (tOp (rI0 fun i j => .int (f i j)) ta tb) (iOp f fa fb) := fun E k q A σ Hi H Fs h Q kk => by
  obtain ⟨a, q1, q⟩ := Option.bind_eq_some_iff.mp q
  obtain ⟨b, q2, q⟩ := Option.bind_eq_some_iff.mp q
  cases q
  refine ha E a q1 A σ Hi H Fs h _ fun Hi1 H1 g1 => ?_
  refine hb E b q2 A σ Hi1 H1 Fs (h.grow g1) _ fun Hi2 H2 g2 => ?_
  exact ⟨a, b, rfl, rfl, kk Hi2 H2 (g1.trans g2)⟩
/-- xs[i] of a list or a tuple of ints -/
def ixAt : Tr → Int → Option Int
  | .imm (.tuple ds), i => (atI ds i).bind fun d => iOf (.imm d)
  | .imm (.list ds), i => (atI ds i).bind fun d => iOf (.imm d)
  | .lst ts, i => (atI ts i).bind iOf
  | _, _ => none
theorem dpAll_at {ds : List PyData} {vs : List V} {d : PyData} : ∀ {j : Nat}, DpAll K Hi vs ds → ds[j]? = some d → ∃ v, vs[j]? = some v ∧ Dp K Hi v d := by
  intro j h e
  induction h using DpAll.rec (motive_1 := fun _ _ _ => True) generalizing j with
  | nil => simp at e
  | cons h1 h2 _ ih =>
    cases j with
    | zero => simp at e; subst e; exact ⟨_, rfl, h1⟩
    | succ j => simpa using ih (by simpa using e)
  | _ => trivial
theorem atI_len {α β : Type} {xs : List α} {ys : List β} (e : xs.length = ys.length) {i : Int} {y : β} (h : atI ys i = some y) : ∃ j x, ixN ys.length i = some j ∧ ys[j]? = some y ∧ xs[j]? = some x ∧ atI xs i = some x := by
  unfold atI at h
  obtain ⟨j, e1, e2⟩ := Option.bind_eq_some_iff.mp h
  have hj : j < xs.length := by rw [e]; exact (List.getElem?_eq_some_iff.mp e2).1
  refine ⟨j, xs[j], e1, e2, List.getElem?_eq_getElem hj, ?_⟩
  unfold atI
  rw [e, e1]
  exact List.getElem?_eq_getElem hj
/-- the index rule: what stands there -/
theorem ix_imm {H : Hp} {x : V} {t : Tr} {F : List Addr} {i k : Int} (sub : Same Hi H) (r : RepT K Hi H x t F) (q : ixAt t i = some k) {Q : VK} (h : Q (.int k) H) : rIx K x (.int i) H Q := by
  unfold ixAt at q
  split at q
  · rename_i ds i
    obtain ⟨d, e1, e2⟩ := Option.bind_eq_some_iff.mp q
    have e3 := iOf_inv e2
    cases e3
    obtain ⟨hd, _⟩ := r.imm_inv
    cases hd with
    | @tup a vs _ hs ha =>
      obtain ⟨j, v, j1, j2, j3, j4⟩ := atI_len (xs := vs) (dpAll_len ha) e1
      obtain ⟨v', e4, hv⟩ := dpAll_at ha j2
      rw [j3] at e4
      cases e4
      cases hv
      exact .inr (.inl ⟨a, vs, _, _, rfl, rfl, seqT sub hs, j4, h⟩)
  · rename_i ds i
    obtain ⟨d, e1, e2⟩ := Option.bind_eq_some_iff.mp q
    have e3 := iOf_inv e2
    cases e3
    obtain ⟨hd, _⟩ := r.imm_inv
    cases hd with
    | @lst a vs _ hs ha =>
      obtain ⟨j, v, j1, j2, j3, j4⟩ := atI_len (xs := vs) (dpAll_len ha) e1
      obtain ⟨v', e4, hv⟩ := dpAll_at ha j2
      rw [j3] at e4
      cases e4
      cases hv
      exact .inl ⟨a, vs, _, _, rfl, rfl, sub.seq hs, j4, h⟩
  · rename_i ts i
    obtain ⟨d, e1, e2⟩ := Option.bind_eq_some_iff.mp q
    have e3 := iOf_inv e2
    cases e3
    cases r with
    | @lst a vs _ F1 h1 h2 h3 h4 =>
      obtain ⟨j, v, j1, j2, j3, j4⟩ := atI_len (xs := vs) h3.length e1
      obtain ⟨v', G, e4, hv, _⟩ := h3.get j2
      rw [j3] at e4
      cases e4
      obtain ⟨e5, _⟩ := hv.int_inv
      cases e5
      exact .inl ⟨a, vs, _, _, rfl, rfl, SqL.of h1, j4, h⟩
  · cases q
def iIx (i : Nat) (fj : En → Option Int) : En → Option Int := fun E => (fj E).bind fun j => (at? E i).bind fun t => ixAt t j
theorem pr_ix {i : Nat} {fj : En → Option Int} (hj : PR K tj fj) : PR K (tOp (rIx K) (tVar i) tj) (iIx i fj) := fun E k q A σ Hi H Fs h Q kk => by
  obtain ⟨j, q1, q⟩ := Option.bind_eq_some_iff.mp q
  obtain ⟨t, q2, q3⟩ := Option.bind_eq_some_iff.mp q
  obtain ⟨v, ev, r⟩ := h.val i t q2
  refine ⟨v, ev, hj E j q1 A σ Hi H Fs h _ fun Hi1 H1 g1 => ?_⟩
  obtain ⟨v', ev', r'⟩ := (h.grow g1).val i t q2
  rw [ev] at ev'
  cases ev'
  exact ix_imm g1.sub r' q3 (kk Hi1 H1 g1)
/-- an item is another tree now -/
theorem RepTs.redo : ∀ {vs : List V} {ts : List Tr} {F : List Addr} {j : Nat} {t : Tr}, RepTs K Hi H vs ts F → ts[j]? = some t → ∃ v G, vs[j]? = some v ∧ RepT K Hi H v t G ∧ (∀ a ∈ G, a ∈ F) ∧
    ∀ (H2 : Hp) (t' : Tr) (F2 : List Addr), (∀ a ∈ F, a ∉ G → H2 a = H a) → RepT K Hi H2 v t' F2 → (∀ a ∈ F2, a ∈ G ∨ a ∉ F) → ∃ F3, RepTs K Hi H2 vs (ts.set j t') F3 ∧ ∀ a ∈ F3, a ∈ F ∨ a ∈ F2
  | _, _, _, j, _, .nil, e => by simp at e
  | _, _, _, 0, _, .cons (F := F) (G := G) r rs d, e => by
    simp at e
    subst e
    refine ⟨_, F, rfl, r, fun a ha => List.mem_append_left _ ha, fun H2 t' F2 fr r2 sb => ⟨F2 ++ G, .cons r2 (rs.frame (Same.refl _) _ _ _ (fun a ha => fr a (List.mem_append_right _ ha) fun z => d a z ha) fun a ha => (rs.ownG a ha).1) fun a ha hb => ?_, fun a ha => ?_⟩⟩
    · rcases sb a ha with z | z
      · exact d a z hb
      · exact z (List.mem_append_right _ hb)
    · exact (List.mem_append.mp ha).elim .inr fun z => .inl (List.mem_append_right _ z)
  | _, _, _, j + 1, _, .cons (F := F) (G := G) r rs d, e => by
    obtain ⟨v, G1, e1, r1, s1, k1⟩ := RepTs.redo (j := j) rs (by simpa using e)
    refine ⟨v, G1, by simpa using e1, r1, fun a ha => List.mem_append_right _ (s1 a ha), fun H2 t' F2 fr r2 sb => ?_⟩
    obtain ⟨F3, r3, s3⟩ := k1 H2 t' F2 (fun a ha hn => fr a (List.mem_append_right _ ha) hn) r2 fun a ha => (sb a ha).imp id fun z y => z (List.mem_append_right _ y)
    refine ⟨F ++ F3, .cons (r.frame (Same.refl _) _ _ _ (fun a ha => fr a (List.mem_append_left _ ha) fun z => d a ha (s1 a z)) fun a ha => (r.ownG a ha).1) r3 fun a ha hb => ?_, fun a ha => ?_⟩
    · rcases s3 a hb with z | z
      · exact d a ha z
      · rcases sb a z with y | y
        · exact d a ha (s1 a y)
        · exact y (List.mem_append_left _ ha)
    · rcases List.mem_append.mp ha with z | z
      · exact .inl (List.mem_append_left _ z)
      · exact (s3 a z).imp (List.mem_append_right _) id
def sub2 (t : Tr) (a b : Int) (u : Tr) : Option Tr := match t with
  | .lst ts => (ixN ts.length a).bind fun j => (ts[j]?).bind fun row => (fSetA row (.imm (.int b)) u).bind fun row' => some (.lst (ts.set j row'))
  | _ => none
def mSub2 (i : Nat) (fa fb : En → Option Int) : Tr → En → Option En := fun u E => (fa E).bind fun a => (fb E).bind fun b => (E[i]?).bind fun s => s.tree.bind fun t => (sub2 t a b u).bind fun t' => some (E.set i (s.with t'))
theorem gr_sub2 {i : Nat} {fa fb : En → Option Int} (ha : PR K tj fa) (hb : PR K ti fb) : GR K (gSub (tOp (rIx K) (tVar i) tj) ti rSetA) (mSub2 i fa fb) [] := fun u E E' q A σ Hi H Fs v G h ru dG Q k => by
  unfold mSub2 at q
  obtain ⟨a, q1, q⟩ := Option.bind_eq_some_iff.mp q
  obtain ⟨b, q2, q⟩ := Option.bind_eq_some_iff.mp q
  obtain ⟨s, q3, q⟩ := Option.bind_eq_some_iff.mp q
  obtain ⟨t, q4, q⟩ := Option.bind_eq_some_iff.mp q
  obtain ⟨t', q5, q⟩ := Option.bind_eq_some_iff.mp q
  cases q
  have qa : at? E i = some t := by
    unfold at?
    rw [q3]
    exact q4
  unfold sub2 at q5
  split at q5
  · rename_i ts
    obtain ⟨j, j1, q5⟩ := Option.bind_eq_some_iff.mp q5
    obtain ⟨row, j2, q5⟩ := Option.bind_eq_some_iff.mp q5
    obtain ⟨row', j3, q5⟩ := Option.bind_eq_some_iff.mp q5
    cases q5
    obtain ⟨x, ex, rt⟩ := h.val i _ qa
    refine ⟨x, ex, ha E a q1 A σ Hi H Fs h _ fun Hi1 H1 g1 => ?_⟩
    have h1 := h.grow g1
    have sg1 : Step Hi H (fun _ => False) Hi1 H1 (fun a => False ∨ a ∈ ([] : List Addr)) := g1.step _
    have ru1 := sg1.keep ru fun _ _ z => z
    have rt1 := sg1.keep rt fun _ _ z => z
    generalize hFi : Fs i = Fi at rt1
    cases rt1 with
    | @lst p vs _ F1 e1 e2 e3 e4 =>
      obtain ⟨v0, G0, x1, x2, x3, x4⟩ := e3.redo j2
      have hat : atI vs a = some v0 := by
        unfold atI
        rw [e3.length, j1]
        exact x1
      refine .inl ⟨p, vs, a, v0, rfl, rfl, SqL.of e1, hat, ?_⟩
      refine hb E b q2 A σ Hi1 H1 Fs h1 _ fun Hi2 H2 g2 => ?_
      have h2 := h1.grow g2
      have sg2 : Step Hi1 H1 (fun _ => False) Hi2 H2 (fun a => False ∨ a ∈ ([] : List Addr)) := g2.step _
      have ru2 := sg2.keep ru1 fun _ _ z => z
      have e3' := sg2.keeps e3 fun _ _ z => z
      obtain ⟨v0', G0', x1', x2', x3', x4'⟩ := e3'.redo j2
      rw [x1] at x1'
      cases x1'
      have rp2 := sg2.keep (RepT.lst e1 e2 e3 e4) fun _ _ z => z
      obtain ⟨n0, _⟩ := rp2.ownG p List.mem_cons_self
      have hp2 : H2 p = some (.lst vs) := g2.all _ _ e1
      have dG1 : ∀ c ∈ G, c ∉ p :: F1 := fun c hc z => dG c hc ⟨i, by rw [hFi]; exact z⟩
      refine set_tree row (.imm (.int b)) u row' j3 Hi2 H2 v0 (.int b) v G0' [] G h2.sub x2' (.imm (.int b)) ru2 (fun c hc hg => dG1 c hg (List.mem_cons_of_mem _ (x3' c hc))) _ fun H3 F3 r3 s3 fr3 sub3 => ?_
      have np : ∀ c, c ∈ G0' ∨ c ∈ G → c ≠ p := fun c hc z => by
        subst z
        rcases hc with hc | hc
        · exact e4 (x3' c hc)
        · exact dG1 c hc List.mem_cons_self
      obtain ⟨F4, r4, s4⟩ := x4' H3 row' F3 (fun c hc hn => by
          obtain ⟨_, o, eo⟩ := e3'.ownG c hc
          rw [eo]
          exact fr3 c o eo hn fun z => dG1 c z (List.mem_cons_of_mem _ hc)) r3 fun c hc => by
        rcases s3 c hc with z | z
        · exact .inl z
        · exact .inr fun y => dG1 c z (List.mem_cons_of_mem _ y)
      have hp3 : H3 p = some (.lst vs) := fr3 p _ hp2 (fun z => np p (.inl z) rfl) fun z => np p (.inr z) rfl
      have n4 : p ∉ F4 := fun z => by
        rcases s4 p z with y | y
        · exact e4 y
        · exact np p (s3 p y) rfl
      have s4' : ∀ c ∈ F4, c ∈ F1 ∨ c ∈ G := fun c hc => by
        rcases s4 c hc with y | y
        · exact .inl y
        · exact (s3 c y).imp (x3' c) id
      obtain ⟨h3, _, st3⟩ := mut_done (H' := H3) (w := .imm .none) (v := .non) (W := []) h2 q3 q4 ex dG (fun c hc => (ru2.ownG c hc).2) (RepT.lst hp3 n0 r4 n4) (.imm .non) (fun c _ z => nomatch z) (fun c hc => by
          rcases hc with hc | hc
          · rcases List.mem_cons.mp hc with e | hc
            · subst e; exact .inl (by rw [hFi]; exact List.mem_cons_self)
            · exact (s4' c hc).imp (fun z => by rw [hFi]; exact List.mem_cons_of_mem _ z) id
          · cases hc) (fun c o eo n1 n2 => fr3 c o eo (fun z => n1 (by rw [hFi]; exact List.mem_cons_of_mem _ (x3' c z))) n2) sub3
      refine k σ Hi2 H3 _ Chg.refl h3 ?_
      have sgF : ∀ {Ha Hb Hc Hd : Hp}, Grow Ha Hb Hc Hd [] → Step Ha Hb (fun a => InE Fs a ∨ a ∈ G) Hc Hd (fun a => InE Fs a ∨ a ∈ G) := fun g => (g.step _).weak fun x z => .inl z
      exact (sgF g1).trans ((sgF g2).trans (st3.weak fun x z => .inl z))
  · cases q5
/-! ### x op= e; a, b = x, y -/
def IpT (K : PySem.W.Frag) (ti : TIp) (f : Tr → Tr → Option Tr) : Prop := ∀ t u w, f t u = some w → ∀ Hi H x y F G, Same Hi H → RepT K Hi H x t F → RepT K Hi H y u G → ∀ Q : VK,
  (∀ v Hi' H' W, RepT K Hi' H' v w W → Grow Hi H Hi' H' W → Q v H') → ti x y H Q
def mAug (i : Nat) (f : Tr → Tr → Option Tr) (mb : MR) : MS := fun E => (at? E i).bind fun _ => (mb E).bind fun q => (view q.2 (.slot i)).bind fun t => (view q.2 q.1).bind fun u => (f t u).bind fun w => (mName i w q.2).bind fun E' => some (.nx E')
theorem sr_aug {i : Nat} {tip : TIp} {f : Tr → Tr → Option Tr} {mb : MR} (hb : ER K te mb) (hr : IpT K tip f) : SR K (tAug i te tip) (mAug i f mb) := fun E out q A σ Hi H Fs D h go => by
  unfold mAug at q
  obtain ⟨t0, q0, q⟩ := Option.bind_eq_some_iff.mp q
  obtain ⟨⟨o, E1⟩, q1, q⟩ := Option.bind_eq_some_iff.mp q
  obtain ⟨t, q2, q⟩ := Option.bind_eq_some_iff.mp q
  obtain ⟨u, q3, q⟩ := Option.bind_eq_some_iff.mp q
  obtain ⟨w, q4, q⟩ := Option.bind_eq_some_iff.mp q
  obtain ⟨E2, q5, q⟩ := Option.bind_eq_some_iff.mp q
  cases q
  obtain ⟨x, ex, _⟩ := h.val i t0 q0
  refine ⟨x, ex, hb E o E1 q1 A σ Hi H Fs h _ fun y Hi1 H1 Fs1 G r h1 d s1 => ?_⟩
  obtain ⟨F1, rt⟩ := h1.view (RepR.slot (K := K) (Hi := Hi1) (H := H1) ex) q2
  obtain ⟨F2, ru⟩ := h1.view r q3
  refine hr t u w q4 Hi1 H1 x y F1 F2 h1.sub rt ru _ fun v Hi2 H2 W rw_ g => ?_
  exact gr_name (K := K) w E1 E2 q5 A σ Hi2 H2 Fs1 v W (h1.grow g) rw_ (h1.fresh g) _ fun σ' Hi3 H3 Fs3 _ h3 s3 => go σ' Hi3 H3 Fs3 h3 (s1.seq ((g.step _).trans s3))
def mPar (i j : Nat) (ms : MFs) : MS := fun E => (ms E).bind fun p => match p.1 with
  | [t, u] => (mName i t p.2).bind fun E1 => (mName j u E1).bind fun E2 => some (.nx E2)
  | _ => none
theorem sr_par {i j : Nat} {ta : TA} {ms : MFs} (hs : FA K ta ms) : SR K (tPar i j ta) (mPar i j ms) := fun E out q A σ Hi H Fs D h go => by
  unfold mPar at q
  obtain ⟨⟨ts, E1⟩, q1, q⟩ := Option.bind_eq_some_iff.mp q
  dsimp only at q
  split at q
  · rename_i t u
    obtain ⟨E2, q2, q⟩ := Option.bind_eq_some_iff.mp q
    obtain ⟨E3, q3, q⟩ := Option.bind_eq_some_iff.mp q
    cases q
    refine hs E _ E1 q1 A σ Hi H Fs h _ fun vs Hi1 H1 Fs1 G r h1 d s1 => ?_
    cases r with
    | @cons v _ _ _ F1 _ r1 rs dd =>
      cases rs with
      | @cons w _ _ _ F2 _ r2 rn d2 =>
        cases rn
        refine ⟨v, w, rfl, ?_⟩
        -- the first name: the second value is held besides
        have e1 : ∃ s, E1[i]? = some s ∧ E2 = E1.set i (.val t) := by
          unfold mName at q2
          split at q2
          · rename_i e; cases q2; exact ⟨_, e, rfl⟩
          · rename_i e; cases q2; exact ⟨_, e, rfl⟩
          · cases q2
        obtain ⟨s, e1, rfl⟩ := e1
        obtain ⟨h2, s2⟩ := h1.name e1 r1 fun a ha => d a (List.mem_append_left _ ha)
        have e2 : ∃ s, (E1.set i (.val t))[j]? = some s ∧ E3 = (E1.set i (.val t)).set j (.val u) := by
          unfold mName at q3
          split at q3
          · rename_i e; cases q3; exact ⟨_, e, rfl⟩
          · rename_i e; cases q3; exact ⟨_, e, rfl⟩
          · cases q3
        obtain ⟨s', e2, rfl⟩ := e2
        have d2' : ∀ a ∈ F2, ¬ InE (fset Fs1 i F1) a := fun a ha z => by
          rcases inE_fset z with y | y
          · exact d a (List.mem_append_right _ (List.mem_append_left _ ha)) y
          · exact dd a y (List.mem_append_left _ ha)
        obtain ⟨h3, s3⟩ := h2.name e2 r2 d2'
        refine go _ Hi1 H1 _ h3 ⟨s1.ex, s1.fr, fun a z => ?_, s1.nh⟩
        rcases inE_fset z with y | y
        · rcases inE_fset y with y | y
          · exact s1.nw a (.inl y)
          · exact s1.nw a (.inr (List.mem_append_left _ y))
        · exact s1.nw a (.inr (List.mem_append_right _ (List.mem_append_left _ y)))
  · cases q
end
end FL

/-! FL, part H: defs that run where nothing is being shown (no guard is up): for repr. -/
namespace FL
open PySem L2

/-- a def's promise, kept wherever no guard is up -/
structure FnG (P : Program) (w : World) (K : PySem.W.Frag) (mg : Str → Option Value) (base : Heap) (CX : CXT) (k : Nat) (f : Addr) (fd : FuncData) (ps : List Str) (sp : Sp) : Prop where
  arity : ∀ vs H Q E, sp vs H Q E → vs.length = ps.length
  go : ∀ (A : Around) (outer : List PySem.Env) (s : Shared) (H : Hp) (args : Args) (us : List Value) (vs : List V) (Q : VK) (E : XK), A.guards = some [] → Room k A → Env0 P w K mg base A outer s H →
    BindsTo s fd args (ps.zip us) → Vals vs us → sp vs H Q E → codeAny (model P w) A (.call (.ref f) args) (CR CX outer P w H s Q E) s
section
variable {P : Program} {w : World} {K : PySem.W.Frag} {mg : Str → Option Value} {base : Heap} {CX : CXT} {k j : Nat} {f : Addr} {fd : FuncData} {ps : List Str} {sp : Sp}
theorem FnG.mono (G : FnG P w K mg base CX j f fd ps sp) (h : j ≤ k) : FnG P w K mg base CX k f fd ps sp :=
  ⟨G.arity, fun A outer s H args us vs Q E g r => G.go A outer s H args us vs Q E g (r.mono h)⟩
theorem FnG.of (F : FnOk P w K mg base CX k f fd ps sp) : FnG P w K mg base CX k f fd ps sp :=
  ⟨F.len, fun A outer s H args us vs Q E _ r => F.run A outer s H args us vs Q E r⟩
/-- another promise -/
theorem FnG.imp {sp' : Sp} (G : FnG P w K mg base CX k f fd ps sp) (h : ∀ vs H Q E, sp' vs H Q E → sp vs H Q E) : FnG P w K mg base CX k f fd ps sp' :=
  ⟨fun vs H Q E z => G.arity vs H Q E (h vs H Q E z), fun A outer s H args us vs Q E g r e b v z => G.go A outer s H args us vs Q E g r e b v (h vs H Q E z)⟩
end
/-- where one stands: room, and no guard -/
structure RoomG (k : Nat) (A : Around) : Prop where
  room : Room k A
  free : A.guards = some []
theorem RoomG.mono {j k : Nat} {A : Around} (r : RoomG k A) (h : j ≤ k) : RoomG j A := ⟨r.room.mono h, r.free⟩
section
variable {X : Cx} {CX : CXT} {k : Nat} {f : Addr} {fd : FuncData} {ps : List Str} {sp : Sp} {E : XK} {x : Str} {p pos : Pos} {e : Expr} {es : List Expr} {t : TA}
theorem call_G {pins : List (Addr × Obj)} {σ : L2.St} {H : Hp} {s : Shared} {Q : VK} {us : List Value} {vs : List V} (G : FnG X.prog X.w X.K X.mg X.base CX k f fd ps sp) (r : RoomG k X.A) (b : Binds X.K fd ps []) (hx : Passes CX X E)
    (I : Inv X pins σ H s) (v : Vals vs us) (h : sp vs H Q E) : wpAny (model X.prog X.w) X.A (call (.ref f) us) (EP X pins σ Q) X.xe s := by
  have len : (us ++ []).length = ps.length := by
    rw [List.append_nil, ← v.length]
    exact G.arity vs H Q E h
  have bb := b s us I.kIn len
  rw [List.append_nil] at bb
  refine wpAny_call (codeAny_mono (G.go X.A X.stack s H ⟨us, []⟩ us vs Q E r.free r.room I.env0 bb v h) fun res s' z => ?_)
  match res, z with
  | .error err, z => exact hx pins σ H s err s' I z
  | .ok (.ret u), z => exact I.after z
  | .ok .next, z => exact z.elim
  | .ok .brk, z => exact z.elim
  | .ok .cont, z => exact z.elim
theorem pe_callG (G : FnG X.prog X.w X.K X.mg X.base CX k f fd ps sp) (r : RoomG k X.A) (hg : Gl X x) (hm : X.mg x = some (.ref f)) (hk : PySem.W.keepIn X.K (.ref f) = true) (b : Binds X.K fd ps []) (hx : Passes CX X E)
    (ha : PA X (e :: es) t) (hdb : (x == ("__debug__" : Str)) = false := by decide) (he : starEach (e :: es) X.env = (false, eval e X.env) :: starEach es X.env := by rfl) (hpl : (backTo pos (starEach es X.env)).any (·.1) = false := by rfl) :
    PE X (.Call (.Name x p) (e :: es) [] pos) (tCall sp [] E t) := ⟨fun pins s σ H Q I h =>
  wpAny_Call_Name_kw (ld_glob I hg hm (PySem.W.callWith_K (h₀ := X.base) I.ok.mod.kin hk (thn (ha.run pos pins s σ H _ I h) fun us s1 ⟨vs, H1, I1, v, z⟩ => ⟨I1.kIn, call_G G r b hx I1 v (by
    have z' : sp (vs ++ []) H1 Q E := z
    rw [List.append_nil] at z'
    exact z')⟩) he hpl) hdb)⟩
theorem pe_callG0 (G : FnG X.prog X.w X.K X.mg X.base CX k f fd ps sp) (r : RoomG k X.A) (hg : Gl X x) (hm : X.mg x = some (.ref f)) (hk : PySem.W.keepIn X.K (.ref f) = true) (b : Binds X.K fd ps []) (hx : Passes CX X E)
    (hdb : (x == ("__debug__" : Str)) = false := by decide) : PE X (.Call (.Name x p) [] [] pos) (tCall sp [] E tNil) := ⟨fun pins s σ H Q I h =>
  wpAny_Call_Name_kw (ld_glob I hg hm (PySem.W.callWith_K0 I.kIn hk (call_G (us := []) G r b hx I .nil h)) hdb)⟩
end
section
variable {P : Program} {w : World} {K : PySem.W.Frag} {mg : Str → Option Value} {base : Heap} {CX : CXT}
theorem fn_G {x qual : Str} {st : Stmt} {f : Addr} {fd : FuncData} {N ps : List Str} {k : Nat} {sp : Sp} (F : Fun K x qual st f fd) (S : FnScope N ps (defScope st)) (len : ∀ vs H Q E, sp vs H Q E → vs.length = ps.length)
    (body : ∀ (cdv : Value) (A : Around) (outer : List PySem.Env) (s : Shared) (H : Hp) (vs : List V) (Q : VK) (E : XK), RoomG k (A.deeper (PyProof.Rows.envOfC qual (defScope st) s.heap.objs.size f cdv)) → sp vs H Q E →
      ∃ t, PSs (cxOf CX P w K mg base N qual (defScope st) f cdv A outer s H E) (defBody st) t ∧ t { nx := fun _ H' => Q .non H', rt := Q } (L2.start N vs) H) : FnG P w K mg base CX (k + 1) f fd ps sp := by
  obtain ⟨oc, od, kV, doc, pm, an, cdv, ct, osl, rfl, lk, hcd⟩ := F.ex
  refine ⟨len, fun A outer s H args us vs Q E gd room e0 bind v hsp => ?_⟩
  have keep : ∀ b o, base.get? b = some o → s.heap.get? b = some o := fun b o z => (e0.bs b o z).1
  have kin := e0.mod.kin.keeps keep
  have lim := e0.mod.nolimit.keeps keep
  have kinds : ∀ y ∈ ps.zip us, (defScope st).names.lookup y.1 = some .local ∨ ((defScope st).names.lookup y.1 = some .cell ∧ ((PySem.cellsFrom (s.heap.objs.size + 1) (defScope st).names []).lookup y.1).isSome = true) := fun y hy => by
    refine (S.par y.1 (List.of_mem_zip (a := y.1) (b := y.2) hy).1).imp id fun c => ⟨c, PySem.W.cellsFrom_some _ _ _ (.inl c)⟩
  refine codeAny_call_function room.depth (kin _ _ lk) rfl S.co S.gen rfl (PySem.W.codeRec_of kin hcd) (bind _ _ _ _ ?_)
  refine wpAny_newFunctionEnv_cells S.kind kinds fun env he s1 ic => ?_
  subst he
  refine ⟨lim.keeps ic.toInCall.keep, codeAny_func ?_⟩
  obtain ⟨t, ht, q⟩ := body cdv A outer s H vs Q E ⟨room.deeper _, gd⟩ hsp
  have I0 := inv_start (CX := CX) (cd := cdv) (f := f) (qual := qual) (E := E) S room.hd e0 (len _ _ _ _ hsp) v ic
  refine wpAny_mono (ht.run [] s1 (L2.start N vs) H _ I0 q) (fun fl s' z => ?_) fun _ _ z => z
  match fl, z with
  | .ret u, ⟨v', σ', H', J, rv, z⟩ => exact ⟨v', H', J.os, J.bare, J.base, J.hok, rv, z⟩
  | .next, ⟨σ', H', J, z⟩ => exact ⟨.non, H', J.os, J.bare, J.base, J.hok, rfl, z⟩
  | .brk, ⟨_, _, _, z⟩ => exact z.elim
  | .cont, ⟨_, _, _, z⟩ => exact z.elim
/-- THE RULE for a def: its body's reading gives what it promises -/
theorem fn_ok {x qual : Str} {st : Stmt} {f : Addr} {fd : FuncData} {N ps : List Str} {k : Nat} {m : MS} (F : Fun K x qual st f fd) (S : FnScope N ps (defScope st)) (hn : ps.length ≤ N.length)
    (hb : ∀ (cdv : Value) (A : Around) (outer : List PySem.Env) (s : Shared) (H : Hp) (E : XK), RoomG k (A.deeper (PyProof.Rows.envOfC qual (defScope st) s.heap.objs.size f cdv)) →
      ∃ t, PSs (cxOf CX0 P w K mg base N qual (defScope st) f cdv A outer s H E).nox (defBody st) t ∧ SR K t m) : FnG P w K mg base CX0 (k + 1) f fd ps (spM K ps.length (mFn N.length m)) :=
  fn_G F S (fun vs H Q E ⟨ts, r, ts', Hi, Fs, q, hl, sub, ra, _⟩ => by rw [ra.len, hl]) fun cdv A outer s H vs Q E hr h => by
    obtain ⟨t, h1, h2⟩ := hb cdv A outer s H E hr
    exact ⟨t, h1.nox, fn_run h2 hn h⟩
end
end FL

/-! FL, part I: the law's own end. -/
namespace FL
open PySem PySem.Spec PyProof.Rows L2

/-- the script alone is looked at: locked, or one of the module's own objects -/
def scriptH (K : PySem.W.Frag) (a : Addr) (o : Obj) (xs : List V) : Hp := fun b => if b = a ∧ K.lookup a = none then some (.frz o (.lst xs)) else none
theorem law_go {P : Program} {w : World} {K : PySem.W.Frag} {mg mb : Str → Option Value} {k : Nat} {fa a : Addr} {fd : FuncData} {x : Str} {sp : Sp} {s1 : Shared} {vs : List Value} {ns : List Int}
    (KX : K.In s1.heap) (hns : s1.heap.Ns mainGlobals mg) (hb : s1.heap.Ns builtinsNs mb) (hbb : ∀ x : Str, x ≠ "__name__" → mb x = bootBuiltins x) (hlim : s1.heap.NoLimit) (gens : s1.gens = #[])
    (ha : s1.heap.get? a = some { cls := .type "list", data := .seq vs.toArray }) (hints : PyProof.Rows.IntsAre vs ns) (hl : ns.length ≤ sizeLine) (room : Room k callerA)
    (G : ∀ base : Heap, K.In base → base.Ns mainGlobals mg → FnG P w K mg base CX0 k fa fd [x] sp) (hbind : ∀ (s : Shared) (u : Value), BindsTo s fd ⟨[u], []⟩ [(x, u)])
    (hsp : ∀ H : Hp, SqL K H a (ns.map V.int) → sp [.ref a] H (fun v _ => v = .bl true) E0) :
    codeAny (model P w) callerA (.call (.ref fa) ⟨[.ref a], []⟩) (fun r s' => r = .ok (.ret (.bool true)) ∧ OldK s1.heap s'.heap ∧ s'.os = s1.os ∧ AllBare s'.gens) s1 := by
  let ob : Obj := { cls := .type "list", data := .seq vs.toArray }
  have rv : Vals (ns.map V.int) vs := vals_ints hints
  have lv : vs.length = ns.length := hints.length
  let H := scriptH K a ob (ns.map V.int)
  -- what H knows
  have only : ∀ b u, H b = some u → b = a ∧ K.lookup a = none ∧ u = .frz ob (.lst (ns.map V.int)) := fun b u z => by
    have z' : (if b = a ∧ K.lookup a = none then some (HO.frz ob (.lst (ns.map V.int))) else none) = some u := z
    split at z'
    · rename_i h
      exact ⟨h.1, h.2, (Option.some.inj z').symm⟩
    · cases z'
  have hok : HOk P w H s1.heap := fun b u z => by
    obtain ⟨rfl, _, rfl⟩ := only b u z
    exact ⟨ha, by rw [List.length_map]; exact hl, vs, _, rv, ha⟩
  have seen : SqL K H a (ns.map V.int) := by
    cases q : K.lookup a with
    | none => exact .inl (.inr ⟨ob, if_pos ⟨rfl, q⟩⟩)
    | some o =>
      have z := KX a o q
      rw [ha] at z
      cases z
      exact .inr ⟨_, vs.toArray, _, q, rfl, rfl, rfl, by rw [List.size_toArray, lv]; exact hl, by simpa using rv⟩
  -- the base: all but the script
  have dicts : ∀ {b : Addr} {m : Str → Option Value}, s1.heap.Ns b m → (hidT s1.heap H).Ns b m := fun {b m} ⟨o, es, ep, z, dd, rest⟩ => by
    refine ⟨o, es, ep, hidT_get z ?_, dd, rest⟩
    cases q : H b with
    | none => rfl
    | some u =>
      obtain ⟨rfl, _, _⟩ := only b u q
      rw [ha] at z
      cases z
      cases (show Data.seq vs.toArray _ = Data.dict es ep from dd)
  have kin : K.In (hidT s1.heap H) := fun b o z => hidT_get (KX b o z) (by
    cases q : H b with
    | none => rfl
    | some u =>
      obtain ⟨rfl, n, _⟩ := only b u q
      exact absurd (n.symm.trans z) (fun y => by cases y))
  have md : Mod K mg (hidT s1.heap H) := ⟨kin, dicts hns, ⟨mb, dicts hb, hbb⟩, by obtain ⟨mc, h1, h2⟩ := hlim; exact ⟨mc, dicts h1, h2⟩⟩
  have en : Env0 P w K mg (hidT s1.heap H) callerA [] s1 H := ⟨rfl, md, fun b o z => of_hidT z, Nat.le_of_eq (hidT_size _ _), trivial, fun b z => (nomatch z), hok, .of_eq gens⟩
  refine codeAny_mono ((G _ kin (dicts hns)).go callerA [] s1 H ⟨[.ref a], []⟩ [.ref a] [.ref a] (fun v _ => v = .bl true) E0 rfl room en (hbind s1 (.ref a)) (.cons rfl .nil) (hsp H seen)) fun r s' z => ?_
  match r, z with
  | .error e, z => exact z.elim
  | .ok .next, z => exact z.elim
  | .ok .brk, z => exact z.elim
  | .ok .cont, z => exact z.elim
  | .ok (.ret u), ⟨v, H', os, bare, un, hok', rel, hv⟩ =>
    have hv' : v = .bl true := hv
    subst hv'
    have hu : u = Value.bool true := rel
    subst hu
    refine ⟨rfl, OldK.of_keep fun b o zz => ?_, os, bare⟩
    cases q : H b with
    | none => exact un.keep b o zz q (fun y => nomatch y) (fun y => nomatch y)
    | some u =>
      obtain ⟨rfl, _, rfl⟩ := only b u q
      obtain ⟨e1, _⟩ := hok b _ q
      obtain ⟨e2, _⟩ := hok' b _ (un.frzs b ob _ q)
      rw [zz] at e1
      cases e1
      exact e2
theorem ints_dp {K : PySem.W.Frag} {H : Hp} : ∀ ns : List Int, DpAll K H (ns.map V.int) (ns.map PyData.int)
  | [] => .nil
  | n :: ns => .cons (.int n) (ints_dp ns)
/-- the law's datum: a script -/
def scriptT (ns : List Int) : Tr := .imm (.list (ns.map PyData.int))
theorem walk_G {l : PySem.W.OpenLaw} {n k : Nat} {q : Program} {loose : List Str} {XP : (Str → Option Value) → Heap → Prop} {YP : World → Heap → Prop} {d : DefRec} {K : Params → PySem.W.Frag} {m : MFn} {x : Str}
    (hn : l.most = some n) (hn2 : n ≤ sizeLine) (hdf : d.params.defaults = []) (room : Room k callerA)
    (hY : ∀ (w : World) (h : Heap), YP w h → (K w.params).In h)
    (F : ∀ (w : World) (mg : Str → Option Value) (fa : Addr) (h : Heap), (K w.params).In h → h.Ns mainGlobals mg → mg d.name = some (.ref fa) →
      ∃ fd : FuncData, (∀ (s : Shared) (u : Value), BindsTo s fd ⟨[u], []⟩ [(x, u)]) ∧
        ∀ base : Heap, (K w.params).In base → base.Ns mainGlobals mg → FnG l.prog w (K w.params) mg base CX0 k fa fd [x] (spM (K w.params) 1 m))
    (law : ∀ ns : List Int, ns.length ≤ n → ∃ ts', m [scriptT ns] = some (.imm (.bool true), ts')) :
    PySem.W.WalkO q loose XP YP l.row.toRowW d [] (fun f vs => PySem.call f vs) := by
  refine Att.attach_call hn hdf fun w s₀ s₁ mg mb fa o pm cd doc a vs ns G Y ho hd hcd hmg hobj hints hlen hg => ?_
  obtain ⟨fd, hb, hF⟩ := F w mg fa _ (hY w _ Y) G.T.g hmg
  refine law_go (hY w _ Y) G.T.g G.T.b G.T.builtins G.T.nolimit hg hobj hints (Nat.le_trans hlen hn2) room hF hb fun H hS => ?_
  obtain ⟨ts', e⟩ := law ns hlen
  refine ⟨[scriptT ns], .imm (.bool true), ts', H, fun _ => [], e, rfl, Same.refl _, ⟨rfl, fun i t z => ?_, fun _ _ => rfl, fun _ _ _ z => nomatch z⟩, fun v Hi' H' Fs' G' _ _ r _ _ => r.bl_inv.1⟩
  cases i with
  | zero =>
    simp at z
    subst z
    exact ⟨_, rfl, .imm (.lst hS (ints_dp ns))⟩
  | succ i => simp at z
end FL

/-! FL, part O: operations by data. -/
namespace FL
open PySem L2

section
variable {X : Cx}
theorem OpR.or3 {f : Value → Value → Sem Value} {r1 r2 r3 : R2} (h1 : OpR X f r1) (h2 : OpR X f r2) (h3 : OpR X f r3) : OpR X f (fun x y H Q => r1 x y H Q ∨ r2 x y H Q ∨ r3 x y H Q) := OpR.or h1 (OpR.or h2 h3)
theorem CallR.or {f : Value} {r1 r2 : List V → Hp → VK → Prop} (h1 : CallR X f r1) (h2 : CallR X f r2) : CallR X f (fun x H Q => r1 x H Q ∨ r2 x H Q) := by
  intro pins s σ H xs us Q I r h
  rcases h with h | h
  · exact h1 pins s σ H xs us Q I r h
  · exact h2 pins s σ H xs us Q I r h
end
section
variable {K : PySem.W.Frag} {A : List V} {Hi H Hi1 H1 Hi' H' : Hp} {σ : L2.St} {E : En} {Fs : Nat → List Addr}
/-- a datum that is no address -/
theorem give {Q : VK} {v : V} {d : PyData} (sub : Same Hi H) (hd : Dp K Hi v d) (k : ∀ v Hi' H' W, RepT K Hi' H' v (.imm d) W → Grow Hi H Hi' H' W → Q v H') : Q v H := k v Hi H [] (.imm hd) (Grow.refl sub)
theorem giveI {Q : VK} {i : Int} (sub : Same Hi H) (k : ∀ v Hi' H' W, RepT K Hi' H' v (.imm (.int i)) W → Grow Hi H Hi' H' W → Q v H') : Q (.int i) H := give sub (.int i) k
theorem giveB {Q : VK} {b : Bool} (sub : Same Hi H) (k : ∀ v Hi' H' W, RepT K Hi' H' v (.imm (.bool b)) W → Grow Hi H Hi' H' W → Q v H') : Q (.bl b) H := give sub (.bl b) k
/-- a new tuple, a new list of data -/
theorem giveT {Q : VK} {vs : List V} {ds : List PyData} (sub : Same Hi H) (hd : DpAll K Hi vs ds) (k : ∀ v Hi' H' W, RepT K Hi' H' v (.imm (.tuple ds)) W → Grow Hi H Hi' H' W → Q v H') : ∀ p, H p = none → Q (.ref p) (upd H p (.tup vs)) := fun p hp => by
  have g : Grow Hi H (upd Hi p (.tup vs)) (upd H p (.tup vs)) [] := Grow.imm sub hp
  exact k _ _ _ [] (.imm (.tup (SqT.of upd_same) (dpMonos g.ex _ _ hd))) g
theorem giveL {Q : VK} {vs : List V} {ds : List PyData} (sub : Same Hi H) (hd : DpAll K Hi vs ds) (k : ∀ v Hi' H' W, RepT K Hi' H' v (.lst (ds.map Tr.imm)) W → Grow Hi H Hi' H' W → Q v H') : ∀ p, H p = none → Q (.ref p) (upd H p (.lst vs)) := fun p hp => by
  have g : Grow Hi H Hi (upd H p (.lst vs)) [p] := Grow.own sub hp
  exact k _ _ _ [p] (.lst upd_same (free_of sub hp) (RepTs.imms hd) (fun z => nomatch z)) g
/-- the items, where all of them stand still -/
def imms : List Tr → Option (List PyData)
  | [] => some []
  | .imm d :: ts => (imms ts).map (d :: ·)
  | _ :: _ => none
theorem imms_map (ds : List PyData) : imms (ds.map Tr.imm) = some ds := by
  induction ds with
  | nil => rfl
  | cons d ds ih => rw [List.map_cons, imms, ih]; rfl
theorem imms_ok : ∀ {ts : List Tr} {vs : List V} {F : List Addr} {ds : List PyData}, RepTs K Hi H vs ts F → imms ts = some ds → DpAll K Hi vs ds
  | [], _, _, _, h, q => by
    cases h
    cases q
    exact .nil
  | .imm d :: ts, _, _, _, h, q => by
    cases h with
    | cons r rs _ =>
      obtain ⟨ds, q1, rfl⟩ := Option.map_eq_some_iff.mp q
      exact .cons r.imm_inv.1 (imms_ok rs q1)
  | .lst _ :: _, _, _, _, _, q => by cases q
  | .dic _ :: _, _, _, _, _, q => by cases q
/-- what is read as a sequence of data: kind (true: a tuple), items -/
def seqOf : Tr → Option (Bool × List PyData)
  | .imm (.tuple ds) => some (true, ds)
  | .imm (.list ds) => some (false, ds)
  | .lst ts => (imms ts).map fun ds => (false, ds)
  | _ => none
theorem seq_ok {x : V} {t : Tr} {F : List Addr} {b : Bool} {ds : List PyData} (sub : Same Hi H) (r : RepT K Hi H x t F) (q : seqOf t = some (b, ds)) : ∃ a vs, x = .ref a ∧ DpAll K Hi vs ds ∧ (b = true → SqT K H a vs) ∧ (b = false → SqL K H a vs) := by
  unfold seqOf at q
  split at q
  · cases q
    obtain ⟨h, _⟩ := r.imm_inv
    cases h with
    | tup hs ha => exact ⟨_, _, rfl, ha, fun _ => seqT sub hs, fun z => nomatch z⟩
  · cases q
    obtain ⟨h, _⟩ := r.imm_inv
    cases h with
    | lst hs ha => exact ⟨_, _, rfl, ha, fun z => (nomatch z), fun _ => sub.seq hs⟩
  · obtain ⟨ds', q1, q2⟩ := Option.map_eq_some_iff.mp q
    cases q2
    cases r with
    | lst h1 h2 h3 h4 => exact ⟨_, _, rfl, imms_ok h3 q1, fun z => (nomatch z), fun _ => SqL.of h1⟩
  · cases q
theorem dpAll_app : ∀ {vs ws : List V} {ds es : List PyData}, DpAll K H vs ds → DpAll K H ws es → DpAll K H (vs ++ ws) (ds ++ es)
  | _, _, _, _, .nil, h => h
  | _, _, _, _, .cons a t, h => .cons a (dpAll_app t h)

/-! ### + -/
def rAddA (K : PySem.W.Frag) : R2 := fun x y H Q => rI0 (fun i j => .int (i + j)) x y H Q ∨ (∃ i j, x = .str i ∧ y = .str j ∧ i.length + j.length ≤ sizeLine ∧ Q (.str (i ++ j)) H) ∨ rCat x y H Q ∨ rCatA K x y H Q
theorem op_addA {X : Cx} : OpR X (binaryOp .Add) (rAddA X.K) := OpR.or op_add (OpR.or op_add_str (OpR.or op_cat op_catA))
def fAdd : Tr → Tr → Option Tr
  | .imm (.int i), .imm (.int j) => some (.imm (.int (i + j)))
  | .imm (.str a), .imm (.str b) => if a.length + b.length ≤ 16777216 then some (.imm (.str (a ++ b))) else none
  | .lst ts, .lst us => (imms ts).bind fun ds => (imms us).bind fun es => if ds.length + es.length ≤ 16777216 then some (.lst ((ds ++ es).map Tr.imm)) else none
  | .imm (.tuple ds), .imm (.tuple es) => if ds.length + es.length ≤ 16777216 then some (.imm (.tuple (ds ++ es))) else none
  | _, _ => none
theorem o_add : OpT K (rAddA K) fAdd := fun t u w q Hi H x y F G sub rt ru Q k => by
  unfold fAdd at q
  split at q
  · cases q
    obtain ⟨rfl, _⟩ := rt.int_inv
    obtain ⟨rfl, _⟩ := ru.int_inv
    exact .inl ⟨_, _, rfl, rfl, giveI sub k⟩
  · split at q
    · rename_i hl
      cases q
      obtain ⟨rfl, _⟩ := rt.str_inv
      obtain ⟨rfl, _⟩ := ru.str_inv
      exact .inr (.inl ⟨_, _, rfl, rfl, by rw [sizeLine_eq]; exact hl, give sub (.str _) k⟩)
    · cases q
  · obtain ⟨ds, q1, q⟩ := Option.bind_eq_some_iff.mp q
    obtain ⟨es, q2, q⟩ := Option.bind_eq_some_iff.mp q
    split at q
    · rename_i hl
      cases q
      cases rt with
      | lst h1 h2 h3 h4 =>
        cases ru with
        | lst g1 g2 g3 g4 =>
          have a := imms_ok h3 q1
          have b := imms_ok g3 q2
          exact .inr (.inr (.inl ⟨_, _, _, _, rfl, rfl, h1, g1, by rw [sizeLine_eq, dpAll_len a, dpAll_len b]; exact hl, giveL sub (dpAll_app a b) k⟩))
    · cases q
  · split at q
    · rename_i hl
      cases q
      obtain ⟨hd, _⟩ := rt.imm_inv
      obtain ⟨he, _⟩ := ru.imm_inv
      cases hd with
      | @tup a vs _ hs ha =>
        cases he with
        | @tup b ws _ hs2 hb =>
          refine .inr (.inr (.inr ⟨a, b, vs, ws, rfl, rfl, seqT sub hs, seqT sub hs2, by rw [sizeLine_eq, dpAll_len ha, dpAll_len hb]; exact hl, fun e => ?_, fun _ e => ?_, fun _ _ => giveT sub (dpAll_app ha hb) k⟩))
          · subst e
            cases ha
            exact give sub (.tup hs2 hb) k
          · subst e
            cases hb
            rw [List.append_nil] at k
            exact give sub (.tup hs ha) k
    · cases q
  · cases q
/-! ### - * // % ** -/
def fI (C : Int → Int → Bool) (g : Int → Int → Int) : Tr → Tr → Option Tr
  | .imm (.int i), .imm (.int j) => if C i j = true then some (.imm (.int (g i j))) else none
  | _, _ => none
theorem o_I {C : Int → Int → Bool} {D : Int → Int → Prop} {g : Int → Int → Int} (h : ∀ i j, C i j = true → D i j) : OpT K (rI D fun i j => .int (g i j)) (fI C g) := fun t u w q Hi H x y F G sub rt ru Q k => by
  unfold fI at q
  split at q
  · split at q
    · rename_i hc
      cases q
      obtain ⟨rfl, _⟩ := rt.int_inv
      obtain ⟨rfl, _⟩ := ru.int_inv
      exact ⟨_, _, rfl, rfl, h _ _ hc, giveI sub k⟩
    · cases q
  · cases q
def fI0 (g : Int → Int → Int) : Tr → Tr → Option Tr
  | .imm (.int i), .imm (.int j) => some (.imm (.int (g i j)))
  | _, _ => none
theorem o_I0 {g : Int → Int → Int} : OpT K (rI0 fun i j => .int (g i j)) (fI0 g) := fun t u w q Hi H x y F G sub rt ru Q k => by
  unfold fI0 at q
  split at q
  · cases q
    obtain ⟨rfl, _⟩ := rt.int_inv
    obtain ⟨rfl, _⟩ := ru.int_inv
    exact ⟨_, _, rfl, rfl, giveI sub k⟩
  · cases q
def fSub : Tr → Tr → Option Tr := fI0 fun i j => i - j
theorem o_sub : OpT K (rI0 fun i j => .int (i - j)) fSub := o_I0
def cDiv (_ j : Int) : Bool := decide (0 < j) && decide (j.natAbs.log2 < 9000)
def fDiv : Tr → Tr → Option Tr := fI cDiv fun i j => i / j
theorem o_div : OpT K (rI CDivW fun i j => .int (i / j)) fDiv := o_I fun i j h => by
  unfold cDiv at h
  rw [Bool.and_eq_true, decide_eq_true_eq, decide_eq_true_eq] at h
  exact h
def cMod (_ j : Int) : Bool := decide (0 < j)
def fMod : Tr → Tr → Option Tr := fI cMod fun i j => i % j
theorem o_mod : OpT K (rI (fun _ j => 0 < j) fun i j => .int (i % j)) fMod := o_I fun i j h => of_decide_eq_true h
def cPow (i j : Int) : Bool := decide (0 ≤ j) && decide (j ≤ 1000000) && decide (i.natAbs < 2 ^ 64)
def fPow : Tr → Tr → Option Tr := fI cPow fun i j => i ^ j.toNat
theorem o_pow : OpT K (rI CPow fun i j => .int (i ^ j.toNat)) fPow := o_I fun i j h => by
  unfold cPow at h
  rw [Bool.and_eq_true, Bool.and_eq_true, decide_eq_true_eq, decide_eq_true_eq, decide_eq_true_eq] at h
  exact ⟨h.1.1, h.1.2, h.2⟩
def rMulA : R2 := fun x y H Q => rI CMulW (fun i j => .int (i * j)) x y H Q ∨ rRep x y H Q
theorem op_mulA {X : Cx} : OpR X (binaryOp .Mult) rMulA := OpR.or op_mulW op_rep
def fMul : Tr → Tr → Option Tr
  | .imm (.int i), .imm (.int j) => if i.natAbs.log2 + j.natAbs.log2 < 1000000 then some (.imm (.int (i * j))) else none
  | .lst ts, .imm (.int k) => (imms ts).bind fun ds => if -1000000 ≤ k ∧ k ≤ 1000000 ∧ ds.length * k.toNat ≤ 16777216 then some (.lst ((List.replicate k.toNat ds).flatten.map Tr.imm)) else none
  | _, _ => none
theorem dpAll_rep {vs : List V} {ds : List PyData} (h : DpAll K H vs ds) : ∀ n, DpAll K H (List.replicate n vs).flatten (List.replicate n ds).flatten
  | 0 => .nil
  | n + 1 => dpAll_app h (dpAll_rep h n)
theorem o_mul : OpT K rMulA fMul := fun t u w q Hi H x y F G sub rt ru Q k => by
  unfold fMul at q
  split at q
  · split at q
    · rename_i hc
      cases q
      obtain ⟨rfl, _⟩ := rt.int_inv
      obtain ⟨rfl, _⟩ := ru.int_inv
      exact .inl ⟨_, _, rfl, rfl, hc, giveI sub k⟩
    · cases q
  · obtain ⟨ds, q1, q⟩ := Option.bind_eq_some_iff.mp q
    split at q
    · rename_i hl
      cases q
      obtain ⟨rfl, _⟩ := ru.int_inv
      cases rt with
      | lst h1 h2 h3 h4 =>
        have a := imms_ok h3 q1
        exact .inr ⟨_, _, _, rfl, rfl, h1, by omega, by omega, by rw [sizeLine_eq, dpAll_len a]; exact hl.2.2, giveL sub (dpAll_rep a _) k⟩
    · cases q
  · cases q
def fNeg : Tr → Option Tr
  | .imm (.int i) => some (.imm (.int (-i)))
  | _ => none
theorem o_neg : UnT K (rU fun i => .int (-i)) fNeg := fun t w q Hi H x F sub rt Q k => by
  unfold fNeg at q
  split at q
  · cases q
    obtain ⟨rfl, _⟩ := rt.int_inv
    exact ⟨_, rfl, giveI sub k⟩
  · cases q

/-! ### comparisons -/
def fC (g : Int → Int → Bool) : Tr → Tr → Option Tr
  | .imm (.int i), .imm (.int j) => some (.imm (.bool (g i j)))
  | _, _ => none
theorem o_C {g : Int → Int → Bool} : OpT K (rI0 fun i j => .bl (g i j)) (fC g) := fun t u w q Hi H x y F G sub rt ru Q k => by
  unfold fC at q
  split at q
  · cases q
    obtain ⟨rfl, _⟩ := rt.int_inv
    obtain ⟨rfl, _⟩ := ru.int_inv
    exact ⟨_, _, rfl, rfl, giveB sub k⟩
  · cases q
def fLt : Tr → Tr → Option Tr := fC fun i j => decide (i < j)
theorem o_lt : OpT K (rI0 fun i j => .bl (decide (i < j))) fLt := o_C
def fLe : Tr → Tr → Option Tr := fC fun i j => decide (i ≤ j)
theorem o_le : OpT K (rI0 fun i j => .bl (decide (i ≤ j))) fLe := o_C
def fGt : Tr → Tr → Option Tr := fC fun i j => decide (j < i)
theorem o_gt : OpT K (rI0 fun i j => .bl (decide (j < i))) fGt := o_C
def fGe : Tr → Tr → Option Tr := fC fun i j => decide (j ≤ i)
theorem o_ge : OpT K (rI0 fun i j => .bl (decide (j ≤ i))) fGe := o_C
def rEqA (K : PySem.W.Frag) : R2 := fun x y H Q => rEq x y H Q ∨ rEqD K x y H Q
def rNeA (K : PySem.W.Frag) : R2 := fun x y H Q => rNe x y H Q ∨ rNeD K x y H Q
theorem op_eqA {X : Cx} (hu : X.A.units + 64 < cLine) : OpR X (compareOp .Eq) (rEqA X.K) := OpR.or op_eq (op_eqD hu)
theorem op_neA {X : Cx} (hu : X.A.units + 64 < cLine) : OpR X (compareOp .NotEq) (rNeA X.K) := OpR.or op_ne (op_neD hu)
/-- == of two data -/
def eqT : Tr → Tr → Option Bool
  | .imm (.str a), .imm (.str b) => some (decide (a = b))
  | .imm (.int i), .imm (.int j) => some (decide (i = j))
  | t, u => t.toD.bind fun d => u.toD.bind fun e => if SeqAt.shaped d = true ∧ SeqAt.shaped e = true then some (PyData.eqv d e) else none
def fEq (t u : Tr) : Option Tr := (eqT t u).map fun b => .imm (.bool b)
def fNe (t u : Tr) : Option Tr := (eqT t u).map fun b => .imm (.bool !b)
theorem dec_V_str {a b : Str} : decide (V.str a = V.str b) = decide (a = b) := by
  by_cases h : a = b
  · subst h; simp
  · rw [decide_eq_false h, decide_eq_false fun z => h (V.str.inj z)]
theorem dec_V_int {a b : Int} : decide (V.int a = V.int b) = decide (a = b) := by
  by_cases h : a = b
  · subst h; simp
  · rw [decide_eq_false h, decide_eq_false fun z => h (V.int.inj z)]
theorem eq_core {t u : Tr} {b : Bool} (q : eqT t u = some b) {x y : V} {F G : List Addr} (sub : Same Hi H) (rt : RepT K Hi H x t F) (ru : RepT K Hi H y u G) :
    (scal x y = true ∧ decide (x = y) = b) ∨ ∃ d e, Dp K H x d ∧ Dp K H y e ∧ SeqAt.shaped d = true ∧ SeqAt.shaped e = true ∧ PyData.eqv d e = b := by
  unfold eqT at q
  split at q
  · cases q
    obtain ⟨rfl, _⟩ := rt.str_inv
    obtain ⟨rfl, _⟩ := ru.str_inv
    exact .inl ⟨rfl, dec_V_str⟩
  · cases q
    obtain ⟨rfl, _⟩ := rt.int_inv
    obtain ⟨rfl, _⟩ := ru.int_inv
    exact .inl ⟨rfl, dec_V_int⟩
  · obtain ⟨d, q1, q⟩ := Option.bind_eq_some_iff.mp q
    obtain ⟨e, q2, q⟩ := Option.bind_eq_some_iff.mp q
    split at q
    · rename_i hs
      cases q
      exact .inr ⟨d, e, looks sub rt q1, looks sub ru q2, hs.1, hs.2, rfl⟩
    · cases q
theorem o_eq : OpT K (rEqA K) fEq := fun t u w q Hi H x y F G sub rt ru Q k => by
  obtain ⟨b, q1, rfl⟩ := Option.map_eq_some_iff.mp q
  rcases eq_core q1 sub rt ru with ⟨h1, h2⟩ | ⟨d, e, h1, h2, h3, h4, h5⟩
  · refine .inl ⟨h1, ?_⟩
    rw [h2]
    exact giveB sub k
  · refine .inr ⟨d, e, h1, h2, h3, h4, ?_⟩
    rw [h5]
    exact giveB sub k
theorem o_ne : OpT K (rNeA K) fNe := fun t u w q Hi H x y F G sub rt ru Q k => by
  obtain ⟨b, q1, rfl⟩ := Option.map_eq_some_iff.mp q
  rcases eq_core q1 sub rt ru with ⟨h1, h2⟩ | ⟨d, e, h1, h2, h3, h4, h5⟩
  · refine .inl ⟨h1, ?_⟩
    rw [h2]
    exact giveB sub k
  · refine .inr ⟨d, e, h1, h2, h3, h4, ?_⟩
    rw [h5]
    exact giveB sub k
/-- is None -/
def isN : Tr → Bool
  | .imm .none => true
  | _ => false
theorem isN_ok {t : Tr} {x : V} {F : List Addr} (r : RepT K Hi H x t F) : decide (x = .non) = isN t := by
  cases r with
  | imm h => cases h <;> rfl
  | lst _ _ _ _ => rfl
  | dic _ _ _ => rfl
def fIsN (t u : Tr) : Option Tr := if isN u = true then some (.imm (.bool (isN t))) else none
def fNotN (t u : Tr) : Option Tr := if isN u = true then some (.imm (.bool !(isN t))) else none
theorem non_of {t : Tr} {x : V} {F : List Addr} (r : RepT K Hi H x t F) (h : isN t = true) : x = .non := by
  have := isN_ok r
  rw [h] at this
  exact of_decide_eq_true this
theorem o_isN : OpT K (fun x y H Q => y = .non ∧ Q (.bl (decide (x = .non))) H) fIsN := fun t u w q Hi H x y F G sub rt ru Q k => by
  unfold fIsN at q
  split at q
  · rename_i hn
    cases q
    refine ⟨non_of ru hn, ?_⟩
    rw [isN_ok rt]
    exact giveB sub k
  · cases q
theorem o_notN : OpT K (fun x y H Q => y = .non ∧ Q (.bl (!decide (x = .non))) H) fNotN := fun t u w q Hi H x y F G sub rt ru Q k => by
  unfold fNotN at q
  split at q
  · rename_i hn
    cases q
    refine ⟨non_of ru hn, ?_⟩
    rw [isN_ok rt]
    exact giveB sub k
  · cases q

/-! ### in -/
def flatD : PyData → Bool
  | .none => true
  | .bool _ => true
  | .int _ => true
  | .str _ => true
  | _ => false
def rInA (K : PySem.W.Frag) : R2 := fun x y H Q => rInD K x y H Q ∨ rIn K false x y H Q
def rNotInA (K : PySem.W.Frag) : R2 := fun x y H Q => rNotInD K x y H Q ∨ rIn K true x y H Q
theorem op_inA {X : Cx} (hu : X.A.units + 65 < cLine) : OpR X (compareOp .In) (rInA X.K) := OpR.or (op_inD hu) op_in_seq
theorem op_notInA {X : Cx} (hu : X.A.units + 65 < cLine) : OpR X (compareOp .NotIn) (rNotInA X.K) := OpR.or (op_notInD hu) op_notIn_seq
/-- x in a list: its items by ==; x in a tuple: of ints, texts, truths and None -/
def inT (t u : Tr) : Option Bool := t.toD.bind fun d => match u with
  | .imm (.tuple ds) => if flatD d = true ∧ ds.all flatD = true then some (ds.any fun z => PyData.eqv z d) else none
  | u => u.toD.bind fun l => match l with
    | .list ds => if SeqAt.shaped d = true ∧ SeqAt.shaped (.list ds) = true then some (ds.any fun z => PyData.eqv z d) else none
    | _ => none
theorem flat_ok {d : PyData} {v : V} (h : Dp K H v d) (f : flatD d = true) : flatV v = true := by
  cases h <;> first
    | rfl
    | cases f
theorem flats_ok : ∀ {vs : List V} {ds : List PyData}, DpAll K H vs ds → ds.all flatD = true → vs.all flatV = true
  | _, _, .nil, _ => rfl
  | _, _, .cons h t, f => by
    rw [List.all_cons, Bool.and_eq_true] at f ⊢
    exact ⟨flat_ok h f.1, flats_ok t f.2⟩
theorem eqV_ok {d e : PyData} {v u : V} (h : Dp K H v d) (g : Dp K H u e) (f1 : flatD d = true) (f2 : flatD e = true) : eqV v u = PyData.eqv d e := by
  cases h <;> cases g <;> first
    | (cases f1; done)
    | (cases f2; done)
    | (simp only [eqV, PyData.eqv]; done)
    | (simp [eqV, PyData.eqv]; done)
    | skip
theorem anyV_ok {d : PyData} {v : V} (h : Dp K H v d) (f : flatD d = true) : ∀ {vs : List V} {ds : List PyData}, DpAll K H vs ds → ds.all flatD = true → inV v vs = ds.any fun z => PyData.eqv z d
  | _, _, .nil, _ => rfl
  | _, _, .cons g t, fs => by
    rw [List.all_cons, Bool.and_eq_true] at fs
    have ih := anyV_ok h f t fs.2
    unfold inV at ih ⊢
    rw [List.any_cons, List.any_cons, ih, eqV_ok g h fs.1 f]
end
end FL

/-! FL, part P: in, subscripts, slices, built-ins, methods. -/
namespace FL
open PySem L2

section
variable {K : PySem.W.Frag} {A : List V} {Hi H Hi1 H1 Hi' H' : Hp} {σ : L2.St} {E : En} {Fs : Nat → List Addr}
theorem in_core {t u : Tr} {b : Bool} (q : inT t u = some b) {x y : V} {F G : List Addr} (sub : Same Hi H) (rt : RepT K Hi H x t F) (ru : RepT K Hi H y u G) :
    (∃ d ds, Dp K H x d ∧ Dp K H y (.list ds) ∧ SeqAt.shaped d = true ∧ SeqAt.shaped (.list ds) = true ∧ (ds.any fun z => PyData.eqv z d) = b) ∨
    ∃ p xs, y = .ref p ∧ (SqL K H p xs ∨ SqT K H p xs) ∧ flatV x = true ∧ xs.all flatV = true ∧ inV x xs = b := by
  unfold inT at q
  obtain ⟨d, q1, q⟩ := Option.bind_eq_some_iff.mp q
  have hx := looks sub rt q1
  split at q
  · rename_i ds
    split at q
    · rename_i hf
      cases q
      obtain ⟨hy, _⟩ := ru.imm_inv
      cases hy with
      | tup hs ha =>
        exact .inr ⟨_, _, rfl, .inr (seqT sub hs), flat_ok hx hf.1, flats_ok ha hf.2, anyV_ok hx hf.1 (dpMonos sub _ _ ha) hf.2⟩
    · cases q
  · obtain ⟨l, q2, q⟩ := Option.bind_eq_some_iff.mp q
    split at q
    · rename_i ds
      split at q
      · rename_i hs
        cases q
        exact .inl ⟨d, ds, hx, looks sub ru q2, hs.1, hs.2, rfl⟩
      · cases q
    · cases q
def fIn (t u : Tr) : Option Tr := (inT t u).map fun b => .imm (.bool b)
def fNotIn (t u : Tr) : Option Tr := (inT t u).map fun b => .imm (.bool !b)
theorem o_in : OpT K (rInA K) fIn := fun t u w q Hi H x y F G sub rt ru Q k => by
  obtain ⟨b, q1, rfl⟩ := Option.map_eq_some_iff.mp q
  rcases in_core q1 sub rt ru with ⟨d, ds, h1, h2, h3, h4, h5⟩ | ⟨p, xs, h1, h2, h3, h4, h5⟩
  · refine .inl ⟨d, ds, h1, h2, h3, h4, ?_⟩
    rw [h5]
    exact giveB sub k
  · refine .inr ⟨p, xs, h1, h2, h3, h4, ?_⟩
    rw [if_neg Bool.false_ne_true, h5]
    exact giveB sub k
theorem o_notIn : OpT K (rNotInA K) fNotIn := fun t u w q Hi H x y F G sub rt ru Q k => by
  obtain ⟨b, q1, rfl⟩ := Option.map_eq_some_iff.mp q
  rcases in_core q1 sub rt ru with ⟨d, ds, h1, h2, h3, h4, h5⟩ | ⟨p, xs, h1, h2, h3, h4, h5⟩
  · refine .inl ⟨d, ds, h1, h2, h3, h4, ?_⟩
    rw [h5]
    exact giveB sub k
  · refine .inr ⟨p, xs, h1, h2, h3, h4, ?_⟩
    rw [if_pos rfl, h5]
    exact giveB sub k

/-! ### subscripts, slices -/
def fIx : Tr → Tr → Option Tr
  | .imm (.tuple ds), .imm (.int i) => (atI ds i).map Tr.imm
  | .imm (.list ds), .imm (.int i) => (atI ds i).map Tr.imm
  | .lst ts, .imm (.int i) => (atI ts i).bind fun t => match t with
    | .imm d => some (.imm d)
    | _ => none
  | .imm (.str z), .imm (.int i) => if z.length ≤ 16777216 then (atI z.cps.toList i).map fun c => .imm (.str ⟨#[c]⟩) else none
  | _, _ => none
theorem o_ix : OpT K (rIx K) fIx := fun t u w q Hi H x y F G sub rt ru Q k => by
  unfold fIx at q
  split at q
  · obtain ⟨d, e1, rfl⟩ := Option.map_eq_some_iff.mp q
    obtain ⟨rfl, _⟩ := ru.int_inv
    obtain ⟨hd, _⟩ := rt.imm_inv
    cases hd with
    | @tup a vs _ hs ha =>
      obtain ⟨j, v, j1, j2, j3, j4⟩ := atI_len (xs := vs) (dpAll_len ha) e1
      obtain ⟨v', e4, hv⟩ := dpAll_at ha j2
      rw [j3] at e4
      cases e4
      exact .inr (.inl ⟨a, vs, _, _, rfl, rfl, seqT sub hs, j4, give sub hv k⟩)
  · obtain ⟨d, e1, rfl⟩ := Option.map_eq_some_iff.mp q
    obtain ⟨rfl, _⟩ := ru.int_inv
    obtain ⟨hd, _⟩ := rt.imm_inv
    cases hd with
    | @lst a vs _ hs ha =>
      obtain ⟨j, v, j1, j2, j3, j4⟩ := atI_len (xs := vs) (dpAll_len ha) e1
      obtain ⟨v', e4, hv⟩ := dpAll_at ha j2
      rw [j3] at e4
      cases e4
      exact .inl ⟨a, vs, _, _, rfl, rfl, sub.seq hs, j4, give sub hv k⟩
  · obtain ⟨t0, e1, q⟩ := Option.bind_eq_some_iff.mp q
    split at q
    · cases q
      obtain ⟨rfl, _⟩ := ru.int_inv
      cases rt with
      | @lst a vs _ F1 h1 h2 h3 h4 =>
        obtain ⟨j, v, j1, j2, j3, j4⟩ := atI_len (xs := vs) h3.length e1
        obtain ⟨v', G, e4, hv, _⟩ := h3.get j2
        rw [j3] at e4
        cases e4
        exact .inl ⟨a, vs, _, _, rfl, rfl, SqL.of h1, j4, give sub hv.imm_inv.1 k⟩
    · cases q
  · split at q
    · rename_i hz
      obtain ⟨c, e1, rfl⟩ := Option.map_eq_some_iff.mp q
      obtain ⟨rfl, _⟩ := ru.int_inv
      obtain ⟨rfl, _⟩ := rt.str_inv
      exact .inr (.inr ⟨_, _, c, rfl, rfl, by rw [sizeLine_eq]; exact hz, e1, give sub (.str _) k⟩)
    · cases q
  · cases q
def cutL {α : Type} (xs : List α) (lo hi : Option Int) : List α := (xs.drop (HT.sIx xs.length 0 lo)).take (HT.sIx xs.length xs.length hi - HT.sIx xs.length 0 lo)
theorem dpAll_drop : ∀ {vs : List V} {ds : List PyData} (n : Nat), DpAll K H vs ds → DpAll K H (vs.drop n) (ds.drop n)
  | _, _, 0, h => h
  | _, _, _ + 1, .nil => .nil
  | _, _, n + 1, .cons _ t => dpAll_drop n t
theorem dpAll_take : ∀ {vs : List V} {ds : List PyData} (n : Nat), DpAll K H vs ds → DpAll K H (vs.take n) (ds.take n)
  | _, _, 0, _ => .nil
  | _, _, _ + 1, .nil => .nil
  | _, _, n + 1, .cons a t => .cons a (dpAll_take n t)
theorem dpAll_cut {vs : List V} {ds : List PyData} (h : DpAll K H vs ds) (lo hi : Option Int) : DpAll K H (cutV vs lo hi) (cutL ds lo hi) := by
  unfold cutV cutL
  rw [dpAll_len h]
  exact dpAll_take _ (dpAll_drop _ h)
def rSlX (K : PySem.W.Frag) : V → Option Int → Option Int → Hp → VK → Prop := fun x lo hi H Q => rSlL K x lo hi H Q ∨ rSlA K x lo hi H Q ∨ rSlS x lo hi H Q
theorem sl_any {X : Cx} : SlR X (rSlX X.K) := by
  intro pins s σ H x v vl vu lo hi sl Q I rx hs pl pu h
  rcases h with h | h | h
  · exact sl_list pins s σ H x v vl vu lo hi sl Q I rx hs pl pu h
  · exact sl_tupA pins s σ H x v vl vu lo hi sl Q I rx hs pl pu h
  · exact sl_str pins s σ H x v vl vu lo hi sl Q I rx hs pl pu h
def fSl (t : Tr) (lo hi : Option Int) : Option Tr := match t with
  | .imm (.str z) => if z.length ≤ 16777216 then some (.imm (.str (cutS z lo hi))) else none
  | t => (seqOf t).map fun p => if p.1 = true then .imm (.tuple (cutL p.2 lo hi)) else .lst ((cutL p.2 lo hi).map Tr.imm)
theorem cut_whole {α : Type} {xs : List α} {lo hi : Option Int} (h : HT.sIx xs.length 0 lo = 0 ∧ HT.sIx xs.length xs.length hi = xs.length) : cutL xs lo hi = xs := by
  unfold cutL
  rw [h.1, h.2]
  simp
theorem o_sl : SlT K (rSlX K) fSl := fun t lo hi w q Hi H x F sub rt Q k => by
  unfold fSl at q
  split at q
  · split at q
    · rename_i hz
      cases q
      obtain ⟨rfl, _⟩ := rt.str_inv
      exact .inr (.inr ⟨_, rfl, by rw [sizeLine_eq]; exact hz, give sub (.str _) k⟩)
    · cases q
  · obtain ⟨⟨b, ds⟩, q1, rfl⟩ := Option.map_eq_some_iff.mp q
    obtain ⟨a, vs, rfl, ha, hT, hL⟩ := seq_ok sub rt q1
    cases b with
    | true =>
      have hc := dpAll_cut ha lo hi
      refine .inr (.inl ⟨a, vs, rfl, hT rfl, fun hw => ?_, fun _ => giveT sub hc k⟩)
      have e1 : cutL ds lo hi = ds := cut_whole (by rw [← dpAll_len ha]; exact hw)
      have e2 : cutV vs lo hi = vs := cut_whole hw
      rw [e1] at k
      -- the whole tuple is the tuple itself
      have hd : Dp K Hi (.ref a) (.tuple ds) := by
        clear k hc
        unfold seqOf at q1
        split at q1
        · cases q1
          exact rt.imm_inv.1
        · cases q1
        · obtain ⟨_, _, z⟩ := Option.map_eq_some_iff.mp q1
          cases z
        · cases q1
      exact give sub hd k
    | false => exact .inl ⟨a, vs, rfl, hL rfl, giveL sub (dpAll_cut ha lo hi) k⟩

/-! ### built-ins -/
theorem RepVs.nil_inv {xs : List V} (h : RepVs K Hi H xs []) : xs = [] := by
  cases h
  rfl
theorem RepVs.one_inv {xs : List V} {t : Tr} (h : RepVs K Hi H xs [t]) : ∃ x F, xs = [x] ∧ RepT K Hi H x t F := by
  cases h with
  | cons r rs =>
    cases rs
    exact ⟨_, _, rfl, r⟩
theorem RepVs.two_inv {xs : List V} {t u : Tr} (h : RepVs K Hi H xs [t, u]) : ∃ x y F G, xs = [x, y] ∧ RepT K Hi H x t F ∧ RepT K Hi H y u G := by
  cases h with
  | cons r rs =>
    obtain ⟨y, G, rfl, s⟩ := rs.one_inv
    exact ⟨_, _, _, _, rfl, r, s⟩
def rLenA (K : PySem.W.Frag) : List V → Hp → VK → Prop := fun xs H Q => (∃ p ys, xs = [.ref p] ∧ (SqL K H p ys ∨ SqT K H p ys) ∧ Q (.int ys.length) H) ∨ (∃ z, xs = [.str z] ∧ z.length ≤ sizeLine ∧ Q (.int z.length) H) ∨ (∃ a kvs, xs = [V.ref a] ∧ H a = some (.dK kvs) ∧ Q (.int kvs.length) H)
theorem call_lenA {X : Cx} : CallR X (.builtin "len") (rLenA X.K) := CallR.or call_len_seq (CallR.or call_len_str call_lenD)
def lenT : Tr → Option Nat
  | .imm (.tuple ds) => some ds.length
  | .imm (.list ds) => some ds.length
  | .lst ts => some ts.length
  | .dic kvs => some kvs.length
  | .imm (.str z) => if z.length ≤ 16777216 then some z.length else none
  | _ => none
def fLen : List Tr → Option Tr
  | [t] => (lenT t).map fun n => .imm (.int (n : Int))
  | _ => none
theorem c_len : CallT K (rLenA K) fLen := fun ts w q Hi H xs sub r Q k => by
  unfold fLen at q
  split at q
  · obtain ⟨n, q1, rfl⟩ := Option.map_eq_some_iff.mp q
    obtain ⟨x, F, rfl, rt⟩ := r.one_inv
    unfold lenT at q1
    split at q1
    · cases q1
      obtain ⟨hd, _⟩ := rt.imm_inv
      cases hd with
      | tup hs ha =>
        refine .inl ⟨_, _, rfl, .inr (seqT sub hs), ?_⟩
        rw [dpAll_len ha]
        exact giveI sub k
    · cases q1
      obtain ⟨hd, _⟩ := rt.imm_inv
      cases hd with
      | lst hs ha =>
        refine .inl ⟨_, _, rfl, .inl (sub.seq hs), ?_⟩
        rw [dpAll_len ha]
        exact giveI sub k
    · cases q1
      cases rt with
      | lst h1 h2 h3 h4 =>
        refine .inl ⟨_, _, rfl, .inl (SqL.of h1), ?_⟩
        rw [h3.length]
        exact giveI sub k
    · cases q1
      cases rt with
      | dic h1 h2 h3 =>
        refine .inr (.inr ⟨_, _, rfl, h1, ?_⟩)
        rw [Paired.length h3]
        exact giveI sub k
    · split at q1
      · rename_i hz
        cases q1
        obtain ⟨rfl, _⟩ := rt.str_inv
        exact .inr (.inl ⟨_, rfl, by rw [sizeLine_eq]; exact hz, giveI sub k⟩)
      · cases q1
    · cases q1
  · cases q
def fAbs : List Tr → Option Tr
  | [.imm (.int i)] => some (.imm (.int (if i < 0 then -i else i)))
  | _ => none
theorem c_abs : CallT K (fun xs H Q => ∃ i, xs = [.int i] ∧ Q (.int (if i < 0 then -i else i)) H) fAbs := fun ts w q Hi H xs sub r Q k => by
  unfold fAbs at q
  split at q
  · cases q
    obtain ⟨x, F, rfl, rt⟩ := r.one_inv
    obtain ⟨rfl, _⟩ := rt.int_inv
    exact ⟨_, rfl, giveI sub k⟩
  · cases q
def fMax2 : List Tr → Option Tr
  | [.imm (.int i), .imm (.int j)] => some (.imm (.int (if j > i then j else i)))
  | _ => none
theorem c_max2 : CallT K (fun xs H Q => ∃ i j, xs = [.int i, .int j] ∧ Q (.int (if j > i then j else i)) H) fMax2 := fun ts w q Hi H xs sub r Q k => by
  unfold fMax2 at q
  split at q
  · cases q
    obtain ⟨x, y, F, G, rfl, rt, ru⟩ := r.two_inv
    obtain ⟨rfl, _⟩ := rt.int_inv
    obtain ⟨rfl, _⟩ := ru.int_inv
    exact ⟨_, _, rfl, giveI sub k⟩
  · cases q
def fMin2 : List Tr → Option Tr
  | [.imm (.int i), .imm (.int j)] => some (.imm (.int (if j < i then j else i)))
  | _ => none
theorem c_min2 : CallT K (fun xs H Q => ∃ i j, xs = [.int i, .int j] ∧ Q (.int (if j < i then j else i)) H) fMin2 := fun ts w q Hi H xs sub r Q k => by
  unfold fMin2 at q
  split at q
  · cases q
    obtain ⟨x, y, F, G, rfl, rt, ru⟩ := r.two_inv
    obtain ⟨rfl, _⟩ := rt.int_inv
    obtain ⟨rfl, _⟩ := ru.int_inv
    exact ⟨_, _, rfl, giveI sub k⟩
  · cases q
def fInt1 : List Tr → Option Tr
  | [.imm (.int i)] => some (.imm (.int i))
  | [.imm (.bool b)] => some (.imm (.int (if b then 1 else 0)))
  | _ => none
theorem c_int1 : CallT K (fun xs H Q => (∃ i, xs = [.int i] ∧ Q (.int i) H) ∨ ∃ k, xs = [.bl k] ∧ Q (.int (if k then 1 else 0)) H) fInt1 := fun ts w q Hi H xs sub r Q k => by
  unfold fInt1 at q
  split at q
  · cases q
    obtain ⟨x, F, rfl, rt⟩ := r.one_inv
    obtain ⟨rfl, _⟩ := rt.int_inv
    exact .inl ⟨_, rfl, giveI sub k⟩
  · cases q
    obtain ⟨x, F, rfl, rt⟩ := r.one_inv
    obtain ⟨rfl, _⟩ := rt.bl_inv
    exact .inr ⟨_, rfl, giveI sub k⟩
  · cases q
/-- all ints, all truths -/
def intsOf : List PyData → Option (List Int)
  | [] => some []
  | .int i :: ds => (intsOf ds).map (i :: ·)
  | _ :: _ => none
theorem intsOf_ok : ∀ {ds : List PyData} {vs : List V} {ns : List Int}, DpAll K H vs ds → intsOf ds = some ns → vs = ns.map V.int
  | [], _, _, h, q => by
    cases h
    cases q
    rfl
  | .int i :: ds, _, _, h, q => by
    obtain ⟨ns, q1, rfl⟩ := Option.map_eq_some_iff.mp q
    cases h with
    | cons h1 h2 =>
      cases h1
      rw [intsOf_ok h2 q1]
      rfl
  | .none :: _, _, _, _, q => by cases q
  | .bool _ :: _, _, _, _, q => by cases q
  | .str _ :: _, _, _, _, q => by cases q
  | .list _ :: _, _, _, _, q => by cases q
  | .tuple _ :: _, _, _, _, q => by cases q
  | .dict _ :: _, _, _, _, q => by cases q
theorem intsOf_map (ns : List Int) : intsOf (ns.map PyData.int) = some ns := by
  induction ns with
  | nil => rfl
  | cons n ns ih => rw [List.map_cons, intsOf, ih]; rfl
def boolsOf : List PyData → Option (List Bool)
  | [] => some []
  | .bool i :: ds => (boolsOf ds).map (i :: ·)
  | _ :: _ => none
theorem boolsOf_ok : ∀ {ds : List PyData} {vs : List V} {ns : List Bool}, DpAll K H vs ds → boolsOf ds = some ns → vs = ns.map V.bl
  | [], _, _, h, q => by
    cases h
    cases q
    rfl
  | .bool i :: ds, _, _, h, q => by
    obtain ⟨ns, q1, rfl⟩ := Option.map_eq_some_iff.mp q
    cases h with
    | cons h1 h2 =>
      cases h1
      rw [boolsOf_ok h2 q1]
      rfl
  | .none :: _, _, _, _, q => by cases q
  | .int _ :: _, _, _, _, q => by cases q
  | .str _ :: _, _, _, _, q => by cases q
  | .list _ :: _, _, _, _, q => by cases q
  | .tuple _ :: _, _, _, _, q => by cases q
  | .dict _ :: _, _, _, _, q => by cases q
theorem boolsOf_map (ns : List Bool) : boolsOf (ns.map PyData.bool) = some ns := by
  induction ns with
  | nil => rfl
  | cons n ns ih => rw [List.map_cons, boolsOf, ih]; rfl
/-- the items of a list -/
def lstD (t : Tr) : Option (List PyData) := (seqOf t).bind fun p => if p.1 = true then none else some p.2
theorem lstD_ok {x : V} {t : Tr} {F : List Addr} {ds : List PyData} (sub : Same Hi H) (r : RepT K Hi H x t F) (q : lstD t = some ds) : ∃ a vs, x = .ref a ∧ DpAll K Hi vs ds ∧ SqL K H a vs := by
  unfold lstD at q
  obtain ⟨⟨b, es⟩, q1, q⟩ := Option.bind_eq_some_iff.mp q
  cases b with
  | true => cases q
  | false =>
    cases q
    obtain ⟨a, vs, e, ha, _, hL⟩ := seq_ok sub r q1
    exact ⟨a, vs, e, ha, hL rfl⟩
def fSum : List Tr → Option Tr
  | [t] => (lstD t).bind fun ds => (intsOf ds).map fun ns => .imm (.int ns.sum)
  | _ => none
theorem c_sum : CallT K (rSum K) fSum := fun ts w q Hi H xs sub r Q k => by
  unfold fSum at q
  split at q
  · obtain ⟨ds, q1, q⟩ := Option.bind_eq_some_iff.mp q
    obtain ⟨ns, q2, rfl⟩ := Option.map_eq_some_iff.mp q
    obtain ⟨x, F, rfl, rt⟩ := r.one_inv
    obtain ⟨a, vs, rfl, ha, hL⟩ := lstD_ok sub rt q1
    have e := intsOf_ok ha q2
    subst e
    exact ⟨a, ns, rfl, hL, giveI sub k⟩
  · cases q
def fAll : List Tr → Option Tr
  | [t] => (lstD t).bind fun ds => (boolsOf ds).map fun ns => .imm (.bool (ns.all id))
  | _ => none
theorem c_all : CallT K (rAll K) fAll := fun ts w q Hi H xs sub r Q k => by
  unfold fAll at q
  split at q
  · obtain ⟨ds, q1, q⟩ := Option.bind_eq_some_iff.mp q
    obtain ⟨ns, q2, rfl⟩ := Option.map_eq_some_iff.mp q
    obtain ⟨x, F, rfl, rt⟩ := r.one_inv
    obtain ⟨a, vs, rfl, ha, hL⟩ := lstD_ok sub rt q1
    have e := boolsOf_ok ha q2
    subst e
    exact ⟨a, ns, rfl, hL, giveB sub k⟩
  · cases q
def fAny : List Tr → Option Tr
  | [t] => (lstD t).bind fun ds => (boolsOf ds).map fun ns => .imm (.bool (ns.any id))
  | _ => none
theorem c_any : CallT K (rAny K) fAny := fun ts w q Hi H xs sub r Q k => by
  unfold fAny at q
  split at q
  · obtain ⟨ds, q1, q⟩ := Option.bind_eq_some_iff.mp q
    obtain ⟨ns, q2, rfl⟩ := Option.map_eq_some_iff.mp q
    obtain ⟨x, F, rfl, rt⟩ := r.one_inv
    obtain ⟨a, vs, rfl, ha, hL⟩ := lstD_ok sub rt q1
    have e := boolsOf_ok ha q2
    subst e
    exact ⟨a, ns, rfl, hL, giveB sub k⟩
  · cases q
/-- tuple(x), list(x) -/
def fTuple : List Tr → Option Tr
  | [t] => (seqOf t).map fun p => .imm (.tuple p.2)
  | _ => none
theorem c_tuple : CallT K (fun xs H Q => ∃ p ys, xs = [.ref p] ∧ ((SqL K H p ys ∧ ∀ l, H l = none → Q (.ref l) (upd H l (.tup ys))) ∨ (SqT K H p ys ∧ Q (.ref p) H))) fTuple := fun ts w q Hi H xs sub r Q k => by
  unfold fTuple at q
  split at q
  · obtain ⟨⟨b, ds⟩, q1, rfl⟩ := Option.map_eq_some_iff.mp q
    obtain ⟨x, F, rfl, rt⟩ := r.one_inv
    obtain ⟨a, vs, rfl, ha, hT, hL⟩ := seq_ok sub rt q1
    cases b with
    | true =>
      have hd : Dp K Hi (.ref a) (.tuple ds) := by
        clear k
        unfold seqOf at q1
        split at q1
        · cases q1
          exact rt.imm_inv.1
        · cases q1
        · obtain ⟨_, _, z⟩ := Option.map_eq_some_iff.mp q1
          cases z
        · cases q1
      exact ⟨a, vs, rfl, .inr ⟨hT rfl, give sub hd k⟩⟩
    | false => exact ⟨a, vs, rfl, .inl ⟨hL rfl, giveT sub ha k⟩⟩
  · cases q
def fList : List Tr → Option Tr
  | [t] => (seqOf t).map fun p => .lst (p.2.map Tr.imm)
  | _ => none
theorem c_list : CallT K (fun xs H Q => ∃ p ys, xs = [.ref p] ∧ (SqL K H p ys ∨ SqT K H p ys) ∧ ∀ l, H l = none → Q (.ref l) (upd H l (.lst ys))) fList := fun ts w q Hi H xs sub r Q k => by
  unfold fList at q
  split at q
  · obtain ⟨⟨b, ds⟩, q1, rfl⟩ := Option.map_eq_some_iff.mp q
    obtain ⟨x, F, rfl, rt⟩ := r.one_inv
    obtain ⟨a, vs, rfl, ha, hT, hL⟩ := seq_ok sub rt q1
    refine ⟨a, vs, rfl, ?_, giveL sub ha k⟩
    cases b with
    | true => exact .inr (hT rfl)
    | false => exact .inl (hL rfl)
  · cases q
/-- sorted(xs), xs a list of ints -/
def insI (x : Int) : List Int → List Int
  | [] => [x]
  | y :: r => if x ≤ y then x :: y :: r else y :: insI x r
def srtI : List Int → List Int
  | [] => []
  | x :: r => insI x (srtI r)
theorem insI_perm (x : Int) : ∀ r : List Int, (insI x r).Perm (x :: r)
  | [] => List.Perm.refl _
  | y :: r => by
    unfold insI
    split
    · exact List.Perm.refl _
    · exact ((insI_perm x r).cons y).trans (List.Perm.swap x y r)
theorem srtI_perm : ∀ r : List Int, (srtI r).Perm r
  | [] => List.Perm.refl _
  | x :: r => (insI_perm x (srtI r)).trans ((srtI_perm r).cons x)
theorem insI_sorted (x : Int) : ∀ r : List Int, r.Pairwise (· ≤ ·) → (insI x r).Pairwise (· ≤ ·)
  | [], _ => List.pairwise_singleton _ _
  | y :: r, h => by
    unfold insI
    obtain ⟨h1, h2⟩ := List.pairwise_cons.mp h
    split
    · rename_i hxy
      exact List.pairwise_cons.mpr ⟨fun z hz => (List.mem_cons.mp hz).elim (fun e => e ▸ hxy) fun m => Int.le_trans hxy (h1 z m), h⟩
    · rename_i hxy
      refine List.pairwise_cons.mpr ⟨fun z hz => ?_, insI_sorted x r h2⟩
      rcases List.mem_cons.mp ((insI_perm x r).mem_iff.mp hz) with e | m
      · omega
      · exact h1 z m
theorem srtI_sorted : ∀ r : List Int, (srtI r).Pairwise (· ≤ ·)
  | [] => List.Pairwise.nil
  | x :: r => insI_sorted x _ (srtI_sorted r)
theorem srt_one : ∀ {a b : List Int}, a.Perm b → a.Pairwise (· ≤ ·) → b.Pairwise (· ≤ ·) → a = b := fun p ha hb => p.eq_of_pairwise (fun x y _ _ h1 h2 => Int.le_antisymm h1 h2) ha hb
def fSorted : List Tr → Option Tr
  | [t] => (lstD t).bind fun ds => (intsOf ds).map fun ns => .lst (((srtI ns).map PyData.int).map Tr.imm)
  | _ => none
theorem c_sorted : CallT K (rSortedI K) fSorted := fun ts w q Hi H xs sub r Q k => by
  unfold fSorted at q
  split at q
  · obtain ⟨ds, q1, q⟩ := Option.bind_eq_some_iff.mp q
    obtain ⟨ns, q2, rfl⟩ := Option.map_eq_some_iff.mp q
    obtain ⟨x, F, rfl, rt⟩ := r.one_inv
    obtain ⟨a, vs, rfl, ha, hL⟩ := lstD_ok sub rt q1
    have e := intsOf_ok ha q2
    subst e
    refine ⟨a, ns, rfl, hL, fun ns' p hp hs hf => ?_⟩
    have e2 : ns' = srtI ns := srt_one (hp.trans (srtI_perm ns).symm) hs (srtI_sorted ns)
    subst e2
    exact giveL sub (ints_dp (K := K) (srtI ns)) k p hf
  · cases q
/-- str(n) -/
def fStrI : List Tr → Option Tr
  | [.imm (.int i)] => if i.natAbs.log2 < 1920 then some (.imm (.str (toString i))) else none
  | _ => none
theorem c_str : CallT K (fun xs H Q => ∃ i, xs = [.int i] ∧ i.natAbs.log2 < 1920 ∧ Q (.str (toString i)) H) fStrI := fun ts w q Hi H xs sub r Q k => by
  unfold fStrI at q
  split at q
  · split at q
    · rename_i hl
      cases q
      obtain ⟨x, F, rfl, rt⟩ := r.one_inv
      obtain ⟨rfl, _⟩ := rt.int_inv
      exact ⟨_, rfl, hl, give sub (.str _) k⟩
    · cases q
  · cases q
end
end FL

/-! FL, part Q: what is walked. -/
namespace FL
open PySem PySem.Spec PyProof.Rows L2

/-! ### enumerate(v) of what begins with one new iterator -/
theorem meets_enum1 {v : Value} {o : Obj} {T : Heap → Prop} (B : Begins v o T) : Meets (Builtin.«enumerate.__new__» ⟨[.type "enumerate", v], []⟩) (fun _ R s => T s.heap ∧
      R (.ok (.ret (.ref (s.heap.push o).objs.size))) { s with heap := (s.heap.push o).push { cls := .type "enumerate", data := .fields #[.none, .bool false, .ref s.heap.objs.size, rawInt 0, .none, .none] } }) :=
  .of_wp fun prog w A R s h => by
    obtain ⟨hp, g, d, tk, os⟩ := s
    obtain ⟨h1, h⟩ := h
    have hsub := sub_enumerate
    have q1 : ∀ {A' : Around} {E : Value → Shared → Prop} {Q : Value → Shared → Prop}, Q (.ref hp.objs.size) ⟨hp.push o, g, d, tk, os⟩ → wpAny (model prog w) A' (pyIter v) Q E ⟨hp, g, d, tk, os⟩ :=
      fun q => B.iter prog w _ _ ⟨hp, g, d, tk, os⟩ _ h1 q
    wp_walk using q1
    refine wpAny_stack_any fun st => wpAny_pure ?_
    split
    · rename_i c _ _ _ _ _
      cases (c == Value.type "enumerate") <;> (wp_walk using q1; exact ⟨_, rfl, h⟩)
    · wp_walk using q1
      exact ⟨_, rfl, h⟩
section
variable {prog : Program} {w : World} {A : Around} {E : Value → Shared → Prop} {s : Shared}
theorem call_enum1 {v : Value} {o : Obj} {T : Heap → Prop} {Q : Value → Shared → Prop} (B : Begins v o T) (h1 : T s.heap)
    (h : ∀ h', IsEnum h' (s.heap.objs.size + 1) s.heap.objs.size 0 .none → h'.get? s.heap.objs.size = some o → (∀ b ob, s.heap.get? b = some ob → h'.get? b = some ob) → Q (.ref (s.heap.objs.size + 1)) { s with heap := h' }) :
    wpAny (model prog w) A (call (.type "enumerate") [v]) Q E s := by
  refine callType_new F.called_enumerate (by decide) (F.typeCall_enumerate_1 _) (F.newCall_enumerate_1 _) (fun obj => F.args_object_init_2 obj _) F.entry_enumerate_new (meets_enum1 B) ⟨h1, ?_⟩
  have hz : (s.heap.push o).objs.size = s.heap.objs.size + 1 := Heap.size_push ..
  have he := Heap.get?_push_size (s.heap.push o) (o := { cls := .type "enumerate", data := .fields #[.none, .bool false, .ref s.heap.objs.size, rawInt 0, .none, .none] }) rfl
  rw [hz] at he ⊢
  exact ⟨⟨_, he, rfl⟩, h _ he (Heap.get?_push_of_some _ (Heap.get?_push_size _ B.free)) fun b ob x => Heap.get?_push_of_some _ (Heap.get?_push_of_some _ x)⟩
end
/-- the tuple at a, each item in a new pair -/
def IteT (K : PySem.W.Frag) (a : Addr) : It :=
  ⟨fun i H => ∃ (xs : List V) (x : V), SqT K H a xs ∧ xs[i]? = some x, fun i H v H' => ∃ T x, v = .ref T ∧ H T = none ∧ H' = upd H T (.tup [.int (i : Nat), x]) ∧ ∀ xs, SqT K H a xs → xs[i]? = some x, fun i H => ∃ xs : List V, SqT K H a xs ∧ xs.length ≤ i⟩
theorem turn_enumT {P : Program} {w : World} {K : PySem.W.Frag} {elts : List Expr} {kk : Nat} {tpos : Pos} (a e it : Addr) :
    Turn P w K (.Tuple elts kk tpos) (IteT K a) [e, it] e (fun i h => (∃ old, IsEnum h e it ((i : Nat) : Int) old) ∧ h.IsTupleIter it a i ∧ e ≠ it ∧ a ≠ it ∧ e ≠ a) where
  mem := by simp
  obj := fun i h st b hb => by
    obtain ⟨⟨old, he⟩, ⟨o, ho, hc, hd⟩, _⟩ := st
    rcases (by simpa using hb : b = e ∨ b = it) with z | z
    · rw [z]; exact ⟨_, he, fun v q => nomatch q⟩
    · rw [z]; exact ⟨o, ho, fun v q => by rw [hd] at q; cases q⟩
  keep := fun i h h' st k => let ⟨⟨old, he⟩, hi, rest⟩ := st; ⟨⟨old, k e (by simp) _ he⟩, hi.at fun o q => k it (by simp) o q, rest⟩
  item := by
    intro X hP hw hK hc i pins s σ H E I hf st hg
    subst hP hw hK
    obtain ⟨⟨old, he⟩, hit, hne, hat, hae⟩ := st
    obtain ⟨xs, x, hq, hx⟩ := hg
    obtain ⟨its, rv, p, hz⟩ := I.tuple hq
    obtain ⟨u, hu, ru⟩ := rv.get hx
    have hel : e < s.heap.objs.size := Heap.lt_size he
    have hil : it < s.heap.objs.size := by obtain ⟨_, q, _⟩ := hit; exact Heap.lt_size q
    have hlt : i < its.toArray.size := by
      rw [List.size_toArray]
      exact (List.getElem?_eq_some_iff.mp hu).1
    have D := Draws.tuple (prog := X.prog) (w := X.w) (A := X.A.in1) (I.ok.hd hc) it a hat its.toArray
    refine wpAny_pyNext_enum_itemD D he ⟨hit, p⟩ hlt hne (by simp [hne, hae]) fun x' h' tk hP ho st' hT hsz hk => ?_
    have ex : x' = u := by
      have hP' : its.toArray[i]? = some x' := hP
      have : its[i]? = some x' := by simpa using hP'
      rw [hu] at this
      exact (Option.some.inj this).symm
    subst ex
    refine ⟨_, rfl, wpAny_letOwnedTupleGo_enum (s := { s with heap := h', toks := tk + 1 }) ho fun h'' he' sb => ?_⟩
    have hT2 : h''.get? s.heap.objs.size = some { cls := .type "tuple", data := .seq #[.int i tk, x'] } := (sb.2 _ (Nat.ne_of_gt hel)).trans hT
    have new : ObjOk X.prog X.w (upd H s.heap.objs.size (.tup [.int (i : Nat), x])) h'' s.heap.objs.size (.tup [.int (i : Nat), x]) :=
      ⟨by show 2 ≤ sizeLine; decide, [.int i tk, x'], .cons ⟨_, rfl⟩ (.cons ru .nil), ⟨_, hT2, rfl, _, rfl⟩⟩
    have I1 : Inv X pins σ (upd H s.heap.objs.size (.tup [.int (i : Nat), x])) { s with heap := h'', toks := tk + 1 } :=
      I.turnedNew (ch := [e, it]) (fun b ob hb q => (sb.2 b (fun z => hb (by simp [z]))).trans (hk b ob (fun z => hb (by simp [z])) (fun z => hb (by simp [z])) q)) hf (Nat.le_refl _) new
    refine ⟨.ref s.heap.objs.size, _, I1, rfl, ⟨_, x, rfl, I.hok.fresh (Nat.le_refl _), rfl, fun ys hy => by rw [I.tuple_inj hy hq]; exact hx⟩, ⟨⟨x', ?_⟩, st'.1.at fun o q => (sb.2 it (Ne.symm hne)).trans q, hne, hat, hae⟩, fun b hb => ?_⟩
    · rw [show ((i + 1 : Nat) : Int) = (i : Int) + 1 by omega]
      exact he'
    · have hb' : b < s.heap.objs.size := by
        rcases (by simpa using hb : b = e ∨ b = it) with z | z
        · rw [z]; exact hel
        · rw [z]; exact hil
      rw [upd_ne (Nat.ne_of_lt hb')]
      exact (hf b hb).1
  done := by
    intro X hP hw hK hc i pins s σ H E I hf st hg
    subst hP hw hK
    obtain ⟨⟨old, he⟩, hit, hne, hat, hae⟩ := st
    obtain ⟨xs, hq, hx⟩ := hg
    obtain ⟨its, rv, p, hz⟩ := I.tuple hq
    obtain ⟨f0, f1, f2, f3, f4, f5⟩ := hf it (by simp)
    have hl := rv.length
    have D := Draws.tuple (prog := X.prog) (w := X.w) (A := X.A.in1) (I.ok.hd hc) it a hat its.toArray
    -- the walk may be told for any place at the end or beyond
    have hit' : its.toArray[i]? = none := by simp; omega
    unfold pyNext
    have hT : s.TypeIs (.ref e) "enumerate" := ⟨_, he, rfl⟩
    refine wpAny_bind (wpAny_attempt (wpAny_callSpecial?_slot (name := Str.ofString "__next__") hT PySem.F.slot_enumerate_next (wpAny_call_entry PySem.F.slot_enumerate_next hT PySem.F.entry_enumerate_next ?_ (PySem.F.args_enumerate_next_1 _))))
    show wpAny _ _ (field (.ref e) 2 >>= _) _ _ _
    refine wpAny_bind (wpAny_field he rfl (x := .ref it) rfl ?_)
    refine wpAny_bind (wpAny_nextOf_tuple_end (I.ok.hd hc) hit (show s.heap.IsTuple a its.toArray from p) hit' fun h' y eb hy => ?_)
    obtain ⟨o, ho, hcl⟩ := hy
    exact wpAny_bind (wpAny_isInstance (T := "StopIteration") (b := true) ⟨o, ho, hcl⟩ isSubtype_stop (wpAny_pure ⟨rfl, I.turned (t' := s.toks) (fun b ob hb q => eb b ob hb q) f0 f1 f3 f4 f5⟩))
  self := fun A i s Q E st h => let ⟨⟨_, he⟩, _⟩ := st; wpAny_pyIter_enum he h
/-- enumerate of a list or a tuple -/
def iEnumA (K : PySem.W.Frag) (ta : TA) : TI := fun σ H R => ta σ H fun vs H1 => (∃ a xs, vs = [.ref a] ∧ SqL K H1 a xs ∧ R (Ite K a) H1) ∨ ∃ a xs, vs = [.ref a] ∧ SqT K H1 a xs ∧ R (IteT K a) H1
theorem pi_enumA {X : Cx} {e : Expr} {ta : TA} {p pos tpos : Pos} {elts : List Expr} {kk : Nat} (hg : Gl X "enumerate") (hm : X.mg "enumerate" = none) (ha : PA X [e] ta) (hs : starEach [e] X.env = [(false, eval e X.env)] := by rfl) :
    PI X (.Tuple elts kk tpos) (.Call (.Name "enumerate" p) [e] [] pos) (iEnumA X.K ta) := by
  refine ⟨fun pins s σ H R I h => ?_⟩
  refine Call_ (ld_blt I hg hm boot_enumerate (PyProof.Rows.callWith_type1 (thn (ha.run pos pins s σ H _ I h) fun us s1 ⟨vs, H1, I1, r1, q1⟩ => ?_) hs rfl))
  have fin : ∀ (h' : Heap), (∀ b ob, s1.heap.get? b = some ob → h'.get? b = some ob) → ∀ b ∈ [s1.heap.objs.size + 1, s1.heap.objs.size], FpOk X pins H1 b := fun h' hk b hb => by
    have hle : s1.heap.objs.size ≤ b := by
      rcases (by simpa using hb : b = s1.heap.objs.size + 1 ∨ b = s1.heap.objs.size) with z | z
      · rw [z]; exact Nat.le_add_right _ _
      · rw [z]; exact Nat.le_refl _
    exact I1.fpOk hle (I1.hok.fresh hle)
  rcases q1 with ⟨a, xs, ex, hq, q⟩ | ⟨a, xs, ex, hq, q⟩
  · subst ex
    cases r1 with
    | cons r rr =>
      cases rr
      cases r
      obtain ⟨its, rv, p', hz⟩ := I1.list hq
      refine call_enum1 (begins_list a its.toArray) p'.isList fun h' he hit hk => wpAny_pyIter_enum he ?_
      exact ⟨s1.heap.objs.size + 1, [s1.heap.objs.size + 1, s1.heap.objs.size], _, _, H1, rfl, I1.kept (t' := s1.toks) hk, turn_enum a (s1.heap.objs.size + 1) s1.heap.objs.size, ⟨⟨.none, he⟩, ⟨_, hit, rfl, rfl⟩, Nat.succ_ne_self _⟩, fin h' hk, q⟩
  · subst ex
    cases r1 with
    | cons r rr =>
      cases rr
      cases r
      obtain ⟨its, rv, p', hz⟩ := I1.tuple hq
      have hat : a < s1.heap.objs.size := by obtain ⟨o, ho, _⟩ := p'; exact Heap.lt_size ho
      refine call_enum1 (begins_tuple a its.toArray) (show s1.heap.IsTuple a its.toArray from p') fun h' he hit hk => wpAny_pyIter_enum he ?_
      refine ⟨s1.heap.objs.size + 1, [s1.heap.objs.size + 1, s1.heap.objs.size], _, _, H1, rfl, I1.kept (t' := s1.toks) hk, turn_enumT a (s1.heap.objs.size + 1) s1.heap.objs.size, ⟨⟨.none, he⟩, ⟨_, hit, rfl, rfl⟩, Nat.succ_ne_self _, Nat.ne_of_lt hat, ?_⟩, fin h' hk, q⟩
      exact Nat.ne_of_gt (Nat.lt_succ_of_lt hat)
/-- a list, a tuple, a text -/
def iSeq (K : PySem.W.Frag) (tl : TE) : TI := fun σ H R => tl σ H fun x H1 => (∃ a, x = .ref a ∧ (∃ xs, SqL K H1 a xs) ∧ R (Itl K a) H1) ∨ (∃ a, x = .ref a ∧ (∃ xs, SqT K H1 a xs) ∧ R (Itt K a) H1) ∨ ∃ z, x = .str z ∧ R (Its z) H1
theorem pi_seq {X : Cx} {tg l : Expr} {tl : TE} (hl : PE X l tl) : PI X tg l (iSeq X.K tl) := by
  refine ⟨fun pins s σ H R I h => thn (hl.run pins s σ H _ I h) fun v s1 ⟨x, H1, I1, r1, q1⟩ => ?_⟩
  rcases q1 with ⟨a, e, ⟨xs, hq⟩, q⟩ | ⟨a, e, ⟨xs, hq⟩, q⟩ | ⟨z, e, q⟩
  · subst e
    cases r1
    obtain ⟨its, _, p, _⟩ := I1.list hq
    exact wpAny_pyIter_list p.isList (pi_one (tk := s1.toks) I1 _ (turn_list a _) ⟨_, Heap.get?_push_size _ rfl, rfl, rfl⟩ q)
  · subst e
    cases r1
    obtain ⟨its, _, p, _⟩ := I1.tuple hq
    exact wpAny_pyIter_tuple (show s1.heap.IsTuple a its.toArray from p) (pi_one (tk := s1.toks) I1 _ (turn_tuple a _) ⟨_, Heap.get?_push_size _ rfl, rfl, rfl⟩ q)
  · subst e
    obtain ⟨t, rfl⟩ := r1
    cases ha : z.cps.all (· < 128)
    · exact wpAny_pyIter_wide ha (pi_one (tk := s1.toks) I1 _ (turn_str _ z t "str_iterator" (.inr rfl)) ⟨_, Heap.get?_push_size _ rfl, rfl, rfl⟩ q)
    · exact wpAny_pyIter_ascii ha (pi_one (tk := s1.toks) I1 _ (turn_str _ z t "str_ascii_iterator" (.inl rfl)) ⟨_, Heap.get?_push_size _ rfl, rfl, rfl⟩ q)

section
variable {K : PySem.W.Frag} {A : List V} {Hi H Hi1 H1 Hi' H' : Hp} {σ : L2.St} {E : En} {Fs : Nat → List Addr} {te : TE} {m : MF}
/-! ### their readings -/
theorem itOk_l {a : Addr} {vs : List V} {ds : List PyData} (hs : SqL K Hi1 a vs) (ha : DpAll K Hi1 vs ds) : ItOk K (Itl K a) Hi1 ds :=
  ⟨fun Hi H e s i hi => ⟨vs, s.seq (e.seq hs), by rw [dpAll_len ha]; exact hi⟩, fun Hi H e s i hi => ⟨vs, vs[i]'(by rw [dpAll_len ha]; exact hi), s.seq (e.seq hs), List.getElem?_eq_getElem _⟩,
    fun Hi H e s i d x H' hd hy => by
      obtain ⟨rfl, hy⟩ := hy
      obtain ⟨v, e1, hv⟩ := dpAll_at ha hd
      have e2 := hy vs (s.seq (e.seq hs))
      rw [e1] at e2
      cases e2
      exact ⟨Hi, Grow.refl s, dpMono e _ _ hv⟩⟩
theorem itOk_t {a : Addr} {vs : List V} {ds : List PyData} (hs : SqT K Hi1 a vs) (ha : DpAll K Hi1 vs ds) : ItOk K (Itt K a) Hi1 ds :=
  ⟨fun Hi H e s i hi => ⟨vs, seqT s (seqT e hs), by rw [dpAll_len ha]; exact hi⟩, fun Hi H e s i hi => ⟨vs, vs[i]'(by rw [dpAll_len ha]; exact hi), seqT s (seqT e hs), List.getElem?_eq_getElem _⟩,
    fun Hi H e s i d x H' hd hy => by
      obtain ⟨rfl, hy⟩ := hy
      obtain ⟨v, e1, hv⟩ := dpAll_at ha hd
      have e2 := hy vs (seqT s (seqT e hs))
      rw [e1] at e2
      cases e2
      exact ⟨Hi, Grow.refl s, dpMono e _ _ hv⟩⟩
def charsD (z : Str) : List PyData := z.cps.toList.map fun c => .str ⟨#[c]⟩
theorem itOk_s {z : Str} : ItOk K (Its z) Hi1 (charsD z) :=
  ⟨fun Hi H e s i hi => by
      have : (charsD z).length = z.cps.size := by simp [charsD]
      show z.cps.size ≤ i
      omega, fun Hi H e s i hi => by
      have : (charsD z).length = z.cps.size := by simp [charsD]
      show i < z.cps.size
      omega,
    fun Hi H e s i d x H' hd hy => by
      obtain ⟨rfl, c, e1, rfl⟩ := hy
      unfold charsD at hd
      rw [List.getElem?_map, Array.getElem?_toList, e1] at hd
      cases hd
      exact ⟨Hi, Grow.refl s, .str _⟩⟩
def rangeD (lo : Int) (n : Nat) : List PyData := (List.range n).map fun i => PyData.int (lo + (i : Nat))
theorem itOk_r {lo : Int} {n : Nat} : ItOk K (Itr lo n) Hi1 (rangeD lo n) :=
  ⟨fun Hi H e s i hi => by
      have : (rangeD lo n).length = n := by simp [rangeD]
      show n ≤ i
      omega, fun Hi H e s i hi => by
      have : (rangeD lo n).length = n := by simp [rangeD]
      show i < n
      omega,
    fun Hi H e s i d x H' hd hy => by
      obtain ⟨rfl, rfl⟩ := hy
      unfold rangeD at hd
      rw [List.getElem?_map] at hd
      obtain ⟨j, e1, rfl⟩ := Option.map_eq_some_iff.mp hd
      obtain ⟨_, e2⟩ := List.getElem?_eq_some_iff.mp e1
      rw [List.getElem_range] at e2
      subst e2
      exact ⟨Hi, Grow.refl s, .int _⟩⟩
def enumD (ds : List PyData) : List PyData := ds.zipIdx.map fun p => .tuple [.int (p.2 : Nat), p.1]
theorem enumD_at {ds : List PyData} {i : Nat} {d : PyData} (h : (enumD ds)[i]? = some d) : ∃ e, ds[i]? = some e ∧ d = .tuple [.int (i : Nat), e] := by
  unfold enumD at h
  rw [List.getElem?_map, List.getElem?_zipIdx] at h
  obtain ⟨p, e1, rfl⟩ := Option.map_eq_some_iff.mp h
  obtain ⟨e, e2, rfl⟩ := Option.map_eq_some_iff.mp e1
  refine ⟨e, e2, ?_⟩
  simp
theorem enum_pair {H2 : Hp} {T : Addr} {i : Nat} {v : V} {e : PyData} (sub : Same Hi H) (hv : Dp K Hi v e) (hT : H T = none) : ∃ Hi', Grow Hi H Hi' (upd H T (.tup [.int (i : Nat), v])) [] ∧ Dp K Hi' (.ref T) (.tuple [.int (i : Nat), e]) := by
  have g : Grow Hi H (upd Hi T (.tup [.int (i : Nat), v])) (upd H T (.tup [.int (i : Nat), v])) [] := Grow.imm sub hT
  exact ⟨_, g, .tup (SqT.of upd_same) (.cons (.int _) (.cons (dpMono g.ex _ _ hv) .nil))⟩
theorem itOk_el {a : Addr} {vs : List V} {ds : List PyData} (hs : SqL K Hi1 a vs) (ha : DpAll K Hi1 vs ds) : ItOk K (Ite K a) Hi1 (enumD ds) := by
  have hl : (enumD ds).length = ds.length := by simp [enumD]
  refine ⟨fun Hi H e s i hi => ⟨vs, s.seq (e.seq hs), by rw [dpAll_len ha]; omega⟩, fun Hi H e s i hi => ⟨vs, vs[i]'(by rw [dpAll_len ha]; omega), s.seq (e.seq hs), List.getElem?_eq_getElem _⟩, fun Hi H e s i d x H' hd hy => ?_⟩
  obtain ⟨T, y, rfl, hT, rfl, hy⟩ := hy
  obtain ⟨d', e1, rfl⟩ := enumD_at hd
  obtain ⟨v, e2, hv⟩ := dpAll_at ha e1
  have e3 := hy vs (s.seq (e.seq hs))
  rw [e2] at e3
  cases e3
  exact enum_pair (H2 := H) s (dpMono e _ _ hv) hT
theorem itOk_et {a : Addr} {vs : List V} {ds : List PyData} (hs : SqT K Hi1 a vs) (ha : DpAll K Hi1 vs ds) : ItOk K (IteT K a) Hi1 (enumD ds) := by
  have hl : (enumD ds).length = ds.length := by simp [enumD]
  refine ⟨fun Hi H e s i hi => ⟨vs, seqT s (seqT e hs), by rw [dpAll_len ha]; omega⟩, fun Hi H e s i hi => ⟨vs, vs[i]'(by rw [dpAll_len ha]; omega), seqT s (seqT e hs), List.getElem?_eq_getElem _⟩, fun Hi H e s i d x H' hd hy => ?_⟩
  obtain ⟨T, y, rfl, hT, rfl, hy⟩ := hy
  obtain ⟨d', e1, rfl⟩ := enumD_at hd
  obtain ⟨v, e2, hv⟩ := dpAll_at ha e1
  have e3 := hy vs (seqT s (seqT e hs))
  rw [e2] at e3
  cases e3
  exact enum_pair (H2 := H) s (dpMono e _ _ hv) hT
/-- range(n), range(a, b) -/
def rngOk (j : Int) : Bool := decide (-(2 ^ 62) ≤ j) && decide (j < 2 ^ 62)
theorem rngOk_ok {j : Int} (h : rngOk j = true) : -(2 ^ 62) ≤ j ∧ j < 2 ^ 62 := by
  unfold rngOk at h
  rw [Bool.and_eq_true, decide_eq_true_eq, decide_eq_true_eq] at h
  exact h
def mRng1 (ms : MA) : MI := fun E => (ms E).bind fun p => (views p.2 p.1).bind fun ts => match ts with
  | [.imm (.int j)] => if rngOk j = true then some (rangeD 0 j.toNat, p.2) else none
  | _ => none
theorem ir_rng1 {ta : TA} {ms : MA} (hs : AR K ta ms) : IR K (iRng1 ta) (mRng1 ms) := fun E ds E' q A σ Hi H Fs h R k => by
  unfold mRng1 at q
  obtain ⟨⟨os, E1⟩, q1, q⟩ := Option.bind_eq_some_iff.mp q
  obtain ⟨ts, q2, q⟩ := Option.bind_eq_some_iff.mp q
  split at q
  · rename_i j
    split at q
    · rename_i hb
      cases q
      refine hs E os E1 q1 A σ Hi H Fs h _ fun vs Hi1 H1 Fs1 G r h1 d s => ?_
      obtain ⟨x, F, rfl, rt⟩ := (h1.views r q2).one_inv
      obtain ⟨rfl, _⟩ := rt.int_inv
      obtain ⟨b1, b2⟩ := rngOk_ok hb
      exact ⟨j, rfl, b1, b2, k _ Hi1 H1 Fs1 itOk_r h1 (s.weak fun _ z => .inl z)⟩
    · cases q
  · cases q
def mRng2 (ms : MA) : MI := fun E => (ms E).bind fun p => (views p.2 p.1).bind fun ts => match ts with
  | [.imm (.int i), .imm (.int j)] => if rngOk i = true ∧ rngOk j = true then some (rangeD i (j - i).toNat, p.2) else none
  | _ => none
theorem ir_rng2 {ta : TA} {ms : MA} (hs : AR K ta ms) : IR K (iRng2 ta) (mRng2 ms) := fun E ds E' q A σ Hi H Fs h R k => by
  unfold mRng2 at q
  obtain ⟨⟨os, E1⟩, q1, q⟩ := Option.bind_eq_some_iff.mp q
  obtain ⟨ts, q2, q⟩ := Option.bind_eq_some_iff.mp q
  split at q
  · rename_i i j
    split at q
    · rename_i hb
      cases q
      refine hs E os E1 q1 A σ Hi H Fs h _ fun vs Hi1 H1 Fs1 G r h1 d s => ?_
      obtain ⟨x, y, F, F', rfl, rt, ru⟩ := (h1.views r q2).two_inv
      obtain ⟨rfl, _⟩ := rt.int_inv
      obtain ⟨rfl, _⟩ := ru.int_inv
      obtain ⟨b1, b2⟩ := rngOk_ok hb.1
      obtain ⟨b3, b4⟩ := rngOk_ok hb.2
      exact ⟨i, j, rfl, ⟨b1, b2, b3, b4⟩, k _ Hi1 H1 Fs1 itOk_r h1 (s.weak fun _ z => .inl z)⟩
    · cases q
  · cases q
/-- what is walked stands still -/
def itemsD : PyData → Option (List PyData)
  | .tuple ds => some ds
  | .list ds => some ds
  | .str z => some (charsD z)
  | _ => none
def mSeqI (m : MF) : MI := fun E => (m E).bind fun p => p.1.toD.bind fun d => (itemsD d).bind fun ds => some (ds, p.2)
theorem ir_seq (hm : FR K te m) : IR K (iSeq K te) (mSeqI m) := fun E ds E' q A σ Hi H Fs h R k => by
  unfold mSeqI at q
  obtain ⟨⟨t, E1⟩, q1, q⟩ := Option.bind_eq_some_iff.mp q
  obtain ⟨d, q2, q⟩ := Option.bind_eq_some_iff.mp q
  obtain ⟨ds', q3, q⟩ := Option.bind_eq_some_iff.mp q
  cases q
  refine hm E t E1 q1 A σ Hi H Fs h _ fun v Hi1 H1 Fs1 G r h1 dd s => ?_
  have og : ∀ a ∈ G, Hi1 a = none := fun a ha => (r.ownG a ha).1
  have hd : Dp K (fzH Hi1 H1 G) v d := r.froz (fz_same og) _ _ _ d (fun a ha => fz_in ha) q2
  have h2 := h1.fz og dd
  have st : Step Hi H (InE Fs) (fzH Hi1 H1 G) H1 (InE Fs1) := s.trans (fz_step og)
  unfold itemsD at q3
  split at q3
  · cases q3
    cases hd with
    | tup hs ha => exact .inr (.inl ⟨_, rfl, ⟨_, seqT h2.sub hs⟩, k _ _ H1 Fs1 (itOk_t hs ha) h2 st⟩)
  · cases q3
    cases hd with
    | lst hs ha => exact .inl ⟨_, rfl, ⟨_, h2.sub.seq hs⟩, k _ _ H1 Fs1 (itOk_l hs ha) h2 st⟩
  · cases q3
    cases hd with
    | str z => exact .inr (.inr ⟨_, rfl, k _ _ H1 Fs1 itOk_s h2 st⟩)
  · cases q3
def mEnum (m : MF) : MI := fun E => (m E).bind fun p => p.1.toD.bind fun d => match d with
  | .tuple ds => some (enumD ds, p.2)
  | .list ds => some (enumD ds, p.2)
  | _ => none
theorem ir_enum (hm : FR K te m) : IR K (iEnumA K (tCons te tNil)) (mEnum m) := fun E ds E' q A σ Hi H Fs h R k => by
  unfold mEnum at q
  obtain ⟨⟨t, E1⟩, q1, q⟩ := Option.bind_eq_some_iff.mp q
  obtain ⟨d, q2, q⟩ := Option.bind_eq_some_iff.mp q
  refine hm E t E1 q1 A σ Hi H Fs h _ fun v Hi1 H1 Fs1 G r h1 dd s => ?_
  have og : ∀ a ∈ G, Hi1 a = none := fun a ha => (r.ownG a ha).1
  have hd : Dp K (fzH Hi1 H1 G) v d := r.froz (fz_same og) _ _ _ d (fun a ha => fz_in ha) q2
  have h2 := h1.fz og dd
  have st : Step Hi H (InE Fs) (fzH Hi1 H1 G) H1 (InE Fs1) := s.trans (fz_step og)
  split at q
  · cases q
    cases hd with
    | tup hs ha => exact .inr ⟨_, _, rfl, seqT h2.sub hs, k _ _ H1 Fs1 (itOk_et hs ha) h2 st⟩
  · cases q
    cases hd with
    | lst hs ha => exact .inl ⟨_, _, rfl, h2.sub.seq hs, k _ _ H1 Fs1 (itOk_el hs ha) h2 st⟩
  · cases q
end
end FL

/-! FL, part R: repr, join, split, list(range), isinstance, dicts. -/
namespace FL
open PySem PySem.Spec PyProof.Rows L2

/-! ### repr of any datum, where nothing is being shown -/
def rRepr (K : PySem.W.Frag) : List V → Hp → VK → Prop := fun xs H Q => ∃ x d, xs = [x] ∧ Dp K H x d ∧ d.showable = true ∧ d.shown.length ≤ sizeLine ∧ d.depth ≤ 60 ∧ d.hasDict = false ∧ Q (.str d.shown) H
theorem call_reprA {X : Cx} (hg : X.A.guards = some []) (hu : X.A.units + 64 < cLine) : CallR X (.builtin "repr") (rRepr X.K) := by
  intro pins s σ H xs us Q I r h
  obtain ⟨x, d, rfl, hd, h1, h2, h3, h4, q⟩ := h
  obtain ⟨u, rfl, rx⟩ := vals1 r
  obtain ⟨as, rd⟩ := Dp.reads I d x u hd rx
  cases rd with
  | none =>
    simp only [PyData.shown] at q
    exact PySem.P.repr_of_none ⟨.str _, H, I.tok _, ⟨_, rfl⟩, q⟩
  | bool b =>
    simp only [PyData.shown] at q
    exact PySem.P.repr_of_bool ⟨.str _, H, I.tok _, ⟨_, rfl⟩, q⟩
  | int i t =>
    simp only [PyData.shown] at q
    exact PySem.P.repr_of_int (by simpa [PyData.showable] using h1) ⟨.str _, H, I.tok _, ⟨_, rfl⟩, q⟩
  | str z t =>
    simp only [PyData.shown] at q h2
    exact PySem.P.repr_of_str ⟨.str _, H, I.tok _, ⟨_, rfl⟩, q⟩ h2
  | list a b c e =>
    exact repr_of_reads' (.list a b c e) h1 (fun z => by rw [h4] at z; cases z) hg (by omega) (fun _ _ z => z) (fun h' u tk hk => ⟨.str _, H, I.kept hk, ⟨_, rfl⟩, q⟩) h2
  | tuple a b c e =>
    exact repr_of_reads' (.tuple a b c e) h1 (fun z => by rw [h4] at z; cases z) hg (by omega) (fun _ _ z => z) (fun h' u tk hk => ⟨.str _, H, I.kept hk, ⟨_, rfl⟩, q⟩) h2
  | dict a b c e f => cases hd

section
variable {K : PySem.W.Frag} {A : List V} {Hi H Hi1 H1 Hi' H' : Hp} {σ : L2.St} {E : En} {Fs : Nat → List Addr} {te td ty tx : TE} {m : MF} {ma md : MR}
def fRepr : List Tr → Option Tr
  | [t] => t.toD.bind fun d => if d.showable = true ∧ d.shown.length ≤ 16777216 ∧ d.depth ≤ 60 ∧ d.hasDict = false then some (.imm (.str d.shown)) else none
  | _ => none
theorem c_repr : CallT K (rRepr K) fRepr := fun ts w q Hi H xs sub r Q k => by
  unfold fRepr at q
  split at q
  · obtain ⟨d, q1, q⟩ := Option.bind_eq_some_iff.mp q
    split at q
    · rename_i hc
      cases q
      obtain ⟨x, F, rfl, rt⟩ := r.one_inv
      exact ⟨x, d, rfl, looks sub rt q1, hc.1, by rw [sizeLine_eq]; exact hc.2.1, hc.2.2.1, hc.2.2.2, give sub (.str _) k⟩
    · cases q
  · cases q
/-! ### texts -/
def strsOf : List PyData → Option (List Str)
  | [] => some []
  | .str i :: ds => (strsOf ds).map (i :: ·)
  | _ :: _ => none
theorem strsOf_ok : ∀ {ds : List PyData} {vs : List V} {ns : List Str}, DpAll K H vs ds → strsOf ds = some ns → vs = ns.map V.str
  | [], _, _, h, q => by
    cases h
    cases q
    rfl
  | .str i :: ds, _, _, h, q => by
    obtain ⟨ns, q1, rfl⟩ := Option.map_eq_some_iff.mp q
    cases h with
    | cons h1 h2 =>
      cases h1
      rw [strsOf_ok h2 q1]
      rfl
  | .none :: _, _, _, _, q => by cases q
  | .bool _ :: _, _, _, _, q => by cases q
  | .int _ :: _, _, _, _, q => by cases q
  | .list _ :: _, _, _, _, q => by cases q
  | .tuple _ :: _, _, _, _, q => by cases q
  | .dict _ :: _, _, _, _, q => by cases q
theorem strsOf_map (ns : List Str) : strsOf (ns.map PyData.str) = some ns := by
  induction ns with
  | nil => rfl
  | cons n ns ih => rw [List.map_cons, strsOf, ih]; rfl
theorem strs_dp : ∀ ns : List Str, DpAll K H (ns.map V.str) (ns.map PyData.str)
  | [] => .nil
  | n :: ns => .cons (.str n) (strs_dp ns)
def rJoinA (K : PySem.W.Frag) : V → List V → Hp → VK → Prop := fun x xs H Q => ∃ a p, ∃ ys : List Str, x = .str a ∧ xs = [.ref p] ∧ (SqL K H p (ys.map V.str) ∨ SqT K H p (ys.map V.str)) ∧
    (ys.map (·.length)).sum + ys.length * a.length ≤ 16777216 ∧ Q (.str (Txt.join a ys)) H
theorem mt_joinA {X : Cx} : MtR X "str.join" (rJoinA X.K) := mt_join
def fJoin : Tr → List Tr → Option Tr
  | .imm (.str a), [t] => (seqOf t).bind fun p => (strsOf p.2).bind fun ys => if (ys.map (·.length)).sum + ys.length * a.length ≤ 16777216 then some (.imm (.str (Txt.join a ys))) else none
  | _, _ => none
theorem m_join : MetT K (rJoinA K) fJoin := fun t ts w q Hi H x xs F sub rt r Q k => by
  unfold fJoin at q
  split at q
  · rename_i a t
    obtain ⟨⟨b, ds⟩, q1, q⟩ := Option.bind_eq_some_iff.mp q
    obtain ⟨ys, q2, q⟩ := Option.bind_eq_some_iff.mp q
    split at q
    · rename_i hl
      cases q
      obtain ⟨rfl, _⟩ := rt.str_inv
      obtain ⟨y, F, rfl, ru⟩ := r.one_inv
      obtain ⟨p, vs, rfl, ha, hT, hL⟩ := seq_ok sub ru q1
      have e := strsOf_ok ha q2
      subst e
      refine ⟨a, p, ys, rfl, rfl, ?_, hl, give sub (.str _) k⟩
      cases b with
      | true => exact .inr (hT rfl)
      | false => exact .inl (hL rfl)
    · cases q
  · cases q
def rSplitA : V → List V → Hp → VK → Prop := fun x xs H Q => ∃ a b, x = .str a ∧ xs = [.str b] ∧ (b.length == 0) = false ∧ a.length + 2 ≤ sizeLine ∧ rNewStrs (Txt.split a b) H Q
theorem mt_splitA {X : Cx} : MtR X "str.split" rSplitA := mt_split
def fSplit : Tr → List Tr → Option Tr
  | .imm (.str a), [.imm (.str b)] => if (b.length == 0) = false ∧ a.length + 2 ≤ 16777216 then some (.lst (((Txt.split a b).map PyData.str).map Tr.imm)) else none
  | _, _ => none
theorem m_split : MetT K rSplitA fSplit := fun t ts w q Hi H x xs F sub rt r Q k => by
  unfold fSplit at q
  split at q
  · rename_i a b
    split at q
    · rename_i hl
      cases q
      obtain ⟨rfl, _⟩ := rt.str_inv
      obtain ⟨y, F, rfl, ru⟩ := r.one_inv
      obtain ⟨rfl, _⟩ := ru.str_inv
      exact ⟨a, b, rfl, rfl, hl.1, by rw [sizeLine_eq]; exact hl.2, giveL sub (strs_dp (K := K) _) k⟩
    · cases q
  · cases q
/-! ### list(range(..)), tuple(range(..)) -/
def rgM1 (m : MF) : En → Option (Int × Int × En) := fun E => (m E).bind fun p => (iOf p.1).bind fun n => some (0, n, p.2)
def mLstRg (f : En → Option (Int × Int × En)) : MF := fun E => (f E).bind fun p => if rngOk p.1 = true ∧ rngOk p.2.1 = true ∧ (p.2.1 - p.1).toNat ≤ 2 ^ 24 then some (.lst ((rangeD p.1 (p.2.1 - p.1).toNat).map Tr.imm), p.2.2) else none
def mTupRg (f : En → Option (Int × Int × En)) : MF := fun E => (f E).bind fun p => if rngOk p.1 = true ∧ rngOk p.2.1 = true ∧ (p.2.1 - p.1).toNat ≤ 2 ^ 24 then some (.imm (.tuple (rangeD p.1 (p.2.1 - p.1).toNat)), p.2.2) else none
theorem range_dp (lo : Int) (n : Nat) : DpAll K H ((List.range n).map fun i => V.int (lo + (i : Nat))) (rangeD lo n) := by
  unfold rangeD
  generalize List.range n = l
  induction l with
  | nil => exact .nil
  | cons i l ih => exact .cons (.int _) ih
theorem fr_lstRg1 (h : FR K te m) : FR K (tLstRg (tRg1 te)) (mLstRg (rgM1 m)) := fun E w E' q A σ Hi H Fs hE Q k => by
  unfold mLstRg rgM1 at q
  obtain ⟨⟨a, b, E1⟩, q1, q⟩ := Option.bind_eq_some_iff.mp q
  obtain ⟨⟨t, E2⟩, q2, q1⟩ := Option.bind_eq_some_iff.mp q1
  obtain ⟨n, q3, q1⟩ := Option.bind_eq_some_iff.mp q1
  cases q1
  dsimp only at q
  split at q
  · rename_i hb
    cases q
    have e := iOf_inv q3
    subst e
    refine h E _ _ q2 A σ Hi H Fs hE _ fun v Hi1 H1 Fs1 G r h1 d s => ?_
    refine ⟨_, r.int_inv.1, ⟨(rngOk_ok hb.1).1, (rngOk_ok hb.1).2, (rngOk_ok hb.2.1).1, (rngOk_ok hb.2.1).2, hb.2.2⟩, giveL (K := K) h1.sub (range_dp _ _) fun v Hi2 H2 W rr g => k v Hi2 H2 Fs1 W rr (h1.grow g) (h1.fresh g) (s.seq (g.step _))⟩
  · cases q
theorem fr_tupRg1 (h : FR K te m) : FR K (tTupRg (tRg1 te)) (mTupRg (rgM1 m)) := fun E w E' q A σ Hi H Fs hE Q k => by
  unfold mTupRg rgM1 at q
  obtain ⟨⟨a, b, E1⟩, q1, q⟩ := Option.bind_eq_some_iff.mp q
  obtain ⟨⟨t, E2⟩, q2, q1⟩ := Option.bind_eq_some_iff.mp q1
  obtain ⟨n, q3, q1⟩ := Option.bind_eq_some_iff.mp q1
  cases q1
  dsimp only at q
  split at q
  · rename_i hb
    cases q
    have e := iOf_inv q3
    subst e
    refine h E _ _ q2 A σ Hi H Fs hE _ fun v Hi1 H1 Fs1 G r h1 d s => ?_
    refine ⟨_, r.int_inv.1, ⟨(rngOk_ok hb.1).1, (rngOk_ok hb.1).2, (rngOk_ok hb.2.1).1, (rngOk_ok hb.2.1).2, hb.2.2⟩, giveT (K := K) h1.sub (range_dp _ _) fun v Hi2 H2 W rr g => k v Hi2 H2 Fs1 W rr (h1.grow g) (h1.fresh g) (s.seq (g.step _))⟩
  · cases q
/-! ### isinstance(x, T), T a built-in class by its name -/
def tyName : Tr → Option String
  | .imm .none => some "NoneType"
  | .imm (.bool _) => some "bool"
  | .imm (.int _) => some "int"
  | .imm (.str _) => some "str"
  | .imm (.list _) => some "list"
  | .imm (.tuple _) => some "tuple"
  | .imm (.dict _) => none
  | .lst _ => some "list"
  | .dic _ => some "dict"
theorem ty_ok {x : V} {t : Tr} {F : List Addr} {T : String} (sub : Same Hi H) (r : RepT K Hi H x t F) (q : tyName t = some T) : TyX K H x (.type T) := by
  cases r with
  | imm h =>
    cases h with
    | non => cases q; exact .base .non
    | bl b => cases q; exact .base (.bl b)
    | int i => cases q; exact .base (.int i)
    | str z => cases q; exact .base (.str z)
    | lst hs ha =>
      cases q
      rcases hs with (h | ⟨o, h⟩) | ⟨o, its, n, h1, h2, _⟩
      · exact .base (.lst (sub _ _ h))
      · exact .base (.frz (sub _ _ h))
      · exact .kList h1 h2
    | tup hs ha =>
      cases q
      rcases hs with (h | ⟨o, h⟩) | ⟨o, its, n, h1, h2, _⟩
      · exact .base (.tup (sub _ _ h))
      · exact .fTuple (sub _ _ h)
      · exact .kTuple h1 h2
  | lst h1 _ _ _ => cases q; exact .base (.lst h1)
  | dic h1 _ _ => cases q; exact .base (.dK h1)
def tIsi (K : PySem.W.Frag) (T : String) (te : TE) : TE := tCB (rIsi K) (tCons te (tCons (tC (.ty T)) tNil))
def mIsi (T : String) (ma : MR) : MF := fun E => (ma E).bind fun p => (view p.2 p.1).bind fun t => (tyName t).bind fun S => (kitB S T).bind fun b => some (.imm (.bool b), p.2)
theorem fr_isi {T : String} (hT : (∃ u, ClsV (.ty T) u ∧ u = .type T) := by exact ⟨_, .ty _, rfl⟩) (h : ER K te ma) : FR K (tCB (rIsi K) (tCons te (tCons (tC (.ty T)) tNil))) (mIsi T ma) := fun E w E' q A σ Hi H Fs hE Q k => by
  unfold mIsi at q
  obtain ⟨⟨o, E1⟩, q1, q⟩ := Option.bind_eq_some_iff.mp q
  obtain ⟨t, q2, q⟩ := Option.bind_eq_some_iff.mp q
  obtain ⟨S, q3, q⟩ := Option.bind_eq_some_iff.mp q
  obtain ⟨b, q4, q⟩ := Option.bind_eq_some_iff.mp q
  cases q
  refine h E o _ q1 A σ Hi H Fs hE _ fun v Hi1 H1 Fs1 G r h1 d s => ?_
  obtain ⟨F, rt⟩ := h1.view r q2
  obtain ⟨u, hu, rfl⟩ := hT
  refine ⟨v, .ty T, .type S, .type T, b, rfl, hu, ty_ok h1.sub rt q3, kit_ty q4, giveB (K := K) h1.sub fun v Hi2 H2 W rr g => k v Hi2 H2 Fs1 W rr (h1.grow g) (h1.fresh g) (s.seq (g.step _))⟩
/-! ### dicts of one's own -/
theorem fr_dnewK : FR K tDNewK (fun E => some (.dic [], E)) := fun E w E' q A σ Hi H Fs h Q k p hp => by
  cases q
  have g : Grow Hi H Hi (upd H p (.dK [])) [p] := Grow.own h.sub hp
  exact k (.ref p) Hi _ Fs [p] (.dic upd_same (free_of h.sub hp) .nil) (h.grow g) (h.fresh g) (g.step _)
/-- what a dict holds at a key -/
theorem dget_ok {a : Addr} {xs : List (Key × V)} {ds : List (Key × PyData)} {y : V} {kd : PyData} {key : Key} (e : H a = some (.dK xs)) (h : KvR K Hi xs ds) (hk : Dp K Hi y kd) (q : keyD kd = some key) : DGet H a y (valV xs key) := by
  have := keyD_kV q hk
  subst this
  exact DGet.k e
def mDIn (my md : MR) : MF := fun E => (my E).bind fun p => (md p.2).bind fun q => (view q.2 p.1).bind fun ty => (view q.2 q.1).bind fun td => match ty, td with
  | .imm kd, .dic ds => (keyD kd).bind fun key => some (.imm (.bool (getD ds key).isSome), q.2)
  | _, _ => none
theorem fr_din {my : MR} (hy : ER K ty my) (hd : ER K td md) : FR K (tDIn ty td) (mDIn my md) := fun E w E' q A σ Hi H Fs h Q k => by
  unfold mDIn at q
  obtain ⟨⟨o1, E1⟩, q1, q⟩ := Option.bind_eq_some_iff.mp q
  obtain ⟨⟨o2, E2⟩, q2, q⟩ := Option.bind_eq_some_iff.mp q
  obtain ⟨t1, q3, q⟩ := Option.bind_eq_some_iff.mp q
  obtain ⟨t2, q4, q⟩ := Option.bind_eq_some_iff.mp q
  split at q
  · rename_i kd ds _
    obtain ⟨key, q5, q⟩ := Option.bind_eq_some_iff.mp q
    cases q
    refine hy E o1 E1 q1 A σ Hi H Fs h _ fun v1 Hi1 H1 Fs1 G1 r1 h1 d1 s1 => ?_
    refine hd E1 o2 _ q2 A σ Hi1 H1 Fs1 h1 _ fun v2 Hi2 H2 Fs2 G2 r2 h2 d2 s2 => ?_
    obtain ⟨F1, rt⟩ := h2.view (s2.keepR r1 d1) q3
    obtain ⟨F2, ru⟩ := h2.view r2 q4
    cases ru with
    | @dic a xs _ e1 e2 e3 =>
      refine ⟨a, _, rfl, dget_ok e1 e3 rt.imm_inv.1 q5, ?_⟩
      have hg := kv_get (k := key) e3
      have e : (valV xs key).isSome = (getD ds key).isSome := by
        split at hg
        · rename_i d ed
          obtain ⟨v, ev, _⟩ := hg
          rw [ev, ed]
          rfl
        · rename_i ed
          rw [hg, ed]
          rfl
      rw [e]
      exact giveB (K := K) h2.sub fun v Hi3 H3 W rr g => k v Hi3 H3 Fs2 W rr (h2.grow g) (h2.fresh g) (s1.seq (s2.seq (g.step _)))
  · cases q
def mDGet (md my : MR) : MF := fun E => (md E).bind fun p => (my p.2).bind fun q => (view q.2 p.1).bind fun td => (view q.2 q.1).bind fun ty => match ty, td with
  | .imm kd, .dic ds => (keyD kd).bind fun key => (getD ds key).bind fun d => some (.imm d, q.2)
  | _, _ => none
theorem fr_dget {my : MR} (hd : ER K td md) (hy : ER K ty my) : FR K (tDGet td ty) (mDGet md my) := fun E w E' q A σ Hi H Fs h Q k => by
  unfold mDGet at q
  obtain ⟨⟨o1, E1⟩, q1, q⟩ := Option.bind_eq_some_iff.mp q
  obtain ⟨⟨o2, E2⟩, q2, q⟩ := Option.bind_eq_some_iff.mp q
  obtain ⟨t1, q3, q⟩ := Option.bind_eq_some_iff.mp q
  obtain ⟨t2, q4, q⟩ := Option.bind_eq_some_iff.mp q
  split at q
  · rename_i kd ds
    obtain ⟨key, q5, q⟩ := Option.bind_eq_some_iff.mp q
    obtain ⟨d, q6, q⟩ := Option.bind_eq_some_iff.mp q
    cases q
    refine hd E o1 E1 q1 A σ Hi H Fs h _ fun v1 Hi1 H1 Fs1 G1 r1 h1 d1 s1 => ?_
    refine hy E1 o2 _ q2 A σ Hi1 H1 Fs1 h1 _ fun v2 Hi2 H2 Fs2 G2 r2 h2 d2 s2 => ?_
    obtain ⟨F1, rt⟩ := h2.view (s2.keepR r1 d1) q3
    obtain ⟨F2, ru⟩ := h2.view r2 q4
    cases rt with
    | @dic a xs _ e1 e2 e3 =>
      have hg := kv_get (k := key) e3
      rw [q6] at hg
      obtain ⟨v, ev, hv⟩ := hg
      refine ⟨a, v, rfl, ?_, give (K := K) h2.sub hv fun v Hi3 H3 W rr g => k v Hi3 H3 Fs2 W rr (h2.grow g) (h2.fresh g) (s1.seq (s2.seq (g.step _)))⟩
      have := dget_ok e1 e3 ru.imm_inv.1 q5
      rw [ev] at this
      exact this
  · cases q
/-- d.get(k, x) of a name's dict -/
def mDGet2 (i : Nat) (my mx : MF) : MF := fun E => (at? E i).bind fun t0 => match t0 with
  | .dic _ => (my E).bind fun p => match p.1 with
    | .imm kd => (mx p.2).bind fun q => match q.1 with
      | .imm x => (at? q.2 i).bind fun td => match td with
        | .dic ds => (keyD kd).bind fun key => some (.imm ((getD ds key).getD x), q.2)
        | _ => none
      | _ => none
    | _ => none
  | _ => none
theorem fr_dget2 {i : Nat} {my mx : MF} (hy : FR K ty my) (hx : FR K tx mx) : FR K (tDGet2 (tVar i) ty tx) (mDGet2 i my mx) := fun E w E' q A σ Hi H Fs h Q k => by
  unfold mDGet2 at q
  obtain ⟨t0, q0, q⟩ := Option.bind_eq_some_iff.mp q
  split at q
  · obtain ⟨⟨t1, E1⟩, q1, q⟩ := Option.bind_eq_some_iff.mp q
    dsimp only at q
    split at q
    · rename_i kd
      obtain ⟨⟨t2, E2⟩, q2, q⟩ := Option.bind_eq_some_iff.mp q
      dsimp only at q
      split at q
      · rename_i x
        obtain ⟨td, q3, q⟩ := Option.bind_eq_some_iff.mp q
        split at q
        · rename_i ds
          obtain ⟨key, q4, q⟩ := Option.bind_eq_some_iff.mp q
          cases q
          obtain ⟨vd, ed, rd⟩ := h.val i _ q0
          generalize Fs i = Fi at rd
          cases rd with
          | @dic a xs0 _ e1 e2 e3 =>
            refine ⟨_, ed, a, rfl, .inl ⟨_, .inl e1⟩, ?_⟩
            refine hy E _ E1 q1 A σ Hi H Fs h _ fun v1 Hi1 H1 Fs1 G1 r1 h1 d1 s1 => ?_
            refine hx E1 _ _ q2 A σ Hi1 H1 Fs1 h1 _ fun v2 Hi2 H2 Fs2 G2 r2 h2 d2 s2 => ?_
            obtain ⟨vd', ed', rd'⟩ := h2.val i _ q3
            rw [ed] at ed'
            cases ed'
            generalize Fs2 i = Fi at rd'
            cases rd' with
            | @dic _ xs _ f1 f2 f3 =>
              have hk := dpMono s2.ex _ _ r1.imm_inv.1
              refine ⟨valV xs key, dget_ok f1 f3 hk q4, ?_⟩
              have hg := kv_get (k := key) f3
              have fin : ∃ v, (valV xs key).getD v2 = v ∧ Dp K Hi2 v ((getD ds key).getD x) := by
                split at hg
                · rename_i d e
                  obtain ⟨v, ev, hv⟩ := hg
                  rw [ev, e]
                  exact ⟨v, rfl, hv⟩
                · rename_i e
                  rw [hg, e]
                  exact ⟨v2, rfl, r2.imm_inv.1⟩
              obtain ⟨v, ev, hv⟩ := fin
              rw [ev]
              have s1' : Step Hi H (InE Fs) Hi1 H1 (InE Fs1) := s1.weak fun _ z => .inl z
              exact give (K := K) h2.sub hv fun v Hi3 H3 W rr g => k v Hi3 H3 Fs2 W rr (h2.grow g) (h2.fresh g) (s1'.trans (s2.seq (g.step _)))
        · cases q
      · cases q
    · cases q
  · cases q
end
end FL

/-! FL, part S: small words for the printed walks. -/
namespace FL
open PySem L2
theorem u1_of {k : Nat} {A : Around} (r : RoomG k A) : A.units + 1 < cLine := by have := r.room.un; omega
theorem u64_of {k : Nat} {A : Around} (r : RoomG k A) : A.units + 64 < cLine := by have := r.room.un; omega
theorem u65_of {k : Nat} {A : Around} (r : RoomG k A) : A.units + 65 < cLine := by have := r.room.un; omega
theorem RoomG.u1 {k : Nat} {A : Around} (r : RoomG k A) : A.units + 1 < cLine := u1_of r
theorem RoomG.u64 {k : Nat} {A : Around} (r : RoomG k A) : A.units + 64 < cLine := u64_of r
theorem RoomG.u65 {k : Nat} {A : Around} (r : RoomG k A) : A.units + 65 < cLine := u65_of r
section
variable {K : PySem.W.Frag}
def mYes : MT := fun E => some (true, E)
theorem tr_yes : TR K tYes mYes := fun E b E' q A σ Hi H Fs h Q k => by
  cases q
  exact k Hi H Fs h (Step.refl _ _ _)
theorem tr_one {t : TT} {m : MT} (h : TR K t m) : TR K t m := h
def fAddI : Tr → Tr → Option Tr := fI0 fun i j => i + j
def fSubI : Tr → Tr → Option Tr := fI0 fun i j => i - j
theorem i_I {g : Int → Int → Int} : IpT K (ipI g) (fI0 g) := fun t u w q Hi H x y F G sub rt ru Q k => by
  unfold fI0 at q
  split at q
  · cases q
    obtain ⟨rfl, _⟩ := rt.int_inv
    obtain ⟨rfl, _⟩ := ru.int_inv
    exact ⟨_, _, rfl, rfl, giveI sub k⟩
  · cases q
theorem i_add : IpT K (ipI fun i j => i + j) fAddI := i_I
theorem i_sub : IpT K (ipI fun i j => i - j) fSubI := i_I
end
end FL

/-! FL, part T: what is told at a def's end goes over to the asker -/
namespace FL
open PySem L2
section
variable {K : PySem.W.Frag} {A : List V} {Hi H : Hp} {σ : L2.St} {E : En} {Fs : Nat → List Addr}
def mMv (i : Nat) : MF := fun E => match E[i]? with
  | some (.val t) => some (t, E.set i .no)
  | _ => none
theorem fr_mv {i : Nat} : FR K (tVar i) (mMv i) := fun E t E' q A σ Hi H Fs h Q k => by
  unfold mMv at q
  split at q
  · rename_i t0 e
    cases q
    obtain ⟨v, e1, r1⟩ := h.val i t (at_val e)
    have hl : i < E.length := (List.getElem?_eq_some_iff.mp e).1
    have hat : ∀ j, at? (E.set i .no) j = if i = j then none else at? E j := fun j => by
      rw [at_set]
      by_cases e : i = j
      · rw [if_pos ⟨e, hl⟩, if_pos e]; rfl
      · rw [if_neg (fun z => e z.1), if_neg e]
    refine ⟨v, e1, k v Hi H (fset Fs i []) (Fs i) r1 ⟨h.sub, by rw [List.length_set, h.len], fun j t z => ?_, fun j t z => ?_, fun j z => ?_, fun j l a hj hk => ?_⟩ (fun a ha hb => ?_) ((Step.refl Hi H (InE Fs)).weak fun x z => ?_)⟩
    · rw [hat] at z
      by_cases e2 : i = j
      · rw [if_pos e2] at z; cases z
      · rw [if_neg e2] at z
        rw [fset_ne (fun z => e2 z.symm)]
        exact h.val j t z
    · by_cases e2 : i = j
      · subst e2
        rw [List.getElem?_set_self hl] at z
        cases z
      · rw [List.getElem?_set_ne e2] at z
        exact h.par j t z
    · rw [hat] at z
      by_cases e2 : i = j
      · subst e2; exact fset_same
      · rw [if_neg e2] at z
        rw [fset_ne (fun z => e2 z.symm)]
        exact h.no j z
    · have nf : ∀ j, a ∈ fset Fs i [] j → a ∈ Fs j := fun j z => by
        by_cases e2 : j = i
        · subst e2; rw [fset_same] at z; nomatch z
        · rw [fset_ne e2] at z; exact z
      exact h.dis j l a (nf j hj) (nf l hk)
    · obtain ⟨j, hj⟩ := hb
      by_cases e2 : j = i
      · subst e2; rw [fset_same] at hj; nomatch hj
      · rw [fset_ne e2] at hj
        exact e2 (h.dis j i a hj ha)
    · rcases z with ⟨j, hj⟩ | z
      · by_cases e2 : j = i
        · subst e2; rw [fset_same] at hj; nomatch hj
        · rw [fset_ne e2] at hj; exact ⟨j, hj⟩
      · exact ⟨i, z⟩
  · cases q
end
end FL

/-! FL, part U: an int within lists within a list -/
namespace FL
open PySem L2
section
variable {K : PySem.W.Frag} {A : List V} {Hi H : Hp} {σ : L2.St} {E : En} {Fs : Nat → List Addr} {te tj ti : TE}
def mPr (f : En → Option Int) : MF := fun E => (f E).bind fun k => some (.imm (.int k), E)
theorem fr_pr {f : En → Option Int} (h : PR K te f) : FR K te (mPr f) := fun E t E' q A σ Hi H Fs hr Q k => by
  obtain ⟨i, q1, q⟩ := Option.bind_eq_some_iff.mp q
  cases q
  exact h E i q1 A σ Hi H Fs hr Q fun Hi' H' g => k _ Hi' H' Fs [] (.imm (.int i)) (hr.grow g) (fun a z => nomatch z) (g.step _)
def iIx2 (i : Nat) (fa fb : En → Option Int) : En → Option Int := fun E => (fa E).bind fun a => (fb E).bind fun b => (at? E i).bind fun t => match t with
  | .lst ts => (ixN ts.length a).bind fun j => (ts[j]?).bind fun row => ixAt row b
  | _ => none
theorem pr_ix2 {i : Nat} {fa fb : En → Option Int} (ha : PR K tj fa) (hb : PR K ti fb) : PR K (tOp (rIx K) (tOp (rIx K) (tVar i) tj) ti) (iIx2 i fa fb) := fun E k q A σ Hi H Fs h Q kk => by
  obtain ⟨a, q1, q⟩ := Option.bind_eq_some_iff.mp q
  obtain ⟨b, q2, q⟩ := Option.bind_eq_some_iff.mp q
  obtain ⟨t, q3, q⟩ := Option.bind_eq_some_iff.mp q
  split at q
  · rename_i ts
    obtain ⟨j, j1, q⟩ := Option.bind_eq_some_iff.mp q
    obtain ⟨row, j2, q5⟩ := Option.bind_eq_some_iff.mp q
    obtain ⟨x, ex, rt⟩ := h.val i _ q3
    refine ⟨x, ex, ha E a q1 A σ Hi H Fs h _ fun Hi1 H1 g1 => ?_⟩
    have h1 := h.grow g1
    have sg1 : Step Hi H (fun _ => False) Hi1 H1 (fun a => False ∨ a ∈ ([] : List Addr)) := g1.step _
    have rt1 := sg1.keep rt fun _ _ z => z
    generalize hFi : Fs i = Fi at rt1
    cases rt1 with
    | @lst p vs _ F1 e1 e2 e3 e4 =>
      obtain ⟨v0, G0, x1, x2, x3, x4⟩ := e3.redo j2
      have hat : atI vs a = some v0 := by
        unfold atI
        rw [e3.length, j1]
        exact x1
      refine .inl ⟨p, vs, a, v0, rfl, rfl, SqL.of e1, hat, ?_⟩
      refine hb E b q2 A σ Hi1 H1 Fs h1 _ fun Hi2 H2 g2 => ?_
      have sg2 : Step Hi1 H1 (fun _ => False) Hi2 H2 (fun a => False ∨ a ∈ ([] : List Addr)) := g2.step _
      have r2 := sg2.keep x2 fun _ _ z => z
      exact ix_imm g2.sub r2 q5 (kk Hi2 H2 (g1.trans g2))
  · cases q
end
end FL

/-! FL, part W: roads never taken; list(range(a, b)); tuples of ints beside one another; is True -/
namespace FL
open PySem L2
section
variable {K : PySem.W.Frag} {A : List V} {Hi H : Hp} {σ : L2.St} {E : En} {Fs : Nat → List Addr} {te ta tb : TE} {ma mb : MF}
theorem ps_nev {X : Cx} {st : Stmt} : PS X st (fun _ _ _ => False) := ⟨fun _ _ _ _ _ _ h => h.elim⟩
def mNever : MS := fun _ => none
theorem sr_never {ts : TS} : SR K ts mNever := fun _ _ q => by cases q
def rgM2 (ma mb : MF) : En → Option (Int × Int × En) := fun E => (ma E).bind fun p => (iOf p.1).bind fun a => (mb p.2).bind fun q => (iOf q.1).bind fun b => some (a, b, q.2)
theorem fr_lstRg2 (ha : FR K ta ma) (hb : FR K tb mb) : FR K (tLstRg (tRg2 ta tb)) (mLstRg (rgM2 ma mb)) := fun E w E' q A σ Hi H Fs hE Q k => by
  unfold mLstRg rgM2 at q
  obtain ⟨⟨a, b, E1⟩, q1, q⟩ := Option.bind_eq_some_iff.mp q
  obtain ⟨⟨t, E2⟩, q2, q1⟩ := Option.bind_eq_some_iff.mp q1
  obtain ⟨n, q3, q1⟩ := Option.bind_eq_some_iff.mp q1
  obtain ⟨⟨u, E3⟩, q4, q1⟩ := Option.bind_eq_some_iff.mp q1
  obtain ⟨m, q5, q1⟩ := Option.bind_eq_some_iff.mp q1
  cases q1
  dsimp only at q
  split at q
  · rename_i hc
    cases q
    have e := iOf_inv q3
    subst e
    have e := iOf_inv q5
    subst e
    refine ha E _ _ q2 A σ Hi H Fs hE _ fun v Hi1 H1 Fs1 G r h1 d s => ?_
    refine hb E2 _ _ q4 A σ Hi1 H1 Fs1 h1 _ fun v2 Hi2 H2 Fs2 G2 r2 h2 d2 s2 => ?_
    refine ⟨_, _, r.int_inv.1, r2.int_inv.1, ⟨(rngOk_ok hc.1).1, (rngOk_ok hc.1).2, (rngOk_ok hc.2.1).1, (rngOk_ok hc.2.1).2, hc.2.2⟩, giveL (K := K) h2.sub (range_dp _ _) fun v Hi3 H3 W rr g => k v Hi3 H3 Fs2 W rr (h2.grow g) (h2.fresh g) (s.seq (s2.seq (g.step _)))⟩
  · cases q
def lexLe (ns ms : List Int) : Bool := Ob.lexAt (fun j => decide (ns.getD j 0 = ms.getD j 0)) (fun j => decide (ns.getD j 0 ≤ ms.getD j 0)) (decide (ns.length ≤ ms.length)) 0 (min ns.length ms.length)
def fLeT : Tr → Tr → Option Tr
  | .imm (.tuple ds), .imm (.tuple es) => (intsOf ds).bind fun ns => (intsOf es).bind fun ms => some (.imm (.bool (lexLe ns ms)))
  | _, _ => none
theorem o_leT : OpT K (rLeT K) fLeT := fun t u w q Hi H x y F G sub rt ru Q k => by
  unfold fLeT at q
  split at q
  · obtain ⟨ns, q1, q⟩ := Option.bind_eq_some_iff.mp q
    obtain ⟨ms, q2, q⟩ := Option.bind_eq_some_iff.mp q
    cases q
    obtain ⟨a, vs, rfl, ha, hT, -⟩ := seq_ok (b := true) sub rt rfl
    obtain ⟨b, us, rfl, hb, hT2, -⟩ := seq_ok (b := true) sub ru rfl
    have e := intsOf_ok ha q1
    subst e
    have e := intsOf_ok hb q2
    subst e
    exact ⟨a, b, ns, ms, rfl, rfl, hT rfl, hT2 rfl, giveB sub k⟩
  · cases q
def fIsB : Tr → Tr → Option Tr
  | .imm (.bool a), .imm (.bool b) => some (.imm (.bool (decide (a = b))))
  | _, _ => none
def fNotB : Tr → Tr → Option Tr
  | .imm (.bool a), .imm (.bool b) => some (.imm (.bool !decide (a = b)))
  | _, _ => none
theorem o_isB : OpT K (fun x y H Q => ∃ a b, x = .bl a ∧ y = .bl b ∧ Q (.bl (decide (a = b))) H) fIsB := fun t u w q Hi H x y F G sub rt ru Q k => by
  unfold fIsB at q
  split at q
  · cases q
    obtain ⟨rfl, _⟩ := rt.bl_inv
    obtain ⟨rfl, _⟩ := ru.bl_inv
    exact ⟨_, _, rfl, rfl, giveB sub k⟩
  · cases q
theorem o_notB : OpT K (fun x y H Q => ∃ a b, x = .bl a ∧ y = .bl b ∧ Q (.bl (!decide (a = b))) H) fNotB := fun t u w q Hi H x y F G sub rt ru Q k => by
  unfold fNotB at q
  split at q
  · cases q
    obtain ⟨rfl, _⟩ := rt.bl_inv
    obtain ⟨rfl, _⟩ := ru.bl_inv
    exact ⟨_, _, rfl, rfl, giveB sub k⟩
  · cases q
end
end FL

/-! FL, part V: the mirrors' own evaluation, one row for each -/
namespace FL
open PySem L2
section
variable {E E' : En} {m m' : MF} {ma mb mc : MR} {mt mu : MT} {ms ms' : MS} {as : MA} {fs : MFs} {t u : Tr} {i j : Nat}
theorem bind_cg {α β : Type} {a a' : Option α} (f : α → Option β) (h : a = a') : a.bind f = a'.bind f := by rw [h]
def putS (t : Tr) (E : En) (i : Nat) : SL → Option En
  | .no => some (E.set i (.val t))
  | .val _ => some (E.set i (.val t))
  | .par _ => none
def fzS (E : En) (i : Nat) : SL → Option (Tr × En)
  | .val (.imm d) => some (.imm d, E)
  | .val t => t.toD.bind fun d => some (.imm d, E.set i (.val (.imm d)))
  | .par (.imm d) => some (.imm d, E)
  | _ => none
def fzR (E : En) : Rf → Option (Tr × En)
  | .own t => some (t, E)
  | .slot i => (E[i]?).bind (fzS E i)
theorem v_seq : mSeq ms ms' E = (ms E).bind (mThen ms') := rfl
theorem v_thN : mThen ms (.nx E) = ms E := rfl
theorem v_thR : mThen ms (.rt t E) = some (.rt t E) := rfl
theorem v_thB : mThen ms (.bk E) = some (.bk E) := rfl
theorem v_thC : mThen ms (.ct E) = some (.ct E) := rfl
theorem v_ifS : mIfS mt ms ms' E = (mt E).bind fun p => if p.1 = true then ms p.2 else ms' p.2 := rfl
theorem v_asg {g : Tr → En → Option En} : mAsg m g E = (m E).bind fun p => (g p.1 p.2).bind fun E' => some (.nx E') := rfl
theorem v_ret : mRet m E = (m E).bind fun p => some (.rt p.1 p.2) := rfl
theorem v_retN : mRetN E = some (.rt (.imm .none) E) := rfl
theorem v_drop : mDrop m E = (m E).bind fun p => some (.nx p.2) := rfl
theorem v_nx : mNext E = some (.nx E) := rfl
theorem v_bk : mBreak E = some (.bk E) := rfl
theorem v_ct : mCont E = some (.ct E) := rfl
theorem v_name : mName i t E = (E[i]?).bind (putS t E i) := by
  unfold mName
  cases h : E[i]? with
  | none => rfl
  | some s => cases s <;> rfl
theorem v_pN : putS t E i .no = some (E.set i (.val t)) := rfl
theorem v_pV : putS t E i (.val u) = some (E.set i (.val t)) := rfl
theorem v_var : mVar i E = (at? E i).bind fun _ => some (.slot i, E) := rfl
theorem v_at : at? E i = E[i]?.bind SL.tree := rfl
theorem v_trV : SL.tree (.val t) = some t := rfl
theorem v_trP : SL.tree (.par t) = some t := rfl
theorem v_wV : SL.with (.val u) t = .val t := rfl
theorem v_wP : SL.with (.par u) t = .par t := rfl
theorem v_C {d : PyData} : mC d E = some (.imm d, E) := rfl
theorem v_ER : mER m E = (m E).bind fun p => some (.own p.1, p.2) := rfl
theorem v_Fz : mFz ma E = (ma E).bind fun p => fzR p.2 p.1 := by
  unfold mFz
  cases ma E with
  | none => rfl
  | some p =>
    rcases p with ⟨r, E1⟩
    cases r with
    | own t => rfl
    | slot i =>
      simp only [Option.bind_some, fzR]
      cases E1[i]? with
      | none => rfl
      | some s =>
        cases s with
        | no => rfl
        | val t => cases t <;> rfl
        | par t => cases t <;> rfl
theorem v_fO : fzR E (.own t) = some (t, E) := rfl
theorem v_fS : fzR E (.slot i) = (E[i]?).bind (fzS E i) := rfl
theorem v_fV {d : PyData} : fzS E i (.val (.imm d)) = some (.imm d, E) := rfl
theorem v_fP {d : PyData} : fzS E i (.par (.imm d)) = some (.imm d, E) := rfl
theorem v_fL {ts : List Tr} : fzS E i (.val (.lst ts)) = ((Tr.toDs ts).map PyData.list).bind fun d => some (.imm d, E.set i (.val (.imm d))) := rfl
theorem v_vS : view E (.slot i) = at? E i := rfl
theorem v_vO : view E (.own t) = some t := rfl
theorem v_op {f : Tr → Tr → Option Tr} : mOp f ma mb E = (ma E).bind fun p => (mb p.2).bind fun q => (view q.2 p.1).bind fun t => (view q.2 q.1).bind fun u => (f t u).bind fun w => some (w, q.2) := rfl
theorem v_un {f : Tr → Option Tr} : mUn f ma E = (ma E).bind fun p => (view p.2 p.1).bind fun t => (f t).bind fun w => some (w, p.2) := rfl
theorem v_bOf {b : Bool} : bOf (.imm (.bool b)) = some b := rfl
theorem v_test : mTest m E = (m E).bind fun p => (bOf p.1).bind fun b => some (b, p.2) := rfl
theorem v_and : mAnd mt mu E = (mt E).bind fun p => if p.1 = true then mu p.2 else some (false, p.2) := rfl
theorem v_or : mOr mt mu E = (mt E).bind fun p => if p.1 = true then some (true, p.2) else mu p.2 := rfl
theorem v_not : mNot mt E = (mt E).bind fun p => some (!p.1, p.2) := rfl
theorem v_tru : mTru ma E = (ma E).bind fun p => (view p.2 p.1).bind fun t => (truT t).bind fun b => some (b, p.2) := rfl
theorem v_trB {b : Bool} : truT (.imm (.bool b)) = some b := rfl
theorem v_andV : mAndV m m' E = (m E).bind fun p => (bOf p.1).bind fun b => if b = true then m' p.2 else some (.imm (.bool false), p.2) := rfl
theorem v_orV : mOrV m m' E = (m E).bind fun p => (bOf p.1).bind fun b => if b = true then some (.imm (.bool true), p.2) else m' p.2 := rfl
theorem v_notV : mNotV m E = (m E).bind fun p => (bOf p.1).bind fun b => some (.imm (.bool (!b)), p.2) := rfl
theorem v_if : mIf mt m m' E = (mt E).bind fun p => if p.1 = true then m p.2 else m' p.2 := rfl
theorem v_chain {f f' : Tr → Tr → Option Tr} : mChain f f' ma mb mc E = (ma E).bind fun p => (mb p.2).bind fun q => (view q.2 p.1).bind fun t => (view q.2 q.1).bind fun u => (f t u).bind fun w => (bOf w).bind fun b =>
  if b = true then (mc q.2).bind fun r => (view r.2 q.1).bind fun u' => (view r.2 r.1).bind fun x => (f' u' x).bind fun w' => some (w', r.2) else some (.imm (.bool false), q.2) := rfl
theorem v_arN : arNil E = some ([], E) := rfl
theorem v_arC : arCons ma as E = (ma E).bind fun p => (as p.2).bind fun q => some (p.1 :: q.1, q.2) := rfl
theorem v_faN : faNil E = some ([], E) := rfl
theorem v_faC : faCons m fs E = (m E).bind fun p => (fs p.2).bind fun q => some (p.1 :: q.1, q.2) := rfl
theorem v_tup : mTup fs E = (fs E).bind fun p => (Tr.toDs p.1).bind fun ds => if p.1.length ≤ 16777216 then some (.imm (.tuple ds), p.2) else none := rfl
theorem v_lst : mLst fs E = (fs E).bind fun p => if p.1.length ≤ 16777216 then some (.lst p.1, p.2) else none := rfl
theorem v_tdN : Tr.toDs [] = some [] := by rw [Tr.toDs]
theorem v_tdC {ts : List Tr} : Tr.toDs (t :: ts) = (Tr.toD t).bind fun d => (Tr.toDs ts).map (d :: ·) := by rw [Tr.toDs]
theorem v_tdI {d : PyData} : Tr.toD (.imm d) = some d := by rw [Tr.toD]
theorem v_tdL {ts : List Tr} : Tr.toD (.lst ts) = (Tr.toDs ts).map PyData.list := by rw [Tr.toD]
theorem toDs_imms : ∀ ds : List PyData, Tr.toDs (ds.map Tr.imm) = some ds
  | [] => v_tdN
  | d :: ds => by rw [List.map_cons, v_tdC, v_tdI, toDs_imms ds]; rfl
theorem imms_imms : ∀ ds : List PyData, imms (ds.map Tr.imm) = some ds
  | [] => rfl
  | d :: ds => by rw [List.map_cons, imms, imms_imms ds]; rfl
theorem v_cb {f : List Tr → Option Tr} : mCB f as E = (as E).bind fun p => (views p.2 p.1).bind fun ts => (f ts).bind fun w => some (w, p.2) := rfl
theorem v_vsN : views E [] = some [] := rfl
theorem v_vsC {o : Rf} {os : List Rf} : views E (o :: os) = (view E o).bind fun t => (views E os).map (t :: ·) := rfl
theorem v_mb {T : Option PyData} {f : PyData → PyData} : True := trivial
theorem v_bm {T : String} {f : Tr → List Tr → Option Tr} : mBM T f ma as E = (ma E).bind fun p => (view p.2 p.1).bind fun t0 => if tyB T t0 = true then (as p.2).bind fun q => (view q.2 p.1).bind fun t => (views q.2 q.1).bind fun ts => (f t ts).bind fun w => some (w, q.2) else none := rfl
theorem v_tyS {z : Str} : tyB "str" (.imm (.str z)) = true := rfl
theorem v_tyL {ts : List Tr} : tyB "list" (.lst ts) = true := rfl
theorem v_sl {f : Tr → Option Int → Option Int → Option Tr} {ml mh : MO} : mSl f ma ml mh E = (ma E).bind fun p => (ml p.2).bind fun l => (mh l.2).bind fun u => (view u.2 p.1).bind fun t => (f t l.1 u.1).bind fun w => some (w, u.2) := rfl
theorem v_moN : moNone E = some (none, E) := rfl
theorem v_moS : moSome m E = (m E).bind fun p => (iOf p.1).bind fun i => some (some i, p.2) := rfl
theorem v_iOf {k : Int} : iOf (.imm (.int k)) = some k := rfl
def callD (n : Nat) (f : MFn) (os : List Rf) (E : En) (ts : List Tr) : Option (Tr × En) := if ts.length = n ∧ (os.filterMap (ownSlot E)).Nodup then (f ts).bind fun r => (gives E E os r.2).bind fun E' => some (r.1, E') else none
theorem v_call {n : Nat} {f : MFn} : mCall n f as E = (as E).bind fun p => (views p.2 p.1).bind fun ts => callD n f p.1 p.2 ts := rfl
theorem v_callD {n : Nat} {f : MFn} {os : List Rf} {ts : List Tr} (h : ts.length = n) (k : (os.filterMap (ownSlot E)).Nodup) : callD n f os E ts = (f ts).bind fun r => (gives E E os r.2).bind fun E' => some (r.1, E') := if_pos ⟨h, k⟩
theorem v_osO : ownSlot E (.own t) = none := rfl
theorem v_osS : ownSlot E (.slot i) = (at? E i).bind fun t => if isOwn t = true then some i else none := by
  show (match at? E i with | some t => if isOwn t = true then some i else none | none => none) = _
  cases at? E i <;> rfl
theorem v_isI {d : PyData} : isOwn (.imm d) = false := rfl
theorem v_isL {ts : List Tr} : isOwn (.lst ts) = true := rfl
theorem v_isD {ts : List (Key × PyData)} : isOwn (.dic ts) = true := rfl
theorem v_gN {E0 : En} : gives E0 E [] [] = some E := rfl
theorem v_gO {E0 : En} {os : List Rf} {ts : List Tr} : gives E0 E (.own t :: os) (u :: ts) = gives E0 E os ts := rfl
theorem v_gS {E0 : En} {os : List Rf} {ts : List Tr} : gives E0 E (.slot i :: os) (t :: ts) = (E0[i]?).bind fun s => if (s.tree.map isOwn) = some true then gives E0 (E.set i (s.with t)) os ts else gives E0 E os ts := by
  rw [gives]
  cases E0[i]? <;> rfl
theorem v_fn {n : Nat} {ts : List Tr} : mFn n ms ts = (ms (startE n ts)).bind fun o => match o with
  | .rt r E' => (backs ts E').map fun ts' => (r, ts')
  | .nx E' => (backs ts E').map fun ts' => (.imm .none, ts')
  | _ => none := rfl
theorem v_for {mi : MI} {g : Tr → En → Option En} : mFor mi g ms E = (mi E).bind fun p => forD g ms p.1 p.2 := Eq.trans rfl rfl
theorem v_lc {mi : MI} {g : Tr → En → Option En} {vs : List Nat} : mLc mi g mt m vs E = (mi E).bind fun p => (wipeE p.2 vs).bind fun E1 => (lcD g mt m vs p.1 [] E1).bind fun r => some (.lst r.1, backE p.2 r.2 vs) := rfl
theorem v_yes : mYes E = some (true, E) := rfl
theorem v_sub {f : Tr → Tr → Tr → Option Tr} : mSub i f m u E = (at? E i).bind fun _ => (m E).bind fun p => (p.2[i]?).bind fun s => s.tree.bind fun t => (f t p.1 u).bind fun t' => some (p.2.set i (s.with t')) := rfl
theorem v_sub2 {fa fb : En → Option Int} : mSub2 i fa fb u E = (fa E).bind fun a => (fb E).bind fun b => (E[i]?).bind fun s => s.tree.bind fun t => (sub2 t a b u).bind fun t' => some (E.set i (s.with t')) := rfl
theorem v_iAt : iAt i E = (at? E i).bind iOf := rfl
theorem v_iC {c : Int} : iC c E = some c := rfl
theorem v_aug {f : Tr → Tr → Option Tr} : mAug i f mb E = (at? E i).bind fun _ => (mb E).bind fun q => (view q.2 (.slot i)).bind fun t => (view q.2 q.1).bind fun u => (f t u).bind fun w => (mName i w q.2).bind fun E' => some (.nx E') := rfl
theorem v_par : mPar i j fs E = (fs E).bind fun p => match p.1 with
  | [t, u] => (mName i t p.2).bind fun E1 => (mName j u E1).bind fun E2 => some (.nx E2)
  | _ => none := rfl
theorem v_mut {T : String} {f : Tr → List Tr → Option (Tr × Tr)} : mMut i T f fs E = (at? E i).bind fun t0 => if tyB T t0 = true then (fs E).bind fun p => (p.2[i]?).bind fun s => s.tree.bind fun t => (f t p.1).bind fun r => some (r.1, p.2.set i (s.with r.2)) else none := rfl
def rng1D (ts : List Tr) (E : En) : Option (List PyData × En) := match ts with
  | [.imm (.int j)] => if rngOk j = true then some (rangeD 0 j.toNat, E) else none
  | _ => none
def rng2D (ts : List Tr) (E : En) : Option (List PyData × En) := match ts with
  | [.imm (.int i), .imm (.int j)] => if rngOk i = true ∧ rngOk j = true then some (rangeD i (j - i).toNat, E) else none
  | _ => none
theorem v_rng1 : mRng1 as E = (as E).bind fun p => (views p.2 p.1).bind fun ts => rng1D ts p.2 := Eq.trans rfl rfl
theorem v_rng2 : mRng2 as E = (as E).bind fun p => (views p.2 p.1).bind fun ts => rng2D ts p.2 := Eq.trans rfl rfl
theorem v_rg1 {j : Int} (h : rngOk j = true) : rng1D [.imm (.int j)] E = some (rangeD 0 j.toNat, E) := if_pos h
theorem v_rg2 {i j : Int} (h : rngOk i = true) (k : rngOk j = true) : rng2D [.imm (.int i), .imm (.int j)] E = some (rangeD i (j - i).toNat, E) := if_pos ⟨h, k⟩
theorem v_seqI : mSeqI m E = (m E).bind fun p => p.1.toD.bind fun d => (itemsD d).bind fun ds => some (ds, p.2) := Eq.trans rfl rfl
theorem v_enum : mEnum m E = (m E).bind fun p => p.1.toD.bind fun d => match d with
  | .tuple ds => some (enumD ds, p.2)
  | .list ds => some (enumD ds, p.2)
  | _ => none := rfl
theorem v_isi {T : String} : mIsi T ma E = (ma E).bind fun p => (view p.2 p.1).bind fun t => (tyName t).bind fun S => (kitB S T).bind fun b => some (.imm (.bool b), p.2) := Eq.trans rfl rfl
/-! values -/
variable {a b : Int}
theorem v_addI : fAdd (.imm (.int a)) (.imm (.int b)) = some (.imm (.int (a + b))) := rfl
theorem v_addS {x y : Str} : fAdd (.imm (.str x)) (.imm (.str y)) = if x.length + y.length ≤ 16777216 then some (.imm (.str (x ++ y))) else none := rfl
theorem v_addT {x y : List PyData} : fAdd (.imm (.tuple x)) (.imm (.tuple y)) = if x.length + y.length ≤ 16777216 then some (.imm (.tuple (x ++ y))) else none := rfl
theorem v_addL {x y : List Tr} : fAdd (.lst x) (.lst y) = (imms x).bind fun ds => (imms y).bind fun es => if ds.length + es.length ≤ 16777216 then some (.lst ((ds ++ es).map Tr.imm)) else none := rfl
theorem v_subI : fSub (.imm (.int a)) (.imm (.int b)) = some (.imm (.int (a - b))) := rfl
theorem v_mulI (h : a.natAbs.log2 + b.natAbs.log2 < 1000000) : fMul (.imm (.int a)) (.imm (.int b)) = some (.imm (.int (a * b))) := if_pos h
theorem v_divI (h : cDiv a b = true) : fDiv (.imm (.int a)) (.imm (.int b)) = some (.imm (.int (a / b))) := if_pos h
theorem v_modI (h : 0 < b) : fMod (.imm (.int a)) (.imm (.int b)) = some (.imm (.int (a % b))) := if_pos (decide_eq_true h)
theorem v_powI (h : cPow a b = true) : fPow (.imm (.int a)) (.imm (.int b)) = some (.imm (.int (a ^ b.toNat))) := if_pos h
theorem v_neg : fNeg (.imm (.int a)) = some (.imm (.int (-a))) := rfl
theorem v_lt : fLt (.imm (.int a)) (.imm (.int b)) = some (.imm (.bool (decide (a < b)))) := rfl
theorem v_le : fLe (.imm (.int a)) (.imm (.int b)) = some (.imm (.bool (decide (a ≤ b)))) := rfl
theorem v_gt : fGt (.imm (.int a)) (.imm (.int b)) = some (.imm (.bool (decide (b < a)))) := rfl
theorem v_ge : fGe (.imm (.int a)) (.imm (.int b)) = some (.imm (.bool (decide (b ≤ a)))) := rfl
theorem v_eqI : fEq (.imm (.int a)) (.imm (.int b)) = some (.imm (.bool (decide (a = b)))) := rfl
theorem v_neI : fNe (.imm (.int a)) (.imm (.int b)) = some (.imm (.bool (!decide (a = b)))) := rfl
theorem v_eqS {x y : Str} : fEq (.imm (.str x)) (.imm (.str y)) = some (.imm (.bool (decide (x = y)))) := rfl
theorem v_neS {x y : Str} : fNe (.imm (.str x)) (.imm (.str y)) = some (.imm (.bool (!decide (x = y)))) := rfl
theorem v_ixT {ds : List PyData} {k : Int} : fIx (.imm (.tuple ds)) (.imm (.int k)) = (atI ds k).map Tr.imm := rfl
theorem v_ixD {ds : List PyData} {k : Int} : fIx (.imm (.list ds)) (.imm (.int k)) = (atI ds k).map Tr.imm := rfl
theorem v_ixL {ts : List Tr} {k : Int} : fIx (.lst ts) (.imm (.int k)) = (atI ts k).bind fun t => match t with
    | .imm d => some (.imm d)
    | _ => none := rfl
theorem v_ixS {z : Str} {k : Int} : fIx (.imm (.str z)) (.imm (.int k)) = if z.length ≤ 16777216 then (atI z.cps.toList k).map fun c => .imm (.str ⟨#[c]⟩) else none := rfl
theorem v_len : fLen [t] = (lenT t).bind fun n => some (.imm (.int (n : Int))) := by
  unfold fLen
  cases h : lenT t <;> simp [h]
theorem v_lnT {ds : List PyData} : lenT (.imm (.tuple ds)) = some ds.length := rfl
theorem v_lnD {ds : List PyData} : lenT (.imm (.list ds)) = some ds.length := rfl
theorem v_lnL {ts : List Tr} : lenT (.lst ts) = some ts.length := rfl
theorem v_lnS {z : Str} : lenT (.imm (.str z)) = if z.length ≤ 16777216 then some z.length else none := rfl
theorem v_abs : fAbs [.imm (.int a)] = some (.imm (.int (if a < 0 then -a else a))) := rfl
theorem v_max : fMax2 [.imm (.int a), .imm (.int b)] = some (.imm (.int (if b > a then b else a))) := rfl
theorem v_min : fMin2 [.imm (.int a), .imm (.int b)] = some (.imm (.int (if b < a then b else a))) := rfl
theorem v_int : fInt1 [.imm (.int a)] = some (.imm (.int a)) := rfl
theorem v_intB {c : Bool} : fInt1 [.imm (.bool c)] = some (.imm (.int (if c then 1 else 0))) := rfl
theorem v_tuple : fTuple [t] = (seqOf t).map fun p => .imm (.tuple p.2) := rfl
theorem v_list : fList [t] = (seqOf t).map fun p => .lst (p.2.map Tr.imm) := rfl
theorem v_sqT {ds : List PyData} : seqOf (.imm (.tuple ds)) = some (true, ds) := rfl
theorem v_sqD {ds : List PyData} : seqOf (.imm (.list ds)) = some (false, ds) := rfl
theorem v_sqL {ds : List PyData} : seqOf (.lst (ds.map Tr.imm)) = some (false, ds) := by
  show (imms _).map _ = _
  rw [imms_imms]; rfl
theorem v_itT {ds : List PyData} : itemsD (.tuple ds) = some ds := rfl
theorem v_itL {ds : List PyData} : itemsD (.list ds) = some ds := rfl
theorem v_itS {z : Str} : itemsD (.str z) = some (charsD z) := rfl
theorem v_isN {x : PyData} : fIsN t (.imm .none) = some (.imm (.bool (isN t))) := rfl
theorem v_notN : fNotN t (.imm .none) = some (.imm (.bool !(isN t))) := rfl
theorem v_setL {ts : List Tr} {k : Int} : fSetA (.lst ts) (.imm (.int k)) u = (ixN ts.length k).map fun j => .lst (ts.set j u) := rfl
theorem v_setD {kvs : List (Key × PyData)} {kd d : PyData} : fSetA (.dic kvs) (.imm kd) (.imm d) = (keyD kd).bind fun k => if kvs.length < 16777216 then some (.dic (putD kvs k d)) else none := rfl
theorem v_kS {z : Str} : keyD (.str z) = some (.inr z) := rfl
theorem v_kI {k : Int} : keyD (.int k) = some (.inl k) := rfl
theorem v_mp {α β : Type} {f : α → β} {x : α} : (some x).map f = some (f x) := rfl
theorem v_mpn {α β : Type} {f : α → β} : (none : Option α).map f = none := rfl
def mvS (E : En) (i : Nat) : SL → Option (Tr × En)
  | .val t => some (t, E.set i .no)
  | _ => none
theorem v_mvV {t : Tr} : mvS E i (.val t) = some (t, E.set i .no) := rfl
/-! loops -/
theorem forD_inv {g : Tr → En → Option En} (I : Nat → En → Prop) (ds : List PyData) (h : ∀ i d E, ds[i]? = some d → I i E → ∃ E1 E2, g (.imm d) E = some E1 ∧ (ms E1 = some (.nx E2) ∨ ms E1 = some (.ct E2)) ∧ I (i + 1) E2) :
    ∀ E, I 0 E → ∃ E', forD g ms ds E = some (.nx E') ∧ I ds.length E' := by
  induction ds generalizing I with
  | nil => exact fun E h0 => ⟨E, rfl, h0⟩
  | cons d ds ih =>
    intro E h0
    obtain ⟨E1, E2, e1, e2, h1⟩ := h 0 d E rfl h0
    obtain ⟨E', e3, h2⟩ := ih (fun i => I (i + 1)) (fun i d E e k => h (i + 1) d E (by simpa using e) k) E2 h1
    refine ⟨E', ?_, h2⟩
    rw [forD, e1]
    rcases e2 with e2 | e2 <;> (simp only [Option.bind_some, e2, afterTurn]; exact e3)
theorem lcD_inv {g : Tr → En → Option En} {vs : List Nat} (I : Nat → En → Prop) (R : Nat → PyData → PyData → Prop) (ds : List PyData) (h : ∀ i d E, ds[i]? = some d → I i E → ∃ E1 E2 E3 r, g (.imm d) E = some E1 ∧ m E1 = some (.imm r, E2) ∧ wipeE E2 vs = some E3 ∧ I (i + 1) E3 ∧ R i d r) :
    ∀ (acc : List Tr) E, acc.length + ds.length ≤ 16777216 → I 0 E → ∃ (rs : List PyData) (E' : En), lcD g mYes m vs ds acc E = some (acc ++ rs.map Tr.imm, E') ∧ I ds.length E' ∧ rs.length = ds.length ∧ ∀ i d, ds[i]? = some d → ∃ r, rs[i]? = some r ∧ R i d r := by
  induction ds generalizing I R with
  | nil => exact fun acc E _ h0 => ⟨[], E, by simp [lcD], h0, rfl, fun i d e => by simp at e⟩
  | cons d ds ih =>
    intro acc E hl h0
    simp only [List.length_cons] at hl
    obtain ⟨E1, E2, E3, r, e1, e2, e3, h1, h2⟩ := h 0 d E rfl h0
    obtain ⟨rs, E', e4, h3, h4, h5⟩ := ih (fun i => I (i + 1)) (fun i => R (i + 1)) (fun i d E e k => h (i + 1) d E (by simpa using e) k) (acc ++ [.imm r]) E3 (by simp; omega) h1
    refine ⟨r :: rs, E', ?_, h3, by simp [h4], ?_⟩
    · rw [lcD, e1]
      simp only [Option.bind_some, mYes, if_true, e2]
      rw [if_pos (by omega), e3]
      simp only [Option.bind_some]
      rw [e4]
      simp
    · intro i d' e
      cases i with
      | zero => simp at e; subst e; exact ⟨r, rfl, h2⟩
      | succ i => simpa using h5 i d' (by simpa using e)
end
end FL
namespace FL
open PySem L2
theorem v_at0 {α : Type} {x : α} {xs : List α} : atI (x :: xs) 0 = some x := by
  unfold atI ixN
  rw [if_pos (by omega), if_pos (by simp only [List.length_cons]; omega)]
  rfl
theorem v_at1 {α : Type} {x y : α} {xs : List α} : atI (x :: y :: xs) 1 = some y := by
  unfold atI ixN
  rw [if_pos (by omega), if_pos (by simp only [List.length_cons]; omega)]
  rfl
theorem v_at2 {α : Type} {x y z : α} {xs : List α} : atI (x :: y :: z :: xs) 2 = some z := by
  unfold atI ixN
  rw [if_pos (by omega), if_pos (by simp only [List.length_cons]; omega)]
  rfl
theorem ixN_nat {n i : Nat} (h : i < n) : ixN n (i : Int) = some i := by
  unfold ixN
  rw [if_pos (by omega), if_pos (by omega)]
  rfl
theorem atI_nat {α : Type} {xs : List α} {i : Nat} {x : α} (h : xs[i]? = some x) : atI xs (i : Int) = some x := by
  unfold atI
  rw [ixN_nat (by have := List.getElem?_eq_some_iff.mp h; exact this.1)]
  exact h
theorem atI_ofint {α : Type} {xs : List α} {i : Int} (h0 : 0 ≤ i) (h : i < xs.length) : ∃ x, atI xs i = some x ∧ xs[i.toNat]? = some x := by
  obtain ⟨n, rfl⟩ := Int.eq_ofNat_of_zero_le h0
  have hn : n < xs.length := by omega
  exact ⟨xs[n], atI_nat (List.getElem?_eq_getElem hn), List.getElem?_eq_getElem hn⟩
theorem v_i30 : ixN 3 0 = some 0 := rfl
theorem v_i31 : ixN 3 1 = some 1 := rfl
theorem v_i32 : ixN 3 2 = some 2 := rfl
/-- so many signs at most -/
def Bd (n : Nat) (a : Int) : Prop := a.natAbs < 2 ^ n
instance {n : Nat} {a : Int} : Decidable (Bd n a) := inferInstanceAs (Decidable (a.natAbs < 2 ^ n))
theorem Bd.mul {m n : Nat} {a b : Int} (h : Bd m a) (k : Bd n b) : Bd (m + n) (a * b) := by
  unfold Bd at *
  rw [Int.natAbs_mul, Nat.pow_add]
  exact Nat.mul_lt_mul'' h k
theorem Bd.mono {m n : Nat} {a : Int} (h : Bd m a) (k : m ≤ n) : Bd n a := Nat.lt_of_lt_of_le h (Nat.pow_le_pow_right (by decide) k)
theorem Bd.add {m : Nat} {a b : Int} (h : Bd m a) (k : Bd m b) : Bd (m + 1) (a + b) := by
  unfold Bd at *
  rw [Nat.pow_succ]
  omega
theorem Bd.log {n : Nat} {a : Int} (h : Bd n a) : a.natAbs.log2 ≤ n := by
  rcases Nat.eq_zero_or_pos a.natAbs with h0 | h0
  · rw [h0]; exact Nat.zero_le _
  · exact Nat.le_of_lt ((Nat.log2_lt (by omega)).mpr h)
theorem Bd.fmul {m n : Nat} {a b : Int} (h : Bd m a) (k : Bd n b) (hs : m + n < 1000000) : fMul (.imm (.int a)) (.imm (.int b)) = some (.imm (.int (a * b))) := v_mulI (by have := h.log; have := k.log; omega)
theorem Bd.mod {n : Nat} {a b : Int} (h0 : 0 < b) (h : Bd n b) : Bd n (a % b) := by
  have h1 := Int.emod_nonneg a (b := b) (by omega)
  have h2 := Int.emod_lt_of_pos a h0
  unfold Bd at *
  omega
theorem Bd.of {n : Nat} {a : Int} (h0 : 0 ≤ a) (h : a < ((2 ^ n : Nat) : Int)) : Bd n a := by
  unfold Bd
  omega
theorem cdiv_ok {a b : Int} {n : Nat} (h0 : 0 < b) (h : Bd n b) (hn : n < 9000) : cDiv a b = true := by
  unfold cDiv
  have := h.log
  rw [decide_eq_true h0, decide_eq_true (by omega)]
  rfl
end FL
namespace FL
open PySem L2
def ov : Option Tr → SL
  | none => .no
  | some t => .val t
theorem v_pO {t : Tr} {E : En} {i : Nat} {o : Option Tr} : putS t E i (ov o) = some (E.set i (.val t)) := by cases o <;> rfl
theorem v_tupG {n : Nat} {f : List PyData → En → Option En} {ds : List PyData} {E : En} : mTupG n f (.imm (.tuple ds)) E = if ds.length = n then f ds E else none := rfl
theorem v_gsC {g : Tr → En → Option En} {f : List PyData → En → Option En} {d : PyData} {r : List PyData} {E : En} : gsCons g f (d :: r) E = (g (.imm d) E).bind (f r) := rfl
theorem v_gsN {E : En} : gsNil [] E = some E := rfl
theorem v_slD {ds : List PyData} {lo hi : Option Int} : fSl (.imm (.list ds)) lo hi = some (.lst ((cutL ds lo hi).map Tr.imm)) := rfl
theorem v_slS {z : Str} {lo hi : Option Int} : fSl (.imm (.str z)) lo hi = if z.length ≤ 16777216 then some (.imm (.str (cutS z lo hi))) else none := rfl
theorem cutL_mem {α : Type} {xs : List α} {lo hi : Option Int} {i : Nat} {x : α} (h : (cutL xs lo hi)[i]? = some x) : x ∈ xs := by
  have h1 := List.mem_of_getElem? h
  exact List.mem_of_mem_drop (List.mem_of_mem_take h1)
theorem cutL_len {α : Type} (xs : List α) (lo hi : Option Int) : (cutL xs lo hi).length ≤ xs.length := by
  unfold cutL
  rw [List.length_take, List.length_drop]
  omega
theorem enumD_item {ds : List PyData} {i : Nat} {d : PyData} (h : (enumD ds)[i]? = some d) : ∃ x, ds[i]? = some x ∧ d = .tuple [.int (i : Nat), x] := by
  unfold enumD at h
  rw [List.getElem?_map] at h
  cases hz : ds.zipIdx[i]? with
  | none => rw [hz] at h; cases h
  | some p =>
    rw [hz] at h
    rw [List.getElem?_zipIdx] at hz
    cases hd : ds[i]? with
    | none => rw [hd] at hz; cases hz
    | some x =>
      rw [hd] at hz
      cases hz
      cases h
      exact ⟨x, rfl, by simp⟩
theorem rangeD_at {lo : Int} {n i : Nat} {d : PyData} (h : (rangeD lo n)[i]? = some d) : i < n ∧ d = .int (lo + (i : Nat)) := by
  unfold rangeD at h
  rw [List.getElem?_map] at h
  by_cases hi : i < n
  · rw [List.getElem?_range hi] at h
    cases h
    exact ⟨hi, rfl⟩
  · rw [List.getElem?_eq_none (by simp; omega)] at h
    cases h
theorem rangeD_len {lo : Int} {n : Nat} : (rangeD lo n).length = n := by simp [rangeD]
end FL
namespace FL
theorem v_Mv {E : En} {i : Nat} : mMv i E = (E[i]?).bind (mvS E i) := by
  unfold mMv
  cases E[i]? with
  | none => rfl
  | some s => cases s <;> rfl
end FL
namespace FL
open PySem L2
theorem v_pr {f : En → Option Int} {E : En} : mPr f E = (f E).bind fun k => some (.imm (.int k), E) := rfl
theorem v_mul1 {d : PyData} {k : Int} (h0 : 0 ≤ k) (h1 : k ≤ 1000) : fMul (.lst [.imm d]) (.imm (.int k)) = some (.lst ((List.replicate k.toNat d).map Tr.imm)) := by
  unfold fMul
  show (some [d]).bind _ = _
  rw [Option.bind_some, if_pos ⟨by omega, by omega, by simp; omega⟩]
  congr 3
  generalize k.toNat = n
  induction n with
  | zero => rfl
  | succ n ih => rw [List.replicate_succ, List.replicate_succ, List.flatten_cons, ih]; rfl
theorem lcD_map {g : Tr → En → Option En} {m : MF} {vs : List Nat} {E : En} (f : PyData → Tr) : ∀ (ds : List PyData) (_ : ∀ d ∈ ds, ∃ E1 E2, g (.imm d) E = some E1 ∧ m E1 = some (f d, E2) ∧ wipeE E2 vs = some E) (acc : List Tr), acc.length + ds.length ≤ 16777216 → lcD g mYes m vs ds acc E = some (acc ++ ds.map f, E)
  | [], _, acc, _ => by simp [lcD]
  | d :: ds, h, acc, hl => by
    simp only [List.length_cons] at hl
    obtain ⟨E1, E2, e1, e2, e3⟩ := h d List.mem_cons_self
    rw [lcD, e1]
    simp only [Option.bind_some, mYes, if_true, e2]
    rw [if_pos (by omega), e3]
    simp only [Option.bind_some]
    rw [lcD_map f ds (fun d hd => h d (List.mem_cons_of_mem _ hd)) (acc ++ [f d]) (by simp; omega)]
    simp
/-- a square of numbers, as one's own lists -/
def rowsT (n : Nat) (G : Nat → Nat → Int) : Tr := .lst ((List.range n).map fun i => Tr.lst ((List.range n).map fun j => Tr.imm (.int (G i j))))
/-- a square of numbers, as tuples -/
def tabD (n : Nat) (G : Nat → Nat → Int) : PyData := .tuple ((List.range n).map fun i => PyData.tuple ((List.range n).map fun j => PyData.int (G i j)))
def updG (G : Nat → Nat → Int) (a b : Nat) (k : Int) : Nat → Nat → Int := fun i j => if i = a ∧ j = b then k else G i j
theorem range_get {α : Type} {f : Nat → α} {n i : Nat} (h : i < n) : ((List.range n).map f)[i]? = some (f i) := by
  rw [List.getElem?_map, List.getElem?_range h]; rfl
theorem range_set {α : Type} {f : Nat → α} {n i : Nat} {x : α} : ((List.range n).map f).set i x = (List.range n).map fun j => if j = i then x else f j := by
  refine List.ext_getElem? fun j => ?_
  rw [List.getElem?_set]
  by_cases hj : j < n
  · rw [range_get hj, range_get hj]
    by_cases e : i = j
    · subst e; rw [if_pos rfl, if_pos (by simpa using hj), if_pos rfl]
    · rw [if_neg e, if_neg (fun z => e z.symm)]
  · rw [List.getElem?_eq_none (l := List.map _ _) (by simp; omega), List.getElem?_eq_none (l := List.map _ _) (by simp; omega)]
    split
    · rename_i e; subst e; rw [if_neg (by simpa using hj)]
    · rfl
theorem sub2_rows {n a b : Nat} {G : Nat → Nat → Int} {k : Int} (ha : a < n) (hb : b < n) : sub2 (rowsT n G) (a : Int) (b : Int) (.imm (.int k)) = some (rowsT n (updG G a b k)) := by
  unfold sub2 rowsT
  simp only [List.length_map, List.length_range, ixN_nat ha, Option.bind_some, range_get ha, fSetA, ixN_nat hb, Option.map_some, range_set]
  congr 2
  refine List.map_congr_left fun i hi => ?_
  unfold updG
  by_cases e : i = a
  · rw [if_pos e]
    congr 1
    refine List.map_congr_left fun j hj => ?_
    by_cases e2 : j = b
    · rw [if_pos e2, if_pos ⟨e, e2⟩]
    · rw [if_neg e2, if_neg (fun z => e2 z.2), e]
  · rw [if_neg e]
    congr 1
    refine List.map_congr_left fun j hj => ?_
    rw [if_neg (fun z => e z.1)]
theorem ix2_rows {n a b i : Nat} {G : Nat → Nat → Int} {E : En} {fa fb : En → Option Int} (ha : a < n) (hb : b < n) (e1 : fa E = some (a : Int)) (e2 : fb E = some (b : Int)) (e3 : at? E i = some (rowsT n G)) : iIx2 i fa fb E = some (G a b) := by
  unfold iIx2 rowsT at *
  rw [e1, e2, e3]
  simp only [Option.bind_some, List.length_map, List.length_range, ixN_nat ha, range_get ha, ixAt, atI_nat (range_get hb), iOf]
end FL
namespace FL
theorem rng_nat {n : Nat} (h : n < 1000000) : rngOk (n : Int) = true := by
  simp only [rngOk, Bool.and_eq_true, decide_eq_true_eq]
  omega
theorem v_rgN {n : Nat} (h : n < 1000000) {E : En} : rng1D [.imm (.int (n : Nat))] E = some (rangeD 0 n, E) := by
  rw [v_rg1 (rng_nat h), Int.toNat_natCast]
end FL
namespace FL
open PySem L2
def wipeS (E : En) (v : Nat) : Option SL → Option En
  | some (.par _) => none
  | _ => some (E.set v .no)
def backS (v : Nat) (E : En) : Option SL → En
  | some (.val (.imm d)) => E.set v (.val (.imm d))
  | _ => E
theorem v_wpN {E : En} : wipeE E [] = some E := Eq.trans rfl rfl
theorem v_wpC {E : En} {v : Nat} {vs : List Nat} : wipeE E (v :: vs) = (wipeE E vs).bind fun E' => wipeS E' v E'[v]? := by
  rw [wipeE]
  cases wipeE E vs with
  | none => rfl
  | some E' =>
    simp only [Option.bind_some]
    cases E'[v]? with
    | none => rfl
    | some s => cases s <;> rfl
theorem v_wsN {E : En} {v : Nat} : wipeS E v (some .no) = some (E.set v .no) := rfl
theorem v_wsV {E : En} {v : Nat} {t : Tr} : wipeS E v (some (.val t)) = some (E.set v .no) := rfl
theorem v_wsO {E : En} {v : Nat} {t : Option Tr} : wipeS E v (some (ov t)) = some (E.set v .no) := by cases t <;> rfl
theorem v_bkN {E0 E : En} : backE E0 E [] = E := Eq.trans rfl rfl
theorem v_bkC {E0 E : En} {v : Nat} {vs : List Nat} : backE E0 E (v :: vs) = backS v (backE E0 E vs) E0[v]? := by
  rw [backE]
  cases E0[v]? with
  | none => rfl
  | some s =>
    cases s with
    | no => rfl
    | val t => cases t <;> rfl
    | par t => rfl
theorem v_bsN {E : En} {v : Nat} : backS v E (some .no) = E := rfl
theorem v_bsI {E : En} {v : Nat} {d : PyData} : backS v E (some (.val (.imm d))) = E.set v (.val (.imm d)) := rfl
end FL
namespace FL
theorem v_sf : ((some false : Option Bool) = some true) = False := eq_false (by decide)
end FL

/-! printed by gen.py: the walk of rw_mirrorkin_k04_tables_shown -/
namespace WK
open PySem L2 FL
def topS (i : Nat) : Stmt := PySem.Challenge.pw_mirrorkin_k04_tables_shown.main.body.getD i (.Pass ⟨0, 0, 0, 0⟩)
abbrev s_common_part : Stmt := topS 8
theorem sc_common_part : FnScope ["one", "other"] ["one", "other"] (defScope s_common_part) := ⟨rfl, rfl, rfl, by decide +kernel, rfl, by decide +kernel, by decide +kernel⟩
abbrev s_part_table : Stmt := topS 10
theorem sc_part_table : FnScope ["table", "part", "i", "j"] ["table", "part"] (defScope s_part_table) := ⟨rfl, rfl, rfl, by decide +kernel, rfl, by decide +kernel, by decide +kernel⟩
abbrev s_number_text : Stmt := topS 15
theorem sc_number_text : FnScope ["number"] ["number"] (defScope s_number_text) := ⟨rfl, rfl, rfl, by decide +kernel, rfl, by decide +kernel, by decide +kernel⟩
abbrev s_mirrors_told : Stmt := topS 17
theorem sc_mirrors_told : FnScope ["row", "many"] ["row"] (defScope s_mirrors_told) := ⟨rfl, rfl, rfl, by decide +kernel, rfl, by decide +kernel, by decide +kernel⟩
abbrev s_mirror_told : Stmt := topS 19
theorem sc_mirror_told : FnScope ["word", "many", "i"] ["word", "many"] (defScope s_mirror_told) := ⟨rfl, rfl, rfl, by decide +kernel, rfl, by decide +kernel, by decide +kernel⟩
abbrev s__law_hand : Stmt := topS 23
theorem sc__law_hand : FnScope ["_law_script", "_law_state", "_law_far", "_law_cell", "_law_k", "_law_mixed"] ["_law_script"] (defScope s__law_hand) := ⟨rfl, rfl, rfl, by decide +kernel, rfl, by decide +kernel, by decide +kernel⟩
abbrev s__law_take : Stmt := topS 24
theorem sc__law_take : FnScope ["_law_state", "_law_many", "_law_digit", "_law_mixed"] ["_law_state", "_law_many"] (defScope s__law_take) := ⟨rfl, rfl, rfl, by decide +kernel, rfl, by decide +kernel, by decide +kernel⟩
abbrev s__law_text : Stmt := topS 26
theorem sc__law_text : FnScope ["_law_table_here", "_law_written", "_law_words", "_law_i", "_law_j"] ["_law_table_here"] (defScope s__law_text) := ⟨rfl, rfl, rfl, by decide +kernel, rfl, by decide +kernel, by decide +kernel⟩
abbrev s_order_of : Stmt := topS 9
theorem sc_order_of : FnScope ["table", "order", "row", "number"] ["table"] (defScope s_order_of) := ⟨rfl, rfl, rfl, by decide +kernel, rfl, by decide +kernel, by decide +kernel⟩
abbrev s_show_table : Stmt := topS 16
theorem sc_show_table : FnScope ["table", "rows", "i", "row", "j"] ["table"] (defScope s_show_table) := ⟨rfl, rfl, rfl, by decide +kernel, rfl, by decide +kernel, by decide +kernel⟩
abbrev s_number_told : Stmt := topS 18
theorem sc_number_told : FnScope ["word", "number"] ["word"] (defScope s_number_told) := ⟨rfl, rfl, rfl, by decide +kernel, rfl, by decide +kernel, by decide +kernel⟩
abbrev s__law_table : Stmt := topS 25
theorem sc__law_table : FnScope ["_law_state", "_law_many", "_law_stocks", "_law_stock", "_law_rows", "_law_j", "_law_i", "_law_row"] ["_law_state", "_law_many"] (defScope s__law_table) := ⟨rfl, rfl, rfl, by decide +kernel, rfl, by decide +kernel, by decide +kernel⟩
abbrev s_pair_told : Stmt := topS 20
theorem sc_pair_told : FnScope ["row", "many", "words", "i", "j", "number"] ["row", "many"] (defScope s_pair_told) := ⟨rfl, rfl, rfl, by decide +kernel, rfl, by decide +kernel, by decide +kernel⟩
abbrev s_read_table : Stmt := topS 21
theorem sc_read_table : FnScope ["text", "rows", "many", "found", "last", "at", "told", "i", "j", "number", "table", "row"] ["text"] (defScope s_read_table) := ⟨rfl, rfl, rfl, by decide +kernel, rfl, by decide +kernel, by decide +kernel⟩
abbrev s__law_right : Stmt := topS 27
theorem sc__law_right : FnScope ["_law_table_here", "_law_found"] ["_law_table_here"] (defScope s__law_right) := ⟨rfl, rfl, rfl, by decide +kernel, rfl, by decide +kernel, by decide +kernel⟩
abbrev s_law : Stmt := topS 28
theorem sc_law : FnScope ["_law_script", "_law_state", "_law_k", "_law_table_here", "_law_part", "_law_i"] ["_law_script"] (defScope s_law) := ⟨rfl, rfl, rfl, by decide +kernel, rfl, by decide +kernel, by decide +kernel⟩
/-! ### the mirrors -/
noncomputable def m_common_part : MS :=
    (mSeq (mWhile (mTest (mOp fGt (mVar 1) (mER (mC (.int 0))))) (mPar 0 1 (faCons (mFz (mVar 1)) (faCons (mOp fMod (mVar 0) (mVar 1)) faNil))))
    (mRet (mFz (mVar 0))))
noncomputable def m_part_table : MS :=
    (mRet (mCB fTuple (arCons (mER (mLc (mSeqI (mFz (mVar 1))) (mName 2) mYes (mCB fTuple (arCons (mER (mLc (mSeqI (mFz (mVar 1))) (mName 3) mYes (mOp fIx (mER (mOp fIx (mVar 0) (mVar 2))) (mVar 3)) [3])) arNil)) [2])) arNil)))
noncomputable def m_number_text : MS :=
    (mSeq (mIfS (mTest (mOp fEq (mVar 0) (mER (mC (.int 0))))) (mRet (mC (.str "-"))) mNext)
    (mRet (mCB fStrI (arCons (mVar 0) arNil))))
noncomputable def m_mirrors_told : MS :=
    (mSeq (mFor (mRng1 (arCons (mER (mOp fAdd (mER (mC (.int 8))) (mER (mC (.int 1))))) arNil)) (mName 1) (mIfS (mTest (mOp fEq (mVar 0) (mER (mOp fAdd (mER (mC (.str "mirrors "))) (mER (mCB fStrI (arCons (mVar 1) arNil))))))) (mRet (mFz (mVar 1))) mNext))
    (mRet (mC .none)))
noncomputable def m_mirror_told : MS :=
    (mSeq (mFor (mRng1 (arCons (mVar 1) arNil)) (mName 2) (mIfS (mTest (mOp fEq (mVar 0) (mER (mOp fIx (mER (mC (.str "abcdefgh"))) (mVar 2))))) (mRet (mFz (mVar 2))) mNext))
    (mRet (mC .none)))
noncomputable def m__law_hand : MS :=
    (mSeq (mAsg (mLst (faCons (mC (.int 0)) (faCons (mC (.int 0)) (faCons (mC (.int 0)) faNil)))) (mName 1))
    (mSeq (mIfS (mAnd (mTest (mOp fGt (mER (mCB fLen (arCons (mVar 0) arNil))) (mER (mC (.int 0))))) (mTest (mOp fGe (mER (mOp fIx (mVar 0) (mER (mC (.int 0))))) (mER (mOp fPow (mER (mC (.int 10))) (mER (mC (.int 18)))))))) (mSeq (mAsg (mC (.int 1)) (mName 2))
    (mFor (mSeqI (mSl fSl (mVar 0) moNone (moSome (mC (.int 63))))) (mName 3) (mSeq (mAsg (mOp fAdd (mER (mOp fIx (mVar 1) (mER (mC (.int 0))))) (mER (mOp fMul (mER (mOp fMod (mER (mCB fAbs (arCons (mVar 3) arNil))) (mER (mOp fPow (mER (mC (.int 10))) (mER (mC (.int 60))))))) (mVar 2)))) (mSub 1 fSetA (mC (.int 0))))
    (mAsg (mOp fMul (mVar 2) (mER (mOp fPow (mER (mC (.int 10))) (mER (mC (.int 60)))))) (mName 2))))) mNext)
    (mSeq (mFor (mEnum (mSl fSl (mVar 0) moNone (moSome (mC (.int 63))))) (mTupG 2 (gsCons (mName 4) (gsCons (mName 3) gsNil))) (mSeq (mAsg (mOp fAdd (mER (mOp fAdd (mER (mOp fMod (mVar 3) (mER (mC (.int 2305843009213693951))))) (mER (mOp fMul (mER (mC (.int 7919))) (mVar 4))))) (mER (mC (.int 3)))) (mName 5))
    (mAsg (mOp fMod (mER (mOp fAdd (mER (mOp fMul (mER (mOp fIx (mVar 1) (mER (mC (.int 1))))) (mER (mC (.int 48271))))) (mVar 5))) (mER (mC (.int 2305843009213693951)))) (mSub 1 fSetA (mC (.int 1))))))
    (mRet (mMv 1)))))
noncomputable def m__law_take : MS :=
    (mSeq (mIfS (mTest (mOp fGt (mER (mOp fIx (mVar 0) (mER (mC (.int 0))))) (mER (mC (.int 0))))) (mSeq (mAsg (mOp fMod (mER (mOp fIx (mVar 0) (mER (mC (.int 0))))) (mVar 1)) (mName 2))
    (mSeq (mAsg (mOp fDiv (mER (mOp fIx (mVar 0) (mER (mC (.int 0))))) (mVar 1)) (mSub 0 fSetA (mC (.int 0))))
    (mRet (mFz (mVar 2))))) mNext)
    (mSeq (mAsg (mOp fAdd (mER (mOp fIx (mVar 0) (mER (mC (.int 2))))) (mER (mC (.int 1)))) (mSub 0 fSetA (mC (.int 2))))
    (mSeq (mAsg (mOp fMod (mER (mOp fMul (mER (mOp fAdd (mER (mOp fAdd (mER (mOp fIx (mVar 0) (mER (mC (.int 1))))) (mER (mOp fMul (mER (mOp fMul (mER (mC (.int 65537))) (mER (mOp fIx (mVar 0) (mER (mC (.int 2))))))) (mER (mOp fIx (mVar 0) (mER (mC (.int 2))))))))) (mER (mC (.int 11))))) (mER (mC (.int 48271))))) (mER (mC (.int 2305843009213693921)))) (mName 3))
    (mSeq (mAsg (mOp fMod (mER (mOp fMul (mVar 3) (mER (mOp fAdd (mER (mOp fMod (mVar 3) (mER (mC (.int 1000003))))) (mER (mOp fMul (mER (mC (.int 99991))) (mER (mOp fIx (mVar 0) (mER (mC (.int 2))))))))))) (mER (mC (.int 2305843009213693907)))) (mName 3))
    (mRet (mOp fMod (mER (mOp fAdd (mER (mOp fDiv (mVar 3) (mER (mC (.int 97))))) (mER (mOp fDiv (mVar 3) (mER (mC (.int 1000033))))))) (mVar 1)))))))
noncomputable def m__law_text : MS :=
    (mSeq (mAsg (mOp fAdd (mER (mC (.str "mirrors "))) (mER (mOp fIx (mER (mC (.str "012345678"))) (mER (mCB fLen (arCons (mVar 0) arNil)))))) (mName 1))
    (mSeq (mAsg (mLst (faCons (mC (.str "-")) (faCons (mC (.str "")) (faCons (mC (.str "")) (faCons (mC (.str "3")) (faCons (mC (.str "4")) (faCons (mC (.str "5")) (faCons (mC (.str "6")) (faCons (mC (.str "7")) (faCons (mC (.str "8")) (faCons (mC (.str "9")) (faCons (mC (.str "10")) (faCons (mC (.str "11")) (faCons (mC (.str "12")) faNil)))))))))))))) (mName 2))
    (mSeq (mFor (mRng1 (arCons (mER (mCB fLen (arCons (mVar 0) arNil))) arNil)) (mName 3) (mFor (mRng1 (arCons (mER (mCB fLen (arCons (mVar 0) arNil))) arNil)) (mName 4) (mIfS (mAnd (mTest (mOp fLt (mVar 3) (mVar 4))) (mTest (mOp fNe (mER (mOp fIx (mER (mOp fIx (mVar 0) (mVar 3))) (mVar 4))) (mER (mC (.int 2)))))) (mSeq (mAsg (mOp fAdd (mER (mOp fAdd (mER (mOp fAdd (mER (mOp fAdd (mVar 1) (mER (mC (.str "\n"))))) (mER (mOp fIx (mER (mC (.str "abcdefgh"))) (mVar 3))))) (mER (mC (.str " "))))) (mER (mOp fIx (mER (mC (.str "abcdefgh"))) (mVar 4)))) (mName 1))
    (mAsg (mOp fAdd (mER (mOp fAdd (mVar 1) (mER (mC (.str " "))))) (mER (mOp fIx (mVar 2) (mER (mOp fIx (mER (mOp fIx (mVar 0) (mVar 3))) (mVar 4)))))) (mName 1))) mNext)))
    (mRet (mFz (mVar 1))))))
noncomputable def m_order_of : MS :=
    (mSeq (mAsg (mC (.int 1)) (mName 1))
    (mSeq (mFor (mSeqI (mFz (mVar 0))) (mName 2) (mFor (mSeqI (mFz (mVar 2))) (mName 3) (mIfS (mTest (mOp fGt (mVar 3) (mER (mC (.int 2))))) (mAsg (mOp fDiv (mER (mOp fMul (mVar 1) (mVar 3))) (mER (mCall 2 (mFn 2 m_common_part) (arCons (mVar 1) (arCons (mVar 3) arNil))))) (mName 1)) mNext)))
    (mSeq (mIfS (mTest (mOp fEq (mVar 1) (mER (mC (.int 1))))) (mRet (mC (.int 3))) mNext)
    (mRet (mFz (mVar 1))))))
noncomputable def m_show_table : MS :=
    (mSeq (mAsg (mLst (faCons (mOp fAdd (mER (mC (.str "mirrors "))) (mER (mCB fStrI (arCons (mER (mCB fLen (arCons (mVar 0) arNil))) arNil)))) faNil)) (mName 1))
    (mSeq (mFor (mEnum (mFz (mVar 0))) (mTupG 2 (gsCons (mName 2) (gsCons (mName 3) gsNil))) (mFor (mRng2 (arCons (mER (mOp fAdd (mVar 2) (mER (mC (.int 1))))) (arCons (mER (mCB fLen (arCons (mVar 0) arNil))) arNil))) (mName 4) (mIfS (mTest (mOp fNe (mER (mOp fIx (mVar 3) (mVar 4))) (mER (mC (.int 2))))) (mDrop (mMut 1 "list" fAppend (faCons (mOp fAdd (mER (mOp fAdd (mER (mOp fAdd (mER (mOp fAdd (mER (mOp fIx (mER (mC (.str "abcdefgh"))) (mVar 2))) (mER (mC (.str " "))))) (mER (mOp fIx (mER (mC (.str "abcdefgh"))) (mVar 4))))) (mER (mC (.str " "))))) (mER (mCall 1 (mFn 1 m_number_text) (arCons (mER (mOp fIx (mVar 3) (mVar 4))) arNil)))) faNil))) mNext)))
    (mRet (mBM "str" fJoin (mER (mC (.str "\n"))) (arCons (mVar 1) arNil)))))
noncomputable def m_number_told : MS :=
    (mSeq (mFor (mSeqI (mOp fAdd (mER (mLst (faCons (mC (.int 0)) faNil))) (mER (mLstRg (rgM2 (mC (.int 3)) (mOp fAdd (mER (mC (.int 12))) (mER (mC (.int 1))))))))) (mName 1) (mIfS (mTest (mOp fEq (mVar 0) (mER (mCall 1 (mFn 1 m_number_text) (arCons (mVar 1) arNil))))) (mRet (mFz (mVar 1))) mNext))
    (mRet (mC .none)))
noncomputable def m__law_table : MS :=
    (mSeq (mAsg (mLst (faCons (mTup (faCons (mC (.int 2)) (faCons (mC (.int 3)) faNil))) (faCons (mTup (faCons (mC (.int 2)) (faCons (mC (.int 3)) (faCons (mC (.int 0)) faNil)))) (faCons (mTup (faCons (mC (.int 2)) (faCons (mC (.int 2)) (faCons (mC (.int 3)) (faCons (mC (.int 4)) faNil))))) (faCons (mTup (faCons (mC (.int 2)) (faCons (mC (.int 2)) (faCons (mC (.int 3)) (faCons (mC (.int 5)) faNil))))) (faCons (mTup (faCons (mC (.int 2)) (faCons (mC (.int 3)) (faCons (mC (.int 4)) (faCons (mC (.int 6)) (faCons (mC (.int 12)) (faCons (mC (.int 0)) faNil))))))) (faCons (mTup (faCons (mC (.int 2)) (faCons (mC (.int 3)) (faCons (mC (.int 4)) (faCons (mC (.int 5)) faNil))))) (faCons (mTup (faCons (mC (.int 2)) (faCons (mC (.int 7)) (faCons (mC (.int 0)) faNil)))) (faCons (mTup (faCons (mC (.int 2)) (faCons (mC (.int 4)) (faCons (mC (.int 8)) faNil)))) faNil))))))))) (mName 2))
    (mSeq (mAsg (mOp fAdd (mVar 2) (mER (mLst (faCons (mTup (faCons (mC (.int 2)) (faCons (mC (.int 9)) (faCons (mC (.int 5)) faNil)))) (faCons (mTup (faCons (mC (.int 2)) (faCons (mC (.int 5)) (faCons (mC (.int 10)) faNil)))) (faCons (mTup (faCons (mC (.int 2)) (faCons (mC (.int 2)) (faCons (mC (.int 11)) faNil)))) (faCons (mTup (faCons (mC (.int 2)) (faCons (mC (.int 3)) (faCons (mC (.int 4)) (faCons (mC (.int 5)) (faCons (mC (.int 6)) (faCons (mC (.int 10)) (faCons (mC (.int 12)) (faCons (mC (.int 0)) faNil))))))))) (faCons (mTup (faCons (mC (.int 2)) (faCons (mC (.int 7)) (faCons (mC (.int 8)) faNil)))) (faCons (mTup (faCons (mC (.int 2)) (faCons (mC (.int 2)) (faCons (mC (.int 2)) (faCons (mC (.int 3)) (faCons (mC (.int 8)) faNil)))))) faNil))))))))) (mName 2))
    (mSeq (mAsg (mOp fIx (mER (mOp fAdd (mVar 2) (mER (mLst (faCons (mTup (faCons (mC (.int 2)) (faCons (mC (.int 0)) faNil))) (faCons (mTup (faCons (mC (.int 2)) (faCons (mC (.int 2)) (faCons (mC (.int 2)) (faCons (mC (.int 2)) (faCons (mC (.int 3)) faNil)))))) faNil)))))) (mER (mCall 2 (mFn 4 m__law_take) (arCons (mVar 0) (arCons (mER (mC (.int 16))) arNil))))) (mName 3))
    (mSeq (mAsg (mLc (mRng1 (arCons (mVar 1) arNil)) (mName 6) mYes (mOp fMul (mER (mLst (faCons (mC (.int 1)) faNil))) (mVar 1)) [6]) (mName 4))
    (mSeq (mFor (mRng1 (arCons (mVar 1) arNil)) (mName 5) (mFor (mRng1 (arCons (mVar 5) arNil)) (mName 6) (mSeq (mAsg (mOp fIx (mVar 3) (mER (mCall 2 (mFn 4 m__law_take) (arCons (mVar 0) (arCons (mER (mCB fLen (arCons (mVar 3) arNil))) arNil))))) (mSub2 4 (iAt 6) (iAt 5)))
    (mAsg (mPr (iIx2 4 (iAt 6) (iAt 5))) (mSub2 4 (iAt 5) (iAt 6))))))
    (mRet (mCB fTuple (arCons (mER (mLc (mSeqI (mFz (mVar 4))) (mName 7) mYes (mCB fTuple (arCons (mVar 7) arNil)) [7])) arNil))))))))
noncomputable def m_pair_told : MS :=
    (mSeq (mAsg (mBM "str" fSplit (mVar 0) (arCons (mER (mC (.str " "))) arNil)) (mName 2))
    (mSeq (mIfS (mTest (mOp fNe (mER (mCB fLen (arCons (mVar 2) arNil))) (mER (mC (.int 3))))) (mRet (mC .none)) mNext)
    (mSeq (mPar 3 4 (faCons (mCall 2 (mFn 3 m_mirror_told) (arCons (mER (mOp fIx (mVar 2) (mER (mC (.int 0))))) (arCons (mVar 1) arNil))) (faCons (mCall 2 (mFn 3 m_mirror_told) (arCons (mER (mOp fIx (mVar 2) (mER (mC (.int 1))))) (arCons (mVar 1) arNil))) faNil)))
    (mSeq (mAsg (mCall 1 (mFn 2 m_number_told) (arCons (mER (mOp fIx (mVar 2) (mER (mC (.int 2))))) arNil)) (mName 5))
    (mSeq (mIfS (mOr (mTest (mOp fIsN (mVar 3) (mER (mC .none)))) (mOr (mTest (mOp fIsN (mVar 4) (mER (mC .none)))) (mOr (mTest (mOp fIsN (mVar 5) (mER (mC .none)))) (mTest (mOp fGe (mVar 3) (mVar 4)))))) (mRet (mC .none)) mNext)
    (mRet (mTup (faCons (mFz (mVar 3)) (faCons (mFz (mVar 4)) (faCons (mFz (mVar 5)) faNil))))))))))
noncomputable def m_read_table : MS :=
    (mSeq (mAsg (mBM "str" fSplit (mVar 0) (arCons (mER (mC (.str "\n"))) arNil)) (mName 1))
    (mSeq (mAsg (mCall 1 (mFn 2 m_mirrors_told) (arCons (mER (mOp fIx (mVar 1) (mER (mC (.int 0))))) arNil)) (mName 2))
    (mSeq (mIfS (mTest (mOp fIsN (mVar 2) (mER (mC .none)))) mNever mNext)
    (mSeq (mAsg (mLc (mRng1 (arCons (mVar 2) arNil)) (mName 7) mYes (mLc (mRng1 (arCons (mVar 2) arNil)) (mName 8) mYes (mIf (mTest (mOp fEq (mVar 7) (mVar 8))) (mC (.int 1)) (mC (.int 2))) [8]) [7]) (mName 3))
    (mSeq (mAsg (mTup (faCons (mUn fNeg (mER (mC (.int 1)))) (faCons (mUn fNeg (mER (mC (.int 1)))) faNil))) (mName 4))
    (mSeq (mFor (mRng2 (arCons (mER (mC (.int 1))) (arCons (mER (mCB fLen (arCons (mVar 1) arNil))) arNil))) (mName 5) (mSeq (mAsg (mCall 2 (mFn 6 m_pair_told) (arCons (mER (mOp fIx (mVar 1) (mVar 5))) (arCons (mVar 2) arNil))) (mName 6))
    (mSeq (mIfS (mOr (mTest (mOp fIsN (mVar 6) (mER (mC .none)))) (mTest (mOp fLeT (mER (mSl fSl (mVar 6) moNone (moSome (mC (.int 2))))) (mVar 4)))) mNever mNext)
    (mSeq (mAsg (mFz (mVar 6)) (mTupG 3 (gsCons (mName 7) (gsCons (mName 8) (gsCons (mName 9) gsNil)))))
    (mSeq (mAsg (mFz (mVar 9)) (mSub2 3 (iAt 7) (iAt 8)))
    (mSeq (mAsg (mFz (mVar 9)) (mSub2 3 (iAt 8) (iAt 7)))
    (mAsg (mTup (faCons (mFz (mVar 7)) (faCons (mFz (mVar 8)) faNil))) (mName 4))))))))
    (mSeq (mAsg (mCB fTuple (arCons (mER (mLc (mSeqI (mFz (mVar 3))) (mName 11) mYes (mCB fTuple (arCons (mVar 11) arNil)) [11])) arNil)) (mName 10))
    (mSeq (mIfS (mTest (mOp fGt (mER (mCall 1 (mFn 4 m_order_of) (arCons (mVar 10) arNil))) (mER (mC (.int 60))))) mNever mNext)
    (mRet (mFz (mVar 10)))))))))))
noncomputable def m__law_right : MS :=
    (mSeq (mAsg (mCall 1 (mFn 5 m_show_table) (arCons (mVar 0) arNil)) (mName 1))
    (mSeq (mIfS (mOr (mNot (mTru (mER (mIsi "str" (mVar 1))))) (mTest (mOp fNe (mVar 1) (mER (mCall 1 (mFn 5 m__law_text) (arCons (mVar 0) arNil)))))) (mRet (mC (.bool false))) mNext)
    (mRet (mAndV (mOp fEq (mER (mCB fRepr (arCons (mER (mCall 1 (mFn 12 m_read_table) (arCons (mVar 1) arNil))) arNil))) (mER (mCB fRepr (arCons (mVar 0) arNil)))) (mOp fEq (mER (mCB fRepr (arCons (mER (mCall 1 (mFn 12 m_read_table) (arCons (mER (mCall 1 (mFn 5 m__law_text) (arCons (mVar 0) arNil))) arNil))) arNil))) (mER (mCB fRepr (arCons (mVar 0) arNil))))))))
noncomputable def m_law : MS :=
    (mSeq (mAsg (mCall 1 (mFn 6 m__law_hand) (arCons (mVar 0) arNil)) (mName 1))
    (mSeq (mIfS (mOr (mNot (mTru (mER (mCall 1 (mFn 2 m__law_right) (arCons (mER (mTup faNil)) arNil))))) (mNot (mTru (mER (mCall 1 (mFn 2 m__law_right) (arCons (mER (mTup (faCons (mTup (faCons (mC (.int 1)) faNil)) faNil))) arNil)))))) (mRet (mC (.bool false))) mNext)
    (mSeq (mFor (mRng1 (arCons (mER (mCB fMax2 (arCons (mER (mC (.int 8))) (arCons (mER (mCB fMin2 (arCons (mER (mCB fLen (arCons (mVar 0) arNil))) (arCons (mER (mC (.int 50))) arNil)))) arNil)))) arNil)) (mName 2) (mSeq (mAsg (mCall 2 (mFn 8 m__law_table) (arCons (mVar 1) (arCons (mER (mOp fIx (mER (mLst (faCons (mCall 2 (mFn 4 m__law_take) (arCons (mVar 1) (arCons (mER (mC (.int 9))) arNil))) (faCons (mC (.int 7)) (faCons (mC (.int 8)) faNil))))) (mER (mCall 2 (mFn 4 m__law_take) (arCons (mVar 1) (arCons (mER (mC (.int 3))) arNil)))))) arNil))) (mName 3))
    (mSeq (mAsg (mCB fTuple (arCons (mER (mLc (mRng1 (arCons (mER (mCB fLen (arCons (mVar 3) arNil))) arNil)) (mName 5) (mTest (mOp fGt (mER (mCall 2 (mFn 4 m__law_take) (arCons (mVar 1) (arCons (mER (mC (.int 3))) arNil)))) (mER (mC (.int 0))))) (mFz (mVar 5)) [5])) arNil)) (mName 4))
    (mIfS (mOr (mNot (mTru (mER (mCall 1 (mFn 2 m__law_right) (arCons (mVar 3) arNil))))) (mNot (mTru (mER (mCall 1 (mFn 2 m__law_right) (arCons (mER (mCall 2 (mFn 4 m_part_table) (arCons (mVar 3) (arCons (mVar 4) arNil)))) arNil)))))) (mRet (mC (.bool false))) mNext))))
    (mRet (mC (.bool true))))))
/-! ### what the top has written -/
structure Txt (K : PySem.W.Frag) (mg : Str → Option Value) where
  a_common_part : Addr
  d_common_part : FuncData
  F_common_part : Fun K "common_part" "common_part" s_common_part a_common_part d_common_part
  g_common_part : mg "common_part" = some (.ref a_common_part)
  b_common_part : Binds K d_common_part ["one", "other"] []
  a_part_table : Addr
  d_part_table : FuncData
  F_part_table : Fun K "part_table" "part_table" s_part_table a_part_table d_part_table
  g_part_table : mg "part_table" = some (.ref a_part_table)
  b_part_table : Binds K d_part_table ["table", "part"] []
  a_number_text : Addr
  d_number_text : FuncData
  F_number_text : Fun K "number_text" "number_text" s_number_text a_number_text d_number_text
  g_number_text : mg "number_text" = some (.ref a_number_text)
  b_number_text : Binds K d_number_text ["number"] []
  a_mirrors_told : Addr
  d_mirrors_told : FuncData
  F_mirrors_told : Fun K "mirrors_told" "mirrors_told" s_mirrors_told a_mirrors_told d_mirrors_told
  g_mirrors_told : mg "mirrors_told" = some (.ref a_mirrors_told)
  b_mirrors_told : Binds K d_mirrors_told ["row"] []
  a_mirror_told : Addr
  d_mirror_told : FuncData
  F_mirror_told : Fun K "mirror_told" "mirror_told" s_mirror_told a_mirror_told d_mirror_told
  g_mirror_told : mg "mirror_told" = some (.ref a_mirror_told)
  b_mirror_told : Binds K d_mirror_told ["word", "many"] []
  a__law_hand : Addr
  d__law_hand : FuncData
  F__law_hand : Fun K "_law_hand" "_law_hand" s__law_hand a__law_hand d__law_hand
  g__law_hand : mg "_law_hand" = some (.ref a__law_hand)
  b__law_hand : Binds K d__law_hand ["_law_script"] []
  a__law_take : Addr
  d__law_take : FuncData
  F__law_take : Fun K "_law_take" "_law_take" s__law_take a__law_take d__law_take
  g__law_take : mg "_law_take" = some (.ref a__law_take)
  b__law_take : Binds K d__law_take ["_law_state", "_law_many"] []
  a__law_text : Addr
  d__law_text : FuncData
  F__law_text : Fun K "_law_text" "_law_text" s__law_text a__law_text d__law_text
  g__law_text : mg "_law_text" = some (.ref a__law_text)
  b__law_text : Binds K d__law_text ["_law_table_here"] []
  a_order_of : Addr
  d_order_of : FuncData
  F_order_of : Fun K "order_of" "order_of" s_order_of a_order_of d_order_of
  g_order_of : mg "order_of" = some (.ref a_order_of)
  b_order_of : Binds K d_order_of ["table"] []
  a_show_table : Addr
  d_show_table : FuncData
  F_show_table : Fun K "show_table" "show_table" s_show_table a_show_table d_show_table
  g_show_table : mg "show_table" = some (.ref a_show_table)
  b_show_table : Binds K d_show_table ["table"] []
  a_number_told : Addr
  d_number_told : FuncData
  F_number_told : Fun K "number_told" "number_told" s_number_told a_number_told d_number_told
  g_number_told : mg "number_told" = some (.ref a_number_told)
  b_number_told : Binds K d_number_told ["word"] []
  a__law_table : Addr
  d__law_table : FuncData
  F__law_table : Fun K "_law_table" "_law_table" s__law_table a__law_table d__law_table
  g__law_table : mg "_law_table" = some (.ref a__law_table)
  b__law_table : Binds K d__law_table ["_law_state", "_law_many"] []
  a_pair_told : Addr
  d_pair_told : FuncData
  F_pair_told : Fun K "pair_told" "pair_told" s_pair_told a_pair_told d_pair_told
  g_pair_told : mg "pair_told" = some (.ref a_pair_told)
  b_pair_told : Binds K d_pair_told ["row", "many"] []
  a_read_table : Addr
  d_read_table : FuncData
  F_read_table : Fun K "read_table" "read_table" s_read_table a_read_table d_read_table
  g_read_table : mg "read_table" = some (.ref a_read_table)
  b_read_table : Binds K d_read_table ["text"] []
  a__law_right : Addr
  d__law_right : FuncData
  F__law_right : Fun K "_law_right" "_law_right" s__law_right a__law_right d__law_right
  g__law_right : mg "_law_right" = some (.ref a__law_right)
  b__law_right : Binds K d__law_right ["_law_table_here"] []
  a_law : Addr
  d_law : FuncData
  F_law : Fun K "law" "law" s_law a_law d_law
  g_law : mg "law" = some (.ref a_law)
  b_law : Binds K d_law ["_law_script"] []
  z_abs : mg "abs" = none
  z_enumerate : mg "enumerate" = none
  z_isinstance : mg "isinstance" = none
  z_len : mg "len" = none
  z_list : mg "list" = none
  z_max : mg "max" = none
  z_min : mg "min" = none
  z_range : mg "range" = none
  z_repr : mg "repr" = none
  z_str : mg "str" = none
  z_tuple : mg "tuple" = none
  c_HEAD : { t : Tok // mg "HEAD" = some (.str "mirrors " t) }
  c_LEAST_ORDER : { t : Tok // mg "LEAST_ORDER" = some (.int 3 t) }
  c_LETTERS : { t : Tok // mg "LETTERS" = some (.str "abcdefgh" t) }
  c_MOST_MIRRORS : { t : Tok // mg "MOST_MIRRORS" = some (.int 8 t) }
  c_MOST_NUMBER : { t : Tok // mg "MOST_NUMBER" = some (.int 12 t) }
  c_MOST_ORDER : { t : Tok // mg "MOST_ORDER" = some (.int 60 t) }
  c_NEVER : { t : Tok // mg "NEVER" = some (.str "-" t) }
section
variable {P : Program} {w : World} {K : PySem.W.Frag} {mg : Str → Option Value} {base : Heap}
theorem ok_common_part (T : Txt K mg) : FnG P w K mg base CX0 1 T.a_common_part T.d_common_part ["one", "other"] (spM K 2 (mFn 2 m_common_part)) :=
  fn_ok (N := ["one", "other"]) (m := m_common_part) T.F_common_part sc_common_part (by decide) fun cdv A outer s H E hr => ⟨_, (pss_cons (ps_while PassesOwn.never (pt_cmpR op_gt (pv 1) pe_int (nomark _)) (pss_one (ps_par (i := 0) (j := 1) (by rfl) sc_common_part.nd rfl rfl (by decide) rfl rfl (pa_cons (pv 1) (pa_cons (pe_op op_mod (pv 0) (pv 1)) pa_nil)) (by rfl))))
      (pss_one (ps_ret (pv 0)))),
    (sr_seq (sr_while (tr_test (fr_op er_var (er_of fr_int) o_gt)) (sr_par (fa_cons (fr_of er_var) (fa_cons (fr_op er_var er_var o_mod) fa_nil))))
      (sr_ret (fr_of er_var)))⟩
theorem ok_part_table (T : Txt K mg) : FnG P w K mg base CX0 1 T.a_part_table T.d_part_table ["table", "part"] (spM K 2 (mFn 4 m_part_table)) :=
  fn_ok (N := ["table", "part", "i", "j"]) (m := m_part_table) T.F_part_table sc_part_table (by decide) fun cdv A outer s H E hr => ⟨_, (pss_one (ps_ret (pe_callTy call_tuple_of (by rfl) T.z_tuple (by decide +kernel) (pa_cons (pe_lc rfl sc_part_table.nd (pi_seq (pv 1)) (blkOk_by (own := [("i", 2)]) (by with_unfolding_all rfl)) (fun _ _ _ _ _ => (pg_name (i := 2) sc_part_table.nd rfl (by first | exact Or.inl rfl | exact Or.inr rfl))) (fun _ _ _ _ _ => pts_nil) (fun _ _ _ _ _ => (pe_callTy call_tuple_of (by rfl) T.z_tuple (by decide +kernel) (pa_cons (pe_lc rfl sc_part_table.nd (pi_seq (pv 1)) (blkOk_by (own := [("j", 3)]) (by with_unfolding_all rfl)) (fun _ _ _ _ _ => (pg_name (i := 3) sc_part_table.nd rfl (by first | exact Or.inl rfl | exact Or.inr rfl))) (fun _ _ _ _ _ => pts_nil) (fun _ _ _ _ _ => (pe_ix ix_seq (pe_ix ix_seq (pv 0) (pv 2) (fun _ _ => rfl)) (pv 3) (fun _ _ => rfl)))) pa_nil)))) pa_nil)))),
    (sr_ret (fr_cb (ar_cons (er_of (fr_lc (ir_seq (fr_of er_var)) gr_name tr_yes (fr_cb (ar_cons (er_of (fr_lc (ir_seq (fr_of er_var)) gr_name tr_yes (fr_op (er_of (fr_op er_var er_var o_ix)) er_var o_ix) (by decide))) ar_nil) c_tuple) (by decide))) ar_nil) c_tuple))⟩
theorem ok_number_text (T : Txt K mg) : FnG P w K mg base CX0 1 T.a_number_text T.d_number_text ["number"] (spM K 1 (mFn 1 m_number_text)) :=
  fn_ok (N := ["number"]) (m := m_number_text) T.F_number_text sc_number_text (by decide) fun cdv A outer s H E hr => ⟨_, (pss_cons (ps_if (pt_cmpR (op_eqA hr.u64) (pv 0) pe_int (nomark _)) (pss_one (ps_ret (pe_glob (v := .str "-") (by rfl) T.c_NEVER.2 ⟨_, rfl⟩))) pss_nil)
      (pss_one (ps_ret (pe_callTy call_str_int (by rfl) T.z_str (by decide +kernel) (pa_cons (pv 0) pa_nil))))),
    (sr_seq (sr_if (tr_test (fr_op er_var (er_of fr_int) o_eq)) (sr_ret fr_str) sr_next)
      (sr_ret (fr_cb (ar_cons er_var ar_nil) c_str)))⟩
theorem ok_mirrors_told (T : Txt K mg) : FnG P w K mg base CX0 1 T.a_mirrors_told T.d_mirrors_told ["row"] (spM K 1 (mFn 2 m_mirrors_told)) :=
  fn_ok (N := ["row", "many"]) (m := m_mirrors_told) T.F_mirrors_told sc_mirrors_told (by decide) fun cdv A outer s H E hr => ⟨_, (pss_cons (ps_for PassesOwn.never rfl (pi_range1 (by rfl) T.z_range (pa_cons (pe_op op_addA (pe_glob (v := .int 8) (by rfl) T.c_MOST_MIRRORS.2 ⟨_, rfl⟩) pe_int) pa_nil)) (pg_name (i := 1) sc_mirrors_told.nd rfl (by first | exact Or.inl rfl | exact Or.inr rfl)) (pss_one (ps_if (pt_cmpR (op_eqA hr.u64) (pv 0) (pe_op op_addA (pe_glob (v := .str "mirrors ") (by rfl) T.c_HEAD.2 ⟨_, rfl⟩) (pe_callTy call_str_int (by rfl) T.z_str (by decide +kernel) (pa_cons (pv 1) pa_nil))) (nomark _)) (pss_one (ps_ret (pv 1))) pss_nil)))
      (pss_one (ps_ret pe_non))),
    (sr_seq (sr_for (ir_rng1 (ar_cons (er_of (fr_op (er_of fr_int) (er_of fr_int) o_add)) ar_nil)) gr_name (sr_if (tr_test (fr_op er_var (er_of (fr_op (er_of fr_str) (er_of (fr_cb (ar_cons er_var ar_nil) c_str)) o_add)) o_eq)) (sr_ret (fr_of er_var)) sr_next))
      (sr_ret fr_non))⟩
theorem ok_mirror_told (T : Txt K mg) : FnG P w K mg base CX0 1 T.a_mirror_told T.d_mirror_told ["word", "many"] (spM K 2 (mFn 3 m_mirror_told)) :=
  fn_ok (N := ["word", "many", "i"]) (m := m_mirror_told) T.F_mirror_told sc_mirror_told (by decide) fun cdv A outer s H E hr => ⟨_, (pss_cons (ps_for PassesOwn.never rfl (pi_range1 (by rfl) T.z_range (pa_cons (pv 1) pa_nil)) (pg_name (i := 2) sc_mirror_told.nd rfl (by first | exact Or.inl rfl | exact Or.inr rfl)) (pss_one (ps_if (pt_cmpR (op_eqA hr.u64) (pv 0) (pe_ix ix_seq (pe_glob (v := .str "abcdefgh") (by rfl) T.c_LETTERS.2 ⟨_, rfl⟩) (pv 2) (fun _ _ => rfl)) (nomark _)) (pss_one (ps_ret (pv 2))) pss_nil)))
      (pss_one (ps_ret pe_non))),
    (sr_seq (sr_for (ir_rng1 (ar_cons er_var ar_nil)) gr_name (sr_if (tr_test (fr_op er_var (er_of (fr_op (er_of fr_str) er_var o_ix)) o_eq)) (sr_ret (fr_of er_var)) sr_next))
      (sr_ret fr_non))⟩
theorem ok__law_hand (T : Txt K mg) : FnG P w K mg base CX0 1 T.a__law_hand T.d__law_hand ["_law_script"] (spM K 1 (mFn 6 m__law_hand)) :=
  fn_ok (N := ["_law_script", "_law_state", "_law_far", "_law_cell", "_law_k", "_law_mixed"]) (m := m__law_hand) T.F__law_hand sc__law_hand (by decide) fun cdv A outer s H E hr => ⟨_, (pss_cons (ps_set (i := 1) sc__law_hand.nd rfl (Or.inl rfl) (pe_lst (pa_cons pe_int (pa_cons pe_int (pa_cons pe_int pa_nil)))))
      (pss_cons (ps_if (PW.pt (pw_and (pt_cmpR op_gt (pe_callB call_lenA (by rfl) T.z_len (by decide +kernel) (pa_cons (pv 0) pa_nil)) pe_int (nomark _)) (pw_and1 (pt_cmpR op_ge (pe_ix ix_seq (pv 0) pe_int (fun _ _ => rfl)) (pe_op op_pow pe_int pe_int) (nomark _))))) (pss_cons (ps_set (i := 2) sc__law_hand.nd rfl (Or.inl rfl) pe_int)
      (pss_one (ps_for PassesOwn.never rfl (pi_seq (pe_slice sl_any (pv 0) po_none (po_some pe_int))) (pg_name (i := 3) sc__law_hand.nd rfl (by first | exact Or.inl rfl | exact Or.inr rfl)) (pss_cons (ps_asg (pe_op op_addA (pe_ix ix_seq (pv 1) pe_int (fun _ _ => rfl)) (pe_op op_mulA (pe_op op_mod (pe_callB call_abs (by rfl) T.z_abs (by decide +kernel) (pa_cons (pv 3) pa_nil)) (pe_op op_pow pe_int pe_int)) (pv 2))) (pg_sub (pv 1) pe_int (set_any hr.u1)))
      (pss_one (ps_set (i := 2) sc__law_hand.nd rfl (Or.inl rfl) (pe_op op_mulA (pv 2) (pe_op op_pow pe_int pe_int)))))))) pss_nil)
      (pss_cons (ps_for PassesOwn.never rfl (pi_enumA (by rfl) T.z_enumerate (pa_cons (pe_slice sl_any (pv 0) po_none (po_some pe_int)) pa_nil)) (pg_tup rfl (pgs_cons (pg_name (i := 4) sc__law_hand.nd rfl (by first | exact Or.inl rfl | exact Or.inr rfl)) (pgs_cons (pg_name (i := 3) sc__law_hand.nd rfl (by first | exact Or.inl rfl | exact Or.inr rfl)) pgs_nil))) (pss_cons (ps_set (i := 5) sc__law_hand.nd rfl (Or.inl rfl) (pe_op op_addA (pe_op op_addA (pe_op op_mod (pv 3) pe_int) (pe_op op_mulA pe_int (pv 4))) pe_int))
      (pss_one (ps_asg (pe_op op_mod (pe_op op_addA (pe_op op_mulA (pe_ix ix_seq (pv 1) pe_int (fun _ _ => rfl)) pe_int) (pv 5)) pe_int) (pg_sub (pv 1) pe_int (set_any hr.u1))))))
      (pss_one (ps_ret (pv 1)))))),
    (sr_seq (sr_asg (fr_lst (fa_cons fr_int (fa_cons fr_int (fa_cons fr_int fa_nil)))) gr_name)
      (sr_seq (sr_if (tr_and (tr_test (fr_op (er_of (fr_cb (ar_cons er_var ar_nil) c_len)) (er_of fr_int) o_gt)) (tr_test (fr_op (er_of (fr_op er_var (er_of fr_int) o_ix)) (er_of (fr_op (er_of fr_int) (er_of fr_int) o_pow)) o_ge))) (sr_seq (sr_asg fr_int gr_name)
      (sr_for (ir_seq (fr_sl er_var or_none (or_some fr_int) o_sl)) gr_name (sr_seq (sr_asg (fr_op (er_of (fr_op er_var (er_of fr_int) o_ix)) (er_of (fr_op (er_of (fr_op (er_of (fr_cb (ar_cons er_var ar_nil) c_abs)) (er_of (fr_op (er_of fr_int) (er_of fr_int) o_pow)) o_mod)) er_var o_mul)) o_add) (gr_sub fr_int set_tree))
      (sr_asg (fr_op er_var (er_of (fr_op (er_of fr_int) (er_of fr_int) o_pow)) o_mul) gr_name)))) sr_next)
      (sr_seq (sr_for (ir_enum (fr_sl er_var or_none (or_some fr_int) o_sl)) (gr_tup (grs_cons gr_name (grs_cons gr_name grs_nil))) (sr_seq (sr_asg (fr_op (er_of (fr_op (er_of (fr_op er_var (er_of fr_int) o_mod)) (er_of (fr_op (er_of fr_int) er_var o_mul)) o_add)) (er_of fr_int) o_add) gr_name)
      (sr_asg (fr_op (er_of (fr_op (er_of (fr_op (er_of (fr_op er_var (er_of fr_int) o_ix)) (er_of fr_int) o_mul)) er_var o_add)) (er_of fr_int) o_mod) (gr_sub fr_int set_tree))))
      (sr_ret fr_mv))))⟩
theorem ok__law_take (T : Txt K mg) : FnG P w K mg base CX0 1 T.a__law_take T.d__law_take ["_law_state", "_law_many"] (spM K 2 (mFn 4 m__law_take)) :=
  fn_ok (N := ["_law_state", "_law_many", "_law_digit", "_law_mixed"]) (m := m__law_take) T.F__law_take sc__law_take (by decide) fun cdv A outer s H E hr => ⟨_, (pss_cons (ps_if (pt_cmpR op_gt (pe_ix ix_seq (pv 0) pe_int (fun _ _ => rfl)) pe_int (nomark _)) (pss_cons (ps_set (i := 2) sc__law_take.nd rfl (Or.inl rfl) (pe_op op_mod (pe_ix ix_seq (pv 0) pe_int (fun _ _ => rfl)) (pv 1)))
      (pss_cons (ps_asg (pe_op op_fdivW (pe_ix ix_seq (pv 0) pe_int (fun _ _ => rfl)) (pv 1)) (pg_sub (pv 0) pe_int (set_any hr.u1)))
      (pss_one (ps_ret (pv 2))))) pss_nil)
      (pss_cons (ps_asg (pe_op op_addA (pe_ix ix_seq (pv 0) pe_int (fun _ _ => rfl)) pe_int) (pg_sub (pv 0) pe_int (set_any hr.u1)))
      (pss_cons (ps_set (i := 3) sc__law_take.nd rfl (Or.inl rfl) (pe_op op_mod (pe_op op_mulA (pe_op op_addA (pe_op op_addA (pe_ix ix_seq (pv 0) pe_int (fun _ _ => rfl)) (pe_op op_mulA (pe_op op_mulA pe_int (pe_ix ix_seq (pv 0) pe_int (fun _ _ => rfl))) (pe_ix ix_seq (pv 0) pe_int (fun _ _ => rfl)))) pe_int) pe_int) pe_int))
      (pss_cons (ps_set (i := 3) sc__law_take.nd rfl (Or.inl rfl) (pe_op op_mod (pe_op op_mulA (pv 3) (pe_op op_addA (pe_op op_mod (pv 3) pe_int) (pe_op op_mulA pe_int (pe_ix ix_seq (pv 0) pe_int (fun _ _ => rfl))))) pe_int))
      (pss_one (ps_ret (pe_op op_mod (pe_op op_addA (pe_op op_fdivW (pv 3) pe_int) (pe_op op_fdivW (pv 3) pe_int)) (pv 1)))))))),
    (sr_seq (sr_if (tr_test (fr_op (er_of (fr_op er_var (er_of fr_int) o_ix)) (er_of fr_int) o_gt)) (sr_seq (sr_asg (fr_op (er_of (fr_op er_var (er_of fr_int) o_ix)) er_var o_mod) gr_name)
      (sr_seq (sr_asg (fr_op (er_of (fr_op er_var (er_of fr_int) o_ix)) er_var o_div) (gr_sub fr_int set_tree))
      (sr_ret (fr_of er_var)))) sr_next)
      (sr_seq (sr_asg (fr_op (er_of (fr_op er_var (er_of fr_int) o_ix)) (er_of fr_int) o_add) (gr_sub fr_int set_tree))
      (sr_seq (sr_asg (fr_op (er_of (fr_op (er_of (fr_op (er_of (fr_op (er_of (fr_op er_var (er_of fr_int) o_ix)) (er_of (fr_op (er_of (fr_op (er_of fr_int) (er_of (fr_op er_var (er_of fr_int) o_ix)) o_mul)) (er_of (fr_op er_var (er_of fr_int) o_ix)) o_mul)) o_add)) (er_of fr_int) o_add)) (er_of fr_int) o_mul)) (er_of fr_int) o_mod) gr_name)
      (sr_seq (sr_asg (fr_op (er_of (fr_op er_var (er_of (fr_op (er_of (fr_op er_var (er_of fr_int) o_mod)) (er_of (fr_op (er_of fr_int) (er_of (fr_op er_var (er_of fr_int) o_ix)) o_mul)) o_add)) o_mul)) (er_of fr_int) o_mod) gr_name)
      (sr_ret (fr_op (er_of (fr_op (er_of (fr_op er_var (er_of fr_int) o_div)) (er_of (fr_op er_var (er_of fr_int) o_div)) o_add)) er_var o_mod))))))⟩
theorem ok__law_text (T : Txt K mg) : FnG P w K mg base CX0 1 T.a__law_text T.d__law_text ["_law_table_here"] (spM K 1 (mFn 5 m__law_text)) :=
  fn_ok (N := ["_law_table_here", "_law_written", "_law_words", "_law_i", "_law_j"]) (m := m__law_text) T.F__law_text sc__law_text (by decide) fun cdv A outer s H E hr => ⟨_, (pss_cons (ps_set (i := 1) sc__law_text.nd rfl (Or.inl rfl) (pe_op op_addA pe_str (pe_ix ix_seq pe_str (pe_callB call_lenA (by rfl) T.z_len (by decide +kernel) (pa_cons (pv 0) pa_nil)) (fun _ _ => rfl))))
      (pss_cons (ps_set (i := 2) sc__law_text.nd rfl (Or.inl rfl) (pe_lst (pa_cons pe_str (pa_cons pe_str (pa_cons pe_str (pa_cons pe_str (pa_cons pe_str (pa_cons pe_str (pa_cons pe_str (pa_cons pe_str (pa_cons pe_str (pa_cons pe_str (pa_cons pe_str (pa_cons pe_str (pa_cons pe_str pa_nil)))))))))))))))
      (pss_cons (ps_for PassesOwn.never rfl (pi_range1 (by rfl) T.z_range (pa_cons (pe_callB call_lenA (by rfl) T.z_len (by decide +kernel) (pa_cons (pv 0) pa_nil)) pa_nil)) (pg_name (i := 3) sc__law_text.nd rfl (by first | exact Or.inl rfl | exact Or.inr rfl)) (pss_one (ps_for PassesOwn.never rfl (pi_range1 (by rfl) T.z_range (pa_cons (pe_callB call_lenA (by rfl) T.z_len (by decide +kernel) (pa_cons (pv 0) pa_nil)) pa_nil)) (pg_name (i := 4) sc__law_text.nd rfl (by first | exact Or.inl rfl | exact Or.inr rfl)) (pss_one (ps_if (PW.pt (pw_and (pt_cmpR op_lt (pv 3) (pv 4) (nomark _)) (pw_and1 (pt_cmpR (op_neA hr.u64) (pe_ix ix_seq (pe_ix ix_seq (pv 0) (pv 3) (fun _ _ => rfl)) (pv 4) (fun _ _ => rfl)) pe_int (nomark _))))) (pss_cons (ps_set (i := 1) sc__law_text.nd rfl (Or.inl rfl) (pe_op op_addA (pe_op op_addA (pe_op op_addA (pe_op op_addA (pv 1) pe_str) (pe_ix ix_seq pe_str (pv 3) (fun _ _ => rfl))) pe_str) (pe_ix ix_seq pe_str (pv 4) (fun _ _ => rfl))))
      (pss_one (ps_set (i := 1) sc__law_text.nd rfl (Or.inl rfl) (pe_op op_addA (pe_op op_addA (pv 1) pe_str) (pe_ix ix_seq (pv 2) (pe_ix ix_seq (pe_ix ix_seq (pv 0) (pv 3) (fun _ _ => rfl)) (pv 4) (fun _ _ => rfl)) (fun _ _ => rfl)))))) pss_nil)))))
      (pss_one (ps_ret (pv 1)))))),
    (sr_seq (sr_asg (fr_op (er_of fr_str) (er_of (fr_op (er_of fr_str) (er_of (fr_cb (ar_cons er_var ar_nil) c_len)) o_ix)) o_add) gr_name)
      (sr_seq (sr_asg (fr_lst (fa_cons fr_str (fa_cons fr_str (fa_cons fr_str (fa_cons fr_str (fa_cons fr_str (fa_cons fr_str (fa_cons fr_str (fa_cons fr_str (fa_cons fr_str (fa_cons fr_str (fa_cons fr_str (fa_cons fr_str (fa_cons fr_str fa_nil)))))))))))))) gr_name)
      (sr_seq (sr_for (ir_rng1 (ar_cons (er_of (fr_cb (ar_cons er_var ar_nil) c_len)) ar_nil)) gr_name (sr_for (ir_rng1 (ar_cons (er_of (fr_cb (ar_cons er_var ar_nil) c_len)) ar_nil)) gr_name (sr_if (tr_and (tr_test (fr_op er_var er_var o_lt)) (tr_test (fr_op (er_of (fr_op (er_of (fr_op er_var er_var o_ix)) er_var o_ix)) (er_of fr_int) o_ne))) (sr_seq (sr_asg (fr_op (er_of (fr_op (er_of (fr_op (er_of (fr_op er_var (er_of fr_str) o_add)) (er_of (fr_op (er_of fr_str) er_var o_ix)) o_add)) (er_of fr_str) o_add)) (er_of (fr_op (er_of fr_str) er_var o_ix)) o_add) gr_name)
      (sr_asg (fr_op (er_of (fr_op er_var (er_of fr_str) o_add)) (er_of (fr_op er_var (er_of (fr_op (er_of (fr_op er_var er_var o_ix)) er_var o_ix)) o_ix)) o_add) gr_name)) sr_next)))
      (sr_ret (fr_of er_var)))))⟩
theorem ok_order_of (T : Txt K mg) : FnG P w K mg base CX0 2 T.a_order_of T.d_order_of ["table"] (spM K 1 (mFn 4 m_order_of)) :=
  fn_ok (N := ["table", "order", "row", "number"]) (m := m_order_of) T.F_order_of sc_order_of (by decide) fun cdv A outer s H E hr => ⟨_, (pss_cons (ps_set (i := 1) sc_order_of.nd rfl (Or.inl rfl) pe_int)
      (pss_cons (ps_for PassesOwn.never rfl (pi_seq (pv 0)) (pg_name (i := 2) sc_order_of.nd rfl (by first | exact Or.inl rfl | exact Or.inr rfl)) (pss_one (ps_for PassesOwn.never rfl (pi_seq (pv 2)) (pg_name (i := 3) sc_order_of.nd rfl (by first | exact Or.inl rfl | exact Or.inr rfl)) (pss_one (ps_if (pt_cmpR op_gt (pv 3) pe_int (nomark _)) (pss_one (ps_set (i := 1) sc_order_of.nd rfl (Or.inl rfl) (pe_op op_fdivW (pe_op op_mulA (pv 1) (pv 3)) (pe_callG (ok_common_part T) (hr.mono (by decide)) (by rfl) T.g_common_part T.F_common_part.kp T.b_common_part pass0 (pa_cons (pv 1) (pa_cons (pv 3) pa_nil)))))) pss_nil)))))
      (pss_cons (ps_if (pt_cmpR (op_eqA hr.u64) (pv 1) pe_int (nomark _)) (pss_one (ps_ret (pe_glob (v := .int 3) (by rfl) T.c_LEAST_ORDER.2 ⟨_, rfl⟩))) pss_nil)
      (pss_one (ps_ret (pv 1)))))),
    (sr_seq (sr_asg fr_int gr_name)
      (sr_seq (sr_for (ir_seq (fr_of er_var)) gr_name (sr_for (ir_seq (fr_of er_var)) gr_name (sr_if (tr_test (fr_op er_var (er_of fr_int) o_gt)) (sr_asg (fr_op (er_of (fr_op er_var er_var o_mul)) (er_of (fr_call (ar_cons er_var (ar_cons er_var ar_nil)))) o_div) gr_name) sr_next)))
      (sr_seq (sr_if (tr_test (fr_op er_var (er_of fr_int) o_eq)) (sr_ret fr_int) sr_next)
      (sr_ret (fr_of er_var)))))⟩
theorem ok_show_table (T : Txt K mg) : FnG P w K mg base CX0 2 T.a_show_table T.d_show_table ["table"] (spM K 1 (mFn 5 m_show_table)) :=
  fn_ok (N := ["table", "rows", "i", "row", "j"]) (m := m_show_table) T.F_show_table sc_show_table (by decide) fun cdv A outer s H E hr => ⟨_, (pss_cons (ps_set (i := 1) sc_show_table.nd rfl (Or.inl rfl) (pe_lst (pa_cons (pe_op op_addA (pe_glob (v := .str "mirrors ") (by rfl) T.c_HEAD.2 ⟨_, rfl⟩) (pe_callTy call_str_int (by rfl) T.z_str (by decide +kernel) (pa_cons (pe_callB call_lenA (by rfl) T.z_len (by decide +kernel) (pa_cons (pv 0) pa_nil)) pa_nil))) pa_nil)))
      (pss_cons (ps_for PassesOwn.never rfl (pi_enumA (by rfl) T.z_enumerate (pa_cons (pv 0) pa_nil)) (pg_tup rfl (pgs_cons (pg_name (i := 2) sc_show_table.nd rfl (by first | exact Or.inl rfl | exact Or.inr rfl)) (pgs_cons (pg_name (i := 3) sc_show_table.nd rfl (by first | exact Or.inl rfl | exact Or.inr rfl)) pgs_nil))) (pss_one (ps_for PassesOwn.never rfl (pi_range2 (by rfl) T.z_range (pa_cons (pe_op op_addA (pv 2) pe_int) (pa_cons (pe_callB call_lenA (by rfl) T.z_len (by decide +kernel) (pa_cons (pv 0) pa_nil)) pa_nil))) (pg_name (i := 4) sc_show_table.nd rfl (by first | exact Or.inl rfl | exact Or.inr rfl)) (pss_one (ps_if (pt_cmpR (op_neA hr.u64) (pe_ix ix_seq (pv 3) (pv 4) (fun _ _ => rfl)) pe_int (nomark _)) (pss_one (ps_expr (pe_bm PySem.F.plainAttrs_list PySem.F.slot_list_append PySem.F.type_list_append mt_append (pv 1) (pa_cons (pe_op op_addA (pe_op op_addA (pe_op op_addA (pe_op op_addA (pe_ix ix_seq (pe_glob (v := .str "abcdefgh") (by rfl) T.c_LETTERS.2 ⟨_, rfl⟩) (pv 2) (fun _ _ => rfl)) pe_str) (pe_ix ix_seq (pe_glob (v := .str "abcdefgh") (by rfl) T.c_LETTERS.2 ⟨_, rfl⟩) (pv 4) (fun _ _ => rfl))) pe_str) (pe_callG (ok_number_text T) (hr.mono (by decide)) (by rfl) T.g_number_text T.F_number_text.kp T.b_number_text pass0 (pa_cons (pe_ix ix_seq (pv 3) (pv 4) (fun _ _ => rfl)) pa_nil))) pa_nil)))) pss_nil)))))
      (pss_one (ps_ret (pe_bm PySem.F.plainAttrs_str PySem.F.slot_str_join PySem.F.type_str_join mt_joinA pe_str (pa_cons (pv 1) pa_nil)))))),
    (sr_seq (sr_asg (fr_lst (fa_cons (fr_op (er_of fr_str) (er_of (fr_cb (ar_cons (er_of (fr_cb (ar_cons er_var ar_nil) c_len)) ar_nil) c_str)) o_add) fa_nil)) gr_name)
      (sr_seq (sr_for (ir_enum (fr_of er_var)) (gr_tup (grs_cons gr_name (grs_cons gr_name grs_nil))) (sr_for (ir_rng2 (ar_cons (er_of (fr_op er_var (er_of fr_int) o_add)) (ar_cons (er_of (fr_cb (ar_cons er_var ar_nil) c_len)) ar_nil))) gr_name (sr_if (tr_test (fr_op (er_of (fr_op er_var er_var o_ix)) (er_of fr_int) o_ne)) (sr_drop (fr_mut (fa_cons (fr_op (er_of (fr_op (er_of (fr_op (er_of (fr_op (er_of (fr_op (er_of fr_str) er_var o_ix)) (er_of fr_str) o_add)) (er_of (fr_op (er_of fr_str) er_var o_ix)) o_add)) (er_of fr_str) o_add)) (er_of (fr_call (ar_cons (er_of (fr_op er_var er_var o_ix)) ar_nil))) o_add) fa_nil) mu_append)) sr_next)))
      (sr_ret (fr_bm (er_of fr_str) (ar_cons er_var ar_nil) m_join))))⟩
theorem ok_number_told (T : Txt K mg) : FnG P w K mg base CX0 2 T.a_number_told T.d_number_told ["word"] (spM K 1 (mFn 2 m_number_told)) :=
  fn_ok (N := ["word", "number"]) (m := m_number_told) T.F_number_told sc_number_told (by decide) fun cdv A outer s H E hr => ⟨_, (pss_cons (ps_for PassesOwn.never rfl (pi_seq (pe_op op_addA (pe_lst (pa_cons pe_int pa_nil)) (pe_listRg rfl (by rfl) T.z_list (prg_2 (by rfl) T.z_range pe_int (pe_op op_addA (pe_glob (v := .int 12) (by rfl) T.c_MOST_NUMBER.2 ⟨_, rfl⟩) pe_int))))) (pg_name (i := 1) sc_number_told.nd rfl (by first | exact Or.inl rfl | exact Or.inr rfl)) (pss_one (ps_if (pt_cmpR (op_eqA hr.u64) (pv 0) (pe_callG (ok_number_text T) (hr.mono (by decide)) (by rfl) T.g_number_text T.F_number_text.kp T.b_number_text pass0 (pa_cons (pv 1) pa_nil)) (nomark _)) (pss_one (ps_ret (pv 1))) pss_nil)))
      (pss_one (ps_ret pe_non))),
    (sr_seq (sr_for (ir_seq (fr_op (er_of (fr_lst (fa_cons fr_int fa_nil))) (er_of (fr_lstRg2 fr_int (fr_op (er_of fr_int) (er_of fr_int) o_add))) o_add)) gr_name (sr_if (tr_test (fr_op er_var (er_of (fr_call (ar_cons er_var ar_nil))) o_eq)) (sr_ret (fr_of er_var)) sr_next))
      (sr_ret fr_non))⟩
theorem ok__law_table (T : Txt K mg) : FnG P w K mg base CX0 2 T.a__law_table T.d__law_table ["_law_state", "_law_many"] (spM K 2 (mFn 8 m__law_table)) :=
  fn_ok (N := ["_law_state", "_law_many", "_law_stocks", "_law_stock", "_law_rows", "_law_j", "_law_i", "_law_row"]) (m := m__law_table) T.F__law_table sc__law_table (by decide) fun cdv A outer s H E hr => ⟨_, (pss_cons (ps_set (i := 2) sc__law_table.nd rfl (Or.inl rfl) (pe_lst (pa_cons (pe_tup (pa_cons pe_int (pa_cons pe_int pa_nil))) (pa_cons (pe_tup (pa_cons pe_int (pa_cons pe_int (pa_cons pe_int pa_nil)))) (pa_cons (pe_tup (pa_cons pe_int (pa_cons pe_int (pa_cons pe_int (pa_cons pe_int pa_nil))))) (pa_cons (pe_tup (pa_cons pe_int (pa_cons pe_int (pa_cons pe_int (pa_cons pe_int pa_nil))))) (pa_cons (pe_tup (pa_cons pe_int (pa_cons pe_int (pa_cons pe_int (pa_cons pe_int (pa_cons pe_int (pa_cons pe_int pa_nil))))))) (pa_cons (pe_tup (pa_cons pe_int (pa_cons pe_int (pa_cons pe_int (pa_cons pe_int pa_nil))))) (pa_cons (pe_tup (pa_cons pe_int (pa_cons pe_int (pa_cons pe_int pa_nil)))) (pa_cons (pe_tup (pa_cons pe_int (pa_cons pe_int (pa_cons pe_int pa_nil)))) pa_nil))))))))))
      (pss_cons (ps_set (i := 2) sc__law_table.nd rfl (Or.inl rfl) (pe_op op_addA (pv 2) (pe_lst (pa_cons (pe_tup (pa_cons pe_int (pa_cons pe_int (pa_cons pe_int pa_nil)))) (pa_cons (pe_tup (pa_cons pe_int (pa_cons pe_int (pa_cons pe_int pa_nil)))) (pa_cons (pe_tup (pa_cons pe_int (pa_cons pe_int (pa_cons pe_int pa_nil)))) (pa_cons (pe_tup (pa_cons pe_int (pa_cons pe_int (pa_cons pe_int (pa_cons pe_int (pa_cons pe_int (pa_cons pe_int (pa_cons pe_int (pa_cons pe_int pa_nil))))))))) (pa_cons (pe_tup (pa_cons pe_int (pa_cons pe_int (pa_cons pe_int pa_nil)))) (pa_cons (pe_tup (pa_cons pe_int (pa_cons pe_int (pa_cons pe_int (pa_cons pe_int (pa_cons pe_int pa_nil)))))) pa_nil)))))))))
      (pss_cons (ps_set (i := 3) sc__law_table.nd rfl (Or.inl rfl) (pe_ix ix_seq (pe_op op_addA (pv 2) (pe_lst (pa_cons (pe_tup (pa_cons pe_int (pa_cons pe_int pa_nil))) (pa_cons (pe_tup (pa_cons pe_int (pa_cons pe_int (pa_cons pe_int (pa_cons pe_int (pa_cons pe_int pa_nil)))))) pa_nil)))) (pe_callG (ok__law_take T) (hr.mono (by decide)) (by rfl) T.g__law_take T.F__law_take.kp T.b__law_take pass0 (pa_cons (pv 0) (pa_cons pe_int pa_nil))) (fun _ _ => rfl)))
      (pss_cons (ps_setLc (i := 4) rfl sc__law_table.nd rfl rfl (sw_true rfl rfl rfl (by decide +kernel)) (pi_range1 (by rfl) T.z_range (pa_cons (pv 1) pa_nil)) (blkOk_by (own := [("_law_i", 6)]) (by with_unfolding_all rfl)) (fun _ _ _ _ _ => (pg_name (i := 6) sc__law_table.nd rfl (by first | exact Or.inl rfl | exact Or.inr rfl))) (fun _ _ _ _ _ => pts_nil) (fun _ _ _ _ _ => (pe_op op_mulA (pe_lst (pa_cons pe_int pa_nil)) (pv 1))))
      (pss_cons (ps_for PassesOwn.never rfl (pi_range1 (by rfl) T.z_range (pa_cons (pv 1) pa_nil)) (pg_name (i := 5) sc__law_table.nd rfl (by first | exact Or.inl rfl | exact Or.inr rfl)) (pss_one (ps_for PassesOwn.never rfl (pi_range1 (by rfl) T.z_range (pa_cons (pv 5) pa_nil)) (pg_name (i := 6) sc__law_table.nd rfl (by first | exact Or.inl rfl | exact Or.inr rfl)) (pss_cons (ps_asg (pe_ix ix_seq (pv 3) (pe_callG (ok__law_take T) (hr.mono (by decide)) (by rfl) T.g__law_take T.F__law_take.kp T.b__law_take pass0 (pa_cons (pv 0) (pa_cons (pe_callB call_lenA (by rfl) T.z_len (by decide +kernel) (pa_cons (pv 3) pa_nil)) pa_nil))) (fun _ _ => rfl)) (pg_sub (pe_ix ix_seq (pv 4) (pv 6) (fun _ _ => rfl)) (pv 5) (set_any hr.u1)))
      (pss_one (ps_asg (pe_ix ix_seq (pe_ix ix_seq (pv 4) (pv 6) (fun _ _ => rfl)) (pv 5) (fun _ _ => rfl)) (pg_sub (pe_ix ix_seq (pv 4) (pv 5) (fun _ _ => rfl)) (pv 6) (set_any hr.u1))))))))
      (pss_one (ps_ret (pe_callTy call_tuple_of (by rfl) T.z_tuple (by decide +kernel) (pa_cons (pe_lc rfl sc__law_table.nd (pi_seq (pv 4)) (blkOk_by (own := [("_law_row", 7)]) (by with_unfolding_all rfl)) (fun _ _ _ _ _ => (pg_name (i := 7) sc__law_table.nd rfl (by first | exact Or.inl rfl | exact Or.inr rfl))) (fun _ _ _ _ _ => pts_nil) (fun _ _ _ _ _ => (pe_callTy call_tuple_of (by rfl) T.z_tuple (by decide +kernel) (pa_cons (pv 7) pa_nil)))) pa_nil))))))))),
    (sr_seq (sr_asg (fr_lst (fa_cons (fr_tup (fa_cons fr_int (fa_cons fr_int fa_nil))) (fa_cons (fr_tup (fa_cons fr_int (fa_cons fr_int (fa_cons fr_int fa_nil)))) (fa_cons (fr_tup (fa_cons fr_int (fa_cons fr_int (fa_cons fr_int (fa_cons fr_int fa_nil))))) (fa_cons (fr_tup (fa_cons fr_int (fa_cons fr_int (fa_cons fr_int (fa_cons fr_int fa_nil))))) (fa_cons (fr_tup (fa_cons fr_int (fa_cons fr_int (fa_cons fr_int (fa_cons fr_int (fa_cons fr_int (fa_cons fr_int fa_nil))))))) (fa_cons (fr_tup (fa_cons fr_int (fa_cons fr_int (fa_cons fr_int (fa_cons fr_int fa_nil))))) (fa_cons (fr_tup (fa_cons fr_int (fa_cons fr_int (fa_cons fr_int fa_nil)))) (fa_cons (fr_tup (fa_cons fr_int (fa_cons fr_int (fa_cons fr_int fa_nil)))) fa_nil))))))))) gr_name)
      (sr_seq (sr_asg (fr_op er_var (er_of (fr_lst (fa_cons (fr_tup (fa_cons fr_int (fa_cons fr_int (fa_cons fr_int fa_nil)))) (fa_cons (fr_tup (fa_cons fr_int (fa_cons fr_int (fa_cons fr_int fa_nil)))) (fa_cons (fr_tup (fa_cons fr_int (fa_cons fr_int (fa_cons fr_int fa_nil)))) (fa_cons (fr_tup (fa_cons fr_int (fa_cons fr_int (fa_cons fr_int (fa_cons fr_int (fa_cons fr_int (fa_cons fr_int (fa_cons fr_int (fa_cons fr_int fa_nil))))))))) (fa_cons (fr_tup (fa_cons fr_int (fa_cons fr_int (fa_cons fr_int fa_nil)))) (fa_cons (fr_tup (fa_cons fr_int (fa_cons fr_int (fa_cons fr_int (fa_cons fr_int (fa_cons fr_int fa_nil)))))) fa_nil)))))))) o_add) gr_name)
      (sr_seq (sr_asg (fr_op (er_of (fr_op er_var (er_of (fr_lst (fa_cons (fr_tup (fa_cons fr_int (fa_cons fr_int fa_nil))) (fa_cons (fr_tup (fa_cons fr_int (fa_cons fr_int (fa_cons fr_int (fa_cons fr_int (fa_cons fr_int fa_nil)))))) fa_nil)))) o_add)) (er_of (fr_call (ar_cons er_var (ar_cons (er_of fr_int) ar_nil)))) o_ix) gr_name)
      (sr_seq (sr_asg (fr_lc (ir_rng1 (ar_cons er_var ar_nil)) gr_name tr_yes (fr_op (er_of (fr_lst (fa_cons fr_int fa_nil))) er_var o_mul) (by decide)) gr_name)
      (sr_seq (sr_for (ir_rng1 (ar_cons er_var ar_nil)) gr_name (sr_for (ir_rng1 (ar_cons er_var ar_nil)) gr_name (sr_seq (sr_asg (fr_op er_var (er_of (fr_call (ar_cons er_var (ar_cons (er_of (fr_cb (ar_cons er_var ar_nil) c_len)) ar_nil)))) o_ix) (gr_sub2 pr_var pr_var))
      (sr_asg (fr_pr (pr_ix2 pr_var pr_var)) (gr_sub2 pr_var pr_var)))))
      (sr_ret (fr_cb (ar_cons (er_of (fr_lc (ir_seq (fr_of er_var)) gr_name tr_yes (fr_cb (ar_cons er_var ar_nil) c_tuple) (by decide))) ar_nil) c_tuple)))))))⟩
theorem ok_pair_told (T : Txt K mg) : FnG P w K mg base CX0 3 T.a_pair_told T.d_pair_told ["row", "many"] (spM K 2 (mFn 6 m_pair_told)) :=
  fn_ok (N := ["row", "many", "words", "i", "j", "number"]) (m := m_pair_told) T.F_pair_told sc_pair_told (by decide) fun cdv A outer s H E hr => ⟨_, (pss_cons (ps_set (i := 2) sc_pair_told.nd rfl (Or.inl rfl) (pe_bm PySem.F.plainAttrs_str PySem.F.slot_str_split PySem.F.type_str_split mt_splitA (pv 0) (pa_cons pe_str pa_nil)))
      (pss_cons (ps_if (pt_cmpR (op_neA hr.u64) (pe_callB call_lenA (by rfl) T.z_len (by decide +kernel) (pa_cons (pv 2) pa_nil)) pe_int (nomark _)) (pss_one (ps_ret pe_non)) pss_nil)
      (pss_cons (ps_par (i := 3) (j := 4) (by rfl) sc_pair_told.nd rfl rfl (by decide) rfl rfl (pa_cons (pe_callG (ok_mirror_told T) (hr.mono (by decide)) (by rfl) T.g_mirror_told T.F_mirror_told.kp T.b_mirror_told pass0 (pa_cons (pe_ix ix_seq (pv 2) pe_int (fun _ _ => rfl)) (pa_cons (pv 1) pa_nil))) (pa_cons (pe_callG (ok_mirror_told T) (hr.mono (by decide)) (by rfl) T.g_mirror_told T.F_mirror_told.kp T.b_mirror_told pass0 (pa_cons (pe_ix ix_seq (pv 2) pe_int (fun _ _ => rfl)) (pa_cons (pv 1) pa_nil))) pa_nil)) (by rfl))
      (pss_cons (ps_set (i := 5) sc_pair_told.nd rfl (Or.inl rfl) (pe_callG (ok_number_told T) (hr.mono (by decide)) (by rfl) T.g_number_told T.F_number_told.kp T.b_number_told pass0 (pa_cons (pe_ix ix_seq (pv 2) pe_int (fun _ _ => rfl)) pa_nil)))
      (pss_cons (ps_if (PW.pt (pw_or (pt_cmpR op_isN (pv 3) pe_non (nomark _)) (pw_or (pt_cmpR op_isN (pv 4) pe_non (nomark _)) (pw_or (pt_cmpR op_isN (pv 5) pe_non (nomark _)) (pw_or1 (pt_cmpR op_ge (pv 3) (pv 4) (nomark _))))))) (pss_one (ps_ret pe_non)) pss_nil)
      (pss_one (ps_ret (pe_tup (pa_cons (pv 3) (pa_cons (pv 4) (pa_cons (pv 5) pa_nil))))))))))),
    (sr_seq (sr_asg (fr_bm er_var (ar_cons (er_of fr_str) ar_nil) m_split) gr_name)
      (sr_seq (sr_if (tr_test (fr_op (er_of (fr_cb (ar_cons er_var ar_nil) c_len)) (er_of fr_int) o_ne)) (sr_ret fr_non) sr_next)
      (sr_seq (sr_par (fa_cons (fr_call (ar_cons (er_of (fr_op er_var (er_of fr_int) o_ix)) (ar_cons er_var ar_nil))) (fa_cons (fr_call (ar_cons (er_of (fr_op er_var (er_of fr_int) o_ix)) (ar_cons er_var ar_nil))) fa_nil)))
      (sr_seq (sr_asg (fr_call (ar_cons (er_of (fr_op er_var (er_of fr_int) o_ix)) ar_nil)) gr_name)
      (sr_seq (sr_if (tr_or (tr_test (fr_op er_var (er_of fr_non) o_isN)) (tr_or (tr_test (fr_op er_var (er_of fr_non) o_isN)) (tr_or (tr_test (fr_op er_var (er_of fr_non) o_isN)) (tr_test (fr_op er_var er_var o_ge))))) (sr_ret fr_non) sr_next)
      (sr_ret (fr_tup (fa_cons (fr_of er_var) (fa_cons (fr_of er_var) (fa_cons (fr_of er_var) fa_nil))))))))))⟩
theorem ok_read_table (T : Txt K mg) : FnG P w K mg base CX0 4 T.a_read_table T.d_read_table ["text"] (spM K 1 (mFn 12 m_read_table)) :=
  fn_ok (N := ["text", "rows", "many", "found", "last", "at", "told", "i", "j", "number", "table", "row"]) (m := m_read_table) T.F_read_table sc_read_table (by decide) fun cdv A outer s H E hr => ⟨_, (pss_cons (ps_set (i := 1) sc_read_table.nd rfl (Or.inl rfl) (pe_bm PySem.F.plainAttrs_str PySem.F.slot_str_split PySem.F.type_str_split mt_splitA (pv 0) (pa_cons pe_str pa_nil)))
      (pss_cons (ps_set (i := 2) sc_read_table.nd rfl (Or.inr rfl) (pe_callG (ok_mirrors_told T) (hr.mono (by decide)) (by rfl) T.g_mirrors_told T.F_mirrors_told.kp T.b_mirrors_told pass0 (pa_cons (pe_ix ix_seq (pv 1) pe_int (fun _ _ => rfl)) pa_nil)))
      (pss_cons (ps_if (pt_cmpR op_isN (pv 2) pe_non (nomark _)) (pss_one ps_nev) pss_nil)
      (pss_cons (ps_setLc (i := 3) rfl sc_read_table.nd rfl rfl (sw_true rfl rfl rfl (by decide +kernel)) (pi_range1 (by rfl) T.z_range (pa_cons (pv 2) pa_nil)) (blkOk_by (own := [("i", 7)]) (by with_unfolding_all rfl)) (fun _ _ _ _ _ => (pg_name (i := 7) sc_read_table.nd rfl (by first | exact Or.inl rfl | exact Or.inr rfl))) (fun _ _ _ _ _ => pts_nil) (fun _ _ _ _ _ => (pe_lc rfl sc_read_table.nd (pi_range1 (by rfl) T.z_range (pa_cons (pv 2) pa_nil)) (blkOk_by (own := [("j", 8)]) (by with_unfolding_all rfl)) (fun _ _ _ _ _ => (pg_name (i := 8) sc_read_table.nd rfl (by first | exact Or.inl rfl | exact Or.inr rfl))) (fun _ _ _ _ _ => pts_nil) (fun _ _ _ _ _ => (pe_ifExp (pt_cmpR (op_eqA hr.u64) (pv 7) (pv 8) (nomark _)) pe_int pe_int)))))
      (pss_cons (ps_set (i := 4) sc_read_table.nd rfl (Or.inl rfl) (pe_tup (pa_cons (pe_un un_neg pe_int) (pa_cons (pe_un un_neg pe_int) pa_nil))))
      (pss_cons (ps_for PassesOwn.never rfl (pi_range2 (by rfl) T.z_range (pa_cons pe_int (pa_cons (pe_callB call_lenA (by rfl) T.z_len (by decide +kernel) (pa_cons (pv 1) pa_nil)) pa_nil))) (pg_name (i := 5) sc_read_table.nd rfl (by first | exact Or.inl rfl | exact Or.inr rfl)) (pss_cons (ps_set (i := 6) sc_read_table.nd rfl (Or.inl rfl) (pe_callG (ok_pair_told T) (hr.mono (by decide)) (by rfl) T.g_pair_told T.F_pair_told.kp T.b_pair_told pass0 (pa_cons (pe_ix ix_seq (pv 1) (pv 5) (fun _ _ => rfl)) (pa_cons (pv 2) pa_nil))))
      (pss_cons (ps_if (PW.pt (pw_or (pt_cmpR op_isN (pv 6) pe_non (nomark _)) (pw_or1 (pt_cmpR (op_leT (Nat.lt_of_succ_lt hr.u1)) (pe_slice sl_any (pv 6) po_none (po_some pe_int)) (pv 4) (nomark _))))) (pss_one ps_nev) pss_nil)
      (pss_cons (ps_asg (pv 6) (pg_tup rfl (pgs_cons (pg_name (i := 7) sc_read_table.nd rfl (by first | exact Or.inl rfl | exact Or.inr rfl)) (pgs_cons (pg_name (i := 8) sc_read_table.nd rfl (by first | exact Or.inl rfl | exact Or.inr rfl)) (pgs_cons (pg_name (i := 9) sc_read_table.nd rfl (by first | exact Or.inl rfl | exact Or.inr rfl)) pgs_nil)))))
      (pss_cons (ps_asg (pv 9) (pg_sub (pe_ix ix_seq (pv 3) (pv 7) (fun _ _ => rfl)) (pv 8) (set_any hr.u1)))
      (pss_cons (ps_asg (pv 9) (pg_sub (pe_ix ix_seq (pv 3) (pv 8) (fun _ _ => rfl)) (pv 7) (set_any hr.u1)))
      (pss_one (ps_set (i := 4) sc_read_table.nd rfl (Or.inl rfl) (pe_tup (pa_cons (pv 7) (pa_cons (pv 8) pa_nil)))))))))))
      (pss_cons (ps_set (i := 10) sc_read_table.nd rfl (Or.inl rfl) (pe_callTy call_tuple_of (by rfl) T.z_tuple (by decide +kernel) (pa_cons (pe_lc rfl sc_read_table.nd (pi_seq (pv 3)) (blkOk_by (own := [("row", 11)]) (by with_unfolding_all rfl)) (fun _ _ _ _ _ => (pg_name (i := 11) sc_read_table.nd rfl (by first | exact Or.inl rfl | exact Or.inr rfl))) (fun _ _ _ _ _ => pts_nil) (fun _ _ _ _ _ => (pe_callTy call_tuple_of (by rfl) T.z_tuple (by decide +kernel) (pa_cons (pv 11) pa_nil)))) pa_nil)))
      (pss_cons (ps_if (pt_cmpR op_gt (pe_callG (ok_order_of T) (hr.mono (by decide)) (by rfl) T.g_order_of T.F_order_of.kp T.b_order_of pass0 (pa_cons (pv 10) pa_nil)) (pe_glob (v := .int 60) (by rfl) T.c_MOST_ORDER.2 ⟨_, rfl⟩) (nomark _)) (pss_one ps_nev) pss_nil)
      (pss_one (ps_ret (pv 10))))))))))),
    (sr_seq (sr_asg (fr_bm er_var (ar_cons (er_of fr_str) ar_nil) m_split) gr_name)
      (sr_seq (sr_asg (fr_call (ar_cons (er_of (fr_op er_var (er_of fr_int) o_ix)) ar_nil)) gr_name)
      (sr_seq (sr_if (tr_test (fr_op er_var (er_of fr_non) o_isN)) sr_never sr_next)
      (sr_seq (sr_asg (fr_lc (ir_rng1 (ar_cons er_var ar_nil)) gr_name tr_yes (fr_lc (ir_rng1 (ar_cons er_var ar_nil)) gr_name tr_yes (fr_if (tr_test (fr_op er_var er_var o_eq)) fr_int fr_int) (by decide)) (by decide)) gr_name)
      (sr_seq (sr_asg (fr_tup (fa_cons (fr_un (er_of fr_int) o_neg) (fa_cons (fr_un (er_of fr_int) o_neg) fa_nil))) gr_name)
      (sr_seq (sr_for (ir_rng2 (ar_cons (er_of fr_int) (ar_cons (er_of (fr_cb (ar_cons er_var ar_nil) c_len)) ar_nil))) gr_name (sr_seq (sr_asg (fr_call (ar_cons (er_of (fr_op er_var er_var o_ix)) (ar_cons er_var ar_nil))) gr_name)
      (sr_seq (sr_if (tr_or (tr_test (fr_op er_var (er_of fr_non) o_isN)) (tr_test (fr_op (er_of (fr_sl er_var or_none (or_some fr_int) o_sl)) er_var o_leT))) sr_never sr_next)
      (sr_seq (sr_asg (fr_of er_var) (gr_tup (grs_cons gr_name (grs_cons gr_name (grs_cons gr_name grs_nil)))))
      (sr_seq (sr_asg (fr_of er_var) (gr_sub2 pr_var pr_var))
      (sr_seq (sr_asg (fr_of er_var) (gr_sub2 pr_var pr_var))
      (sr_asg (fr_tup (fa_cons (fr_of er_var) (fa_cons (fr_of er_var) fa_nil))) gr_name)))))))
      (sr_seq (sr_asg (fr_cb (ar_cons (er_of (fr_lc (ir_seq (fr_of er_var)) gr_name tr_yes (fr_cb (ar_cons er_var ar_nil) c_tuple) (by decide))) ar_nil) c_tuple) gr_name)
      (sr_seq (sr_if (tr_test (fr_op (er_of (fr_call (ar_cons er_var ar_nil))) (er_of fr_int) o_gt)) sr_never sr_next)
      (sr_ret (fr_of er_var))))))))))⟩
theorem ok__law_right (T : Txt K mg) : FnG P w K mg base CX0 5 T.a__law_right T.d__law_right ["_law_table_here"] (spM K 1 (mFn 2 m__law_right)) :=
  fn_ok (N := ["_law_table_here", "_law_found"]) (m := m__law_right) T.F__law_right sc__law_right (by decide) fun cdv A outer s H E hr => ⟨_, (pss_cons (ps_set (i := 1) sc__law_right.nd rfl (Or.inl rfl) (pe_callG (ok_show_table T) (hr.mono (by decide)) (by rfl) T.g_show_table T.F_show_table.kp T.b_show_table pass0 (pa_cons (pv 0) pa_nil)))
      (pss_cons (ps_if (PW.pt (pw_or (pt_not (pt_truth (pe_callB call_isi (by rfl) T.z_isinstance (by decide +kernel) (pa_cons (pv 1) (pa_cons (pe_bltn (v := .ty "str") (by rfl) T.z_str (by decide +kernel) rfl) pa_nil))) (by intro _; rfl))) (pw_or1 (pt_cmpR (op_neA hr.u64) (pv 1) (pe_callG (ok__law_text T) (hr.mono (by decide)) (by rfl) T.g__law_text T.F__law_text.kp T.b__law_text pass0 (pa_cons (pv 0) pa_nil)) (nomark _))))) (pss_one (ps_ret pe_bl)) pss_nil)
      (pss_one (ps_ret (pe_and (pe_cmpR (op_eqA hr.u64) (pe_callB (call_reprA hr.free hr.u64) (by rfl) T.z_repr (by decide +kernel) (pa_cons (pe_callG (ok_read_table T) (hr.mono (by decide)) (by rfl) T.g_read_table T.F_read_table.kp T.b_read_table pass0 (pa_cons (pv 1) pa_nil)) pa_nil)) (pe_callB (call_reprA hr.free hr.u64) (by rfl) T.z_repr (by decide +kernel) (pa_cons (pv 0) pa_nil)) (nomark _)) (pe_one (pe_cmpR (op_eqA hr.u64) (pe_callB (call_reprA hr.free hr.u64) (by rfl) T.z_repr (by decide +kernel) (pa_cons (pe_callG (ok_read_table T) (hr.mono (by decide)) (by rfl) T.g_read_table T.F_read_table.kp T.b_read_table pass0 (pa_cons (pe_callG (ok__law_text T) (hr.mono (by decide)) (by rfl) T.g__law_text T.F__law_text.kp T.b__law_text pass0 (pa_cons (pv 0) pa_nil)) pa_nil)) pa_nil)) (pe_callB (call_reprA hr.free hr.u64) (by rfl) T.z_repr (by decide +kernel) (pa_cons (pv 0) pa_nil)) (nomark _)))))))),
    (sr_seq (sr_asg (fr_call (ar_cons er_var ar_nil)) gr_name)
      (sr_seq (sr_if (tr_or (tr_not (tr_tru (er_of (fr_isi (by exact ⟨_, .ty _, rfl⟩) er_var)))) (tr_test (fr_op er_var (er_of (fr_call (ar_cons er_var ar_nil))) o_ne))) (sr_ret fr_bl) sr_next)
      (sr_ret (fr_andV (fr_op (er_of (fr_cb (ar_cons (er_of (fr_call (ar_cons er_var ar_nil))) ar_nil) c_repr)) (er_of (fr_cb (ar_cons er_var ar_nil) c_repr)) o_eq) (fr_op (er_of (fr_cb (ar_cons (er_of (fr_call (ar_cons (er_of (fr_call (ar_cons er_var ar_nil))) ar_nil))) ar_nil) c_repr)) (er_of (fr_cb (ar_cons er_var ar_nil) c_repr)) o_eq)))))⟩
theorem ok_law (T : Txt K mg) : FnG P w K mg base CX0 6 T.a_law T.d_law ["_law_script"] (spM K 1 (mFn 6 m_law)) :=
  fn_ok (N := ["_law_script", "_law_state", "_law_k", "_law_table_here", "_law_part", "_law_i"]) (m := m_law) T.F_law sc_law (by decide) fun cdv A outer s H E hr => ⟨_, (pss_cons (ps_set (i := 1) sc_law.nd rfl (Or.inr rfl) (pe_callG (ok__law_hand T) (hr.mono (by decide)) (by rfl) T.g__law_hand T.F__law_hand.kp T.b__law_hand pass0 (pa_cons (pv 0) pa_nil)))
      (pss_cons (ps_if (PW.pt (pw_or (pt_not (pt_truth (pe_callG (ok__law_right T) (hr.mono (by decide)) (by rfl) T.g__law_right T.F__law_right.kp T.b__law_right pass0 (pa_cons (pe_tup pa_nil) pa_nil)) (by intro _; rfl))) (pw_or1 (pt_not (pt_truth (pe_callG (ok__law_right T) (hr.mono (by decide)) (by rfl) T.g__law_right T.F__law_right.kp T.b__law_right pass0 (pa_cons (pe_tup (pa_cons (pe_tup (pa_cons pe_int pa_nil)) pa_nil)) pa_nil)) (by intro _; rfl)))))) (pss_one (ps_ret pe_bl)) pss_nil)
      (pss_cons (ps_for PassesOwn.never rfl (pi_range1 (by rfl) T.z_range (pa_cons (pe_callB (call_max2 rfl) (by rfl) T.z_max (by decide +kernel) (pa_cons pe_int (pa_cons (pe_callB (call_min2 rfl) (by rfl) T.z_min (by decide +kernel) (pa_cons (pe_callB call_lenA (by rfl) T.z_len (by decide +kernel) (pa_cons (pv 0) pa_nil)) (pa_cons pe_int pa_nil))) pa_nil))) pa_nil)) (pg_name (i := 2) sc_law.nd rfl (by first | exact Or.inl rfl | exact Or.inr rfl)) (pss_cons (ps_set (i := 3) sc_law.nd rfl (Or.inl rfl) (pe_callG (ok__law_table T) (hr.mono (by decide)) (by rfl) T.g__law_table T.F__law_table.kp T.b__law_table pass0 (pa_cons (pv 1) (pa_cons (pe_ix ix_seq (pe_lst (pa_cons (pe_callG (ok__law_take T) (hr.mono (by decide)) (by rfl) T.g__law_take T.F__law_take.kp T.b__law_take pass0 (pa_cons (pv 1) (pa_cons pe_int pa_nil))) (pa_cons pe_int (pa_cons pe_int pa_nil)))) (pe_callG (ok__law_take T) (hr.mono (by decide)) (by rfl) T.g__law_take T.F__law_take.kp T.b__law_take pass0 (pa_cons (pv 1) (pa_cons pe_int pa_nil))) (fun _ _ => rfl)) pa_nil))))
      (pss_cons (ps_set (i := 4) sc_law.nd rfl (Or.inl rfl) (pe_callTy call_tuple_of (by rfl) T.z_tuple (by decide +kernel) (pa_cons (pe_lc rfl sc_law.nd (pi_range1 (by rfl) T.z_range (pa_cons (pe_callB call_lenA (by rfl) T.z_len (by decide +kernel) (pa_cons (pv 3) pa_nil)) pa_nil)) (blkOk_by (own := [("_law_i", 5)]) (by with_unfolding_all rfl)) (fun _ _ _ _ _ => (pg_name (i := 5) sc_law.nd rfl (by first | exact Or.inl rfl | exact Or.inr rfl))) (fun _ _ _ _ _ => (pts_one (pt_cmpR op_gt (pe_callG (ok__law_take T) (hr.mono (by decide)) (by rfl) T.g__law_take T.F__law_take.kp T.b__law_take pass0 (pa_cons (pv 1) (pa_cons pe_int pa_nil))) pe_int (nomark _)))) (fun _ _ _ _ _ => (pv 5))) pa_nil)))
      (pss_one (ps_if (PW.pt (pw_or (pt_not (pt_truth (pe_callG (ok__law_right T) (hr.mono (by decide)) (by rfl) T.g__law_right T.F__law_right.kp T.b__law_right pass0 (pa_cons (pv 3) pa_nil)) (by intro _; rfl))) (pw_or1 (pt_not (pt_truth (pe_callG (ok__law_right T) (hr.mono (by decide)) (by rfl) T.g__law_right T.F__law_right.kp T.b__law_right pass0 (pa_cons (pe_callG (ok_part_table T) (hr.mono (by decide)) (by rfl) T.g_part_table T.F_part_table.kp T.b_part_table pass0 (pa_cons (pv 3) (pa_cons (pv 4) pa_nil))) pa_nil)) (by intro _; rfl)))))) (pss_one (ps_ret pe_bl)) pss_nil)))))
      (pss_one (ps_ret pe_bl))))),
    (sr_seq (sr_asg (fr_call (ar_cons er_var ar_nil)) gr_name)
      (sr_seq (sr_if (tr_or (tr_not (tr_tru (er_of (fr_call (ar_cons (er_of (fr_tup fa_nil)) ar_nil))))) (tr_not (tr_tru (er_of (fr_call (ar_cons (er_of (fr_tup (fa_cons (fr_tup (fa_cons fr_int fa_nil)) fa_nil))) ar_nil)))))) (sr_ret fr_bl) sr_next)
      (sr_seq (sr_for (ir_rng1 (ar_cons (er_of (fr_cb (ar_cons (er_of fr_int) (ar_cons (er_of (fr_cb (ar_cons (er_of (fr_cb (ar_cons er_var ar_nil) c_len)) (ar_cons (er_of fr_int) ar_nil)) c_min2)) ar_nil)) c_max2)) ar_nil)) gr_name (sr_seq (sr_asg (fr_call (ar_cons er_var (ar_cons (er_of (fr_op (er_of (fr_lst (fa_cons (fr_call (ar_cons er_var (ar_cons (er_of fr_int) ar_nil))) (fa_cons fr_int (fa_cons fr_int fa_nil))))) (er_of (fr_call (ar_cons er_var (ar_cons (er_of fr_int) ar_nil)))) o_ix)) ar_nil))) gr_name)
      (sr_seq (sr_asg (fr_cb (ar_cons (er_of (fr_lc (ir_rng1 (ar_cons (er_of (fr_cb (ar_cons er_var ar_nil) c_len)) ar_nil)) gr_name (tr_one (tr_test (fr_op (er_of (fr_call (ar_cons er_var (ar_cons (er_of fr_int) ar_nil)))) (er_of fr_int) o_gt))) (fr_of er_var) (by decide))) ar_nil) c_tuple) gr_name)
      (sr_if (tr_or (tr_not (tr_tru (er_of (fr_call (ar_cons er_var ar_nil))))) (tr_not (tr_tru (er_of (fr_call (ar_cons (er_of (fr_call (ar_cons er_var (ar_cons er_var ar_nil)))) ar_nil)))))) (sr_ret fr_bl) sr_next))))
      (sr_ret fr_bl))))⟩
end
theorem all_mk {l : PySem.W.OpenLaw} {w : World} {K : PySem.W.Frag} {h : Heap} {mg : Str → Option Value} (X : K.In h) (G : h.Ns mainGlobals mg) {fa : Addr} (hfa : mg "law" = some (.ref fa))
    {f0 : Addr} {od0 an0 : Option Addr} {sl0 : Array (Option Value)} {oc0 kV0 dc0 pm0 cd0 ct0 : Value}
    (a0 : PySem.W.nsIn K mainGlobals "common_part" = some (some (.ref f0))) (l0 : K.lookup f0 = some ⟨oc0, od0, .func (PySem.W.fnOf "common_part" "common_part" (defArgs s_common_part) (defBody s_common_part) (defScope s_common_part) .none kV0 dc0 pm0 an0 cd0 ct0), sl0⟩) (c0 : PySem.W.codeIn K cd0 "common_part" = true) (k0 : PySem.W.keepIn K (.ref f0) = true)
    {f1 : Addr} {od1 an1 : Option Addr} {sl1 : Array (Option Value)} {oc1 kV1 dc1 pm1 cd1 ct1 : Value}
    (a1 : PySem.W.nsIn K mainGlobals "part_table" = some (some (.ref f1))) (l1 : K.lookup f1 = some ⟨oc1, od1, .func (PySem.W.fnOf "part_table" "part_table" (defArgs s_part_table) (defBody s_part_table) (defScope s_part_table) .none kV1 dc1 pm1 an1 cd1 ct1), sl1⟩) (c1 : PySem.W.codeIn K cd1 "part_table" = true) (k1 : PySem.W.keepIn K (.ref f1) = true)
    {f2 : Addr} {od2 an2 : Option Addr} {sl2 : Array (Option Value)} {oc2 kV2 dc2 pm2 cd2 ct2 : Value}
    (a2 : PySem.W.nsIn K mainGlobals "number_text" = some (some (.ref f2))) (l2 : K.lookup f2 = some ⟨oc2, od2, .func (PySem.W.fnOf "number_text" "number_text" (defArgs s_number_text) (defBody s_number_text) (defScope s_number_text) .none kV2 dc2 pm2 an2 cd2 ct2), sl2⟩) (c2 : PySem.W.codeIn K cd2 "number_text" = true) (k2 : PySem.W.keepIn K (.ref f2) = true)
    {f3 : Addr} {od3 an3 : Option Addr} {sl3 : Array (Option Value)} {oc3 kV3 dc3 pm3 cd3 ct3 : Value}
    (a3 : PySem.W.nsIn K mainGlobals "mirrors_told" = some (some (.ref f3))) (l3 : K.lookup f3 = some ⟨oc3, od3, .func (PySem.W.fnOf "mirrors_told" "mirrors_told" (defArgs s_mirrors_told) (defBody s_mirrors_told) (defScope s_mirrors_told) .none kV3 dc3 pm3 an3 cd3 ct3), sl3⟩) (c3 : PySem.W.codeIn K cd3 "mirrors_told" = true) (k3 : PySem.W.keepIn K (.ref f3) = true)
    {f4 : Addr} {od4 an4 : Option Addr} {sl4 : Array (Option Value)} {oc4 kV4 dc4 pm4 cd4 ct4 : Value}
    (a4 : PySem.W.nsIn K mainGlobals "mirror_told" = some (some (.ref f4))) (l4 : K.lookup f4 = some ⟨oc4, od4, .func (PySem.W.fnOf "mirror_told" "mirror_told" (defArgs s_mirror_told) (defBody s_mirror_told) (defScope s_mirror_told) .none kV4 dc4 pm4 an4 cd4 ct4), sl4⟩) (c4 : PySem.W.codeIn K cd4 "mirror_told" = true) (k4 : PySem.W.keepIn K (.ref f4) = true)
    {f5 : Addr} {od5 an5 : Option Addr} {sl5 : Array (Option Value)} {oc5 kV5 dc5 pm5 cd5 ct5 : Value}
    (a5 : PySem.W.nsIn K mainGlobals "_law_hand" = some (some (.ref f5))) (l5 : K.lookup f5 = some ⟨oc5, od5, .func (PySem.W.fnOf "_law_hand" "_law_hand" (defArgs s__law_hand) (defBody s__law_hand) (defScope s__law_hand) .none kV5 dc5 pm5 an5 cd5 ct5), sl5⟩) (c5 : PySem.W.codeIn K cd5 "_law_hand" = true) (k5 : PySem.W.keepIn K (.ref f5) = true)
    {f6 : Addr} {od6 an6 : Option Addr} {sl6 : Array (Option Value)} {oc6 kV6 dc6 pm6 cd6 ct6 : Value}
    (a6 : PySem.W.nsIn K mainGlobals "_law_take" = some (some (.ref f6))) (l6 : K.lookup f6 = some ⟨oc6, od6, .func (PySem.W.fnOf "_law_take" "_law_take" (defArgs s__law_take) (defBody s__law_take) (defScope s__law_take) .none kV6 dc6 pm6 an6 cd6 ct6), sl6⟩) (c6 : PySem.W.codeIn K cd6 "_law_take" = true) (k6 : PySem.W.keepIn K (.ref f6) = true)
    {f7 : Addr} {od7 an7 : Option Addr} {sl7 : Array (Option Value)} {oc7 kV7 dc7 pm7 cd7 ct7 : Value}
    (a7 : PySem.W.nsIn K mainGlobals "_law_text" = some (some (.ref f7))) (l7 : K.lookup f7 = some ⟨oc7, od7, .func (PySem.W.fnOf "_law_text" "_law_text" (defArgs s__law_text) (defBody s__law_text) (defScope s__law_text) .none kV7 dc7 pm7 an7 cd7 ct7), sl7⟩) (c7 : PySem.W.codeIn K cd7 "_law_text" = true) (k7 : PySem.W.keepIn K (.ref f7) = true)
    {f8 : Addr} {od8 an8 : Option Addr} {sl8 : Array (Option Value)} {oc8 kV8 dc8 pm8 cd8 ct8 : Value}
    (a8 : PySem.W.nsIn K mainGlobals "order_of" = some (some (.ref f8))) (l8 : K.lookup f8 = some ⟨oc8, od8, .func (PySem.W.fnOf "order_of" "order_of" (defArgs s_order_of) (defBody s_order_of) (defScope s_order_of) .none kV8 dc8 pm8 an8 cd8 ct8), sl8⟩) (c8 : PySem.W.codeIn K cd8 "order_of" = true) (k8 : PySem.W.keepIn K (.ref f8) = true)
    {f9 : Addr} {od9 an9 : Option Addr} {sl9 : Array (Option Value)} {oc9 kV9 dc9 pm9 cd9 ct9 : Value}
    (a9 : PySem.W.nsIn K mainGlobals "show_table" = some (some (.ref f9))) (l9 : K.lookup f9 = some ⟨oc9, od9, .func (PySem.W.fnOf "show_table" "show_table" (defArgs s_show_table) (defBody s_show_table) (defScope s_show_table) .none kV9 dc9 pm9 an9 cd9 ct9), sl9⟩) (c9 : PySem.W.codeIn K cd9 "show_table" = true) (k9 : PySem.W.keepIn K (.ref f9) = true)
    {f10 : Addr} {od10 an10 : Option Addr} {sl10 : Array (Option Value)} {oc10 kV10 dc10 pm10 cd10 ct10 : Value}
    (a10 : PySem.W.nsIn K mainGlobals "number_told" = some (some (.ref f10))) (l10 : K.lookup f10 = some ⟨oc10, od10, .func (PySem.W.fnOf "number_told" "number_told" (defArgs s_number_told) (defBody s_number_told) (defScope s_number_told) .none kV10 dc10 pm10 an10 cd10 ct10), sl10⟩) (c10 : PySem.W.codeIn K cd10 "number_told" = true) (k10 : PySem.W.keepIn K (.ref f10) = true)
    {f11 : Addr} {od11 an11 : Option Addr} {sl11 : Array (Option Value)} {oc11 kV11 dc11 pm11 cd11 ct11 : Value}
    (a11 : PySem.W.nsIn K mainGlobals "_law_table" = some (some (.ref f11))) (l11 : K.lookup f11 = some ⟨oc11, od11, .func (PySem.W.fnOf "_law_table" "_law_table" (defArgs s__law_table) (defBody s__law_table) (defScope s__law_table) .none kV11 dc11 pm11 an11 cd11 ct11), sl11⟩) (c11 : PySem.W.codeIn K cd11 "_law_table" = true) (k11 : PySem.W.keepIn K (.ref f11) = true)
    {f12 : Addr} {od12 an12 : Option Addr} {sl12 : Array (Option Value)} {oc12 kV12 dc12 pm12 cd12 ct12 : Value}
    (a12 : PySem.W.nsIn K mainGlobals "pair_told" = some (some (.ref f12))) (l12 : K.lookup f12 = some ⟨oc12, od12, .func (PySem.W.fnOf "pair_told" "pair_told" (defArgs s_pair_told) (defBody s_pair_told) (defScope s_pair_told) .none kV12 dc12 pm12 an12 cd12 ct12), sl12⟩) (c12 : PySem.W.codeIn K cd12 "pair_told" = true) (k12 : PySem.W.keepIn K (.ref f12) = true)
    {f13 : Addr} {od13 an13 : Option Addr} {sl13 : Array (Option Value)} {oc13 kV13 dc13 pm13 cd13 ct13 : Value}
    (a13 : PySem.W.nsIn K mainGlobals "read_table" = some (some (.ref f13))) (l13 : K.lookup f13 = some ⟨oc13, od13, .func (PySem.W.fnOf "read_table" "read_table" (defArgs s_read_table) (defBody s_read_table) (defScope s_read_table) .none kV13 dc13 pm13 an13 cd13 ct13), sl13⟩) (c13 : PySem.W.codeIn K cd13 "read_table" = true) (k13 : PySem.W.keepIn K (.ref f13) = true)
    {f14 : Addr} {od14 an14 : Option Addr} {sl14 : Array (Option Value)} {oc14 kV14 dc14 pm14 cd14 ct14 : Value}
    (a14 : PySem.W.nsIn K mainGlobals "_law_right" = some (some (.ref f14))) (l14 : K.lookup f14 = some ⟨oc14, od14, .func (PySem.W.fnOf "_law_right" "_law_right" (defArgs s__law_right) (defBody s__law_right) (defScope s__law_right) .none kV14 dc14 pm14 an14 cd14 ct14), sl14⟩) (c14 : PySem.W.codeIn K cd14 "_law_right" = true) (k14 : PySem.W.keepIn K (.ref f14) = true)
    {f15 : Addr} {od15 an15 : Option Addr} {sl15 : Array (Option Value)} {oc15 kV15 dc15 pm15 cd15 ct15 : Value}
    (a15 : PySem.W.nsIn K mainGlobals "law" = some (some (.ref f15))) (l15 : K.lookup f15 = some ⟨oc15, od15, .func (PySem.W.fnOf "law" "law" (defArgs s_law) (defBody s_law) (defScope s_law) .none kV15 dc15 pm15 an15 cd15 ct15), sl15⟩) (c15 : PySem.W.codeIn K cd15 "law" = true) (k15 : PySem.W.keepIn K (.ref f15) = true)
    (z_abs : PySem.W.nsIn K mainGlobals "abs" = some none)
    (z_enumerate : PySem.W.nsIn K mainGlobals "enumerate" = some none)
    (z_isinstance : PySem.W.nsIn K mainGlobals "isinstance" = some none)
    (z_len : PySem.W.nsIn K mainGlobals "len" = some none)
    (z_list : PySem.W.nsIn K mainGlobals "list" = some none)
    (z_max : PySem.W.nsIn K mainGlobals "max" = some none)
    (z_min : PySem.W.nsIn K mainGlobals "min" = some none)
    (z_range : PySem.W.nsIn K mainGlobals "range" = some none)
    (z_repr : PySem.W.nsIn K mainGlobals "repr" = some none)
    (z_str : PySem.W.nsIn K mainGlobals "str" = some none)
    (z_tuple : PySem.W.nsIn K mainGlobals "tuple" = some none)
    {t_HEAD : Tok} (c_HEAD : PySem.W.nsIn K mainGlobals "HEAD" = some (some (.str "mirrors " t_HEAD)))
    {t_LEAST_ORDER : Tok} (c_LEAST_ORDER : PySem.W.nsIn K mainGlobals "LEAST_ORDER" = some (some (.int 3 t_LEAST_ORDER)))
    {t_LETTERS : Tok} (c_LETTERS : PySem.W.nsIn K mainGlobals "LETTERS" = some (some (.str "abcdefgh" t_LETTERS)))
    {t_MOST_MIRRORS : Tok} (c_MOST_MIRRORS : PySem.W.nsIn K mainGlobals "MOST_MIRRORS" = some (some (.int 8 t_MOST_MIRRORS)))
    {t_MOST_NUMBER : Tok} (c_MOST_NUMBER : PySem.W.nsIn K mainGlobals "MOST_NUMBER" = some (some (.int 12 t_MOST_NUMBER)))
    {t_MOST_ORDER : Tok} (c_MOST_ORDER : PySem.W.nsIn K mainGlobals "MOST_ORDER" = some (some (.int 60 t_MOST_ORDER)))
    {t_NEVER : Tok} (c_NEVER : PySem.W.nsIn K mainGlobals "NEVER" = some (some (.str "-" t_NEVER))) :
    ∃ fd : FuncData, (∀ (s : Shared) (v : Value), BindsTo s fd ⟨[v], []⟩ [("_law_script", v)]) ∧ ∀ base : Heap, K.In base → base.Ns mainGlobals mg → FnG l.prog w K mg base CX0 6 fa fd ["_law_script"] (spM K 1 (mFn 6 m_law)) := by
  have e := hfa.symm.trans (PySem.W.mg_of X G a15)
  cases e
  have F0 := fun_mk (st := s_common_part) l0 c0 k0
  have b0 := F0.binds (ps := ["one", "other"]) fun _ _ _ _ _ _ us hl => match us, hl with | [_, _], _ => rfl
  have F1 := fun_mk (st := s_part_table) l1 c1 k1
  have b1 := F1.binds (ps := ["table", "part"]) fun _ _ _ _ _ _ us hl => match us, hl with | [_, _], _ => rfl
  have F2 := fun_mk (st := s_number_text) l2 c2 k2
  have b2 := F2.binds (ps := ["number"]) fun _ _ _ _ _ _ us hl => match us, hl with | [_], _ => rfl
  have F3 := fun_mk (st := s_mirrors_told) l3 c3 k3
  have b3 := F3.binds (ps := ["row"]) fun _ _ _ _ _ _ us hl => match us, hl with | [_], _ => rfl
  have F4 := fun_mk (st := s_mirror_told) l4 c4 k4
  have b4 := F4.binds (ps := ["word", "many"]) fun _ _ _ _ _ _ us hl => match us, hl with | [_, _], _ => rfl
  have F5 := fun_mk (st := s__law_hand) l5 c5 k5
  have b5 := F5.binds (ps := ["_law_script"]) fun _ _ _ _ _ _ us hl => match us, hl with | [_], _ => rfl
  have F6 := fun_mk (st := s__law_take) l6 c6 k6
  have b6 := F6.binds (ps := ["_law_state", "_law_many"]) fun _ _ _ _ _ _ us hl => match us, hl with | [_, _], _ => rfl
  have F7 := fun_mk (st := s__law_text) l7 c7 k7
  have b7 := F7.binds (ps := ["_law_table_here"]) fun _ _ _ _ _ _ us hl => match us, hl with | [_], _ => rfl
  have F8 := fun_mk (st := s_order_of) l8 c8 k8
  have b8 := F8.binds (ps := ["table"]) fun _ _ _ _ _ _ us hl => match us, hl with | [_], _ => rfl
  have F9 := fun_mk (st := s_show_table) l9 c9 k9
  have b9 := F9.binds (ps := ["table"]) fun _ _ _ _ _ _ us hl => match us, hl with | [_], _ => rfl
  have F10 := fun_mk (st := s_number_told) l10 c10 k10
  have b10 := F10.binds (ps := ["word"]) fun _ _ _ _ _ _ us hl => match us, hl with | [_], _ => rfl
  have F11 := fun_mk (st := s__law_table) l11 c11 k11
  have b11 := F11.binds (ps := ["_law_state", "_law_many"]) fun _ _ _ _ _ _ us hl => match us, hl with | [_, _], _ => rfl
  have F12 := fun_mk (st := s_pair_told) l12 c12 k12
  have b12 := F12.binds (ps := ["row", "many"]) fun _ _ _ _ _ _ us hl => match us, hl with | [_, _], _ => rfl
  have F13 := fun_mk (st := s_read_table) l13 c13 k13
  have b13 := F13.binds (ps := ["text"]) fun _ _ _ _ _ _ us hl => match us, hl with | [_], _ => rfl
  have F14 := fun_mk (st := s__law_right) l14 c14 k14
  have b14 := F14.binds (ps := ["_law_table_here"]) fun _ _ _ _ _ _ us hl => match us, hl with | [_], _ => rfl
  have F15 := fun_mk (st := s_law) l15 c15 k15
  have b15 := F15.binds (ps := ["_law_script"]) fun _ _ _ _ _ _ us hl => match us, hl with | [_], _ => rfl
  let T : Txt K mg := ⟨f0, _, F0, PySem.W.mg_of X G a0, b0, f1, _, F1, PySem.W.mg_of X G a1, b1, f2, _, F2, PySem.W.mg_of X G a2, b2, f3, _, F3, PySem.W.mg_of X G a3, b3, f4, _, F4, PySem.W.mg_of X G a4, b4, f5, _, F5, PySem.W.mg_of X G a5, b5, f6, _, F6, PySem.W.mg_of X G a6, b6, f7, _, F7, PySem.W.mg_of X G a7, b7, f8, _, F8, PySem.W.mg_of X G a8, b8, f9, _, F9, PySem.W.mg_of X G a9, b9, f10, _, F10, PySem.W.mg_of X G a10, b10, f11, _, F11, PySem.W.mg_of X G a11, b11, f12, _, F12, PySem.W.mg_of X G a12, b12, f13, _, F13, PySem.W.mg_of X G a13, b13, f14, _, F14, PySem.W.mg_of X G a14, b14, fa, _, F15, PySem.W.mg_of X G a15, b15, PySem.W.mg_none_of X G z_abs, PySem.W.mg_none_of X G z_enumerate, PySem.W.mg_none_of X G z_isinstance, PySem.W.mg_none_of X G z_len, PySem.W.mg_none_of X G z_list, PySem.W.mg_none_of X G z_max, PySem.W.mg_none_of X G z_min, PySem.W.mg_none_of X G z_range, PySem.W.mg_none_of X G z_repr, PySem.W.mg_none_of X G z_str, PySem.W.mg_none_of X G z_tuple, ⟨_, PySem.W.mg_of X G c_HEAD⟩, ⟨_, PySem.W.mg_of X G c_LEAST_ORDER⟩, ⟨_, PySem.W.mg_of X G c_LETTERS⟩, ⟨_, PySem.W.mg_of X G c_MOST_MIRRORS⟩, ⟨_, PySem.W.mg_of X G c_MOST_NUMBER⟩, ⟨_, PySem.W.mg_of X G c_MOST_ORDER⟩, ⟨_, PySem.W.mg_of X G c_NEVER⟩⟩
  exact ⟨_, fun s v => .of_eq rfl, fun base _ _ => ok_law T⟩
end WK

namespace WK
open PySem L2 FL
/-- the hand's state -/
def tS (a b c : Int) : Tr := .lst [.imm (.int a), .imm (.int b), .imm (.int c)]
theorem take_one (a b c n : Int) (ha : 0 ≤ a) (hb : 0 ≤ b) (hc : 0 ≤ c) (hb2 : b < 2 ^ 61) (hc2 : c < 2 ^ 60) (hn : 0 < n) (hn2 : n < 2 ^ 61) :
    ∃ r a' c', mFn 4 m__law_take [tS a b c, .imm (.int n)] = some (.imm (.int r), [tS a' b c', .imm (.int n)]) ∧ 0 ≤ r ∧ r < n ∧ 0 ≤ a' ∧ c ≤ c' ∧ c' ≤ c + 1 := by
  have hN : Bd 61 n := .of (by omega) (by omega)
  by_cases h : 0 < a
  · refine ⟨a % n, a / n, c, ?_, Int.emod_nonneg _ (by omega), Int.emod_lt_of_pos _ hn, Int.ediv_nonneg ha (by omega), by omega, by omega⟩
    have e1 := v_divI (a := a) (cdiv_ok hn hN (by decide))
    have e2 := v_modI (a := a) hn
    rw [v_fn]
    unfold m__law_take tS
    simp -implicitDefEqProofs only [FL.v_seq, FL.v_thN, FL.v_thR, FL.v_thB, FL.v_thC, FL.v_ifS, FL.v_asg, FL.v_ret, FL.v_retN, FL.v_drop, FL.v_nx, FL.v_bk, FL.v_ct, FL.v_name, FL.v_pN, FL.v_pV, FL.v_var, FL.v_at, FL.v_trV, FL.v_trP, FL.v_wV, FL.v_wP, FL.v_C, FL.v_ER, FL.v_Fz, FL.v_fO, FL.v_fS, FL.v_fV, FL.v_fP, FL.v_fL, FL.v_vS, FL.v_vO, FL.v_op, FL.v_un, FL.v_bOf, FL.v_test, FL.v_and, FL.v_or, FL.v_not, FL.v_tru, FL.v_trB, FL.v_andV, FL.v_orV, FL.v_notV, FL.v_if, FL.v_chain, FL.v_arN, FL.v_arC, FL.v_faN, FL.v_faC, FL.v_tup, FL.v_lst, FL.v_tdN, FL.v_tdC, FL.v_tdI, FL.v_tdL, FL.toDs_imms, FL.imms_imms, FL.v_cb, FL.v_vsN, FL.v_vsC, FL.v_bm, FL.v_tyS, FL.v_tyL, FL.v_sl, FL.v_moN, FL.v_moS, FL.v_iOf, FL.v_call, FL.v_osO, FL.v_osS, FL.v_isI, FL.v_isL, FL.v_isD, FL.v_gN, FL.v_gO, FL.v_gS, FL.v_for, FL.v_lc, FL.v_sub, FL.v_sub2, FL.v_iAt, FL.v_iC, FL.v_aug, FL.v_par, FL.v_mut, FL.v_rng1, FL.v_rng2, FL.v_seqI, FL.v_enum, FL.v_isi, FL.v_addI, FL.v_addS, FL.v_addT, FL.v_addL, FL.v_subI, FL.v_neg, FL.v_lt, FL.v_le, FL.v_gt, FL.v_ge, FL.v_eqI, FL.v_neI, FL.v_eqS, FL.v_neS, FL.v_ixT, FL.v_ixD, FL.v_ixL, FL.v_ixS, FL.v_len, FL.v_lnT, FL.v_lnD, FL.v_lnL, FL.v_lnS, FL.v_abs, FL.v_max, FL.v_min, FL.v_int, FL.v_intB, FL.v_tuple, FL.v_list, FL.v_sqT, FL.v_sqD, FL.v_sqL, FL.v_itT, FL.v_itL, FL.v_itS, FL.v_isN, FL.v_notN, FL.v_setL, FL.v_setD, FL.v_kS, FL.v_kI, FL.v_mp, FL.v_mpn, FL.v_pO, FL.v_tupG, FL.v_gsC, FL.v_gsN, FL.v_slD, FL.v_at0, FL.v_at1, FL.v_at2, FL.v_i30, FL.v_i31, FL.v_i32, FL.v_Mv, FL.v_mvV, FL.v_pr, FL.v_wpN, FL.v_wpC, FL.v_wsN, FL.v_wsV, FL.v_wsO, FL.v_bkN, FL.v_bkC, FL.v_bsN, FL.v_bsI, FL.v_sf, FL.callD, Option.bind_some, Option.bind_none, List.getElem?_cons_zero, List.getElem?_cons_succ, List.getElem?_nil, List.set_cons_zero, List.set_cons_succ, List.length_cons, List.length_nil, List.filterMap_cons, List.filterMap_nil, decide_eq_true_eq, if_true, if_false, true_and, and_true, Nat.reduceAdd, Nat.reduceLeDiff, Nat.reduceEqDiff, ↓reduceIte, Bool.false_eq_true, FL.startE, FL.backs, List.map_cons, List.map_nil, List.cons_append, List.nil_append, Nat.reduceSub, List.replicate_succ, List.replicate_zero, List.nodup_nil, List.nodup_cons, List.not_mem_nil, not_false_eq_true, and_self, reduceCtorEq, Option.map_some, Option.map_none, v_at0, v_at1, v_at2, v_i30, v_i31, v_i32, h, e1, e2]
  · have hC : Bd 61 (c + 1) := .of (by omega) (by omega)
    have hB : Bd 61 b := .of (by omega) (by omega)
    have c1 : Bd 17 (65537 : Int) := by decide
    have f1 := c1.fmul hC (by decide)
    have f2 := (c1.mul hC).fmul hC (by decide)
    have g2 := (c1.mul hC).mul hC
    have g3 := (hB.mono (n := 139) (by decide)).add g2
    have g4 := g3.add (b := 11) (Bd.mono (m := 4) (by decide) (by decide))
    have c2 : Bd 16 (48271 : Int) := by decide
    have f3 := g4.fmul c2 (by decide)
    have f4 := v_modI (a := (b + 65537 * (c + 1) * (c + 1) + 11) * 48271) (b := 2305843009213693921) (by decide)
    generalize hx : (b + 65537 * (c + 1) * (c + 1) + 11) * 48271 % 2305843009213693921 = x at f4
    have hX : Bd 61 x := by rw [← hx]; exact .mod (by decide) (by decide)
    have f5 := v_modI (a := x) (b := 1000003) (by decide)
    have c3 : Bd 17 (99991 : Int) := by decide
    have f6 := c3.fmul hC (by decide)
    have g5 := (Bd.mono (n := 78) (Bd.mod (n := 20) (a := x) (b := 1000003) (by decide) (by decide)) (by decide)).add (c3.mul hC)
    have f7 := hX.fmul g5 (by decide)
    have f8 := v_modI (a := x * (x % 1000003 + 99991 * (c + 1))) (b := 2305843009213693907) (by decide)
    generalize hy : x * (x % 1000003 + 99991 * (c + 1)) % 2305843009213693907 = y at f8
    have f9 := v_divI (a := y) (b := 97) (cdiv_ok (n := 20) (by decide) (by decide) (by decide))
    have f10 := v_divI (a := y) (b := 1000033) (cdiv_ok (n := 20) (by decide) (by decide) (by decide))
    have f11 := v_modI (a := y / 97 + y / 1000033) hn
    refine ⟨(y / 97 + y / 1000033) % n, a, c + 1, ?_, Int.emod_nonneg _ (by omega), Int.emod_lt_of_pos _ hn, ha, by omega, by omega⟩
    rw [v_fn]
    unfold m__law_take tS
    simp -implicitDefEqProofs only [FL.v_seq, FL.v_thN, FL.v_thR, FL.v_thB, FL.v_thC, FL.v_ifS, FL.v_asg, FL.v_ret, FL.v_retN, FL.v_drop, FL.v_nx, FL.v_bk, FL.v_ct, FL.v_name, FL.v_pN, FL.v_pV, FL.v_var, FL.v_at, FL.v_trV, FL.v_trP, FL.v_wV, FL.v_wP, FL.v_C, FL.v_ER, FL.v_Fz, FL.v_fO, FL.v_fS, FL.v_fV, FL.v_fP, FL.v_fL, FL.v_vS, FL.v_vO, FL.v_op, FL.v_un, FL.v_bOf, FL.v_test, FL.v_and, FL.v_or, FL.v_not, FL.v_tru, FL.v_trB, FL.v_andV, FL.v_orV, FL.v_notV, FL.v_if, FL.v_chain, FL.v_arN, FL.v_arC, FL.v_faN, FL.v_faC, FL.v_tup, FL.v_lst, FL.v_tdN, FL.v_tdC, FL.v_tdI, FL.v_tdL, FL.toDs_imms, FL.imms_imms, FL.v_cb, FL.v_vsN, FL.v_vsC, FL.v_bm, FL.v_tyS, FL.v_tyL, FL.v_sl, FL.v_moN, FL.v_moS, FL.v_iOf, FL.v_call, FL.v_osO, FL.v_osS, FL.v_isI, FL.v_isL, FL.v_isD, FL.v_gN, FL.v_gO, FL.v_gS, FL.v_for, FL.v_lc, FL.v_sub, FL.v_sub2, FL.v_iAt, FL.v_iC, FL.v_aug, FL.v_par, FL.v_mut, FL.v_rng1, FL.v_rng2, FL.v_seqI, FL.v_enum, FL.v_isi, FL.v_addI, FL.v_addS, FL.v_addT, FL.v_addL, FL.v_subI, FL.v_neg, FL.v_lt, FL.v_le, FL.v_gt, FL.v_ge, FL.v_eqI, FL.v_neI, FL.v_eqS, FL.v_neS, FL.v_ixT, FL.v_ixD, FL.v_ixL, FL.v_ixS, FL.v_len, FL.v_lnT, FL.v_lnD, FL.v_lnL, FL.v_lnS, FL.v_abs, FL.v_max, FL.v_min, FL.v_int, FL.v_intB, FL.v_tuple, FL.v_list, FL.v_sqT, FL.v_sqD, FL.v_sqL, FL.v_itT, FL.v_itL, FL.v_itS, FL.v_isN, FL.v_notN, FL.v_setL, FL.v_setD, FL.v_kS, FL.v_kI, FL.v_mp, FL.v_mpn, FL.v_pO, FL.v_tupG, FL.v_gsC, FL.v_gsN, FL.v_slD, FL.v_at0, FL.v_at1, FL.v_at2, FL.v_i30, FL.v_i31, FL.v_i32, FL.v_Mv, FL.v_mvV, FL.v_pr, FL.v_wpN, FL.v_wpC, FL.v_wsN, FL.v_wsV, FL.v_wsO, FL.v_bkN, FL.v_bkC, FL.v_bsN, FL.v_bsI, FL.v_sf, FL.callD, Option.bind_some, Option.bind_none, List.getElem?_cons_zero, List.getElem?_cons_succ, List.getElem?_nil, List.set_cons_zero, List.set_cons_succ, List.length_cons, List.length_nil, List.filterMap_cons, List.filterMap_nil, decide_eq_true_eq, if_true, if_false, true_and, and_true, Nat.reduceAdd, Nat.reduceLeDiff, Nat.reduceEqDiff, ↓reduceIte, Bool.false_eq_true, FL.startE, FL.backs, List.map_cons, List.map_nil, List.cons_append, List.nil_append, Nat.reduceSub, List.replicate_succ, List.replicate_zero, List.nodup_nil, List.nodup_cons, List.not_mem_nil, not_false_eq_true, and_self, reduceCtorEq, Option.map_some, Option.map_none, v_at0, v_at1, v_at2, v_i30, v_i31, v_i32, h, f1, f2, f3, f4, f5, f6, f7, f8, f9, f10, f11]
end WK

namespace WK
open PySem L2 FL
theorem hand_loop1 (sc : PyData) (ds : List PyData) (hd : ∀ (i : Nat) (d : PyData), ds[i]? = some d → ∃ k : Int, d = PyData.int k) (hl : ds.length ≤ 63) : 
    ∃ a f s3, forD (mName 3) (mSeq (mAsg (mOp fAdd (mER (mOp fIx (mVar 1) (mER (mC (.int 0))))) (mER (mOp fMul (mER (mOp fMod (mER (mCB fAbs (arCons (mVar 3) arNil))) (mER (mOp fPow (mER (mC (.int 10))) (mER (mC (.int 60))))))) (mVar 2)))) (mSub 1 fSetA (mC (.int 0))))
    (mAsg (mOp fMul (mVar 2) (mER (mOp fPow (mER (mC (.int 10))) (mER (mC (.int 60)))))) (mName 2))) ds [.val (.imm sc), .val (tS 0 0 0), .val (.imm (.int 1)), .no, .no, .no] = some (.nx [.val (.imm sc), .val (tS a 0 0), .val (.imm (.int f)), ov s3, .no, .no]) ∧ 0 ≤ a := by
  obtain ⟨E', e, a, f, s3, rfl, h0, h1, h2⟩ := forD_inv (g := mName 3) (ms := (mSeq (mAsg (mOp fAdd (mER (mOp fIx (mVar 1) (mER (mC (.int 0))))) (mER (mOp fMul (mER (mOp fMod (mER (mCB fAbs (arCons (mVar 3) arNil))) (mER (mOp fPow (mER (mC (.int 10))) (mER (mC (.int 60))))))) (mVar 2)))) (mSub 1 fSetA (mC (.int 0))))
    (mAsg (mOp fMul (mVar 2) (mER (mOp fPow (mER (mC (.int 10))) (mER (mC (.int 60)))))) (mName 2))))
    (fun i E => ∃ a f s3, E = [.val (.imm sc), .val (tS a 0 0), .val (.imm (.int f)), ov s3, .no, .no] ∧ 0 ≤ a ∧ 0 ≤ f ∧ Bd (200 * i + 1) f) ds
    (fun i d E hi ⟨a, f, s3, hE, h0, h1, h2⟩ => by
      obtain ⟨k, rfl⟩ := hd i d hi
      have hlt : i < 63 := by
        have := (List.getElem?_eq_some_iff.mp hi).1
        omega
      have p1 := v_powI (a := 10) (b := 60) (by decide)
      generalize hP : (10 : Int) ^ Int.toNat 60 = P at p1
      have hP0 : 0 < P := by rw [← hP]; decide
      have hP1 : Bd 200 P := by rw [← hP]; decide
      have p2 := v_modI (a := if k < 0 then -k else k) hP0
      generalize hm : (if k < 0 then -k else k) % P = m at p2
      have hm0 : 0 ≤ m := by rw [← hm]; exact Int.emod_nonneg _ (by omega)
      have hm1 : Bd 200 m := by rw [← hm]; exact .mod hP0 hP1
      have p3 := hm1.fmul h2 (by omega)
      have p4 := h2.fmul hP1 (by omega)
      refine ⟨[.val (.imm sc), .val (tS a 0 0), .val (.imm (.int f)), .val (.imm (.int k)), .no, .no], [.val (.imm sc), .val (tS (a + m * f) 0 0), .val (.imm (.int (f * P))), .val (.imm (.int k)), .no, .no], ?_, .inl ?_, a + m * f, f * P, some (.imm (.int k)), rfl, ?_, ?_, ?_⟩
      · rw [hE]; simp -implicitDefEqProofs only [FL.v_seq, FL.v_thN, FL.v_thR, FL.v_thB, FL.v_thC, FL.v_ifS, FL.v_asg, FL.v_ret, FL.v_retN, FL.v_drop, FL.v_nx, FL.v_bk, FL.v_ct, FL.v_name, FL.v_pN, FL.v_pV, FL.v_var, FL.v_at, FL.v_trV, FL.v_trP, FL.v_wV, FL.v_wP, FL.v_C, FL.v_ER, FL.v_Fz, FL.v_fO, FL.v_fS, FL.v_fV, FL.v_fP, FL.v_fL, FL.v_vS, FL.v_vO, FL.v_op, FL.v_un, FL.v_bOf, FL.v_test, FL.v_and, FL.v_or, FL.v_not, FL.v_tru, FL.v_trB, FL.v_andV, FL.v_orV, FL.v_notV, FL.v_if, FL.v_chain, FL.v_arN, FL.v_arC, FL.v_faN, FL.v_faC, FL.v_tup, FL.v_lst, FL.v_tdN, FL.v_tdC, FL.v_tdI, FL.v_tdL, FL.toDs_imms, FL.imms_imms, FL.v_cb, FL.v_vsN, FL.v_vsC, FL.v_bm, FL.v_tyS, FL.v_tyL, FL.v_sl, FL.v_moN, FL.v_moS, FL.v_iOf, FL.v_call, FL.v_osO, FL.v_osS, FL.v_isI, FL.v_isL, FL.v_isD, FL.v_gN, FL.v_gO, FL.v_gS, FL.v_for, FL.v_lc, FL.v_sub, FL.v_sub2, FL.v_iAt, FL.v_iC, FL.v_aug, FL.v_par, FL.v_mut, FL.v_rng1, FL.v_rng2, FL.v_seqI, FL.v_enum, FL.v_isi, FL.v_addI, FL.v_addS, FL.v_addT, FL.v_addL, FL.v_subI, FL.v_neg, FL.v_lt, FL.v_le, FL.v_gt, FL.v_ge, FL.v_eqI, FL.v_neI, FL.v_eqS, FL.v_neS, FL.v_ixT, FL.v_ixD, FL.v_ixL, FL.v_ixS, FL.v_len, FL.v_lnT, FL.v_lnD, FL.v_lnL, FL.v_lnS, FL.v_abs, FL.v_max, FL.v_min, FL.v_int, FL.v_intB, FL.v_tuple, FL.v_list, FL.v_sqT, FL.v_sqD, FL.v_sqL, FL.v_itT, FL.v_itL, FL.v_itS, FL.v_isN, FL.v_notN, FL.v_setL, FL.v_setD, FL.v_kS, FL.v_kI, FL.v_mp, FL.v_mpn, FL.v_pO, FL.v_tupG, FL.v_gsC, FL.v_gsN, FL.v_slD, FL.v_at0, FL.v_at1, FL.v_at2, FL.v_i30, FL.v_i31, FL.v_i32, FL.v_Mv, FL.v_mvV, FL.v_pr, FL.v_wpN, FL.v_wpC, FL.v_wsN, FL.v_wsV, FL.v_wsO, FL.v_bkN, FL.v_bkC, FL.v_bsN, FL.v_bsI, FL.v_sf, FL.callD, Option.bind_some, Option.bind_none, List.getElem?_cons_zero, List.getElem?_cons_succ, List.getElem?_nil, List.set_cons_zero, List.set_cons_succ, List.length_cons, List.length_nil, List.filterMap_cons, List.filterMap_nil, decide_eq_true_eq, if_true, if_false, true_and, and_true, Nat.reduceAdd, Nat.reduceLeDiff, Nat.reduceEqDiff, ↓reduceIte, Bool.false_eq_true, FL.startE, FL.backs, List.map_cons, List.map_nil, List.cons_append, List.nil_append, Nat.reduceSub, List.replicate_succ, List.replicate_zero, List.nodup_nil, List.nodup_cons, List.not_mem_nil, not_false_eq_true, and_self, reduceCtorEq, Option.map_some, Option.map_none]
      · unfold tS
        simp -implicitDefEqProofs only [FL.v_seq, FL.v_thN, FL.v_thR, FL.v_thB, FL.v_thC, FL.v_ifS, FL.v_asg, FL.v_ret, FL.v_retN, FL.v_drop, FL.v_nx, FL.v_bk, FL.v_ct, FL.v_name, FL.v_pN, FL.v_pV, FL.v_var, FL.v_at, FL.v_trV, FL.v_trP, FL.v_wV, FL.v_wP, FL.v_C, FL.v_ER, FL.v_Fz, FL.v_fO, FL.v_fS, FL.v_fV, FL.v_fP, FL.v_fL, FL.v_vS, FL.v_vO, FL.v_op, FL.v_un, FL.v_bOf, FL.v_test, FL.v_and, FL.v_or, FL.v_not, FL.v_tru, FL.v_trB, FL.v_andV, FL.v_orV, FL.v_notV, FL.v_if, FL.v_chain, FL.v_arN, FL.v_arC, FL.v_faN, FL.v_faC, FL.v_tup, FL.v_lst, FL.v_tdN, FL.v_tdC, FL.v_tdI, FL.v_tdL, FL.toDs_imms, FL.imms_imms, FL.v_cb, FL.v_vsN, FL.v_vsC, FL.v_bm, FL.v_tyS, FL.v_tyL, FL.v_sl, FL.v_moN, FL.v_moS, FL.v_iOf, FL.v_call, FL.v_osO, FL.v_osS, FL.v_isI, FL.v_isL, FL.v_isD, FL.v_gN, FL.v_gO, FL.v_gS, FL.v_for, FL.v_lc, FL.v_sub, FL.v_sub2, FL.v_iAt, FL.v_iC, FL.v_aug, FL.v_par, FL.v_mut, FL.v_rng1, FL.v_rng2, FL.v_seqI, FL.v_enum, FL.v_isi, FL.v_addI, FL.v_addS, FL.v_addT, FL.v_addL, FL.v_subI, FL.v_neg, FL.v_lt, FL.v_le, FL.v_gt, FL.v_ge, FL.v_eqI, FL.v_neI, FL.v_eqS, FL.v_neS, FL.v_ixT, FL.v_ixD, FL.v_ixL, FL.v_ixS, FL.v_len, FL.v_lnT, FL.v_lnD, FL.v_lnL, FL.v_lnS, FL.v_abs, FL.v_max, FL.v_min, FL.v_int, FL.v_intB, FL.v_tuple, FL.v_list, FL.v_sqT, FL.v_sqD, FL.v_sqL, FL.v_itT, FL.v_itL, FL.v_itS, FL.v_isN, FL.v_notN, FL.v_setL, FL.v_setD, FL.v_kS, FL.v_kI, FL.v_mp, FL.v_mpn, FL.v_pO, FL.v_tupG, FL.v_gsC, FL.v_gsN, FL.v_slD, FL.v_at0, FL.v_at1, FL.v_at2, FL.v_i30, FL.v_i31, FL.v_i32, FL.v_Mv, FL.v_mvV, FL.v_pr, FL.v_wpN, FL.v_wpC, FL.v_wsN, FL.v_wsV, FL.v_wsO, FL.v_bkN, FL.v_bkC, FL.v_bsN, FL.v_bsI, FL.v_sf, FL.callD, Option.bind_some, Option.bind_none, List.getElem?_cons_zero, List.getElem?_cons_succ, List.getElem?_nil, List.set_cons_zero, List.set_cons_succ, List.length_cons, List.length_nil, List.filterMap_cons, List.filterMap_nil, decide_eq_true_eq, if_true, if_false, true_and, and_true, Nat.reduceAdd, Nat.reduceLeDiff, Nat.reduceEqDiff, ↓reduceIte, Bool.false_eq_true, FL.startE, FL.backs, List.map_cons, List.map_nil, List.cons_append, List.nil_append, Nat.reduceSub, List.replicate_succ, List.replicate_zero, List.nodup_nil, List.nodup_cons, List.not_mem_nil, not_false_eq_true, and_self, reduceCtorEq, Option.map_some, Option.map_none, p1, p2, p3, p4]
      · exact Int.add_nonneg h0 (Int.mul_nonneg hm0 h1)
      · exact Int.mul_nonneg h1 (by omega)
      · exact (h2.mul hP1).mono (by omega))
    [.val (.imm sc), .val (tS 0 0 0), .val (.imm (.int 1)), .no, .no, .no] ⟨0, 1, none, rfl, by decide, by decide, by decide⟩
  exact ⟨a, f, s3, e, h0⟩
theorem hand_loop2 (sc : PyData) (ds : List PyData) (hd : ∀ (i : Nat) (d : PyData), ds[i]? = some d → ∃ k : Int, d = PyData.int k) (hl : ds.length ≤ 63) (a : Int) (s2 s3 : Option Tr) : 
    ∃ b s3' s4 s5, forD (mTupG 2 (gsCons (mName 4) (gsCons (mName 3) gsNil))) (mSeq (mAsg (mOp fAdd (mER (mOp fAdd (mER (mOp fMod (mVar 3) (mER (mC (.int 2305843009213693951))))) (mER (mOp fMul (mER (mC (.int 7919))) (mVar 4))))) (mER (mC (.int 3)))) (mName 5))
    (mAsg (mOp fMod (mER (mOp fAdd (mER (mOp fMul (mER (mOp fIx (mVar 1) (mER (mC (.int 1))))) (mER (mC (.int 48271))))) (mVar 5))) (mER (mC (.int 2305843009213693951)))) (mSub 1 fSetA (mC (.int 1))))) (enumD ds) [.val (.imm sc), .val (tS a 0 0), ov s2, ov s3, .no, .no] = some (.nx [.val (.imm sc), .val (tS a b 0), ov s2, ov s3', ov s4, ov s5]) ∧ 0 ≤ b ∧ b < 2 ^ 61 := by
  obtain ⟨E', e, b, s3', s4, s5, rfl, h0, h1⟩ := forD_inv (g := (mTupG 2 (gsCons (mName 4) (gsCons (mName 3) gsNil)))) (ms := (mSeq (mAsg (mOp fAdd (mER (mOp fAdd (mER (mOp fMod (mVar 3) (mER (mC (.int 2305843009213693951))))) (mER (mOp fMul (mER (mC (.int 7919))) (mVar 4))))) (mER (mC (.int 3)))) (mName 5))
    (mAsg (mOp fMod (mER (mOp fAdd (mER (mOp fMul (mER (mOp fIx (mVar 1) (mER (mC (.int 1))))) (mER (mC (.int 48271))))) (mVar 5))) (mER (mC (.int 2305843009213693951)))) (mSub 1 fSetA (mC (.int 1))))))
    (fun i E => ∃ b s3 s4 s5, E = [.val (.imm sc), .val (tS a b 0), ov s2, ov s3, ov s4, ov s5] ∧ 0 ≤ b ∧ b < 2 ^ 61) (enumD ds)
    (fun i d E hi ⟨b, s3, s4, s5, hE, h0, h1⟩ => by
      obtain ⟨x, hx, rfl⟩ := enumD_item hi
      obtain ⟨k, rfl⟩ := hd i x hx
      have hlt : i < 63 := by
        have := (List.getElem?_eq_some_iff.mp hx).1
        omega
      have p1 := v_modI (a := k) (b := 2305843009213693951) (by decide)
      have p2 := Bd.fmul (m := 20) (n := 20) (a := 7919) (b := (i : Nat)) (by decide) (.of (by omega) (by omega)) (by decide)
      have p3 := Bd.fmul (m := 61) (n := 20) (a := b) (b := 48271) (.of (by omega) (by omega)) (by decide) (by decide)
      generalize hm : k % 2305843009213693951 + 7919 * (i : Nat) + 3 = m
      have p4 := v_modI (a := b * 48271 + m) (b := 2305843009213693951) (by decide)
      refine ⟨[.val (.imm sc), .val (tS a b 0), ov s2, .val (.imm (.int k)), .val (.imm (.int (i : Nat))), ov s5], [.val (.imm sc), .val (tS a ((b * 48271 + m) % 2305843009213693951) 0), ov s2, .val (.imm (.int k)), .val (.imm (.int (i : Nat))), .val (.imm (.int m))], ?_, .inl ?_, (b * 48271 + m) % 2305843009213693951, some (.imm (.int k)), some (.imm (.int (i : Nat))), some (.imm (.int m)), rfl, ?_, ?_⟩
      · rw [hE]; simp -implicitDefEqProofs only [FL.v_seq, FL.v_thN, FL.v_thR, FL.v_thB, FL.v_thC, FL.v_ifS, FL.v_asg, FL.v_ret, FL.v_retN, FL.v_drop, FL.v_nx, FL.v_bk, FL.v_ct, FL.v_name, FL.v_pN, FL.v_pV, FL.v_var, FL.v_at, FL.v_trV, FL.v_trP, FL.v_wV, FL.v_wP, FL.v_C, FL.v_ER, FL.v_Fz, FL.v_fO, FL.v_fS, FL.v_fV, FL.v_fP, FL.v_fL, FL.v_vS, FL.v_vO, FL.v_op, FL.v_un, FL.v_bOf, FL.v_test, FL.v_and, FL.v_or, FL.v_not, FL.v_tru, FL.v_trB, FL.v_andV, FL.v_orV, FL.v_notV, FL.v_if, FL.v_chain, FL.v_arN, FL.v_arC, FL.v_faN, FL.v_faC, FL.v_tup, FL.v_lst, FL.v_tdN, FL.v_tdC, FL.v_tdI, FL.v_tdL, FL.toDs_imms, FL.imms_imms, FL.v_cb, FL.v_vsN, FL.v_vsC, FL.v_bm, FL.v_tyS, FL.v_tyL, FL.v_sl, FL.v_moN, FL.v_moS, FL.v_iOf, FL.v_call, FL.v_osO, FL.v_osS, FL.v_isI, FL.v_isL, FL.v_isD, FL.v_gN, FL.v_gO, FL.v_gS, FL.v_for, FL.v_lc, FL.v_sub, FL.v_sub2, FL.v_iAt, FL.v_iC, FL.v_aug, FL.v_par, FL.v_mut, FL.v_rng1, FL.v_rng2, FL.v_seqI, FL.v_enum, FL.v_isi, FL.v_addI, FL.v_addS, FL.v_addT, FL.v_addL, FL.v_subI, FL.v_neg, FL.v_lt, FL.v_le, FL.v_gt, FL.v_ge, FL.v_eqI, FL.v_neI, FL.v_eqS, FL.v_neS, FL.v_ixT, FL.v_ixD, FL.v_ixL, FL.v_ixS, FL.v_len, FL.v_lnT, FL.v_lnD, FL.v_lnL, FL.v_lnS, FL.v_abs, FL.v_max, FL.v_min, FL.v_int, FL.v_intB, FL.v_tuple, FL.v_list, FL.v_sqT, FL.v_sqD, FL.v_sqL, FL.v_itT, FL.v_itL, FL.v_itS, FL.v_isN, FL.v_notN, FL.v_setL, FL.v_setD, FL.v_kS, FL.v_kI, FL.v_mp, FL.v_mpn, FL.v_pO, FL.v_tupG, FL.v_gsC, FL.v_gsN, FL.v_slD, FL.v_at0, FL.v_at1, FL.v_at2, FL.v_i30, FL.v_i31, FL.v_i32, FL.v_Mv, FL.v_mvV, FL.v_pr, FL.v_wpN, FL.v_wpC, FL.v_wsN, FL.v_wsV, FL.v_wsO, FL.v_bkN, FL.v_bkC, FL.v_bsN, FL.v_bsI, FL.v_sf, FL.callD, Option.bind_some, Option.bind_none, List.getElem?_cons_zero, List.getElem?_cons_succ, List.getElem?_nil, List.set_cons_zero, List.set_cons_succ, List.length_cons, List.length_nil, List.filterMap_cons, List.filterMap_nil, decide_eq_true_eq, if_true, if_false, true_and, and_true, Nat.reduceAdd, Nat.reduceLeDiff, Nat.reduceEqDiff, ↓reduceIte, Bool.false_eq_true, FL.startE, FL.backs, List.map_cons, List.map_nil, List.cons_append, List.nil_append, Nat.reduceSub, List.replicate_succ, List.replicate_zero, List.nodup_nil, List.nodup_cons, List.not_mem_nil, not_false_eq_true, and_self, reduceCtorEq, Option.map_some, Option.map_none]
      · unfold tS
        simp -implicitDefEqProofs only [FL.v_seq, FL.v_thN, FL.v_thR, FL.v_thB, FL.v_thC, FL.v_ifS, FL.v_asg, FL.v_ret, FL.v_retN, FL.v_drop, FL.v_nx, FL.v_bk, FL.v_ct, FL.v_name, FL.v_pN, FL.v_pV, FL.v_var, FL.v_at, FL.v_trV, FL.v_trP, FL.v_wV, FL.v_wP, FL.v_C, FL.v_ER, FL.v_Fz, FL.v_fO, FL.v_fS, FL.v_fV, FL.v_fP, FL.v_fL, FL.v_vS, FL.v_vO, FL.v_op, FL.v_un, FL.v_bOf, FL.v_test, FL.v_and, FL.v_or, FL.v_not, FL.v_tru, FL.v_trB, FL.v_andV, FL.v_orV, FL.v_notV, FL.v_if, FL.v_chain, FL.v_arN, FL.v_arC, FL.v_faN, FL.v_faC, FL.v_tup, FL.v_lst, FL.v_tdN, FL.v_tdC, FL.v_tdI, FL.v_tdL, FL.toDs_imms, FL.imms_imms, FL.v_cb, FL.v_vsN, FL.v_vsC, FL.v_bm, FL.v_tyS, FL.v_tyL, FL.v_sl, FL.v_moN, FL.v_moS, FL.v_iOf, FL.v_call, FL.v_osO, FL.v_osS, FL.v_isI, FL.v_isL, FL.v_isD, FL.v_gN, FL.v_gO, FL.v_gS, FL.v_for, FL.v_lc, FL.v_sub, FL.v_sub2, FL.v_iAt, FL.v_iC, FL.v_aug, FL.v_par, FL.v_mut, FL.v_rng1, FL.v_rng2, FL.v_seqI, FL.v_enum, FL.v_isi, FL.v_addI, FL.v_addS, FL.v_addT, FL.v_addL, FL.v_subI, FL.v_neg, FL.v_lt, FL.v_le, FL.v_gt, FL.v_ge, FL.v_eqI, FL.v_neI, FL.v_eqS, FL.v_neS, FL.v_ixT, FL.v_ixD, FL.v_ixL, FL.v_ixS, FL.v_len, FL.v_lnT, FL.v_lnD, FL.v_lnL, FL.v_lnS, FL.v_abs, FL.v_max, FL.v_min, FL.v_int, FL.v_intB, FL.v_tuple, FL.v_list, FL.v_sqT, FL.v_sqD, FL.v_sqL, FL.v_itT, FL.v_itL, FL.v_itS, FL.v_isN, FL.v_notN, FL.v_setL, FL.v_setD, FL.v_kS, FL.v_kI, FL.v_mp, FL.v_mpn, FL.v_pO, FL.v_tupG, FL.v_gsC, FL.v_gsN, FL.v_slD, FL.v_at0, FL.v_at1, FL.v_at2, FL.v_i30, FL.v_i31, FL.v_i32, FL.v_Mv, FL.v_mvV, FL.v_pr, FL.v_wpN, FL.v_wpC, FL.v_wsN, FL.v_wsV, FL.v_wsO, FL.v_bkN, FL.v_bkC, FL.v_bsN, FL.v_bsI, FL.v_sf, FL.callD, Option.bind_some, Option.bind_none, List.getElem?_cons_zero, List.getElem?_cons_succ, List.getElem?_nil, List.set_cons_zero, List.set_cons_succ, List.length_cons, List.length_nil, List.filterMap_cons, List.filterMap_nil, decide_eq_true_eq, if_true, if_false, true_and, and_true, Nat.reduceAdd, Nat.reduceLeDiff, Nat.reduceEqDiff, ↓reduceIte, Bool.false_eq_true, FL.startE, FL.backs, List.map_cons, List.map_nil, List.cons_append, List.nil_append, Nat.reduceSub, List.replicate_succ, List.replicate_zero, List.nodup_nil, List.nodup_cons, List.not_mem_nil, not_false_eq_true, and_self, reduceCtorEq, Option.map_some, Option.map_none, p1, p2, p3, p4, hm]
      · exact Int.emod_nonneg _ (by decide)
      · have := Int.emod_lt_of_pos (b * 48271 + m) (b := 2305843009213693951) (by decide)
        omega)
    [.val (.imm sc), .val (tS a 0 0), ov s2, ov s3, .no, .no] ⟨0, s3, none, none, rfl, by decide, by decide⟩
  exact ⟨b, s3', s4, s5, e, h0, h1⟩
theorem hand_one (ns : List Int) (h63 : ns.length ≤ 63) : ∃ a b, mFn 6 m__law_hand [scriptT ns] = some (tS a b 0, [scriptT ns]) ∧ 0 ≤ a ∧ 0 ≤ b ∧ b < 2 ^ 61 := by
  have hm : ∀ d ∈ ns.map PyData.int, ∃ k : Int, d = PyData.int k := fun d hd => by
    obtain ⟨k, -, rfl⟩ := List.mem_map.mp hd
    exact ⟨k, rfl⟩
  have hc : ∀ i d, (cutL (ns.map PyData.int) none (some 63))[i]? = some d → ∃ k : Int, d = PyData.int k := fun i d h => hm d (cutL_mem h)
  have hl : (cutL (ns.map PyData.int) none (some 63)).length ≤ 63 := Nat.le_trans (cutL_len _ _ _) (by simpa using h63)
  obtain ⟨a1, f, t3, e1, ha1⟩ := hand_loop1 (.list (ns.map PyData.int)) _ hc hl
  have p1 := v_powI (a := 10) (b := 18) (by decide)
  have hL : ns = [] ∨ ∃ n, atI (ns.map PyData.int) 0 = some (PyData.int n) ∧ (0 : Int) < (ns.length : Int) := by
    cases ns with
    | nil => exact .inl rfl
    | cons n r => exact .inr ⟨n, v_at0, by simp only [List.length_cons]; omega⟩
  unfold tS at e1
  have key := fun (a : Int) (s2 s3 : Option Tr) => hand_loop2 (.list (ns.map PyData.int)) _ hc hl a s2 s3
  unfold tS at key
  rcases hL with hL | ⟨n, hn, hp⟩
  · obtain ⟨b, s3', s4, s5, e2, hb0, hb1⟩ := key 0 none none
    refine ⟨0, b, ?_, by decide, hb0, hb1⟩
    simp only [show ov none = SL.no from rfl] at e2
    have hz : ¬ (0 : Int) < (ns.length : Int) := by rw [hL]; decide
    rw [v_fn]; unfold m__law_hand scriptT tS
    simp -implicitDefEqProofs only [FL.v_seq, FL.v_thN, FL.v_thR, FL.v_thB, FL.v_thC, FL.v_ifS, FL.v_asg, FL.v_ret, FL.v_retN, FL.v_drop, FL.v_nx, FL.v_bk, FL.v_ct, FL.v_name, FL.v_pN, FL.v_pV, FL.v_var, FL.v_at, FL.v_trV, FL.v_trP, FL.v_wV, FL.v_wP, FL.v_C, FL.v_ER, FL.v_Fz, FL.v_fO, FL.v_fS, FL.v_fV, FL.v_fP, FL.v_fL, FL.v_vS, FL.v_vO, FL.v_op, FL.v_un, FL.v_bOf, FL.v_test, FL.v_and, FL.v_or, FL.v_not, FL.v_tru, FL.v_trB, FL.v_andV, FL.v_orV, FL.v_notV, FL.v_if, FL.v_chain, FL.v_arN, FL.v_arC, FL.v_faN, FL.v_faC, FL.v_tup, FL.v_lst, FL.v_tdN, FL.v_tdC, FL.v_tdI, FL.v_tdL, FL.toDs_imms, FL.imms_imms, FL.v_cb, FL.v_vsN, FL.v_vsC, FL.v_bm, FL.v_tyS, FL.v_tyL, FL.v_sl, FL.v_moN, FL.v_moS, FL.v_iOf, FL.v_call, FL.v_osO, FL.v_osS, FL.v_isI, FL.v_isL, FL.v_isD, FL.v_gN, FL.v_gO, FL.v_gS, FL.v_for, FL.v_lc, FL.v_sub, FL.v_sub2, FL.v_iAt, FL.v_iC, FL.v_aug, FL.v_par, FL.v_mut, FL.v_rng1, FL.v_rng2, FL.v_seqI, FL.v_enum, FL.v_isi, FL.v_addI, FL.v_addS, FL.v_addT, FL.v_addL, FL.v_subI, FL.v_neg, FL.v_lt, FL.v_le, FL.v_gt, FL.v_ge, FL.v_eqI, FL.v_neI, FL.v_eqS, FL.v_neS, FL.v_ixT, FL.v_ixD, FL.v_ixL, FL.v_ixS, FL.v_len, FL.v_lnT, FL.v_lnD, FL.v_lnL, FL.v_lnS, FL.v_abs, FL.v_max, FL.v_min, FL.v_int, FL.v_intB, FL.v_tuple, FL.v_list, FL.v_sqT, FL.v_sqD, FL.v_sqL, FL.v_itT, FL.v_itL, FL.v_itS, FL.v_isN, FL.v_notN, FL.v_setL, FL.v_setD, FL.v_kS, FL.v_kI, FL.v_mp, FL.v_mpn, FL.v_pO, FL.v_tupG, FL.v_gsC, FL.v_gsN, FL.v_slD, FL.v_at0, FL.v_at1, FL.v_at2, FL.v_i30, FL.v_i31, FL.v_i32, FL.v_Mv, FL.v_mvV, FL.v_pr, FL.v_wpN, FL.v_wpC, FL.v_wsN, FL.v_wsV, FL.v_wsO, FL.v_bkN, FL.v_bkC, FL.v_bsN, FL.v_bsI, FL.v_sf, FL.callD, Option.bind_some, Option.bind_none, List.getElem?_cons_zero, List.getElem?_cons_succ, List.getElem?_nil, List.set_cons_zero, List.set_cons_succ, List.length_cons, List.length_nil, List.filterMap_cons, List.filterMap_nil, decide_eq_true_eq, if_true, if_false, true_and, and_true, Nat.reduceAdd, Nat.reduceLeDiff, Nat.reduceEqDiff, ↓reduceIte, Bool.false_eq_true, FL.startE, FL.backs, List.map_cons, List.map_nil, List.cons_append, List.nil_append, Nat.reduceSub, List.replicate_succ, List.replicate_zero, List.nodup_nil, List.nodup_cons, List.not_mem_nil, not_false_eq_true, and_self, reduceCtorEq, Option.map_some, Option.map_none, hz, List.length_map, e2]
  · by_cases hb : (10 : Int) ^ Int.toNat 18 ≤ n
    · obtain ⟨b, s3', s4, s5, e2, hb0, hb1⟩ := key a1 (some (.imm (.int f))) t3
      refine ⟨a1, b, ?_, ha1, hb0, hb1⟩
      rw [show ov (some (.imm (.int f))) = SL.val (.imm (.int f)) from rfl] at e2
      rw [v_fn]; unfold m__law_hand scriptT tS
      simp -implicitDefEqProofs only [FL.v_seq, FL.v_thN, FL.v_thR, FL.v_thB, FL.v_thC, FL.v_ifS, FL.v_asg, FL.v_ret, FL.v_retN, FL.v_drop, FL.v_nx, FL.v_bk, FL.v_ct, FL.v_name, FL.v_pN, FL.v_pV, FL.v_var, FL.v_at, FL.v_trV, FL.v_trP, FL.v_wV, FL.v_wP, FL.v_C, FL.v_ER, FL.v_Fz, FL.v_fO, FL.v_fS, FL.v_fV, FL.v_fP, FL.v_fL, FL.v_vS, FL.v_vO, FL.v_op, FL.v_un, FL.v_bOf, FL.v_test, FL.v_and, FL.v_or, FL.v_not, FL.v_tru, FL.v_trB, FL.v_andV, FL.v_orV, FL.v_notV, FL.v_if, FL.v_chain, FL.v_arN, FL.v_arC, FL.v_faN, FL.v_faC, FL.v_tup, FL.v_lst, FL.v_tdN, FL.v_tdC, FL.v_tdI, FL.v_tdL, FL.toDs_imms, FL.imms_imms, FL.v_cb, FL.v_vsN, FL.v_vsC, FL.v_bm, FL.v_tyS, FL.v_tyL, FL.v_sl, FL.v_moN, FL.v_moS, FL.v_iOf, FL.v_call, FL.v_osO, FL.v_osS, FL.v_isI, FL.v_isL, FL.v_isD, FL.v_gN, FL.v_gO, FL.v_gS, FL.v_for, FL.v_lc, FL.v_sub, FL.v_sub2, FL.v_iAt, FL.v_iC, FL.v_aug, FL.v_par, FL.v_mut, FL.v_rng1, FL.v_rng2, FL.v_seqI, FL.v_enum, FL.v_isi, FL.v_addI, FL.v_addS, FL.v_addT, FL.v_addL, FL.v_subI, FL.v_neg, FL.v_lt, FL.v_le, FL.v_gt, FL.v_ge, FL.v_eqI, FL.v_neI, FL.v_eqS, FL.v_neS, FL.v_ixT, FL.v_ixD, FL.v_ixL, FL.v_ixS, FL.v_len, FL.v_lnT, FL.v_lnD, FL.v_lnL, FL.v_lnS, FL.v_abs, FL.v_max, FL.v_min, FL.v_int, FL.v_intB, FL.v_tuple, FL.v_list, FL.v_sqT, FL.v_sqD, FL.v_sqL, FL.v_itT, FL.v_itL, FL.v_itS, FL.v_isN, FL.v_notN, FL.v_setL, FL.v_setD, FL.v_kS, FL.v_kI, FL.v_mp, FL.v_mpn, FL.v_pO, FL.v_tupG, FL.v_gsC, FL.v_gsN, FL.v_slD, FL.v_at0, FL.v_at1, FL.v_at2, FL.v_i30, FL.v_i31, FL.v_i32, FL.v_Mv, FL.v_mvV, FL.v_pr, FL.v_wpN, FL.v_wpC, FL.v_wsN, FL.v_wsV, FL.v_wsO, FL.v_bkN, FL.v_bkC, FL.v_bsN, FL.v_bsI, FL.v_sf, FL.callD, Option.bind_some, Option.bind_none, List.getElem?_cons_zero, List.getElem?_cons_succ, List.getElem?_nil, List.set_cons_zero, List.set_cons_succ, List.length_cons, List.length_nil, List.filterMap_cons, List.filterMap_nil, decide_eq_true_eq, if_true, if_false, true_and, and_true, Nat.reduceAdd, Nat.reduceLeDiff, Nat.reduceEqDiff, ↓reduceIte, Bool.false_eq_true, FL.startE, FL.backs, List.map_cons, List.map_nil, List.cons_append, List.nil_append, Nat.reduceSub, List.replicate_succ, List.replicate_zero, List.nodup_nil, List.nodup_cons, List.not_mem_nil, not_false_eq_true, and_self, reduceCtorEq, Option.map_some, Option.map_none, hp, hn, hb, p1, List.length_map, e1, e2]
    · obtain ⟨b, s3', s4, s5, e2, hb0, hb1⟩ := key 0 none none
      simp only [show ov none = SL.no from rfl] at e2
      refine ⟨0, b, ?_, by decide, hb0, hb1⟩
      rw [v_fn]; unfold m__law_hand scriptT tS
      simp -implicitDefEqProofs only [FL.v_seq, FL.v_thN, FL.v_thR, FL.v_thB, FL.v_thC, FL.v_ifS, FL.v_asg, FL.v_ret, FL.v_retN, FL.v_drop, FL.v_nx, FL.v_bk, FL.v_ct, FL.v_name, FL.v_pN, FL.v_pV, FL.v_var, FL.v_at, FL.v_trV, FL.v_trP, FL.v_wV, FL.v_wP, FL.v_C, FL.v_ER, FL.v_Fz, FL.v_fO, FL.v_fS, FL.v_fV, FL.v_fP, FL.v_fL, FL.v_vS, FL.v_vO, FL.v_op, FL.v_un, FL.v_bOf, FL.v_test, FL.v_and, FL.v_or, FL.v_not, FL.v_tru, FL.v_trB, FL.v_andV, FL.v_orV, FL.v_notV, FL.v_if, FL.v_chain, FL.v_arN, FL.v_arC, FL.v_faN, FL.v_faC, FL.v_tup, FL.v_lst, FL.v_tdN, FL.v_tdC, FL.v_tdI, FL.v_tdL, FL.toDs_imms, FL.imms_imms, FL.v_cb, FL.v_vsN, FL.v_vsC, FL.v_bm, FL.v_tyS, FL.v_tyL, FL.v_sl, FL.v_moN, FL.v_moS, FL.v_iOf, FL.v_call, FL.v_osO, FL.v_osS, FL.v_isI, FL.v_isL, FL.v_isD, FL.v_gN, FL.v_gO, FL.v_gS, FL.v_for, FL.v_lc, FL.v_sub, FL.v_sub2, FL.v_iAt, FL.v_iC, FL.v_aug, FL.v_par, FL.v_mut, FL.v_rng1, FL.v_rng2, FL.v_seqI, FL.v_enum, FL.v_isi, FL.v_addI, FL.v_addS, FL.v_addT, FL.v_addL, FL.v_subI, FL.v_neg, FL.v_lt, FL.v_le, FL.v_gt, FL.v_ge, FL.v_eqI, FL.v_neI, FL.v_eqS, FL.v_neS, FL.v_ixT, FL.v_ixD, FL.v_ixL, FL.v_ixS, FL.v_len, FL.v_lnT, FL.v_lnD, FL.v_lnL, FL.v_lnS, FL.v_abs, FL.v_max, FL.v_min, FL.v_int, FL.v_intB, FL.v_tuple, FL.v_list, FL.v_sqT, FL.v_sqD, FL.v_sqL, FL.v_itT, FL.v_itL, FL.v_itS, FL.v_isN, FL.v_notN, FL.v_setL, FL.v_setD, FL.v_kS, FL.v_kI, FL.v_mp, FL.v_mpn, FL.v_pO, FL.v_tupG, FL.v_gsC, FL.v_gsN, FL.v_slD, FL.v_at0, FL.v_at1, FL.v_at2, FL.v_i30, FL.v_i31, FL.v_i32, FL.v_Mv, FL.v_mvV, FL.v_pr, FL.v_wpN, FL.v_wpC, FL.v_wsN, FL.v_wsV, FL.v_wsO, FL.v_bkN, FL.v_bkC, FL.v_bsN, FL.v_bsI, FL.v_sf, FL.callD, Option.bind_some, Option.bind_none, List.getElem?_cons_zero, List.getElem?_cons_succ, List.getElem?_nil, List.set_cons_zero, List.set_cons_succ, List.length_cons, List.length_nil, List.filterMap_cons, List.filterMap_nil, decide_eq_true_eq, if_true, if_false, true_and, and_true, Nat.reduceAdd, Nat.reduceLeDiff, Nat.reduceEqDiff, ↓reduceIte, Bool.false_eq_true, FL.startE, FL.backs, List.map_cons, List.map_nil, List.cons_append, List.nil_append, Nat.reduceSub, List.replicate_succ, List.replicate_zero, List.nodup_nil, List.nodup_cons, List.not_mem_nil, not_false_eq_true, and_self, reduceCtorEq, Option.map_some, Option.map_none, hp, hn, hb, p1, List.length_map, e2]
end WK

namespace WK
open PySem L2 FL
/-- numbers that a stock may hold -/
def goodB (k : Int) : Bool := decide (k = 0) || (decide (2 ≤ k) && decide (k ≤ 12))
def stkN : List (List Int) := [[2, 3], [2, 3, 0], [2, 2, 3, 4], [2, 2, 3, 5], [2, 3, 4, 6, 12, 0], [2, 3, 4, 5], [2, 7, 0], [2, 4, 8], [2, 9, 5], [2, 5, 10], [2, 2, 11], [2, 3, 4, 5, 6, 10, 12, 0], [2, 7, 8], [2, 2, 2, 3, 8], [2, 0], [2, 2, 2, 2, 3]]
def stkT (l : List Int) : Tr := .imm (.tuple (l.map PyData.int))
theorem stk_ok : ∀ l ∈ stkN, (decide (2 ≤ l.length) && decide (l.length ≤ 8) && l.all goodB) = true := by decide
theorem stk_at {r : Int} (h0 : 0 ≤ r) (h1 : r < 16) : ∃ l : List Int, atI (stkN.map stkT) r = some (stkT l) ∧ 2 ≤ l.length ∧ l.length ≤ 8 ∧ l ∈ stkN := by
  obtain ⟨x, e1, e2⟩ := atI_ofint (xs := stkN.map stkT) h0 h1
  rw [List.getElem?_map] at e2
  obtain ⟨l, e3, rfl⟩ := Option.map_eq_some_iff.mp e2
  have := stk_ok l (List.mem_of_getElem? e3)
  simp only [Bool.and_eq_true, decide_eq_true_eq, List.all_eq_true] at this
  exact ⟨l, e1, this.1.1, this.1.2, List.mem_of_getElem? e3⟩
/-- a square as the hand makes it -/
structure Sl (l : List Int) (n : Nat) (G : Nat → Nat → Int) : Prop where
  one : ∀ a, G a a = 1
  sym : ∀ a b, G a b = G b a
  mem : ∀ a b, a ≠ b → a < n → b < n → G a b ∈ l
structure Sq (n : Nat) (G : Nat → Nat → Int) : Prop where
  one : ∀ a, G a a = 1
  sym : ∀ a b, G a b = G b a
  stk : ∃ l ∈ stkN, ∀ a b, a ≠ b → a < n → b < n → G a b ∈ l
theorem stk_good : ∀ l ∈ stkN, l.all goodB = true := by decide
theorem Sq.good {n : Nat} {G : Nat → Nat → Int} (h : Sq n G) (a b : Nat) (hab : a ≠ b) (ha : a < n) (hb : b < n) : goodB (G a b) = true := by
  obtain ⟨l, hl, hm⟩ := h.stk
  exact List.all_eq_true.mp (stk_good l hl) _ (hm a b hab ha hb)
/-- the hand's state, within so many steps -/
def Hd (t : Tr) (N : Int) : Prop := ∃ a b c : Int, t = tS a b c ∧ 0 ≤ a ∧ 0 ≤ b ∧ b < 2 ^ 61 ∧ 0 ≤ c ∧ c ≤ N
theorem Hd.le {t : Tr} {N M : Int} (h : Hd t N) (k : N ≤ M) : Hd t M := by
  obtain ⟨a, b, c, e, h1, h2, h3, h4, h5⟩ := h
  exact ⟨a, b, c, e, h1, h2, h3, h4, by omega⟩
theorem Hd.lst {t : Tr} {N : Int} (h : Hd t N) : ∃ x y z, t = .lst [x, y, z] := by
  obtain ⟨a, b, c, e, _⟩ := h
  exact ⟨_, _, _, e⟩
theorem take_hd {t : Tr} {N : Int} (h : Hd t N) (hN : N < 2 ^ 60) (n : Int) (hn : 0 < n) (hn2 : n < 2 ^ 61) : ∃ r t', mFn 4 m__law_take [t, .imm (.int n)] = some (.imm (.int r), [t', .imm (.int n)]) ∧ 0 ≤ r ∧ r < n ∧ Hd t' (N + 1) := by
  obtain ⟨a, b, c, rfl, h1, h2, h3, h4, h5⟩ := h
  obtain ⟨r, a', c', e, k1, k2, k3, k4, k5⟩ := take_one a b c n h1 h2 h4 h3 (by omega) hn hn2
  exact ⟨r, _, e, k1, k2, a', b, c', rfl, k3, h2, h3, by omega, by omega⟩
theorem table_inner (n : Nat) (l : List Int) (hl1 : 2 ≤ l.length) (hl2 : l.length ≤ 8) (sk : Tr) (j : Nat) (hj : j < n) (hn : n ≤ 8) (N : Int) (hN : N < 2 ^ 40) (t : Tr) (ht : Hd t N) (G : Nat → Nat → Int) (hG : Sl l j G) (s6 : Option Tr) (g : Tr → En → Option En) (ms : MS)
    (hgq : g = mName 6) (hmq : ms = (mSeq (mAsg (mOp fIx (mVar 3) (mER (mCall 2 (mFn 4 m__law_take) (arCons (mVar 0) (arCons (mER (mCB fLen (arCons (mVar 3) arNil))) arNil))))) (mSub2 4 (iAt 6) (iAt 5)))
    (mAsg (mPr (iIx2 4 (iAt 6) (iAt 5))) (mSub2 4 (iAt 5) (iAt 6))))) :
    ∃ t' G' s6', forD g ms (rangeD 0 j) [.par t, .val (.imm (.int n)), .val sk, .val (stkT l), .val (rowsT n G), .val (.imm (.int j)), ov s6, .no] = some (.nx [.par t', .val (.imm (.int n)), .val sk, .val (stkT l), .val (rowsT n G'), .val (.imm (.int j)), ov s6', .no]) ∧ Hd t' (N + 10) ∧ Sl l (j + 1) G' := by
  obtain ⟨E', e, t', G', s6', rfl, h0, h1, h2, h3, h4⟩ := forD_inv (g := g) (ms := ms)
    (fun i E => ∃ t' G' s6', E = [.par t', .val (.imm (.int n)), .val sk, .val (stkT l), .val (rowsT n G'), .val (.imm (.int j)), ov s6', .no] ∧ Hd t' (N + i) ∧ (∀ a, G' a a = 1) ∧ (∀ a b, G' a b = G' b a) ∧ (∀ a b, a ≠ b → a < j → b < j → G' a b ∈ l) ∧ (∀ a, a < i → G' a j ∈ l)) (rangeD 0 j)
    (fun i d E hi ⟨t1, G1, s1, hE, h0, h1, h2, h3, h4⟩ => by
      obtain ⟨hij, rfl⟩ := rangeD_at hi
      rw [Int.zero_add]
      have hlen : ((l.map PyData.int).length : Int) = (l.length : Int) := by simp
      obtain ⟨r, t2, e1, r0, r1, ht2⟩ := take_hd h0 (by omega) (l.length : Int) (by omega) (by omega)
      obtain ⟨x, e2, e3⟩ := atI_ofint (xs := l.map PyData.int) r0 (by simpa using r1)
      rw [List.getElem?_map] at e3
      obtain ⟨k, e4, rfl⟩ := Option.map_eq_some_iff.mp e3
      have hk := List.mem_of_getElem? e4
      obtain ⟨x1, x2, x3, rfl⟩ := h0.lst
      have s1' := sub2_rows (G := G1) (k := k) (show i < n by omega) (show j < n by omega)
      have s2' := sub2_rows (G := updG G1 i j k) (k := k) (show j < n by omega) (show i < n by omega)
      have s3' := ix2_rows (i := 4) (fa := iAt 6) (fb := iAt 5) (E := [.par t2, .val (.imm (.int n)), .val sk, .val (stkT l), .val (rowsT n (updG G1 i j k)), .val (.imm (.int j)), .val (.imm (.int i)), .no]) (G := updG G1 i j k) (n := n) (a := i) (b := j) (by omega) (by omega) rfl rfl rfl
      have s4' : updG G1 i j k i j = k := if_pos ⟨rfl, rfl⟩
      rw [s4'] at s3'
      refine ⟨[.par (.lst [x1, x2, x3]), .val (.imm (.int n)), .val sk, .val (stkT l), .val (rowsT n G1), .val (.imm (.int j)), .val (.imm (.int i)), .no], [.par t2, .val (.imm (.int n)), .val sk, .val (stkT l), .val (rowsT n (updG (updG G1 i j k) j i k)), .val (.imm (.int j)), .val (.imm (.int i)), .no], ?_, .inl ?_, t2, updG (updG G1 i j k) j i k, some (.imm (.int i)), rfl, ht2.le (by omega), ?_, ?_, ?_, ?_⟩
      · rw [hE, hgq]; simp -implicitDefEqProofs only [FL.v_seq, FL.v_thN, FL.v_thR, FL.v_thB, FL.v_thC, FL.v_ifS, FL.v_asg, FL.v_ret, FL.v_retN, FL.v_drop, FL.v_nx, FL.v_bk, FL.v_ct, FL.v_name, FL.v_pN, FL.v_pV, FL.v_var, FL.v_at, FL.v_trV, FL.v_trP, FL.v_wV, FL.v_wP, FL.v_C, FL.v_ER, FL.v_Fz, FL.v_fO, FL.v_fS, FL.v_fV, FL.v_fP, FL.v_fL, FL.v_vS, FL.v_vO, FL.v_op, FL.v_un, FL.v_bOf, FL.v_test, FL.v_and, FL.v_or, FL.v_not, FL.v_tru, FL.v_trB, FL.v_andV, FL.v_orV, FL.v_notV, FL.v_if, FL.v_chain, FL.v_arN, FL.v_arC, FL.v_faN, FL.v_faC, FL.v_tup, FL.v_lst, FL.v_tdN, FL.v_tdC, FL.v_tdI, FL.v_tdL, FL.toDs_imms, FL.imms_imms, FL.v_cb, FL.v_vsN, FL.v_vsC, FL.v_bm, FL.v_tyS, FL.v_tyL, FL.v_sl, FL.v_moN, FL.v_moS, FL.v_iOf, FL.v_call, FL.v_osO, FL.v_osS, FL.v_isI, FL.v_isL, FL.v_isD, FL.v_gN, FL.v_gO, FL.v_gS, FL.v_for, FL.v_lc, FL.v_sub, FL.v_sub2, FL.v_iAt, FL.v_iC, FL.v_aug, FL.v_par, FL.v_mut, FL.v_rng1, FL.v_rng2, FL.v_seqI, FL.v_enum, FL.v_isi, FL.v_addI, FL.v_addS, FL.v_addT, FL.v_addL, FL.v_subI, FL.v_neg, FL.v_lt, FL.v_le, FL.v_gt, FL.v_ge, FL.v_eqI, FL.v_neI, FL.v_eqS, FL.v_neS, FL.v_ixT, FL.v_ixD, FL.v_ixL, FL.v_ixS, FL.v_len, FL.v_lnT, FL.v_lnD, FL.v_lnL, FL.v_lnS, FL.v_abs, FL.v_max, FL.v_min, FL.v_int, FL.v_intB, FL.v_tuple, FL.v_list, FL.v_sqT, FL.v_sqD, FL.v_sqL, FL.v_itT, FL.v_itL, FL.v_itS, FL.v_isN, FL.v_notN, FL.v_setL, FL.v_setD, FL.v_kS, FL.v_kI, FL.v_mp, FL.v_mpn, FL.v_pO, FL.v_tupG, FL.v_gsC, FL.v_gsN, FL.v_slD, FL.v_at0, FL.v_at1, FL.v_at2, FL.v_i30, FL.v_i31, FL.v_i32, FL.v_Mv, FL.v_mvV, FL.v_pr, FL.v_wpN, FL.v_wpC, FL.v_wsN, FL.v_wsV, FL.v_wsO, FL.v_bkN, FL.v_bkC, FL.v_bsN, FL.v_bsI, FL.v_sf, FL.callD, Option.bind_some, Option.bind_none, List.getElem?_cons_zero, List.getElem?_cons_succ, List.getElem?_nil, List.set_cons_zero, List.set_cons_succ, List.length_cons, List.length_nil, List.filterMap_cons, List.filterMap_nil, decide_eq_true_eq, if_true, if_false, true_and, and_true, Nat.reduceAdd, Nat.reduceLeDiff, Nat.reduceEqDiff, ↓reduceIte, Bool.false_eq_true, FL.startE, FL.backs, List.map_cons, List.map_nil, List.cons_append, List.nil_append, Nat.reduceSub, List.replicate_succ, List.replicate_zero, List.nodup_nil, List.nodup_cons, List.not_mem_nil, not_false_eq_true, and_self, reduceCtorEq, Option.map_some, Option.map_none]
      · rw [hmq]
        unfold stkT at *
        simp -implicitDefEqProofs only [FL.v_seq, FL.v_thN, FL.v_thR, FL.v_thB, FL.v_thC, FL.v_ifS, FL.v_asg, FL.v_ret, FL.v_retN, FL.v_drop, FL.v_nx, FL.v_bk, FL.v_ct, FL.v_name, FL.v_pN, FL.v_pV, FL.v_var, FL.v_at, FL.v_trV, FL.v_trP, FL.v_wV, FL.v_wP, FL.v_C, FL.v_ER, FL.v_Fz, FL.v_fO, FL.v_fS, FL.v_fV, FL.v_fP, FL.v_fL, FL.v_vS, FL.v_vO, FL.v_op, FL.v_un, FL.v_bOf, FL.v_test, FL.v_and, FL.v_or, FL.v_not, FL.v_tru, FL.v_trB, FL.v_andV, FL.v_orV, FL.v_notV, FL.v_if, FL.v_chain, FL.v_arN, FL.v_arC, FL.v_faN, FL.v_faC, FL.v_tup, FL.v_lst, FL.v_tdN, FL.v_tdC, FL.v_tdI, FL.v_tdL, FL.toDs_imms, FL.imms_imms, FL.v_cb, FL.v_vsN, FL.v_vsC, FL.v_bm, FL.v_tyS, FL.v_tyL, FL.v_sl, FL.v_moN, FL.v_moS, FL.v_iOf, FL.v_call, FL.v_osO, FL.v_osS, FL.v_isI, FL.v_isL, FL.v_isD, FL.v_gN, FL.v_gO, FL.v_gS, FL.v_for, FL.v_lc, FL.v_sub, FL.v_sub2, FL.v_iAt, FL.v_iC, FL.v_aug, FL.v_par, FL.v_mut, FL.v_rng1, FL.v_rng2, FL.v_seqI, FL.v_enum, FL.v_isi, FL.v_addI, FL.v_addS, FL.v_addT, FL.v_addL, FL.v_subI, FL.v_neg, FL.v_lt, FL.v_le, FL.v_gt, FL.v_ge, FL.v_eqI, FL.v_neI, FL.v_eqS, FL.v_neS, FL.v_ixT, FL.v_ixD, FL.v_ixL, FL.v_ixS, FL.v_len, FL.v_lnT, FL.v_lnD, FL.v_lnL, FL.v_lnS, FL.v_abs, FL.v_max, FL.v_min, FL.v_int, FL.v_intB, FL.v_tuple, FL.v_list, FL.v_sqT, FL.v_sqD, FL.v_sqL, FL.v_itT, FL.v_itL, FL.v_itS, FL.v_isN, FL.v_notN, FL.v_setL, FL.v_setD, FL.v_kS, FL.v_kI, FL.v_mp, FL.v_mpn, FL.v_pO, FL.v_tupG, FL.v_gsC, FL.v_gsN, FL.v_slD, FL.v_at0, FL.v_at1, FL.v_at2, FL.v_i30, FL.v_i31, FL.v_i32, FL.v_Mv, FL.v_mvV, FL.v_pr, FL.v_wpN, FL.v_wpC, FL.v_wsN, FL.v_wsV, FL.v_wsO, FL.v_bkN, FL.v_bkC, FL.v_bsN, FL.v_bsI, FL.v_sf, FL.callD, Option.bind_some, Option.bind_none, List.getElem?_cons_zero, List.getElem?_cons_succ, List.getElem?_nil, List.set_cons_zero, List.set_cons_succ, List.length_cons, List.length_nil, List.filterMap_cons, List.filterMap_nil, decide_eq_true_eq, if_true, if_false, true_and, and_true, Nat.reduceAdd, Nat.reduceLeDiff, Nat.reduceEqDiff, ↓reduceIte, Bool.false_eq_true, FL.startE, FL.backs, List.map_cons, List.map_nil, List.cons_append, List.nil_append, Nat.reduceSub, List.replicate_succ, List.replicate_zero, List.nodup_nil, List.nodup_cons, List.not_mem_nil, not_false_eq_true, and_self, reduceCtorEq, Option.map_some, Option.map_none, List.length_map, e1, e2, s1', s2', s3']
      · intro a
        unfold updG
        have := h1 a
        repeat' split <;> try omega
      · intro a b
        unfold updG
        have := h2 a b
        repeat' split <;> try omega
      · intro a b hab ha hb
        unfold updG
        rw [if_neg (by omega), if_neg (by omega)]
        exact h3 a b hab ha hb
      · intro a ha
        unfold updG
        by_cases e : a = i
        · subst e
          rw [if_neg (by omega), if_pos ⟨rfl, rfl⟩]
          exact hk
        · rw [if_neg (by omega), if_neg (by omega)]
          exact h4 a (by omega))
    [.par t, .val (.imm (.int n)), .val sk, .val (stkT l), .val (rowsT n G), .val (.imm (.int j)), ov s6, .no] ⟨t, G, s6, rfl, ht.le (by omega), hG.one, hG.sym, hG.mem, fun a h => absurd h (Nat.not_lt_zero _)⟩
  rw [rangeD_len] at h0 h4
  refine ⟨t', G', s6', e, h0.le (by omega), ⟨h1, h2, fun a b hab ha hb => ?_⟩⟩
  by_cases ea : a = j
  · subst ea
    rw [h2]
    exact h4 b (by omega)
  · by_cases eb : b = j
    · subst eb
      exact h4 a (by omega)
    · exact h3 a b hab (by omega) (by omega)
end WK

namespace WK
open PySem L2 FL
theorem table_outer (n : Nat) (l : List Int) (hl1 : 2 ≤ l.length) (hl2 : l.length ≤ 8) (sk : Tr) (hn : n ≤ 8) (N : Int) (hN : N < 2 ^ 39) (t : Tr) (ht : Hd t N) (g : Tr → En → Option En) (mi : MI) (ms : MS)
    (hgq : g = mName 6) (hmi : mi = mRng1 (arCons (mVar 5) arNil)) (hmq : ms = (mSeq (mAsg (mOp fIx (mVar 3) (mER (mCall 2 (mFn 4 m__law_take) (arCons (mVar 0) (arCons (mER (mCB fLen (arCons (mVar 3) arNil))) arNil))))) (mSub2 4 (iAt 6) (iAt 5)))
    (mAsg (mPr (iIx2 4 (iAt 6) (iAt 5))) (mSub2 4 (iAt 5) (iAt 6))))) :
    ∃ t' G' s5' s6', forD (mName 5) (mFor mi g ms) (rangeD 0 n) [.par t, .val (.imm (.int n)), .val sk, .val (stkT l), .val (rowsT n fun _ _ => 1), .no, .no, .no] = some (.nx [.par t', .val (.imm (.int n)), .val sk, .val (stkT l), .val (rowsT n G'), ov s5', ov s6', .no]) ∧ Hd t' (N + 80) ∧ Sl l n G' := by
  obtain ⟨E', e, t', G', s5', s6', rfl, h0, h1⟩ := forD_inv (g := mName 5) (ms := mFor mi g ms)
    (fun j E => ∃ t' G' s5' s6', E = [.par t', .val (.imm (.int n)), .val sk, .val (stkT l), .val (rowsT n G'), ov s5', ov s6', .no] ∧ Hd t' (N + 10 * j) ∧ Sl l j G') (rangeD 0 n)
    (fun j d E hi ⟨t1, G1, s5, s6, hE, h0, h1⟩ => by
      obtain ⟨hij, rfl⟩ := rangeD_at hi
      rw [Int.zero_add]
      obtain ⟨t2, G2, s6', e1, ht2, h2⟩ := table_inner n l hl1 hl2 sk j hij hn (N + 10 * j) (by omega) t1 h0 G1 h1 s6 g ms hgq hmq
      have hr := fun E => v_rgN (n := j) (by omega) (E := E)
      refine ⟨[.par t1, .val (.imm (.int n)), .val sk, .val (stkT l), .val (rowsT n G1), .val (.imm (.int j)), ov s6, .no], [.par t2, .val (.imm (.int n)), .val sk, .val (stkT l), .val (rowsT n G2), .val (.imm (.int j)), ov s6', .no], ?_, .inl ?_, t2, G2, some (.imm (.int j)), s6', rfl, ht2.le (by omega), h2⟩
      · rw [hE]; simp -implicitDefEqProofs only [FL.v_seq, FL.v_thN, FL.v_thR, FL.v_thB, FL.v_thC, FL.v_ifS, FL.v_asg, FL.v_ret, FL.v_retN, FL.v_drop, FL.v_nx, FL.v_bk, FL.v_ct, FL.v_name, FL.v_pN, FL.v_pV, FL.v_var, FL.v_at, FL.v_trV, FL.v_trP, FL.v_wV, FL.v_wP, FL.v_C, FL.v_ER, FL.v_Fz, FL.v_fO, FL.v_fS, FL.v_fV, FL.v_fP, FL.v_fL, FL.v_vS, FL.v_vO, FL.v_op, FL.v_un, FL.v_bOf, FL.v_test, FL.v_and, FL.v_or, FL.v_not, FL.v_tru, FL.v_trB, FL.v_andV, FL.v_orV, FL.v_notV, FL.v_if, FL.v_chain, FL.v_arN, FL.v_arC, FL.v_faN, FL.v_faC, FL.v_tup, FL.v_lst, FL.v_tdN, FL.v_tdC, FL.v_tdI, FL.v_tdL, FL.toDs_imms, FL.imms_imms, FL.v_cb, FL.v_vsN, FL.v_vsC, FL.v_bm, FL.v_tyS, FL.v_tyL, FL.v_sl, FL.v_moN, FL.v_moS, FL.v_iOf, FL.v_call, FL.v_osO, FL.v_osS, FL.v_isI, FL.v_isL, FL.v_isD, FL.v_gN, FL.v_gO, FL.v_gS, FL.v_for, FL.v_lc, FL.v_sub, FL.v_sub2, FL.v_iAt, FL.v_iC, FL.v_aug, FL.v_par, FL.v_mut, FL.v_rng1, FL.v_rng2, FL.v_seqI, FL.v_enum, FL.v_isi, FL.v_addI, FL.v_addS, FL.v_addT, FL.v_addL, FL.v_subI, FL.v_neg, FL.v_lt, FL.v_le, FL.v_gt, FL.v_ge, FL.v_eqI, FL.v_neI, FL.v_eqS, FL.v_neS, FL.v_ixT, FL.v_ixD, FL.v_ixL, FL.v_ixS, FL.v_len, FL.v_lnT, FL.v_lnD, FL.v_lnL, FL.v_lnS, FL.v_abs, FL.v_max, FL.v_min, FL.v_int, FL.v_intB, FL.v_tuple, FL.v_list, FL.v_sqT, FL.v_sqD, FL.v_sqL, FL.v_itT, FL.v_itL, FL.v_itS, FL.v_isN, FL.v_notN, FL.v_setL, FL.v_setD, FL.v_kS, FL.v_kI, FL.v_mp, FL.v_mpn, FL.v_pO, FL.v_tupG, FL.v_gsC, FL.v_gsN, FL.v_slD, FL.v_at0, FL.v_at1, FL.v_at2, FL.v_i30, FL.v_i31, FL.v_i32, FL.v_Mv, FL.v_mvV, FL.v_pr, FL.v_wpN, FL.v_wpC, FL.v_wsN, FL.v_wsV, FL.v_wsO, FL.v_bkN, FL.v_bkC, FL.v_bsN, FL.v_bsI, FL.v_sf, FL.callD, Option.bind_some, Option.bind_none, List.getElem?_cons_zero, List.getElem?_cons_succ, List.getElem?_nil, List.set_cons_zero, List.set_cons_succ, List.length_cons, List.length_nil, List.filterMap_cons, List.filterMap_nil, decide_eq_true_eq, if_true, if_false, true_and, and_true, Nat.reduceAdd, Nat.reduceLeDiff, Nat.reduceEqDiff, ↓reduceIte, Bool.false_eq_true, FL.startE, FL.backs, List.map_cons, List.map_nil, List.cons_append, List.nil_append, Nat.reduceSub, List.replicate_succ, List.replicate_zero, List.nodup_nil, List.nodup_cons, List.not_mem_nil, not_false_eq_true, and_self, reduceCtorEq, Option.map_some, Option.map_none]
      · rw [hmi]
        simp -implicitDefEqProofs only [FL.v_seq, FL.v_thN, FL.v_thR, FL.v_thB, FL.v_thC, FL.v_ifS, FL.v_asg, FL.v_ret, FL.v_retN, FL.v_drop, FL.v_nx, FL.v_bk, FL.v_ct, FL.v_name, FL.v_pN, FL.v_pV, FL.v_var, FL.v_at, FL.v_trV, FL.v_trP, FL.v_wV, FL.v_wP, FL.v_C, FL.v_ER, FL.v_Fz, FL.v_fO, FL.v_fS, FL.v_fV, FL.v_fP, FL.v_fL, FL.v_vS, FL.v_vO, FL.v_op, FL.v_un, FL.v_bOf, FL.v_test, FL.v_and, FL.v_or, FL.v_not, FL.v_tru, FL.v_trB, FL.v_andV, FL.v_orV, FL.v_notV, FL.v_if, FL.v_chain, FL.v_arN, FL.v_arC, FL.v_faN, FL.v_faC, FL.v_tup, FL.v_lst, FL.v_tdN, FL.v_tdC, FL.v_tdI, FL.v_tdL, FL.toDs_imms, FL.imms_imms, FL.v_cb, FL.v_vsN, FL.v_vsC, FL.v_bm, FL.v_tyS, FL.v_tyL, FL.v_sl, FL.v_moN, FL.v_moS, FL.v_iOf, FL.v_call, FL.v_osO, FL.v_osS, FL.v_isI, FL.v_isL, FL.v_isD, FL.v_gN, FL.v_gO, FL.v_gS, FL.v_for, FL.v_lc, FL.v_sub, FL.v_sub2, FL.v_iAt, FL.v_iC, FL.v_aug, FL.v_par, FL.v_mut, FL.v_rng1, FL.v_rng2, FL.v_seqI, FL.v_enum, FL.v_isi, FL.v_addI, FL.v_addS, FL.v_addT, FL.v_addL, FL.v_subI, FL.v_neg, FL.v_lt, FL.v_le, FL.v_gt, FL.v_ge, FL.v_eqI, FL.v_neI, FL.v_eqS, FL.v_neS, FL.v_ixT, FL.v_ixD, FL.v_ixL, FL.v_ixS, FL.v_len, FL.v_lnT, FL.v_lnD, FL.v_lnL, FL.v_lnS, FL.v_abs, FL.v_max, FL.v_min, FL.v_int, FL.v_intB, FL.v_tuple, FL.v_list, FL.v_sqT, FL.v_sqD, FL.v_sqL, FL.v_itT, FL.v_itL, FL.v_itS, FL.v_isN, FL.v_notN, FL.v_setL, FL.v_setD, FL.v_kS, FL.v_kI, FL.v_mp, FL.v_mpn, FL.v_pO, FL.v_tupG, FL.v_gsC, FL.v_gsN, FL.v_slD, FL.v_at0, FL.v_at1, FL.v_at2, FL.v_i30, FL.v_i31, FL.v_i32, FL.v_Mv, FL.v_mvV, FL.v_pr, FL.v_wpN, FL.v_wpC, FL.v_wsN, FL.v_wsV, FL.v_wsO, FL.v_bkN, FL.v_bkC, FL.v_bsN, FL.v_bsI, FL.v_sf, FL.callD, Option.bind_some, Option.bind_none, List.getElem?_cons_zero, List.getElem?_cons_succ, List.getElem?_nil, List.set_cons_zero, List.set_cons_succ, List.length_cons, List.length_nil, List.filterMap_cons, List.filterMap_nil, decide_eq_true_eq, if_true, if_false, true_and, and_true, Nat.reduceAdd, Nat.reduceLeDiff, Nat.reduceEqDiff, ↓reduceIte, Bool.false_eq_true, FL.startE, FL.backs, List.map_cons, List.map_nil, List.cons_append, List.nil_append, Nat.reduceSub, List.replicate_succ, List.replicate_zero, List.nodup_nil, List.nodup_cons, List.not_mem_nil, not_false_eq_true, and_self, reduceCtorEq, Option.map_some, Option.map_none, hr, Int.toNat_natCast, e1])
    [.par t, .val (.imm (.int n)), .val sk, .val (stkT l), .val (rowsT n fun _ _ => 1), .no, .no, .no] ⟨t, _, none, none, rfl, ht.le (by omega), ⟨fun _ => rfl, fun _ _ => rfl, fun a b _ ha => absurd ha (Nat.not_lt_zero _)⟩⟩
  rw [rangeD_len] at h0 h1
  exact ⟨t', G', s5', s6', e, h0.le (by omega), h1⟩
theorem rows_start (n : Nat) : (rangeD 0 n).map (fun _ => Tr.lst ((List.replicate n (PyData.int 1)).map Tr.imm)) = (List.range n).map fun i => Tr.lst ((List.range n).map fun j => Tr.imm (.int 1)) := by
  unfold rangeD
  rw [List.map_map]
  refine List.map_congr_left fun i _ => ?_
  show Tr.lst _ = Tr.lst _
  congr 1
  rw [List.map_replicate, List.map_const', List.length_range]
def tupOf : PyData → Tr
  | .list ds => .imm (.tuple ds)
  | _ => .imm .none
theorem rows_toDs' (G : Nat → Nat → Int) (n : Nat) : ∀ is : List Nat, Tr.toDs (is.map fun i => Tr.lst ((List.range n).map fun j => Tr.imm (.int (G i j)))) = some (is.map fun i => PyData.list ((List.range n).map fun j => PyData.int (G i j)))
  | [] => v_tdN
  | i :: is => by
    have h : (List.range n).map (fun j => Tr.imm (.int (G i j))) = ((List.range n).map fun j => PyData.int (G i j)).map Tr.imm := by rw [List.map_map]; rfl
    rw [List.map_cons, v_tdC, v_tdL, h, toDs_imms, rows_toDs' G n is]; rfl
theorem rows_toDs (_ : Nat) (n : Nat) (G : Nat → Nat → Int) : Tr.toDs ((List.range n).map fun i => Tr.lst ((List.range n).map fun j => Tr.imm (.int (G i j)))) = some ((List.range n).map fun i => PyData.list ((List.range n).map fun j => PyData.int (G i j))) := rows_toDs' G n _
theorem table_one (n : Nat) (hn : n ≤ 8) (t : Tr) (N : Int) (hN : N < 2 ^ 38) (ht : Hd t N) :
    ∃ t' G, mFn 8 m__law_table [t, .imm (.int n)] = some (.imm (tabD n G), [t', .imm (.int n)]) ∧ Hd t' (N + 81) ∧ Sq n G := by
  obtain ⟨r, t1, e1, r0, r1, ht1⟩ := take_hd ht (by omega) 16 (by decide) (by decide)
  obtain ⟨l, e2, hl1, hl2, hg⟩ := stk_at r0 r1
  obtain ⟨t2, G, s5, s6, e3, ht2, hG⟩ := table_outer n l hl1 hl2 (.lst [.imm (.tuple [.int 2, .int 3]), .imm (.tuple [.int 2, .int 3, .int 0]), .imm (.tuple [.int 2, .int 2, .int 3, .int 4]), .imm (.tuple [.int 2, .int 2, .int 3, .int 5]), .imm (.tuple [.int 2, .int 3, .int 4, .int 6, .int 12, .int 0]), .imm (.tuple [.int 2, .int 3, .int 4, .int 5]), .imm (.tuple [.int 2, .int 7, .int 0]), .imm (.tuple [.int 2, .int 4, .int 8]), .imm (.tuple [.int 2, .int 9, .int 5]), .imm (.tuple [.int 2, .int 5, .int 10]), .imm (.tuple [.int 2, .int 2, .int 11]), .imm (.tuple [.int 2, .int 3, .int 4, .int 5, .int 6, .int 10, .int 12, .int 0]), .imm (.tuple [.int 2, .int 7, .int 8]), .imm (.tuple [.int 2, .int 2, .int 2, .int 3, .int 8])]) hn (N + 1) (by omega) t1 ht1 _ _ _ rfl rfl rfl
  have hr := fun E => v_rgN (n := n) (by omega) (E := E)
  have hm := v_mul1 (d := .int 1) (k := (n : Int)) (by omega) (by omega)
  rw [Int.toNat_natCast] at hm
  have e4 := lcD_map (g := mName 6) (m := mOp fMul (mER (mLst (faCons (mC (.int 1)) faNil))) (mVar 1)) (vs := [6]) (E := [.par t1, .val (.imm (.int n)), .val (.lst [.imm (.tuple [.int 2, .int 3]), .imm (.tuple [.int 2, .int 3, .int 0]), .imm (.tuple [.int 2, .int 2, .int 3, .int 4]), .imm (.tuple [.int 2, .int 2, .int 3, .int 5]), .imm (.tuple [.int 2, .int 3, .int 4, .int 6, .int 12, .int 0]), .imm (.tuple [.int 2, .int 3, .int 4, .int 5]), .imm (.tuple [.int 2, .int 7, .int 0]), .imm (.tuple [.int 2, .int 4, .int 8]), .imm (.tuple [.int 2, .int 9, .int 5]), .imm (.tuple [.int 2, .int 5, .int 10]), .imm (.tuple [.int 2, .int 2, .int 11]), .imm (.tuple [.int 2, .int 3, .int 4, .int 5, .int 6, .int 10, .int 12, .int 0]), .imm (.tuple [.int 2, .int 7, .int 8]), .imm (.tuple [.int 2, .int 2, .int 2, .int 3, .int 8])]), .val (stkT l), .no, .no, .no, .no]) (fun _ => Tr.lst ((List.replicate n (PyData.int 1)).map Tr.imm)) (rangeD 0 n) (fun d _ => ⟨[.par t1, .val (.imm (.int n)), .val (.lst [.imm (.tuple [.int 2, .int 3]), .imm (.tuple [.int 2, .int 3, .int 0]), .imm (.tuple [.int 2, .int 2, .int 3, .int 4]), .imm (.tuple [.int 2, .int 2, .int 3, .int 5]), .imm (.tuple [.int 2, .int 3, .int 4, .int 6, .int 12, .int 0]), .imm (.tuple [.int 2, .int 3, .int 4, .int 5]), .imm (.tuple [.int 2, .int 7, .int 0]), .imm (.tuple [.int 2, .int 4, .int 8]), .imm (.tuple [.int 2, .int 9, .int 5]), .imm (.tuple [.int 2, .int 5, .int 10]), .imm (.tuple [.int 2, .int 2, .int 11]), .imm (.tuple [.int 2, .int 3, .int 4, .int 5, .int 6, .int 10, .int 12, .int 0]), .imm (.tuple [.int 2, .int 7, .int 8]), .imm (.tuple [.int 2, .int 2, .int 2, .int 3, .int 8])]), .val (stkT l), .no, .no, .val (.imm d), .no], [.par t1, .val (.imm (.int n)), .val (.lst [.imm (.tuple [.int 2, .int 3]), .imm (.tuple [.int 2, .int 3, .int 0]), .imm (.tuple [.int 2, .int 2, .int 3, .int 4]), .imm (.tuple [.int 2, .int 2, .int 3, .int 5]), .imm (.tuple [.int 2, .int 3, .int 4, .int 6, .int 12, .int 0]), .imm (.tuple [.int 2, .int 3, .int 4, .int 5]), .imm (.tuple [.int 2, .int 7, .int 0]), .imm (.tuple [.int 2, .int 4, .int 8]), .imm (.tuple [.int 2, .int 9, .int 5]), .imm (.tuple [.int 2, .int 5, .int 10]), .imm (.tuple [.int 2, .int 2, .int 11]), .imm (.tuple [.int 2, .int 3, .int 4, .int 5, .int 6, .int 10, .int 12, .int 0]), .imm (.tuple [.int 2, .int 7, .int 8]), .imm (.tuple [.int 2, .int 2, .int 2, .int 3, .int 8])]), .val (stkT l), .no, .no, .val (.imm d), .no], by simp -implicitDefEqProofs only [FL.v_seq, FL.v_thN, FL.v_thR, FL.v_thB, FL.v_thC, FL.v_ifS, FL.v_asg, FL.v_ret, FL.v_retN, FL.v_drop, FL.v_nx, FL.v_bk, FL.v_ct, FL.v_name, FL.v_pN, FL.v_pV, FL.v_var, FL.v_at, FL.v_trV, FL.v_trP, FL.v_wV, FL.v_wP, FL.v_C, FL.v_ER, FL.v_Fz, FL.v_fO, FL.v_fS, FL.v_fV, FL.v_fP, FL.v_fL, FL.v_vS, FL.v_vO, FL.v_op, FL.v_un, FL.v_bOf, FL.v_test, FL.v_and, FL.v_or, FL.v_not, FL.v_tru, FL.v_trB, FL.v_andV, FL.v_orV, FL.v_notV, FL.v_if, FL.v_chain, FL.v_arN, FL.v_arC, FL.v_faN, FL.v_faC, FL.v_tup, FL.v_lst, FL.v_tdN, FL.v_tdC, FL.v_tdI, FL.v_tdL, FL.toDs_imms, FL.imms_imms, FL.v_cb, FL.v_vsN, FL.v_vsC, FL.v_bm, FL.v_tyS, FL.v_tyL, FL.v_sl, FL.v_moN, FL.v_moS, FL.v_iOf, FL.v_call, FL.v_osO, FL.v_osS, FL.v_isI, FL.v_isL, FL.v_isD, FL.v_gN, FL.v_gO, FL.v_gS, FL.v_for, FL.v_lc, FL.v_sub, FL.v_sub2, FL.v_iAt, FL.v_iC, FL.v_aug, FL.v_par, FL.v_mut, FL.v_rng1, FL.v_rng2, FL.v_seqI, FL.v_enum, FL.v_isi, FL.v_addI, FL.v_addS, FL.v_addT, FL.v_addL, FL.v_subI, FL.v_neg, FL.v_lt, FL.v_le, FL.v_gt, FL.v_ge, FL.v_eqI, FL.v_neI, FL.v_eqS, FL.v_neS, FL.v_ixT, FL.v_ixD, FL.v_ixL, FL.v_ixS, FL.v_len, FL.v_lnT, FL.v_lnD, FL.v_lnL, FL.v_lnS, FL.v_abs, FL.v_max, FL.v_min, FL.v_int, FL.v_intB, FL.v_tuple, FL.v_list, FL.v_sqT, FL.v_sqD, FL.v_sqL, FL.v_itT, FL.v_itL, FL.v_itS, FL.v_isN, FL.v_notN, FL.v_setL, FL.v_setD, FL.v_kS, FL.v_kI, FL.v_mp, FL.v_mpn, FL.v_pO, FL.v_tupG, FL.v_gsC, FL.v_gsN, FL.v_slD, FL.v_at0, FL.v_at1, FL.v_at2, FL.v_i30, FL.v_i31, FL.v_i32, FL.v_Mv, FL.v_mvV, FL.v_pr, FL.v_wpN, FL.v_wpC, FL.v_wsN, FL.v_wsV, FL.v_wsO, FL.v_bkN, FL.v_bkC, FL.v_bsN, FL.v_bsI, FL.v_sf, FL.callD, Option.bind_some, Option.bind_none, List.getElem?_cons_zero, List.getElem?_cons_succ, List.getElem?_nil, List.set_cons_zero, List.set_cons_succ, List.length_cons, List.length_nil, List.filterMap_cons, List.filterMap_nil, decide_eq_true_eq, if_true, if_false, true_and, and_true, Nat.reduceAdd, Nat.reduceLeDiff, Nat.reduceEqDiff, ↓reduceIte, Bool.false_eq_true, FL.startE, FL.backs, List.map_cons, List.map_nil, List.cons_append, List.nil_append, Nat.reduceSub, List.replicate_succ, List.replicate_zero, List.nodup_nil, List.nodup_cons, List.not_mem_nil, not_false_eq_true, and_self, reduceCtorEq, Option.map_some, Option.map_none], by simp -implicitDefEqProofs only [FL.v_seq, FL.v_thN, FL.v_thR, FL.v_thB, FL.v_thC, FL.v_ifS, FL.v_asg, FL.v_ret, FL.v_retN, FL.v_drop, FL.v_nx, FL.v_bk, FL.v_ct, FL.v_name, FL.v_pN, FL.v_pV, FL.v_var, FL.v_at, FL.v_trV, FL.v_trP, FL.v_wV, FL.v_wP, FL.v_C, FL.v_ER, FL.v_Fz, FL.v_fO, FL.v_fS, FL.v_fV, FL.v_fP, FL.v_fL, FL.v_vS, FL.v_vO, FL.v_op, FL.v_un, FL.v_bOf, FL.v_test, FL.v_and, FL.v_or, FL.v_not, FL.v_tru, FL.v_trB, FL.v_andV, FL.v_orV, FL.v_notV, FL.v_if, FL.v_chain, FL.v_arN, FL.v_arC, FL.v_faN, FL.v_faC, FL.v_tup, FL.v_lst, FL.v_tdN, FL.v_tdC, FL.v_tdI, FL.v_tdL, FL.toDs_imms, FL.imms_imms, FL.v_cb, FL.v_vsN, FL.v_vsC, FL.v_bm, FL.v_tyS, FL.v_tyL, FL.v_sl, FL.v_moN, FL.v_moS, FL.v_iOf, FL.v_call, FL.v_osO, FL.v_osS, FL.v_isI, FL.v_isL, FL.v_isD, FL.v_gN, FL.v_gO, FL.v_gS, FL.v_for, FL.v_lc, FL.v_sub, FL.v_sub2, FL.v_iAt, FL.v_iC, FL.v_aug, FL.v_par, FL.v_mut, FL.v_rng1, FL.v_rng2, FL.v_seqI, FL.v_enum, FL.v_isi, FL.v_addI, FL.v_addS, FL.v_addT, FL.v_addL, FL.v_subI, FL.v_neg, FL.v_lt, FL.v_le, FL.v_gt, FL.v_ge, FL.v_eqI, FL.v_neI, FL.v_eqS, FL.v_neS, FL.v_ixT, FL.v_ixD, FL.v_ixL, FL.v_ixS, FL.v_len, FL.v_lnT, FL.v_lnD, FL.v_lnL, FL.v_lnS, FL.v_abs, FL.v_max, FL.v_min, FL.v_int, FL.v_intB, FL.v_tuple, FL.v_list, FL.v_sqT, FL.v_sqD, FL.v_sqL, FL.v_itT, FL.v_itL, FL.v_itS, FL.v_isN, FL.v_notN, FL.v_setL, FL.v_setD, FL.v_kS, FL.v_kI, FL.v_mp, FL.v_mpn, FL.v_pO, FL.v_tupG, FL.v_gsC, FL.v_gsN, FL.v_slD, FL.v_at0, FL.v_at1, FL.v_at2, FL.v_i30, FL.v_i31, FL.v_i32, FL.v_Mv, FL.v_mvV, FL.v_pr, FL.v_wpN, FL.v_wpC, FL.v_wsN, FL.v_wsV, FL.v_wsO, FL.v_bkN, FL.v_bkC, FL.v_bsN, FL.v_bsI, FL.v_sf, FL.callD, Option.bind_some, Option.bind_none, List.getElem?_cons_zero, List.getElem?_cons_succ, List.getElem?_nil, List.set_cons_zero, List.set_cons_succ, List.length_cons, List.length_nil, List.filterMap_cons, List.filterMap_nil, decide_eq_true_eq, if_true, if_false, true_and, and_true, Nat.reduceAdd, Nat.reduceLeDiff, Nat.reduceEqDiff, ↓reduceIte, Bool.false_eq_true, FL.startE, FL.backs, List.map_cons, List.map_nil, List.cons_append, List.nil_append, Nat.reduceSub, List.replicate_succ, List.replicate_zero, List.nodup_nil, List.nodup_cons, List.not_mem_nil, not_false_eq_true, and_self, reduceCtorEq, Option.map_some, Option.map_none, hm, show (1 ≤ 16777216) = True from eq_true (by decide)], rfl⟩) [] (by rw [rangeD_len]; simp; omega)
  rw [rows_start, List.nil_append] at e4
  have e5 := lcD_map (g := mName 7) (m := mCB fTuple (arCons (mVar 7) arNil)) (vs := [7]) (E := [.par t2, .val (.imm (.int n)), .val (.lst [.imm (.tuple [.int 2, .int 3]), .imm (.tuple [.int 2, .int 3, .int 0]), .imm (.tuple [.int 2, .int 2, .int 3, .int 4]), .imm (.tuple [.int 2, .int 2, .int 3, .int 5]), .imm (.tuple [.int 2, .int 3, .int 4, .int 6, .int 12, .int 0]), .imm (.tuple [.int 2, .int 3, .int 4, .int 5]), .imm (.tuple [.int 2, .int 7, .int 0]), .imm (.tuple [.int 2, .int 4, .int 8]), .imm (.tuple [.int 2, .int 9, .int 5]), .imm (.tuple [.int 2, .int 5, .int 10]), .imm (.tuple [.int 2, .int 2, .int 11]), .imm (.tuple [.int 2, .int 3, .int 4, .int 5, .int 6, .int 10, .int 12, .int 0]), .imm (.tuple [.int 2, .int 7, .int 8]), .imm (.tuple [.int 2, .int 2, .int 2, .int 3, .int 8])]), .val (stkT l), .val (.imm (.list ((List.range n).map fun i => PyData.list ((List.range n).map fun j => PyData.int (G i j))))), ov s5, ov s6, .no]) tupOf ((List.range n).map fun i => PyData.list ((List.range n).map fun j => PyData.int (G i j))) (fun d hd => by
      obtain ⟨i, -, rfl⟩ := List.mem_map.mp hd
      exact ⟨_, _, by simp -implicitDefEqProofs only [FL.v_seq, FL.v_thN, FL.v_thR, FL.v_thB, FL.v_thC, FL.v_ifS, FL.v_asg, FL.v_ret, FL.v_retN, FL.v_drop, FL.v_nx, FL.v_bk, FL.v_ct, FL.v_name, FL.v_pN, FL.v_pV, FL.v_var, FL.v_at, FL.v_trV, FL.v_trP, FL.v_wV, FL.v_wP, FL.v_C, FL.v_ER, FL.v_Fz, FL.v_fO, FL.v_fS, FL.v_fV, FL.v_fP, FL.v_fL, FL.v_vS, FL.v_vO, FL.v_op, FL.v_un, FL.v_bOf, FL.v_test, FL.v_and, FL.v_or, FL.v_not, FL.v_tru, FL.v_trB, FL.v_andV, FL.v_orV, FL.v_notV, FL.v_if, FL.v_chain, FL.v_arN, FL.v_arC, FL.v_faN, FL.v_faC, FL.v_tup, FL.v_lst, FL.v_tdN, FL.v_tdC, FL.v_tdI, FL.v_tdL, FL.toDs_imms, FL.imms_imms, FL.v_cb, FL.v_vsN, FL.v_vsC, FL.v_bm, FL.v_tyS, FL.v_tyL, FL.v_sl, FL.v_moN, FL.v_moS, FL.v_iOf, FL.v_call, FL.v_osO, FL.v_osS, FL.v_isI, FL.v_isL, FL.v_isD, FL.v_gN, FL.v_gO, FL.v_gS, FL.v_for, FL.v_lc, FL.v_sub, FL.v_sub2, FL.v_iAt, FL.v_iC, FL.v_aug, FL.v_par, FL.v_mut, FL.v_rng1, FL.v_rng2, FL.v_seqI, FL.v_enum, FL.v_isi, FL.v_addI, FL.v_addS, FL.v_addT, FL.v_addL, FL.v_subI, FL.v_neg, FL.v_lt, FL.v_le, FL.v_gt, FL.v_ge, FL.v_eqI, FL.v_neI, FL.v_eqS, FL.v_neS, FL.v_ixT, FL.v_ixD, FL.v_ixL, FL.v_ixS, FL.v_len, FL.v_lnT, FL.v_lnD, FL.v_lnL, FL.v_lnS, FL.v_abs, FL.v_max, FL.v_min, FL.v_int, FL.v_intB, FL.v_tuple, FL.v_list, FL.v_sqT, FL.v_sqD, FL.v_sqL, FL.v_itT, FL.v_itL, FL.v_itS, FL.v_isN, FL.v_notN, FL.v_setL, FL.v_setD, FL.v_kS, FL.v_kI, FL.v_mp, FL.v_mpn, FL.v_pO, FL.v_tupG, FL.v_gsC, FL.v_gsN, FL.v_slD, FL.v_at0, FL.v_at1, FL.v_at2, FL.v_i30, FL.v_i31, FL.v_i32, FL.v_Mv, FL.v_mvV, FL.v_pr, FL.v_wpN, FL.v_wpC, FL.v_wsN, FL.v_wsV, FL.v_wsO, FL.v_bkN, FL.v_bkC, FL.v_bsN, FL.v_bsI, FL.v_sf, FL.callD, Option.bind_some, Option.bind_none, List.getElem?_cons_zero, List.getElem?_cons_succ, List.getElem?_nil, List.set_cons_zero, List.set_cons_succ, List.length_cons, List.length_nil, List.filterMap_cons, List.filterMap_nil, decide_eq_true_eq, if_true, if_false, true_and, and_true, Nat.reduceAdd, Nat.reduceLeDiff, Nat.reduceEqDiff, ↓reduceIte, Bool.false_eq_true, FL.startE, FL.backs, List.map_cons, List.map_nil, List.cons_append, List.nil_append, Nat.reduceSub, List.replicate_succ, List.replicate_zero, List.nodup_nil, List.nodup_cons, List.not_mem_nil, not_false_eq_true, and_self, reduceCtorEq, Option.map_some, Option.map_none]; rfl, by simp -implicitDefEqProofs only [FL.v_seq, FL.v_thN, FL.v_thR, FL.v_thB, FL.v_thC, FL.v_ifS, FL.v_asg, FL.v_ret, FL.v_retN, FL.v_drop, FL.v_nx, FL.v_bk, FL.v_ct, FL.v_name, FL.v_pN, FL.v_pV, FL.v_var, FL.v_at, FL.v_trV, FL.v_trP, FL.v_wV, FL.v_wP, FL.v_C, FL.v_ER, FL.v_Fz, FL.v_fO, FL.v_fS, FL.v_fV, FL.v_fP, FL.v_fL, FL.v_vS, FL.v_vO, FL.v_op, FL.v_un, FL.v_bOf, FL.v_test, FL.v_and, FL.v_or, FL.v_not, FL.v_tru, FL.v_trB, FL.v_andV, FL.v_orV, FL.v_notV, FL.v_if, FL.v_chain, FL.v_arN, FL.v_arC, FL.v_faN, FL.v_faC, FL.v_tup, FL.v_lst, FL.v_tdN, FL.v_tdC, FL.v_tdI, FL.v_tdL, FL.toDs_imms, FL.imms_imms, FL.v_cb, FL.v_vsN, FL.v_vsC, FL.v_bm, FL.v_tyS, FL.v_tyL, FL.v_sl, FL.v_moN, FL.v_moS, FL.v_iOf, FL.v_call, FL.v_osO, FL.v_osS, FL.v_isI, FL.v_isL, FL.v_isD, FL.v_gN, FL.v_gO, FL.v_gS, FL.v_for, FL.v_lc, FL.v_sub, FL.v_sub2, FL.v_iAt, FL.v_iC, FL.v_aug, FL.v_par, FL.v_mut, FL.v_rng1, FL.v_rng2, FL.v_seqI, FL.v_enum, FL.v_isi, FL.v_addI, FL.v_addS, FL.v_addT, FL.v_addL, FL.v_subI, FL.v_neg, FL.v_lt, FL.v_le, FL.v_gt, FL.v_ge, FL.v_eqI, FL.v_neI, FL.v_eqS, FL.v_neS, FL.v_ixT, FL.v_ixD, FL.v_ixL, FL.v_ixS, FL.v_len, FL.v_lnT, FL.v_lnD, FL.v_lnL, FL.v_lnS, FL.v_abs, FL.v_max, FL.v_min, FL.v_int, FL.v_intB, FL.v_tuple, FL.v_list, FL.v_sqT, FL.v_sqD, FL.v_sqL, FL.v_itT, FL.v_itL, FL.v_itS, FL.v_isN, FL.v_notN, FL.v_setL, FL.v_setD, FL.v_kS, FL.v_kI, FL.v_mp, FL.v_mpn, FL.v_pO, FL.v_tupG, FL.v_gsC, FL.v_gsN, FL.v_slD, FL.v_at0, FL.v_at1, FL.v_at2, FL.v_i30, FL.v_i31, FL.v_i32, FL.v_Mv, FL.v_mvV, FL.v_pr, FL.v_wpN, FL.v_wpC, FL.v_wsN, FL.v_wsV, FL.v_wsO, FL.v_bkN, FL.v_bkC, FL.v_bsN, FL.v_bsI, FL.v_sf, FL.callD, Option.bind_some, Option.bind_none, List.getElem?_cons_zero, List.getElem?_cons_succ, List.getElem?_nil, List.set_cons_zero, List.set_cons_succ, List.length_cons, List.length_nil, List.filterMap_cons, List.filterMap_nil, decide_eq_true_eq, if_true, if_false, true_and, and_true, Nat.reduceAdd, Nat.reduceLeDiff, Nat.reduceEqDiff, ↓reduceIte, Bool.false_eq_true, FL.startE, FL.backs, List.map_cons, List.map_nil, List.cons_append, List.nil_append, Nat.reduceSub, List.replicate_succ, List.replicate_zero, List.nodup_nil, List.nodup_cons, List.not_mem_nil, not_false_eq_true, and_self, reduceCtorEq, Option.map_some, Option.map_none]; rfl, rfl⟩) [] (by simp; omega)
  obtain ⟨x1, x2, x3, rfl⟩ := ht.lst
  obtain ⟨y1, y2, y3, rfl⟩ := ht2.lst
  have e6 : Tr.toDs ((List.range n).map fun i => Tr.lst ((List.range n).map fun j => Tr.imm (.int (G i j)))) = some ((List.range n).map fun i => PyData.list ((List.range n).map fun j => PyData.int (G i j))) := rows_toDs n n G
  have e7 : (((List.range n).map fun i => PyData.list ((List.range n).map fun j => PyData.int (G i j))).map tupOf) = ((List.range n).map fun i => PyData.tuple ((List.range n).map fun j => PyData.int (G i j))).map Tr.imm := by
    rw [List.map_map, List.map_map]; rfl
  rw [e7, List.nil_append] at e5
  refine ⟨_, G, ?_, ht2.le (by omega), ⟨hG.one, hG.sym, l, hg, hG.mem⟩⟩
  unfold rowsT at e3
  rw [v_fn]
  unfold m__law_table
  unfold tabD
  have k1 : atI (stkN.map stkT) r = some (stkT l) := e2
  simp only [stkN, stkT, List.map_cons, List.map_nil] at k1
  unfold stkT at e3 e4 e5
  simp -implicitDefEqProofs only [FL.v_seq, FL.v_thN, FL.v_thR, FL.v_thB, FL.v_thC, FL.v_ifS, FL.v_asg, FL.v_ret, FL.v_retN, FL.v_drop, FL.v_nx, FL.v_bk, FL.v_ct, FL.v_name, FL.v_pN, FL.v_pV, FL.v_var, FL.v_at, FL.v_trV, FL.v_trP, FL.v_wV, FL.v_wP, FL.v_C, FL.v_ER, FL.v_Fz, FL.v_fO, FL.v_fS, FL.v_fV, FL.v_fP, FL.v_fL, FL.v_vS, FL.v_vO, FL.v_op, FL.v_un, FL.v_bOf, FL.v_test, FL.v_and, FL.v_or, FL.v_not, FL.v_tru, FL.v_trB, FL.v_andV, FL.v_orV, FL.v_notV, FL.v_if, FL.v_chain, FL.v_arN, FL.v_arC, FL.v_faN, FL.v_faC, FL.v_tup, FL.v_lst, FL.v_tdN, FL.v_tdC, FL.v_tdI, FL.v_tdL, FL.toDs_imms, FL.imms_imms, FL.v_cb, FL.v_vsN, FL.v_vsC, FL.v_bm, FL.v_tyS, FL.v_tyL, FL.v_sl, FL.v_moN, FL.v_moS, FL.v_iOf, FL.v_call, FL.v_osO, FL.v_osS, FL.v_isI, FL.v_isL, FL.v_isD, FL.v_gN, FL.v_gO, FL.v_gS, FL.v_for, FL.v_lc, FL.v_sub, FL.v_sub2, FL.v_iAt, FL.v_iC, FL.v_aug, FL.v_par, FL.v_mut, FL.v_rng1, FL.v_rng2, FL.v_seqI, FL.v_enum, FL.v_isi, FL.v_addI, FL.v_addS, FL.v_addT, FL.v_addL, FL.v_subI, FL.v_neg, FL.v_lt, FL.v_le, FL.v_gt, FL.v_ge, FL.v_eqI, FL.v_neI, FL.v_eqS, FL.v_neS, FL.v_ixT, FL.v_ixD, FL.v_ixL, FL.v_ixS, FL.v_len, FL.v_lnT, FL.v_lnD, FL.v_lnL, FL.v_lnS, FL.v_abs, FL.v_max, FL.v_min, FL.v_int, FL.v_intB, FL.v_tuple, FL.v_list, FL.v_sqT, FL.v_sqD, FL.v_sqL, FL.v_itT, FL.v_itL, FL.v_itS, FL.v_isN, FL.v_notN, FL.v_setL, FL.v_setD, FL.v_kS, FL.v_kI, FL.v_mp, FL.v_mpn, FL.v_pO, FL.v_tupG, FL.v_gsC, FL.v_gsN, FL.v_slD, FL.v_at0, FL.v_at1, FL.v_at2, FL.v_i30, FL.v_i31, FL.v_i32, FL.v_Mv, FL.v_mvV, FL.v_pr, FL.v_wpN, FL.v_wpC, FL.v_wsN, FL.v_wsV, FL.v_wsO, FL.v_bkN, FL.v_bkC, FL.v_bsN, FL.v_bsI, FL.v_sf, FL.callD, Option.bind_some, Option.bind_none, List.getElem?_cons_zero, List.getElem?_cons_succ, List.getElem?_nil, List.set_cons_zero, List.set_cons_succ, List.length_cons, List.length_nil, List.filterMap_cons, List.filterMap_nil, decide_eq_true_eq, if_true, if_false, true_and, and_true, Nat.reduceAdd, Nat.reduceLeDiff, Nat.reduceEqDiff, ↓reduceIte, Bool.false_eq_true, FL.startE, FL.backs, List.map_cons, List.map_nil, List.cons_append, List.nil_append, Nat.reduceSub, List.replicate_succ, List.replicate_zero, List.nodup_nil, List.nodup_cons, List.not_mem_nil, not_false_eq_true, and_self, reduceCtorEq, Option.map_some, Option.map_none, e1, imms, k1, hr, e4, e3, e6, e5]
end WK

namespace WK
open PySem L2 FL
def wL (ws : List Nat) : List PyData := ws.map fun w => PyData.int (w : Nat)
theorem canLay_wL : ∀ ws : List Nat, PyData.canLayAll0 (wL ws) = true
  | [] => by rw [wL, List.map_nil, PyData.canLayAll0]
  | w :: ws => by
    have := canLay_wL ws
    unfold wL at *
    rw [List.map_cons, PyData.canLayAll0, this, PyData.canLay0]; rfl
theorem depth_wL : ∀ ws : List Nat, PyData.depthAll (wL ws) = 0
  | [] => by rw [wL, List.map_nil, PyData.depthAll]
  | w :: ws => by
    have := depth_wL ws
    unfold wL at *
    rw [List.map_cons, PyData.depthAll, this, PyData.depth]; rfl
theorem shaped_wL (ws : List Nat) : SeqAt.shaped (.tuple (wL ws)) = true := by
  unfold SeqAt.shaped
  rw [PyData.canLay0, canLay_wL, PyData.depth, depth_wL]; rfl
theorem eqv_wL : ∀ ws vs : List Nat, PyData.eqvAll (wL ws) (wL vs) = decide (ws = vs)
  | [], [] => by rw [wL, List.map_nil, PyData.eqvAll]; rfl
  | [], v :: vs => by rw [wL, wL, List.map_nil, List.map_cons, PyData.eqvAll]; rfl
  | w :: ws, [] => by rw [wL, wL, List.map_nil, List.map_cons, PyData.eqvAll]; rfl
  | w :: ws, v :: vs => by
    have h := eqv_wL ws vs
    unfold wL at *
    rw [List.map_cons, List.map_cons, PyData.eqvAll, h, PyData.eqv]
    by_cases e : w = v
    · subst e; simp
    · have : ((w : Int) == (v : Int)) = false := beq_eq_false_iff_ne.mpr (by omega)
      rw [this]; simp [e]
theorem eqT_tup {ds es : List PyData} (h : SeqAt.shaped (.tuple ds) = true) (k : SeqAt.shaped (.tuple es) = true) : eqT (.imm (.tuple ds)) (.imm (.tuple es)) = some (PyData.eqvAll ds es) := by
  unfold eqT
  simp only [v_tdI, Option.bind_some, h, k, and_self, if_true, PyData.eqv]
theorem fEq_wL (ws vs : List Nat) : fEq (.imm (.tuple (wL ws))) (.imm (.tuple (wL vs))) = some (.imm (.bool (decide (ws = vs)))) := by
  unfold fEq
  rw [eqT_tup (shaped_wL ws) (shaped_wL vs), eqv_wL]; rfl
theorem fNe_wL (ws vs : List Nat) : fNe (.imm (.tuple (wL ws))) (.imm (.tuple (wL vs))) = some (.imm (.bool !(decide (ws = vs)))) := by
  unfold fNe
  rw [eqT_tup (shaped_wL ws) (shaped_wL vs), eqv_wL]; rfl
theorem wL_nil : wL [] = [] := rfl
theorem wL_app (ws vs : List Nat) : wL ws ++ wL vs = wL (ws ++ vs) := by unfold wL; rw [List.map_append]
theorem wL_len (ws : List Nat) : (wL ws).length = ws.length := by unfold wL; rw [List.length_map]
theorem show_wL : ∀ ws : List Nat, (∀ w ∈ ws, w < 10) → PyData.showableAll (wL ws) = true ∧ PyData.leavesShortAll 8 (wL ws) = true ∧ PyData.bulkAll (wL ws) = ws.length ∧ PyData.hasDictAll (wL ws) = false
  | [], _ => ⟨by rw [wL, List.map_nil, PyData.showableAll], by rw [wL, List.map_nil, PyData.leavesShortAll], by rw [wL, List.map_nil, PyData.bulkAll]; rfl, by rw [wL, List.map_nil, PyData.hasDictAll]⟩
  | w :: ws, h => by
    obtain ⟨h1, h2, h3, h4⟩ := show_wL ws fun x hx => h x (List.mem_cons_of_mem _ hx)
    have hw : w < 10 := h w List.mem_cons_self
    have small : ∀ w : Fin 10, PyData.showable (.int (w.val : Nat)) = true ∧ PyData.leavesShort 8 (.int (w.val : Nat)) = true := by decide +kernel
    have := small ⟨w, hw⟩
    unfold wL at *
    refine ⟨?_, ?_, ?_, ?_⟩
    · rw [List.map_cons, PyData.showableAll, h1, this.1]; rfl
    · rw [List.map_cons, PyData.leavesShortAll, h2, this.2]; rfl
    · rw [List.map_cons, PyData.bulkAll, h3, PyData.bulk, List.length_cons]; omega
    · rw [List.map_cons, PyData.hasDictAll, h4, PyData.hasDict]; rfl
theorem repr_wL (ws : List Nat) (h : ∀ w ∈ ws, w < 10) (hl : ws.length ≤ 10000) : fRepr [.imm (.tuple (wL ws))] = some (.imm (.str (PyData.shown (.tuple (wL ws))))) := by
  obtain ⟨h1, h2, h3, h4⟩ := show_wL ws h
  have k1 : PyData.showable (.tuple (wL ws)) = true := by rw [PyData.showable]; exact h1
  have k2 : PyData.leavesShort 8 (.tuple (wL ws)) = true := by rw [PyData.leavesShort]; exact h2
  have k3 : PyData.bulk (.tuple (wL ws)) = ws.length := by rw [PyData.bulk]; exact h3
  have k4 : PyData.hasDict (.tuple (wL ws)) = false := by rw [PyData.hasDict]; exact h4
  have k5 : PyData.depth (.tuple (wL ws)) = 1 := by rw [PyData.depth, depth_wL]
  have k6 := PyData.shown_le_bulk 8 (by decide) _ k2
  unfold fRepr
  show (Tr.toD _).bind _ = _
  rw [v_tdI, Option.bind_some, if_pos ⟨k1, by omega, by omega, k4⟩]
theorem repr_none : fRepr [.imm .none] = some (.imm (.str (PyData.shown .none))) := by
  unfold fRepr
  show (Tr.toD _).bind _ = _
  rw [v_tdI, Option.bind_some, if_pos ⟨by rw [PyData.showable], by rw [PyData.shown]; decide +kernel, by rw [PyData.depth]; decide, by rw [PyData.hasDict]⟩]
/-- what is read of a text: the signs' mirrors, or none -/
def told (n c : Nat) : PyData := if 97 ≤ c ∧ c < 97 + n then .int ((c - 97 : Nat) : Int) else .none
def allIn (n : Nat) (cs : List Nat) : Bool := cs.all fun c => decide (97 ≤ c) && decide (c < 97 + n)
def readP (n : Nat) (z : Str) : PyData := if z = "-" then .tuple [] else if z.cps.toList = [] then .none else if allIn n z.cps.toList = true then .tuple (wL (z.cps.toList.map (· - 97))) else .none
theorem ltr_at : ∀ w : Fin 8, atI (Str.ofString "abcdefgh").cps.toList ((w.val : Nat) : Int) = some (97 + w.val) := by decide +kernel
theorem ltr_len : (Str.ofString "abcdefgh").length = 8 := by decide +kernel
theorem ltr (w : Nat) (h : w < 8) : fIx (.imm (.str "abcdefgh")) (.imm (.int (w : Nat))) = some (.imm (.str ⟨#[97 + w]⟩)) := by
  rw [v_ixS, if_pos (by rw [ltr_len]; decide), ltr_at ⟨w, h⟩]; rfl
theorem told_loop (n c : Nat) : ∀ (k lo : Nat) (s : Option Tr), lo + k ≤ 8 → ∃ s', forD (mName 2) (mIfS (mTest (mOp fEq (mVar 0) (mER (mOp fIx (mER (mC (.str "abcdefgh"))) (mVar 2))))) (mRet (mFz (mVar 2))) mNext) (rangeD lo k) [.val (.imm (.str ⟨#[c]⟩)), .val (.imm (.int n)), ov s] =
    some (if 97 + lo ≤ c ∧ c < 97 + lo + k then .rt (.imm (.int ((c - 97 : Nat) : Int))) [.val (.imm (.str ⟨#[c]⟩)), .val (.imm (.int n)), ov s'] else .nx [.val (.imm (.str ⟨#[c]⟩)), .val (.imm (.int n)), ov s'])
  | 0, lo, s, h => ⟨s, by rw [if_neg (by omega)]; rfl⟩
  | k + 1, lo, s, h => by
    obtain ⟨s', ih⟩ := told_loop n c k (lo + 1) (some (.imm (.int (lo : Nat)))) (by omega)
    have e : rangeD lo (k + 1) = .int (lo : Nat) :: rangeD ((lo + 1 : Nat) : Int) k := by
      unfold rangeD
      rw [List.range_succ_eq_map, List.map_cons, List.map_map]
      congr 1
      refine List.map_congr_left fun i _ => ?_
      show PyData.int _ = PyData.int _
      congr 1
      simp only [Nat.succ_eq_add_one]
      omega
    rw [e, forD]
    have hl := ltr lo (by omega)
    by_cases hc : c = 97 + lo
    · refine ⟨some (.imm (.int (lo : Nat))), ?_⟩
      rw [if_pos (by omega)]
      have hd : (⟨#[c]⟩ : Str) = ⟨#[97 + lo]⟩ := by rw [hc]
      simp -implicitDefEqProofs only [FL.v_seq, FL.v_thN, FL.v_thR, FL.v_thB, FL.v_thC, FL.v_ifS, FL.v_asg, FL.v_ret, FL.v_retN, FL.v_drop, FL.v_nx, FL.v_bk, FL.v_ct, FL.v_name, FL.v_pN, FL.v_pV, FL.v_var, FL.v_at, FL.v_trV, FL.v_trP, FL.v_wV, FL.v_wP, FL.v_C, FL.v_ER, FL.v_Fz, FL.v_fO, FL.v_fS, FL.v_fV, FL.v_fP, FL.v_fL, FL.v_vS, FL.v_vO, FL.v_op, FL.v_un, FL.v_bOf, FL.v_test, FL.v_and, FL.v_or, FL.v_not, FL.v_tru, FL.v_trB, FL.v_andV, FL.v_orV, FL.v_notV, FL.v_if, FL.v_chain, FL.v_arN, FL.v_arC, FL.v_faN, FL.v_faC, FL.v_tup, FL.v_lst, FL.v_tdN, FL.v_tdC, FL.v_tdI, FL.v_tdL, FL.toDs_imms, FL.imms_imms, FL.v_cb, FL.v_vsN, FL.v_vsC, FL.v_bm, FL.v_tyS, FL.v_tyL, FL.v_sl, FL.v_moN, FL.v_moS, FL.v_iOf, FL.v_call, FL.v_osO, FL.v_osS, FL.v_isI, FL.v_isL, FL.v_isD, FL.v_gN, FL.v_gO, FL.v_gS, FL.v_for, FL.v_lc, FL.v_sub, FL.v_sub2, FL.v_iAt, FL.v_iC, FL.v_aug, FL.v_par, FL.v_mut, FL.v_rng1, FL.v_rng2, FL.v_seqI, FL.v_enum, FL.v_isi, FL.v_addI, FL.v_addS, FL.v_addT, FL.v_addL, FL.v_subI, FL.v_neg, FL.v_lt, FL.v_le, FL.v_gt, FL.v_ge, FL.v_eqI, FL.v_neI, FL.v_eqS, FL.v_neS, FL.v_ixT, FL.v_ixD, FL.v_ixL, FL.v_ixS, FL.v_len, FL.v_lnT, FL.v_lnD, FL.v_lnL, FL.v_lnS, FL.v_abs, FL.v_max, FL.v_min, FL.v_int, FL.v_intB, FL.v_tuple, FL.v_list, FL.v_sqT, FL.v_sqD, FL.v_sqL, FL.v_itT, FL.v_itL, FL.v_itS, FL.v_isN, FL.v_notN, FL.v_setL, FL.v_setD, FL.v_kS, FL.v_kI, FL.v_mp, FL.v_mpn, FL.v_pO, FL.v_tupG, FL.v_gsC, FL.v_gsN, FL.v_slD, FL.v_at0, FL.v_at1, FL.v_at2, FL.v_i30, FL.v_i31, FL.v_i32, FL.v_Mv, FL.v_mvV, FL.v_pr, FL.v_wpN, FL.v_wpC, FL.v_wsN, FL.v_wsV, FL.v_wsO, FL.v_bkN, FL.v_bkC, FL.v_bsN, FL.v_bsI, FL.v_sf, FL.callD, Option.bind_some, Option.bind_none, List.getElem?_cons_zero, List.getElem?_cons_succ, List.getElem?_nil, List.set_cons_zero, List.set_cons_succ, List.length_cons, List.length_nil, List.filterMap_cons, List.filterMap_nil, decide_eq_true_eq, if_true, if_false, true_and, and_true, Nat.reduceAdd, Nat.reduceLeDiff, Nat.reduceEqDiff, ↓reduceIte, Bool.false_eq_true, FL.startE, FL.backs, List.map_cons, List.map_nil, List.cons_append, List.nil_append, Nat.reduceSub, List.replicate_succ, List.replicate_zero, List.nodup_nil, List.nodup_cons, List.not_mem_nil, not_false_eq_true, and_self, reduceCtorEq, Option.map_some, Option.map_none, hl, hd, decide_true, afterTurn]
      have : c - 97 = lo := by omega
      rw [hc, show 97 + lo - 97 = lo by omega]; rfl
    · refine ⟨s', ?_⟩
      have hd : ¬ (⟨#[c]⟩ : Str) = ⟨#[97 + lo]⟩ := fun z => hc (by cases z; rfl)
      have ih' := ih
      rw [show ov (some (Tr.imm (.int (lo : Nat)))) = SL.val (.imm (.int (lo : Nat))) from rfl] at ih'
      simp -implicitDefEqProofs only [FL.v_seq, FL.v_thN, FL.v_thR, FL.v_thB, FL.v_thC, FL.v_ifS, FL.v_asg, FL.v_ret, FL.v_retN, FL.v_drop, FL.v_nx, FL.v_bk, FL.v_ct, FL.v_name, FL.v_pN, FL.v_pV, FL.v_var, FL.v_at, FL.v_trV, FL.v_trP, FL.v_wV, FL.v_wP, FL.v_C, FL.v_ER, FL.v_Fz, FL.v_fO, FL.v_fS, FL.v_fV, FL.v_fP, FL.v_fL, FL.v_vS, FL.v_vO, FL.v_op, FL.v_un, FL.v_bOf, FL.v_test, FL.v_and, FL.v_or, FL.v_not, FL.v_tru, FL.v_trB, FL.v_andV, FL.v_orV, FL.v_notV, FL.v_if, FL.v_chain, FL.v_arN, FL.v_arC, FL.v_faN, FL.v_faC, FL.v_tup, FL.v_lst, FL.v_tdN, FL.v_tdC, FL.v_tdI, FL.v_tdL, FL.toDs_imms, FL.imms_imms, FL.v_cb, FL.v_vsN, FL.v_vsC, FL.v_bm, FL.v_tyS, FL.v_tyL, FL.v_sl, FL.v_moN, FL.v_moS, FL.v_iOf, FL.v_call, FL.v_osO, FL.v_osS, FL.v_isI, FL.v_isL, FL.v_isD, FL.v_gN, FL.v_gO, FL.v_gS, FL.v_for, FL.v_lc, FL.v_sub, FL.v_sub2, FL.v_iAt, FL.v_iC, FL.v_aug, FL.v_par, FL.v_mut, FL.v_rng1, FL.v_rng2, FL.v_seqI, FL.v_enum, FL.v_isi, FL.v_addI, FL.v_addS, FL.v_addT, FL.v_addL, FL.v_subI, FL.v_neg, FL.v_lt, FL.v_le, FL.v_gt, FL.v_ge, FL.v_eqI, FL.v_neI, FL.v_eqS, FL.v_neS, FL.v_ixT, FL.v_ixD, FL.v_ixL, FL.v_ixS, FL.v_len, FL.v_lnT, FL.v_lnD, FL.v_lnL, FL.v_lnS, FL.v_abs, FL.v_max, FL.v_min, FL.v_int, FL.v_intB, FL.v_tuple, FL.v_list, FL.v_sqT, FL.v_sqD, FL.v_sqL, FL.v_itT, FL.v_itL, FL.v_itS, FL.v_isN, FL.v_notN, FL.v_setL, FL.v_setD, FL.v_kS, FL.v_kI, FL.v_mp, FL.v_mpn, FL.v_pO, FL.v_tupG, FL.v_gsC, FL.v_gsN, FL.v_slD, FL.v_at0, FL.v_at1, FL.v_at2, FL.v_i30, FL.v_i31, FL.v_i32, FL.v_Mv, FL.v_mvV, FL.v_pr, FL.v_wpN, FL.v_wpC, FL.v_wsN, FL.v_wsV, FL.v_wsO, FL.v_bkN, FL.v_bkC, FL.v_bsN, FL.v_bsI, FL.v_sf, FL.callD, Option.bind_some, Option.bind_none, List.getElem?_cons_zero, List.getElem?_cons_succ, List.getElem?_nil, List.set_cons_zero, List.set_cons_succ, List.length_cons, List.length_nil, List.filterMap_cons, List.filterMap_nil, decide_eq_true_eq, if_true, if_false, true_and, and_true, Nat.reduceAdd, Nat.reduceLeDiff, Nat.reduceEqDiff, ↓reduceIte, Bool.false_eq_true, FL.startE, FL.backs, List.map_cons, List.map_nil, List.cons_append, List.nil_append, Nat.reduceSub, List.replicate_succ, List.replicate_zero, List.nodup_nil, List.nodup_cons, List.not_mem_nil, not_false_eq_true, and_self, reduceCtorEq, Option.map_some, Option.map_none, hl, hd, afterTurn, decide_false]
      rw [ih']
      by_cases h2 : 97 + lo + 1 ≤ c ∧ c < 97 + (lo + 1) + k
      · rw [if_pos (by omega), if_pos (by omega)]
      · rw [if_neg (by omega), if_neg (by omega)]
theorem told_one (n c : Nat) (hn : n ≤ 8) : mFn 3 m_mirror_told [.imm (.str ⟨#[c]⟩), .imm (.int n)] = some (.imm (told n c), [.imm (.str ⟨#[c]⟩), .imm (.int n)]) := by
  obtain ⟨s, e⟩ := told_loop n c n 0 none (by omega)
  have hr := fun E => v_rgN (n := n) (by omega) (E := E)
  simp only [show ov none = SL.no from rfl, show ((0 : Nat) : Int) = 0 from rfl] at e
  rw [v_fn]
  unfold m_mirror_told told
  simp -implicitDefEqProofs only [FL.v_seq, FL.v_thN, FL.v_thR, FL.v_thB, FL.v_thC, FL.v_ifS, FL.v_asg, FL.v_ret, FL.v_retN, FL.v_drop, FL.v_nx, FL.v_bk, FL.v_ct, FL.v_name, FL.v_pN, FL.v_pV, FL.v_var, FL.v_at, FL.v_trV, FL.v_trP, FL.v_wV, FL.v_wP, FL.v_C, FL.v_ER, FL.v_Fz, FL.v_fO, FL.v_fS, FL.v_fV, FL.v_fP, FL.v_fL, FL.v_vS, FL.v_vO, FL.v_op, FL.v_un, FL.v_bOf, FL.v_test, FL.v_and, FL.v_or, FL.v_not, FL.v_tru, FL.v_trB, FL.v_andV, FL.v_orV, FL.v_notV, FL.v_if, FL.v_chain, FL.v_arN, FL.v_arC, FL.v_faN, FL.v_faC, FL.v_tup, FL.v_lst, FL.v_tdN, FL.v_tdC, FL.v_tdI, FL.v_tdL, FL.toDs_imms, FL.imms_imms, FL.v_cb, FL.v_vsN, FL.v_vsC, FL.v_bm, FL.v_tyS, FL.v_tyL, FL.v_sl, FL.v_moN, FL.v_moS, FL.v_iOf, FL.v_call, FL.v_osO, FL.v_osS, FL.v_isI, FL.v_isL, FL.v_isD, FL.v_gN, FL.v_gO, FL.v_gS, FL.v_for, FL.v_lc, FL.v_sub, FL.v_sub2, FL.v_iAt, FL.v_iC, FL.v_aug, FL.v_par, FL.v_mut, FL.v_rng1, FL.v_rng2, FL.v_seqI, FL.v_enum, FL.v_isi, FL.v_addI, FL.v_addS, FL.v_addT, FL.v_addL, FL.v_subI, FL.v_neg, FL.v_lt, FL.v_le, FL.v_gt, FL.v_ge, FL.v_eqI, FL.v_neI, FL.v_eqS, FL.v_neS, FL.v_ixT, FL.v_ixD, FL.v_ixL, FL.v_ixS, FL.v_len, FL.v_lnT, FL.v_lnD, FL.v_lnL, FL.v_lnS, FL.v_abs, FL.v_max, FL.v_min, FL.v_int, FL.v_intB, FL.v_tuple, FL.v_list, FL.v_sqT, FL.v_sqD, FL.v_sqL, FL.v_itT, FL.v_itL, FL.v_itS, FL.v_isN, FL.v_notN, FL.v_setL, FL.v_setD, FL.v_kS, FL.v_kI, FL.v_mp, FL.v_mpn, FL.v_pO, FL.v_tupG, FL.v_gsC, FL.v_gsN, FL.v_slD, FL.v_at0, FL.v_at1, FL.v_at2, FL.v_i30, FL.v_i31, FL.v_i32, FL.v_Mv, FL.v_mvV, FL.v_pr, FL.v_wpN, FL.v_wpC, FL.v_wsN, FL.v_wsV, FL.v_wsO, FL.v_bkN, FL.v_bkC, FL.v_bsN, FL.v_bsI, FL.v_sf, FL.callD, Option.bind_some, Option.bind_none, List.getElem?_cons_zero, List.getElem?_cons_succ, List.getElem?_nil, List.set_cons_zero, List.set_cons_succ, List.length_cons, List.length_nil, List.filterMap_cons, List.filterMap_nil, decide_eq_true_eq, if_true, if_false, true_and, and_true, Nat.reduceAdd, Nat.reduceLeDiff, Nat.reduceEqDiff, ↓reduceIte, Bool.false_eq_true, FL.startE, FL.backs, List.map_cons, List.map_nil, List.cons_append, List.nil_append, Nat.reduceSub, List.replicate_succ, List.replicate_zero, List.nodup_nil, List.nodup_cons, List.not_mem_nil, not_false_eq_true, and_self, reduceCtorEq, Option.map_some, Option.map_none, hr, e]
  by_cases h : 97 ≤ c ∧ c < 97 + n
  · rw [if_pos (by omega), if_pos h]; simp -implicitDefEqProofs only [FL.v_seq, FL.v_thN, FL.v_thR, FL.v_thB, FL.v_thC, FL.v_ifS, FL.v_asg, FL.v_ret, FL.v_retN, FL.v_drop, FL.v_nx, FL.v_bk, FL.v_ct, FL.v_name, FL.v_pN, FL.v_pV, FL.v_var, FL.v_at, FL.v_trV, FL.v_trP, FL.v_wV, FL.v_wP, FL.v_C, FL.v_ER, FL.v_Fz, FL.v_fO, FL.v_fS, FL.v_fV, FL.v_fP, FL.v_fL, FL.v_vS, FL.v_vO, FL.v_op, FL.v_un, FL.v_bOf, FL.v_test, FL.v_and, FL.v_or, FL.v_not, FL.v_tru, FL.v_trB, FL.v_andV, FL.v_orV, FL.v_notV, FL.v_if, FL.v_chain, FL.v_arN, FL.v_arC, FL.v_faN, FL.v_faC, FL.v_tup, FL.v_lst, FL.v_tdN, FL.v_tdC, FL.v_tdI, FL.v_tdL, FL.toDs_imms, FL.imms_imms, FL.v_cb, FL.v_vsN, FL.v_vsC, FL.v_bm, FL.v_tyS, FL.v_tyL, FL.v_sl, FL.v_moN, FL.v_moS, FL.v_iOf, FL.v_call, FL.v_osO, FL.v_osS, FL.v_isI, FL.v_isL, FL.v_isD, FL.v_gN, FL.v_gO, FL.v_gS, FL.v_for, FL.v_lc, FL.v_sub, FL.v_sub2, FL.v_iAt, FL.v_iC, FL.v_aug, FL.v_par, FL.v_mut, FL.v_rng1, FL.v_rng2, FL.v_seqI, FL.v_enum, FL.v_isi, FL.v_addI, FL.v_addS, FL.v_addT, FL.v_addL, FL.v_subI, FL.v_neg, FL.v_lt, FL.v_le, FL.v_gt, FL.v_ge, FL.v_eqI, FL.v_neI, FL.v_eqS, FL.v_neS, FL.v_ixT, FL.v_ixD, FL.v_ixL, FL.v_ixS, FL.v_len, FL.v_lnT, FL.v_lnD, FL.v_lnL, FL.v_lnS, FL.v_abs, FL.v_max, FL.v_min, FL.v_int, FL.v_intB, FL.v_tuple, FL.v_list, FL.v_sqT, FL.v_sqD, FL.v_sqL, FL.v_itT, FL.v_itL, FL.v_itS, FL.v_isN, FL.v_notN, FL.v_setL, FL.v_setD, FL.v_kS, FL.v_kI, FL.v_mp, FL.v_mpn, FL.v_pO, FL.v_tupG, FL.v_gsC, FL.v_gsN, FL.v_slD, FL.v_at0, FL.v_at1, FL.v_at2, FL.v_i30, FL.v_i31, FL.v_i32, FL.v_Mv, FL.v_mvV, FL.v_pr, FL.v_wpN, FL.v_wpC, FL.v_wsN, FL.v_wsV, FL.v_wsO, FL.v_bkN, FL.v_bkC, FL.v_bsN, FL.v_bsI, FL.v_sf, FL.callD, Option.bind_some, Option.bind_none, List.getElem?_cons_zero, List.getElem?_cons_succ, List.getElem?_nil, List.set_cons_zero, List.set_cons_succ, List.length_cons, List.length_nil, List.filterMap_cons, List.filterMap_nil, decide_eq_true_eq, if_true, if_false, true_and, and_true, Nat.reduceAdd, Nat.reduceLeDiff, Nat.reduceEqDiff, ↓reduceIte, Bool.false_eq_true, FL.startE, FL.backs, List.map_cons, List.map_nil, List.cons_append, List.nil_append, Nat.reduceSub, List.replicate_succ, List.replicate_zero, List.nodup_nil, List.nodup_cons, List.not_mem_nil, not_false_eq_true, and_self, reduceCtorEq, Option.map_some, Option.map_none]
  · rw [if_neg (by omega), if_neg h]; simp -implicitDefEqProofs only [FL.v_seq, FL.v_thN, FL.v_thR, FL.v_thB, FL.v_thC, FL.v_ifS, FL.v_asg, FL.v_ret, FL.v_retN, FL.v_drop, FL.v_nx, FL.v_bk, FL.v_ct, FL.v_name, FL.v_pN, FL.v_pV, FL.v_var, FL.v_at, FL.v_trV, FL.v_trP, FL.v_wV, FL.v_wP, FL.v_C, FL.v_ER, FL.v_Fz, FL.v_fO, FL.v_fS, FL.v_fV, FL.v_fP, FL.v_fL, FL.v_vS, FL.v_vO, FL.v_op, FL.v_un, FL.v_bOf, FL.v_test, FL.v_and, FL.v_or, FL.v_not, FL.v_tru, FL.v_trB, FL.v_andV, FL.v_orV, FL.v_notV, FL.v_if, FL.v_chain, FL.v_arN, FL.v_arC, FL.v_faN, FL.v_faC, FL.v_tup, FL.v_lst, FL.v_tdN, FL.v_tdC, FL.v_tdI, FL.v_tdL, FL.toDs_imms, FL.imms_imms, FL.v_cb, FL.v_vsN, FL.v_vsC, FL.v_bm, FL.v_tyS, FL.v_tyL, FL.v_sl, FL.v_moN, FL.v_moS, FL.v_iOf, FL.v_call, FL.v_osO, FL.v_osS, FL.v_isI, FL.v_isL, FL.v_isD, FL.v_gN, FL.v_gO, FL.v_gS, FL.v_for, FL.v_lc, FL.v_sub, FL.v_sub2, FL.v_iAt, FL.v_iC, FL.v_aug, FL.v_par, FL.v_mut, FL.v_rng1, FL.v_rng2, FL.v_seqI, FL.v_enum, FL.v_isi, FL.v_addI, FL.v_addS, FL.v_addT, FL.v_addL, FL.v_subI, FL.v_neg, FL.v_lt, FL.v_le, FL.v_gt, FL.v_ge, FL.v_eqI, FL.v_neI, FL.v_eqS, FL.v_neS, FL.v_ixT, FL.v_ixD, FL.v_ixL, FL.v_ixS, FL.v_len, FL.v_lnT, FL.v_lnD, FL.v_lnL, FL.v_lnS, FL.v_abs, FL.v_max, FL.v_min, FL.v_int, FL.v_intB, FL.v_tuple, FL.v_list, FL.v_sqT, FL.v_sqD, FL.v_sqL, FL.v_itT, FL.v_itL, FL.v_itS, FL.v_isN, FL.v_notN, FL.v_setL, FL.v_setD, FL.v_kS, FL.v_kI, FL.v_mp, FL.v_mpn, FL.v_pO, FL.v_tupG, FL.v_gsC, FL.v_gsN, FL.v_slD, FL.v_at0, FL.v_at1, FL.v_at2, FL.v_i30, FL.v_i31, FL.v_i32, FL.v_Mv, FL.v_mvV, FL.v_pr, FL.v_wpN, FL.v_wpC, FL.v_wsN, FL.v_wsV, FL.v_wsO, FL.v_bkN, FL.v_bkC, FL.v_bsN, FL.v_bsI, FL.v_sf, FL.callD, Option.bind_some, Option.bind_none, List.getElem?_cons_zero, List.getElem?_cons_succ, List.getElem?_nil, List.set_cons_zero, List.set_cons_succ, List.length_cons, List.length_nil, List.filterMap_cons, List.filterMap_nil, decide_eq_true_eq, if_true, if_false, true_and, and_true, Nat.reduceAdd, Nat.reduceLeDiff, Nat.reduceEqDiff, ↓reduceIte, Bool.false_eq_true, FL.startE, FL.backs, List.map_cons, List.map_nil, List.cons_append, List.nil_append, Nat.reduceSub, List.replicate_succ, List.replicate_zero, List.nodup_nil, List.nodup_cons, List.not_mem_nil, not_false_eq_true, and_self, reduceCtorEq, Option.map_some, Option.map_none]
end WK

namespace WK
open PySem L2 FL
theorem forD_find {g : Tr → En → Option En} {ms : MS} (C : Option Tr → En) (P : PyData → Bool) : ∀ (ds : List PyData) (_ : ∀ d ∈ ds, ∀ s, ∃ s' E1, g (.imm d) (C s) = some E1 ∧ ms E1 = some (if P d = true then .rt (.imm d) (C s') else .nx (C s'))) (s : Option Tr), ∃ s', forD g ms ds (C s) = some (match ds.find? P with | some d => .rt (.imm d) (C s') | none => .nx (C s'))
  | [], _, s => ⟨s, rfl⟩
  | d :: ds, h, s => by
    obtain ⟨s1, E1, e1, e2⟩ := h d List.mem_cons_self s
    rw [forD, e1, Option.bind_some, e2, Option.bind_some, List.find?_cons]
    by_cases hp : P d = true
    · rw [if_pos hp, hp]
      exact ⟨s1, rfl⟩
    · rw [if_neg hp]
      rw [Bool.not_eq_true] at hp
      rw [hp]
      exact forD_find C P ds (fun d hd => h d (List.mem_cons_of_mem _ hd)) s1
def numS (k : Int) : Str := if k = 0 then "-" else (toString k : String)
theorem v_strI {i : Int} (h : i.natAbs.log2 < 1920) : fStrI [.imm (.int i)] = some (.imm (.str (toString i : String))) := if_pos h
theorem num_len : ∀ w : Fin 13, (numS (w.val : Nat)).length ≤ 2 := by decide +kernel
theorem num_no : ∀ w : Fin 13, (10 ∉ (numS (w.val : Nat)).cps.toList) ∧ 32 ∉ (numS (w.val : Nat)).cps.toList := by decide +kernel
theorem small_log {k : Nat} (h : k ≤ 1000) : (k : Int).natAbs.log2 < 1920 := by
  rw [Int.natAbs_natCast]
  rcases Nat.eq_zero_or_pos k with h0 | h0
  · rw [h0]; decide
  · exact Nat.lt_of_lt_of_le ((Nat.log2_lt (n := k) (k := 10) (by omega)).mpr (by omega)) (by decide)
theorem numtext_one (k : Nat) (h : k ≤ 1000) : mFn 1 m_number_text [.imm (.int (k : Nat))] = some (.imm (.str (numS (k : Nat))), [.imm (.int (k : Nat))]) := by
  have e := v_strI (small_log h)
  rw [v_fn]
  unfold m_number_text numS
  by_cases hz : ((k : Nat) : Int) = 0
  · simp -implicitDefEqProofs only [FL.v_seq, FL.v_thN, FL.v_thR, FL.v_thB, FL.v_thC, FL.v_ifS, FL.v_asg, FL.v_ret, FL.v_retN, FL.v_drop, FL.v_nx, FL.v_bk, FL.v_ct, FL.v_name, FL.v_pN, FL.v_pV, FL.v_var, FL.v_at, FL.v_trV, FL.v_trP, FL.v_wV, FL.v_wP, FL.v_C, FL.v_ER, FL.v_Fz, FL.v_fO, FL.v_fS, FL.v_fV, FL.v_fP, FL.v_fL, FL.v_vS, FL.v_vO, FL.v_op, FL.v_un, FL.v_bOf, FL.v_test, FL.v_and, FL.v_or, FL.v_not, FL.v_tru, FL.v_trB, FL.v_andV, FL.v_orV, FL.v_notV, FL.v_if, FL.v_chain, FL.v_arN, FL.v_arC, FL.v_faN, FL.v_faC, FL.v_tup, FL.v_lst, FL.v_tdN, FL.v_tdC, FL.v_tdI, FL.v_tdL, FL.toDs_imms, FL.imms_imms, FL.v_cb, FL.v_vsN, FL.v_vsC, FL.v_bm, FL.v_tyS, FL.v_tyL, FL.v_sl, FL.v_moN, FL.v_moS, FL.v_iOf, FL.v_call, FL.v_osO, FL.v_osS, FL.v_isI, FL.v_isL, FL.v_isD, FL.v_gN, FL.v_gO, FL.v_gS, FL.v_for, FL.v_lc, FL.v_sub, FL.v_sub2, FL.v_iAt, FL.v_iC, FL.v_aug, FL.v_par, FL.v_mut, FL.v_rng1, FL.v_rng2, FL.v_seqI, FL.v_enum, FL.v_isi, FL.v_addI, FL.v_addS, FL.v_addT, FL.v_addL, FL.v_subI, FL.v_neg, FL.v_lt, FL.v_le, FL.v_gt, FL.v_ge, FL.v_eqI, FL.v_neI, FL.v_eqS, FL.v_neS, FL.v_ixT, FL.v_ixD, FL.v_ixL, FL.v_ixS, FL.v_len, FL.v_lnT, FL.v_lnD, FL.v_lnL, FL.v_lnS, FL.v_abs, FL.v_max, FL.v_min, FL.v_int, FL.v_intB, FL.v_tuple, FL.v_list, FL.v_sqT, FL.v_sqD, FL.v_sqL, FL.v_itT, FL.v_itL, FL.v_itS, FL.v_isN, FL.v_notN, FL.v_setL, FL.v_setD, FL.v_kS, FL.v_kI, FL.v_mp, FL.v_mpn, FL.v_pO, FL.v_tupG, FL.v_gsC, FL.v_gsN, FL.v_slD, FL.v_at0, FL.v_at1, FL.v_at2, FL.v_i30, FL.v_i31, FL.v_i32, FL.v_Mv, FL.v_mvV, FL.v_pr, FL.v_wpN, FL.v_wpC, FL.v_wsN, FL.v_wsV, FL.v_wsO, FL.v_bkN, FL.v_bkC, FL.v_bsN, FL.v_bsI, FL.v_sf, FL.callD, Option.bind_some, Option.bind_none, List.getElem?_cons_zero, List.getElem?_cons_succ, List.getElem?_nil, List.set_cons_zero, List.set_cons_succ, List.length_cons, List.length_nil, List.filterMap_cons, List.filterMap_nil, decide_eq_true_eq, if_true, if_false, true_and, and_true, Nat.reduceAdd, Nat.reduceLeDiff, Nat.reduceEqDiff, ↓reduceIte, Bool.false_eq_true, FL.startE, FL.backs, List.map_cons, List.map_nil, List.cons_append, List.nil_append, Nat.reduceSub, List.replicate_succ, List.replicate_zero, List.nodup_nil, List.nodup_cons, List.not_mem_nil, not_false_eq_true, and_self, reduceCtorEq, Option.map_some, Option.map_none, hz, decide_true]
  · simp -implicitDefEqProofs only [FL.v_seq, FL.v_thN, FL.v_thR, FL.v_thB, FL.v_thC, FL.v_ifS, FL.v_asg, FL.v_ret, FL.v_retN, FL.v_drop, FL.v_nx, FL.v_bk, FL.v_ct, FL.v_name, FL.v_pN, FL.v_pV, FL.v_var, FL.v_at, FL.v_trV, FL.v_trP, FL.v_wV, FL.v_wP, FL.v_C, FL.v_ER, FL.v_Fz, FL.v_fO, FL.v_fS, FL.v_fV, FL.v_fP, FL.v_fL, FL.v_vS, FL.v_vO, FL.v_op, FL.v_un, FL.v_bOf, FL.v_test, FL.v_and, FL.v_or, FL.v_not, FL.v_tru, FL.v_trB, FL.v_andV, FL.v_orV, FL.v_notV, FL.v_if, FL.v_chain, FL.v_arN, FL.v_arC, FL.v_faN, FL.v_faC, FL.v_tup, FL.v_lst, FL.v_tdN, FL.v_tdC, FL.v_tdI, FL.v_tdL, FL.toDs_imms, FL.imms_imms, FL.v_cb, FL.v_vsN, FL.v_vsC, FL.v_bm, FL.v_tyS, FL.v_tyL, FL.v_sl, FL.v_moN, FL.v_moS, FL.v_iOf, FL.v_call, FL.v_osO, FL.v_osS, FL.v_isI, FL.v_isL, FL.v_isD, FL.v_gN, FL.v_gO, FL.v_gS, FL.v_for, FL.v_lc, FL.v_sub, FL.v_sub2, FL.v_iAt, FL.v_iC, FL.v_aug, FL.v_par, FL.v_mut, FL.v_rng1, FL.v_rng2, FL.v_seqI, FL.v_enum, FL.v_isi, FL.v_addI, FL.v_addS, FL.v_addT, FL.v_addL, FL.v_subI, FL.v_neg, FL.v_lt, FL.v_le, FL.v_gt, FL.v_ge, FL.v_eqI, FL.v_neI, FL.v_eqS, FL.v_neS, FL.v_ixT, FL.v_ixD, FL.v_ixL, FL.v_ixS, FL.v_len, FL.v_lnT, FL.v_lnD, FL.v_lnL, FL.v_lnS, FL.v_abs, FL.v_max, FL.v_min, FL.v_int, FL.v_intB, FL.v_tuple, FL.v_list, FL.v_sqT, FL.v_sqD, FL.v_sqL, FL.v_itT, FL.v_itL, FL.v_itS, FL.v_isN, FL.v_notN, FL.v_setL, FL.v_setD, FL.v_kS, FL.v_kI, FL.v_mp, FL.v_mpn, FL.v_pO, FL.v_tupG, FL.v_gsC, FL.v_gsN, FL.v_slD, FL.v_at0, FL.v_at1, FL.v_at2, FL.v_i30, FL.v_i31, FL.v_i32, FL.v_Mv, FL.v_mvV, FL.v_pr, FL.v_wpN, FL.v_wpC, FL.v_wsN, FL.v_wsV, FL.v_wsO, FL.v_bkN, FL.v_bkC, FL.v_bsN, FL.v_bsI, FL.v_sf, FL.callD, Option.bind_some, Option.bind_none, List.getElem?_cons_zero, List.getElem?_cons_succ, List.getElem?_nil, List.set_cons_zero, List.set_cons_succ, List.length_cons, List.length_nil, List.filterMap_cons, List.filterMap_nil, decide_eq_true_eq, if_true, if_false, true_and, and_true, Nat.reduceAdd, Nat.reduceLeDiff, Nat.reduceEqDiff, ↓reduceIte, Bool.false_eq_true, FL.startE, FL.backs, List.map_cons, List.map_nil, List.cons_append, List.nil_append, Nat.reduceSub, List.replicate_succ, List.replicate_zero, List.nodup_nil, List.nodup_cons, List.not_mem_nil, not_false_eq_true, and_self, reduceCtorEq, Option.map_some, Option.map_none, hz, decide_false, e]
def numP (z : Str) : PyData → Bool
  | .int x => decide (z = numS x)
  | _ => false
def numL : List PyData := [.int 0, .int 3, .int 4, .int 5, .int 6, .int 7, .int 8, .int 9, .int 10, .int 11, .int 12]
theorem num_find : ∀ w : Fin 13, w.val ≠ 1 → w.val ≠ 2 → ([0, 3, 4, 5, 6, 7, 8, 9, 10, 11, 12] : List Nat).find? (fun x => decide (numS ((w.val : Nat) : Int) = numS (x : Nat))) = some w.val := by decide +kernel
theorem numL_is : numL = ([0, 3, 4, 5, 6, 7, 8, 9, 10, 11, 12] : List Nat).map fun x => PyData.int (x : Nat) := rfl
theorem numL_find (w : Nat) (h : w < 13) (h1 : w ≠ 1) (h2 : w ≠ 2) : numL.find? (numP (numS (w : Nat))) = some (.int (w : Nat)) := by
  rw [numL_is, List.find?_map]
  have := num_find ⟨w, h⟩ h1 h2
  show Option.map _ (List.find? (fun x : Nat => decide (numS (w : Nat) = numS (x : Nat))) _) = _
  rw [this]; rfl
theorem numtold_one (w : Nat) (h : w < 13) (h1 : w ≠ 1) (h2 : w ≠ 2) : mFn 2 m_number_told [.imm (.str (numS (w : Nat)))] = some (.imm (.int (w : Nat)), [.imm (.str (numS (w : Nat)))]) := by
  obtain ⟨s, e⟩ := forD_find (g := mName 1) (ms := (mIfS (mTest (mOp fEq (mVar 0) (mER (mCall 1 (mFn 1 m_number_text) (arCons (mVar 1) arNil))))) (mRet (mFz (mVar 1))) mNext)) (fun s => [.val (.imm (.str (numS (w : Nat)))), ov s]) (numP (numS (w : Nat))) numL (fun d hd s => by
      rw [numL_is] at hd
      obtain ⟨x, hx, rfl⟩ := List.mem_map.mp hd
      have hx2 : x ≤ 1000 := by
        have : ∀ y ∈ ([0, 3, 4, 5, 6, 7, 8, 9, 10, 11, 12] : List Nat), y ≤ 1000 := by decide
        exact this x hx
      have e1 := numtext_one x hx2
      refine ⟨some (.imm (.int (x : Nat))), [.val (.imm (.str (numS (w : Nat)))), .val (.imm (.int (x : Nat)))], by simp -implicitDefEqProofs only [FL.v_seq, FL.v_thN, FL.v_thR, FL.v_thB, FL.v_thC, FL.v_ifS, FL.v_asg, FL.v_ret, FL.v_retN, FL.v_drop, FL.v_nx, FL.v_bk, FL.v_ct, FL.v_name, FL.v_pN, FL.v_pV, FL.v_var, FL.v_at, FL.v_trV, FL.v_trP, FL.v_wV, FL.v_wP, FL.v_C, FL.v_ER, FL.v_Fz, FL.v_fO, FL.v_fS, FL.v_fV, FL.v_fP, FL.v_fL, FL.v_vS, FL.v_vO, FL.v_op, FL.v_un, FL.v_bOf, FL.v_test, FL.v_and, FL.v_or, FL.v_not, FL.v_tru, FL.v_trB, FL.v_andV, FL.v_orV, FL.v_notV, FL.v_if, FL.v_chain, FL.v_arN, FL.v_arC, FL.v_faN, FL.v_faC, FL.v_tup, FL.v_lst, FL.v_tdN, FL.v_tdC, FL.v_tdI, FL.v_tdL, FL.toDs_imms, FL.imms_imms, FL.v_cb, FL.v_vsN, FL.v_vsC, FL.v_bm, FL.v_tyS, FL.v_tyL, FL.v_sl, FL.v_moN, FL.v_moS, FL.v_iOf, FL.v_call, FL.v_osO, FL.v_osS, FL.v_isI, FL.v_isL, FL.v_isD, FL.v_gN, FL.v_gO, FL.v_gS, FL.v_for, FL.v_lc, FL.v_sub, FL.v_sub2, FL.v_iAt, FL.v_iC, FL.v_aug, FL.v_par, FL.v_mut, FL.v_rng1, FL.v_rng2, FL.v_seqI, FL.v_enum, FL.v_isi, FL.v_addI, FL.v_addS, FL.v_addT, FL.v_addL, FL.v_subI, FL.v_neg, FL.v_lt, FL.v_le, FL.v_gt, FL.v_ge, FL.v_eqI, FL.v_neI, FL.v_eqS, FL.v_neS, FL.v_ixT, FL.v_ixD, FL.v_ixL, FL.v_ixS, FL.v_len, FL.v_lnT, FL.v_lnD, FL.v_lnL, FL.v_lnS, FL.v_abs, FL.v_max, FL.v_min, FL.v_int, FL.v_intB, FL.v_tuple, FL.v_list, FL.v_sqT, FL.v_sqD, FL.v_sqL, FL.v_itT, FL.v_itL, FL.v_itS, FL.v_isN, FL.v_notN, FL.v_setL, FL.v_setD, FL.v_kS, FL.v_kI, FL.v_mp, FL.v_mpn, FL.v_pO, FL.v_tupG, FL.v_gsC, FL.v_gsN, FL.v_slD, FL.v_at0, FL.v_at1, FL.v_at2, FL.v_i30, FL.v_i31, FL.v_i32, FL.v_Mv, FL.v_mvV, FL.v_pr, FL.v_wpN, FL.v_wpC, FL.v_wsN, FL.v_wsV, FL.v_wsO, FL.v_bkN, FL.v_bkC, FL.v_bsN, FL.v_bsI, FL.v_sf, FL.callD, Option.bind_some, Option.bind_none, List.getElem?_cons_zero, List.getElem?_cons_succ, List.getElem?_nil, List.set_cons_zero, List.set_cons_succ, List.length_cons, List.length_nil, List.filterMap_cons, List.filterMap_nil, decide_eq_true_eq, if_true, if_false, true_and, and_true, Nat.reduceAdd, Nat.reduceLeDiff, Nat.reduceEqDiff, ↓reduceIte, Bool.false_eq_true, FL.startE, FL.backs, List.map_cons, List.map_nil, List.cons_append, List.nil_append, Nat.reduceSub, List.replicate_succ, List.replicate_zero, List.nodup_nil, List.nodup_cons, List.not_mem_nil, not_false_eq_true, and_self, reduceCtorEq, Option.map_some, Option.map_none], ?_⟩
      show _ = some (if decide (numS (w : Nat) = numS (x : Nat)) = true then _ else _)
      by_cases he : numS (w : Nat) = numS (x : Nat)
      · simp -implicitDefEqProofs only [FL.v_seq, FL.v_thN, FL.v_thR, FL.v_thB, FL.v_thC, FL.v_ifS, FL.v_asg, FL.v_ret, FL.v_retN, FL.v_drop, FL.v_nx, FL.v_bk, FL.v_ct, FL.v_name, FL.v_pN, FL.v_pV, FL.v_var, FL.v_at, FL.v_trV, FL.v_trP, FL.v_wV, FL.v_wP, FL.v_C, FL.v_ER, FL.v_Fz, FL.v_fO, FL.v_fS, FL.v_fV, FL.v_fP, FL.v_fL, FL.v_vS, FL.v_vO, FL.v_op, FL.v_un, FL.v_bOf, FL.v_test, FL.v_and, FL.v_or, FL.v_not, FL.v_tru, FL.v_trB, FL.v_andV, FL.v_orV, FL.v_notV, FL.v_if, FL.v_chain, FL.v_arN, FL.v_arC, FL.v_faN, FL.v_faC, FL.v_tup, FL.v_lst, FL.v_tdN, FL.v_tdC, FL.v_tdI, FL.v_tdL, FL.toDs_imms, FL.imms_imms, FL.v_cb, FL.v_vsN, FL.v_vsC, FL.v_bm, FL.v_tyS, FL.v_tyL, FL.v_sl, FL.v_moN, FL.v_moS, FL.v_iOf, FL.v_call, FL.v_osO, FL.v_osS, FL.v_isI, FL.v_isL, FL.v_isD, FL.v_gN, FL.v_gO, FL.v_gS, FL.v_for, FL.v_lc, FL.v_sub, FL.v_sub2, FL.v_iAt, FL.v_iC, FL.v_aug, FL.v_par, FL.v_mut, FL.v_rng1, FL.v_rng2, FL.v_seqI, FL.v_enum, FL.v_isi, FL.v_addI, FL.v_addS, FL.v_addT, FL.v_addL, FL.v_subI, FL.v_neg, FL.v_lt, FL.v_le, FL.v_gt, FL.v_ge, FL.v_eqI, FL.v_neI, FL.v_eqS, FL.v_neS, FL.v_ixT, FL.v_ixD, FL.v_ixL, FL.v_ixS, FL.v_len, FL.v_lnT, FL.v_lnD, FL.v_lnL, FL.v_lnS, FL.v_abs, FL.v_max, FL.v_min, FL.v_int, FL.v_intB, FL.v_tuple, FL.v_list, FL.v_sqT, FL.v_sqD, FL.v_sqL, FL.v_itT, FL.v_itL, FL.v_itS, FL.v_isN, FL.v_notN, FL.v_setL, FL.v_setD, FL.v_kS, FL.v_kI, FL.v_mp, FL.v_mpn, FL.v_pO, FL.v_tupG, FL.v_gsC, FL.v_gsN, FL.v_slD, FL.v_at0, FL.v_at1, FL.v_at2, FL.v_i30, FL.v_i31, FL.v_i32, FL.v_Mv, FL.v_mvV, FL.v_pr, FL.v_wpN, FL.v_wpC, FL.v_wsN, FL.v_wsV, FL.v_wsO, FL.v_bkN, FL.v_bkC, FL.v_bsN, FL.v_bsI, FL.v_sf, FL.callD, Option.bind_some, Option.bind_none, List.getElem?_cons_zero, List.getElem?_cons_succ, List.getElem?_nil, List.set_cons_zero, List.set_cons_succ, List.length_cons, List.length_nil, List.filterMap_cons, List.filterMap_nil, decide_eq_true_eq, if_true, if_false, true_and, and_true, Nat.reduceAdd, Nat.reduceLeDiff, Nat.reduceEqDiff, ↓reduceIte, Bool.false_eq_true, FL.startE, FL.backs, List.map_cons, List.map_nil, List.cons_append, List.nil_append, Nat.reduceSub, List.replicate_succ, List.replicate_zero, List.nodup_nil, List.nodup_cons, List.not_mem_nil, not_false_eq_true, and_self, reduceCtorEq, Option.map_some, Option.map_none, e1, decide_eq_true he]; rfl
      · simp -implicitDefEqProofs only [FL.v_seq, FL.v_thN, FL.v_thR, FL.v_thB, FL.v_thC, FL.v_ifS, FL.v_asg, FL.v_ret, FL.v_retN, FL.v_drop, FL.v_nx, FL.v_bk, FL.v_ct, FL.v_name, FL.v_pN, FL.v_pV, FL.v_var, FL.v_at, FL.v_trV, FL.v_trP, FL.v_wV, FL.v_wP, FL.v_C, FL.v_ER, FL.v_Fz, FL.v_fO, FL.v_fS, FL.v_fV, FL.v_fP, FL.v_fL, FL.v_vS, FL.v_vO, FL.v_op, FL.v_un, FL.v_bOf, FL.v_test, FL.v_and, FL.v_or, FL.v_not, FL.v_tru, FL.v_trB, FL.v_andV, FL.v_orV, FL.v_notV, FL.v_if, FL.v_chain, FL.v_arN, FL.v_arC, FL.v_faN, FL.v_faC, FL.v_tup, FL.v_lst, FL.v_tdN, FL.v_tdC, FL.v_tdI, FL.v_tdL, FL.toDs_imms, FL.imms_imms, FL.v_cb, FL.v_vsN, FL.v_vsC, FL.v_bm, FL.v_tyS, FL.v_tyL, FL.v_sl, FL.v_moN, FL.v_moS, FL.v_iOf, FL.v_call, FL.v_osO, FL.v_osS, FL.v_isI, FL.v_isL, FL.v_isD, FL.v_gN, FL.v_gO, FL.v_gS, FL.v_for, FL.v_lc, FL.v_sub, FL.v_sub2, FL.v_iAt, FL.v_iC, FL.v_aug, FL.v_par, FL.v_mut, FL.v_rng1, FL.v_rng2, FL.v_seqI, FL.v_enum, FL.v_isi, FL.v_addI, FL.v_addS, FL.v_addT, FL.v_addL, FL.v_subI, FL.v_neg, FL.v_lt, FL.v_le, FL.v_gt, FL.v_ge, FL.v_eqI, FL.v_neI, FL.v_eqS, FL.v_neS, FL.v_ixT, FL.v_ixD, FL.v_ixL, FL.v_ixS, FL.v_len, FL.v_lnT, FL.v_lnD, FL.v_lnL, FL.v_lnS, FL.v_abs, FL.v_max, FL.v_min, FL.v_int, FL.v_intB, FL.v_tuple, FL.v_list, FL.v_sqT, FL.v_sqD, FL.v_sqL, FL.v_itT, FL.v_itL, FL.v_itS, FL.v_isN, FL.v_notN, FL.v_setL, FL.v_setD, FL.v_kS, FL.v_kI, FL.v_mp, FL.v_mpn, FL.v_pO, FL.v_tupG, FL.v_gsC, FL.v_gsN, FL.v_slD, FL.v_at0, FL.v_at1, FL.v_at2, FL.v_i30, FL.v_i31, FL.v_i32, FL.v_Mv, FL.v_mvV, FL.v_pr, FL.v_wpN, FL.v_wpC, FL.v_wsN, FL.v_wsV, FL.v_wsO, FL.v_bkN, FL.v_bkC, FL.v_bsN, FL.v_bsI, FL.v_sf, FL.callD, Option.bind_some, Option.bind_none, List.getElem?_cons_zero, List.getElem?_cons_succ, List.getElem?_nil, List.set_cons_zero, List.set_cons_succ, List.length_cons, List.length_nil, List.filterMap_cons, List.filterMap_nil, decide_eq_true_eq, if_true, if_false, true_and, and_true, Nat.reduceAdd, Nat.reduceLeDiff, Nat.reduceEqDiff, ↓reduceIte, Bool.false_eq_true, FL.startE, FL.backs, List.map_cons, List.map_nil, List.cons_append, List.nil_append, Nat.reduceSub, List.replicate_succ, List.replicate_zero, List.nodup_nil, List.nodup_cons, List.not_mem_nil, not_false_eq_true, and_self, reduceCtorEq, Option.map_some, Option.map_none, e1, decide_eq_false he]; rfl) none
  rw [numL_find w h h1 h2] at e
  have hr : rngOk (12 + 1) = true := rng_nat (n := 13) (by decide)
  have hr2 : rngOk 3 = true := rng_nat (n := 3) (by decide)
  have e2 : mLstRg (rgM2 (mC (.int 3)) (mOp fAdd (mER (mC (.int 12))) (mER (mC (.int 1))))) [.val (.imm (.str (numS (w : Nat)))), .no] = some (.lst ([.int 3, .int 4, .int 5, .int 6, .int 7, .int 8, .int 9, .int 10, .int 11, .int 12].map Tr.imm), [.val (.imm (.str (numS (w : Nat)))), .no]) := by
    unfold mLstRg rgM2
    simp -implicitDefEqProofs only [FL.v_seq, FL.v_thN, FL.v_thR, FL.v_thB, FL.v_thC, FL.v_ifS, FL.v_asg, FL.v_ret, FL.v_retN, FL.v_drop, FL.v_nx, FL.v_bk, FL.v_ct, FL.v_name, FL.v_pN, FL.v_pV, FL.v_var, FL.v_at, FL.v_trV, FL.v_trP, FL.v_wV, FL.v_wP, FL.v_C, FL.v_ER, FL.v_Fz, FL.v_fO, FL.v_fS, FL.v_fV, FL.v_fP, FL.v_fL, FL.v_vS, FL.v_vO, FL.v_op, FL.v_un, FL.v_bOf, FL.v_test, FL.v_and, FL.v_or, FL.v_not, FL.v_tru, FL.v_trB, FL.v_andV, FL.v_orV, FL.v_notV, FL.v_if, FL.v_chain, FL.v_arN, FL.v_arC, FL.v_faN, FL.v_faC, FL.v_tup, FL.v_lst, FL.v_tdN, FL.v_tdC, FL.v_tdI, FL.v_tdL, FL.toDs_imms, FL.imms_imms, FL.v_cb, FL.v_vsN, FL.v_vsC, FL.v_bm, FL.v_tyS, FL.v_tyL, FL.v_sl, FL.v_moN, FL.v_moS, FL.v_iOf, FL.v_call, FL.v_osO, FL.v_osS, FL.v_isI, FL.v_isL, FL.v_isD, FL.v_gN, FL.v_gO, FL.v_gS, FL.v_for, FL.v_lc, FL.v_sub, FL.v_sub2, FL.v_iAt, FL.v_iC, FL.v_aug, FL.v_par, FL.v_mut, FL.v_rng1, FL.v_rng2, FL.v_seqI, FL.v_enum, FL.v_isi, FL.v_addI, FL.v_addS, FL.v_addT, FL.v_addL, FL.v_subI, FL.v_neg, FL.v_lt, FL.v_le, FL.v_gt, FL.v_ge, FL.v_eqI, FL.v_neI, FL.v_eqS, FL.v_neS, FL.v_ixT, FL.v_ixD, FL.v_ixL, FL.v_ixS, FL.v_len, FL.v_lnT, FL.v_lnD, FL.v_lnL, FL.v_lnS, FL.v_abs, FL.v_max, FL.v_min, FL.v_int, FL.v_intB, FL.v_tuple, FL.v_list, FL.v_sqT, FL.v_sqD, FL.v_sqL, FL.v_itT, FL.v_itL, FL.v_itS, FL.v_isN, FL.v_notN, FL.v_setL, FL.v_setD, FL.v_kS, FL.v_kI, FL.v_mp, FL.v_mpn, FL.v_pO, FL.v_tupG, FL.v_gsC, FL.v_gsN, FL.v_slD, FL.v_at0, FL.v_at1, FL.v_at2, FL.v_i30, FL.v_i31, FL.v_i32, FL.v_Mv, FL.v_mvV, FL.v_pr, FL.v_wpN, FL.v_wpC, FL.v_wsN, FL.v_wsV, FL.v_wsO, FL.v_bkN, FL.v_bkC, FL.v_bsN, FL.v_bsI, FL.v_sf, FL.callD, Option.bind_some, Option.bind_none, List.getElem?_cons_zero, List.getElem?_cons_succ, List.getElem?_nil, List.set_cons_zero, List.set_cons_succ, List.length_cons, List.length_nil, List.filterMap_cons, List.filterMap_nil, decide_eq_true_eq, if_true, if_false, true_and, and_true, Nat.reduceAdd, Nat.reduceLeDiff, Nat.reduceEqDiff, ↓reduceIte, Bool.false_eq_true, FL.startE, FL.backs, List.map_cons, List.map_nil, List.cons_append, List.nil_append, Nat.reduceSub, List.replicate_succ, List.replicate_zero, List.nodup_nil, List.nodup_cons, List.not_mem_nil, not_false_eq_true, and_self, reduceCtorEq, Option.map_some, Option.map_none, hr, hr2]
    rfl
  unfold numL at e
  simp only [show ov none = SL.no from rfl] at e
  rw [v_fn]
  unfold m_number_told
  simp -implicitDefEqProofs only [FL.v_seq, FL.v_thN, FL.v_thR, FL.v_thB, FL.v_thC, FL.v_ifS, FL.v_asg, FL.v_ret, FL.v_retN, FL.v_drop, FL.v_nx, FL.v_bk, FL.v_ct, FL.v_name, FL.v_pN, FL.v_pV, FL.v_var, FL.v_at, FL.v_trV, FL.v_trP, FL.v_wV, FL.v_wP, FL.v_C, FL.v_ER, FL.v_Fz, FL.v_fO, FL.v_fS, FL.v_fV, FL.v_fP, FL.v_fL, FL.v_vS, FL.v_vO, FL.v_op, FL.v_un, FL.v_bOf, FL.v_test, FL.v_and, FL.v_or, FL.v_not, FL.v_tru, FL.v_trB, FL.v_andV, FL.v_orV, FL.v_notV, FL.v_if, FL.v_chain, FL.v_arN, FL.v_arC, FL.v_faN, FL.v_faC, FL.v_tup, FL.v_lst, FL.v_tdN, FL.v_tdC, FL.v_tdI, FL.v_tdL, FL.toDs_imms, FL.imms_imms, FL.v_cb, FL.v_vsN, FL.v_vsC, FL.v_bm, FL.v_tyS, FL.v_tyL, FL.v_sl, FL.v_moN, FL.v_moS, FL.v_iOf, FL.v_call, FL.v_osO, FL.v_osS, FL.v_isI, FL.v_isL, FL.v_isD, FL.v_gN, FL.v_gO, FL.v_gS, FL.v_for, FL.v_lc, FL.v_sub, FL.v_sub2, FL.v_iAt, FL.v_iC, FL.v_aug, FL.v_par, FL.v_mut, FL.v_rng1, FL.v_rng2, FL.v_seqI, FL.v_enum, FL.v_isi, FL.v_addI, FL.v_addS, FL.v_addT, FL.v_addL, FL.v_subI, FL.v_neg, FL.v_lt, FL.v_le, FL.v_gt, FL.v_ge, FL.v_eqI, FL.v_neI, FL.v_eqS, FL.v_neS, FL.v_ixT, FL.v_ixD, FL.v_ixL, FL.v_ixS, FL.v_len, FL.v_lnT, FL.v_lnD, FL.v_lnL, FL.v_lnS, FL.v_abs, FL.v_max, FL.v_min, FL.v_int, FL.v_intB, FL.v_tuple, FL.v_list, FL.v_sqT, FL.v_sqD, FL.v_sqL, FL.v_itT, FL.v_itL, FL.v_itS, FL.v_isN, FL.v_notN, FL.v_setL, FL.v_setD, FL.v_kS, FL.v_kI, FL.v_mp, FL.v_mpn, FL.v_pO, FL.v_tupG, FL.v_gsC, FL.v_gsN, FL.v_slD, FL.v_at0, FL.v_at1, FL.v_at2, FL.v_i30, FL.v_i31, FL.v_i32, FL.v_Mv, FL.v_mvV, FL.v_pr, FL.v_wpN, FL.v_wpC, FL.v_wsN, FL.v_wsV, FL.v_wsO, FL.v_bkN, FL.v_bkC, FL.v_bsN, FL.v_bsI, FL.v_sf, FL.callD, Option.bind_some, Option.bind_none, List.getElem?_cons_zero, List.getElem?_cons_succ, List.getElem?_nil, List.set_cons_zero, List.set_cons_succ, List.length_cons, List.length_nil, List.filterMap_cons, List.filterMap_nil, decide_eq_true_eq, if_true, if_false, true_and, and_true, Nat.reduceAdd, Nat.reduceLeDiff, Nat.reduceEqDiff, ↓reduceIte, Bool.false_eq_true, FL.startE, FL.backs, List.map_cons, List.map_nil, List.cons_append, List.nil_append, Nat.reduceSub, List.replicate_succ, List.replicate_zero, List.nodup_nil, List.nodup_cons, List.not_mem_nil, not_false_eq_true, and_self, reduceCtorEq, Option.map_some, Option.map_none, e2, imms, show (1 ≤ 16777216) = True from eq_true (by decide), e]
/-! the head -/
def headS (n : Nat) : Str := (Str.ofString "mirrors ") ++ (Str.ofString (toString (n : Int) : String))
def headP (z : Str) : PyData → Bool
  | .int x => decide (z = headS x.toNat)
  | _ => false
theorem head_find : ∀ n : Fin 9, (List.range 9).find? (fun x => decide (headS n.val = headS x)) = some n.val := by decide +kernel
theorem head_len : ∀ n : Fin 9, (headS n.val).length ≤ 9 ∧ (10 ∉ (headS n.val).cps.toList) := by decide +kernel
theorem head_l1 : ∀ n : Fin 9, (Str.ofString "mirrors ").length + (Str.ofString (toString ((n.val : Nat) : Int) : String)).length ≤ 16777216 := by decide +kernel
theorem mirtold_one (n : Nat) (h : n ≤ 8) : mFn 2 m_mirrors_told [.imm (.str (headS n))] = some (.imm (.int (n : Nat)), [.imm (.str (headS n))]) := by
  obtain ⟨s, e⟩ := forD_find (g := mName 1) (ms := (mIfS (mTest (mOp fEq (mVar 0) (mER (mOp fAdd (mER (mC (.str "mirrors "))) (mER (mCB fStrI (arCons (mVar 1) arNil))))))) (mRet (mFz (mVar 1))) mNext)) (fun s => [.val (.imm (.str (headS n))), ov s]) (headP (headS n)) (rangeD 0 9) (fun d hd s => by
      obtain ⟨i, hi, rfl⟩ := List.mem_iff_getElem.mp hd
      obtain ⟨hi9, hd⟩ := rangeD_at (List.getElem?_eq_getElem hi)
      rw [hd, Int.zero_add]
      have e1 := v_strI (i := (i : Nat)) (small_log (by omega))
      have e2 := head_l1 ⟨i, hi9⟩
      refine ⟨some (.imm (.int (i : Nat))), [.val (.imm (.str (headS n))), .val (.imm (.int (i : Nat)))], by simp -implicitDefEqProofs only [FL.v_seq, FL.v_thN, FL.v_thR, FL.v_thB, FL.v_thC, FL.v_ifS, FL.v_asg, FL.v_ret, FL.v_retN, FL.v_drop, FL.v_nx, FL.v_bk, FL.v_ct, FL.v_name, FL.v_pN, FL.v_pV, FL.v_var, FL.v_at, FL.v_trV, FL.v_trP, FL.v_wV, FL.v_wP, FL.v_C, FL.v_ER, FL.v_Fz, FL.v_fO, FL.v_fS, FL.v_fV, FL.v_fP, FL.v_fL, FL.v_vS, FL.v_vO, FL.v_op, FL.v_un, FL.v_bOf, FL.v_test, FL.v_and, FL.v_or, FL.v_not, FL.v_tru, FL.v_trB, FL.v_andV, FL.v_orV, FL.v_notV, FL.v_if, FL.v_chain, FL.v_arN, FL.v_arC, FL.v_faN, FL.v_faC, FL.v_tup, FL.v_lst, FL.v_tdN, FL.v_tdC, FL.v_tdI, FL.v_tdL, FL.toDs_imms, FL.imms_imms, FL.v_cb, FL.v_vsN, FL.v_vsC, FL.v_bm, FL.v_tyS, FL.v_tyL, FL.v_sl, FL.v_moN, FL.v_moS, FL.v_iOf, FL.v_call, FL.v_osO, FL.v_osS, FL.v_isI, FL.v_isL, FL.v_isD, FL.v_gN, FL.v_gO, FL.v_gS, FL.v_for, FL.v_lc, FL.v_sub, FL.v_sub2, FL.v_iAt, FL.v_iC, FL.v_aug, FL.v_par, FL.v_mut, FL.v_rng1, FL.v_rng2, FL.v_seqI, FL.v_enum, FL.v_isi, FL.v_addI, FL.v_addS, FL.v_addT, FL.v_addL, FL.v_subI, FL.v_neg, FL.v_lt, FL.v_le, FL.v_gt, FL.v_ge, FL.v_eqI, FL.v_neI, FL.v_eqS, FL.v_neS, FL.v_ixT, FL.v_ixD, FL.v_ixL, FL.v_ixS, FL.v_len, FL.v_lnT, FL.v_lnD, FL.v_lnL, FL.v_lnS, FL.v_abs, FL.v_max, FL.v_min, FL.v_int, FL.v_intB, FL.v_tuple, FL.v_list, FL.v_sqT, FL.v_sqD, FL.v_sqL, FL.v_itT, FL.v_itL, FL.v_itS, FL.v_isN, FL.v_notN, FL.v_setL, FL.v_setD, FL.v_kS, FL.v_kI, FL.v_mp, FL.v_mpn, FL.v_pO, FL.v_tupG, FL.v_gsC, FL.v_gsN, FL.v_slD, FL.v_at0, FL.v_at1, FL.v_at2, FL.v_i30, FL.v_i31, FL.v_i32, FL.v_Mv, FL.v_mvV, FL.v_pr, FL.v_wpN, FL.v_wpC, FL.v_wsN, FL.v_wsV, FL.v_wsO, FL.v_bkN, FL.v_bkC, FL.v_bsN, FL.v_bsI, FL.v_sf, FL.callD, Option.bind_some, Option.bind_none, List.getElem?_cons_zero, List.getElem?_cons_succ, List.getElem?_nil, List.set_cons_zero, List.set_cons_succ, List.length_cons, List.length_nil, List.filterMap_cons, List.filterMap_nil, decide_eq_true_eq, if_true, if_false, true_and, and_true, Nat.reduceAdd, Nat.reduceLeDiff, Nat.reduceEqDiff, ↓reduceIte, Bool.false_eq_true, FL.startE, FL.backs, List.map_cons, List.map_nil, List.cons_append, List.nil_append, Nat.reduceSub, List.replicate_succ, List.replicate_zero, List.nodup_nil, List.nodup_cons, List.not_mem_nil, not_false_eq_true, and_self, reduceCtorEq, Option.map_some, Option.map_none], ?_⟩
      show _ = some (if decide (headS n = headS ((i : Nat) : Int).toNat) = true then _ else _)
      rw [Int.toNat_natCast]
      by_cases he : headS n = headS i
      · have he2 := he
        unfold headS at he2
        simp -implicitDefEqProofs only [FL.v_seq, FL.v_thN, FL.v_thR, FL.v_thB, FL.v_thC, FL.v_ifS, FL.v_asg, FL.v_ret, FL.v_retN, FL.v_drop, FL.v_nx, FL.v_bk, FL.v_ct, FL.v_name, FL.v_pN, FL.v_pV, FL.v_var, FL.v_at, FL.v_trV, FL.v_trP, FL.v_wV, FL.v_wP, FL.v_C, FL.v_ER, FL.v_Fz, FL.v_fO, FL.v_fS, FL.v_fV, FL.v_fP, FL.v_fL, FL.v_vS, FL.v_vO, FL.v_op, FL.v_un, FL.v_bOf, FL.v_test, FL.v_and, FL.v_or, FL.v_not, FL.v_tru, FL.v_trB, FL.v_andV, FL.v_orV, FL.v_notV, FL.v_if, FL.v_chain, FL.v_arN, FL.v_arC, FL.v_faN, FL.v_faC, FL.v_tup, FL.v_lst, FL.v_tdN, FL.v_tdC, FL.v_tdI, FL.v_tdL, FL.toDs_imms, FL.imms_imms, FL.v_cb, FL.v_vsN, FL.v_vsC, FL.v_bm, FL.v_tyS, FL.v_tyL, FL.v_sl, FL.v_moN, FL.v_moS, FL.v_iOf, FL.v_call, FL.v_osO, FL.v_osS, FL.v_isI, FL.v_isL, FL.v_isD, FL.v_gN, FL.v_gO, FL.v_gS, FL.v_for, FL.v_lc, FL.v_sub, FL.v_sub2, FL.v_iAt, FL.v_iC, FL.v_aug, FL.v_par, FL.v_mut, FL.v_rng1, FL.v_rng2, FL.v_seqI, FL.v_enum, FL.v_isi, FL.v_addI, FL.v_addS, FL.v_addT, FL.v_addL, FL.v_subI, FL.v_neg, FL.v_lt, FL.v_le, FL.v_gt, FL.v_ge, FL.v_eqI, FL.v_neI, FL.v_eqS, FL.v_neS, FL.v_ixT, FL.v_ixD, FL.v_ixL, FL.v_ixS, FL.v_len, FL.v_lnT, FL.v_lnD, FL.v_lnL, FL.v_lnS, FL.v_abs, FL.v_max, FL.v_min, FL.v_int, FL.v_intB, FL.v_tuple, FL.v_list, FL.v_sqT, FL.v_sqD, FL.v_sqL, FL.v_itT, FL.v_itL, FL.v_itS, FL.v_isN, FL.v_notN, FL.v_setL, FL.v_setD, FL.v_kS, FL.v_kI, FL.v_mp, FL.v_mpn, FL.v_pO, FL.v_tupG, FL.v_gsC, FL.v_gsN, FL.v_slD, FL.v_at0, FL.v_at1, FL.v_at2, FL.v_i30, FL.v_i31, FL.v_i32, FL.v_Mv, FL.v_mvV, FL.v_pr, FL.v_wpN, FL.v_wpC, FL.v_wsN, FL.v_wsV, FL.v_wsO, FL.v_bkN, FL.v_bkC, FL.v_bsN, FL.v_bsI, FL.v_sf, FL.callD, Option.bind_some, Option.bind_none, List.getElem?_cons_zero, List.getElem?_cons_succ, List.getElem?_nil, List.set_cons_zero, List.set_cons_succ, List.length_cons, List.length_nil, List.filterMap_cons, List.filterMap_nil, decide_eq_true_eq, if_true, if_false, true_and, and_true, Nat.reduceAdd, Nat.reduceLeDiff, Nat.reduceEqDiff, ↓reduceIte, Bool.false_eq_true, FL.startE, FL.backs, List.map_cons, List.map_nil, List.cons_append, List.nil_append, Nat.reduceSub, List.replicate_succ, List.replicate_zero, List.nodup_nil, List.nodup_cons, List.not_mem_nil, not_false_eq_true, and_self, reduceCtorEq, Option.map_some, Option.map_none, e1, e2, decide_eq_true he]
        unfold headS
        simp -implicitDefEqProofs only [FL.v_seq, FL.v_thN, FL.v_thR, FL.v_thB, FL.v_thC, FL.v_ifS, FL.v_asg, FL.v_ret, FL.v_retN, FL.v_drop, FL.v_nx, FL.v_bk, FL.v_ct, FL.v_name, FL.v_pN, FL.v_pV, FL.v_var, FL.v_at, FL.v_trV, FL.v_trP, FL.v_wV, FL.v_wP, FL.v_C, FL.v_ER, FL.v_Fz, FL.v_fO, FL.v_fS, FL.v_fV, FL.v_fP, FL.v_fL, FL.v_vS, FL.v_vO, FL.v_op, FL.v_un, FL.v_bOf, FL.v_test, FL.v_and, FL.v_or, FL.v_not, FL.v_tru, FL.v_trB, FL.v_andV, FL.v_orV, FL.v_notV, FL.v_if, FL.v_chain, FL.v_arN, FL.v_arC, FL.v_faN, FL.v_faC, FL.v_tup, FL.v_lst, FL.v_tdN, FL.v_tdC, FL.v_tdI, FL.v_tdL, FL.toDs_imms, FL.imms_imms, FL.v_cb, FL.v_vsN, FL.v_vsC, FL.v_bm, FL.v_tyS, FL.v_tyL, FL.v_sl, FL.v_moN, FL.v_moS, FL.v_iOf, FL.v_call, FL.v_osO, FL.v_osS, FL.v_isI, FL.v_isL, FL.v_isD, FL.v_gN, FL.v_gO, FL.v_gS, FL.v_for, FL.v_lc, FL.v_sub, FL.v_sub2, FL.v_iAt, FL.v_iC, FL.v_aug, FL.v_par, FL.v_mut, FL.v_rng1, FL.v_rng2, FL.v_seqI, FL.v_enum, FL.v_isi, FL.v_addI, FL.v_addS, FL.v_addT, FL.v_addL, FL.v_subI, FL.v_neg, FL.v_lt, FL.v_le, FL.v_gt, FL.v_ge, FL.v_eqI, FL.v_neI, FL.v_eqS, FL.v_neS, FL.v_ixT, FL.v_ixD, FL.v_ixL, FL.v_ixS, FL.v_len, FL.v_lnT, FL.v_lnD, FL.v_lnL, FL.v_lnS, FL.v_abs, FL.v_max, FL.v_min, FL.v_int, FL.v_intB, FL.v_tuple, FL.v_list, FL.v_sqT, FL.v_sqD, FL.v_sqL, FL.v_itT, FL.v_itL, FL.v_itS, FL.v_isN, FL.v_notN, FL.v_setL, FL.v_setD, FL.v_kS, FL.v_kI, FL.v_mp, FL.v_mpn, FL.v_pO, FL.v_tupG, FL.v_gsC, FL.v_gsN, FL.v_slD, FL.v_at0, FL.v_at1, FL.v_at2, FL.v_i30, FL.v_i31, FL.v_i32, FL.v_Mv, FL.v_mvV, FL.v_pr, FL.v_wpN, FL.v_wpC, FL.v_wsN, FL.v_wsV, FL.v_wsO, FL.v_bkN, FL.v_bkC, FL.v_bsN, FL.v_bsI, FL.v_sf, FL.callD, Option.bind_some, Option.bind_none, List.getElem?_cons_zero, List.getElem?_cons_succ, List.getElem?_nil, List.set_cons_zero, List.set_cons_succ, List.length_cons, List.length_nil, List.filterMap_cons, List.filterMap_nil, decide_eq_true_eq, if_true, if_false, true_and, and_true, Nat.reduceAdd, Nat.reduceLeDiff, Nat.reduceEqDiff, ↓reduceIte, Bool.false_eq_true, FL.startE, FL.backs, List.map_cons, List.map_nil, List.cons_append, List.nil_append, Nat.reduceSub, List.replicate_succ, List.replicate_zero, List.nodup_nil, List.nodup_cons, List.not_mem_nil, not_false_eq_true, and_self, reduceCtorEq, Option.map_some, Option.map_none, he2, decide_true]; rfl
      · have he2 := he
        unfold headS at he2
        simp -implicitDefEqProofs only [FL.v_seq, FL.v_thN, FL.v_thR, FL.v_thB, FL.v_thC, FL.v_ifS, FL.v_asg, FL.v_ret, FL.v_retN, FL.v_drop, FL.v_nx, FL.v_bk, FL.v_ct, FL.v_name, FL.v_pN, FL.v_pV, FL.v_var, FL.v_at, FL.v_trV, FL.v_trP, FL.v_wV, FL.v_wP, FL.v_C, FL.v_ER, FL.v_Fz, FL.v_fO, FL.v_fS, FL.v_fV, FL.v_fP, FL.v_fL, FL.v_vS, FL.v_vO, FL.v_op, FL.v_un, FL.v_bOf, FL.v_test, FL.v_and, FL.v_or, FL.v_not, FL.v_tru, FL.v_trB, FL.v_andV, FL.v_orV, FL.v_notV, FL.v_if, FL.v_chain, FL.v_arN, FL.v_arC, FL.v_faN, FL.v_faC, FL.v_tup, FL.v_lst, FL.v_tdN, FL.v_tdC, FL.v_tdI, FL.v_tdL, FL.toDs_imms, FL.imms_imms, FL.v_cb, FL.v_vsN, FL.v_vsC, FL.v_bm, FL.v_tyS, FL.v_tyL, FL.v_sl, FL.v_moN, FL.v_moS, FL.v_iOf, FL.v_call, FL.v_osO, FL.v_osS, FL.v_isI, FL.v_isL, FL.v_isD, FL.v_gN, FL.v_gO, FL.v_gS, FL.v_for, FL.v_lc, FL.v_sub, FL.v_sub2, FL.v_iAt, FL.v_iC, FL.v_aug, FL.v_par, FL.v_mut, FL.v_rng1, FL.v_rng2, FL.v_seqI, FL.v_enum, FL.v_isi, FL.v_addI, FL.v_addS, FL.v_addT, FL.v_addL, FL.v_subI, FL.v_neg, FL.v_lt, FL.v_le, FL.v_gt, FL.v_ge, FL.v_eqI, FL.v_neI, FL.v_eqS, FL.v_neS, FL.v_ixT, FL.v_ixD, FL.v_ixL, FL.v_ixS, FL.v_len, FL.v_lnT, FL.v_lnD, FL.v_lnL, FL.v_lnS, FL.v_abs, FL.v_max, FL.v_min, FL.v_int, FL.v_intB, FL.v_tuple, FL.v_list, FL.v_sqT, FL.v_sqD, FL.v_sqL, FL.v_itT, FL.v_itL, FL.v_itS, FL.v_isN, FL.v_notN, FL.v_setL, FL.v_setD, FL.v_kS, FL.v_kI, FL.v_mp, FL.v_mpn, FL.v_pO, FL.v_tupG, FL.v_gsC, FL.v_gsN, FL.v_slD, FL.v_at0, FL.v_at1, FL.v_at2, FL.v_i30, FL.v_i31, FL.v_i32, FL.v_Mv, FL.v_mvV, FL.v_pr, FL.v_wpN, FL.v_wpC, FL.v_wsN, FL.v_wsV, FL.v_wsO, FL.v_bkN, FL.v_bkC, FL.v_bsN, FL.v_bsI, FL.v_sf, FL.callD, Option.bind_some, Option.bind_none, List.getElem?_cons_zero, List.getElem?_cons_succ, List.getElem?_nil, List.set_cons_zero, List.set_cons_succ, List.length_cons, List.length_nil, List.filterMap_cons, List.filterMap_nil, decide_eq_true_eq, if_true, if_false, true_and, and_true, Nat.reduceAdd, Nat.reduceLeDiff, Nat.reduceEqDiff, ↓reduceIte, Bool.false_eq_true, FL.startE, FL.backs, List.map_cons, List.map_nil, List.cons_append, List.nil_append, Nat.reduceSub, List.replicate_succ, List.replicate_zero, List.nodup_nil, List.nodup_cons, List.not_mem_nil, not_false_eq_true, and_self, reduceCtorEq, Option.map_some, Option.map_none, e1, e2, decide_eq_false he]
        unfold headS
        simp -implicitDefEqProofs only [FL.v_seq, FL.v_thN, FL.v_thR, FL.v_thB, FL.v_thC, FL.v_ifS, FL.v_asg, FL.v_ret, FL.v_retN, FL.v_drop, FL.v_nx, FL.v_bk, FL.v_ct, FL.v_name, FL.v_pN, FL.v_pV, FL.v_var, FL.v_at, FL.v_trV, FL.v_trP, FL.v_wV, FL.v_wP, FL.v_C, FL.v_ER, FL.v_Fz, FL.v_fO, FL.v_fS, FL.v_fV, FL.v_fP, FL.v_fL, FL.v_vS, FL.v_vO, FL.v_op, FL.v_un, FL.v_bOf, FL.v_test, FL.v_and, FL.v_or, FL.v_not, FL.v_tru, FL.v_trB, FL.v_andV, FL.v_orV, FL.v_notV, FL.v_if, FL.v_chain, FL.v_arN, FL.v_arC, FL.v_faN, FL.v_faC, FL.v_tup, FL.v_lst, FL.v_tdN, FL.v_tdC, FL.v_tdI, FL.v_tdL, FL.toDs_imms, FL.imms_imms, FL.v_cb, FL.v_vsN, FL.v_vsC, FL.v_bm, FL.v_tyS, FL.v_tyL, FL.v_sl, FL.v_moN, FL.v_moS, FL.v_iOf, FL.v_call, FL.v_osO, FL.v_osS, FL.v_isI, FL.v_isL, FL.v_isD, FL.v_gN, FL.v_gO, FL.v_gS, FL.v_for, FL.v_lc, FL.v_sub, FL.v_sub2, FL.v_iAt, FL.v_iC, FL.v_aug, FL.v_par, FL.v_mut, FL.v_rng1, FL.v_rng2, FL.v_seqI, FL.v_enum, FL.v_isi, FL.v_addI, FL.v_addS, FL.v_addT, FL.v_addL, FL.v_subI, FL.v_neg, FL.v_lt, FL.v_le, FL.v_gt, FL.v_ge, FL.v_eqI, FL.v_neI, FL.v_eqS, FL.v_neS, FL.v_ixT, FL.v_ixD, FL.v_ixL, FL.v_ixS, FL.v_len, FL.v_lnT, FL.v_lnD, FL.v_lnL, FL.v_lnS, FL.v_abs, FL.v_max, FL.v_min, FL.v_int, FL.v_intB, FL.v_tuple, FL.v_list, FL.v_sqT, FL.v_sqD, FL.v_sqL, FL.v_itT, FL.v_itL, FL.v_itS, FL.v_isN, FL.v_notN, FL.v_setL, FL.v_setD, FL.v_kS, FL.v_kI, FL.v_mp, FL.v_mpn, FL.v_pO, FL.v_tupG, FL.v_gsC, FL.v_gsN, FL.v_slD, FL.v_at0, FL.v_at1, FL.v_at2, FL.v_i30, FL.v_i31, FL.v_i32, FL.v_Mv, FL.v_mvV, FL.v_pr, FL.v_wpN, FL.v_wpC, FL.v_wsN, FL.v_wsV, FL.v_wsO, FL.v_bkN, FL.v_bkC, FL.v_bsN, FL.v_bsI, FL.v_sf, FL.callD, Option.bind_some, Option.bind_none, List.getElem?_cons_zero, List.getElem?_cons_succ, List.getElem?_nil, List.set_cons_zero, List.set_cons_succ, List.length_cons, List.length_nil, List.filterMap_cons, List.filterMap_nil, decide_eq_true_eq, if_true, if_false, true_and, and_true, Nat.reduceAdd, Nat.reduceLeDiff, Nat.reduceEqDiff, ↓reduceIte, Bool.false_eq_true, FL.startE, FL.backs, List.map_cons, List.map_nil, List.cons_append, List.nil_append, Nat.reduceSub, List.replicate_succ, List.replicate_zero, List.nodup_nil, List.nodup_cons, List.not_mem_nil, not_false_eq_true, and_self, reduceCtorEq, Option.map_some, Option.map_none, he2, decide_false]; rfl) none
  have hf : (rangeD 0 9).find? (headP (headS n)) = some (.int (n : Nat)) := by
    have e0 : rangeD 0 9 = (List.range 9).map fun x => PyData.int (x : Nat) := by
      unfold rangeD
      refine List.map_congr_left fun i _ => ?_
      rw [Int.zero_add]
    rw [e0, List.find?_map]
    have := head_find ⟨n, by omega⟩
    show Option.map _ (List.find? (fun x : Nat => decide (headS n = headS ((x : Nat) : Int).toNat)) _) = _
    simp only [Int.toNat_natCast]
    rw [this]; rfl
  rw [hf] at e
  have hr := fun E => v_rgN (n := 9) (by decide) (E := E)
  rw [show ((9 : Nat) : Int) = 8 + 1 from rfl] at hr
  simp only [show ov none = SL.no from rfl] at e
  rw [v_fn]
  unfold m_mirrors_told
  simp -implicitDefEqProofs only [FL.v_seq, FL.v_thN, FL.v_thR, FL.v_thB, FL.v_thC, FL.v_ifS, FL.v_asg, FL.v_ret, FL.v_retN, FL.v_drop, FL.v_nx, FL.v_bk, FL.v_ct, FL.v_name, FL.v_pN, FL.v_pV, FL.v_var, FL.v_at, FL.v_trV, FL.v_trP, FL.v_wV, FL.v_wP, FL.v_C, FL.v_ER, FL.v_Fz, FL.v_fO, FL.v_fS, FL.v_fV, FL.v_fP, FL.v_fL, FL.v_vS, FL.v_vO, FL.v_op, FL.v_un, FL.v_bOf, FL.v_test, FL.v_and, FL.v_or, FL.v_not, FL.v_tru, FL.v_trB, FL.v_andV, FL.v_orV, FL.v_notV, FL.v_if, FL.v_chain, FL.v_arN, FL.v_arC, FL.v_faN, FL.v_faC, FL.v_tup, FL.v_lst, FL.v_tdN, FL.v_tdC, FL.v_tdI, FL.v_tdL, FL.toDs_imms, FL.imms_imms, FL.v_cb, FL.v_vsN, FL.v_vsC, FL.v_bm, FL.v_tyS, FL.v_tyL, FL.v_sl, FL.v_moN, FL.v_moS, FL.v_iOf, FL.v_call, FL.v_osO, FL.v_osS, FL.v_isI, FL.v_isL, FL.v_isD, FL.v_gN, FL.v_gO, FL.v_gS, FL.v_for, FL.v_lc, FL.v_sub, FL.v_sub2, FL.v_iAt, FL.v_iC, FL.v_aug, FL.v_par, FL.v_mut, FL.v_rng1, FL.v_rng2, FL.v_seqI, FL.v_enum, FL.v_isi, FL.v_addI, FL.v_addS, FL.v_addT, FL.v_addL, FL.v_subI, FL.v_neg, FL.v_lt, FL.v_le, FL.v_gt, FL.v_ge, FL.v_eqI, FL.v_neI, FL.v_eqS, FL.v_neS, FL.v_ixT, FL.v_ixD, FL.v_ixL, FL.v_ixS, FL.v_len, FL.v_lnT, FL.v_lnD, FL.v_lnL, FL.v_lnS, FL.v_abs, FL.v_max, FL.v_min, FL.v_int, FL.v_intB, FL.v_tuple, FL.v_list, FL.v_sqT, FL.v_sqD, FL.v_sqL, FL.v_itT, FL.v_itL, FL.v_itS, FL.v_isN, FL.v_notN, FL.v_setL, FL.v_setD, FL.v_kS, FL.v_kI, FL.v_mp, FL.v_mpn, FL.v_pO, FL.v_tupG, FL.v_gsC, FL.v_gsN, FL.v_slD, FL.v_at0, FL.v_at1, FL.v_at2, FL.v_i30, FL.v_i31, FL.v_i32, FL.v_Mv, FL.v_mvV, FL.v_pr, FL.v_wpN, FL.v_wpC, FL.v_wsN, FL.v_wsV, FL.v_wsO, FL.v_bkN, FL.v_bkC, FL.v_bsN, FL.v_bsI, FL.v_sf, FL.callD, Option.bind_some, Option.bind_none, List.getElem?_cons_zero, List.getElem?_cons_succ, List.getElem?_nil, List.set_cons_zero, List.set_cons_succ, List.length_cons, List.length_nil, List.filterMap_cons, List.filterMap_nil, decide_eq_true_eq, if_true, if_false, true_and, and_true, Nat.reduceAdd, Nat.reduceLeDiff, Nat.reduceEqDiff, ↓reduceIte, Bool.false_eq_true, FL.startE, FL.backs, List.map_cons, List.map_nil, List.cons_append, List.nil_append, Nat.reduceSub, List.replicate_succ, List.replicate_zero, List.nodup_nil, List.nodup_cons, List.not_mem_nil, not_false_eq_true, and_self, reduceCtorEq, Option.map_some, Option.map_none, hr, e]
end WK

namespace WK
open PySem L2 FL
def ltrS (w : Nat) : Str := ⟨#[97 + w]⟩
theorem ltr' (w : Nat) (h : w < 8) : fIx (.imm (.str "abcdefgh")) (.imm (.int (w : Nat))) = some (.imm (.str (ltrS w))) := ltr w h
theorem str_ext {a b : Str} (h : a.cps.toList = b.cps.toList) : a = b := by
  cases a; cases b
  simp only at h
  rw [Array.toList_inj.mp h]
theorem app_list (a b : Str) : (a ++ b).cps.toList = a.cps.toList ++ b.cps.toList := by
  show (a.cps ++ b.cps).toList = _
  simp
theorem app_len (a b : Str) : (a ++ b).length = a.length + b.length := by
  show (a.cps ++ b.cps).size = _
  rw [Array.size_append]; rfl
theorem app_assoc (a b c : Str) : a ++ b ++ c = a ++ (b ++ c) := str_ext (by simp only [app_list, List.append_assoc])
def rowS (i j : Nat) (k : Int) : Str := ltrS i ++ (Str.ofString " ") ++ ltrS j ++ (Str.ofString " ") ++ numS k
theorem sp_len : (Str.ofString " ").length = 1 := by decide +kernel
theorem nl_len : (Str.ofString "\n").length = 1 := by decide +kernel
theorem ltr_l (w : Nat) : (ltrS w).length = 1 := rfl
theorem good_nat {k : Int} (h : goodB k = true) : ∃ w : Nat, w < 13 ∧ w ≠ 1 ∧ k = (w : Nat) := by
  unfold goodB at h
  simp only [Bool.or_eq_true, Bool.and_eq_true, decide_eq_true_eq] at h
  exact ⟨k.toNat, by omega, by omega, by omega⟩
theorem row_len (i j : Nat) (k : Int) (h : goodB k = true) : (rowS i j k).length ≤ 6 := by
  obtain ⟨w, hw, -, rfl⟩ := good_nat h
  have := num_len ⟨w, hw⟩
  unfold rowS
  rw [app_len, app_len, app_len, app_len, sp_len, ltr_l, ltr_l]
  simp only at this
  omega
def strsT (rs : List Str) : Tr := .lst ((rs.map PyData.str).map Tr.imm)
theorem v_append {ts : List Tr} {u : Tr} : fAppend (.lst ts) [u] = if ts.length < 16777216 then some (.imm .none, .lst (ts ++ [u])) else none := rfl
theorem strs_snoc (rs : List Str) (r : Str) : (rs.map PyData.str).map Tr.imm ++ [Tr.imm (.str r)] = ((rs ++ [r]).map PyData.str).map Tr.imm := by
  rw [List.map_append, List.map_append]; rfl
def rowsOf (G : Nat → Nat → Int) (i t : Nat) : List Str := ((List.range t).filter fun j => decide (i < j) && decide (G i j ≠ 2)).map fun j => rowS i j (G i j)
theorem rowsOf_succ (G : Nat → Nat → Int) (i t : Nat) : rowsOf G i (t + 1) = rowsOf G i t ++ (if i < t ∧ G i t ≠ 2 then [rowS i t (G i t)] else []) := by
  unfold rowsOf
  rw [List.range_succ, List.filter_append, List.map_append]
  congr 1
  by_cases h1 : i < t
  · by_cases h2 : G i t ≠ 2
    · rw [if_pos ⟨h1, h2⟩, List.filter_cons_of_pos (by simp [h1, h2])]; rfl
    · rw [if_neg (fun z => h2 z.2), List.filter_cons_of_neg (by simp [h2])]; rfl
  · rw [if_neg (fun z => h1 z.1), List.filter_cons_of_neg (by simp [h1])]; rfl
theorem rowsOf_low (G : Nat → Nat → Int) (i : Nat) : ∀ t, t ≤ i + 1 → rowsOf G i t = []
  | 0, _ => rfl
  | t + 1, h => by rw [rowsOf_succ, rowsOf_low G i t (by omega), if_neg (by omega)]; rfl
theorem rowsOf_len (G : Nat → Nat → Int) (i t : Nat) : (rowsOf G i t).length ≤ t := by
  unfold rowsOf
  rw [List.length_map]
  exact Nat.le_trans (List.length_filter_le _ _) (by rw [List.length_range]; exact Nat.le_refl _)
def rowD (n : Nat) (G : Nat → Nat → Int) (i : Nat) : PyData := .tuple ((List.range n).map fun j => PyData.int (G i j))
theorem rowD_at {n : Nat} {G : Nat → Nat → Int} {i j : Nat} (h : j < n) : fIx (.imm (rowD n G i)) (.imm (.int (j : Nat))) = some (.imm (.int (G i j))) := by
  unfold rowD
  rw [v_ixT, FL.atI_nat (range_get h)]; rfl
theorem show_inner (n : Nat) (hn : n ≤ 8) (G : Nat → Nat → Int) (hG : Sq n G) (T : Tr) (i : Nat) (hi : i < n) (acc : List Str) (ha : acc.length ≤ 1000) (s4 : Option Tr) :
    ∃ s4', forD (mName 4) (mIfS (mTest (mOp fNe (mER (mOp fIx (mVar 3) (mVar 4))) (mER (mC (.int 2))))) (mDrop (mMut 1 "list" fAppend (faCons (mOp fAdd (mER (mOp fAdd (mER (mOp fAdd (mER (mOp fAdd (mER (mOp fIx (mER (mC (.str "abcdefgh"))) (mVar 2))) (mER (mC (.str " "))))) (mER (mOp fIx (mER (mC (.str "abcdefgh"))) (mVar 4))))) (mER (mC (.str " "))))) (mER (mCall 1 (mFn 1 m_number_text) (arCons (mER (mOp fIx (mVar 3) (mVar 4))) arNil)))) faNil))) mNext) (rangeD ((i : Int) + 1) (n - (i + 1))) [.val T, .val (strsT acc), .val (.imm (.int (i : Nat))), .val (.imm (rowD n G i)), ov s4] = some (.nx [.val T, .val (strsT (acc ++ rowsOf G i n)), .val (.imm (.int (i : Nat))), .val (.imm (rowD n G i)), ov s4']) := by
  obtain ⟨E', e, s4', rfl⟩ := forD_inv (g := mName 4) (ms := (mIfS (mTest (mOp fNe (mER (mOp fIx (mVar 3) (mVar 4))) (mER (mC (.int 2))))) (mDrop (mMut 1 "list" fAppend (faCons (mOp fAdd (mER (mOp fAdd (mER (mOp fAdd (mER (mOp fAdd (mER (mOp fIx (mER (mC (.str "abcdefgh"))) (mVar 2))) (mER (mC (.str " "))))) (mER (mOp fIx (mER (mC (.str "abcdefgh"))) (mVar 4))))) (mER (mC (.str " "))))) (mER (mCall 1 (mFn 1 m_number_text) (arCons (mER (mOp fIx (mVar 3) (mVar 4))) arNil)))) faNil))) mNext))
    (fun t E => ∃ s4', E = [.val T, .val (strsT (acc ++ rowsOf G i (i + 1 + t))), .val (.imm (.int (i : Nat))), .val (.imm (rowD n G i)), ov s4']) (rangeD ((i : Int) + 1) (n - (i + 1)))
    (fun t d E ht ⟨s4', hE⟩ => by
      obtain ⟨htn, rfl⟩ := rangeD_at ht
      rw [show (i : Int) + 1 + (t : Nat) = ((i + 1 + t : Nat) : Int) by omega]
      have hjn : i + 1 + t < n := by omega
      have e1 := rowD_at (G := G) (i := i) hjn
      obtain ⟨w, hw, hw1, hk⟩ := good_nat (hG.good i (i + 1 + t) (by omega) hi hjn)
      have e2 := ltr' i (by omega)
      have e3 := ltr' (i + 1 + t) (by omega)
      have e4 := numtext_one w (by omega)
      rw [← hk] at e4
      have l0 := row_len i (i + 1 + t) (G i (i + 1 + t)) (hG.good i (i + 1 + t) (by omega) hi hjn)
      unfold rowS at l0
      rw [app_len, app_len, app_len, app_len] at l0
      have l1 : (ltrS i).length + (Str.ofString " ").length ≤ 16777216 := by omega
      have l2 : (ltrS i ++ (Str.ofString " ")).length + (ltrS (i + 1 + t)).length ≤ 16777216 := by rw [app_len]; omega
      have l3 : (ltrS i ++ (Str.ofString " ") ++ ltrS (i + 1 + t)).length + (Str.ofString " ").length ≤ 16777216 := by rw [app_len, app_len]; omega
      have l4 : (ltrS i ++ (Str.ofString " ") ++ ltrS (i + 1 + t) ++ (Str.ofString " ")).length + (numS (G i (i + 1 + t))).length ≤ 16777216 := by rw [app_len, app_len, app_len]; omega
      have hlen : (((acc ++ rowsOf G i (i + 1 + t)).map PyData.str).map Tr.imm).length < 16777216 := by
        rw [List.length_map, List.length_map, List.length_append]
        have := rowsOf_len G i (i + 1 + t)
        omega
      refine ⟨[.val T, .val (strsT (acc ++ rowsOf G i (i + 1 + t))), .val (.imm (.int (i : Nat))), .val (.imm (rowD n G i)), .val (.imm (.int ((i + 1 + t : Nat) : Int)))], [.val T, .val (strsT (acc ++ rowsOf G i (i + 1 + (t + 1)))), .val (.imm (.int (i : Nat))), .val (.imm (rowD n G i)), .val (.imm (.int ((i + 1 + t : Nat) : Int)))], ?_, .inl ?_, some (.imm (.int ((i + 1 + t : Nat) : Int))), rfl⟩
      · rw [hE]; simp -implicitDefEqProofs only [FL.v_seq, FL.v_thN, FL.v_thR, FL.v_thB, FL.v_thC, FL.v_ifS, FL.v_asg, FL.v_ret, FL.v_retN, FL.v_drop, FL.v_nx, FL.v_bk, FL.v_ct, FL.v_name, FL.v_pN, FL.v_pV, FL.v_var, FL.v_at, FL.v_trV, FL.v_trP, FL.v_wV, FL.v_wP, FL.v_C, FL.v_ER, FL.v_Fz, FL.v_fO, FL.v_fS, FL.v_fV, FL.v_fP, FL.v_fL, FL.v_vS, FL.v_vO, FL.v_op, FL.v_un, FL.v_bOf, FL.v_test, FL.v_and, FL.v_or, FL.v_not, FL.v_tru, FL.v_trB, FL.v_andV, FL.v_orV, FL.v_notV, FL.v_if, FL.v_chain, FL.v_arN, FL.v_arC, FL.v_faN, FL.v_faC, FL.v_tup, FL.v_lst, FL.v_tdN, FL.v_tdC, FL.v_tdI, FL.v_tdL, FL.toDs_imms, FL.imms_imms, FL.v_cb, FL.v_vsN, FL.v_vsC, FL.v_bm, FL.v_tyS, FL.v_tyL, FL.v_sl, FL.v_moN, FL.v_moS, FL.v_iOf, FL.v_call, FL.v_osO, FL.v_osS, FL.v_isI, FL.v_isL, FL.v_isD, FL.v_gN, FL.v_gO, FL.v_gS, FL.v_for, FL.v_lc, FL.v_sub, FL.v_sub2, FL.v_iAt, FL.v_iC, FL.v_aug, FL.v_par, FL.v_mut, FL.v_rng1, FL.v_rng2, FL.v_seqI, FL.v_enum, FL.v_isi, FL.v_addI, FL.v_addS, FL.v_addT, FL.v_addL, FL.v_subI, FL.v_neg, FL.v_lt, FL.v_le, FL.v_gt, FL.v_ge, FL.v_eqI, FL.v_neI, FL.v_eqS, FL.v_neS, FL.v_ixT, FL.v_ixD, FL.v_ixL, FL.v_ixS, FL.v_len, FL.v_lnT, FL.v_lnD, FL.v_lnL, FL.v_lnS, FL.v_abs, FL.v_max, FL.v_min, FL.v_int, FL.v_intB, FL.v_tuple, FL.v_list, FL.v_sqT, FL.v_sqD, FL.v_sqL, FL.v_itT, FL.v_itL, FL.v_itS, FL.v_isN, FL.v_notN, FL.v_setL, FL.v_setD, FL.v_kS, FL.v_kI, FL.v_mp, FL.v_mpn, FL.v_pO, FL.v_tupG, FL.v_gsC, FL.v_gsN, FL.v_slD, FL.v_at0, FL.v_at1, FL.v_at2, FL.v_i30, FL.v_i31, FL.v_i32, FL.v_Mv, FL.v_mvV, FL.v_pr, FL.v_wpN, FL.v_wpC, FL.v_wsN, FL.v_wsV, FL.v_wsO, FL.v_bkN, FL.v_bkC, FL.v_bsN, FL.v_bsI, FL.v_sf, FL.callD, Option.bind_some, Option.bind_none, List.getElem?_cons_zero, List.getElem?_cons_succ, List.getElem?_nil, List.set_cons_zero, List.set_cons_succ, List.length_cons, List.length_nil, List.filterMap_cons, List.filterMap_nil, decide_eq_true_eq, if_true, if_false, true_and, and_true, Nat.reduceAdd, Nat.reduceLeDiff, Nat.reduceEqDiff, ↓reduceIte, Bool.false_eq_true, FL.startE, FL.backs, List.map_cons, List.map_nil, List.cons_append, List.nil_append, Nat.reduceSub, List.replicate_succ, List.replicate_zero, List.nodup_nil, List.nodup_cons, List.not_mem_nil, not_false_eq_true, and_self, reduceCtorEq, Option.map_some, Option.map_none]
      · rw [show i + 1 + (t + 1) = (i + 1 + t) + 1 by omega, rowsOf_succ]
        by_cases h2 : G i (i + 1 + t) = 2
        · rw [if_neg (fun z => z.2 h2), List.append_nil]
          simp -implicitDefEqProofs only [FL.v_seq, FL.v_thN, FL.v_thR, FL.v_thB, FL.v_thC, FL.v_ifS, FL.v_asg, FL.v_ret, FL.v_retN, FL.v_drop, FL.v_nx, FL.v_bk, FL.v_ct, FL.v_name, FL.v_pN, FL.v_pV, FL.v_var, FL.v_at, FL.v_trV, FL.v_trP, FL.v_wV, FL.v_wP, FL.v_C, FL.v_ER, FL.v_Fz, FL.v_fO, FL.v_fS, FL.v_fV, FL.v_fP, FL.v_fL, FL.v_vS, FL.v_vO, FL.v_op, FL.v_un, FL.v_bOf, FL.v_test, FL.v_and, FL.v_or, FL.v_not, FL.v_tru, FL.v_trB, FL.v_andV, FL.v_orV, FL.v_notV, FL.v_if, FL.v_chain, FL.v_arN, FL.v_arC, FL.v_faN, FL.v_faC, FL.v_tup, FL.v_lst, FL.v_tdN, FL.v_tdC, FL.v_tdI, FL.v_tdL, FL.toDs_imms, FL.imms_imms, FL.v_cb, FL.v_vsN, FL.v_vsC, FL.v_bm, FL.v_tyS, FL.v_tyL, FL.v_sl, FL.v_moN, FL.v_moS, FL.v_iOf, FL.v_call, FL.v_osO, FL.v_osS, FL.v_isI, FL.v_isL, FL.v_isD, FL.v_gN, FL.v_gO, FL.v_gS, FL.v_for, FL.v_lc, FL.v_sub, FL.v_sub2, FL.v_iAt, FL.v_iC, FL.v_aug, FL.v_par, FL.v_mut, FL.v_rng1, FL.v_rng2, FL.v_seqI, FL.v_enum, FL.v_isi, FL.v_addI, FL.v_addS, FL.v_addT, FL.v_addL, FL.v_subI, FL.v_neg, FL.v_lt, FL.v_le, FL.v_gt, FL.v_ge, FL.v_eqI, FL.v_neI, FL.v_eqS, FL.v_neS, FL.v_ixT, FL.v_ixD, FL.v_ixL, FL.v_ixS, FL.v_len, FL.v_lnT, FL.v_lnD, FL.v_lnL, FL.v_lnS, FL.v_abs, FL.v_max, FL.v_min, FL.v_int, FL.v_intB, FL.v_tuple, FL.v_list, FL.v_sqT, FL.v_sqD, FL.v_sqL, FL.v_itT, FL.v_itL, FL.v_itS, FL.v_isN, FL.v_notN, FL.v_setL, FL.v_setD, FL.v_kS, FL.v_kI, FL.v_mp, FL.v_mpn, FL.v_pO, FL.v_tupG, FL.v_gsC, FL.v_gsN, FL.v_slD, FL.v_at0, FL.v_at1, FL.v_at2, FL.v_i30, FL.v_i31, FL.v_i32, FL.v_Mv, FL.v_mvV, FL.v_pr, FL.v_wpN, FL.v_wpC, FL.v_wsN, FL.v_wsV, FL.v_wsO, FL.v_bkN, FL.v_bkC, FL.v_bsN, FL.v_bsI, FL.v_sf, FL.callD, Option.bind_some, Option.bind_none, List.getElem?_cons_zero, List.getElem?_cons_succ, List.getElem?_nil, List.set_cons_zero, List.set_cons_succ, List.length_cons, List.length_nil, List.filterMap_cons, List.filterMap_nil, decide_eq_true_eq, if_true, if_false, true_and, and_true, Nat.reduceAdd, Nat.reduceLeDiff, Nat.reduceEqDiff, ↓reduceIte, Bool.false_eq_true, FL.startE, FL.backs, List.map_cons, List.map_nil, List.cons_append, List.nil_append, Nat.reduceSub, List.replicate_succ, List.replicate_zero, List.nodup_nil, List.nodup_cons, List.not_mem_nil, not_false_eq_true, and_self, reduceCtorEq, Option.map_some, Option.map_none, e1, h2, decide_true, Bool.not_true]
        · rw [if_pos ⟨by omega, h2⟩, ← List.append_assoc]
          unfold strsT
          simp -implicitDefEqProofs only [FL.v_seq, FL.v_thN, FL.v_thR, FL.v_thB, FL.v_thC, FL.v_ifS, FL.v_asg, FL.v_ret, FL.v_retN, FL.v_drop, FL.v_nx, FL.v_bk, FL.v_ct, FL.v_name, FL.v_pN, FL.v_pV, FL.v_var, FL.v_at, FL.v_trV, FL.v_trP, FL.v_wV, FL.v_wP, FL.v_C, FL.v_ER, FL.v_Fz, FL.v_fO, FL.v_fS, FL.v_fV, FL.v_fP, FL.v_fL, FL.v_vS, FL.v_vO, FL.v_op, FL.v_un, FL.v_bOf, FL.v_test, FL.v_and, FL.v_or, FL.v_not, FL.v_tru, FL.v_trB, FL.v_andV, FL.v_orV, FL.v_notV, FL.v_if, FL.v_chain, FL.v_arN, FL.v_arC, FL.v_faN, FL.v_faC, FL.v_tup, FL.v_lst, FL.v_tdN, FL.v_tdC, FL.v_tdI, FL.v_tdL, FL.toDs_imms, FL.imms_imms, FL.v_cb, FL.v_vsN, FL.v_vsC, FL.v_bm, FL.v_tyS, FL.v_tyL, FL.v_sl, FL.v_moN, FL.v_moS, FL.v_iOf, FL.v_call, FL.v_osO, FL.v_osS, FL.v_isI, FL.v_isL, FL.v_isD, FL.v_gN, FL.v_gO, FL.v_gS, FL.v_for, FL.v_lc, FL.v_sub, FL.v_sub2, FL.v_iAt, FL.v_iC, FL.v_aug, FL.v_par, FL.v_mut, FL.v_rng1, FL.v_rng2, FL.v_seqI, FL.v_enum, FL.v_isi, FL.v_addI, FL.v_addS, FL.v_addT, FL.v_addL, FL.v_subI, FL.v_neg, FL.v_lt, FL.v_le, FL.v_gt, FL.v_ge, FL.v_eqI, FL.v_neI, FL.v_eqS, FL.v_neS, FL.v_ixT, FL.v_ixD, FL.v_ixL, FL.v_ixS, FL.v_len, FL.v_lnT, FL.v_lnD, FL.v_lnL, FL.v_lnS, FL.v_abs, FL.v_max, FL.v_min, FL.v_int, FL.v_intB, FL.v_tuple, FL.v_list, FL.v_sqT, FL.v_sqD, FL.v_sqL, FL.v_itT, FL.v_itL, FL.v_itS, FL.v_isN, FL.v_notN, FL.v_setL, FL.v_setD, FL.v_kS, FL.v_kI, FL.v_mp, FL.v_mpn, FL.v_pO, FL.v_tupG, FL.v_gsC, FL.v_gsN, FL.v_slD, FL.v_at0, FL.v_at1, FL.v_at2, FL.v_i30, FL.v_i31, FL.v_i32, FL.v_Mv, FL.v_mvV, FL.v_pr, FL.v_wpN, FL.v_wpC, FL.v_wsN, FL.v_wsV, FL.v_wsO, FL.v_bkN, FL.v_bkC, FL.v_bsN, FL.v_bsI, FL.v_sf, FL.callD, Option.bind_some, Option.bind_none, List.getElem?_cons_zero, List.getElem?_cons_succ, List.getElem?_nil, List.set_cons_zero, List.set_cons_succ, List.length_cons, List.length_nil, List.filterMap_cons, List.filterMap_nil, decide_eq_true_eq, if_true, if_false, true_and, and_true, Nat.reduceAdd, Nat.reduceLeDiff, Nat.reduceEqDiff, ↓reduceIte, Bool.false_eq_true, FL.startE, FL.backs, List.map_cons, List.map_nil, List.cons_append, List.nil_append, Nat.reduceSub, List.replicate_succ, List.replicate_zero, List.nodup_nil, List.nodup_cons, List.not_mem_nil, not_false_eq_true, and_self, reduceCtorEq, Option.map_some, Option.map_none, e1, h2, decide_false, Bool.not_false, e2, e3, e4, l1, l2, l3, l4, v_append, hlen, strs_snoc]
          rfl)
    [.val T, .val (strsT acc), .val (.imm (.int (i : Nat))), .val (.imm (rowD n G i)), ov s4] ⟨s4, by rw [rowsOf_low G i _ (Nat.le_refl _), List.append_nil]⟩
  rw [rangeD_len, show i + 1 + (n - (i + 1)) = n by omega] at e
  exact ⟨s4', e⟩
end WK

namespace WK
open PySem L2 FL
def tRows (n : Nat) (G : Nat → Nat → Int) (u : Nat) : List Str := headS n :: (List.range u).flatMap fun i => rowsOf G i n
theorem tRows_succ (n : Nat) (G : Nat → Nat → Int) (u : Nat) : tRows n G (u + 1) = tRows n G u ++ rowsOf G u n := by
  unfold tRows
  rw [List.range_succ, List.flatMap_append]
  simp
theorem tRows_len (n : Nat) (G : Nat → Nat → Int) : ∀ u, (tRows n G u).length ≤ 1 + n * u
  | 0 => Nat.le_refl _
  | u + 1 => by
    rw [tRows_succ, List.length_append, Nat.mul_succ]
    have h1 := tRows_len n G u
    have h2 := rowsOf_len G u n
    omega
theorem rowsOf_mem {G : Nat → Nat → Int} {i n : Nat} {r : Str} (h : r ∈ rowsOf G i n) : ∃ j, i < j ∧ j < n ∧ G i j ≠ 2 ∧ r = rowS i j (G i j) := by
  unfold rowsOf at h
  obtain ⟨j, hj, rfl⟩ := List.mem_map.mp h
  rw [List.mem_filter, List.mem_range] at hj
  simp only [Bool.and_eq_true, decide_eq_true_eq] at hj
  exact ⟨j, hj.2.1, hj.1, hj.2.2, rfl⟩
theorem tRows_mem {n : Nat} {G : Nat → Nat → Int} {u : Nat} (hu : u ≤ n) {r : Str} (h : r ∈ tRows n G u) : r = headS n ∨ ∃ i j, i < j ∧ j < n ∧ G i j ≠ 2 ∧ r = rowS i j (G i j) := by
  unfold tRows at h
  rcases List.mem_cons.mp h with h | h
  · exact .inl h
  · obtain ⟨i, hi, h⟩ := List.mem_flatMap.mp h
    obtain ⟨j, h1, h2, h3, h4⟩ := rowsOf_mem h
    exact .inr ⟨i, j, h1, h2, h3, h4⟩
theorem tRows_short {n : Nat} (hn : n ≤ 8) {G : Nat → Nat → Int} (hG : Sq n G) {u : Nat} (hu : u ≤ n) {r : Str} (h : r ∈ tRows n G u) : r.length ≤ 9 := by
  rcases tRows_mem hu h with rfl | ⟨i, j, h1, h2, _, rfl⟩
  · exact (head_len ⟨n, by omega⟩).1
  · have := row_len i j (G i j) (hG.good i j (by omega) (by omega) h2)
    omega
theorem sum_short : ∀ rs : List Str, (∀ r ∈ rs, r.length ≤ 9) → (rs.map (·.length)).sum ≤ 9 * rs.length
  | [], _ => Nat.le_refl _
  | r :: rs, h => by
    have h1 := sum_short rs fun r hr => h r (List.mem_cons_of_mem _ hr)
    have h2 := h r List.mem_cons_self
    rw [List.map_cons, List.sum_cons, List.length_cons]
    omega
theorem strsOf_map : ∀ rs : List Str, strsOf (rs.map PyData.str) = some rs
  | [] => rfl
  | r :: rs => by rw [List.map_cons, strsOf, strsOf_map rs]; rfl
def textS (n : Nat) (G : Nat → Nat → Int) : Str := Txt.join (Str.ofString "\n") (tRows n G n)
theorem fJoin_rows (rs : List Str) (h : ∀ r ∈ rs, r.length ≤ 9) (hl : rs.length ≤ 100) : fJoin (.imm (.str "\n")) [strsT rs] = some (.imm (.str (Txt.join (Str.ofString "\n") rs))) := by
  unfold fJoin strsT
  show (seqOf _).bind _ = _
  rw [v_sqL, Option.bind_some]
  simp only
  have := sum_short rs h
  rw [strsOf_map, Option.bind_some, if_pos (by rw [nl_len]; omega)]
theorem tab_is (n : Nat) (G : Nat → Nat → Int) : tabD n G = .tuple ((List.range n).map (rowD n G)) := rfl
theorem show_one (n : Nat) (hn : n ≤ 8) (G : Nat → Nat → Int) (hG : Sq n G) : mFn 5 m_show_table [.imm (tabD n G)] = some (.imm (.str (textS n G)), [.imm (tabD n G)]) := by
  obtain ⟨E', e, s2, s3, s4, rfl⟩ := forD_inv (g := (mTupG 2 (gsCons (mName 2) (gsCons (mName 3) gsNil)))) (ms := (mFor (mRng2 (arCons (mER (mOp fAdd (mVar 2) (mER (mC (.int 1))))) (arCons (mER (mCB fLen (arCons (mVar 0) arNil))) arNil))) (mName 4) (mIfS (mTest (mOp fNe (mER (mOp fIx (mVar 3) (mVar 4))) (mER (mC (.int 2))))) (mDrop (mMut 1 "list" fAppend (faCons (mOp fAdd (mER (mOp fAdd (mER (mOp fAdd (mER (mOp fAdd (mER (mOp fIx (mER (mC (.str "abcdefgh"))) (mVar 2))) (mER (mC (.str " "))))) (mER (mOp fIx (mER (mC (.str "abcdefgh"))) (mVar 4))))) (mER (mC (.str " "))))) (mER (mCall 1 (mFn 1 m_number_text) (arCons (mER (mOp fIx (mVar 3) (mVar 4))) arNil)))) faNil))) mNext)))
    (fun u E => ∃ s2 s3 s4, E = [.val (.imm (tabD n G)), .val (strsT (tRows n G u)), ov s2, ov s3, ov s4]) (enumD ((List.range n).map (rowD n G)))
    (fun u d E hu ⟨s2, s3, s4, hE⟩ => by
      obtain ⟨x, hx, rfl⟩ := enumD_item hu
      have hun : u < n := by
        have := (List.getElem?_eq_some_iff.mp hx).1
        simpa using this
      rw [range_get hun] at hx
      cases hx
      have hl := tRows_len n G u
      have hb : n * u ≤ 8 * 8 := Nat.mul_le_mul hn (by omega)
      obtain ⟨s4', e1⟩ := show_inner n hn G hG (.imm (tabD n G)) u hun (tRows n G u) (by omega) s4
      have hr : ∀ E, rng2D [.imm (.int ((u : Int) + 1)), .imm (.int (n : Nat))] E = some (rangeD ((u : Int) + 1) (n - (u + 1)), E) := fun E => by
        rw [v_rg2 (by have := rng_nat (n := u + 1) (by omega); rw [Int.natCast_add] at this; exact this) (rng_nat (by omega)), show ((n : Int) - ((u : Int) + 1)).toNat = n - (u + 1) by omega]
      rw [tab_is] at e1 hE ⊢
      refine ⟨[.val (.imm (.tuple ((List.range n).map (rowD n G)))), .val (strsT (tRows n G u)), .val (.imm (.int (u : Nat))), .val (.imm (rowD n G u)), ov s4], [.val (.imm (.tuple ((List.range n).map (rowD n G)))), .val (strsT (tRows n G (u + 1))), .val (.imm (.int (u : Nat))), .val (.imm (rowD n G u)), ov s4'], ?_, .inl ?_, some (.imm (.int (u : Nat))), some (.imm (rowD n G u)), s4', rfl⟩
      · rw [hE]; simp -implicitDefEqProofs only [FL.v_seq, FL.v_thN, FL.v_thR, FL.v_thB, FL.v_thC, FL.v_ifS, FL.v_asg, FL.v_ret, FL.v_retN, FL.v_drop, FL.v_nx, FL.v_bk, FL.v_ct, FL.v_name, FL.v_pN, FL.v_pV, FL.v_var, FL.v_at, FL.v_trV, FL.v_trP, FL.v_wV, FL.v_wP, FL.v_C, FL.v_ER, FL.v_Fz, FL.v_fO, FL.v_fS, FL.v_fV, FL.v_fP, FL.v_fL, FL.v_vS, FL.v_vO, FL.v_op, FL.v_un, FL.v_bOf, FL.v_test, FL.v_and, FL.v_or, FL.v_not, FL.v_tru, FL.v_trB, FL.v_andV, FL.v_orV, FL.v_notV, FL.v_if, FL.v_chain, FL.v_arN, FL.v_arC, FL.v_faN, FL.v_faC, FL.v_tup, FL.v_lst, FL.v_tdN, FL.v_tdC, FL.v_tdI, FL.v_tdL, FL.toDs_imms, FL.imms_imms, FL.v_cb, FL.v_vsN, FL.v_vsC, FL.v_bm, FL.v_tyS, FL.v_tyL, FL.v_sl, FL.v_moN, FL.v_moS, FL.v_iOf, FL.v_call, FL.v_osO, FL.v_osS, FL.v_isI, FL.v_isL, FL.v_isD, FL.v_gN, FL.v_gO, FL.v_gS, FL.v_for, FL.v_lc, FL.v_sub, FL.v_sub2, FL.v_iAt, FL.v_iC, FL.v_aug, FL.v_par, FL.v_mut, FL.v_rng1, FL.v_rng2, FL.v_seqI, FL.v_enum, FL.v_isi, FL.v_addI, FL.v_addS, FL.v_addT, FL.v_addL, FL.v_subI, FL.v_neg, FL.v_lt, FL.v_le, FL.v_gt, FL.v_ge, FL.v_eqI, FL.v_neI, FL.v_eqS, FL.v_neS, FL.v_ixT, FL.v_ixD, FL.v_ixL, FL.v_ixS, FL.v_len, FL.v_lnT, FL.v_lnD, FL.v_lnL, FL.v_lnS, FL.v_abs, FL.v_max, FL.v_min, FL.v_int, FL.v_intB, FL.v_tuple, FL.v_list, FL.v_sqT, FL.v_sqD, FL.v_sqL, FL.v_itT, FL.v_itL, FL.v_itS, FL.v_isN, FL.v_notN, FL.v_setL, FL.v_setD, FL.v_kS, FL.v_kI, FL.v_mp, FL.v_mpn, FL.v_pO, FL.v_tupG, FL.v_gsC, FL.v_gsN, FL.v_slD, FL.v_at0, FL.v_at1, FL.v_at2, FL.v_i30, FL.v_i31, FL.v_i32, FL.v_Mv, FL.v_mvV, FL.v_pr, FL.v_wpN, FL.v_wpC, FL.v_wsN, FL.v_wsV, FL.v_wsO, FL.v_bkN, FL.v_bkC, FL.v_bsN, FL.v_bsI, FL.v_sf, FL.callD, Option.bind_some, Option.bind_none, List.getElem?_cons_zero, List.getElem?_cons_succ, List.getElem?_nil, List.set_cons_zero, List.set_cons_succ, List.length_cons, List.length_nil, List.filterMap_cons, List.filterMap_nil, decide_eq_true_eq, if_true, if_false, true_and, and_true, Nat.reduceAdd, Nat.reduceLeDiff, Nat.reduceEqDiff, ↓reduceIte, Bool.false_eq_true, FL.startE, FL.backs, List.map_cons, List.map_nil, List.cons_append, List.nil_append, Nat.reduceSub, List.replicate_succ, List.replicate_zero, List.nodup_nil, List.nodup_cons, List.not_mem_nil, not_false_eq_true, and_self, reduceCtorEq, Option.map_some, Option.map_none]
      · rw [tRows_succ]
        simp -implicitDefEqProofs only [FL.v_seq, FL.v_thN, FL.v_thR, FL.v_thB, FL.v_thC, FL.v_ifS, FL.v_asg, FL.v_ret, FL.v_retN, FL.v_drop, FL.v_nx, FL.v_bk, FL.v_ct, FL.v_name, FL.v_pN, FL.v_pV, FL.v_var, FL.v_at, FL.v_trV, FL.v_trP, FL.v_wV, FL.v_wP, FL.v_C, FL.v_ER, FL.v_Fz, FL.v_fO, FL.v_fS, FL.v_fV, FL.v_fP, FL.v_fL, FL.v_vS, FL.v_vO, FL.v_op, FL.v_un, FL.v_bOf, FL.v_test, FL.v_and, FL.v_or, FL.v_not, FL.v_tru, FL.v_trB, FL.v_andV, FL.v_orV, FL.v_notV, FL.v_if, FL.v_chain, FL.v_arN, FL.v_arC, FL.v_faN, FL.v_faC, FL.v_tup, FL.v_lst, FL.v_tdN, FL.v_tdC, FL.v_tdI, FL.v_tdL, FL.toDs_imms, FL.imms_imms, FL.v_cb, FL.v_vsN, FL.v_vsC, FL.v_bm, FL.v_tyS, FL.v_tyL, FL.v_sl, FL.v_moN, FL.v_moS, FL.v_iOf, FL.v_call, FL.v_osO, FL.v_osS, FL.v_isI, FL.v_isL, FL.v_isD, FL.v_gN, FL.v_gO, FL.v_gS, FL.v_for, FL.v_lc, FL.v_sub, FL.v_sub2, FL.v_iAt, FL.v_iC, FL.v_aug, FL.v_par, FL.v_mut, FL.v_rng1, FL.v_rng2, FL.v_seqI, FL.v_enum, FL.v_isi, FL.v_addI, FL.v_addS, FL.v_addT, FL.v_addL, FL.v_subI, FL.v_neg, FL.v_lt, FL.v_le, FL.v_gt, FL.v_ge, FL.v_eqI, FL.v_neI, FL.v_eqS, FL.v_neS, FL.v_ixT, FL.v_ixD, FL.v_ixL, FL.v_ixS, FL.v_len, FL.v_lnT, FL.v_lnD, FL.v_lnL, FL.v_lnS, FL.v_abs, FL.v_max, FL.v_min, FL.v_int, FL.v_intB, FL.v_tuple, FL.v_list, FL.v_sqT, FL.v_sqD, FL.v_sqL, FL.v_itT, FL.v_itL, FL.v_itS, FL.v_isN, FL.v_notN, FL.v_setL, FL.v_setD, FL.v_kS, FL.v_kI, FL.v_mp, FL.v_mpn, FL.v_pO, FL.v_tupG, FL.v_gsC, FL.v_gsN, FL.v_slD, FL.v_at0, FL.v_at1, FL.v_at2, FL.v_i30, FL.v_i31, FL.v_i32, FL.v_Mv, FL.v_mvV, FL.v_pr, FL.v_wpN, FL.v_wpC, FL.v_wsN, FL.v_wsV, FL.v_wsO, FL.v_bkN, FL.v_bkC, FL.v_bsN, FL.v_bsI, FL.v_sf, FL.callD, Option.bind_some, Option.bind_none, List.getElem?_cons_zero, List.getElem?_cons_succ, List.getElem?_nil, List.set_cons_zero, List.set_cons_succ, List.length_cons, List.length_nil, List.filterMap_cons, List.filterMap_nil, decide_eq_true_eq, if_true, if_false, true_and, and_true, Nat.reduceAdd, Nat.reduceLeDiff, Nat.reduceEqDiff, ↓reduceIte, Bool.false_eq_true, FL.startE, FL.backs, List.map_cons, List.map_nil, List.cons_append, List.nil_append, Nat.reduceSub, List.replicate_succ, List.replicate_zero, List.nodup_nil, List.nodup_cons, List.not_mem_nil, not_false_eq_true, and_self, reduceCtorEq, Option.map_some, Option.map_none, List.length_map, List.length_range, hr]
        exact e1)
    [.val (.imm (tabD n G)), .val (strsT (tRows n G 0)), ov none, ov none, ov none] ⟨none, none, none, rfl⟩
  have hlen : (enumD ((List.range n).map (rowD n G))).length = n := by simp [enumD]
  rw [hlen] at e
  have e1 := v_strI (small_log (k := n) (by omega))
  have e2 := head_l1 ⟨n, by omega⟩
  have hl := tRows_len n G n
  have hb : n * n ≤ 8 * 8 := Nat.mul_le_mul hn hn
  have e3 := fJoin_rows (tRows n G n) (fun r hr => tRows_short hn hG (Nat.le_refl _) hr) (by omega)
  have e0 : strsT (tRows n G 0) = .lst [.imm (.str (headS n))] := rfl
  rw [e0] at e
  unfold headS at e
  rw [tab_is] at e ⊢
  simp only [show ov none = SL.no from rfl] at e
  rw [v_fn]
  unfold m_show_table textS
  simp -implicitDefEqProofs only [FL.v_seq, FL.v_thN, FL.v_thR, FL.v_thB, FL.v_thC, FL.v_ifS, FL.v_asg, FL.v_ret, FL.v_retN, FL.v_drop, FL.v_nx, FL.v_bk, FL.v_ct, FL.v_name, FL.v_pN, FL.v_pV, FL.v_var, FL.v_at, FL.v_trV, FL.v_trP, FL.v_wV, FL.v_wP, FL.v_C, FL.v_ER, FL.v_Fz, FL.v_fO, FL.v_fS, FL.v_fV, FL.v_fP, FL.v_fL, FL.v_vS, FL.v_vO, FL.v_op, FL.v_un, FL.v_bOf, FL.v_test, FL.v_and, FL.v_or, FL.v_not, FL.v_tru, FL.v_trB, FL.v_andV, FL.v_orV, FL.v_notV, FL.v_if, FL.v_chain, FL.v_arN, FL.v_arC, FL.v_faN, FL.v_faC, FL.v_tup, FL.v_lst, FL.v_tdN, FL.v_tdC, FL.v_tdI, FL.v_tdL, FL.toDs_imms, FL.imms_imms, FL.v_cb, FL.v_vsN, FL.v_vsC, FL.v_bm, FL.v_tyS, FL.v_tyL, FL.v_sl, FL.v_moN, FL.v_moS, FL.v_iOf, FL.v_call, FL.v_osO, FL.v_osS, FL.v_isI, FL.v_isL, FL.v_isD, FL.v_gN, FL.v_gO, FL.v_gS, FL.v_for, FL.v_lc, FL.v_sub, FL.v_sub2, FL.v_iAt, FL.v_iC, FL.v_aug, FL.v_par, FL.v_mut, FL.v_rng1, FL.v_rng2, FL.v_seqI, FL.v_enum, FL.v_isi, FL.v_addI, FL.v_addS, FL.v_addT, FL.v_addL, FL.v_subI, FL.v_neg, FL.v_lt, FL.v_le, FL.v_gt, FL.v_ge, FL.v_eqI, FL.v_neI, FL.v_eqS, FL.v_neS, FL.v_ixT, FL.v_ixD, FL.v_ixL, FL.v_ixS, FL.v_len, FL.v_lnT, FL.v_lnD, FL.v_lnL, FL.v_lnS, FL.v_abs, FL.v_max, FL.v_min, FL.v_int, FL.v_intB, FL.v_tuple, FL.v_list, FL.v_sqT, FL.v_sqD, FL.v_sqL, FL.v_itT, FL.v_itL, FL.v_itS, FL.v_isN, FL.v_notN, FL.v_setL, FL.v_setD, FL.v_kS, FL.v_kI, FL.v_mp, FL.v_mpn, FL.v_pO, FL.v_tupG, FL.v_gsC, FL.v_gsN, FL.v_slD, FL.v_at0, FL.v_at1, FL.v_at2, FL.v_i30, FL.v_i31, FL.v_i32, FL.v_Mv, FL.v_mvV, FL.v_pr, FL.v_wpN, FL.v_wpC, FL.v_wsN, FL.v_wsV, FL.v_wsO, FL.v_bkN, FL.v_bkC, FL.v_bsN, FL.v_bsI, FL.v_sf, FL.callD, Option.bind_some, Option.bind_none, List.getElem?_cons_zero, List.getElem?_cons_succ, List.getElem?_nil, List.set_cons_zero, List.set_cons_succ, List.length_cons, List.length_nil, List.filterMap_cons, List.filterMap_nil, decide_eq_true_eq, if_true, if_false, true_and, and_true, Nat.reduceAdd, Nat.reduceLeDiff, Nat.reduceEqDiff, ↓reduceIte, Bool.false_eq_true, FL.startE, FL.backs, List.map_cons, List.map_nil, List.cons_append, List.nil_append, Nat.reduceSub, List.replicate_succ, List.replicate_zero, List.nodup_nil, List.nodup_cons, List.not_mem_nil, not_false_eq_true, and_self, reduceCtorEq, Option.map_some, Option.map_none, List.length_map, List.length_range, e1, e2, e, e3, show (1 ≤ 16777216) = True from eq_true (by decide)]
/-! the law's own text -/
def gl (w : Str) (rs : List Str) : Str := rs.foldl (fun w r => w ++ (Str.ofString "\n") ++ r) w
theorem gl_app (w : Str) (rs ss : List Str) : gl w (rs ++ ss) = gl (gl w rs) ss := by unfold gl; rw [List.foldl_append]
theorem gl_cps : ∀ (rs : List Str) (w : Str), (gl w rs).cps = rs.foldl (fun acc p => acc ++ (Str.ofString "\n").cps ++ p.cps) w.cps
  | [], _ => rfl
  | r :: rs, w => gl_cps rs (w ++ (Str.ofString "\n") ++ r)
theorem join_gl (h : Str) (rs : List Str) : Txt.join (Str.ofString "\n") (h :: rs) = gl h rs := by
  show (⟨rs.foldl (fun acc p => acc ++ (Str.ofString "\n").cps ++ p.cps) h.cps⟩ : Str) = gl h rs
  rw [← gl_cps]
theorem gl_len : ∀ (rs : List Str) (w : Str), (∀ r ∈ rs, r.length ≤ 9) → (gl w rs).length ≤ w.length + 10 * rs.length
  | [], w, _ => Nat.le_refl _
  | r :: rs, w, h => by
    have h1 := gl_len rs (w ++ (Str.ofString "\n") ++ r) fun r hr => h r (List.mem_cons_of_mem _ hr)
    rw [app_len, app_len, nl_len] at h1
    have h2 := h r List.mem_cons_self
    rw [List.length_cons]
    show (gl (w ++ (Str.ofString "\n") ++ r) rs).length ≤ _
    omega
def wordsS : List Str := ["-", "", "", "3", "4", "5", "6", "7", "8", "9", "10", "11", "12"]
theorem words_at : ∀ w : Fin 13, w.val ≠ 1 → w.val ≠ 2 → wordsS[w.val]? = some (numS ((w.val : Nat) : Int)) := by decide +kernel
def wordsT : List Tr := [.imm (.str "-"), .imm (.str ""), .imm (.str ""), .imm (.str "3"), .imm (.str "4"), .imm (.str "5"), .imm (.str "6"), .imm (.str "7"), .imm (.str "8"), .imm (.str "9"), .imm (.str "10"), .imm (.str "11"), .imm (.str "12")]
theorem wordsT_is : wordsT = (wordsS.map PyData.str).map Tr.imm := rfl
theorem wordsT_at {w : Nat} (h : w < 13) (h1 : w ≠ 1) (h2 : w ≠ 2) : atI wordsT (w : Nat) = some (.imm (.str (numS (w : Nat)))) := by
  refine FL.atI_nat ?_
  rw [wordsT_is, List.getElem?_map, List.getElem?_map, words_at ⟨w, h⟩ h1 h2]; rfl
theorem tabD_at {n : Nat} {G : Nat → Nat → Int} {i : Nat} (h : i < n) : fIx (.imm (.tuple ((List.range n).map (rowD n G)))) (.imm (.int (i : Nat))) = some (.imm (rowD n G i)) := by
  rw [v_ixT, FL.atI_nat (range_get h)]; rfl
theorem text_inner (n : Nat) (hn : n ≤ 8) (G : Nat → Nat → Int) (hG : Sq n G) (i : Nat) (hi : i < n) (w0 : Str) (ha : w0.length ≤ 10000) (s4 : Option Tr) :
    ∃ s4', forD (mName 4) (mIfS (mAnd (mTest (mOp fLt (mVar 3) (mVar 4))) (mTest (mOp fNe (mER (mOp fIx (mER (mOp fIx (mVar 0) (mVar 3))) (mVar 4))) (mER (mC (.int 2)))))) (mSeq (mAsg (mOp fAdd (mER (mOp fAdd (mER (mOp fAdd (mER (mOp fAdd (mVar 1) (mER (mC (.str "\n"))))) (mER (mOp fIx (mER (mC (.str "abcdefgh"))) (mVar 3))))) (mER (mC (.str " "))))) (mER (mOp fIx (mER (mC (.str "abcdefgh"))) (mVar 4)))) (mName 1))     (mAsg (mOp fAdd (mER (mOp fAdd (mVar 1) (mER (mC (.str " "))))) (mER (mOp fIx (mVar 2) (mER (mOp fIx (mER (mOp fIx (mVar 0) (mVar 3))) (mVar 4)))))) (mName 1))) mNext) (rangeD 0 n) [.val (.imm (.tuple ((List.range n).map (rowD n G)))), .val (.imm (.str w0)), .val (.lst wordsT), .val (.imm (.int (i : Nat))), ov s4] = some (.nx [.val (.imm (.tuple ((List.range n).map (rowD n G)))), .val (.imm (.str (gl w0 (rowsOf G i n)))), .val (.lst wordsT), .val (.imm (.int (i : Nat))), ov s4']) := by
  obtain ⟨E', e, s4', rfl⟩ := forD_inv (g := mName 4) (ms := (mIfS (mAnd (mTest (mOp fLt (mVar 3) (mVar 4))) (mTest (mOp fNe (mER (mOp fIx (mER (mOp fIx (mVar 0) (mVar 3))) (mVar 4))) (mER (mC (.int 2)))))) (mSeq (mAsg (mOp fAdd (mER (mOp fAdd (mER (mOp fAdd (mER (mOp fAdd (mVar 1) (mER (mC (.str "\n"))))) (mER (mOp fIx (mER (mC (.str "abcdefgh"))) (mVar 3))))) (mER (mC (.str " "))))) (mER (mOp fIx (mER (mC (.str "abcdefgh"))) (mVar 4)))) (mName 1))     (mAsg (mOp fAdd (mER (mOp fAdd (mVar 1) (mER (mC (.str " "))))) (mER (mOp fIx (mVar 2) (mER (mOp fIx (mER (mOp fIx (mVar 0) (mVar 3))) (mVar 4)))))) (mName 1))) mNext))
    (fun t E => ∃ s4', E = [.val (.imm (.tuple ((List.range n).map (rowD n G)))), .val (.imm (.str (gl w0 (rowsOf G i t)))), .val (.lst wordsT), .val (.imm (.int (i : Nat))), ov s4']) (rangeD 0 n)
    (fun t d E ht ⟨s4', hE⟩ => by
      obtain ⟨htn, rfl⟩ := rangeD_at ht
      rw [Int.zero_add]
      have e0 := tabD_at (G := G) hi
      have e1 := rowD_at (G := G) (i := i) htn
      have e2 := ltr' i (by omega)
      have e3 := ltr' t (by omega)
      refine ⟨[.val (.imm (.tuple ((List.range n).map (rowD n G)))), .val (.imm (.str (gl w0 (rowsOf G i t)))), .val (.lst wordsT), .val (.imm (.int (i : Nat))), .val (.imm (.int (t : Nat)))], [.val (.imm (.tuple ((List.range n).map (rowD n G)))), .val (.imm (.str (gl w0 (rowsOf G i (t + 1))))), .val (.lst wordsT), .val (.imm (.int (i : Nat))), .val (.imm (.int (t : Nat)))], ?_, .inl ?_, some (.imm (.int (t : Nat))), rfl⟩
      · rw [hE]; simp -implicitDefEqProofs only [FL.v_seq, FL.v_thN, FL.v_thR, FL.v_thB, FL.v_thC, FL.v_ifS, FL.v_asg, FL.v_ret, FL.v_retN, FL.v_drop, FL.v_nx, FL.v_bk, FL.v_ct, FL.v_name, FL.v_pN, FL.v_pV, FL.v_var, FL.v_at, FL.v_trV, FL.v_trP, FL.v_wV, FL.v_wP, FL.v_C, FL.v_ER, FL.v_Fz, FL.v_fO, FL.v_fS, FL.v_fV, FL.v_fP, FL.v_fL, FL.v_vS, FL.v_vO, FL.v_op, FL.v_un, FL.v_bOf, FL.v_test, FL.v_and, FL.v_or, FL.v_not, FL.v_tru, FL.v_trB, FL.v_andV, FL.v_orV, FL.v_notV, FL.v_if, FL.v_chain, FL.v_arN, FL.v_arC, FL.v_faN, FL.v_faC, FL.v_tup, FL.v_lst, FL.v_tdN, FL.v_tdC, FL.v_tdI, FL.v_tdL, FL.toDs_imms, FL.imms_imms, FL.v_cb, FL.v_vsN, FL.v_vsC, FL.v_bm, FL.v_tyS, FL.v_tyL, FL.v_sl, FL.v_moN, FL.v_moS, FL.v_iOf, FL.v_call, FL.v_osO, FL.v_osS, FL.v_isI, FL.v_isL, FL.v_isD, FL.v_gN, FL.v_gO, FL.v_gS, FL.v_for, FL.v_lc, FL.v_sub, FL.v_sub2, FL.v_iAt, FL.v_iC, FL.v_aug, FL.v_par, FL.v_mut, FL.v_rng1, FL.v_rng2, FL.v_seqI, FL.v_enum, FL.v_isi, FL.v_addI, FL.v_addS, FL.v_addT, FL.v_addL, FL.v_subI, FL.v_neg, FL.v_lt, FL.v_le, FL.v_gt, FL.v_ge, FL.v_eqI, FL.v_neI, FL.v_eqS, FL.v_neS, FL.v_ixT, FL.v_ixD, FL.v_ixL, FL.v_ixS, FL.v_len, FL.v_lnT, FL.v_lnD, FL.v_lnL, FL.v_lnS, FL.v_abs, FL.v_max, FL.v_min, FL.v_int, FL.v_intB, FL.v_tuple, FL.v_list, FL.v_sqT, FL.v_sqD, FL.v_sqL, FL.v_itT, FL.v_itL, FL.v_itS, FL.v_isN, FL.v_notN, FL.v_setL, FL.v_setD, FL.v_kS, FL.v_kI, FL.v_mp, FL.v_mpn, FL.v_pO, FL.v_tupG, FL.v_gsC, FL.v_gsN, FL.v_slD, FL.v_at0, FL.v_at1, FL.v_at2, FL.v_i30, FL.v_i31, FL.v_i32, FL.v_Mv, FL.v_mvV, FL.v_pr, FL.v_wpN, FL.v_wpC, FL.v_wsN, FL.v_wsV, FL.v_wsO, FL.v_bkN, FL.v_bkC, FL.v_bsN, FL.v_bsI, FL.v_sf, FL.callD, Option.bind_some, Option.bind_none, List.getElem?_cons_zero, List.getElem?_cons_succ, List.getElem?_nil, List.set_cons_zero, List.set_cons_succ, List.length_cons, List.length_nil, List.filterMap_cons, List.filterMap_nil, decide_eq_true_eq, if_true, if_false, true_and, and_true, Nat.reduceAdd, Nat.reduceLeDiff, Nat.reduceEqDiff, ↓reduceIte, Bool.false_eq_true, FL.startE, FL.backs, List.map_cons, List.map_nil, List.cons_append, List.nil_append, Nat.reduceSub, List.replicate_succ, List.replicate_zero, List.nodup_nil, List.nodup_cons, List.not_mem_nil, not_false_eq_true, and_self, reduceCtorEq, Option.map_some, Option.map_none]
      · rw [rowsOf_succ]
        by_cases h1 : i < t
        · have h1' : (i : Int) < (t : Int) := by omega
          by_cases h2 : G i t = 2
          · rw [if_neg (fun z => z.2 h2), List.append_nil]
            simp -implicitDefEqProofs only [FL.v_seq, FL.v_thN, FL.v_thR, FL.v_thB, FL.v_thC, FL.v_ifS, FL.v_asg, FL.v_ret, FL.v_retN, FL.v_drop, FL.v_nx, FL.v_bk, FL.v_ct, FL.v_name, FL.v_pN, FL.v_pV, FL.v_var, FL.v_at, FL.v_trV, FL.v_trP, FL.v_wV, FL.v_wP, FL.v_C, FL.v_ER, FL.v_Fz, FL.v_fO, FL.v_fS, FL.v_fV, FL.v_fP, FL.v_fL, FL.v_vS, FL.v_vO, FL.v_op, FL.v_un, FL.v_bOf, FL.v_test, FL.v_and, FL.v_or, FL.v_not, FL.v_tru, FL.v_trB, FL.v_andV, FL.v_orV, FL.v_notV, FL.v_if, FL.v_chain, FL.v_arN, FL.v_arC, FL.v_faN, FL.v_faC, FL.v_tup, FL.v_lst, FL.v_tdN, FL.v_tdC, FL.v_tdI, FL.v_tdL, FL.toDs_imms, FL.imms_imms, FL.v_cb, FL.v_vsN, FL.v_vsC, FL.v_bm, FL.v_tyS, FL.v_tyL, FL.v_sl, FL.v_moN, FL.v_moS, FL.v_iOf, FL.v_call, FL.v_osO, FL.v_osS, FL.v_isI, FL.v_isL, FL.v_isD, FL.v_gN, FL.v_gO, FL.v_gS, FL.v_for, FL.v_lc, FL.v_sub, FL.v_sub2, FL.v_iAt, FL.v_iC, FL.v_aug, FL.v_par, FL.v_mut, FL.v_rng1, FL.v_rng2, FL.v_seqI, FL.v_enum, FL.v_isi, FL.v_addI, FL.v_addS, FL.v_addT, FL.v_addL, FL.v_subI, FL.v_neg, FL.v_lt, FL.v_le, FL.v_gt, FL.v_ge, FL.v_eqI, FL.v_neI, FL.v_eqS, FL.v_neS, FL.v_ixT, FL.v_ixD, FL.v_ixL, FL.v_ixS, FL.v_len, FL.v_lnT, FL.v_lnD, FL.v_lnL, FL.v_lnS, FL.v_abs, FL.v_max, FL.v_min, FL.v_int, FL.v_intB, FL.v_tuple, FL.v_list, FL.v_sqT, FL.v_sqD, FL.v_sqL, FL.v_itT, FL.v_itL, FL.v_itS, FL.v_isN, FL.v_notN, FL.v_setL, FL.v_setD, FL.v_kS, FL.v_kI, FL.v_mp, FL.v_mpn, FL.v_pO, FL.v_tupG, FL.v_gsC, FL.v_gsN, FL.v_slD, FL.v_at0, FL.v_at1, FL.v_at2, FL.v_i30, FL.v_i31, FL.v_i32, FL.v_Mv, FL.v_mvV, FL.v_pr, FL.v_wpN, FL.v_wpC, FL.v_wsN, FL.v_wsV, FL.v_wsO, FL.v_bkN, FL.v_bkC, FL.v_bsN, FL.v_bsI, FL.v_sf, FL.callD, Option.bind_some, Option.bind_none, List.getElem?_cons_zero, List.getElem?_cons_succ, List.getElem?_nil, List.set_cons_zero, List.set_cons_succ, List.length_cons, List.length_nil, List.filterMap_cons, List.filterMap_nil, decide_eq_true_eq, if_true, if_false, true_and, and_true, Nat.reduceAdd, Nat.reduceLeDiff, Nat.reduceEqDiff, ↓reduceIte, Bool.false_eq_true, FL.startE, FL.backs, List.map_cons, List.map_nil, List.cons_append, List.nil_append, Nat.reduceSub, List.replicate_succ, List.replicate_zero, List.nodup_nil, List.nodup_cons, List.not_mem_nil, not_false_eq_true, and_self, reduceCtorEq, Option.map_some, Option.map_none, h1', e0, e1, h2, decide_true, Bool.not_true]
          · rw [if_pos ⟨h1, h2⟩, gl_app]
            obtain ⟨w, hw, hw1, hk⟩ := good_nat (hG.good i t (by omega) hi htn)
            have e5 := wordsT_at hw hw1 (fun z => h2 (by rw [hk, z]; rfl))
            rw [← hk] at e5
            have l0 := row_len i t (G i t) (hG.good i t (by omega) hi htn)
            unfold rowS at l0
            rw [app_len, app_len, app_len, app_len] at l0
            have lr := rowsOf_len G i t
            have lg := gl_len (rowsOf G i t) w0 fun r hr => by
              obtain ⟨j, a1, a2, _, rfl⟩ := rowsOf_mem hr
              have := row_len i j (G i j) (hG.good i j (by omega) hi (by omega))
              omega
            generalize hw : gl w0 (rowsOf G i t) = W at lg ⊢
            have l1 : W.length + (Str.ofString "\n").length ≤ 16777216 := by rw [nl_len]; omega
            have l2 : (W ++ (Str.ofString "\n")).length + (ltrS i).length ≤ 16777216 := by rw [app_len, nl_len]; omega
            have l3 : (W ++ (Str.ofString "\n") ++ ltrS i).length + (Str.ofString " ").length ≤ 16777216 := by rw [app_len, app_len, nl_len]; omega
            have l4 : (W ++ (Str.ofString "\n") ++ ltrS i ++ (Str.ofString " ")).length + (ltrS t).length ≤ 16777216 := by rw [app_len, app_len, app_len, nl_len]; omega
            have l5 : (W ++ (Str.ofString "\n") ++ ltrS i ++ (Str.ofString " ") ++ ltrS t).length + (Str.ofString " ").length ≤ 16777216 := by rw [app_len, app_len, app_len, app_len, nl_len]; omega
            have l6 : (W ++ (Str.ofString "\n") ++ ltrS i ++ (Str.ofString " ") ++ ltrS t ++ (Str.ofString " ")).length + (numS (G i t)).length ≤ 16777216 := by rw [app_len, app_len, app_len, app_len, app_len, nl_len]; omega
            have hg : gl W [rowS i t (G i t)] = W ++ (Str.ofString "\n") ++ ltrS i ++ (Str.ofString " ") ++ ltrS t ++ (Str.ofString " ") ++ numS (G i t) := by
              show W ++ (Str.ofString "\n") ++ rowS i t (G i t) = _
              unfold rowS
              simp only [app_assoc]
            rw [hg]
            simp -implicitDefEqProofs only [FL.v_seq, FL.v_thN, FL.v_thR, FL.v_thB, FL.v_thC, FL.v_ifS, FL.v_asg, FL.v_ret, FL.v_retN, FL.v_drop, FL.v_nx, FL.v_bk, FL.v_ct, FL.v_name, FL.v_pN, FL.v_pV, FL.v_var, FL.v_at, FL.v_trV, FL.v_trP, FL.v_wV, FL.v_wP, FL.v_C, FL.v_ER, FL.v_Fz, FL.v_fO, FL.v_fS, FL.v_fV, FL.v_fP, FL.v_fL, FL.v_vS, FL.v_vO, FL.v_op, FL.v_un, FL.v_bOf, FL.v_test, FL.v_and, FL.v_or, FL.v_not, FL.v_tru, FL.v_trB, FL.v_andV, FL.v_orV, FL.v_notV, FL.v_if, FL.v_chain, FL.v_arN, FL.v_arC, FL.v_faN, FL.v_faC, FL.v_tup, FL.v_lst, FL.v_tdN, FL.v_tdC, FL.v_tdI, FL.v_tdL, FL.toDs_imms, FL.imms_imms, FL.v_cb, FL.v_vsN, FL.v_vsC, FL.v_bm, FL.v_tyS, FL.v_tyL, FL.v_sl, FL.v_moN, FL.v_moS, FL.v_iOf, FL.v_call, FL.v_osO, FL.v_osS, FL.v_isI, FL.v_isL, FL.v_isD, FL.v_gN, FL.v_gO, FL.v_gS, FL.v_for, FL.v_lc, FL.v_sub, FL.v_sub2, FL.v_iAt, FL.v_iC, FL.v_aug, FL.v_par, FL.v_mut, FL.v_rng1, FL.v_rng2, FL.v_seqI, FL.v_enum, FL.v_isi, FL.v_addI, FL.v_addS, FL.v_addT, FL.v_addL, FL.v_subI, FL.v_neg, FL.v_lt, FL.v_le, FL.v_gt, FL.v_ge, FL.v_eqI, FL.v_neI, FL.v_eqS, FL.v_neS, FL.v_ixT, FL.v_ixD, FL.v_ixL, FL.v_ixS, FL.v_len, FL.v_lnT, FL.v_lnD, FL.v_lnL, FL.v_lnS, FL.v_abs, FL.v_max, FL.v_min, FL.v_int, FL.v_intB, FL.v_tuple, FL.v_list, FL.v_sqT, FL.v_sqD, FL.v_sqL, FL.v_itT, FL.v_itL, FL.v_itS, FL.v_isN, FL.v_notN, FL.v_setL, FL.v_setD, FL.v_kS, FL.v_kI, FL.v_mp, FL.v_mpn, FL.v_pO, FL.v_tupG, FL.v_gsC, FL.v_gsN, FL.v_slD, FL.v_at0, FL.v_at1, FL.v_at2, FL.v_i30, FL.v_i31, FL.v_i32, FL.v_Mv, FL.v_mvV, FL.v_pr, FL.v_wpN, FL.v_wpC, FL.v_wsN, FL.v_wsV, FL.v_wsO, FL.v_bkN, FL.v_bkC, FL.v_bsN, FL.v_bsI, FL.v_sf, FL.callD, Option.bind_some, Option.bind_none, List.getElem?_cons_zero, List.getElem?_cons_succ, List.getElem?_nil, List.set_cons_zero, List.set_cons_succ, List.length_cons, List.length_nil, List.filterMap_cons, List.filterMap_nil, decide_eq_true_eq, if_true, if_false, true_and, and_true, Nat.reduceAdd, Nat.reduceLeDiff, Nat.reduceEqDiff, ↓reduceIte, Bool.false_eq_true, FL.startE, FL.backs, List.map_cons, List.map_nil, List.cons_append, List.nil_append, Nat.reduceSub, List.replicate_succ, List.replicate_zero, List.nodup_nil, List.nodup_cons, List.not_mem_nil, not_false_eq_true, and_self, reduceCtorEq, Option.map_some, Option.map_none, h1', e0, e1, h2, decide_true, decide_false, Bool.not_false, e2, e3, e5, l1, l2, l3, l4, l5, l6]
        · have h1' : ¬ (i : Int) < (t : Int) := by omega
          rw [if_neg (fun z => h1 z.1), List.append_nil]
          simp -implicitDefEqProofs only [FL.v_seq, FL.v_thN, FL.v_thR, FL.v_thB, FL.v_thC, FL.v_ifS, FL.v_asg, FL.v_ret, FL.v_retN, FL.v_drop, FL.v_nx, FL.v_bk, FL.v_ct, FL.v_name, FL.v_pN, FL.v_pV, FL.v_var, FL.v_at, FL.v_trV, FL.v_trP, FL.v_wV, FL.v_wP, FL.v_C, FL.v_ER, FL.v_Fz, FL.v_fO, FL.v_fS, FL.v_fV, FL.v_fP, FL.v_fL, FL.v_vS, FL.v_vO, FL.v_op, FL.v_un, FL.v_bOf, FL.v_test, FL.v_and, FL.v_or, FL.v_not, FL.v_tru, FL.v_trB, FL.v_andV, FL.v_orV, FL.v_notV, FL.v_if, FL.v_chain, FL.v_arN, FL.v_arC, FL.v_faN, FL.v_faC, FL.v_tup, FL.v_lst, FL.v_tdN, FL.v_tdC, FL.v_tdI, FL.v_tdL, FL.toDs_imms, FL.imms_imms, FL.v_cb, FL.v_vsN, FL.v_vsC, FL.v_bm, FL.v_tyS, FL.v_tyL, FL.v_sl, FL.v_moN, FL.v_moS, FL.v_iOf, FL.v_call, FL.v_osO, FL.v_osS, FL.v_isI, FL.v_isL, FL.v_isD, FL.v_gN, FL.v_gO, FL.v_gS, FL.v_for, FL.v_lc, FL.v_sub, FL.v_sub2, FL.v_iAt, FL.v_iC, FL.v_aug, FL.v_par, FL.v_mut, FL.v_rng1, FL.v_rng2, FL.v_seqI, FL.v_enum, FL.v_isi, FL.v_addI, FL.v_addS, FL.v_addT, FL.v_addL, FL.v_subI, FL.v_neg, FL.v_lt, FL.v_le, FL.v_gt, FL.v_ge, FL.v_eqI, FL.v_neI, FL.v_eqS, FL.v_neS, FL.v_ixT, FL.v_ixD, FL.v_ixL, FL.v_ixS, FL.v_len, FL.v_lnT, FL.v_lnD, FL.v_lnL, FL.v_lnS, FL.v_abs, FL.v_max, FL.v_min, FL.v_int, FL.v_intB, FL.v_tuple, FL.v_list, FL.v_sqT, FL.v_sqD, FL.v_sqL, FL.v_itT, FL.v_itL, FL.v_itS, FL.v_isN, FL.v_notN, FL.v_setL, FL.v_setD, FL.v_kS, FL.v_kI, FL.v_mp, FL.v_mpn, FL.v_pO, FL.v_tupG, FL.v_gsC, FL.v_gsN, FL.v_slD, FL.v_at0, FL.v_at1, FL.v_at2, FL.v_i30, FL.v_i31, FL.v_i32, FL.v_Mv, FL.v_mvV, FL.v_pr, FL.v_wpN, FL.v_wpC, FL.v_wsN, FL.v_wsV, FL.v_wsO, FL.v_bkN, FL.v_bkC, FL.v_bsN, FL.v_bsI, FL.v_sf, FL.callD, Option.bind_some, Option.bind_none, List.getElem?_cons_zero, List.getElem?_cons_succ, List.getElem?_nil, List.set_cons_zero, List.set_cons_succ, List.length_cons, List.length_nil, List.filterMap_cons, List.filterMap_nil, decide_eq_true_eq, if_true, if_false, true_and, and_true, Nat.reduceAdd, Nat.reduceLeDiff, Nat.reduceEqDiff, ↓reduceIte, Bool.false_eq_true, FL.startE, FL.backs, List.map_cons, List.map_nil, List.cons_append, List.nil_append, Nat.reduceSub, List.replicate_succ, List.replicate_zero, List.nodup_nil, List.nodup_cons, List.not_mem_nil, not_false_eq_true, and_self, reduceCtorEq, Option.map_some, Option.map_none, h1', decide_false])
    [.val (.imm (.tuple ((List.range n).map (rowD n G)))), .val (.imm (.str (gl w0 (rowsOf G i 0)))), .val (.lst wordsT), .val (.imm (.int (i : Nat))), ov s4] ⟨s4, rfl⟩
  rw [rangeD_len] at e
  exact ⟨s4', e⟩
end WK

namespace WK
open PySem L2 FL
theorem dig_at : ∀ w : Fin 9, atI (Str.ofString "012345678").cps.toList ((w.val : Nat) : Int) = some (48 + w.val) := by decide +kernel
theorem dig_is : ∀ w : Fin 9, (⟨#[48 + w.val]⟩ : Str) = Str.ofString (toString ((w.val : Nat) : Int) : String) := by decide +kernel
theorem dig_len : (Str.ofString "012345678").length = 9 := by decide +kernel
theorem dig_ix (w : Nat) (h : w ≤ 8) : fIx (.imm (.str "012345678")) (.imm (.int (w : Nat))) = some (.imm (.str (Str.ofString (toString (w : Int) : String)))) := by
  rw [v_ixS, if_pos (by rw [dig_len]; decide), dig_at ⟨w, by omega⟩, ← dig_is ⟨w, by omega⟩]; rfl
theorem text_one (n : Nat) (hn : n ≤ 8) (G : Nat → Nat → Int) (hG : Sq n G) : mFn 5 m__law_text [.imm (tabD n G)] = some (.imm (.str (textS n G)), [.imm (tabD n G)]) := by
  have hr := fun E => v_rgN (n := n) (by omega) (E := E)
  have h0 : (headS n).length ≤ 9 := (head_len ⟨n, by omega⟩).1
  obtain ⟨E', e, s3, s4, rfl⟩ := forD_inv (g := mName 3) (ms := (mFor (mRng1 (arCons (mER (mCB fLen (arCons (mVar 0) arNil))) arNil)) (mName 4) (mIfS (mAnd (mTest (mOp fLt (mVar 3) (mVar 4))) (mTest (mOp fNe (mER (mOp fIx (mER (mOp fIx (mVar 0) (mVar 3))) (mVar 4))) (mER (mC (.int 2)))))) (mSeq (mAsg (mOp fAdd (mER (mOp fAdd (mER (mOp fAdd (mER (mOp fAdd (mVar 1) (mER (mC (.str "\n"))))) (mER (mOp fIx (mER (mC (.str "abcdefgh"))) (mVar 3))))) (mER (mC (.str " "))))) (mER (mOp fIx (mER (mC (.str "abcdefgh"))) (mVar 4)))) (mName 1))     (mAsg (mOp fAdd (mER (mOp fAdd (mVar 1) (mER (mC (.str " "))))) (mER (mOp fIx (mVar 2) (mER (mOp fIx (mER (mOp fIx (mVar 0) (mVar 3))) (mVar 4)))))) (mName 1))) mNext)))
    (fun u E => ∃ s3 s4, E = [.val (.imm (.tuple ((List.range n).map (rowD n G)))), .val (.imm (.str (gl (headS n) ((List.range u).flatMap fun i => rowsOf G i n)))), .val (.lst wordsT), ov s3, ov s4]) (rangeD 0 n)
    (fun u d E hu ⟨s3, s4, hE⟩ => by
      obtain ⟨hun, rfl⟩ := rangeD_at hu
      rw [Int.zero_add]
      have hl := tRows_len n G u
      have hb : n * u ≤ 8 * 8 := Nat.mul_le_mul hn (by omega)
      unfold tRows at hl
      rw [List.length_cons] at hl
      have lg := gl_len ((List.range u).flatMap fun i => rowsOf G i n) (headS n) fun r hr => tRows_short hn hG (u := u) (by omega) (by unfold tRows; exact List.mem_cons_of_mem _ hr)
      obtain ⟨s4', e1⟩ := text_inner n hn G hG u hun (gl (headS n) ((List.range u).flatMap fun i => rowsOf G i n)) (by omega) s4
      rw [← gl_app] at e1
      have hs : ((List.range u).flatMap fun i => rowsOf G i n) ++ rowsOf G u n = (List.range (u + 1)).flatMap fun i => rowsOf G i n := by
        rw [List.range_succ, List.flatMap_append]; simp
      rw [hs] at e1
      refine ⟨[.val (.imm (.tuple ((List.range n).map (rowD n G)))), .val (.imm (.str (gl (headS n) ((List.range u).flatMap fun i => rowsOf G i n)))), .val (.lst wordsT), .val (.imm (.int (u : Nat))), ov s4], [.val (.imm (.tuple ((List.range n).map (rowD n G)))), .val (.imm (.str (gl (headS n) ((List.range (u + 1)).flatMap fun i => rowsOf G i n)))), .val (.lst wordsT), .val (.imm (.int (u : Nat))), ov s4'], ?_, .inl ?_, some (.imm (.int (u : Nat))), s4', rfl⟩
      · rw [hE]; simp -implicitDefEqProofs only [FL.v_seq, FL.v_thN, FL.v_thR, FL.v_thB, FL.v_thC, FL.v_ifS, FL.v_asg, FL.v_ret, FL.v_retN, FL.v_drop, FL.v_nx, FL.v_bk, FL.v_ct, FL.v_name, FL.v_pN, FL.v_pV, FL.v_var, FL.v_at, FL.v_trV, FL.v_trP, FL.v_wV, FL.v_wP, FL.v_C, FL.v_ER, FL.v_Fz, FL.v_fO, FL.v_fS, FL.v_fV, FL.v_fP, FL.v_fL, FL.v_vS, FL.v_vO, FL.v_op, FL.v_un, FL.v_bOf, FL.v_test, FL.v_and, FL.v_or, FL.v_not, FL.v_tru, FL.v_trB, FL.v_andV, FL.v_orV, FL.v_notV, FL.v_if, FL.v_chain, FL.v_arN, FL.v_arC, FL.v_faN, FL.v_faC, FL.v_tup, FL.v_lst, FL.v_tdN, FL.v_tdC, FL.v_tdI, FL.v_tdL, FL.toDs_imms, FL.imms_imms, FL.v_cb, FL.v_vsN, FL.v_vsC, FL.v_bm, FL.v_tyS, FL.v_tyL, FL.v_sl, FL.v_moN, FL.v_moS, FL.v_iOf, FL.v_call, FL.v_osO, FL.v_osS, FL.v_isI, FL.v_isL, FL.v_isD, FL.v_gN, FL.v_gO, FL.v_gS, FL.v_for, FL.v_lc, FL.v_sub, FL.v_sub2, FL.v_iAt, FL.v_iC, FL.v_aug, FL.v_par, FL.v_mut, FL.v_rng1, FL.v_rng2, FL.v_seqI, FL.v_enum, FL.v_isi, FL.v_addI, FL.v_addS, FL.v_addT, FL.v_addL, FL.v_subI, FL.v_neg, FL.v_lt, FL.v_le, FL.v_gt, FL.v_ge, FL.v_eqI, FL.v_neI, FL.v_eqS, FL.v_neS, FL.v_ixT, FL.v_ixD, FL.v_ixL, FL.v_ixS, FL.v_len, FL.v_lnT, FL.v_lnD, FL.v_lnL, FL.v_lnS, FL.v_abs, FL.v_max, FL.v_min, FL.v_int, FL.v_intB, FL.v_tuple, FL.v_list, FL.v_sqT, FL.v_sqD, FL.v_sqL, FL.v_itT, FL.v_itL, FL.v_itS, FL.v_isN, FL.v_notN, FL.v_setL, FL.v_setD, FL.v_kS, FL.v_kI, FL.v_mp, FL.v_mpn, FL.v_pO, FL.v_tupG, FL.v_gsC, FL.v_gsN, FL.v_slD, FL.v_at0, FL.v_at1, FL.v_at2, FL.v_i30, FL.v_i31, FL.v_i32, FL.v_Mv, FL.v_mvV, FL.v_pr, FL.v_wpN, FL.v_wpC, FL.v_wsN, FL.v_wsV, FL.v_wsO, FL.v_bkN, FL.v_bkC, FL.v_bsN, FL.v_bsI, FL.v_sf, FL.callD, Option.bind_some, Option.bind_none, List.getElem?_cons_zero, List.getElem?_cons_succ, List.getElem?_nil, List.set_cons_zero, List.set_cons_succ, List.length_cons, List.length_nil, List.filterMap_cons, List.filterMap_nil, decide_eq_true_eq, if_true, if_false, true_and, and_true, Nat.reduceAdd, Nat.reduceLeDiff, Nat.reduceEqDiff, ↓reduceIte, Bool.false_eq_true, FL.startE, FL.backs, List.map_cons, List.map_nil, List.cons_append, List.nil_append, Nat.reduceSub, List.replicate_succ, List.replicate_zero, List.nodup_nil, List.nodup_cons, List.not_mem_nil, not_false_eq_true, and_self, reduceCtorEq, Option.map_some, Option.map_none]
      · simp -implicitDefEqProofs only [FL.v_seq, FL.v_thN, FL.v_thR, FL.v_thB, FL.v_thC, FL.v_ifS, FL.v_asg, FL.v_ret, FL.v_retN, FL.v_drop, FL.v_nx, FL.v_bk, FL.v_ct, FL.v_name, FL.v_pN, FL.v_pV, FL.v_var, FL.v_at, FL.v_trV, FL.v_trP, FL.v_wV, FL.v_wP, FL.v_C, FL.v_ER, FL.v_Fz, FL.v_fO, FL.v_fS, FL.v_fV, FL.v_fP, FL.v_fL, FL.v_vS, FL.v_vO, FL.v_op, FL.v_un, FL.v_bOf, FL.v_test, FL.v_and, FL.v_or, FL.v_not, FL.v_tru, FL.v_trB, FL.v_andV, FL.v_orV, FL.v_notV, FL.v_if, FL.v_chain, FL.v_arN, FL.v_arC, FL.v_faN, FL.v_faC, FL.v_tup, FL.v_lst, FL.v_tdN, FL.v_tdC, FL.v_tdI, FL.v_tdL, FL.toDs_imms, FL.imms_imms, FL.v_cb, FL.v_vsN, FL.v_vsC, FL.v_bm, FL.v_tyS, FL.v_tyL, FL.v_sl, FL.v_moN, FL.v_moS, FL.v_iOf, FL.v_call, FL.v_osO, FL.v_osS, FL.v_isI, FL.v_isL, FL.v_isD, FL.v_gN, FL.v_gO, FL.v_gS, FL.v_for, FL.v_lc, FL.v_sub, FL.v_sub2, FL.v_iAt, FL.v_iC, FL.v_aug, FL.v_par, FL.v_mut, FL.v_rng1, FL.v_rng2, FL.v_seqI, FL.v_enum, FL.v_isi, FL.v_addI, FL.v_addS, FL.v_addT, FL.v_addL, FL.v_subI, FL.v_neg, FL.v_lt, FL.v_le, FL.v_gt, FL.v_ge, FL.v_eqI, FL.v_neI, FL.v_eqS, FL.v_neS, FL.v_ixT, FL.v_ixD, FL.v_ixL, FL.v_ixS, FL.v_len, FL.v_lnT, FL.v_lnD, FL.v_lnL, FL.v_lnS, FL.v_abs, FL.v_max, FL.v_min, FL.v_int, FL.v_intB, FL.v_tuple, FL.v_list, FL.v_sqT, FL.v_sqD, FL.v_sqL, FL.v_itT, FL.v_itL, FL.v_itS, FL.v_isN, FL.v_notN, FL.v_setL, FL.v_setD, FL.v_kS, FL.v_kI, FL.v_mp, FL.v_mpn, FL.v_pO, FL.v_tupG, FL.v_gsC, FL.v_gsN, FL.v_slD, FL.v_at0, FL.v_at1, FL.v_at2, FL.v_i30, FL.v_i31, FL.v_i32, FL.v_Mv, FL.v_mvV, FL.v_pr, FL.v_wpN, FL.v_wpC, FL.v_wsN, FL.v_wsV, FL.v_wsO, FL.v_bkN, FL.v_bkC, FL.v_bsN, FL.v_bsI, FL.v_sf, FL.callD, Option.bind_some, Option.bind_none, List.getElem?_cons_zero, List.getElem?_cons_succ, List.getElem?_nil, List.set_cons_zero, List.set_cons_succ, List.length_cons, List.length_nil, List.filterMap_cons, List.filterMap_nil, decide_eq_true_eq, if_true, if_false, true_and, and_true, Nat.reduceAdd, Nat.reduceLeDiff, Nat.reduceEqDiff, ↓reduceIte, Bool.false_eq_true, FL.startE, FL.backs, List.map_cons, List.map_nil, List.cons_append, List.nil_append, Nat.reduceSub, List.replicate_succ, List.replicate_zero, List.nodup_nil, List.nodup_cons, List.not_mem_nil, not_false_eq_true, and_self, reduceCtorEq, Option.map_some, Option.map_none, List.length_map, List.length_range, hr]
        exact e1)
    [.val (.imm (.tuple ((List.range n).map (rowD n G)))), .val (.imm (.str (gl (headS n) ((List.range 0).flatMap fun i => rowsOf G i n)))), .val (.lst wordsT), ov none, ov none] ⟨none, none, rfl⟩
  rw [rangeD_len, List.range_zero, List.flatMap_nil] at e
  have e0 : gl (headS n) [] = headS n := rfl
  have e9 : gl (headS n) ((List.range n).flatMap fun i => rowsOf G i n) = textS n G := (join_gl _ _).symm
  rw [e0, e9] at e
  have hd : fIx (.imm (.str "012345678")) (.imm (.int (n : Nat))) = some (.imm (.str (Str.ofString (toString (n : Int) : String)))) := dig_ix n hn
  have hl := head_l1 ⟨n, by omega⟩
  unfold headS at e
  unfold wordsT at e
  rw [tab_is]
  simp only [show ov none = SL.no from rfl] at e
  rw [v_fn]
  unfold m__law_text
  simp -implicitDefEqProofs only [FL.v_seq, FL.v_thN, FL.v_thR, FL.v_thB, FL.v_thC, FL.v_ifS, FL.v_asg, FL.v_ret, FL.v_retN, FL.v_drop, FL.v_nx, FL.v_bk, FL.v_ct, FL.v_name, FL.v_pN, FL.v_pV, FL.v_var, FL.v_at, FL.v_trV, FL.v_trP, FL.v_wV, FL.v_wP, FL.v_C, FL.v_ER, FL.v_Fz, FL.v_fO, FL.v_fS, FL.v_fV, FL.v_fP, FL.v_fL, FL.v_vS, FL.v_vO, FL.v_op, FL.v_un, FL.v_bOf, FL.v_test, FL.v_and, FL.v_or, FL.v_not, FL.v_tru, FL.v_trB, FL.v_andV, FL.v_orV, FL.v_notV, FL.v_if, FL.v_chain, FL.v_arN, FL.v_arC, FL.v_faN, FL.v_faC, FL.v_tup, FL.v_lst, FL.v_tdN, FL.v_tdC, FL.v_tdI, FL.v_tdL, FL.toDs_imms, FL.imms_imms, FL.v_cb, FL.v_vsN, FL.v_vsC, FL.v_bm, FL.v_tyS, FL.v_tyL, FL.v_sl, FL.v_moN, FL.v_moS, FL.v_iOf, FL.v_call, FL.v_osO, FL.v_osS, FL.v_isI, FL.v_isL, FL.v_isD, FL.v_gN, FL.v_gO, FL.v_gS, FL.v_for, FL.v_lc, FL.v_sub, FL.v_sub2, FL.v_iAt, FL.v_iC, FL.v_aug, FL.v_par, FL.v_mut, FL.v_rng1, FL.v_rng2, FL.v_seqI, FL.v_enum, FL.v_isi, FL.v_addI, FL.v_addS, FL.v_addT, FL.v_addL, FL.v_subI, FL.v_neg, FL.v_lt, FL.v_le, FL.v_gt, FL.v_ge, FL.v_eqI, FL.v_neI, FL.v_eqS, FL.v_neS, FL.v_ixT, FL.v_ixD, FL.v_ixL, FL.v_ixS, FL.v_len, FL.v_lnT, FL.v_lnD, FL.v_lnL, FL.v_lnS, FL.v_abs, FL.v_max, FL.v_min, FL.v_int, FL.v_intB, FL.v_tuple, FL.v_list, FL.v_sqT, FL.v_sqD, FL.v_sqL, FL.v_itT, FL.v_itL, FL.v_itS, FL.v_isN, FL.v_notN, FL.v_setL, FL.v_setD, FL.v_kS, FL.v_kI, FL.v_mp, FL.v_mpn, FL.v_pO, FL.v_tupG, FL.v_gsC, FL.v_gsN, FL.v_slD, FL.v_at0, FL.v_at1, FL.v_at2, FL.v_i30, FL.v_i31, FL.v_i32, FL.v_Mv, FL.v_mvV, FL.v_pr, FL.v_wpN, FL.v_wpC, FL.v_wsN, FL.v_wsV, FL.v_wsO, FL.v_bkN, FL.v_bkC, FL.v_bsN, FL.v_bsI, FL.v_sf, FL.callD, Option.bind_some, Option.bind_none, List.getElem?_cons_zero, List.getElem?_cons_succ, List.getElem?_nil, List.set_cons_zero, List.set_cons_succ, List.length_cons, List.length_nil, List.filterMap_cons, List.filterMap_nil, decide_eq_true_eq, if_true, if_false, true_and, and_true, Nat.reduceAdd, Nat.reduceLeDiff, Nat.reduceEqDiff, ↓reduceIte, Bool.false_eq_true, FL.startE, FL.backs, List.map_cons, List.map_nil, List.cons_append, List.nil_append, Nat.reduceSub, List.replicate_succ, List.replicate_zero, List.nodup_nil, List.nodup_cons, List.not_mem_nil, not_false_eq_true, and_self, reduceCtorEq, Option.map_some, Option.map_none, List.length_map, List.length_range, hr, hd, hl, e]
/-! the greatest common part; the order -/
theorem gcd_while : ∀ (f a b : Nat), b < f → whileF (mTest (mOp fGt (mVar 1) (mER (mC (.int 0))))) (mPar 0 1 (faCons (mFz (mVar 1)) (faCons (mOp fMod (mVar 0) (mVar 1)) faNil))) f [.val (.imm (.int (a : Nat))), .val (.imm (.int (b : Nat)))] = some (.nx [.val (.imm (.int ((Nat.gcd a b : Nat) : Int))), .val (.imm (.int 0))])
  | 0, _, _, h => absurd h (Nat.not_lt_zero _)
  | f + 1, a, b, h => by
    rw [whileF]
    by_cases hb : b = 0
    · subst hb
      simp -implicitDefEqProofs only [FL.v_seq, FL.v_thN, FL.v_thR, FL.v_thB, FL.v_thC, FL.v_ifS, FL.v_asg, FL.v_ret, FL.v_retN, FL.v_drop, FL.v_nx, FL.v_bk, FL.v_ct, FL.v_name, FL.v_pN, FL.v_pV, FL.v_var, FL.v_at, FL.v_trV, FL.v_trP, FL.v_wV, FL.v_wP, FL.v_C, FL.v_ER, FL.v_Fz, FL.v_fO, FL.v_fS, FL.v_fV, FL.v_fP, FL.v_fL, FL.v_vS, FL.v_vO, FL.v_op, FL.v_un, FL.v_bOf, FL.v_test, FL.v_and, FL.v_or, FL.v_not, FL.v_tru, FL.v_trB, FL.v_andV, FL.v_orV, FL.v_notV, FL.v_if, FL.v_chain, FL.v_arN, FL.v_arC, FL.v_faN, FL.v_faC, FL.v_tup, FL.v_lst, FL.v_tdN, FL.v_tdC, FL.v_tdI, FL.v_tdL, FL.toDs_imms, FL.imms_imms, FL.v_cb, FL.v_vsN, FL.v_vsC, FL.v_bm, FL.v_tyS, FL.v_tyL, FL.v_sl, FL.v_moN, FL.v_moS, FL.v_iOf, FL.v_call, FL.v_osO, FL.v_osS, FL.v_isI, FL.v_isL, FL.v_isD, FL.v_gN, FL.v_gO, FL.v_gS, FL.v_for, FL.v_lc, FL.v_sub, FL.v_sub2, FL.v_iAt, FL.v_iC, FL.v_aug, FL.v_par, FL.v_mut, FL.v_rng1, FL.v_rng2, FL.v_seqI, FL.v_enum, FL.v_isi, FL.v_addI, FL.v_addS, FL.v_addT, FL.v_addL, FL.v_subI, FL.v_neg, FL.v_lt, FL.v_le, FL.v_gt, FL.v_ge, FL.v_eqI, FL.v_neI, FL.v_eqS, FL.v_neS, FL.v_ixT, FL.v_ixD, FL.v_ixL, FL.v_ixS, FL.v_len, FL.v_lnT, FL.v_lnD, FL.v_lnL, FL.v_lnS, FL.v_abs, FL.v_max, FL.v_min, FL.v_int, FL.v_intB, FL.v_tuple, FL.v_list, FL.v_sqT, FL.v_sqD, FL.v_sqL, FL.v_itT, FL.v_itL, FL.v_itS, FL.v_isN, FL.v_notN, FL.v_setL, FL.v_setD, FL.v_kS, FL.v_kI, FL.v_mp, FL.v_mpn, FL.v_pO, FL.v_tupG, FL.v_gsC, FL.v_gsN, FL.v_slD, FL.v_at0, FL.v_at1, FL.v_at2, FL.v_i30, FL.v_i31, FL.v_i32, FL.v_Mv, FL.v_mvV, FL.v_pr, FL.v_wpN, FL.v_wpC, FL.v_wsN, FL.v_wsV, FL.v_wsO, FL.v_bkN, FL.v_bkC, FL.v_bsN, FL.v_bsI, FL.v_sf, FL.callD, Option.bind_some, Option.bind_none, List.getElem?_cons_zero, List.getElem?_cons_succ, List.getElem?_nil, List.set_cons_zero, List.set_cons_succ, List.length_cons, List.length_nil, List.filterMap_cons, List.filterMap_nil, decide_eq_true_eq, if_true, if_false, true_and, and_true, Nat.reduceAdd, Nat.reduceLeDiff, Nat.reduceEqDiff, ↓reduceIte, Bool.false_eq_true, FL.startE, FL.backs, List.map_cons, List.map_nil, List.cons_append, List.nil_append, Nat.reduceSub, List.replicate_succ, List.replicate_zero, List.nodup_nil, List.nodup_cons, List.not_mem_nil, not_false_eq_true, and_self, reduceCtorEq, Option.map_some, Option.map_none, show ((0 : Nat) : Int) = 0 from rfl, Int.lt_irrefl, decide_false, Nat.gcd_zero_right]
    · have h1 : (0 : Int) < (b : Nat) := by omega
      have e1 := v_modI (a := (a : Nat)) h1
      rw [← Int.natCast_emod] at e1
      have e2 := gcd_while f b (a % b) (by have := Nat.mod_lt a (Nat.pos_of_ne_zero hb); omega)
      have e3 : Nat.gcd b (a % b) = Nat.gcd a b := by rw [Nat.gcd_comm b, ← Nat.gcd_rec, Nat.gcd_comm]
      rw [e3] at e2
      simp -implicitDefEqProofs only [FL.v_seq, FL.v_thN, FL.v_thR, FL.v_thB, FL.v_thC, FL.v_ifS, FL.v_asg, FL.v_ret, FL.v_retN, FL.v_drop, FL.v_nx, FL.v_bk, FL.v_ct, FL.v_name, FL.v_pN, FL.v_pV, FL.v_var, FL.v_at, FL.v_trV, FL.v_trP, FL.v_wV, FL.v_wP, FL.v_C, FL.v_ER, FL.v_Fz, FL.v_fO, FL.v_fS, FL.v_fV, FL.v_fP, FL.v_fL, FL.v_vS, FL.v_vO, FL.v_op, FL.v_un, FL.v_bOf, FL.v_test, FL.v_and, FL.v_or, FL.v_not, FL.v_tru, FL.v_trB, FL.v_andV, FL.v_orV, FL.v_notV, FL.v_if, FL.v_chain, FL.v_arN, FL.v_arC, FL.v_faN, FL.v_faC, FL.v_tup, FL.v_lst, FL.v_tdN, FL.v_tdC, FL.v_tdI, FL.v_tdL, FL.toDs_imms, FL.imms_imms, FL.v_cb, FL.v_vsN, FL.v_vsC, FL.v_bm, FL.v_tyS, FL.v_tyL, FL.v_sl, FL.v_moN, FL.v_moS, FL.v_iOf, FL.v_call, FL.v_osO, FL.v_osS, FL.v_isI, FL.v_isL, FL.v_isD, FL.v_gN, FL.v_gO, FL.v_gS, FL.v_for, FL.v_lc, FL.v_sub, FL.v_sub2, FL.v_iAt, FL.v_iC, FL.v_aug, FL.v_par, FL.v_mut, FL.v_rng1, FL.v_rng2, FL.v_seqI, FL.v_enum, FL.v_isi, FL.v_addI, FL.v_addS, FL.v_addT, FL.v_addL, FL.v_subI, FL.v_neg, FL.v_lt, FL.v_le, FL.v_gt, FL.v_ge, FL.v_eqI, FL.v_neI, FL.v_eqS, FL.v_neS, FL.v_ixT, FL.v_ixD, FL.v_ixL, FL.v_ixS, FL.v_len, FL.v_lnT, FL.v_lnD, FL.v_lnL, FL.v_lnS, FL.v_abs, FL.v_max, FL.v_min, FL.v_int, FL.v_intB, FL.v_tuple, FL.v_list, FL.v_sqT, FL.v_sqD, FL.v_sqL, FL.v_itT, FL.v_itL, FL.v_itS, FL.v_isN, FL.v_notN, FL.v_setL, FL.v_setD, FL.v_kS, FL.v_kI, FL.v_mp, FL.v_mpn, FL.v_pO, FL.v_tupG, FL.v_gsC, FL.v_gsN, FL.v_slD, FL.v_at0, FL.v_at1, FL.v_at2, FL.v_i30, FL.v_i31, FL.v_i32, FL.v_Mv, FL.v_mvV, FL.v_pr, FL.v_wpN, FL.v_wpC, FL.v_wsN, FL.v_wsV, FL.v_wsO, FL.v_bkN, FL.v_bkC, FL.v_bsN, FL.v_bsI, FL.v_sf, FL.callD, Option.bind_some, Option.bind_none, List.getElem?_cons_zero, List.getElem?_cons_succ, List.getElem?_nil, List.set_cons_zero, List.set_cons_succ, List.length_cons, List.length_nil, List.filterMap_cons, List.filterMap_nil, decide_eq_true_eq, if_true, if_false, true_and, and_true, Nat.reduceAdd, Nat.reduceLeDiff, Nat.reduceEqDiff, ↓reduceIte, Bool.false_eq_true, FL.startE, FL.backs, List.map_cons, List.map_nil, List.cons_append, List.nil_append, Nat.reduceSub, List.replicate_succ, List.replicate_zero, List.nodup_nil, List.nodup_cons, List.not_mem_nil, not_false_eq_true, and_self, reduceCtorEq, Option.map_some, Option.map_none, h1, decide_true, e1, afterTurn]
      exact e2
theorem gcd_one (a b : Nat) : mFn 2 m_common_part [.imm (.int (a : Nat)), .imm (.int (b : Nat))] = some (.imm (.int ((Nat.gcd a b : Nat) : Int)), [.imm (.int (a : Nat)), .imm (.int (b : Nat))]) := by
  have e := mWhile_of (gcd_while (b + 1) a b (Nat.lt_succ_self b))
  rw [v_fn]
  unfold m_common_part
  simp -implicitDefEqProofs only [FL.v_seq, FL.v_thN, FL.v_thR, FL.v_thB, FL.v_thC, FL.v_ifS, FL.v_asg, FL.v_ret, FL.v_retN, FL.v_drop, FL.v_nx, FL.v_bk, FL.v_ct, FL.v_name, FL.v_pN, FL.v_pV, FL.v_var, FL.v_at, FL.v_trV, FL.v_trP, FL.v_wV, FL.v_wP, FL.v_C, FL.v_ER, FL.v_Fz, FL.v_fO, FL.v_fS, FL.v_fV, FL.v_fP, FL.v_fL, FL.v_vS, FL.v_vO, FL.v_op, FL.v_un, FL.v_bOf, FL.v_test, FL.v_and, FL.v_or, FL.v_not, FL.v_tru, FL.v_trB, FL.v_andV, FL.v_orV, FL.v_notV, FL.v_if, FL.v_chain, FL.v_arN, FL.v_arC, FL.v_faN, FL.v_faC, FL.v_tup, FL.v_lst, FL.v_tdN, FL.v_tdC, FL.v_tdI, FL.v_tdL, FL.toDs_imms, FL.imms_imms, FL.v_cb, FL.v_vsN, FL.v_vsC, FL.v_bm, FL.v_tyS, FL.v_tyL, FL.v_sl, FL.v_moN, FL.v_moS, FL.v_iOf, FL.v_call, FL.v_osO, FL.v_osS, FL.v_isI, FL.v_isL, FL.v_isD, FL.v_gN, FL.v_gO, FL.v_gS, FL.v_for, FL.v_lc, FL.v_sub, FL.v_sub2, FL.v_iAt, FL.v_iC, FL.v_aug, FL.v_par, FL.v_mut, FL.v_rng1, FL.v_rng2, FL.v_seqI, FL.v_enum, FL.v_isi, FL.v_addI, FL.v_addS, FL.v_addT, FL.v_addL, FL.v_subI, FL.v_neg, FL.v_lt, FL.v_le, FL.v_gt, FL.v_ge, FL.v_eqI, FL.v_neI, FL.v_eqS, FL.v_neS, FL.v_ixT, FL.v_ixD, FL.v_ixL, FL.v_ixS, FL.v_len, FL.v_lnT, FL.v_lnD, FL.v_lnL, FL.v_lnS, FL.v_abs, FL.v_max, FL.v_min, FL.v_int, FL.v_intB, FL.v_tuple, FL.v_list, FL.v_sqT, FL.v_sqD, FL.v_sqL, FL.v_itT, FL.v_itL, FL.v_itS, FL.v_isN, FL.v_notN, FL.v_setL, FL.v_setD, FL.v_kS, FL.v_kI, FL.v_mp, FL.v_mpn, FL.v_pO, FL.v_tupG, FL.v_gsC, FL.v_gsN, FL.v_slD, FL.v_at0, FL.v_at1, FL.v_at2, FL.v_i30, FL.v_i31, FL.v_i32, FL.v_Mv, FL.v_mvV, FL.v_pr, FL.v_wpN, FL.v_wpC, FL.v_wsN, FL.v_wsV, FL.v_wsO, FL.v_bkN, FL.v_bkC, FL.v_bsN, FL.v_bsI, FL.v_sf, FL.callD, Option.bind_some, Option.bind_none, List.getElem?_cons_zero, List.getElem?_cons_succ, List.getElem?_nil, List.set_cons_zero, List.set_cons_succ, List.length_cons, List.length_nil, List.filterMap_cons, List.filterMap_nil, decide_eq_true_eq, if_true, if_false, true_and, and_true, Nat.reduceAdd, Nat.reduceLeDiff, Nat.reduceEqDiff, ↓reduceIte, Bool.false_eq_true, FL.startE, FL.backs, List.map_cons, List.map_nil, List.cons_append, List.nil_append, Nat.reduceSub, List.replicate_succ, List.replicate_zero, List.nodup_nil, List.nodup_cons, List.not_mem_nil, not_false_eq_true, and_self, reduceCtorEq, Option.map_some, Option.map_none, e]
def ordL (l : List Int) : Nat := l.foldl (fun o k => if 2 < k then Nat.lcm o k.toNat else o) 1
theorem stk_ord : ∀ l ∈ stkN, (decide (0 < ordL l) && decide (ordL l ≤ 60) && l.all fun k => decide (k ≤ 2) || decide (ordL l % k.toNat = 0)) = true := by decide +kernel
theorem ord_inner (L : Nat) (hL0 : 0 < L) (hL : L ≤ 60) (T : SL) (row : SL) (ks : List Int) (hk : ∀ k ∈ ks, k ≤ 2 ∨ k.toNat ∣ L) (o : Nat) (h1 : o ∣ L) (s3 : Option Tr) :
    ∃ o' s3', forD (mName 3) (mIfS (mTest (mOp fGt (mVar 3) (mER (mC (.int 2))))) (mAsg (mOp fDiv (mER (mOp fMul (mVar 1) (mVar 3))) (mER (mCall 2 (mFn 2 m_common_part) (arCons (mVar 1) (arCons (mVar 3) arNil))))) (mName 1)) mNext) (ks.map PyData.int) [T, .val (.imm (.int (o : Nat))), row, ov s3] = some (.nx [T, .val (.imm (.int (o' : Nat))), row, ov s3']) ∧ o' ∣ L := by
  obtain ⟨E', e, o', s3', rfl, h⟩ := forD_inv (g := mName 3) (ms := (mIfS (mTest (mOp fGt (mVar 3) (mER (mC (.int 2))))) (mAsg (mOp fDiv (mER (mOp fMul (mVar 1) (mVar 3))) (mER (mCall 2 (mFn 2 m_common_part) (arCons (mVar 1) (arCons (mVar 3) arNil))))) (mName 1)) mNext))
    (fun _ E => ∃ (o' : Nat) (s3' : Option Tr), E = [T, .val (.imm (.int (o' : Nat))), row, ov s3'] ∧ o' ∣ L) (ks.map PyData.int)
    (fun i d E hi ⟨o, s3', hE, ho⟩ => by
      obtain ⟨k, hkm, rfl⟩ := List.mem_map.mp (List.mem_of_getElem? hi)
      by_cases h2 : 2 < k
      · obtain ⟨w, rfl⟩ := Int.eq_ofNat_of_zero_le (show 0 ≤ k by omega)
        have hw : w ∣ L := by
          rcases hk _ hkm with h | h
          · omega
          · exact h
        have ho0 : 0 < o := Nat.pos_of_dvd_of_pos ho hL0
        have hoL := Nat.le_of_dvd hL0 ho
        have hwL := Nat.le_of_dvd hL0 hw
        have hg : 0 < Nat.gcd o w := Nat.gcd_pos_of_pos_left _ ho0
        have hgL : Nat.gcd o w ≤ o := Nat.gcd_le_left _ ho0
        have e1 := Bd.fmul (m := 10) (n := 10) (a := (o : Nat)) (b := (w : Nat)) (.of (by omega) (by omega)) (.of (by omega) (by omega)) (by decide)
        have e2 := gcd_one o w
        have e3 := v_divI (a := (o : Int) * (w : Int)) (b := ((Nat.gcd o w : Nat) : Int)) (cdiv_ok (n := 10) (by omega) (.of (by omega) (by omega)) (by decide))
        have e4 : (o : Int) * (w : Int) / ((Nat.gcd o w : Nat) : Int) = ((Nat.lcm o w : Nat) : Int) := by
          unfold Nat.lcm
          rw [Int.natCast_ediv, Int.natCast_mul]
        rw [e4] at e3
        refine ⟨[T, .val (.imm (.int (o : Nat))), row, .val (.imm (.int (w : Nat)))], [T, .val (.imm (.int ((Nat.lcm o w : Nat) : Int))), row, .val (.imm (.int (w : Nat)))], ?_, .inl ?_, Nat.lcm o w, some (.imm (.int (w : Nat))), rfl, Nat.lcm_dvd ho hw⟩
        · rw [hE]; simp -implicitDefEqProofs only [FL.v_seq, FL.v_thN, FL.v_thR, FL.v_thB, FL.v_thC, FL.v_ifS, FL.v_asg, FL.v_ret, FL.v_retN, FL.v_drop, FL.v_nx, FL.v_bk, FL.v_ct, FL.v_name, FL.v_pN, FL.v_pV, FL.v_var, FL.v_at, FL.v_trV, FL.v_trP, FL.v_wV, FL.v_wP, FL.v_C, FL.v_ER, FL.v_Fz, FL.v_fO, FL.v_fS, FL.v_fV, FL.v_fP, FL.v_fL, FL.v_vS, FL.v_vO, FL.v_op, FL.v_un, FL.v_bOf, FL.v_test, FL.v_and, FL.v_or, FL.v_not, FL.v_tru, FL.v_trB, FL.v_andV, FL.v_orV, FL.v_notV, FL.v_if, FL.v_chain, FL.v_arN, FL.v_arC, FL.v_faN, FL.v_faC, FL.v_tup, FL.v_lst, FL.v_tdN, FL.v_tdC, FL.v_tdI, FL.v_tdL, FL.toDs_imms, FL.imms_imms, FL.v_cb, FL.v_vsN, FL.v_vsC, FL.v_bm, FL.v_tyS, FL.v_tyL, FL.v_sl, FL.v_moN, FL.v_moS, FL.v_iOf, FL.v_call, FL.v_osO, FL.v_osS, FL.v_isI, FL.v_isL, FL.v_isD, FL.v_gN, FL.v_gO, FL.v_gS, FL.v_for, FL.v_lc, FL.v_sub, FL.v_sub2, FL.v_iAt, FL.v_iC, FL.v_aug, FL.v_par, FL.v_mut, FL.v_rng1, FL.v_rng2, FL.v_seqI, FL.v_enum, FL.v_isi, FL.v_addI, FL.v_addS, FL.v_addT, FL.v_addL, FL.v_subI, FL.v_neg, FL.v_lt, FL.v_le, FL.v_gt, FL.v_ge, FL.v_eqI, FL.v_neI, FL.v_eqS, FL.v_neS, FL.v_ixT, FL.v_ixD, FL.v_ixL, FL.v_ixS, FL.v_len, FL.v_lnT, FL.v_lnD, FL.v_lnL, FL.v_lnS, FL.v_abs, FL.v_max, FL.v_min, FL.v_int, FL.v_intB, FL.v_tuple, FL.v_list, FL.v_sqT, FL.v_sqD, FL.v_sqL, FL.v_itT, FL.v_itL, FL.v_itS, FL.v_isN, FL.v_notN, FL.v_setL, FL.v_setD, FL.v_kS, FL.v_kI, FL.v_mp, FL.v_mpn, FL.v_pO, FL.v_tupG, FL.v_gsC, FL.v_gsN, FL.v_slD, FL.v_at0, FL.v_at1, FL.v_at2, FL.v_i30, FL.v_i31, FL.v_i32, FL.v_Mv, FL.v_mvV, FL.v_pr, FL.v_wpN, FL.v_wpC, FL.v_wsN, FL.v_wsV, FL.v_wsO, FL.v_bkN, FL.v_bkC, FL.v_bsN, FL.v_bsI, FL.v_sf, FL.callD, Option.bind_some, Option.bind_none, List.getElem?_cons_zero, List.getElem?_cons_succ, List.getElem?_nil, List.set_cons_zero, List.set_cons_succ, List.length_cons, List.length_nil, List.filterMap_cons, List.filterMap_nil, decide_eq_true_eq, if_true, if_false, true_and, and_true, Nat.reduceAdd, Nat.reduceLeDiff, Nat.reduceEqDiff, ↓reduceIte, Bool.false_eq_true, FL.startE, FL.backs, List.map_cons, List.map_nil, List.cons_append, List.nil_append, Nat.reduceSub, List.replicate_succ, List.replicate_zero, List.nodup_nil, List.nodup_cons, List.not_mem_nil, not_false_eq_true, and_self, reduceCtorEq, Option.map_some, Option.map_none]
        · simp -implicitDefEqProofs only [FL.v_seq, FL.v_thN, FL.v_thR, FL.v_thB, FL.v_thC, FL.v_ifS, FL.v_asg, FL.v_ret, FL.v_retN, FL.v_drop, FL.v_nx, FL.v_bk, FL.v_ct, FL.v_name, FL.v_pN, FL.v_pV, FL.v_var, FL.v_at, FL.v_trV, FL.v_trP, FL.v_wV, FL.v_wP, FL.v_C, FL.v_ER, FL.v_Fz, FL.v_fO, FL.v_fS, FL.v_fV, FL.v_fP, FL.v_fL, FL.v_vS, FL.v_vO, FL.v_op, FL.v_un, FL.v_bOf, FL.v_test, FL.v_and, FL.v_or, FL.v_not, FL.v_tru, FL.v_trB, FL.v_andV, FL.v_orV, FL.v_notV, FL.v_if, FL.v_chain, FL.v_arN, FL.v_arC, FL.v_faN, FL.v_faC, FL.v_tup, FL.v_lst, FL.v_tdN, FL.v_tdC, FL.v_tdI, FL.v_tdL, FL.toDs_imms, FL.imms_imms, FL.v_cb, FL.v_vsN, FL.v_vsC, FL.v_bm, FL.v_tyS, FL.v_tyL, FL.v_sl, FL.v_moN, FL.v_moS, FL.v_iOf, FL.v_call, FL.v_osO, FL.v_osS, FL.v_isI, FL.v_isL, FL.v_isD, FL.v_gN, FL.v_gO, FL.v_gS, FL.v_for, FL.v_lc, FL.v_sub, FL.v_sub2, FL.v_iAt, FL.v_iC, FL.v_aug, FL.v_par, FL.v_mut, FL.v_rng1, FL.v_rng2, FL.v_seqI, FL.v_enum, FL.v_isi, FL.v_addI, FL.v_addS, FL.v_addT, FL.v_addL, FL.v_subI, FL.v_neg, FL.v_lt, FL.v_le, FL.v_gt, FL.v_ge, FL.v_eqI, FL.v_neI, FL.v_eqS, FL.v_neS, FL.v_ixT, FL.v_ixD, FL.v_ixL, FL.v_ixS, FL.v_len, FL.v_lnT, FL.v_lnD, FL.v_lnL, FL.v_lnS, FL.v_abs, FL.v_max, FL.v_min, FL.v_int, FL.v_intB, FL.v_tuple, FL.v_list, FL.v_sqT, FL.v_sqD, FL.v_sqL, FL.v_itT, FL.v_itL, FL.v_itS, FL.v_isN, FL.v_notN, FL.v_setL, FL.v_setD, FL.v_kS, FL.v_kI, FL.v_mp, FL.v_mpn, FL.v_pO, FL.v_tupG, FL.v_gsC, FL.v_gsN, FL.v_slD, FL.v_at0, FL.v_at1, FL.v_at2, FL.v_i30, FL.v_i31, FL.v_i32, FL.v_Mv, FL.v_mvV, FL.v_pr, FL.v_wpN, FL.v_wpC, FL.v_wsN, FL.v_wsV, FL.v_wsO, FL.v_bkN, FL.v_bkC, FL.v_bsN, FL.v_bsI, FL.v_sf, FL.callD, Option.bind_some, Option.bind_none, List.getElem?_cons_zero, List.getElem?_cons_succ, List.getElem?_nil, List.set_cons_zero, List.set_cons_succ, List.length_cons, List.length_nil, List.filterMap_cons, List.filterMap_nil, decide_eq_true_eq, if_true, if_false, true_and, and_true, Nat.reduceAdd, Nat.reduceLeDiff, Nat.reduceEqDiff, ↓reduceIte, Bool.false_eq_true, FL.startE, FL.backs, List.map_cons, List.map_nil, List.cons_append, List.nil_append, Nat.reduceSub, List.replicate_succ, List.replicate_zero, List.nodup_nil, List.nodup_cons, List.not_mem_nil, not_false_eq_true, and_self, reduceCtorEq, Option.map_some, Option.map_none, h2, decide_true, e1, e2, e3]
      · refine ⟨[T, .val (.imm (.int (o : Nat))), row, .val (.imm (.int k))], [T, .val (.imm (.int (o : Nat))), row, .val (.imm (.int k))], ?_, .inl ?_, o, some (.imm (.int k)), rfl, ho⟩
        · rw [hE]; simp -implicitDefEqProofs only [FL.v_seq, FL.v_thN, FL.v_thR, FL.v_thB, FL.v_thC, FL.v_ifS, FL.v_asg, FL.v_ret, FL.v_retN, FL.v_drop, FL.v_nx, FL.v_bk, FL.v_ct, FL.v_name, FL.v_pN, FL.v_pV, FL.v_var, FL.v_at, FL.v_trV, FL.v_trP, FL.v_wV, FL.v_wP, FL.v_C, FL.v_ER, FL.v_Fz, FL.v_fO, FL.v_fS, FL.v_fV, FL.v_fP, FL.v_fL, FL.v_vS, FL.v_vO, FL.v_op, FL.v_un, FL.v_bOf, FL.v_test, FL.v_and, FL.v_or, FL.v_not, FL.v_tru, FL.v_trB, FL.v_andV, FL.v_orV, FL.v_notV, FL.v_if, FL.v_chain, FL.v_arN, FL.v_arC, FL.v_faN, FL.v_faC, FL.v_tup, FL.v_lst, FL.v_tdN, FL.v_tdC, FL.v_tdI, FL.v_tdL, FL.toDs_imms, FL.imms_imms, FL.v_cb, FL.v_vsN, FL.v_vsC, FL.v_bm, FL.v_tyS, FL.v_tyL, FL.v_sl, FL.v_moN, FL.v_moS, FL.v_iOf, FL.v_call, FL.v_osO, FL.v_osS, FL.v_isI, FL.v_isL, FL.v_isD, FL.v_gN, FL.v_gO, FL.v_gS, FL.v_for, FL.v_lc, FL.v_sub, FL.v_sub2, FL.v_iAt, FL.v_iC, FL.v_aug, FL.v_par, FL.v_mut, FL.v_rng1, FL.v_rng2, FL.v_seqI, FL.v_enum, FL.v_isi, FL.v_addI, FL.v_addS, FL.v_addT, FL.v_addL, FL.v_subI, FL.v_neg, FL.v_lt, FL.v_le, FL.v_gt, FL.v_ge, FL.v_eqI, FL.v_neI, FL.v_eqS, FL.v_neS, FL.v_ixT, FL.v_ixD, FL.v_ixL, FL.v_ixS, FL.v_len, FL.v_lnT, FL.v_lnD, FL.v_lnL, FL.v_lnS, FL.v_abs, FL.v_max, FL.v_min, FL.v_int, FL.v_intB, FL.v_tuple, FL.v_list, FL.v_sqT, FL.v_sqD, FL.v_sqL, FL.v_itT, FL.v_itL, FL.v_itS, FL.v_isN, FL.v_notN, FL.v_setL, FL.v_setD, FL.v_kS, FL.v_kI, FL.v_mp, FL.v_mpn, FL.v_pO, FL.v_tupG, FL.v_gsC, FL.v_gsN, FL.v_slD, FL.v_at0, FL.v_at1, FL.v_at2, FL.v_i30, FL.v_i31, FL.v_i32, FL.v_Mv, FL.v_mvV, FL.v_pr, FL.v_wpN, FL.v_wpC, FL.v_wsN, FL.v_wsV, FL.v_wsO, FL.v_bkN, FL.v_bkC, FL.v_bsN, FL.v_bsI, FL.v_sf, FL.callD, Option.bind_some, Option.bind_none, List.getElem?_cons_zero, List.getElem?_cons_succ, List.getElem?_nil, List.set_cons_zero, List.set_cons_succ, List.length_cons, List.length_nil, List.filterMap_cons, List.filterMap_nil, decide_eq_true_eq, if_true, if_false, true_and, and_true, Nat.reduceAdd, Nat.reduceLeDiff, Nat.reduceEqDiff, ↓reduceIte, Bool.false_eq_true, FL.startE, FL.backs, List.map_cons, List.map_nil, List.cons_append, List.nil_append, Nat.reduceSub, List.replicate_succ, List.replicate_zero, List.nodup_nil, List.nodup_cons, List.not_mem_nil, not_false_eq_true, and_self, reduceCtorEq, Option.map_some, Option.map_none]
        · simp -implicitDefEqProofs only [FL.v_seq, FL.v_thN, FL.v_thR, FL.v_thB, FL.v_thC, FL.v_ifS, FL.v_asg, FL.v_ret, FL.v_retN, FL.v_drop, FL.v_nx, FL.v_bk, FL.v_ct, FL.v_name, FL.v_pN, FL.v_pV, FL.v_var, FL.v_at, FL.v_trV, FL.v_trP, FL.v_wV, FL.v_wP, FL.v_C, FL.v_ER, FL.v_Fz, FL.v_fO, FL.v_fS, FL.v_fV, FL.v_fP, FL.v_fL, FL.v_vS, FL.v_vO, FL.v_op, FL.v_un, FL.v_bOf, FL.v_test, FL.v_and, FL.v_or, FL.v_not, FL.v_tru, FL.v_trB, FL.v_andV, FL.v_orV, FL.v_notV, FL.v_if, FL.v_chain, FL.v_arN, FL.v_arC, FL.v_faN, FL.v_faC, FL.v_tup, FL.v_lst, FL.v_tdN, FL.v_tdC, FL.v_tdI, FL.v_tdL, FL.toDs_imms, FL.imms_imms, FL.v_cb, FL.v_vsN, FL.v_vsC, FL.v_bm, FL.v_tyS, FL.v_tyL, FL.v_sl, FL.v_moN, FL.v_moS, FL.v_iOf, FL.v_call, FL.v_osO, FL.v_osS, FL.v_isI, FL.v_isL, FL.v_isD, FL.v_gN, FL.v_gO, FL.v_gS, FL.v_for, FL.v_lc, FL.v_sub, FL.v_sub2, FL.v_iAt, FL.v_iC, FL.v_aug, FL.v_par, FL.v_mut, FL.v_rng1, FL.v_rng2, FL.v_seqI, FL.v_enum, FL.v_isi, FL.v_addI, FL.v_addS, FL.v_addT, FL.v_addL, FL.v_subI, FL.v_neg, FL.v_lt, FL.v_le, FL.v_gt, FL.v_ge, FL.v_eqI, FL.v_neI, FL.v_eqS, FL.v_neS, FL.v_ixT, FL.v_ixD, FL.v_ixL, FL.v_ixS, FL.v_len, FL.v_lnT, FL.v_lnD, FL.v_lnL, FL.v_lnS, FL.v_abs, FL.v_max, FL.v_min, FL.v_int, FL.v_intB, FL.v_tuple, FL.v_list, FL.v_sqT, FL.v_sqD, FL.v_sqL, FL.v_itT, FL.v_itL, FL.v_itS, FL.v_isN, FL.v_notN, FL.v_setL, FL.v_setD, FL.v_kS, FL.v_kI, FL.v_mp, FL.v_mpn, FL.v_pO, FL.v_tupG, FL.v_gsC, FL.v_gsN, FL.v_slD, FL.v_at0, FL.v_at1, FL.v_at2, FL.v_i30, FL.v_i31, FL.v_i32, FL.v_Mv, FL.v_mvV, FL.v_pr, FL.v_wpN, FL.v_wpC, FL.v_wsN, FL.v_wsV, FL.v_wsO, FL.v_bkN, FL.v_bkC, FL.v_bsN, FL.v_bsI, FL.v_sf, FL.callD, Option.bind_some, Option.bind_none, List.getElem?_cons_zero, List.getElem?_cons_succ, List.getElem?_nil, List.set_cons_zero, List.set_cons_succ, List.length_cons, List.length_nil, List.filterMap_cons, List.filterMap_nil, decide_eq_true_eq, if_true, if_false, true_and, and_true, Nat.reduceAdd, Nat.reduceLeDiff, Nat.reduceEqDiff, ↓reduceIte, Bool.false_eq_true, FL.startE, FL.backs, List.map_cons, List.map_nil, List.cons_append, List.nil_append, Nat.reduceSub, List.replicate_succ, List.replicate_zero, List.nodup_nil, List.nodup_cons, List.not_mem_nil, not_false_eq_true, and_self, reduceCtorEq, Option.map_some, Option.map_none, h2, decide_false])
    [T, .val (.imm (.int (o : Nat))), row, ov s3] ⟨o, s3, rfl, h1⟩
  exact ⟨o', s3', e, h⟩
theorem order_one (n : Nat) (G : Nat → Nat → Int) (hG : Sq n G) : ∃ o : Nat, mFn 4 m_order_of [.imm (tabD n G)] = some (.imm (.int (o : Nat)), [.imm (tabD n G)]) ∧ o ≤ 60 := by
  obtain ⟨l, hl, hm⟩ := hG.stk
  have hs := stk_ord l hl
  simp only [Bool.and_eq_true, decide_eq_true_eq, List.all_eq_true, Bool.or_eq_true] at hs
  obtain ⟨⟨hL0, hL⟩, hd⟩ := hs
  obtain ⟨E', e, o, s2, s3, rfl, ho⟩ := forD_inv (g := mName 2) (ms := (mFor (mSeqI (mFz (mVar 2))) (mName 3) (mIfS (mTest (mOp fGt (mVar 3) (mER (mC (.int 2))))) (mAsg (mOp fDiv (mER (mOp fMul (mVar 1) (mVar 3))) (mER (mCall 2 (mFn 2 m_common_part) (arCons (mVar 1) (arCons (mVar 3) arNil))))) (mName 1)) mNext)))
    (fun _ E => ∃ (o' : Nat) (s2 s3 : Option Tr), E = [.val (.imm (.tuple ((List.range n).map (rowD n G)))), .val (.imm (.int (o' : Nat))), ov s2, ov s3] ∧ o' ∣ ordL l) ((List.range n).map (rowD n G))
    (fun i d E hi ⟨o, s2, s3, hE, ho⟩ => by
      have hin : i < n := by
        have := (List.getElem?_eq_some_iff.mp hi).1
        simpa using this
      rw [range_get hin] at hi
      cases hi
      have hks : ∀ k ∈ (List.range n).map (G i), k ≤ 2 ∨ k.toNat ∣ ordL l := fun k hk => by
        obtain ⟨j, hj, rfl⟩ := List.mem_map.mp hk
        rw [List.mem_range] at hj
        by_cases hij : i = j
        · subst hij; rw [hG.one]; exact .inl (by decide)
        · rcases hd _ (hm i j hij hin hj) with h | h
          · exact .inl h
          · exact .inr (Nat.dvd_of_mod_eq_zero h)
      obtain ⟨o', s3', e1, h1⟩ := ord_inner (ordL l) hL0 hL (.val (.imm (.tuple ((List.range n).map (rowD n G))))) (.val (.imm (rowD n G i))) ((List.range n).map (G i)) hks o ho s3
      rw [List.map_map] at e1
      refine ⟨[.val (.imm (.tuple ((List.range n).map (rowD n G)))), .val (.imm (.int (o : Nat))), .val (.imm (rowD n G i)), ov s3], [.val (.imm (.tuple ((List.range n).map (rowD n G)))), .val (.imm (.int (o' : Nat))), .val (.imm (rowD n G i)), ov s3'], ?_, .inl ?_, o', some (.imm (rowD n G i)), s3', rfl, h1⟩
      · rw [hE]; simp -implicitDefEqProofs only [FL.v_seq, FL.v_thN, FL.v_thR, FL.v_thB, FL.v_thC, FL.v_ifS, FL.v_asg, FL.v_ret, FL.v_retN, FL.v_drop, FL.v_nx, FL.v_bk, FL.v_ct, FL.v_name, FL.v_pN, FL.v_pV, FL.v_var, FL.v_at, FL.v_trV, FL.v_trP, FL.v_wV, FL.v_wP, FL.v_C, FL.v_ER, FL.v_Fz, FL.v_fO, FL.v_fS, FL.v_fV, FL.v_fP, FL.v_fL, FL.v_vS, FL.v_vO, FL.v_op, FL.v_un, FL.v_bOf, FL.v_test, FL.v_and, FL.v_or, FL.v_not, FL.v_tru, FL.v_trB, FL.v_andV, FL.v_orV, FL.v_notV, FL.v_if, FL.v_chain, FL.v_arN, FL.v_arC, FL.v_faN, FL.v_faC, FL.v_tup, FL.v_lst, FL.v_tdN, FL.v_tdC, FL.v_tdI, FL.v_tdL, FL.toDs_imms, FL.imms_imms, FL.v_cb, FL.v_vsN, FL.v_vsC, FL.v_bm, FL.v_tyS, FL.v_tyL, FL.v_sl, FL.v_moN, FL.v_moS, FL.v_iOf, FL.v_call, FL.v_osO, FL.v_osS, FL.v_isI, FL.v_isL, FL.v_isD, FL.v_gN, FL.v_gO, FL.v_gS, FL.v_for, FL.v_lc, FL.v_sub, FL.v_sub2, FL.v_iAt, FL.v_iC, FL.v_aug, FL.v_par, FL.v_mut, FL.v_rng1, FL.v_rng2, FL.v_seqI, FL.v_enum, FL.v_isi, FL.v_addI, FL.v_addS, FL.v_addT, FL.v_addL, FL.v_subI, FL.v_neg, FL.v_lt, FL.v_le, FL.v_gt, FL.v_ge, FL.v_eqI, FL.v_neI, FL.v_eqS, FL.v_neS, FL.v_ixT, FL.v_ixD, FL.v_ixL, FL.v_ixS, FL.v_len, FL.v_lnT, FL.v_lnD, FL.v_lnL, FL.v_lnS, FL.v_abs, FL.v_max, FL.v_min, FL.v_int, FL.v_intB, FL.v_tuple, FL.v_list, FL.v_sqT, FL.v_sqD, FL.v_sqL, FL.v_itT, FL.v_itL, FL.v_itS, FL.v_isN, FL.v_notN, FL.v_setL, FL.v_setD, FL.v_kS, FL.v_kI, FL.v_mp, FL.v_mpn, FL.v_pO, FL.v_tupG, FL.v_gsC, FL.v_gsN, FL.v_slD, FL.v_at0, FL.v_at1, FL.v_at2, FL.v_i30, FL.v_i31, FL.v_i32, FL.v_Mv, FL.v_mvV, FL.v_pr, FL.v_wpN, FL.v_wpC, FL.v_wsN, FL.v_wsV, FL.v_wsO, FL.v_bkN, FL.v_bkC, FL.v_bsN, FL.v_bsI, FL.v_sf, FL.callD, Option.bind_some, Option.bind_none, List.getElem?_cons_zero, List.getElem?_cons_succ, List.getElem?_nil, List.set_cons_zero, List.set_cons_succ, List.length_cons, List.length_nil, List.filterMap_cons, List.filterMap_nil, decide_eq_true_eq, if_true, if_false, true_and, and_true, Nat.reduceAdd, Nat.reduceLeDiff, Nat.reduceEqDiff, ↓reduceIte, Bool.false_eq_true, FL.startE, FL.backs, List.map_cons, List.map_nil, List.cons_append, List.nil_append, Nat.reduceSub, List.replicate_succ, List.replicate_zero, List.nodup_nil, List.nodup_cons, List.not_mem_nil, not_false_eq_true, and_self, reduceCtorEq, Option.map_some, Option.map_none]
      · unfold rowD at e1 ⊢
        simp -implicitDefEqProofs only [FL.v_seq, FL.v_thN, FL.v_thR, FL.v_thB, FL.v_thC, FL.v_ifS, FL.v_asg, FL.v_ret, FL.v_retN, FL.v_drop, FL.v_nx, FL.v_bk, FL.v_ct, FL.v_name, FL.v_pN, FL.v_pV, FL.v_var, FL.v_at, FL.v_trV, FL.v_trP, FL.v_wV, FL.v_wP, FL.v_C, FL.v_ER, FL.v_Fz, FL.v_fO, FL.v_fS, FL.v_fV, FL.v_fP, FL.v_fL, FL.v_vS, FL.v_vO, FL.v_op, FL.v_un, FL.v_bOf, FL.v_test, FL.v_and, FL.v_or, FL.v_not, FL.v_tru, FL.v_trB, FL.v_andV, FL.v_orV, FL.v_notV, FL.v_if, FL.v_chain, FL.v_arN, FL.v_arC, FL.v_faN, FL.v_faC, FL.v_tup, FL.v_lst, FL.v_tdN, FL.v_tdC, FL.v_tdI, FL.v_tdL, FL.toDs_imms, FL.imms_imms, FL.v_cb, FL.v_vsN, FL.v_vsC, FL.v_bm, FL.v_tyS, FL.v_tyL, FL.v_sl, FL.v_moN, FL.v_moS, FL.v_iOf, FL.v_call, FL.v_osO, FL.v_osS, FL.v_isI, FL.v_isL, FL.v_isD, FL.v_gN, FL.v_gO, FL.v_gS, FL.v_for, FL.v_lc, FL.v_sub, FL.v_sub2, FL.v_iAt, FL.v_iC, FL.v_aug, FL.v_par, FL.v_mut, FL.v_rng1, FL.v_rng2, FL.v_seqI, FL.v_enum, FL.v_isi, FL.v_addI, FL.v_addS, FL.v_addT, FL.v_addL, FL.v_subI, FL.v_neg, FL.v_lt, FL.v_le, FL.v_gt, FL.v_ge, FL.v_eqI, FL.v_neI, FL.v_eqS, FL.v_neS, FL.v_ixT, FL.v_ixD, FL.v_ixL, FL.v_ixS, FL.v_len, FL.v_lnT, FL.v_lnD, FL.v_lnL, FL.v_lnS, FL.v_abs, FL.v_max, FL.v_min, FL.v_int, FL.v_intB, FL.v_tuple, FL.v_list, FL.v_sqT, FL.v_sqD, FL.v_sqL, FL.v_itT, FL.v_itL, FL.v_itS, FL.v_isN, FL.v_notN, FL.v_setL, FL.v_setD, FL.v_kS, FL.v_kI, FL.v_mp, FL.v_mpn, FL.v_pO, FL.v_tupG, FL.v_gsC, FL.v_gsN, FL.v_slD, FL.v_at0, FL.v_at1, FL.v_at2, FL.v_i30, FL.v_i31, FL.v_i32, FL.v_Mv, FL.v_mvV, FL.v_pr, FL.v_wpN, FL.v_wpC, FL.v_wsN, FL.v_wsV, FL.v_wsO, FL.v_bkN, FL.v_bkC, FL.v_bsN, FL.v_bsI, FL.v_sf, FL.callD, Option.bind_some, Option.bind_none, List.getElem?_cons_zero, List.getElem?_cons_succ, List.getElem?_nil, List.set_cons_zero, List.set_cons_succ, List.length_cons, List.length_nil, List.filterMap_cons, List.filterMap_nil, decide_eq_true_eq, if_true, if_false, true_and, and_true, Nat.reduceAdd, Nat.reduceLeDiff, Nat.reduceEqDiff, ↓reduceIte, Bool.false_eq_true, FL.startE, FL.backs, List.map_cons, List.map_nil, List.cons_append, List.nil_append, Nat.reduceSub, List.replicate_succ, List.replicate_zero, List.nodup_nil, List.nodup_cons, List.not_mem_nil, not_false_eq_true, and_self, reduceCtorEq, Option.map_some, Option.map_none]
        exact e1)
    [.val (.imm (.tuple ((List.range n).map (rowD n G)))), .val (.imm (.int ((1 : Nat) : Int))), ov none, ov none] ⟨1, none, none, rfl, Nat.one_dvd _⟩
  simp only [show ov none = SL.no from rfl, show ((1 : Nat) : Int) = 1 from rfl] at e
  have hoL := Nat.le_of_dvd hL0 ho
  rw [tab_is]
  by_cases h1 : (o : Int) = 1
  · refine ⟨3, ?_, by decide⟩
    rw [v_fn]
    unfold m_order_of
    simp -implicitDefEqProofs only [FL.v_seq, FL.v_thN, FL.v_thR, FL.v_thB, FL.v_thC, FL.v_ifS, FL.v_asg, FL.v_ret, FL.v_retN, FL.v_drop, FL.v_nx, FL.v_bk, FL.v_ct, FL.v_name, FL.v_pN, FL.v_pV, FL.v_var, FL.v_at, FL.v_trV, FL.v_trP, FL.v_wV, FL.v_wP, FL.v_C, FL.v_ER, FL.v_Fz, FL.v_fO, FL.v_fS, FL.v_fV, FL.v_fP, FL.v_fL, FL.v_vS, FL.v_vO, FL.v_op, FL.v_un, FL.v_bOf, FL.v_test, FL.v_and, FL.v_or, FL.v_not, FL.v_tru, FL.v_trB, FL.v_andV, FL.v_orV, FL.v_notV, FL.v_if, FL.v_chain, FL.v_arN, FL.v_arC, FL.v_faN, FL.v_faC, FL.v_tup, FL.v_lst, FL.v_tdN, FL.v_tdC, FL.v_tdI, FL.v_tdL, FL.toDs_imms, FL.imms_imms, FL.v_cb, FL.v_vsN, FL.v_vsC, FL.v_bm, FL.v_tyS, FL.v_tyL, FL.v_sl, FL.v_moN, FL.v_moS, FL.v_iOf, FL.v_call, FL.v_osO, FL.v_osS, FL.v_isI, FL.v_isL, FL.v_isD, FL.v_gN, FL.v_gO, FL.v_gS, FL.v_for, FL.v_lc, FL.v_sub, FL.v_sub2, FL.v_iAt, FL.v_iC, FL.v_aug, FL.v_par, FL.v_mut, FL.v_rng1, FL.v_rng2, FL.v_seqI, FL.v_enum, FL.v_isi, FL.v_addI, FL.v_addS, FL.v_addT, FL.v_addL, FL.v_subI, FL.v_neg, FL.v_lt, FL.v_le, FL.v_gt, FL.v_ge, FL.v_eqI, FL.v_neI, FL.v_eqS, FL.v_neS, FL.v_ixT, FL.v_ixD, FL.v_ixL, FL.v_ixS, FL.v_len, FL.v_lnT, FL.v_lnD, FL.v_lnL, FL.v_lnS, FL.v_abs, FL.v_max, FL.v_min, FL.v_int, FL.v_intB, FL.v_tuple, FL.v_list, FL.v_sqT, FL.v_sqD, FL.v_sqL, FL.v_itT, FL.v_itL, FL.v_itS, FL.v_isN, FL.v_notN, FL.v_setL, FL.v_setD, FL.v_kS, FL.v_kI, FL.v_mp, FL.v_mpn, FL.v_pO, FL.v_tupG, FL.v_gsC, FL.v_gsN, FL.v_slD, FL.v_at0, FL.v_at1, FL.v_at2, FL.v_i30, FL.v_i31, FL.v_i32, FL.v_Mv, FL.v_mvV, FL.v_pr, FL.v_wpN, FL.v_wpC, FL.v_wsN, FL.v_wsV, FL.v_wsO, FL.v_bkN, FL.v_bkC, FL.v_bsN, FL.v_bsI, FL.v_sf, FL.callD, Option.bind_some, Option.bind_none, List.getElem?_cons_zero, List.getElem?_cons_succ, List.getElem?_nil, List.set_cons_zero, List.set_cons_succ, List.length_cons, List.length_nil, List.filterMap_cons, List.filterMap_nil, decide_eq_true_eq, if_true, if_false, true_and, and_true, Nat.reduceAdd, Nat.reduceLeDiff, Nat.reduceEqDiff, ↓reduceIte, Bool.false_eq_true, FL.startE, FL.backs, List.map_cons, List.map_nil, List.cons_append, List.nil_append, Nat.reduceSub, List.replicate_succ, List.replicate_zero, List.nodup_nil, List.nodup_cons, List.not_mem_nil, not_false_eq_true, and_self, reduceCtorEq, Option.map_some, Option.map_none, e, h1, decide_true]
    rfl
  · refine ⟨o, ?_, by omega⟩
    rw [v_fn]
    unfold m_order_of
    simp -implicitDefEqProofs only [FL.v_seq, FL.v_thN, FL.v_thR, FL.v_thB, FL.v_thC, FL.v_ifS, FL.v_asg, FL.v_ret, FL.v_retN, FL.v_drop, FL.v_nx, FL.v_bk, FL.v_ct, FL.v_name, FL.v_pN, FL.v_pV, FL.v_var, FL.v_at, FL.v_trV, FL.v_trP, FL.v_wV, FL.v_wP, FL.v_C, FL.v_ER, FL.v_Fz, FL.v_fO, FL.v_fS, FL.v_fV, FL.v_fP, FL.v_fL, FL.v_vS, FL.v_vO, FL.v_op, FL.v_un, FL.v_bOf, FL.v_test, FL.v_and, FL.v_or, FL.v_not, FL.v_tru, FL.v_trB, FL.v_andV, FL.v_orV, FL.v_notV, FL.v_if, FL.v_chain, FL.v_arN, FL.v_arC, FL.v_faN, FL.v_faC, FL.v_tup, FL.v_lst, FL.v_tdN, FL.v_tdC, FL.v_tdI, FL.v_tdL, FL.toDs_imms, FL.imms_imms, FL.v_cb, FL.v_vsN, FL.v_vsC, FL.v_bm, FL.v_tyS, FL.v_tyL, FL.v_sl, FL.v_moN, FL.v_moS, FL.v_iOf, FL.v_call, FL.v_osO, FL.v_osS, FL.v_isI, FL.v_isL, FL.v_isD, FL.v_gN, FL.v_gO, FL.v_gS, FL.v_for, FL.v_lc, FL.v_sub, FL.v_sub2, FL.v_iAt, FL.v_iC, FL.v_aug, FL.v_par, FL.v_mut, FL.v_rng1, FL.v_rng2, FL.v_seqI, FL.v_enum, FL.v_isi, FL.v_addI, FL.v_addS, FL.v_addT, FL.v_addL, FL.v_subI, FL.v_neg, FL.v_lt, FL.v_le, FL.v_gt, FL.v_ge, FL.v_eqI, FL.v_neI, FL.v_eqS, FL.v_neS, FL.v_ixT, FL.v_ixD, FL.v_ixL, FL.v_ixS, FL.v_len, FL.v_lnT, FL.v_lnD, FL.v_lnL, FL.v_lnS, FL.v_abs, FL.v_max, FL.v_min, FL.v_int, FL.v_intB, FL.v_tuple, FL.v_list, FL.v_sqT, FL.v_sqD, FL.v_sqL, FL.v_itT, FL.v_itL, FL.v_itS, FL.v_isN, FL.v_notN, FL.v_setL, FL.v_setD, FL.v_kS, FL.v_kI, FL.v_mp, FL.v_mpn, FL.v_pO, FL.v_tupG, FL.v_gsC, FL.v_gsN, FL.v_slD, FL.v_at0, FL.v_at1, FL.v_at2, FL.v_i30, FL.v_i31, FL.v_i32, FL.v_Mv, FL.v_mvV, FL.v_pr, FL.v_wpN, FL.v_wpC, FL.v_wsN, FL.v_wsV, FL.v_wsO, FL.v_bkN, FL.v_bkC, FL.v_bsN, FL.v_bsI, FL.v_sf, FL.callD, Option.bind_some, Option.bind_none, List.getElem?_cons_zero, List.getElem?_cons_succ, List.getElem?_nil, List.set_cons_zero, List.set_cons_succ, List.length_cons, List.length_nil, List.filterMap_cons, List.filterMap_nil, decide_eq_true_eq, if_true, if_false, true_and, and_true, Nat.reduceAdd, Nat.reduceLeDiff, Nat.reduceEqDiff, ↓reduceIte, Bool.false_eq_true, FL.startE, FL.backs, List.map_cons, List.map_nil, List.cons_append, List.nil_append, Nat.reduceSub, List.replicate_succ, List.replicate_zero, List.nodup_nil, List.nodup_cons, List.not_mem_nil, not_false_eq_true, and_self, reduceCtorEq, Option.map_some, Option.map_none, e, h1, decide_false]
end WK

namespace WK
open PySem L2 FL
theorem row_split (i j : Nat) (k : Int) (h : goodB k = true) : Txt.split (rowS i j k) (Str.ofString " ") = [ltrS i, ltrS j, numS k] := by
  obtain ⟨w, hw, -, rfl⟩ := good_nat h
  have e : rowS i j (w : Nat) = Txt.join (Str.ofString " ") [ltrS i, ltrS j, numS (w : Nat)] := rfl
  rw [e]
  refine TL.split_join (s := 32) (S := []) (by decide +kernel) (by decide +kernel) (by simp) fun p hp => ?_
  have hl : ∀ a : Nat, 32 ∉ (ltrS a).cps.toList := fun a z => by
    have : (32 : Nat) ∈ [97 + a] := z
    rw [List.mem_singleton] at this
    omega
  simp only [List.mem_cons, List.not_mem_nil, or_false] at hp
  rcases hp with rfl | rfl | rfl
  · exact hl i
  · exact hl j
  · exact (num_no ⟨w, hw⟩).2
theorem text_split (n : Nat) (hn : n ≤ 8) (G : Nat → Nat → Int) (hG : Sq n G) : Txt.split (textS n G) (Str.ofString "\n") = tRows n G n := by
  unfold textS
  refine TL.split_join (s := 10) (S := []) (by decide +kernel) (by decide +kernel) (by simp [tRows]) fun p hp => ?_
  rcases tRows_mem (Nat.le_refl _) hp with rfl | ⟨i, j, h1, h2, -, rfl⟩
  · exact (head_len ⟨n, by omega⟩).2
  · obtain ⟨w, hw, -, hk⟩ := good_nat (hG.good i j (by omega) (by omega) h2)
    rw [hk]
    intro z
    have z' : 10 ∈ (rowS i j (w : Nat)).cps.toList := z
    unfold rowS at z'
    rw [app_list, app_list, app_list, app_list, show (Str.ofString " ").cps.toList = [32] by decide +kernel] at z'
    have hl : ∀ a : Nat, (ltrS a).cps.toList = [97 + a] := fun _ => rfl
    rw [hl, hl] at z'
    have := (num_no ⟨w, hw⟩).1
    simp only [List.mem_append, List.mem_singleton] at z'
    rcases z' with (((z | z) | z) | z) | z
    · omega
    · omega
    · omega
    · omega
    · exact this z
theorem textS_len (n : Nat) (hn : n ≤ 8) (G : Nat → Nat → Int) (hG : Sq n G) : (textS n G).length ≤ 1000 := by
  have hl := tRows_len n G n
  have hb : n * n ≤ 8 * 8 := Nat.mul_le_mul hn hn
  have lg := gl_len ((List.range n).flatMap fun i => rowsOf G i n) (headS n) fun r hr => tRows_short hn hG (u := n) (Nat.le_refl _) (by unfold tRows; exact List.mem_cons_of_mem _ hr)
  have h0 : (headS n).length ≤ 9 := (head_len ⟨n, by omega⟩).1
  unfold textS tRows
  rw [join_gl]
  unfold tRows at hl
  rw [List.length_cons] at hl
  omega
theorem v_split {a b : Str} (h : (b.length == 0) = false) (k : a.length + 2 ≤ 16777216) : fSplit (.imm (.str a)) [.imm (.str b)] = some (strsT (Txt.split a b)) := if_pos ⟨h, k⟩
theorem told_ltr (n i : Nat) (hn : n ≤ 8) (hi : i < n) : mFn 3 m_mirror_told [.imm (.str (ltrS i)), .imm (.int (n : Nat))] = some (.imm (.int (i : Nat)), [.imm (.str (ltrS i)), .imm (.int (n : Nat))]) := by
  have h := told_one n (97 + i) hn
  unfold told at h
  rw [if_pos (by omega), show 97 + i - 97 = i by omega] at h
  exact h
theorem is_none (t : Tr) : fIsN t (.imm .none) = some (.imm (.bool (isN t))) := rfl
theorem isN_int (k : Int) : isN (.imm (.int k)) = false := rfl
theorem isN_tup (k : List PyData) : isN (.imm (.tuple k)) = false := rfl
theorem pair_one (n : Nat) (hn : n ≤ 8) (i j : Nat) (hij : i < j) (hj : j < n) (k : Int) (hk : goodB k = true) (h2 : k ≠ 2) : mFn 6 m_pair_told [.imm (.str (rowS i j k)), .imm (.int (n : Nat))] = some (.imm (.tuple [.int (i : Nat), .int (j : Nat), .int k]), [.imm (.str (rowS i j k)), .imm (.int (n : Nat))]) := by
  have l0 := row_len i j k hk
  have e0 := v_split (a := rowS i j k) (b := Str.ofString " ") (by rw [sp_len]; rfl) (by omega)
  rw [row_split i j k hk] at e0
  obtain ⟨w, hw, hw1, rfl⟩ := good_nat hk
  have e1 := told_ltr n i hn (by omega)
  have e2 := told_ltr n j hn hj
  have e3 := numtold_one w hw hw1 (fun z => h2 (by rw [z]; rfl))
  have hle : ¬ (j : Int) ≤ (i : Int) := by omega
  unfold strsT at e0
  simp only [List.map_cons, List.map_nil] at e0
  rw [v_fn]
  unfold m_pair_told
  simp -implicitDefEqProofs only [FL.v_seq, FL.v_thN, FL.v_thR, FL.v_thB, FL.v_thC, FL.v_ifS, FL.v_asg, FL.v_ret, FL.v_retN, FL.v_drop, FL.v_nx, FL.v_bk, FL.v_ct, FL.v_name, FL.v_pN, FL.v_pV, FL.v_var, FL.v_at, FL.v_trV, FL.v_trP, FL.v_wV, FL.v_wP, FL.v_C, FL.v_ER, FL.v_Fz, FL.v_fO, FL.v_fS, FL.v_fV, FL.v_fP, FL.v_fL, FL.v_vS, FL.v_vO, FL.v_op, FL.v_un, FL.v_bOf, FL.v_test, FL.v_and, FL.v_or, FL.v_not, FL.v_tru, FL.v_trB, FL.v_andV, FL.v_orV, FL.v_notV, FL.v_if, FL.v_chain, FL.v_arN, FL.v_arC, FL.v_faN, FL.v_faC, FL.v_tup, FL.v_lst, FL.v_tdN, FL.v_tdC, FL.v_tdI, FL.v_tdL, FL.toDs_imms, FL.imms_imms, FL.v_cb, FL.v_vsN, FL.v_vsC, FL.v_bm, FL.v_tyS, FL.v_tyL, FL.v_sl, FL.v_moN, FL.v_moS, FL.v_iOf, FL.v_call, FL.v_osO, FL.v_osS, FL.v_isI, FL.v_isL, FL.v_isD, FL.v_gN, FL.v_gO, FL.v_gS, FL.v_for, FL.v_lc, FL.v_sub, FL.v_sub2, FL.v_iAt, FL.v_iC, FL.v_aug, FL.v_par, FL.v_mut, FL.v_rng1, FL.v_rng2, FL.v_seqI, FL.v_enum, FL.v_isi, FL.v_addI, FL.v_addS, FL.v_addT, FL.v_addL, FL.v_subI, FL.v_neg, FL.v_lt, FL.v_le, FL.v_gt, FL.v_ge, FL.v_eqI, FL.v_neI, FL.v_eqS, FL.v_neS, FL.v_ixT, FL.v_ixD, FL.v_ixL, FL.v_ixS, FL.v_len, FL.v_lnT, FL.v_lnD, FL.v_lnL, FL.v_lnS, FL.v_abs, FL.v_max, FL.v_min, FL.v_int, FL.v_intB, FL.v_tuple, FL.v_list, FL.v_sqT, FL.v_sqD, FL.v_sqL, FL.v_itT, FL.v_itL, FL.v_itS, FL.v_isN, FL.v_notN, FL.v_setL, FL.v_setD, FL.v_kS, FL.v_kI, FL.v_mp, FL.v_mpn, FL.v_pO, FL.v_tupG, FL.v_gsC, FL.v_gsN, FL.v_slD, FL.v_at0, FL.v_at1, FL.v_at2, FL.v_i30, FL.v_i31, FL.v_i32, FL.v_Mv, FL.v_mvV, FL.v_pr, FL.v_wpN, FL.v_wpC, FL.v_wsN, FL.v_wsV, FL.v_wsO, FL.v_bkN, FL.v_bkC, FL.v_bsN, FL.v_bsI, FL.v_sf, FL.callD, Option.bind_some, Option.bind_none, List.getElem?_cons_zero, List.getElem?_cons_succ, List.getElem?_nil, List.set_cons_zero, List.set_cons_succ, List.length_cons, List.length_nil, List.filterMap_cons, List.filterMap_nil, decide_eq_true_eq, if_true, if_false, true_and, and_true, Nat.reduceAdd, Nat.reduceLeDiff, Nat.reduceEqDiff, ↓reduceIte, Bool.false_eq_true, FL.startE, FL.backs, List.map_cons, List.map_nil, List.cons_append, List.nil_append, Nat.reduceSub, List.replicate_succ, List.replicate_zero, List.nodup_nil, List.nodup_cons, List.not_mem_nil, not_false_eq_true, and_self, reduceCtorEq, Option.map_some, Option.map_none, e0, show ((3 : Nat) : Int) = 3 from rfl, decide_true, Bool.not_true, e1, e2, e3, is_none, isN_int, hle, decide_false, show (3 ≤ 16777216) = True from eq_true (by decide)]
/-! the pairs in their order -/
def pairsL (n : Nat) (G : Nat → Nat → Int) : List (Nat × Nat) := (List.range n).flatMap fun i => ((List.range n).filter fun j => decide (i < j) && decide (G i j ≠ 2)).map fun j => (i, j)
theorem pairs_rows (n : Nat) (G : Nat → Nat → Int) : tRows n G n = headS n :: (pairsL n G).map fun p => rowS p.1 p.2 (G p.1 p.2) := by
  unfold tRows pairsL rowsOf
  rw [List.map_flatMap]
  congr 2
  funext i
  rw [List.map_map]; rfl
theorem pairs_mem {n : Nat} {G : Nat → Nat → Int} {p : Nat × Nat} : p ∈ pairsL n G ↔ p.1 < p.2 ∧ p.2 < n ∧ G p.1 p.2 ≠ 2 := by
  unfold pairsL
  constructor
  · intro h
    obtain ⟨i, hi, h⟩ := List.mem_flatMap.mp h
    obtain ⟨j, hj, rfl⟩ := List.mem_map.mp h
    rw [List.mem_filter, List.mem_range] at hj
    simp only [Bool.and_eq_true, decide_eq_true_eq] at hj
    exact ⟨hj.2.1, hj.1, hj.2.2⟩
  · intro ⟨h1, h2, h3⟩
    refine List.mem_flatMap.mpr ⟨p.1, List.mem_range.mpr (by omega), List.mem_map.mpr ⟨p.2, ?_, rfl⟩⟩
    rw [List.mem_filter, List.mem_range]
    simp only [Bool.and_eq_true, decide_eq_true_eq]
    exact ⟨h2, h1, h3⟩
def lexL (p q : Nat × Nat) : Prop := p.1 < q.1 ∨ p.1 = q.1 ∧ p.2 < q.2
theorem pairs_up (n : Nat) (G : Nat → Nat → Int) : (pairsL n G).Pairwise lexL := by
  unfold pairsL
  rw [List.pairwise_flatMap]
  refine ⟨fun i _ => ?_, ?_⟩
  · rw [List.pairwise_map]
    exact (List.pairwise_lt_range.filter _).imp fun h => .inr ⟨rfl, h⟩
  · refine List.pairwise_lt_range.imp fun {a b} hab => ?_
    intro x hx y hy
    obtain ⟨_, _, rfl⟩ := List.mem_map.mp hx
    obtain ⟨_, _, rfl⟩ := List.mem_map.mp hy
    exact .inl hab
theorem lexLe_no {a b x y : Int} (h : x < a ∨ x = a ∧ y < b) : lexLe [a, b] [x, y] = false := by
  unfold lexLe
  rcases h with h | ⟨rfl, h⟩
  · have h1 : ¬ a = x := by omega
    have h2 : ¬ a ≤ x := by omega
    simp [Ob.lexAt, h1, h2]
  · have h1 : ¬ b = y := by omega
    have h2 : ¬ b ≤ y := by omega
    simp [Ob.lexAt, h1, h2]
end WK

namespace WK
open PySem L2 FL
def G0 : Nat → Nat → Int := fun i j => if i = j then 1 else 2
def cell (i : Int) : PyData → Tr
  | .int j => .imm (.int (if i = j then 1 else 2))
  | _ => .imm .none
def rowOf (n : Nat) : PyData → Tr
  | .int i => .lst ((rangeD 0 n).map (cell i))
  | _ => .imm .none
theorem start_row (n : Nat) (hn : n ≤ 8) (i : Nat) (a0 a1 a2 : SL) : (mLc (mRng1 (arCons (mVar 2) arNil)) (mName 8) mYes (mIf (mTest (mOp fEq (mVar 7) (mVar 8))) (mC (.int 1)) (mC (.int 2))) [8]) [a0, a1, .val (.imm (.int (n : Nat))), .no, .no, .no, .no, .val (.imm (.int (i : Nat))), .no, .no, .no, .no] = some (.lst ((rangeD 0 n).map (cell (i : Nat))), [a0, a1, .val (.imm (.int (n : Nat))), .no, .no, .no, .no, .val (.imm (.int (i : Nat))), .no, .no, .no, .no]) := by
  have hr := fun E => v_rgN (n := n) (by omega) (E := E)
  have e1 := lcD_map (g := mName 8) (m := (mIf (mTest (mOp fEq (mVar 7) (mVar 8))) (mC (.int 1)) (mC (.int 2)))) (vs := [8]) (E := [a0, a1, .val (.imm (.int (n : Nat))), .no, .no, .no, .no, .val (.imm (.int (i : Nat))), .no, .no, .no, .no]) (cell (i : Nat)) (rangeD 0 n) (fun d hd => by
      obtain ⟨j, hj, rfl⟩ := List.mem_iff_getElem.mp hd
      obtain ⟨_, hd⟩ := rangeD_at (List.getElem?_eq_getElem hj)
      rw [hd, Int.zero_add]
      refine ⟨[a0, a1, .val (.imm (.int (n : Nat))), .no, .no, .no, .no, .val (.imm (.int (i : Nat))), .val (.imm (.int (j : Nat))), .no, .no, .no], [a0, a1, .val (.imm (.int (n : Nat))), .no, .no, .no, .no, .val (.imm (.int (i : Nat))), .val (.imm (.int (j : Nat))), .no, .no, .no], by simp -implicitDefEqProofs only [FL.v_seq, FL.v_thN, FL.v_thR, FL.v_thB, FL.v_thC, FL.v_ifS, FL.v_asg, FL.v_ret, FL.v_retN, FL.v_drop, FL.v_nx, FL.v_bk, FL.v_ct, FL.v_name, FL.v_pN, FL.v_pV, FL.v_var, FL.v_at, FL.v_trV, FL.v_trP, FL.v_wV, FL.v_wP, FL.v_C, FL.v_ER, FL.v_Fz, FL.v_fO, FL.v_fS, FL.v_fV, FL.v_fP, FL.v_fL, FL.v_vS, FL.v_vO, FL.v_op, FL.v_un, FL.v_bOf, FL.v_test, FL.v_and, FL.v_or, FL.v_not, FL.v_tru, FL.v_trB, FL.v_andV, FL.v_orV, FL.v_notV, FL.v_if, FL.v_chain, FL.v_arN, FL.v_arC, FL.v_faN, FL.v_faC, FL.v_tup, FL.v_lst, FL.v_tdN, FL.v_tdC, FL.v_tdI, FL.v_tdL, FL.toDs_imms, FL.imms_imms, FL.v_cb, FL.v_vsN, FL.v_vsC, FL.v_bm, FL.v_tyS, FL.v_tyL, FL.v_sl, FL.v_moN, FL.v_moS, FL.v_iOf, FL.v_call, FL.v_osO, FL.v_osS, FL.v_isI, FL.v_isL, FL.v_isD, FL.v_gN, FL.v_gO, FL.v_gS, FL.v_for, FL.v_lc, FL.v_sub, FL.v_sub2, FL.v_iAt, FL.v_iC, FL.v_aug, FL.v_par, FL.v_mut, FL.v_rng1, FL.v_rng2, FL.v_seqI, FL.v_enum, FL.v_isi, FL.v_addI, FL.v_addS, FL.v_addT, FL.v_addL, FL.v_subI, FL.v_neg, FL.v_lt, FL.v_le, FL.v_gt, FL.v_ge, FL.v_eqI, FL.v_neI, FL.v_eqS, FL.v_neS, FL.v_ixT, FL.v_ixD, FL.v_ixL, FL.v_ixS, FL.v_len, FL.v_lnT, FL.v_lnD, FL.v_lnL, FL.v_lnS, FL.v_abs, FL.v_max, FL.v_min, FL.v_int, FL.v_intB, FL.v_tuple, FL.v_list, FL.v_sqT, FL.v_sqD, FL.v_sqL, FL.v_itT, FL.v_itL, FL.v_itS, FL.v_isN, FL.v_notN, FL.v_setL, FL.v_setD, FL.v_kS, FL.v_kI, FL.v_mp, FL.v_mpn, FL.v_pO, FL.v_tupG, FL.v_gsC, FL.v_gsN, FL.v_slD, FL.v_at0, FL.v_at1, FL.v_at2, FL.v_i30, FL.v_i31, FL.v_i32, FL.v_Mv, FL.v_mvV, FL.v_pr, FL.v_wpN, FL.v_wpC, FL.v_wsN, FL.v_wsV, FL.v_wsO, FL.v_bkN, FL.v_bkC, FL.v_bsN, FL.v_bsI, FL.v_sf, FL.callD, Option.bind_some, Option.bind_none, List.getElem?_cons_zero, List.getElem?_cons_succ, List.getElem?_nil, List.set_cons_zero, List.set_cons_succ, List.length_cons, List.length_nil, List.filterMap_cons, List.filterMap_nil, decide_eq_true_eq, if_true, if_false, true_and, and_true, Nat.reduceAdd, Nat.reduceLeDiff, Nat.reduceEqDiff, ↓reduceIte, Bool.false_eq_true, FL.startE, FL.backs, List.map_cons, List.map_nil, List.cons_append, List.nil_append, Nat.reduceSub, List.replicate_succ, List.replicate_zero, List.nodup_nil, List.nodup_cons, List.not_mem_nil, not_false_eq_true, and_self, reduceCtorEq, Option.map_some, Option.map_none], ?_, by simp -implicitDefEqProofs only [FL.v_seq, FL.v_thN, FL.v_thR, FL.v_thB, FL.v_thC, FL.v_ifS, FL.v_asg, FL.v_ret, FL.v_retN, FL.v_drop, FL.v_nx, FL.v_bk, FL.v_ct, FL.v_name, FL.v_pN, FL.v_pV, FL.v_var, FL.v_at, FL.v_trV, FL.v_trP, FL.v_wV, FL.v_wP, FL.v_C, FL.v_ER, FL.v_Fz, FL.v_fO, FL.v_fS, FL.v_fV, FL.v_fP, FL.v_fL, FL.v_vS, FL.v_vO, FL.v_op, FL.v_un, FL.v_bOf, FL.v_test, FL.v_and, FL.v_or, FL.v_not, FL.v_tru, FL.v_trB, FL.v_andV, FL.v_orV, FL.v_notV, FL.v_if, FL.v_chain, FL.v_arN, FL.v_arC, FL.v_faN, FL.v_faC, FL.v_tup, FL.v_lst, FL.v_tdN, FL.v_tdC, FL.v_tdI, FL.v_tdL, FL.toDs_imms, FL.imms_imms, FL.v_cb, FL.v_vsN, FL.v_vsC, FL.v_bm, FL.v_tyS, FL.v_tyL, FL.v_sl, FL.v_moN, FL.v_moS, FL.v_iOf, FL.v_call, FL.v_osO, FL.v_osS, FL.v_isI, FL.v_isL, FL.v_isD, FL.v_gN, FL.v_gO, FL.v_gS, FL.v_for, FL.v_lc, FL.v_sub, FL.v_sub2, FL.v_iAt, FL.v_iC, FL.v_aug, FL.v_par, FL.v_mut, FL.v_rng1, FL.v_rng2, FL.v_seqI, FL.v_enum, FL.v_isi, FL.v_addI, FL.v_addS, FL.v_addT, FL.v_addL, FL.v_subI, FL.v_neg, FL.v_lt, FL.v_le, FL.v_gt, FL.v_ge, FL.v_eqI, FL.v_neI, FL.v_eqS, FL.v_neS, FL.v_ixT, FL.v_ixD, FL.v_ixL, FL.v_ixS, FL.v_len, FL.v_lnT, FL.v_lnD, FL.v_lnL, FL.v_lnS, FL.v_abs, FL.v_max, FL.v_min, FL.v_int, FL.v_intB, FL.v_tuple, FL.v_list, FL.v_sqT, FL.v_sqD, FL.v_sqL, FL.v_itT, FL.v_itL, FL.v_itS, FL.v_isN, FL.v_notN, FL.v_setL, FL.v_setD, FL.v_kS, FL.v_kI, FL.v_mp, FL.v_mpn, FL.v_pO, FL.v_tupG, FL.v_gsC, FL.v_gsN, FL.v_slD, FL.v_at0, FL.v_at1, FL.v_at2, FL.v_i30, FL.v_i31, FL.v_i32, FL.v_Mv, FL.v_mvV, FL.v_pr, FL.v_wpN, FL.v_wpC, FL.v_wsN, FL.v_wsV, FL.v_wsO, FL.v_bkN, FL.v_bkC, FL.v_bsN, FL.v_bsI, FL.v_sf, FL.callD, Option.bind_some, Option.bind_none, List.getElem?_cons_zero, List.getElem?_cons_succ, List.getElem?_nil, List.set_cons_zero, List.set_cons_succ, List.length_cons, List.length_nil, List.filterMap_cons, List.filterMap_nil, decide_eq_true_eq, if_true, if_false, true_and, and_true, Nat.reduceAdd, Nat.reduceLeDiff, Nat.reduceEqDiff, ↓reduceIte, Bool.false_eq_true, FL.startE, FL.backs, List.map_cons, List.map_nil, List.cons_append, List.nil_append, Nat.reduceSub, List.replicate_succ, List.replicate_zero, List.nodup_nil, List.nodup_cons, List.not_mem_nil, not_false_eq_true, and_self, reduceCtorEq, Option.map_some, Option.map_none]⟩
      unfold cell
      by_cases h : (i : Int) = (j : Int)
      · simp -implicitDefEqProofs only [FL.v_seq, FL.v_thN, FL.v_thR, FL.v_thB, FL.v_thC, FL.v_ifS, FL.v_asg, FL.v_ret, FL.v_retN, FL.v_drop, FL.v_nx, FL.v_bk, FL.v_ct, FL.v_name, FL.v_pN, FL.v_pV, FL.v_var, FL.v_at, FL.v_trV, FL.v_trP, FL.v_wV, FL.v_wP, FL.v_C, FL.v_ER, FL.v_Fz, FL.v_fO, FL.v_fS, FL.v_fV, FL.v_fP, FL.v_fL, FL.v_vS, FL.v_vO, FL.v_op, FL.v_un, FL.v_bOf, FL.v_test, FL.v_and, FL.v_or, FL.v_not, FL.v_tru, FL.v_trB, FL.v_andV, FL.v_orV, FL.v_notV, FL.v_if, FL.v_chain, FL.v_arN, FL.v_arC, FL.v_faN, FL.v_faC, FL.v_tup, FL.v_lst, FL.v_tdN, FL.v_tdC, FL.v_tdI, FL.v_tdL, FL.toDs_imms, FL.imms_imms, FL.v_cb, FL.v_vsN, FL.v_vsC, FL.v_bm, FL.v_tyS, FL.v_tyL, FL.v_sl, FL.v_moN, FL.v_moS, FL.v_iOf, FL.v_call, FL.v_osO, FL.v_osS, FL.v_isI, FL.v_isL, FL.v_isD, FL.v_gN, FL.v_gO, FL.v_gS, FL.v_for, FL.v_lc, FL.v_sub, FL.v_sub2, FL.v_iAt, FL.v_iC, FL.v_aug, FL.v_par, FL.v_mut, FL.v_rng1, FL.v_rng2, FL.v_seqI, FL.v_enum, FL.v_isi, FL.v_addI, FL.v_addS, FL.v_addT, FL.v_addL, FL.v_subI, FL.v_neg, FL.v_lt, FL.v_le, FL.v_gt, FL.v_ge, FL.v_eqI, FL.v_neI, FL.v_eqS, FL.v_neS, FL.v_ixT, FL.v_ixD, FL.v_ixL, FL.v_ixS, FL.v_len, FL.v_lnT, FL.v_lnD, FL.v_lnL, FL.v_lnS, FL.v_abs, FL.v_max, FL.v_min, FL.v_int, FL.v_intB, FL.v_tuple, FL.v_list, FL.v_sqT, FL.v_sqD, FL.v_sqL, FL.v_itT, FL.v_itL, FL.v_itS, FL.v_isN, FL.v_notN, FL.v_setL, FL.v_setD, FL.v_kS, FL.v_kI, FL.v_mp, FL.v_mpn, FL.v_pO, FL.v_tupG, FL.v_gsC, FL.v_gsN, FL.v_slD, FL.v_at0, FL.v_at1, FL.v_at2, FL.v_i30, FL.v_i31, FL.v_i32, FL.v_Mv, FL.v_mvV, FL.v_pr, FL.v_wpN, FL.v_wpC, FL.v_wsN, FL.v_wsV, FL.v_wsO, FL.v_bkN, FL.v_bkC, FL.v_bsN, FL.v_bsI, FL.v_sf, FL.callD, Option.bind_some, Option.bind_none, List.getElem?_cons_zero, List.getElem?_cons_succ, List.getElem?_nil, List.set_cons_zero, List.set_cons_succ, List.length_cons, List.length_nil, List.filterMap_cons, List.filterMap_nil, decide_eq_true_eq, if_true, if_false, true_and, and_true, Nat.reduceAdd, Nat.reduceLeDiff, Nat.reduceEqDiff, ↓reduceIte, Bool.false_eq_true, FL.startE, FL.backs, List.map_cons, List.map_nil, List.cons_append, List.nil_append, Nat.reduceSub, List.replicate_succ, List.replicate_zero, List.nodup_nil, List.nodup_cons, List.not_mem_nil, not_false_eq_true, and_self, reduceCtorEq, Option.map_some, Option.map_none, h, decide_true]
      · simp -implicitDefEqProofs only [FL.v_seq, FL.v_thN, FL.v_thR, FL.v_thB, FL.v_thC, FL.v_ifS, FL.v_asg, FL.v_ret, FL.v_retN, FL.v_drop, FL.v_nx, FL.v_bk, FL.v_ct, FL.v_name, FL.v_pN, FL.v_pV, FL.v_var, FL.v_at, FL.v_trV, FL.v_trP, FL.v_wV, FL.v_wP, FL.v_C, FL.v_ER, FL.v_Fz, FL.v_fO, FL.v_fS, FL.v_fV, FL.v_fP, FL.v_fL, FL.v_vS, FL.v_vO, FL.v_op, FL.v_un, FL.v_bOf, FL.v_test, FL.v_and, FL.v_or, FL.v_not, FL.v_tru, FL.v_trB, FL.v_andV, FL.v_orV, FL.v_notV, FL.v_if, FL.v_chain, FL.v_arN, FL.v_arC, FL.v_faN, FL.v_faC, FL.v_tup, FL.v_lst, FL.v_tdN, FL.v_tdC, FL.v_tdI, FL.v_tdL, FL.toDs_imms, FL.imms_imms, FL.v_cb, FL.v_vsN, FL.v_vsC, FL.v_bm, FL.v_tyS, FL.v_tyL, FL.v_sl, FL.v_moN, FL.v_moS, FL.v_iOf, FL.v_call, FL.v_osO, FL.v_osS, FL.v_isI, FL.v_isL, FL.v_isD, FL.v_gN, FL.v_gO, FL.v_gS, FL.v_for, FL.v_lc, FL.v_sub, FL.v_sub2, FL.v_iAt, FL.v_iC, FL.v_aug, FL.v_par, FL.v_mut, FL.v_rng1, FL.v_rng2, FL.v_seqI, FL.v_enum, FL.v_isi, FL.v_addI, FL.v_addS, FL.v_addT, FL.v_addL, FL.v_subI, FL.v_neg, FL.v_lt, FL.v_le, FL.v_gt, FL.v_ge, FL.v_eqI, FL.v_neI, FL.v_eqS, FL.v_neS, FL.v_ixT, FL.v_ixD, FL.v_ixL, FL.v_ixS, FL.v_len, FL.v_lnT, FL.v_lnD, FL.v_lnL, FL.v_lnS, FL.v_abs, FL.v_max, FL.v_min, FL.v_int, FL.v_intB, FL.v_tuple, FL.v_list, FL.v_sqT, FL.v_sqD, FL.v_sqL, FL.v_itT, FL.v_itL, FL.v_itS, FL.v_isN, FL.v_notN, FL.v_setL, FL.v_setD, FL.v_kS, FL.v_kI, FL.v_mp, FL.v_mpn, FL.v_pO, FL.v_tupG, FL.v_gsC, FL.v_gsN, FL.v_slD, FL.v_at0, FL.v_at1, FL.v_at2, FL.v_i30, FL.v_i31, FL.v_i32, FL.v_Mv, FL.v_mvV, FL.v_pr, FL.v_wpN, FL.v_wpC, FL.v_wsN, FL.v_wsV, FL.v_wsO, FL.v_bkN, FL.v_bkC, FL.v_bsN, FL.v_bsI, FL.v_sf, FL.callD, Option.bind_some, Option.bind_none, List.getElem?_cons_zero, List.getElem?_cons_succ, List.getElem?_nil, List.set_cons_zero, List.set_cons_succ, List.length_cons, List.length_nil, List.filterMap_cons, List.filterMap_nil, decide_eq_true_eq, if_true, if_false, true_and, and_true, Nat.reduceAdd, Nat.reduceLeDiff, Nat.reduceEqDiff, ↓reduceIte, Bool.false_eq_true, FL.startE, FL.backs, List.map_cons, List.map_nil, List.cons_append, List.nil_append, Nat.reduceSub, List.replicate_succ, List.replicate_zero, List.nodup_nil, List.nodup_cons, List.not_mem_nil, not_false_eq_true, and_self, reduceCtorEq, Option.map_some, Option.map_none, h, decide_false]) [] (by rw [rangeD_len]; show 0 + n ≤ _; omega)
  rw [List.nil_append] at e1
  simp -implicitDefEqProofs only [FL.v_seq, FL.v_thN, FL.v_thR, FL.v_thB, FL.v_thC, FL.v_ifS, FL.v_asg, FL.v_ret, FL.v_retN, FL.v_drop, FL.v_nx, FL.v_bk, FL.v_ct, FL.v_name, FL.v_pN, FL.v_pV, FL.v_var, FL.v_at, FL.v_trV, FL.v_trP, FL.v_wV, FL.v_wP, FL.v_C, FL.v_ER, FL.v_Fz, FL.v_fO, FL.v_fS, FL.v_fV, FL.v_fP, FL.v_fL, FL.v_vS, FL.v_vO, FL.v_op, FL.v_un, FL.v_bOf, FL.v_test, FL.v_and, FL.v_or, FL.v_not, FL.v_tru, FL.v_trB, FL.v_andV, FL.v_orV, FL.v_notV, FL.v_if, FL.v_chain, FL.v_arN, FL.v_arC, FL.v_faN, FL.v_faC, FL.v_tup, FL.v_lst, FL.v_tdN, FL.v_tdC, FL.v_tdI, FL.v_tdL, FL.toDs_imms, FL.imms_imms, FL.v_cb, FL.v_vsN, FL.v_vsC, FL.v_bm, FL.v_tyS, FL.v_tyL, FL.v_sl, FL.v_moN, FL.v_moS, FL.v_iOf, FL.v_call, FL.v_osO, FL.v_osS, FL.v_isI, FL.v_isL, FL.v_isD, FL.v_gN, FL.v_gO, FL.v_gS, FL.v_for, FL.v_lc, FL.v_sub, FL.v_sub2, FL.v_iAt, FL.v_iC, FL.v_aug, FL.v_par, FL.v_mut, FL.v_rng1, FL.v_rng2, FL.v_seqI, FL.v_enum, FL.v_isi, FL.v_addI, FL.v_addS, FL.v_addT, FL.v_addL, FL.v_subI, FL.v_neg, FL.v_lt, FL.v_le, FL.v_gt, FL.v_ge, FL.v_eqI, FL.v_neI, FL.v_eqS, FL.v_neS, FL.v_ixT, FL.v_ixD, FL.v_ixL, FL.v_ixS, FL.v_len, FL.v_lnT, FL.v_lnD, FL.v_lnL, FL.v_lnS, FL.v_abs, FL.v_max, FL.v_min, FL.v_int, FL.v_intB, FL.v_tuple, FL.v_list, FL.v_sqT, FL.v_sqD, FL.v_sqL, FL.v_itT, FL.v_itL, FL.v_itS, FL.v_isN, FL.v_notN, FL.v_setL, FL.v_setD, FL.v_kS, FL.v_kI, FL.v_mp, FL.v_mpn, FL.v_pO, FL.v_tupG, FL.v_gsC, FL.v_gsN, FL.v_slD, FL.v_at0, FL.v_at1, FL.v_at2, FL.v_i30, FL.v_i31, FL.v_i32, FL.v_Mv, FL.v_mvV, FL.v_pr, FL.v_wpN, FL.v_wpC, FL.v_wsN, FL.v_wsV, FL.v_wsO, FL.v_bkN, FL.v_bkC, FL.v_bsN, FL.v_bsI, FL.v_sf, FL.callD, Option.bind_some, Option.bind_none, List.getElem?_cons_zero, List.getElem?_cons_succ, List.getElem?_nil, List.set_cons_zero, List.set_cons_succ, List.length_cons, List.length_nil, List.filterMap_cons, List.filterMap_nil, decide_eq_true_eq, if_true, if_false, true_and, and_true, Nat.reduceAdd, Nat.reduceLeDiff, Nat.reduceEqDiff, ↓reduceIte, Bool.false_eq_true, FL.startE, FL.backs, List.map_cons, List.map_nil, List.cons_append, List.nil_append, Nat.reduceSub, List.replicate_succ, List.replicate_zero, List.nodup_nil, List.nodup_cons, List.not_mem_nil, not_false_eq_true, and_self, reduceCtorEq, Option.map_some, Option.map_none, hr, e1]
theorem cells_are (n i : Nat) : (rangeD 0 n).map (cell (i : Nat)) = (List.range n).map fun j => Tr.imm (.int (G0 i j)) := by
  unfold rangeD
  rw [List.map_map]
  refine List.map_congr_left fun j _ => ?_
  show Tr.imm (.int (if (i : Int) = 0 + (j : Nat) then 1 else 2)) = _
  unfold G0
  by_cases h : i = j
  · rw [if_pos (by omega), if_pos h]
  · rw [if_neg (by omega), if_neg h]
theorem rows_are (n : Nat) : (rangeD 0 n).map (rowOf n) = (List.range n).map fun i => Tr.lst ((List.range n).map fun j => Tr.imm (.int (G0 i j))) := by
  have : ∀ f : Nat → Tr, (rangeD 0 n).map (rowOf n) = (List.range n).map fun i => rowOf n (.int (0 + (i : Nat))) := fun _ => by
    unfold rangeD
    rw [List.map_map]; rfl
  rw [this (fun _ => .imm .none)]
  refine List.map_congr_left fun i _ => ?_
  rw [Int.zero_add]
  show Tr.lst _ = _
  rw [cells_are]
theorem rowsT_congr {n : Nat} {G H : Nat → Nat → Int} (h : ∀ a b, a < n → b < n → G a b = H a b) : rowsT n G = rowsT n H := by
  unfold rowsT
  congr 1
  refine List.map_congr_left fun a ha => ?_
  congr 1
  refine List.map_congr_left fun b hb => ?_
  rw [h a b (List.mem_range.mp ha) (List.mem_range.mp hb)]
theorem strs_at {rs : List Str} {t : Nat} {r : Str} (h : rs[t]? = some r) : fIx (strsT rs) (.imm (.int (t : Nat))) = some (.imm (.str r)) := by
  unfold strsT
  rw [v_ixL, FL.atI_nat (x := Tr.imm (.str r)) (by rw [List.getElem?_map, List.getElem?_map, h]; rfl)]; rfl
theorem v_slT {ds : List PyData} {lo hi : Option Int} : fSl (.imm (.tuple ds)) lo hi = some (.imm (.tuple (cutL ds lo hi))) := rfl
theorem cut2 (a b c : PyData) : cutL [a, b, c] none (some 2) = [a, b] := rfl
theorem leT_int (a b x y : Int) : fLeT (.imm (.tuple [.int a, .int b])) (.imm (.tuple [.int x, .int y])) = some (.imm (.bool (lexLe [a, b] [x, y]))) := rfl
/-- so far found -/
structure Fnd (n : Nat) (G : Nat → Nat → Int) (t : Nat) (H : Nat → Nat → Int) (x y : Int) : Prop where
  one : ∀ a, H a a = 1
  yes : ∀ a b, (a, b) ∈ (pairsL n G).take t → H a b = G a b ∧ H b a = G a b
  no : ∀ a b, a ≠ b → (a, b) ∉ (pairsL n G).take t → (b, a) ∉ (pairsL n G).take t → H a b = 2
  up : ∀ p ∈ (pairsL n G).drop t, x < p.1 ∨ x = p.1 ∧ y < p.2
theorem fnd_step {n : Nat} {G : Nat → Nat → Int} {t : Nat} {H : Nat → Nat → Int} {x y : Int} (h : Fnd n G t H x y) {i j : Nat} (hp : (pairsL n G)[t]? = some (i, j)) : Fnd n G (t + 1) (updG (updG H i j (G i j)) j i (G i j)) (i : Nat) (j : Nat) := by
  have hm := pairs_mem.mp (List.mem_of_getElem? hp)
  simp only at hm
  have et : (pairsL n G).take (t + 1) = (pairsL n G).take t ++ [(i, j)] := by rw [List.take_add_one, hp]; rfl
  have hlt : t < (pairsL n G).length := (List.getElem?_eq_some_iff.mp hp).1
  have ed : (pairsL n G).drop t = (i, j) :: (pairsL n G).drop (t + 1) := by
    rw [List.drop_eq_getElem_cons hlt]
    congr 1
    have := List.getElem?_eq_getElem hlt
    rw [hp] at this
    exact (Option.some.inj this).symm
  have hup := (pairs_up n G).drop (i := t)
  rw [ed, List.pairwise_cons] at hup
  refine ⟨fun a => ?_, fun a b hab => ?_, fun a b hab h1 h2 => ?_, fun p hpm => ?_⟩
  · unfold updG
    rw [if_neg (by omega), if_neg (by omega)]
    exact h.one a
  · rw [et, List.mem_append, List.mem_singleton] at hab
    have hlt2 : a < b := by
      rcases hab with z | z
      · exact (pairs_mem.mp (List.mem_of_mem_take z)).1
      · cases z; exact hm.1
    unfold updG
    by_cases e : a = i ∧ b = j
    · obtain ⟨rfl, rfl⟩ := e
      rw [if_neg (by omega), if_pos ⟨rfl, rfl⟩, if_pos ⟨rfl, rfl⟩]
      exact ⟨rfl, rfl⟩
    · have z : (a, b) ∈ (pairsL n G).take t := by
        rcases hab with z | z
        · exact z
        · cases z; exact absurd ⟨rfl, rfl⟩ e
      rw [if_neg (by omega), if_neg e, if_neg (by omega), if_neg (by omega)]
      exact h.yes a b z
  · rw [et, List.mem_append, List.mem_singleton, not_or] at h1 h2
    have n1 : ¬ (a = i ∧ b = j) := fun z => h1.2 (by rw [z.1, z.2])
    have n2 : ¬ (a = j ∧ b = i) := fun z => h2.2 (by rw [z.1, z.2])
    unfold updG
    rw [if_neg n2, if_neg n1]
    exact h.no a b hab h1.1 h2.1
  · rcases hup.1 p hpm with z | ⟨z1, z2⟩
    · left; simp only at z; omega
    · right; simp only at z1 z2; omega
theorem fnd_end {n : Nat} {G : Nat → Nat → Int} {H : Nat → Nat → Int} {x y : Int} (hG : Sq n G) (h : Fnd n G (pairsL n G).length H x y) : rowsT n H = rowsT n G := rowsT_congr fun a b ha hb => by
  have ht : (pairsL n G).take (pairsL n G).length = pairsL n G := List.take_length
  by_cases hab : a = b
  · subst hab; rw [h.one, hG.one]
  · by_cases h2 : G a b = 2
    · rw [h2]
      refine h.no a b hab ?_ ?_
      · rw [ht]; intro z; exact (pairs_mem.mp z).2.2 h2
      · rw [ht]; intro z
        have := (pairs_mem.mp z).2.2
        simp only at this
        rw [hG.sym] at this
        exact this h2
    · rcases Nat.lt_or_gt_of_ne hab with hl | hl
      · exact (h.yes a b (by rw [ht]; exact pairs_mem.mpr ⟨hl, hb, h2⟩)).1
      · have := (h.yes b a (by rw [ht]; exact pairs_mem.mpr ⟨hl, ha, by simp only; rw [hG.sym]; exact h2⟩)).2
        rw [this, hG.sym]
theorem read_loop (n : Nat) (hn : n ≤ 8) (G : Nat → Nat → Int) (hG : Sq n G) (z : SL) :
    ∃ s5 s6 s7 s8 s9 x y, forD (mName 5) (mSeq (mAsg (mCall 2 (mFn 6 m_pair_told) (arCons (mER (mOp fIx (mVar 1) (mVar 5))) (arCons (mVar 2) arNil))) (mName 6))     (mSeq (mIfS (mOr (mTest (mOp fIsN (mVar 6) (mER (mC .none)))) (mTest (mOp fLeT (mER (mSl fSl (mVar 6) moNone (moSome (mC (.int 2))))) (mVar 4)))) mNever mNext)     (mSeq (mAsg (mFz (mVar 6)) (mTupG 3 (gsCons (mName 7) (gsCons (mName 8) (gsCons (mName 9) gsNil)))))     (mSeq (mAsg (mFz (mVar 9)) (mSub2 3 (iAt 7) (iAt 8)))     (mSeq (mAsg (mFz (mVar 9)) (mSub2 3 (iAt 8) (iAt 7)))     (mAsg (mTup (faCons (mFz (mVar 7)) (faCons (mFz (mVar 8)) faNil))) (mName 4))))))) (rangeD 1 (pairsL n G).length) [z, .val (strsT (tRows n G n)), .val (.imm (.int (n : Nat))), .val (rowsT n G0), .val (.imm (.tuple [.int (-1), .int (-1)])), .no, .no, .no, .no, .no, .no, .no] = some (.nx [z, .val (strsT (tRows n G n)), .val (.imm (.int (n : Nat))), .val (rowsT n G), .val (.imm (.tuple [.int x, .int y])), ov s5, ov s6, ov s7, ov s8, ov s9, .no, .no]) := by
  obtain ⟨E', e, H, x, y, s5, s6, s7, s8, s9, rfl, h⟩ := forD_inv (g := mName 5) (ms := (mSeq (mAsg (mCall 2 (mFn 6 m_pair_told) (arCons (mER (mOp fIx (mVar 1) (mVar 5))) (arCons (mVar 2) arNil))) (mName 6))     (mSeq (mIfS (mOr (mTest (mOp fIsN (mVar 6) (mER (mC .none)))) (mTest (mOp fLeT (mER (mSl fSl (mVar 6) moNone (moSome (mC (.int 2))))) (mVar 4)))) mNever mNext)     (mSeq (mAsg (mFz (mVar 6)) (mTupG 3 (gsCons (mName 7) (gsCons (mName 8) (gsCons (mName 9) gsNil)))))     (mSeq (mAsg (mFz (mVar 9)) (mSub2 3 (iAt 7) (iAt 8)))     (mSeq (mAsg (mFz (mVar 9)) (mSub2 3 (iAt 8) (iAt 7)))     (mAsg (mTup (faCons (mFz (mVar 7)) (faCons (mFz (mVar 8)) faNil))) (mName 4))))))))
    (fun t E => ∃ H x y s5 s6 s7 s8 s9, E = [z, .val (strsT (tRows n G n)), .val (.imm (.int (n : Nat))), .val (rowsT n H), .val (.imm (.tuple [.int x, .int y])), ov s5, ov s6, ov s7, ov s8, ov s9, .no, .no] ∧ Fnd n G t H x y) (rangeD 1 (pairsL n G).length)
    (fun t d E ht ⟨H, x, y, s5, s6, s7, s8, s9, hE, h⟩ => by
      obtain ⟨htl, rfl⟩ := rangeD_at ht
      obtain ⟨⟨i, j⟩, hp⟩ : ∃ p, (pairsL n G)[t]? = some p := ⟨_, List.getElem?_eq_getElem htl⟩
      have hm := pairs_mem.mp (List.mem_of_getElem? hp)
      simp only at hm
      have e1 := strs_at (rs := tRows n G n) (t := 1 + t) (r := rowS i j (G i j)) (by
        rw [pairs_rows, Nat.add_comm, List.getElem?_cons_succ, List.getElem?_map, hp]; rfl)
      rw [Int.natCast_add, show ((1 : Nat) : Int) = 1 from rfl] at e1
      have hg := hG.good i j (by omega) (by omega) hm.2.1
      have e2 := pair_one n hn i j hm.1 hm.2.1 (G i j) hg hm.2.2
      have hlt : t < (pairsL n G).length := htl
      have ed : (i, j) ∈ (pairsL n G).drop t := by
        rw [List.drop_eq_getElem_cons hlt]
        have := List.getElem?_eq_getElem hlt
        rw [hp] at this
        rw [← Option.some.inj this]
        exact List.mem_cons_self
      have hu := h.up _ ed
      simp only at hu
      have e3 := lexLe_no (a := (i : Nat)) (b := (j : Nat)) (x := x) (y := y) hu
      have u1 := sub2_rows (G := H) (k := G i j) (show i < n by omega) hm.2.1
      have u2 := sub2_rows (G := updG H i j (G i j)) (k := G i j) hm.2.1 (show i < n by omega)
      have hf := fnd_step h hp
      refine ⟨[z, .val (strsT (tRows n G n)), .val (.imm (.int (n : Nat))), .val (rowsT n H), .val (.imm (.tuple [.int x, .int y])), .val (.imm (.int (1 + (t : Nat)))), ov s6, ov s7, ov s8, ov s9, .no, .no], [z, .val (strsT (tRows n G n)), .val (.imm (.int (n : Nat))), .val (rowsT n (updG (updG H i j (G i j)) j i (G i j))), .val (.imm (.tuple [.int (i : Nat), .int (j : Nat)])), .val (.imm (.int (1 + (t : Nat)))), .val (.imm (.tuple [.int (i : Nat), .int (j : Nat), .int (G i j)])), .val (.imm (.int (i : Nat))), .val (.imm (.int (j : Nat))), .val (.imm (.int (G i j))), .no, .no], ?_, .inl ?_, _, (i : Nat), (j : Nat), some (.imm (.int (1 + (t : Nat)))), some (.imm (.tuple [.int (i : Nat), .int (j : Nat), .int (G i j)])), some (.imm (.int (i : Nat))), some (.imm (.int (j : Nat))), some (.imm (.int (G i j))), rfl, hf⟩
      · rw [hE]; simp -implicitDefEqProofs only [FL.v_seq, FL.v_thN, FL.v_thR, FL.v_thB, FL.v_thC, FL.v_ifS, FL.v_asg, FL.v_ret, FL.v_retN, FL.v_drop, FL.v_nx, FL.v_bk, FL.v_ct, FL.v_name, FL.v_pN, FL.v_pV, FL.v_var, FL.v_at, FL.v_trV, FL.v_trP, FL.v_wV, FL.v_wP, FL.v_C, FL.v_ER, FL.v_Fz, FL.v_fO, FL.v_fS, FL.v_fV, FL.v_fP, FL.v_fL, FL.v_vS, FL.v_vO, FL.v_op, FL.v_un, FL.v_bOf, FL.v_test, FL.v_and, FL.v_or, FL.v_not, FL.v_tru, FL.v_trB, FL.v_andV, FL.v_orV, FL.v_notV, FL.v_if, FL.v_chain, FL.v_arN, FL.v_arC, FL.v_faN, FL.v_faC, FL.v_tup, FL.v_lst, FL.v_tdN, FL.v_tdC, FL.v_tdI, FL.v_tdL, FL.toDs_imms, FL.imms_imms, FL.v_cb, FL.v_vsN, FL.v_vsC, FL.v_bm, FL.v_tyS, FL.v_tyL, FL.v_sl, FL.v_moN, FL.v_moS, FL.v_iOf, FL.v_call, FL.v_osO, FL.v_osS, FL.v_isI, FL.v_isL, FL.v_isD, FL.v_gN, FL.v_gO, FL.v_gS, FL.v_for, FL.v_lc, FL.v_sub, FL.v_sub2, FL.v_iAt, FL.v_iC, FL.v_aug, FL.v_par, FL.v_mut, FL.v_rng1, FL.v_rng2, FL.v_seqI, FL.v_enum, FL.v_isi, FL.v_addI, FL.v_addS, FL.v_addT, FL.v_addL, FL.v_subI, FL.v_neg, FL.v_lt, FL.v_le, FL.v_gt, FL.v_ge, FL.v_eqI, FL.v_neI, FL.v_eqS, FL.v_neS, FL.v_ixT, FL.v_ixD, FL.v_ixL, FL.v_ixS, FL.v_len, FL.v_lnT, FL.v_lnD, FL.v_lnL, FL.v_lnS, FL.v_abs, FL.v_max, FL.v_min, FL.v_int, FL.v_intB, FL.v_tuple, FL.v_list, FL.v_sqT, FL.v_sqD, FL.v_sqL, FL.v_itT, FL.v_itL, FL.v_itS, FL.v_isN, FL.v_notN, FL.v_setL, FL.v_setD, FL.v_kS, FL.v_kI, FL.v_mp, FL.v_mpn, FL.v_pO, FL.v_tupG, FL.v_gsC, FL.v_gsN, FL.v_slD, FL.v_at0, FL.v_at1, FL.v_at2, FL.v_i30, FL.v_i31, FL.v_i32, FL.v_Mv, FL.v_mvV, FL.v_pr, FL.v_wpN, FL.v_wpC, FL.v_wsN, FL.v_wsV, FL.v_wsO, FL.v_bkN, FL.v_bkC, FL.v_bsN, FL.v_bsI, FL.v_sf, FL.callD, Option.bind_some, Option.bind_none, List.getElem?_cons_zero, List.getElem?_cons_succ, List.getElem?_nil, List.set_cons_zero, List.set_cons_succ, List.length_cons, List.length_nil, List.filterMap_cons, List.filterMap_nil, decide_eq_true_eq, if_true, if_false, true_and, and_true, Nat.reduceAdd, Nat.reduceLeDiff, Nat.reduceEqDiff, ↓reduceIte, Bool.false_eq_true, FL.startE, FL.backs, List.map_cons, List.map_nil, List.cons_append, List.nil_append, Nat.reduceSub, List.replicate_succ, List.replicate_zero, List.nodup_nil, List.nodup_cons, List.not_mem_nil, not_false_eq_true, and_self, reduceCtorEq, Option.map_some, Option.map_none]
      · simp -implicitDefEqProofs only [FL.v_seq, FL.v_thN, FL.v_thR, FL.v_thB, FL.v_thC, FL.v_ifS, FL.v_asg, FL.v_ret, FL.v_retN, FL.v_drop, FL.v_nx, FL.v_bk, FL.v_ct, FL.v_name, FL.v_pN, FL.v_pV, FL.v_var, FL.v_at, FL.v_trV, FL.v_trP, FL.v_wV, FL.v_wP, FL.v_C, FL.v_ER, FL.v_Fz, FL.v_fO, FL.v_fS, FL.v_fV, FL.v_fP, FL.v_fL, FL.v_vS, FL.v_vO, FL.v_op, FL.v_un, FL.v_bOf, FL.v_test, FL.v_and, FL.v_or, FL.v_not, FL.v_tru, FL.v_trB, FL.v_andV, FL.v_orV, FL.v_notV, FL.v_if, FL.v_chain, FL.v_arN, FL.v_arC, FL.v_faN, FL.v_faC, FL.v_tup, FL.v_lst, FL.v_tdN, FL.v_tdC, FL.v_tdI, FL.v_tdL, FL.toDs_imms, FL.imms_imms, FL.v_cb, FL.v_vsN, FL.v_vsC, FL.v_bm, FL.v_tyS, FL.v_tyL, FL.v_sl, FL.v_moN, FL.v_moS, FL.v_iOf, FL.v_call, FL.v_osO, FL.v_osS, FL.v_isI, FL.v_isL, FL.v_isD, FL.v_gN, FL.v_gO, FL.v_gS, FL.v_for, FL.v_lc, FL.v_sub, FL.v_sub2, FL.v_iAt, FL.v_iC, FL.v_aug, FL.v_par, FL.v_mut, FL.v_rng1, FL.v_rng2, FL.v_seqI, FL.v_enum, FL.v_isi, FL.v_addI, FL.v_addS, FL.v_addT, FL.v_addL, FL.v_subI, FL.v_neg, FL.v_lt, FL.v_le, FL.v_gt, FL.v_ge, FL.v_eqI, FL.v_neI, FL.v_eqS, FL.v_neS, FL.v_ixT, FL.v_ixD, FL.v_ixL, FL.v_ixS, FL.v_len, FL.v_lnT, FL.v_lnD, FL.v_lnL, FL.v_lnS, FL.v_abs, FL.v_max, FL.v_min, FL.v_int, FL.v_intB, FL.v_tuple, FL.v_list, FL.v_sqT, FL.v_sqD, FL.v_sqL, FL.v_itT, FL.v_itL, FL.v_itS, FL.v_isN, FL.v_notN, FL.v_setL, FL.v_setD, FL.v_kS, FL.v_kI, FL.v_mp, FL.v_mpn, FL.v_pO, FL.v_tupG, FL.v_gsC, FL.v_gsN, FL.v_slD, FL.v_at0, FL.v_at1, FL.v_at2, FL.v_i30, FL.v_i31, FL.v_i32, FL.v_Mv, FL.v_mvV, FL.v_pr, FL.v_wpN, FL.v_wpC, FL.v_wsN, FL.v_wsV, FL.v_wsO, FL.v_bkN, FL.v_bkC, FL.v_bsN, FL.v_bsI, FL.v_sf, FL.callD, Option.bind_some, Option.bind_none, List.getElem?_cons_zero, List.getElem?_cons_succ, List.getElem?_nil, List.set_cons_zero, List.set_cons_succ, List.length_cons, List.length_nil, List.filterMap_cons, List.filterMap_nil, decide_eq_true_eq, if_true, if_false, true_and, and_true, Nat.reduceAdd, Nat.reduceLeDiff, Nat.reduceEqDiff, ↓reduceIte, Bool.false_eq_true, FL.startE, FL.backs, List.map_cons, List.map_nil, List.cons_append, List.nil_append, Nat.reduceSub, List.replicate_succ, List.replicate_zero, List.nodup_nil, List.nodup_cons, List.not_mem_nil, not_false_eq_true, and_self, reduceCtorEq, Option.map_some, Option.map_none, e1, e2, is_none, isN_tup, v_slT, cut2, leT_int, e3, u1, u2, show (2 ≤ 16777216) = True from eq_true (by decide)])
    [z, .val (strsT (tRows n G n)), .val (.imm (.int (n : Nat))), .val (rowsT n G0), .val (.imm (.tuple [.int (-1), .int (-1)])), .no, .no, .no, .no, .no, .no, .no] ⟨G0, -1, -1, none, none, none, none, none, rfl, ⟨fun a => if_pos rfl, fun a b hh => by simp at hh, fun a b hh _ _ => if_neg hh, fun p _ => .inl (by omega)⟩⟩
  rw [rangeD_len] at h
  rw [fnd_end hG h] at e
  exact ⟨s5, s6, s7, s8, s9, x, y, e⟩
theorem read_one (n : Nat) (hn : n ≤ 8) (G : Nat → Nat → Int) (hG : Sq n G) : mFn 12 m_read_table [.imm (.str (textS n G))] = some (.imm (tabD n G), [.imm (.str (textS n G))]) := by
  have hz := textS_len n hn G hG
  have e0 := v_split (a := textS n G) (b := Str.ofString "\n") (by rw [nl_len]; rfl) (by omega)
  rw [text_split n hn G hG] at e0
  have e1 := strs_at (rs := tRows n G n) (t := 0) (r := headS n) rfl
  rw [show ((0 : Nat) : Int) = 0 from rfl] at e1
  have e2 := mirtold_one n hn
  have hr := fun E => v_rgN (n := n) (by omega) (E := E)
  have e3 := lcD_map (g := mName 7) (m := (mLc (mRng1 (arCons (mVar 2) arNil)) (mName 8) mYes (mIf (mTest (mOp fEq (mVar 7) (mVar 8))) (mC (.int 1)) (mC (.int 2))) [8])) (vs := [7]) (E := [.val (.imm (.str (textS n G))), .val (strsT (tRows n G n)), .val (.imm (.int (n : Nat))), .no, .no, .no, .no, .no, .no, .no, .no, .no]) (rowOf n) (rangeD 0 n) (fun d hd => by
      obtain ⟨i, hi, rfl⟩ := List.mem_iff_getElem.mp hd
      obtain ⟨_, hd⟩ := rangeD_at (List.getElem?_eq_getElem hi)
      rw [hd, Int.zero_add]
      exact ⟨_, _, by simp -implicitDefEqProofs only [FL.v_seq, FL.v_thN, FL.v_thR, FL.v_thB, FL.v_thC, FL.v_ifS, FL.v_asg, FL.v_ret, FL.v_retN, FL.v_drop, FL.v_nx, FL.v_bk, FL.v_ct, FL.v_name, FL.v_pN, FL.v_pV, FL.v_var, FL.v_at, FL.v_trV, FL.v_trP, FL.v_wV, FL.v_wP, FL.v_C, FL.v_ER, FL.v_Fz, FL.v_fO, FL.v_fS, FL.v_fV, FL.v_fP, FL.v_fL, FL.v_vS, FL.v_vO, FL.v_op, FL.v_un, FL.v_bOf, FL.v_test, FL.v_and, FL.v_or, FL.v_not, FL.v_tru, FL.v_trB, FL.v_andV, FL.v_orV, FL.v_notV, FL.v_if, FL.v_chain, FL.v_arN, FL.v_arC, FL.v_faN, FL.v_faC, FL.v_tup, FL.v_lst, FL.v_tdN, FL.v_tdC, FL.v_tdI, FL.v_tdL, FL.toDs_imms, FL.imms_imms, FL.v_cb, FL.v_vsN, FL.v_vsC, FL.v_bm, FL.v_tyS, FL.v_tyL, FL.v_sl, FL.v_moN, FL.v_moS, FL.v_iOf, FL.v_call, FL.v_osO, FL.v_osS, FL.v_isI, FL.v_isL, FL.v_isD, FL.v_gN, FL.v_gO, FL.v_gS, FL.v_for, FL.v_lc, FL.v_sub, FL.v_sub2, FL.v_iAt, FL.v_iC, FL.v_aug, FL.v_par, FL.v_mut, FL.v_rng1, FL.v_rng2, FL.v_seqI, FL.v_enum, FL.v_isi, FL.v_addI, FL.v_addS, FL.v_addT, FL.v_addL, FL.v_subI, FL.v_neg, FL.v_lt, FL.v_le, FL.v_gt, FL.v_ge, FL.v_eqI, FL.v_neI, FL.v_eqS, FL.v_neS, FL.v_ixT, FL.v_ixD, FL.v_ixL, FL.v_ixS, FL.v_len, FL.v_lnT, FL.v_lnD, FL.v_lnL, FL.v_lnS, FL.v_abs, FL.v_max, FL.v_min, FL.v_int, FL.v_intB, FL.v_tuple, FL.v_list, FL.v_sqT, FL.v_sqD, FL.v_sqL, FL.v_itT, FL.v_itL, FL.v_itS, FL.v_isN, FL.v_notN, FL.v_setL, FL.v_setD, FL.v_kS, FL.v_kI, FL.v_mp, FL.v_mpn, FL.v_pO, FL.v_tupG, FL.v_gsC, FL.v_gsN, FL.v_slD, FL.v_at0, FL.v_at1, FL.v_at2, FL.v_i30, FL.v_i31, FL.v_i32, FL.v_Mv, FL.v_mvV, FL.v_pr, FL.v_wpN, FL.v_wpC, FL.v_wsN, FL.v_wsV, FL.v_wsO, FL.v_bkN, FL.v_bkC, FL.v_bsN, FL.v_bsI, FL.v_sf, FL.callD, Option.bind_some, Option.bind_none, List.getElem?_cons_zero, List.getElem?_cons_succ, List.getElem?_nil, List.set_cons_zero, List.set_cons_succ, List.length_cons, List.length_nil, List.filterMap_cons, List.filterMap_nil, decide_eq_true_eq, if_true, if_false, true_and, and_true, Nat.reduceAdd, Nat.reduceLeDiff, Nat.reduceEqDiff, ↓reduceIte, Bool.false_eq_true, FL.startE, FL.backs, List.map_cons, List.map_nil, List.cons_append, List.nil_append, Nat.reduceSub, List.replicate_succ, List.replicate_zero, List.nodup_nil, List.nodup_cons, List.not_mem_nil, not_false_eq_true, and_self, reduceCtorEq, Option.map_some, Option.map_none]; rfl, start_row n hn i _ _ .no, by simp -implicitDefEqProofs only [FL.v_seq, FL.v_thN, FL.v_thR, FL.v_thB, FL.v_thC, FL.v_ifS, FL.v_asg, FL.v_ret, FL.v_retN, FL.v_drop, FL.v_nx, FL.v_bk, FL.v_ct, FL.v_name, FL.v_pN, FL.v_pV, FL.v_var, FL.v_at, FL.v_trV, FL.v_trP, FL.v_wV, FL.v_wP, FL.v_C, FL.v_ER, FL.v_Fz, FL.v_fO, FL.v_fS, FL.v_fV, FL.v_fP, FL.v_fL, FL.v_vS, FL.v_vO, FL.v_op, FL.v_un, FL.v_bOf, FL.v_test, FL.v_and, FL.v_or, FL.v_not, FL.v_tru, FL.v_trB, FL.v_andV, FL.v_orV, FL.v_notV, FL.v_if, FL.v_chain, FL.v_arN, FL.v_arC, FL.v_faN, FL.v_faC, FL.v_tup, FL.v_lst, FL.v_tdN, FL.v_tdC, FL.v_tdI, FL.v_tdL, FL.toDs_imms, FL.imms_imms, FL.v_cb, FL.v_vsN, FL.v_vsC, FL.v_bm, FL.v_tyS, FL.v_tyL, FL.v_sl, FL.v_moN, FL.v_moS, FL.v_iOf, FL.v_call, FL.v_osO, FL.v_osS, FL.v_isI, FL.v_isL, FL.v_isD, FL.v_gN, FL.v_gO, FL.v_gS, FL.v_for, FL.v_lc, FL.v_sub, FL.v_sub2, FL.v_iAt, FL.v_iC, FL.v_aug, FL.v_par, FL.v_mut, FL.v_rng1, FL.v_rng2, FL.v_seqI, FL.v_enum, FL.v_isi, FL.v_addI, FL.v_addS, FL.v_addT, FL.v_addL, FL.v_subI, FL.v_neg, FL.v_lt, FL.v_le, FL.v_gt, FL.v_ge, FL.v_eqI, FL.v_neI, FL.v_eqS, FL.v_neS, FL.v_ixT, FL.v_ixD, FL.v_ixL, FL.v_ixS, FL.v_len, FL.v_lnT, FL.v_lnD, FL.v_lnL, FL.v_lnS, FL.v_abs, FL.v_max, FL.v_min, FL.v_int, FL.v_intB, FL.v_tuple, FL.v_list, FL.v_sqT, FL.v_sqD, FL.v_sqL, FL.v_itT, FL.v_itL, FL.v_itS, FL.v_isN, FL.v_notN, FL.v_setL, FL.v_setD, FL.v_kS, FL.v_kI, FL.v_mp, FL.v_mpn, FL.v_pO, FL.v_tupG, FL.v_gsC, FL.v_gsN, FL.v_slD, FL.v_at0, FL.v_at1, FL.v_at2, FL.v_i30, FL.v_i31, FL.v_i32, FL.v_Mv, FL.v_mvV, FL.v_pr, FL.v_wpN, FL.v_wpC, FL.v_wsN, FL.v_wsV, FL.v_wsO, FL.v_bkN, FL.v_bkC, FL.v_bsN, FL.v_bsI, FL.v_sf, FL.callD, Option.bind_some, Option.bind_none, List.getElem?_cons_zero, List.getElem?_cons_succ, List.getElem?_nil, List.set_cons_zero, List.set_cons_succ, List.length_cons, List.length_nil, List.filterMap_cons, List.filterMap_nil, decide_eq_true_eq, if_true, if_false, true_and, and_true, Nat.reduceAdd, Nat.reduceLeDiff, Nat.reduceEqDiff, ↓reduceIte, Bool.false_eq_true, FL.startE, FL.backs, List.map_cons, List.map_nil, List.cons_append, List.nil_append, Nat.reduceSub, List.replicate_succ, List.replicate_zero, List.nodup_nil, List.nodup_cons, List.not_mem_nil, not_false_eq_true, and_self, reduceCtorEq, Option.map_some, Option.map_none]⟩) [] (by rw [rangeD_len]; show 0 + n ≤ _; omega)
  rw [rows_are, List.nil_append] at e3
  obtain ⟨s5, s6, s7, s8, s9, x, y, e4⟩ := read_loop n hn G hG (.val (.imm (.str (textS n G))))
  unfold rowsT at e4
  have hlen : (tRows n G n).length = 1 + (pairsL n G).length := by rw [pairs_rows, List.length_cons, List.length_map, Nat.add_comm]
  have hpl : (pairsL n G).length ≤ 100 := by
    have h1 := tRows_len n G n
    have hb : n * n ≤ 8 * 8 := Nat.mul_le_mul hn hn
    omega
  have hr2 : ∀ E, rng2D [.imm (.int 1), .imm (.int ((1 + (pairsL n G).length : Nat) : Int))] E = some (rangeD 1 (pairsL n G).length, E) := fun E => by
    have q1 : rngOk 1 = true := rng_nat (n := 1) (by decide)
    rw [v_rg2 q1 (rng_nat (by omega)), show (((1 + (pairsL n G).length : Nat) : Int) - 1).toNat = (pairsL n G).length by omega]
  have e5 := lcD_map (g := mName 11) (m := mCB fTuple (arCons (mVar 11) arNil)) (vs := [11]) (E := [.val (.imm (.str (textS n G))), .val (strsT (tRows n G n)), .val (.imm (.int (n : Nat))), .val (.imm (.list ((List.range n).map fun i => PyData.list ((List.range n).map fun j => PyData.int (G i j))))), .val (.imm (.tuple [.int x, .int y])), ov s5, ov s6, ov s7, ov s8, ov s9, .no, .no]) tupOf ((List.range n).map fun i => PyData.list ((List.range n).map fun j => PyData.int (G i j))) (fun d hd => by
      obtain ⟨i, -, rfl⟩ := List.mem_map.mp hd
      exact ⟨_, _, by simp -implicitDefEqProofs only [FL.v_seq, FL.v_thN, FL.v_thR, FL.v_thB, FL.v_thC, FL.v_ifS, FL.v_asg, FL.v_ret, FL.v_retN, FL.v_drop, FL.v_nx, FL.v_bk, FL.v_ct, FL.v_name, FL.v_pN, FL.v_pV, FL.v_var, FL.v_at, FL.v_trV, FL.v_trP, FL.v_wV, FL.v_wP, FL.v_C, FL.v_ER, FL.v_Fz, FL.v_fO, FL.v_fS, FL.v_fV, FL.v_fP, FL.v_fL, FL.v_vS, FL.v_vO, FL.v_op, FL.v_un, FL.v_bOf, FL.v_test, FL.v_and, FL.v_or, FL.v_not, FL.v_tru, FL.v_trB, FL.v_andV, FL.v_orV, FL.v_notV, FL.v_if, FL.v_chain, FL.v_arN, FL.v_arC, FL.v_faN, FL.v_faC, FL.v_tup, FL.v_lst, FL.v_tdN, FL.v_tdC, FL.v_tdI, FL.v_tdL, FL.toDs_imms, FL.imms_imms, FL.v_cb, FL.v_vsN, FL.v_vsC, FL.v_bm, FL.v_tyS, FL.v_tyL, FL.v_sl, FL.v_moN, FL.v_moS, FL.v_iOf, FL.v_call, FL.v_osO, FL.v_osS, FL.v_isI, FL.v_isL, FL.v_isD, FL.v_gN, FL.v_gO, FL.v_gS, FL.v_for, FL.v_lc, FL.v_sub, FL.v_sub2, FL.v_iAt, FL.v_iC, FL.v_aug, FL.v_par, FL.v_mut, FL.v_rng1, FL.v_rng2, FL.v_seqI, FL.v_enum, FL.v_isi, FL.v_addI, FL.v_addS, FL.v_addT, FL.v_addL, FL.v_subI, FL.v_neg, FL.v_lt, FL.v_le, FL.v_gt, FL.v_ge, FL.v_eqI, FL.v_neI, FL.v_eqS, FL.v_neS, FL.v_ixT, FL.v_ixD, FL.v_ixL, FL.v_ixS, FL.v_len, FL.v_lnT, FL.v_lnD, FL.v_lnL, FL.v_lnS, FL.v_abs, FL.v_max, FL.v_min, FL.v_int, FL.v_intB, FL.v_tuple, FL.v_list, FL.v_sqT, FL.v_sqD, FL.v_sqL, FL.v_itT, FL.v_itL, FL.v_itS, FL.v_isN, FL.v_notN, FL.v_setL, FL.v_setD, FL.v_kS, FL.v_kI, FL.v_mp, FL.v_mpn, FL.v_pO, FL.v_tupG, FL.v_gsC, FL.v_gsN, FL.v_slD, FL.v_at0, FL.v_at1, FL.v_at2, FL.v_i30, FL.v_i31, FL.v_i32, FL.v_Mv, FL.v_mvV, FL.v_pr, FL.v_wpN, FL.v_wpC, FL.v_wsN, FL.v_wsV, FL.v_wsO, FL.v_bkN, FL.v_bkC, FL.v_bsN, FL.v_bsI, FL.v_sf, FL.callD, Option.bind_some, Option.bind_none, List.getElem?_cons_zero, List.getElem?_cons_succ, List.getElem?_nil, List.set_cons_zero, List.set_cons_succ, List.length_cons, List.length_nil, List.filterMap_cons, List.filterMap_nil, decide_eq_true_eq, if_true, if_false, true_and, and_true, Nat.reduceAdd, Nat.reduceLeDiff, Nat.reduceEqDiff, ↓reduceIte, Bool.false_eq_true, FL.startE, FL.backs, List.map_cons, List.map_nil, List.cons_append, List.nil_append, Nat.reduceSub, List.replicate_succ, List.replicate_zero, List.nodup_nil, List.nodup_cons, List.not_mem_nil, not_false_eq_true, and_self, reduceCtorEq, Option.map_some, Option.map_none]; rfl, by simp -implicitDefEqProofs only [FL.v_seq, FL.v_thN, FL.v_thR, FL.v_thB, FL.v_thC, FL.v_ifS, FL.v_asg, FL.v_ret, FL.v_retN, FL.v_drop, FL.v_nx, FL.v_bk, FL.v_ct, FL.v_name, FL.v_pN, FL.v_pV, FL.v_var, FL.v_at, FL.v_trV, FL.v_trP, FL.v_wV, FL.v_wP, FL.v_C, FL.v_ER, FL.v_Fz, FL.v_fO, FL.v_fS, FL.v_fV, FL.v_fP, FL.v_fL, FL.v_vS, FL.v_vO, FL.v_op, FL.v_un, FL.v_bOf, FL.v_test, FL.v_and, FL.v_or, FL.v_not, FL.v_tru, FL.v_trB, FL.v_andV, FL.v_orV, FL.v_notV, FL.v_if, FL.v_chain, FL.v_arN, FL.v_arC, FL.v_faN, FL.v_faC, FL.v_tup, FL.v_lst, FL.v_tdN, FL.v_tdC, FL.v_tdI, FL.v_tdL, FL.toDs_imms, FL.imms_imms, FL.v_cb, FL.v_vsN, FL.v_vsC, FL.v_bm, FL.v_tyS, FL.v_tyL, FL.v_sl, FL.v_moN, FL.v_moS, FL.v_iOf, FL.v_call, FL.v_osO, FL.v_osS, FL.v_isI, FL.v_isL, FL.v_isD, FL.v_gN, FL.v_gO, FL.v_gS, FL.v_for, FL.v_lc, FL.v_sub, FL.v_sub2, FL.v_iAt, FL.v_iC, FL.v_aug, FL.v_par, FL.v_mut, FL.v_rng1, FL.v_rng2, FL.v_seqI, FL.v_enum, FL.v_isi, FL.v_addI, FL.v_addS, FL.v_addT, FL.v_addL, FL.v_subI, FL.v_neg, FL.v_lt, FL.v_le, FL.v_gt, FL.v_ge, FL.v_eqI, FL.v_neI, FL.v_eqS, FL.v_neS, FL.v_ixT, FL.v_ixD, FL.v_ixL, FL.v_ixS, FL.v_len, FL.v_lnT, FL.v_lnD, FL.v_lnL, FL.v_lnS, FL.v_abs, FL.v_max, FL.v_min, FL.v_int, FL.v_intB, FL.v_tuple, FL.v_list, FL.v_sqT, FL.v_sqD, FL.v_sqL, FL.v_itT, FL.v_itL, FL.v_itS, FL.v_isN, FL.v_notN, FL.v_setL, FL.v_setD, FL.v_kS, FL.v_kI, FL.v_mp, FL.v_mpn, FL.v_pO, FL.v_tupG, FL.v_gsC, FL.v_gsN, FL.v_slD, FL.v_at0, FL.v_at1, FL.v_at2, FL.v_i30, FL.v_i31, FL.v_i32, FL.v_Mv, FL.v_mvV, FL.v_pr, FL.v_wpN, FL.v_wpC, FL.v_wsN, FL.v_wsV, FL.v_wsO, FL.v_bkN, FL.v_bkC, FL.v_bsN, FL.v_bsI, FL.v_sf, FL.callD, Option.bind_some, Option.bind_none, List.getElem?_cons_zero, List.getElem?_cons_succ, List.getElem?_nil, List.set_cons_zero, List.set_cons_succ, List.length_cons, List.length_nil, List.filterMap_cons, List.filterMap_nil, decide_eq_true_eq, if_true, if_false, true_and, and_true, Nat.reduceAdd, Nat.reduceLeDiff, Nat.reduceEqDiff, ↓reduceIte, Bool.false_eq_true, FL.startE, FL.backs, List.map_cons, List.map_nil, List.cons_append, List.nil_append, Nat.reduceSub, List.replicate_succ, List.replicate_zero, List.nodup_nil, List.nodup_cons, List.not_mem_nil, not_false_eq_true, and_self, reduceCtorEq, Option.map_some, Option.map_none]; rfl, by simp -implicitDefEqProofs only [FL.v_seq, FL.v_thN, FL.v_thR, FL.v_thB, FL.v_thC, FL.v_ifS, FL.v_asg, FL.v_ret, FL.v_retN, FL.v_drop, FL.v_nx, FL.v_bk, FL.v_ct, FL.v_name, FL.v_pN, FL.v_pV, FL.v_var, FL.v_at, FL.v_trV, FL.v_trP, FL.v_wV, FL.v_wP, FL.v_C, FL.v_ER, FL.v_Fz, FL.v_fO, FL.v_fS, FL.v_fV, FL.v_fP, FL.v_fL, FL.v_vS, FL.v_vO, FL.v_op, FL.v_un, FL.v_bOf, FL.v_test, FL.v_and, FL.v_or, FL.v_not, FL.v_tru, FL.v_trB, FL.v_andV, FL.v_orV, FL.v_notV, FL.v_if, FL.v_chain, FL.v_arN, FL.v_arC, FL.v_faN, FL.v_faC, FL.v_tup, FL.v_lst, FL.v_tdN, FL.v_tdC, FL.v_tdI, FL.v_tdL, FL.toDs_imms, FL.imms_imms, FL.v_cb, FL.v_vsN, FL.v_vsC, FL.v_bm, FL.v_tyS, FL.v_tyL, FL.v_sl, FL.v_moN, FL.v_moS, FL.v_iOf, FL.v_call, FL.v_osO, FL.v_osS, FL.v_isI, FL.v_isL, FL.v_isD, FL.v_gN, FL.v_gO, FL.v_gS, FL.v_for, FL.v_lc, FL.v_sub, FL.v_sub2, FL.v_iAt, FL.v_iC, FL.v_aug, FL.v_par, FL.v_mut, FL.v_rng1, FL.v_rng2, FL.v_seqI, FL.v_enum, FL.v_isi, FL.v_addI, FL.v_addS, FL.v_addT, FL.v_addL, FL.v_subI, FL.v_neg, FL.v_lt, FL.v_le, FL.v_gt, FL.v_ge, FL.v_eqI, FL.v_neI, FL.v_eqS, FL.v_neS, FL.v_ixT, FL.v_ixD, FL.v_ixL, FL.v_ixS, FL.v_len, FL.v_lnT, FL.v_lnD, FL.v_lnL, FL.v_lnS, FL.v_abs, FL.v_max, FL.v_min, FL.v_int, FL.v_intB, FL.v_tuple, FL.v_list, FL.v_sqT, FL.v_sqD, FL.v_sqL, FL.v_itT, FL.v_itL, FL.v_itS, FL.v_isN, FL.v_notN, FL.v_setL, FL.v_setD, FL.v_kS, FL.v_kI, FL.v_mp, FL.v_mpn, FL.v_pO, FL.v_tupG, FL.v_gsC, FL.v_gsN, FL.v_slD, FL.v_at0, FL.v_at1, FL.v_at2, FL.v_i30, FL.v_i31, FL.v_i32, FL.v_Mv, FL.v_mvV, FL.v_pr, FL.v_wpN, FL.v_wpC, FL.v_wsN, FL.v_wsV, FL.v_wsO, FL.v_bkN, FL.v_bkC, FL.v_bsN, FL.v_bsI, FL.v_sf, FL.callD, Option.bind_some, Option.bind_none, List.getElem?_cons_zero, List.getElem?_cons_succ, List.getElem?_nil, List.set_cons_zero, List.set_cons_succ, List.length_cons, List.length_nil, List.filterMap_cons, List.filterMap_nil, decide_eq_true_eq, if_true, if_false, true_and, and_true, Nat.reduceAdd, Nat.reduceLeDiff, Nat.reduceEqDiff, ↓reduceIte, Bool.false_eq_true, FL.startE, FL.backs, List.map_cons, List.map_nil, List.cons_append, List.nil_append, Nat.reduceSub, List.replicate_succ, List.replicate_zero, List.nodup_nil, List.nodup_cons, List.not_mem_nil, not_false_eq_true, and_self, reduceCtorEq, Option.map_some, Option.map_none]⟩) [] (by simp; omega)
  have e6 : Tr.toDs ((List.range n).map fun i => Tr.lst ((List.range n).map fun j => Tr.imm (.int (G i j)))) = some ((List.range n).map fun i => PyData.list ((List.range n).map fun j => PyData.int (G i j))) := rows_toDs n n G
  have e7 : (((List.range n).map fun i => PyData.list ((List.range n).map fun j => PyData.int (G i j))).map tupOf) = ((List.range n).map fun i => PyData.tuple ((List.range n).map fun j => PyData.int (G i j))).map Tr.imm := by
    rw [List.map_map, List.map_map]; rfl
  rw [e7, List.nil_append] at e5
  obtain ⟨o, e8, ho⟩ := order_one n G hG
  have ho2 : ¬ (60 : Int) < (o : Nat) := by omega
  have hsl : ((tRows n G n).map PyData.str).length = 1 + (pairsL n G).length := by rw [List.length_map, hlen]
  unfold tabD at e8 ⊢
  unfold strsT at *
  rw [v_fn]
  unfold m_read_table
  simp -implicitDefEqProofs only [FL.v_seq, FL.v_thN, FL.v_thR, FL.v_thB, FL.v_thC, FL.v_ifS, FL.v_asg, FL.v_ret, FL.v_retN, FL.v_drop, FL.v_nx, FL.v_bk, FL.v_ct, FL.v_name, FL.v_pN, FL.v_pV, FL.v_var, FL.v_at, FL.v_trV, FL.v_trP, FL.v_wV, FL.v_wP, FL.v_C, FL.v_ER, FL.v_Fz, FL.v_fO, FL.v_fS, FL.v_fV, FL.v_fP, FL.v_fL, FL.v_vS, FL.v_vO, FL.v_op, FL.v_un, FL.v_bOf, FL.v_test, FL.v_and, FL.v_or, FL.v_not, FL.v_tru, FL.v_trB, FL.v_andV, FL.v_orV, FL.v_notV, FL.v_if, FL.v_chain, FL.v_arN, FL.v_arC, FL.v_faN, FL.v_faC, FL.v_tup, FL.v_lst, FL.v_tdN, FL.v_tdC, FL.v_tdI, FL.v_tdL, FL.toDs_imms, FL.imms_imms, FL.v_cb, FL.v_vsN, FL.v_vsC, FL.v_bm, FL.v_tyS, FL.v_tyL, FL.v_sl, FL.v_moN, FL.v_moS, FL.v_iOf, FL.v_call, FL.v_osO, FL.v_osS, FL.v_isI, FL.v_isL, FL.v_isD, FL.v_gN, FL.v_gO, FL.v_gS, FL.v_for, FL.v_lc, FL.v_sub, FL.v_sub2, FL.v_iAt, FL.v_iC, FL.v_aug, FL.v_par, FL.v_mut, FL.v_rng1, FL.v_rng2, FL.v_seqI, FL.v_enum, FL.v_isi, FL.v_addI, FL.v_addS, FL.v_addT, FL.v_addL, FL.v_subI, FL.v_neg, FL.v_lt, FL.v_le, FL.v_gt, FL.v_ge, FL.v_eqI, FL.v_neI, FL.v_eqS, FL.v_neS, FL.v_ixT, FL.v_ixD, FL.v_ixL, FL.v_ixS, FL.v_len, FL.v_lnT, FL.v_lnD, FL.v_lnL, FL.v_lnS, FL.v_abs, FL.v_max, FL.v_min, FL.v_int, FL.v_intB, FL.v_tuple, FL.v_list, FL.v_sqT, FL.v_sqD, FL.v_sqL, FL.v_itT, FL.v_itL, FL.v_itS, FL.v_isN, FL.v_notN, FL.v_setL, FL.v_setD, FL.v_kS, FL.v_kI, FL.v_mp, FL.v_mpn, FL.v_pO, FL.v_tupG, FL.v_gsC, FL.v_gsN, FL.v_slD, FL.v_at0, FL.v_at1, FL.v_at2, FL.v_i30, FL.v_i31, FL.v_i32, FL.v_Mv, FL.v_mvV, FL.v_pr, FL.v_wpN, FL.v_wpC, FL.v_wsN, FL.v_wsV, FL.v_wsO, FL.v_bkN, FL.v_bkC, FL.v_bsN, FL.v_bsI, FL.v_sf, FL.callD, Option.bind_some, Option.bind_none, List.getElem?_cons_zero, List.getElem?_cons_succ, List.getElem?_nil, List.set_cons_zero, List.set_cons_succ, List.length_cons, List.length_nil, List.filterMap_cons, List.filterMap_nil, decide_eq_true_eq, if_true, if_false, true_and, and_true, Nat.reduceAdd, Nat.reduceLeDiff, Nat.reduceEqDiff, ↓reduceIte, Bool.false_eq_true, FL.startE, FL.backs, List.map_cons, List.map_nil, List.cons_append, List.nil_append, Nat.reduceSub, List.replicate_succ, List.replicate_zero, List.nodup_nil, List.nodup_cons, List.not_mem_nil, not_false_eq_true, and_self, reduceCtorEq, Option.map_some, Option.map_none, e0, e1, e2, is_none, isN_int, hr, e3, v_un, v_neg, List.length_map, hlen, hr2, e4, e6, e5, e8, ho2, decide_false, show (2 ≤ 16777216) = True from eq_true (by decide)]
end WK

namespace WK
open PySem L2 FL
theorem small_int : ∀ w : Fin 13, PyData.showable (.int (w.val : Nat)) = true ∧ PyData.leavesShort 8 (.int (w.val : Nat)) = true := by decide +kernel
theorem ints_show : ∀ xs : List Int, (∀ x ∈ xs, ∃ w : Nat, w < 13 ∧ x = (w : Nat)) → PyData.showableAll (xs.map PyData.int) = true ∧ PyData.leavesShortAll 8 (xs.map PyData.int) = true ∧ PyData.bulkAll (xs.map PyData.int) = xs.length ∧ PyData.hasDictAll (xs.map PyData.int) = false ∧ PyData.depthAll (xs.map PyData.int) = 0
  | [], _ => ⟨by rw [List.map_nil, PyData.showableAll], by rw [List.map_nil, PyData.leavesShortAll], by rw [List.map_nil, PyData.bulkAll]; rfl, by rw [List.map_nil, PyData.hasDictAll], by rw [List.map_nil, PyData.depthAll]⟩
  | x :: xs, h => by
    obtain ⟨h1, h2, h3, h4, h5⟩ := ints_show xs fun y hy => h y (List.mem_cons_of_mem _ hy)
    obtain ⟨w, hw, rfl⟩ := h x List.mem_cons_self
    have := small_int ⟨w, hw⟩
    refine ⟨?_, ?_, ?_, ?_, ?_⟩
    · rw [List.map_cons, PyData.showableAll, h1, this.1]; rfl
    · rw [List.map_cons, PyData.leavesShortAll, h2, this.2]; rfl
    · rw [List.map_cons, PyData.bulkAll, h3, PyData.bulk, List.length_cons]; omega
    · rw [List.map_cons, PyData.hasDictAll, h4, PyData.hasDict]; rfl
    · rw [List.map_cons, PyData.depthAll, h5, PyData.depth]; rfl
theorem rows_show : ∀ xss : List (List Int), (∀ xs ∈ xss, xs.length ≤ 8 ∧ ∀ x ∈ xs, ∃ w : Nat, w < 13 ∧ x = (w : Nat)) → PyData.showableAll (xss.map fun xs => PyData.tuple (xs.map PyData.int)) = true ∧ PyData.leavesShortAll 8 (xss.map fun xs => PyData.tuple (xs.map PyData.int)) = true ∧ PyData.bulkAll (xss.map fun xs => PyData.tuple (xs.map PyData.int)) ≤ 9 * xss.length ∧ PyData.hasDictAll (xss.map fun xs => PyData.tuple (xs.map PyData.int)) = false ∧ PyData.depthAll (xss.map fun xs => PyData.tuple (xs.map PyData.int)) ≤ 1
  | [], _ => ⟨by rw [List.map_nil, PyData.showableAll], by rw [List.map_nil, PyData.leavesShortAll], by rw [List.map_nil, PyData.bulkAll]; exact Nat.le_refl _, by rw [List.map_nil, PyData.hasDictAll], by rw [List.map_nil, PyData.depthAll]; decide⟩
  | xs :: xss, h => by
    obtain ⟨h1, h2, h3, h4, h5⟩ := rows_show xss fun y hy => h y (List.mem_cons_of_mem _ hy)
    obtain ⟨hl, hx⟩ := h xs List.mem_cons_self
    obtain ⟨k1, k2, k3, k4, k5⟩ := ints_show xs hx
    refine ⟨?_, ?_, ?_, ?_, ?_⟩
    · rw [List.map_cons, PyData.showableAll, h1, PyData.showable, k1]; rfl
    · rw [List.map_cons, PyData.leavesShortAll, h2, PyData.leavesShort, k2]; rfl
    · rw [List.map_cons, PyData.bulkAll, PyData.bulk, k3, List.length_cons]; omega
    · rw [List.map_cons, PyData.hasDictAll, h4, PyData.hasDict, k4]; rfl
    · rw [List.map_cons, PyData.depthAll, PyData.depth, k5]; omega
theorem tab_rows (n : Nat) (G : Nat → Nat → Int) : tabD n G = .tuple (((List.range n).map fun i => (List.range n).map (G i)).map fun xs => PyData.tuple (xs.map PyData.int)) := by
  unfold tabD
  rw [List.map_map]
  congr 1
  refine List.map_congr_left fun i _ => ?_
  show _ = PyData.tuple _
  rw [List.map_map]; rfl
theorem repr_tab (n : Nat) (hn : n ≤ 8) (G : Nat → Nat → Int) (hG : Sq n G) : fRepr [.imm (tabD n G)] = some (.imm (.str (PyData.shown (tabD n G)))) := by
  obtain ⟨h1, h2, h3, h4, h5⟩ := rows_show ((List.range n).map fun i => (List.range n).map (G i)) (fun xs hx => by
    obtain ⟨i, hi, rfl⟩ := List.mem_map.mp hx
    rw [List.mem_range] at hi
    refine ⟨by simp; exact hn, fun x hx => ?_⟩
    obtain ⟨j, hj, rfl⟩ := List.mem_map.mp hx
    rw [List.mem_range] at hj
    by_cases e : i = j
    · subst e; exact ⟨1, by decide, hG.one i⟩
    · obtain ⟨w, hw, _, hk⟩ := good_nat (hG.good i j e hi hj)
      exact ⟨w, hw, hk⟩)
  rw [List.length_map, List.length_range] at h3
  rw [tab_rows]
  generalize ((List.range n).map fun i => (List.range n).map (G i)).map (fun xs => PyData.tuple (xs.map PyData.int)) = ds at h1 h2 h3 h4 h5 ⊢
  have k1 : PyData.showable (.tuple ds) = true := by rw [PyData.showable]; exact h1
  have k2 : PyData.leavesShort 8 (.tuple ds) = true := by rw [PyData.leavesShort]; exact h2
  have k3 : PyData.bulk (.tuple ds) ≤ 9 * n := by rw [PyData.bulk]; exact h3
  have k4 : PyData.hasDict (.tuple ds) = false := by rw [PyData.hasDict]; exact h4
  have k5 : PyData.depth (.tuple ds) ≤ 2 := by rw [PyData.depth]; omega
  have k6 := PyData.shown_le_bulk 8 (by decide) _ k2
  unfold fRepr
  show (Tr.toD _).bind _ = _
  rw [v_tdI, Option.bind_some, if_pos ⟨k1, by omega, by omega, k4⟩]
theorem right_one (n : Nat) (hn : n ≤ 8) (G : Nat → Nat → Int) (hG : Sq n G) : mFn 2 m__law_right [.imm (tabD n G)] = some (.imm (.bool true), [.imm (tabD n G)]) := by
  have e1 := show_one n hn G hG
  have e2 := text_one n hn G hG
  have e3 := read_one n hn G hG
  have e4 := repr_tab n hn G hG
  have hk : kitB "str" "str" = some true := by decide +kernel
  have ht : tyName (.imm (.str (textS n G))) = some "str" := rfl
  rw [v_fn]
  unfold m__law_right
  simp -implicitDefEqProofs only [FL.v_seq, FL.v_thN, FL.v_thR, FL.v_thB, FL.v_thC, FL.v_ifS, FL.v_asg, FL.v_ret, FL.v_retN, FL.v_drop, FL.v_nx, FL.v_bk, FL.v_ct, FL.v_name, FL.v_pN, FL.v_pV, FL.v_var, FL.v_at, FL.v_trV, FL.v_trP, FL.v_wV, FL.v_wP, FL.v_C, FL.v_ER, FL.v_Fz, FL.v_fO, FL.v_fS, FL.v_fV, FL.v_fP, FL.v_fL, FL.v_vS, FL.v_vO, FL.v_op, FL.v_un, FL.v_bOf, FL.v_test, FL.v_and, FL.v_or, FL.v_not, FL.v_tru, FL.v_trB, FL.v_andV, FL.v_orV, FL.v_notV, FL.v_if, FL.v_chain, FL.v_arN, FL.v_arC, FL.v_faN, FL.v_faC, FL.v_tup, FL.v_lst, FL.v_tdN, FL.v_tdC, FL.v_tdI, FL.v_tdL, FL.toDs_imms, FL.imms_imms, FL.v_cb, FL.v_vsN, FL.v_vsC, FL.v_bm, FL.v_tyS, FL.v_tyL, FL.v_sl, FL.v_moN, FL.v_moS, FL.v_iOf, FL.v_call, FL.v_osO, FL.v_osS, FL.v_isI, FL.v_isL, FL.v_isD, FL.v_gN, FL.v_gO, FL.v_gS, FL.v_for, FL.v_lc, FL.v_sub, FL.v_sub2, FL.v_iAt, FL.v_iC, FL.v_aug, FL.v_par, FL.v_mut, FL.v_rng1, FL.v_rng2, FL.v_seqI, FL.v_enum, FL.v_isi, FL.v_addI, FL.v_addS, FL.v_addT, FL.v_addL, FL.v_subI, FL.v_neg, FL.v_lt, FL.v_le, FL.v_gt, FL.v_ge, FL.v_eqI, FL.v_neI, FL.v_eqS, FL.v_neS, FL.v_ixT, FL.v_ixD, FL.v_ixL, FL.v_ixS, FL.v_len, FL.v_lnT, FL.v_lnD, FL.v_lnL, FL.v_lnS, FL.v_abs, FL.v_max, FL.v_min, FL.v_int, FL.v_intB, FL.v_tuple, FL.v_list, FL.v_sqT, FL.v_sqD, FL.v_sqL, FL.v_itT, FL.v_itL, FL.v_itS, FL.v_isN, FL.v_notN, FL.v_setL, FL.v_setD, FL.v_kS, FL.v_kI, FL.v_mp, FL.v_mpn, FL.v_pO, FL.v_tupG, FL.v_gsC, FL.v_gsN, FL.v_slD, FL.v_at0, FL.v_at1, FL.v_at2, FL.v_i30, FL.v_i31, FL.v_i32, FL.v_Mv, FL.v_mvV, FL.v_pr, FL.v_wpN, FL.v_wpC, FL.v_wsN, FL.v_wsV, FL.v_wsO, FL.v_bkN, FL.v_bkC, FL.v_bsN, FL.v_bsI, FL.v_sf, FL.callD, Option.bind_some, Option.bind_none, List.getElem?_cons_zero, List.getElem?_cons_succ, List.getElem?_nil, List.set_cons_zero, List.set_cons_succ, List.length_cons, List.length_nil, List.filterMap_cons, List.filterMap_nil, decide_eq_true_eq, if_true, if_false, true_and, and_true, Nat.reduceAdd, Nat.reduceLeDiff, Nat.reduceEqDiff, ↓reduceIte, Bool.false_eq_true, FL.startE, FL.backs, List.map_cons, List.map_nil, List.cons_append, List.nil_append, Nat.reduceSub, List.replicate_succ, List.replicate_zero, List.nodup_nil, List.nodup_cons, List.not_mem_nil, not_false_eq_true, and_self, reduceCtorEq, Option.map_some, Option.map_none, e1, e2, e3, e4, hk, ht, decide_true, Bool.not_true]
/-! a part's table -/
def sub (G : Nat → Nat → Int) (p : List Nat) : Nat → Nat → Int := fun a b => G (p.getD a 0) (p.getD b 0)
theorem by_places (p : List Nat) : p = (List.range p.length).map fun a => p.getD a 0 := by
  refine List.ext_getElem? fun i => ?_
  by_cases h : i < p.length
  · rw [range_get h, List.getElem?_eq_getElem h, List.getD_eq_getElem?_getD, List.getElem?_eq_getElem h]; rfl
  · rw [List.getElem?_eq_none (by omega), List.getElem?_eq_none (by simp; omega)]
theorem map_places {α : Type} (p : List Nat) (f : Nat → α) : p.map f = (List.range p.length).map fun a => f (p.getD a 0) := by
  conv => lhs; rw [by_places p]
  rw [List.map_map]; rfl
theorem sub_tab (G : Nat → Nat → Int) (p : List Nat) : tabD p.length (sub G p) = .tuple (p.map fun i => PyData.tuple (p.map fun j => PyData.int (G i j))) := by
  unfold tabD sub
  rw [map_places p]
  congr 1
  refine List.map_congr_left fun a _ => ?_
  rw [map_places p]
theorem sub_sq {n : Nat} {G : Nat → Nat → Int} (hG : Sq n G) {p : List Nat} (hp : p.Nodup) (hl : ∀ x ∈ p, x < n) : Sq p.length (sub G p) := by
  obtain ⟨l, hls, hm⟩ := hG.stk
  refine ⟨fun a => hG.one _, fun a b => hG.sym _ _, l, hls, fun a b hab ha hb => ?_⟩
  unfold sub
  rw [List.getD_eq_getElem?_getD, List.getD_eq_getElem?_getD, List.getElem?_eq_getElem ha, List.getElem?_eq_getElem hb]
  refine hm _ _ (fun e => hab ?_) (hl _ (List.getElem_mem ha)) (hl _ (List.getElem_mem hb))
  exact (List.getElem_inj hp).mp e
def cellP (G : Nat → Nat → Int) (i : Nat) : PyData → Tr
  | .int j => .imm (.int (G i j.toNat))
  | _ => .imm .none
def rowP (G : Nat → Nat → Int) (p : List Nat) : PyData → Tr
  | .int i => .imm (.tuple (p.map fun j => PyData.int (G i.toNat j)))
  | _ => .imm .none
theorem part_row (n : Nat) (G : Nat → Nat → Int) (p : List Nat) (hl : ∀ x ∈ p, x < n) (hn : p.length ≤ 100) (i : Nat) (hi : i < n) : (mCB fTuple (arCons (mER (mLc (mSeqI (mFz (mVar 1))) (mName 3) mYes (mOp fIx (mER (mOp fIx (mVar 0) (mVar 2))) (mVar 3)) [3])) arNil)) [.val (.imm (.tuple ((List.range n).map (rowD n G)))), .val (.imm (.tuple (wL p))), .val (.imm (.int (i : Nat))), .no] = some (.imm (.tuple (p.map fun j => PyData.int (G i j))), [.val (.imm (.tuple ((List.range n).map (rowD n G)))), .val (.imm (.tuple (wL p))), .val (.imm (.int (i : Nat))), .no]) := by
  have e1 := lcD_map (g := mName 3) (m := (mOp fIx (mER (mOp fIx (mVar 0) (mVar 2))) (mVar 3))) (vs := [3]) (E := [.val (.imm (.tuple ((List.range n).map (rowD n G)))), .val (.imm (.tuple (wL p))), .val (.imm (.int (i : Nat))), .no]) (cellP G i) (wL p) (fun d hd => by
      obtain ⟨j, hj, rfl⟩ := List.mem_map.mp hd
      have k1 := tabD_at (G := G) hi
      have k2 := rowD_at (G := G) (i := i) (hl j hj)
      exact ⟨_, _, by simp -implicitDefEqProofs only [FL.v_seq, FL.v_thN, FL.v_thR, FL.v_thB, FL.v_thC, FL.v_ifS, FL.v_asg, FL.v_ret, FL.v_retN, FL.v_drop, FL.v_nx, FL.v_bk, FL.v_ct, FL.v_name, FL.v_pN, FL.v_pV, FL.v_var, FL.v_at, FL.v_trV, FL.v_trP, FL.v_wV, FL.v_wP, FL.v_C, FL.v_ER, FL.v_Fz, FL.v_fO, FL.v_fS, FL.v_fV, FL.v_fP, FL.v_fL, FL.v_vS, FL.v_vO, FL.v_op, FL.v_un, FL.v_bOf, FL.v_test, FL.v_and, FL.v_or, FL.v_not, FL.v_tru, FL.v_trB, FL.v_andV, FL.v_orV, FL.v_notV, FL.v_if, FL.v_chain, FL.v_arN, FL.v_arC, FL.v_faN, FL.v_faC, FL.v_tup, FL.v_lst, FL.v_tdN, FL.v_tdC, FL.v_tdI, FL.v_tdL, FL.toDs_imms, FL.imms_imms, FL.v_cb, FL.v_vsN, FL.v_vsC, FL.v_bm, FL.v_tyS, FL.v_tyL, FL.v_sl, FL.v_moN, FL.v_moS, FL.v_iOf, FL.v_call, FL.v_osO, FL.v_osS, FL.v_isI, FL.v_isL, FL.v_isD, FL.v_gN, FL.v_gO, FL.v_gS, FL.v_for, FL.v_lc, FL.v_sub, FL.v_sub2, FL.v_iAt, FL.v_iC, FL.v_aug, FL.v_par, FL.v_mut, FL.v_rng1, FL.v_rng2, FL.v_seqI, FL.v_enum, FL.v_isi, FL.v_addI, FL.v_addS, FL.v_addT, FL.v_addL, FL.v_subI, FL.v_neg, FL.v_lt, FL.v_le, FL.v_gt, FL.v_ge, FL.v_eqI, FL.v_neI, FL.v_eqS, FL.v_neS, FL.v_ixT, FL.v_ixD, FL.v_ixL, FL.v_ixS, FL.v_len, FL.v_lnT, FL.v_lnD, FL.v_lnL, FL.v_lnS, FL.v_abs, FL.v_max, FL.v_min, FL.v_int, FL.v_intB, FL.v_tuple, FL.v_list, FL.v_sqT, FL.v_sqD, FL.v_sqL, FL.v_itT, FL.v_itL, FL.v_itS, FL.v_isN, FL.v_notN, FL.v_setL, FL.v_setD, FL.v_kS, FL.v_kI, FL.v_mp, FL.v_mpn, FL.v_pO, FL.v_tupG, FL.v_gsC, FL.v_gsN, FL.v_slD, FL.v_at0, FL.v_at1, FL.v_at2, FL.v_i30, FL.v_i31, FL.v_i32, FL.v_Mv, FL.v_mvV, FL.v_pr, FL.v_wpN, FL.v_wpC, FL.v_wsN, FL.v_wsV, FL.v_wsO, FL.v_bkN, FL.v_bkC, FL.v_bsN, FL.v_bsI, FL.v_sf, FL.callD, Option.bind_some, Option.bind_none, List.getElem?_cons_zero, List.getElem?_cons_succ, List.getElem?_nil, List.set_cons_zero, List.set_cons_succ, List.length_cons, List.length_nil, List.filterMap_cons, List.filterMap_nil, decide_eq_true_eq, if_true, if_false, true_and, and_true, Nat.reduceAdd, Nat.reduceLeDiff, Nat.reduceEqDiff, ↓reduceIte, Bool.false_eq_true, FL.startE, FL.backs, List.map_cons, List.map_nil, List.cons_append, List.nil_append, Nat.reduceSub, List.replicate_succ, List.replicate_zero, List.nodup_nil, List.nodup_cons, List.not_mem_nil, not_false_eq_true, and_self, reduceCtorEq, Option.map_some, Option.map_none]; rfl, by simp -implicitDefEqProofs only [FL.v_seq, FL.v_thN, FL.v_thR, FL.v_thB, FL.v_thC, FL.v_ifS, FL.v_asg, FL.v_ret, FL.v_retN, FL.v_drop, FL.v_nx, FL.v_bk, FL.v_ct, FL.v_name, FL.v_pN, FL.v_pV, FL.v_var, FL.v_at, FL.v_trV, FL.v_trP, FL.v_wV, FL.v_wP, FL.v_C, FL.v_ER, FL.v_Fz, FL.v_fO, FL.v_fS, FL.v_fV, FL.v_fP, FL.v_fL, FL.v_vS, FL.v_vO, FL.v_op, FL.v_un, FL.v_bOf, FL.v_test, FL.v_and, FL.v_or, FL.v_not, FL.v_tru, FL.v_trB, FL.v_andV, FL.v_orV, FL.v_notV, FL.v_if, FL.v_chain, FL.v_arN, FL.v_arC, FL.v_faN, FL.v_faC, FL.v_tup, FL.v_lst, FL.v_tdN, FL.v_tdC, FL.v_tdI, FL.v_tdL, FL.toDs_imms, FL.imms_imms, FL.v_cb, FL.v_vsN, FL.v_vsC, FL.v_bm, FL.v_tyS, FL.v_tyL, FL.v_sl, FL.v_moN, FL.v_moS, FL.v_iOf, FL.v_call, FL.v_osO, FL.v_osS, FL.v_isI, FL.v_isL, FL.v_isD, FL.v_gN, FL.v_gO, FL.v_gS, FL.v_for, FL.v_lc, FL.v_sub, FL.v_sub2, FL.v_iAt, FL.v_iC, FL.v_aug, FL.v_par, FL.v_mut, FL.v_rng1, FL.v_rng2, FL.v_seqI, FL.v_enum, FL.v_isi, FL.v_addI, FL.v_addS, FL.v_addT, FL.v_addL, FL.v_subI, FL.v_neg, FL.v_lt, FL.v_le, FL.v_gt, FL.v_ge, FL.v_eqI, FL.v_neI, FL.v_eqS, FL.v_neS, FL.v_ixT, FL.v_ixD, FL.v_ixL, FL.v_ixS, FL.v_len, FL.v_lnT, FL.v_lnD, FL.v_lnL, FL.v_lnS, FL.v_abs, FL.v_max, FL.v_min, FL.v_int, FL.v_intB, FL.v_tuple, FL.v_list, FL.v_sqT, FL.v_sqD, FL.v_sqL, FL.v_itT, FL.v_itL, FL.v_itS, FL.v_isN, FL.v_notN, FL.v_setL, FL.v_setD, FL.v_kS, FL.v_kI, FL.v_mp, FL.v_mpn, FL.v_pO, FL.v_tupG, FL.v_gsC, FL.v_gsN, FL.v_slD, FL.v_at0, FL.v_at1, FL.v_at2, FL.v_i30, FL.v_i31, FL.v_i32, FL.v_Mv, FL.v_mvV, FL.v_pr, FL.v_wpN, FL.v_wpC, FL.v_wsN, FL.v_wsV, FL.v_wsO, FL.v_bkN, FL.v_bkC, FL.v_bsN, FL.v_bsI, FL.v_sf, FL.callD, Option.bind_some, Option.bind_none, List.getElem?_cons_zero, List.getElem?_cons_succ, List.getElem?_nil, List.set_cons_zero, List.set_cons_succ, List.length_cons, List.length_nil, List.filterMap_cons, List.filterMap_nil, decide_eq_true_eq, if_true, if_false, true_and, and_true, Nat.reduceAdd, Nat.reduceLeDiff, Nat.reduceEqDiff, ↓reduceIte, Bool.false_eq_true, FL.startE, FL.backs, List.map_cons, List.map_nil, List.cons_append, List.nil_append, Nat.reduceSub, List.replicate_succ, List.replicate_zero, List.nodup_nil, List.nodup_cons, List.not_mem_nil, not_false_eq_true, and_self, reduceCtorEq, Option.map_some, Option.map_none, k1, k2]; rfl, by simp -implicitDefEqProofs only [FL.v_seq, FL.v_thN, FL.v_thR, FL.v_thB, FL.v_thC, FL.v_ifS, FL.v_asg, FL.v_ret, FL.v_retN, FL.v_drop, FL.v_nx, FL.v_bk, FL.v_ct, FL.v_name, FL.v_pN, FL.v_pV, FL.v_var, FL.v_at, FL.v_trV, FL.v_trP, FL.v_wV, FL.v_wP, FL.v_C, FL.v_ER, FL.v_Fz, FL.v_fO, FL.v_fS, FL.v_fV, FL.v_fP, FL.v_fL, FL.v_vS, FL.v_vO, FL.v_op, FL.v_un, FL.v_bOf, FL.v_test, FL.v_and, FL.v_or, FL.v_not, FL.v_tru, FL.v_trB, FL.v_andV, FL.v_orV, FL.v_notV, FL.v_if, FL.v_chain, FL.v_arN, FL.v_arC, FL.v_faN, FL.v_faC, FL.v_tup, FL.v_lst, FL.v_tdN, FL.v_tdC, FL.v_tdI, FL.v_tdL, FL.toDs_imms, FL.imms_imms, FL.v_cb, FL.v_vsN, FL.v_vsC, FL.v_bm, FL.v_tyS, FL.v_tyL, FL.v_sl, FL.v_moN, FL.v_moS, FL.v_iOf, FL.v_call, FL.v_osO, FL.v_osS, FL.v_isI, FL.v_isL, FL.v_isD, FL.v_gN, FL.v_gO, FL.v_gS, FL.v_for, FL.v_lc, FL.v_sub, FL.v_sub2, FL.v_iAt, FL.v_iC, FL.v_aug, FL.v_par, FL.v_mut, FL.v_rng1, FL.v_rng2, FL.v_seqI, FL.v_enum, FL.v_isi, FL.v_addI, FL.v_addS, FL.v_addT, FL.v_addL, FL.v_subI, FL.v_neg, FL.v_lt, FL.v_le, FL.v_gt, FL.v_ge, FL.v_eqI, FL.v_neI, FL.v_eqS, FL.v_neS, FL.v_ixT, FL.v_ixD, FL.v_ixL, FL.v_ixS, FL.v_len, FL.v_lnT, FL.v_lnD, FL.v_lnL, FL.v_lnS, FL.v_abs, FL.v_max, FL.v_min, FL.v_int, FL.v_intB, FL.v_tuple, FL.v_list, FL.v_sqT, FL.v_sqD, FL.v_sqL, FL.v_itT, FL.v_itL, FL.v_itS, FL.v_isN, FL.v_notN, FL.v_setL, FL.v_setD, FL.v_kS, FL.v_kI, FL.v_mp, FL.v_mpn, FL.v_pO, FL.v_tupG, FL.v_gsC, FL.v_gsN, FL.v_slD, FL.v_at0, FL.v_at1, FL.v_at2, FL.v_i30, FL.v_i31, FL.v_i32, FL.v_Mv, FL.v_mvV, FL.v_pr, FL.v_wpN, FL.v_wpC, FL.v_wsN, FL.v_wsV, FL.v_wsO, FL.v_bkN, FL.v_bkC, FL.v_bsN, FL.v_bsI, FL.v_sf, FL.callD, Option.bind_some, Option.bind_none, List.getElem?_cons_zero, List.getElem?_cons_succ, List.getElem?_nil, List.set_cons_zero, List.set_cons_succ, List.length_cons, List.length_nil, List.filterMap_cons, List.filterMap_nil, decide_eq_true_eq, if_true, if_false, true_and, and_true, Nat.reduceAdd, Nat.reduceLeDiff, Nat.reduceEqDiff, ↓reduceIte, Bool.false_eq_true, FL.startE, FL.backs, List.map_cons, List.map_nil, List.cons_append, List.nil_append, Nat.reduceSub, List.replicate_succ, List.replicate_zero, List.nodup_nil, List.nodup_cons, List.not_mem_nil, not_false_eq_true, and_self, reduceCtorEq, Option.map_some, Option.map_none]⟩) [] (by rw [wL_len]; show 0 + _ ≤ _; omega)
  have e2 : (wL p).map (cellP G i) = (p.map fun j => PyData.int (G i j)).map Tr.imm := by
    unfold wL
    rw [List.map_map, List.map_map]; rfl
  rw [e2, List.nil_append] at e1
  simp -implicitDefEqProofs only [FL.v_seq, FL.v_thN, FL.v_thR, FL.v_thB, FL.v_thC, FL.v_ifS, FL.v_asg, FL.v_ret, FL.v_retN, FL.v_drop, FL.v_nx, FL.v_bk, FL.v_ct, FL.v_name, FL.v_pN, FL.v_pV, FL.v_var, FL.v_at, FL.v_trV, FL.v_trP, FL.v_wV, FL.v_wP, FL.v_C, FL.v_ER, FL.v_Fz, FL.v_fO, FL.v_fS, FL.v_fV, FL.v_fP, FL.v_fL, FL.v_vS, FL.v_vO, FL.v_op, FL.v_un, FL.v_bOf, FL.v_test, FL.v_and, FL.v_or, FL.v_not, FL.v_tru, FL.v_trB, FL.v_andV, FL.v_orV, FL.v_notV, FL.v_if, FL.v_chain, FL.v_arN, FL.v_arC, FL.v_faN, FL.v_faC, FL.v_tup, FL.v_lst, FL.v_tdN, FL.v_tdC, FL.v_tdI, FL.v_tdL, FL.toDs_imms, FL.imms_imms, FL.v_cb, FL.v_vsN, FL.v_vsC, FL.v_bm, FL.v_tyS, FL.v_tyL, FL.v_sl, FL.v_moN, FL.v_moS, FL.v_iOf, FL.v_call, FL.v_osO, FL.v_osS, FL.v_isI, FL.v_isL, FL.v_isD, FL.v_gN, FL.v_gO, FL.v_gS, FL.v_for, FL.v_lc, FL.v_sub, FL.v_sub2, FL.v_iAt, FL.v_iC, FL.v_aug, FL.v_par, FL.v_mut, FL.v_rng1, FL.v_rng2, FL.v_seqI, FL.v_enum, FL.v_isi, FL.v_addI, FL.v_addS, FL.v_addT, FL.v_addL, FL.v_subI, FL.v_neg, FL.v_lt, FL.v_le, FL.v_gt, FL.v_ge, FL.v_eqI, FL.v_neI, FL.v_eqS, FL.v_neS, FL.v_ixT, FL.v_ixD, FL.v_ixL, FL.v_ixS, FL.v_len, FL.v_lnT, FL.v_lnD, FL.v_lnL, FL.v_lnS, FL.v_abs, FL.v_max, FL.v_min, FL.v_int, FL.v_intB, FL.v_tuple, FL.v_list, FL.v_sqT, FL.v_sqD, FL.v_sqL, FL.v_itT, FL.v_itL, FL.v_itS, FL.v_isN, FL.v_notN, FL.v_setL, FL.v_setD, FL.v_kS, FL.v_kI, FL.v_mp, FL.v_mpn, FL.v_pO, FL.v_tupG, FL.v_gsC, FL.v_gsN, FL.v_slD, FL.v_at0, FL.v_at1, FL.v_at2, FL.v_i30, FL.v_i31, FL.v_i32, FL.v_Mv, FL.v_mvV, FL.v_pr, FL.v_wpN, FL.v_wpC, FL.v_wsN, FL.v_wsV, FL.v_wsO, FL.v_bkN, FL.v_bkC, FL.v_bsN, FL.v_bsI, FL.v_sf, FL.callD, Option.bind_some, Option.bind_none, List.getElem?_cons_zero, List.getElem?_cons_succ, List.getElem?_nil, List.set_cons_zero, List.set_cons_succ, List.length_cons, List.length_nil, List.filterMap_cons, List.filterMap_nil, decide_eq_true_eq, if_true, if_false, true_and, and_true, Nat.reduceAdd, Nat.reduceLeDiff, Nat.reduceEqDiff, ↓reduceIte, Bool.false_eq_true, FL.startE, FL.backs, List.map_cons, List.map_nil, List.cons_append, List.nil_append, Nat.reduceSub, List.replicate_succ, List.replicate_zero, List.nodup_nil, List.nodup_cons, List.not_mem_nil, not_false_eq_true, and_self, reduceCtorEq, Option.map_some, Option.map_none, e1]
theorem part_one (n : Nat) (G : Nat → Nat → Int) (p : List Nat) (hl : ∀ x ∈ p, x < n) (hn : p.length ≤ 100) : mFn 4 m_part_table [.imm (tabD n G), .imm (.tuple (wL p))] = some (.imm (tabD p.length (sub G p)), [.imm (tabD n G), .imm (.tuple (wL p))]) := by
  have e1 := lcD_map (g := mName 2) (m := (mCB fTuple (arCons (mER (mLc (mSeqI (mFz (mVar 1))) (mName 3) mYes (mOp fIx (mER (mOp fIx (mVar 0) (mVar 2))) (mVar 3)) [3])) arNil))) (vs := [2]) (E := [.val (.imm (.tuple ((List.range n).map (rowD n G)))), .val (.imm (.tuple (wL p))), .no, .no]) (rowP G p) (wL p) (fun d hd => by
      obtain ⟨i, hi, rfl⟩ := List.mem_map.mp hd
      exact ⟨[.val (.imm (.tuple ((List.range n).map (rowD n G)))), .val (.imm (.tuple (wL p))), .val (.imm (.int (i : Nat))), .no], [.val (.imm (.tuple ((List.range n).map (rowD n G)))), .val (.imm (.tuple (wL p))), .val (.imm (.int (i : Nat))), .no], by simp -implicitDefEqProofs only [FL.v_seq, FL.v_thN, FL.v_thR, FL.v_thB, FL.v_thC, FL.v_ifS, FL.v_asg, FL.v_ret, FL.v_retN, FL.v_drop, FL.v_nx, FL.v_bk, FL.v_ct, FL.v_name, FL.v_pN, FL.v_pV, FL.v_var, FL.v_at, FL.v_trV, FL.v_trP, FL.v_wV, FL.v_wP, FL.v_C, FL.v_ER, FL.v_Fz, FL.v_fO, FL.v_fS, FL.v_fV, FL.v_fP, FL.v_fL, FL.v_vS, FL.v_vO, FL.v_op, FL.v_un, FL.v_bOf, FL.v_test, FL.v_and, FL.v_or, FL.v_not, FL.v_tru, FL.v_trB, FL.v_andV, FL.v_orV, FL.v_notV, FL.v_if, FL.v_chain, FL.v_arN, FL.v_arC, FL.v_faN, FL.v_faC, FL.v_tup, FL.v_lst, FL.v_tdN, FL.v_tdC, FL.v_tdI, FL.v_tdL, FL.toDs_imms, FL.imms_imms, FL.v_cb, FL.v_vsN, FL.v_vsC, FL.v_bm, FL.v_tyS, FL.v_tyL, FL.v_sl, FL.v_moN, FL.v_moS, FL.v_iOf, FL.v_call, FL.v_osO, FL.v_osS, FL.v_isI, FL.v_isL, FL.v_isD, FL.v_gN, FL.v_gO, FL.v_gS, FL.v_for, FL.v_lc, FL.v_sub, FL.v_sub2, FL.v_iAt, FL.v_iC, FL.v_aug, FL.v_par, FL.v_mut, FL.v_rng1, FL.v_rng2, FL.v_seqI, FL.v_enum, FL.v_isi, FL.v_addI, FL.v_addS, FL.v_addT, FL.v_addL, FL.v_subI, FL.v_neg, FL.v_lt, FL.v_le, FL.v_gt, FL.v_ge, FL.v_eqI, FL.v_neI, FL.v_eqS, FL.v_neS, FL.v_ixT, FL.v_ixD, FL.v_ixL, FL.v_ixS, FL.v_len, FL.v_lnT, FL.v_lnD, FL.v_lnL, FL.v_lnS, FL.v_abs, FL.v_max, FL.v_min, FL.v_int, FL.v_intB, FL.v_tuple, FL.v_list, FL.v_sqT, FL.v_sqD, FL.v_sqL, FL.v_itT, FL.v_itL, FL.v_itS, FL.v_isN, FL.v_notN, FL.v_setL, FL.v_setD, FL.v_kS, FL.v_kI, FL.v_mp, FL.v_mpn, FL.v_pO, FL.v_tupG, FL.v_gsC, FL.v_gsN, FL.v_slD, FL.v_at0, FL.v_at1, FL.v_at2, FL.v_i30, FL.v_i31, FL.v_i32, FL.v_Mv, FL.v_mvV, FL.v_pr, FL.v_wpN, FL.v_wpC, FL.v_wsN, FL.v_wsV, FL.v_wsO, FL.v_bkN, FL.v_bkC, FL.v_bsN, FL.v_bsI, FL.v_sf, FL.callD, Option.bind_some, Option.bind_none, List.getElem?_cons_zero, List.getElem?_cons_succ, List.getElem?_nil, List.set_cons_zero, List.set_cons_succ, List.length_cons, List.length_nil, List.filterMap_cons, List.filterMap_nil, decide_eq_true_eq, if_true, if_false, true_and, and_true, Nat.reduceAdd, Nat.reduceLeDiff, Nat.reduceEqDiff, ↓reduceIte, Bool.false_eq_true, FL.startE, FL.backs, List.map_cons, List.map_nil, List.cons_append, List.nil_append, Nat.reduceSub, List.replicate_succ, List.replicate_zero, List.nodup_nil, List.nodup_cons, List.not_mem_nil, not_false_eq_true, and_self, reduceCtorEq, Option.map_some, Option.map_none], part_row n G p hl hn i (hl i hi), by simp -implicitDefEqProofs only [FL.v_seq, FL.v_thN, FL.v_thR, FL.v_thB, FL.v_thC, FL.v_ifS, FL.v_asg, FL.v_ret, FL.v_retN, FL.v_drop, FL.v_nx, FL.v_bk, FL.v_ct, FL.v_name, FL.v_pN, FL.v_pV, FL.v_var, FL.v_at, FL.v_trV, FL.v_trP, FL.v_wV, FL.v_wP, FL.v_C, FL.v_ER, FL.v_Fz, FL.v_fO, FL.v_fS, FL.v_fV, FL.v_fP, FL.v_fL, FL.v_vS, FL.v_vO, FL.v_op, FL.v_un, FL.v_bOf, FL.v_test, FL.v_and, FL.v_or, FL.v_not, FL.v_tru, FL.v_trB, FL.v_andV, FL.v_orV, FL.v_notV, FL.v_if, FL.v_chain, FL.v_arN, FL.v_arC, FL.v_faN, FL.v_faC, FL.v_tup, FL.v_lst, FL.v_tdN, FL.v_tdC, FL.v_tdI, FL.v_tdL, FL.toDs_imms, FL.imms_imms, FL.v_cb, FL.v_vsN, FL.v_vsC, FL.v_bm, FL.v_tyS, FL.v_tyL, FL.v_sl, FL.v_moN, FL.v_moS, FL.v_iOf, FL.v_call, FL.v_osO, FL.v_osS, FL.v_isI, FL.v_isL, FL.v_isD, FL.v_gN, FL.v_gO, FL.v_gS, FL.v_for, FL.v_lc, FL.v_sub, FL.v_sub2, FL.v_iAt, FL.v_iC, FL.v_aug, FL.v_par, FL.v_mut, FL.v_rng1, FL.v_rng2, FL.v_seqI, FL.v_enum, FL.v_isi, FL.v_addI, FL.v_addS, FL.v_addT, FL.v_addL, FL.v_subI, FL.v_neg, FL.v_lt, FL.v_le, FL.v_gt, FL.v_ge, FL.v_eqI, FL.v_neI, FL.v_eqS, FL.v_neS, FL.v_ixT, FL.v_ixD, FL.v_ixL, FL.v_ixS, FL.v_len, FL.v_lnT, FL.v_lnD, FL.v_lnL, FL.v_lnS, FL.v_abs, FL.v_max, FL.v_min, FL.v_int, FL.v_intB, FL.v_tuple, FL.v_list, FL.v_sqT, FL.v_sqD, FL.v_sqL, FL.v_itT, FL.v_itL, FL.v_itS, FL.v_isN, FL.v_notN, FL.v_setL, FL.v_setD, FL.v_kS, FL.v_kI, FL.v_mp, FL.v_mpn, FL.v_pO, FL.v_tupG, FL.v_gsC, FL.v_gsN, FL.v_slD, FL.v_at0, FL.v_at1, FL.v_at2, FL.v_i30, FL.v_i31, FL.v_i32, FL.v_Mv, FL.v_mvV, FL.v_pr, FL.v_wpN, FL.v_wpC, FL.v_wsN, FL.v_wsV, FL.v_wsO, FL.v_bkN, FL.v_bkC, FL.v_bsN, FL.v_bsI, FL.v_sf, FL.callD, Option.bind_some, Option.bind_none, List.getElem?_cons_zero, List.getElem?_cons_succ, List.getElem?_nil, List.set_cons_zero, List.set_cons_succ, List.length_cons, List.length_nil, List.filterMap_cons, List.filterMap_nil, decide_eq_true_eq, if_true, if_false, true_and, and_true, Nat.reduceAdd, Nat.reduceLeDiff, Nat.reduceEqDiff, ↓reduceIte, Bool.false_eq_true, FL.startE, FL.backs, List.map_cons, List.map_nil, List.cons_append, List.nil_append, Nat.reduceSub, List.replicate_succ, List.replicate_zero, List.nodup_nil, List.nodup_cons, List.not_mem_nil, not_false_eq_true, and_self, reduceCtorEq, Option.map_some, Option.map_none]⟩) [] (by rw [wL_len]; show 0 + _ ≤ _; omega)
  have e2 : (wL p).map (rowP G p) = (p.map fun i => PyData.tuple (p.map fun j => PyData.int (G i j))).map Tr.imm := by
    unfold wL
    rw [List.map_map, List.map_map]; rfl
  rw [e2, List.nil_append] at e1
  rw [sub_tab, tab_is]
  rw [v_fn]
  unfold m_part_table
  simp -implicitDefEqProofs only [FL.v_seq, FL.v_thN, FL.v_thR, FL.v_thB, FL.v_thC, FL.v_ifS, FL.v_asg, FL.v_ret, FL.v_retN, FL.v_drop, FL.v_nx, FL.v_bk, FL.v_ct, FL.v_name, FL.v_pN, FL.v_pV, FL.v_var, FL.v_at, FL.v_trV, FL.v_trP, FL.v_wV, FL.v_wP, FL.v_C, FL.v_ER, FL.v_Fz, FL.v_fO, FL.v_fS, FL.v_fV, FL.v_fP, FL.v_fL, FL.v_vS, FL.v_vO, FL.v_op, FL.v_un, FL.v_bOf, FL.v_test, FL.v_and, FL.v_or, FL.v_not, FL.v_tru, FL.v_trB, FL.v_andV, FL.v_orV, FL.v_notV, FL.v_if, FL.v_chain, FL.v_arN, FL.v_arC, FL.v_faN, FL.v_faC, FL.v_tup, FL.v_lst, FL.v_tdN, FL.v_tdC, FL.v_tdI, FL.v_tdL, FL.toDs_imms, FL.imms_imms, FL.v_cb, FL.v_vsN, FL.v_vsC, FL.v_bm, FL.v_tyS, FL.v_tyL, FL.v_sl, FL.v_moN, FL.v_moS, FL.v_iOf, FL.v_call, FL.v_osO, FL.v_osS, FL.v_isI, FL.v_isL, FL.v_isD, FL.v_gN, FL.v_gO, FL.v_gS, FL.v_for, FL.v_lc, FL.v_sub, FL.v_sub2, FL.v_iAt, FL.v_iC, FL.v_aug, FL.v_par, FL.v_mut, FL.v_rng1, FL.v_rng2, FL.v_seqI, FL.v_enum, FL.v_isi, FL.v_addI, FL.v_addS, FL.v_addT, FL.v_addL, FL.v_subI, FL.v_neg, FL.v_lt, FL.v_le, FL.v_gt, FL.v_ge, FL.v_eqI, FL.v_neI, FL.v_eqS, FL.v_neS, FL.v_ixT, FL.v_ixD, FL.v_ixL, FL.v_ixS, FL.v_len, FL.v_lnT, FL.v_lnD, FL.v_lnL, FL.v_lnS, FL.v_abs, FL.v_max, FL.v_min, FL.v_int, FL.v_intB, FL.v_tuple, FL.v_list, FL.v_sqT, FL.v_sqD, FL.v_sqL, FL.v_itT, FL.v_itL, FL.v_itS, FL.v_isN, FL.v_notN, FL.v_setL, FL.v_setD, FL.v_kS, FL.v_kI, FL.v_mp, FL.v_mpn, FL.v_pO, FL.v_tupG, FL.v_gsC, FL.v_gsN, FL.v_slD, FL.v_at0, FL.v_at1, FL.v_at2, FL.v_i30, FL.v_i31, FL.v_i32, FL.v_Mv, FL.v_mvV, FL.v_pr, FL.v_wpN, FL.v_wpC, FL.v_wsN, FL.v_wsV, FL.v_wsO, FL.v_bkN, FL.v_bkC, FL.v_bsN, FL.v_bsI, FL.v_sf, FL.callD, Option.bind_some, Option.bind_none, List.getElem?_cons_zero, List.getElem?_cons_succ, List.getElem?_nil, List.set_cons_zero, List.set_cons_succ, List.length_cons, List.length_nil, List.filterMap_cons, List.filterMap_nil, decide_eq_true_eq, if_true, if_false, true_and, and_true, Nat.reduceAdd, Nat.reduceLeDiff, Nat.reduceEqDiff, ↓reduceIte, Bool.false_eq_true, FL.startE, FL.backs, List.map_cons, List.map_nil, List.cons_append, List.nil_append, Nat.reduceSub, List.replicate_succ, List.replicate_zero, List.nodup_nil, List.nodup_cons, List.not_mem_nil, not_false_eq_true, and_self, reduceCtorEq, Option.map_some, Option.map_none, e1]
theorem lcD_test {g : Tr → En → Option En} {mt : MT} {m : MF} {vs : List Nat} (I : Nat → En → Prop) (ds : List PyData) (h : ∀ i d E, ds[i]? = some d → I i E → ∃ E1 E2 E3 b, g (.imm d) E = some E1 ∧ mt E1 = some (b, E2) ∧ m E2 = some (.imm d, E2) ∧ wipeE E2 vs = some E3 ∧ I (i + 1) E3) :
    ∀ (acc : List Tr) E, acc.length + ds.length ≤ 16777216 → I 0 E → ∃ (rs : List PyData) (E' : En), lcD g mt m vs ds acc E = some (acc ++ rs.map Tr.imm, E') ∧ I ds.length E' ∧ rs.Sublist ds := by
  induction ds generalizing I with
  | nil => exact fun acc E _ h0 => ⟨[], E, by simp [lcD], h0, List.Sublist.slnil⟩
  | cons d ds ih =>
    intro acc E hl h0
    simp only [List.length_cons] at hl
    obtain ⟨E1, E2, E3, b, e1, e2, e3, e4, h1⟩ := h 0 d E rfl h0
    cases b with
    | true =>
      obtain ⟨rs, E', e5, h3, h4⟩ := ih (fun i => I (i + 1)) (fun i d E e k => h (i + 1) d E (by simpa using e) k) (acc ++ [.imm d]) E3 (by simp; omega) h1
      refine ⟨d :: rs, E', ?_, h3, h4.cons₂ d⟩
      rw [lcD, e1]
      simp only [Option.bind_some, e2, if_true, e3]
      rw [if_pos (by omega), e4]
      simp only [Option.bind_some]
      rw [e5]
      simp
    | false =>
      obtain ⟨rs, E', e5, h3, h4⟩ := ih (fun i => I (i + 1)) (fun i d E e k => h (i + 1) d E (by simpa using e) k) acc E3 (by omega) h1
      refine ⟨rs, E', ?_, h3, h4.cons d⟩
      rw [lcD, e1]
      simp only [Option.bind_some, e2, Bool.false_eq_true, if_false, e4]
      exact e5
theorem sub_wL : ∀ (l : List Nat) (rs : List PyData), rs.Sublist (wL l) → ∃ p : List Nat, rs = wL p ∧ p.Sublist l
  | [], rs, h => ⟨[], List.sublist_nil.mp h, List.Sublist.slnil⟩
  | w :: l, rs, h => by
    unfold wL at h
    rw [List.map_cons] at h
    cases h with
    | cons _ h =>
      obtain ⟨p, e, hp⟩ := sub_wL l _ h
      exact ⟨p, e, hp.cons w⟩
    | cons_cons _ h =>
      obtain ⟨p, e, hp⟩ := sub_wL l _ h
      exact ⟨w :: p, by rw [e]; rfl, hp.cons₂ w⟩
theorem at3 {a b c : Tr} {r : Int} (h0 : 0 ≤ r) (h1 : r < 3) : ∃ x, atI [a, b, c] r = some x ∧ (x = a ∨ x = b ∨ x = c) := by
  obtain ⟨x, e1, e2⟩ := atI_ofint (xs := [a, b, c]) h0 h1
  have hm := List.mem_of_getElem? e2
  simp only [List.mem_cons, List.not_mem_nil, or_false] at hm
  exact ⟨x, e1, hm⟩
theorem range_wL (n : Nat) : rangeD 0 n = wL (List.range n) := by
  unfold rangeD wL
  refine List.map_congr_left fun i _ => ?_
  rw [Int.zero_add]
theorem body_ok (sc : Tr) (k : Int) (s3 s4 : Option Tr) (t : Tr) (N : Int) (hN : N < 2 ^ 36) (ht0 : Hd t N) :
    ∃ t' s3' s4', (mSeq (mAsg (mCall 2 (mFn 8 m__law_table) (arCons (mVar 1) (arCons (mER (mOp fIx (mER (mLst (faCons (mCall 2 (mFn 4 m__law_take) (arCons (mVar 1) (arCons (mER (mC (.int 9))) arNil))) (faCons (mC (.int 7)) (faCons (mC (.int 8)) faNil))))) (mER (mCall 2 (mFn 4 m__law_take) (arCons (mVar 1) (arCons (mER (mC (.int 3))) arNil)))))) arNil))) (mName 3))     (mSeq (mAsg (mCB fTuple (arCons (mER (mLc (mRng1 (arCons (mER (mCB fLen (arCons (mVar 3) arNil))) arNil)) (mName 5) (mTest (mOp fGt (mER (mCall 2 (mFn 4 m__law_take) (arCons (mVar 1) (arCons (mER (mC (.int 3))) arNil)))) (mER (mC (.int 0))))) (mFz (mVar 5)) [5])) arNil)) (mName 4))     (mIfS (mOr (mNot (mTru (mER (mCall 1 (mFn 2 m__law_right) (arCons (mVar 3) arNil))))) (mNot (mTru (mER (mCall 1 (mFn 2 m__law_right) (arCons (mER (mCall 2 (mFn 4 m_part_table) (arCons (mVar 3) (arCons (mVar 4) arNil)))) arNil)))))) (mRet (mC (.bool false))) mNext))) [.val sc, .val t, .val (.imm (.int k)), ov s3, ov s4, .no] = some (.nx [.val sc, .val t', .val (.imm (.int k)), ov s3', ov s4', .no]) ∧ Hd t' (N + 200) := by
  obtain ⟨r, t1, e1, a1, b1, h1⟩ := take_hd ht0 (by omega) 9 (by decide) (by decide)
  obtain ⟨q, t2, e2, a2, b2, h2⟩ := take_hd h1 (by omega) 3 (by decide) (by decide)
  obtain ⟨x, e3, hx⟩ := at3 (a := .imm (.int r)) (b := .imm (.int 7)) (c := .imm (.int 8)) a2 b2
  have hx2 : ∃ n : Nat, n ≤ 8 ∧ x = .imm (.int (n : Nat)) := by
    rcases hx with rfl | rfl | rfl
    · exact ⟨r.toNat, by omega, by rw [Int.toNat_of_nonneg a1]⟩
    · exact ⟨7, by decide, rfl⟩
    · exact ⟨8, by decide, rfl⟩
  obtain ⟨n, hn, rfl⟩ := hx2
  obtain ⟨t3, G, e4, h3, hG⟩ := table_one n hn t2 (N + 2) (by omega) (h2.le (by omega))
  have hr := fun E => v_rgN (n := n) (by omega) (E := E)
  obtain ⟨rs, E', e5, ⟨t4, rfl, h4⟩, hs⟩ := lcD_test (g := mName 5) (mt := (mTest (mOp fGt (mER (mCall 2 (mFn 4 m__law_take) (arCons (mVar 1) (arCons (mER (mC (.int 3))) arNil)))) (mER (mC (.int 0)))))) (m := mFz (mVar 5)) (vs := [5])
    (fun i E => ∃ t', E = [.val sc, .val t', .val (.imm (.int k)), .val (.imm (tabD n G)), ov s4, .no] ∧ Hd t' (N + 83 + i)) (rangeD 0 n)
    (fun i d E hi ⟨t', hE, h0⟩ => by
      obtain ⟨hin, rfl⟩ := rangeD_at hi
      obtain ⟨q, t5, e6, q0, q1, h5⟩ := take_hd h0 (by omega) 3 (by decide) (by decide)
      obtain ⟨x1, x2, x3, rfl⟩ := h0.lst
      refine ⟨[.val sc, .val (.lst [x1, x2, x3]), .val (.imm (.int k)), .val (.imm (tabD n G)), ov s4, .val (.imm (.int (0 + (i : Nat))))], [.val sc, .val t5, .val (.imm (.int k)), .val (.imm (tabD n G)), ov s4, .val (.imm (.int (0 + (i : Nat))))], [.val sc, .val t5, .val (.imm (.int k)), .val (.imm (tabD n G)), ov s4, .no], decide (0 < q), ?_, ?_, ?_, ?_, t5, rfl, h5.le (by omega)⟩
      · rw [hE]; simp -implicitDefEqProofs only [FL.v_seq, FL.v_thN, FL.v_thR, FL.v_thB, FL.v_thC, FL.v_ifS, FL.v_asg, FL.v_ret, FL.v_retN, FL.v_drop, FL.v_nx, FL.v_bk, FL.v_ct, FL.v_name, FL.v_pN, FL.v_pV, FL.v_var, FL.v_at, FL.v_trV, FL.v_trP, FL.v_wV, FL.v_wP, FL.v_C, FL.v_ER, FL.v_Fz, FL.v_fO, FL.v_fS, FL.v_fV, FL.v_fP, FL.v_fL, FL.v_vS, FL.v_vO, FL.v_op, FL.v_un, FL.v_bOf, FL.v_test, FL.v_and, FL.v_or, FL.v_not, FL.v_tru, FL.v_trB, FL.v_andV, FL.v_orV, FL.v_notV, FL.v_if, FL.v_chain, FL.v_arN, FL.v_arC, FL.v_faN, FL.v_faC, FL.v_tup, FL.v_lst, FL.v_tdN, FL.v_tdC, FL.v_tdI, FL.v_tdL, FL.toDs_imms, FL.imms_imms, FL.v_cb, FL.v_vsN, FL.v_vsC, FL.v_bm, FL.v_tyS, FL.v_tyL, FL.v_sl, FL.v_moN, FL.v_moS, FL.v_iOf, FL.v_call, FL.v_osO, FL.v_osS, FL.v_isI, FL.v_isL, FL.v_isD, FL.v_gN, FL.v_gO, FL.v_gS, FL.v_for, FL.v_lc, FL.v_sub, FL.v_sub2, FL.v_iAt, FL.v_iC, FL.v_aug, FL.v_par, FL.v_mut, FL.v_rng1, FL.v_rng2, FL.v_seqI, FL.v_enum, FL.v_isi, FL.v_addI, FL.v_addS, FL.v_addT, FL.v_addL, FL.v_subI, FL.v_neg, FL.v_lt, FL.v_le, FL.v_gt, FL.v_ge, FL.v_eqI, FL.v_neI, FL.v_eqS, FL.v_neS, FL.v_ixT, FL.v_ixD, FL.v_ixL, FL.v_ixS, FL.v_len, FL.v_lnT, FL.v_lnD, FL.v_lnL, FL.v_lnS, FL.v_abs, FL.v_max, FL.v_min, FL.v_int, FL.v_intB, FL.v_tuple, FL.v_list, FL.v_sqT, FL.v_sqD, FL.v_sqL, FL.v_itT, FL.v_itL, FL.v_itS, FL.v_isN, FL.v_notN, FL.v_setL, FL.v_setD, FL.v_kS, FL.v_kI, FL.v_mp, FL.v_mpn, FL.v_pO, FL.v_tupG, FL.v_gsC, FL.v_gsN, FL.v_slD, FL.v_at0, FL.v_at1, FL.v_at2, FL.v_i30, FL.v_i31, FL.v_i32, FL.v_Mv, FL.v_mvV, FL.v_pr, FL.v_wpN, FL.v_wpC, FL.v_wsN, FL.v_wsV, FL.v_wsO, FL.v_bkN, FL.v_bkC, FL.v_bsN, FL.v_bsI, FL.v_sf, FL.callD, Option.bind_some, Option.bind_none, List.getElem?_cons_zero, List.getElem?_cons_succ, List.getElem?_nil, List.set_cons_zero, List.set_cons_succ, List.length_cons, List.length_nil, List.filterMap_cons, List.filterMap_nil, decide_eq_true_eq, if_true, if_false, true_and, and_true, Nat.reduceAdd, Nat.reduceLeDiff, Nat.reduceEqDiff, ↓reduceIte, Bool.false_eq_true, FL.startE, FL.backs, List.map_cons, List.map_nil, List.cons_append, List.nil_append, Nat.reduceSub, List.replicate_succ, List.replicate_zero, List.nodup_nil, List.nodup_cons, List.not_mem_nil, not_false_eq_true, and_self, reduceCtorEq, Option.map_some, Option.map_none]
      · simp -implicitDefEqProofs only [FL.v_seq, FL.v_thN, FL.v_thR, FL.v_thB, FL.v_thC, FL.v_ifS, FL.v_asg, FL.v_ret, FL.v_retN, FL.v_drop, FL.v_nx, FL.v_bk, FL.v_ct, FL.v_name, FL.v_pN, FL.v_pV, FL.v_var, FL.v_at, FL.v_trV, FL.v_trP, FL.v_wV, FL.v_wP, FL.v_C, FL.v_ER, FL.v_Fz, FL.v_fO, FL.v_fS, FL.v_fV, FL.v_fP, FL.v_fL, FL.v_vS, FL.v_vO, FL.v_op, FL.v_un, FL.v_bOf, FL.v_test, FL.v_and, FL.v_or, FL.v_not, FL.v_tru, FL.v_trB, FL.v_andV, FL.v_orV, FL.v_notV, FL.v_if, FL.v_chain, FL.v_arN, FL.v_arC, FL.v_faN, FL.v_faC, FL.v_tup, FL.v_lst, FL.v_tdN, FL.v_tdC, FL.v_tdI, FL.v_tdL, FL.toDs_imms, FL.imms_imms, FL.v_cb, FL.v_vsN, FL.v_vsC, FL.v_bm, FL.v_tyS, FL.v_tyL, FL.v_sl, FL.v_moN, FL.v_moS, FL.v_iOf, FL.v_call, FL.v_osO, FL.v_osS, FL.v_isI, FL.v_isL, FL.v_isD, FL.v_gN, FL.v_gO, FL.v_gS, FL.v_for, FL.v_lc, FL.v_sub, FL.v_sub2, FL.v_iAt, FL.v_iC, FL.v_aug, FL.v_par, FL.v_mut, FL.v_rng1, FL.v_rng2, FL.v_seqI, FL.v_enum, FL.v_isi, FL.v_addI, FL.v_addS, FL.v_addT, FL.v_addL, FL.v_subI, FL.v_neg, FL.v_lt, FL.v_le, FL.v_gt, FL.v_ge, FL.v_eqI, FL.v_neI, FL.v_eqS, FL.v_neS, FL.v_ixT, FL.v_ixD, FL.v_ixL, FL.v_ixS, FL.v_len, FL.v_lnT, FL.v_lnD, FL.v_lnL, FL.v_lnS, FL.v_abs, FL.v_max, FL.v_min, FL.v_int, FL.v_intB, FL.v_tuple, FL.v_list, FL.v_sqT, FL.v_sqD, FL.v_sqL, FL.v_itT, FL.v_itL, FL.v_itS, FL.v_isN, FL.v_notN, FL.v_setL, FL.v_setD, FL.v_kS, FL.v_kI, FL.v_mp, FL.v_mpn, FL.v_pO, FL.v_tupG, FL.v_gsC, FL.v_gsN, FL.v_slD, FL.v_at0, FL.v_at1, FL.v_at2, FL.v_i30, FL.v_i31, FL.v_i32, FL.v_Mv, FL.v_mvV, FL.v_pr, FL.v_wpN, FL.v_wpC, FL.v_wsN, FL.v_wsV, FL.v_wsO, FL.v_bkN, FL.v_bkC, FL.v_bsN, FL.v_bsI, FL.v_sf, FL.callD, Option.bind_some, Option.bind_none, List.getElem?_cons_zero, List.getElem?_cons_succ, List.getElem?_nil, List.set_cons_zero, List.set_cons_succ, List.length_cons, List.length_nil, List.filterMap_cons, List.filterMap_nil, decide_eq_true_eq, if_true, if_false, true_and, and_true, Nat.reduceAdd, Nat.reduceLeDiff, Nat.reduceEqDiff, ↓reduceIte, Bool.false_eq_true, FL.startE, FL.backs, List.map_cons, List.map_nil, List.cons_append, List.nil_append, Nat.reduceSub, List.replicate_succ, List.replicate_zero, List.nodup_nil, List.nodup_cons, List.not_mem_nil, not_false_eq_true, and_self, reduceCtorEq, Option.map_some, Option.map_none, e6]
      · simp -implicitDefEqProofs only [FL.v_seq, FL.v_thN, FL.v_thR, FL.v_thB, FL.v_thC, FL.v_ifS, FL.v_asg, FL.v_ret, FL.v_retN, FL.v_drop, FL.v_nx, FL.v_bk, FL.v_ct, FL.v_name, FL.v_pN, FL.v_pV, FL.v_var, FL.v_at, FL.v_trV, FL.v_trP, FL.v_wV, FL.v_wP, FL.v_C, FL.v_ER, FL.v_Fz, FL.v_fO, FL.v_fS, FL.v_fV, FL.v_fP, FL.v_fL, FL.v_vS, FL.v_vO, FL.v_op, FL.v_un, FL.v_bOf, FL.v_test, FL.v_and, FL.v_or, FL.v_not, FL.v_tru, FL.v_trB, FL.v_andV, FL.v_orV, FL.v_notV, FL.v_if, FL.v_chain, FL.v_arN, FL.v_arC, FL.v_faN, FL.v_faC, FL.v_tup, FL.v_lst, FL.v_tdN, FL.v_tdC, FL.v_tdI, FL.v_tdL, FL.toDs_imms, FL.imms_imms, FL.v_cb, FL.v_vsN, FL.v_vsC, FL.v_bm, FL.v_tyS, FL.v_tyL, FL.v_sl, FL.v_moN, FL.v_moS, FL.v_iOf, FL.v_call, FL.v_osO, FL.v_osS, FL.v_isI, FL.v_isL, FL.v_isD, FL.v_gN, FL.v_gO, FL.v_gS, FL.v_for, FL.v_lc, FL.v_sub, FL.v_sub2, FL.v_iAt, FL.v_iC, FL.v_aug, FL.v_par, FL.v_mut, FL.v_rng1, FL.v_rng2, FL.v_seqI, FL.v_enum, FL.v_isi, FL.v_addI, FL.v_addS, FL.v_addT, FL.v_addL, FL.v_subI, FL.v_neg, FL.v_lt, FL.v_le, FL.v_gt, FL.v_ge, FL.v_eqI, FL.v_neI, FL.v_eqS, FL.v_neS, FL.v_ixT, FL.v_ixD, FL.v_ixL, FL.v_ixS, FL.v_len, FL.v_lnT, FL.v_lnD, FL.v_lnL, FL.v_lnS, FL.v_abs, FL.v_max, FL.v_min, FL.v_int, FL.v_intB, FL.v_tuple, FL.v_list, FL.v_sqT, FL.v_sqD, FL.v_sqL, FL.v_itT, FL.v_itL, FL.v_itS, FL.v_isN, FL.v_notN, FL.v_setL, FL.v_setD, FL.v_kS, FL.v_kI, FL.v_mp, FL.v_mpn, FL.v_pO, FL.v_tupG, FL.v_gsC, FL.v_gsN, FL.v_slD, FL.v_at0, FL.v_at1, FL.v_at2, FL.v_i30, FL.v_i31, FL.v_i32, FL.v_Mv, FL.v_mvV, FL.v_pr, FL.v_wpN, FL.v_wpC, FL.v_wsN, FL.v_wsV, FL.v_wsO, FL.v_bkN, FL.v_bkC, FL.v_bsN, FL.v_bsI, FL.v_sf, FL.callD, Option.bind_some, Option.bind_none, List.getElem?_cons_zero, List.getElem?_cons_succ, List.getElem?_nil, List.set_cons_zero, List.set_cons_succ, List.length_cons, List.length_nil, List.filterMap_cons, List.filterMap_nil, decide_eq_true_eq, if_true, if_false, true_and, and_true, Nat.reduceAdd, Nat.reduceLeDiff, Nat.reduceEqDiff, ↓reduceIte, Bool.false_eq_true, FL.startE, FL.backs, List.map_cons, List.map_nil, List.cons_append, List.nil_append, Nat.reduceSub, List.replicate_succ, List.replicate_zero, List.nodup_nil, List.nodup_cons, List.not_mem_nil, not_false_eq_true, and_self, reduceCtorEq, Option.map_some, Option.map_none]
      · simp -implicitDefEqProofs only [FL.v_seq, FL.v_thN, FL.v_thR, FL.v_thB, FL.v_thC, FL.v_ifS, FL.v_asg, FL.v_ret, FL.v_retN, FL.v_drop, FL.v_nx, FL.v_bk, FL.v_ct, FL.v_name, FL.v_pN, FL.v_pV, FL.v_var, FL.v_at, FL.v_trV, FL.v_trP, FL.v_wV, FL.v_wP, FL.v_C, FL.v_ER, FL.v_Fz, FL.v_fO, FL.v_fS, FL.v_fV, FL.v_fP, FL.v_fL, FL.v_vS, FL.v_vO, FL.v_op, FL.v_un, FL.v_bOf, FL.v_test, FL.v_and, FL.v_or, FL.v_not, FL.v_tru, FL.v_trB, FL.v_andV, FL.v_orV, FL.v_notV, FL.v_if, FL.v_chain, FL.v_arN, FL.v_arC, FL.v_faN, FL.v_faC, FL.v_tup, FL.v_lst, FL.v_tdN, FL.v_tdC, FL.v_tdI, FL.v_tdL, FL.toDs_imms, FL.imms_imms, FL.v_cb, FL.v_vsN, FL.v_vsC, FL.v_bm, FL.v_tyS, FL.v_tyL, FL.v_sl, FL.v_moN, FL.v_moS, FL.v_iOf, FL.v_call, FL.v_osO, FL.v_osS, FL.v_isI, FL.v_isL, FL.v_isD, FL.v_gN, FL.v_gO, FL.v_gS, FL.v_for, FL.v_lc, FL.v_sub, FL.v_sub2, FL.v_iAt, FL.v_iC, FL.v_aug, FL.v_par, FL.v_mut, FL.v_rng1, FL.v_rng2, FL.v_seqI, FL.v_enum, FL.v_isi, FL.v_addI, FL.v_addS, FL.v_addT, FL.v_addL, FL.v_subI, FL.v_neg, FL.v_lt, FL.v_le, FL.v_gt, FL.v_ge, FL.v_eqI, FL.v_neI, FL.v_eqS, FL.v_neS, FL.v_ixT, FL.v_ixD, FL.v_ixL, FL.v_ixS, FL.v_len, FL.v_lnT, FL.v_lnD, FL.v_lnL, FL.v_lnS, FL.v_abs, FL.v_max, FL.v_min, FL.v_int, FL.v_intB, FL.v_tuple, FL.v_list, FL.v_sqT, FL.v_sqD, FL.v_sqL, FL.v_itT, FL.v_itL, FL.v_itS, FL.v_isN, FL.v_notN, FL.v_setL, FL.v_setD, FL.v_kS, FL.v_kI, FL.v_mp, FL.v_mpn, FL.v_pO, FL.v_tupG, FL.v_gsC, FL.v_gsN, FL.v_slD, FL.v_at0, FL.v_at1, FL.v_at2, FL.v_i30, FL.v_i31, FL.v_i32, FL.v_Mv, FL.v_mvV, FL.v_pr, FL.v_wpN, FL.v_wpC, FL.v_wsN, FL.v_wsV, FL.v_wsO, FL.v_bkN, FL.v_bkC, FL.v_bsN, FL.v_bsI, FL.v_sf, FL.callD, Option.bind_some, Option.bind_none, List.getElem?_cons_zero, List.getElem?_cons_succ, List.getElem?_nil, List.set_cons_zero, List.set_cons_succ, List.length_cons, List.length_nil, List.filterMap_cons, List.filterMap_nil, decide_eq_true_eq, if_true, if_false, true_and, and_true, Nat.reduceAdd, Nat.reduceLeDiff, Nat.reduceEqDiff, ↓reduceIte, Bool.false_eq_true, FL.startE, FL.backs, List.map_cons, List.map_nil, List.cons_append, List.nil_append, Nat.reduceSub, List.replicate_succ, List.replicate_zero, List.nodup_nil, List.nodup_cons, List.not_mem_nil, not_false_eq_true, and_self, reduceCtorEq, Option.map_some, Option.map_none])
    [] [.val sc, .val t3, .val (.imm (.int k)), .val (.imm (tabD n G)), ov s4, .no] (by rw [rangeD_len]; show 0 + n ≤ _; omega) ⟨t3, rfl, h3.le (by omega)⟩
  rw [rangeD_len] at h4
  rw [range_wL] at hs
  obtain ⟨p, rfl, hp⟩ := sub_wL _ _ hs
  have hpl : p.length ≤ n := by have := hp.length_le; simpa using this
  have hpn : p.Nodup := List.Nodup.sublist hp List.nodup_range
  have hpm : ∀ x ∈ p, x < n := fun x hx => List.mem_range.mp (hp.subset hx)
  have k1 := right_one n hn G hG
  have k2 := part_one n G p hpm (by omega)
  have k3 := right_one p.length (by omega) (sub G p) (sub_sq hG hpn hpm)
  obtain ⟨x1, x2, x3, rfl⟩ := ht0.lst
  obtain ⟨y1, y2, y3, rfl⟩ := h1.lst
  obtain ⟨z1, z2, z3, rfl⟩ := h2.lst
  obtain ⟨w1, w2, w3, rfl⟩ := h3.lst
  obtain ⟨v1, v2, v3, rfl⟩ := h4.lst
  rw [tab_is] at e4 e5 k1 k2
  rw [List.nil_append] at e5
  refine ⟨_, some (.imm (tabD n G)), some (.imm (.tuple (wL p))), ?_, h4.le (by omega)⟩
  rw [tab_is]
  simp -implicitDefEqProofs only [FL.v_seq, FL.v_thN, FL.v_thR, FL.v_thB, FL.v_thC, FL.v_ifS, FL.v_asg, FL.v_ret, FL.v_retN, FL.v_drop, FL.v_nx, FL.v_bk, FL.v_ct, FL.v_name, FL.v_pN, FL.v_pV, FL.v_var, FL.v_at, FL.v_trV, FL.v_trP, FL.v_wV, FL.v_wP, FL.v_C, FL.v_ER, FL.v_Fz, FL.v_fO, FL.v_fS, FL.v_fV, FL.v_fP, FL.v_fL, FL.v_vS, FL.v_vO, FL.v_op, FL.v_un, FL.v_bOf, FL.v_test, FL.v_and, FL.v_or, FL.v_not, FL.v_tru, FL.v_trB, FL.v_andV, FL.v_orV, FL.v_notV, FL.v_if, FL.v_chain, FL.v_arN, FL.v_arC, FL.v_faN, FL.v_faC, FL.v_tup, FL.v_lst, FL.v_tdN, FL.v_tdC, FL.v_tdI, FL.v_tdL, FL.toDs_imms, FL.imms_imms, FL.v_cb, FL.v_vsN, FL.v_vsC, FL.v_bm, FL.v_tyS, FL.v_tyL, FL.v_sl, FL.v_moN, FL.v_moS, FL.v_iOf, FL.v_call, FL.v_osO, FL.v_osS, FL.v_isI, FL.v_isL, FL.v_isD, FL.v_gN, FL.v_gO, FL.v_gS, FL.v_for, FL.v_lc, FL.v_sub, FL.v_sub2, FL.v_iAt, FL.v_iC, FL.v_aug, FL.v_par, FL.v_mut, FL.v_rng1, FL.v_rng2, FL.v_seqI, FL.v_enum, FL.v_isi, FL.v_addI, FL.v_addS, FL.v_addT, FL.v_addL, FL.v_subI, FL.v_neg, FL.v_lt, FL.v_le, FL.v_gt, FL.v_ge, FL.v_eqI, FL.v_neI, FL.v_eqS, FL.v_neS, FL.v_ixT, FL.v_ixD, FL.v_ixL, FL.v_ixS, FL.v_len, FL.v_lnT, FL.v_lnD, FL.v_lnL, FL.v_lnS, FL.v_abs, FL.v_max, FL.v_min, FL.v_int, FL.v_intB, FL.v_tuple, FL.v_list, FL.v_sqT, FL.v_sqD, FL.v_sqL, FL.v_itT, FL.v_itL, FL.v_itS, FL.v_isN, FL.v_notN, FL.v_setL, FL.v_setD, FL.v_kS, FL.v_kI, FL.v_mp, FL.v_mpn, FL.v_pO, FL.v_tupG, FL.v_gsC, FL.v_gsN, FL.v_slD, FL.v_at0, FL.v_at1, FL.v_at2, FL.v_i30, FL.v_i31, FL.v_i32, FL.v_Mv, FL.v_mvV, FL.v_pr, FL.v_wpN, FL.v_wpC, FL.v_wsN, FL.v_wsV, FL.v_wsO, FL.v_bkN, FL.v_bkC, FL.v_bsN, FL.v_bsI, FL.v_sf, FL.callD, Option.bind_some, Option.bind_none, List.getElem?_cons_zero, List.getElem?_cons_succ, List.getElem?_nil, List.set_cons_zero, List.set_cons_succ, List.length_cons, List.length_nil, List.filterMap_cons, List.filterMap_nil, decide_eq_true_eq, if_true, if_false, true_and, and_true, Nat.reduceAdd, Nat.reduceLeDiff, Nat.reduceEqDiff, ↓reduceIte, Bool.false_eq_true, FL.startE, FL.backs, List.map_cons, List.map_nil, List.cons_append, List.nil_append, Nat.reduceSub, List.replicate_succ, List.replicate_zero, List.nodup_nil, List.nodup_cons, List.not_mem_nil, not_false_eq_true, and_self, reduceCtorEq, Option.map_some, Option.map_none, e1, e2, e3, e4, List.length_map, List.length_range, hr, e5, k1, k2, k3, Bool.not_true, show (3 ≤ 16777216) = True from eq_true (by decide)]
  rfl
theorem law_true : ∀ ns : List Int, ns.length ≤ 63 → ∃ ts', FL.mFn 6 WK.m_law [FL.scriptT ns] = some (.imm (.bool true), ts') := fun ns h63 => by
  obtain ⟨a, b, e1, ha, hb, hb2⟩ := hand_one ns h63
  have h0 : Hd (tS a b 0) 0 := ⟨a, b, 0, rfl, ha, hb, hb2, by decide, by decide⟩
  have hj : ∃ m : Nat, m ≤ 63 ∧ (if (if (50 : Int) < (ns.length : Nat) then (50 : Int) else (ns.length : Nat)) > 8 then (if (50 : Int) < (ns.length : Nat) then (50 : Int) else (ns.length : Nat)) else 8) = (m : Nat) := by
    by_cases h1 : (50 : Int) < (ns.length : Nat)
    · rw [if_pos h1]
      exact ⟨50, by decide, by rw [if_pos (by decide)]; rfl⟩
    · rw [if_neg h1]
      by_cases h2 : ((ns.length : Nat) : Int) > 8
      · exact ⟨ns.length, h63, by rw [if_pos h2]⟩
      · exact ⟨8, by decide, by rw [if_neg h2]; rfl⟩
  obtain ⟨m, hm, hj⟩ := hj
  have hr := fun E => v_rgN (n := m) (by omega) (E := E)
  obtain ⟨E', e2, t', s2, s3, s4, rfl, -⟩ := forD_inv (g := mName 2) (ms := (mSeq (mAsg (mCall 2 (mFn 8 m__law_table) (arCons (mVar 1) (arCons (mER (mOp fIx (mER (mLst (faCons (mCall 2 (mFn 4 m__law_take) (arCons (mVar 1) (arCons (mER (mC (.int 9))) arNil))) (faCons (mC (.int 7)) (faCons (mC (.int 8)) faNil))))) (mER (mCall 2 (mFn 4 m__law_take) (arCons (mVar 1) (arCons (mER (mC (.int 3))) arNil)))))) arNil))) (mName 3))     (mSeq (mAsg (mCB fTuple (arCons (mER (mLc (mRng1 (arCons (mER (mCB fLen (arCons (mVar 3) arNil))) arNil)) (mName 5) (mTest (mOp fGt (mER (mCall 2 (mFn 4 m__law_take) (arCons (mVar 1) (arCons (mER (mC (.int 3))) arNil)))) (mER (mC (.int 0))))) (mFz (mVar 5)) [5])) arNil)) (mName 4))     (mIfS (mOr (mNot (mTru (mER (mCall 1 (mFn 2 m__law_right) (arCons (mVar 3) arNil))))) (mNot (mTru (mER (mCall 1 (mFn 2 m__law_right) (arCons (mER (mCall 2 (mFn 4 m_part_table) (arCons (mVar 3) (arCons (mVar 4) arNil)))) arNil)))))) (mRet (mC (.bool false))) mNext))))
    (fun i E => ∃ t' s2 s3 s4, E = [.val (scriptT ns), .val t', ov s2, ov s3, ov s4, .no] ∧ Hd t' (200 * i)) (rangeD 0 m)
    (fun i d E hi ⟨t1, s2, s3, s4, hE, h0⟩ => by
      obtain ⟨hi3, rfl⟩ := rangeD_at hi
      obtain ⟨t2, s3', s4', e3, h2⟩ := body_ok (scriptT ns) (0 + (i : Nat)) s3 s4 t1 (200 * i) (by omega) h0
      refine ⟨[.val (scriptT ns), .val t1, .val (.imm (.int (0 + (i : Nat)))), ov s3, ov s4, .no], [.val (scriptT ns), .val t2, .val (.imm (.int (0 + (i : Nat)))), ov s3', ov s4', .no], ?_, .inl ?_, t2, some (.imm (.int (0 + (i : Nat)))), s3', s4', rfl, h2.le (by omega)⟩
      · rw [hE]; simp -implicitDefEqProofs only [FL.v_seq, FL.v_thN, FL.v_thR, FL.v_thB, FL.v_thC, FL.v_ifS, FL.v_asg, FL.v_ret, FL.v_retN, FL.v_drop, FL.v_nx, FL.v_bk, FL.v_ct, FL.v_name, FL.v_pN, FL.v_pV, FL.v_var, FL.v_at, FL.v_trV, FL.v_trP, FL.v_wV, FL.v_wP, FL.v_C, FL.v_ER, FL.v_Fz, FL.v_fO, FL.v_fS, FL.v_fV, FL.v_fP, FL.v_fL, FL.v_vS, FL.v_vO, FL.v_op, FL.v_un, FL.v_bOf, FL.v_test, FL.v_and, FL.v_or, FL.v_not, FL.v_tru, FL.v_trB, FL.v_andV, FL.v_orV, FL.v_notV, FL.v_if, FL.v_chain, FL.v_arN, FL.v_arC, FL.v_faN, FL.v_faC, FL.v_tup, FL.v_lst, FL.v_tdN, FL.v_tdC, FL.v_tdI, FL.v_tdL, FL.toDs_imms, FL.imms_imms, FL.v_cb, FL.v_vsN, FL.v_vsC, FL.v_bm, FL.v_tyS, FL.v_tyL, FL.v_sl, FL.v_moN, FL.v_moS, FL.v_iOf, FL.v_call, FL.v_osO, FL.v_osS, FL.v_isI, FL.v_isL, FL.v_isD, FL.v_gN, FL.v_gO, FL.v_gS, FL.v_for, FL.v_lc, FL.v_sub, FL.v_sub2, FL.v_iAt, FL.v_iC, FL.v_aug, FL.v_par, FL.v_mut, FL.v_rng1, FL.v_rng2, FL.v_seqI, FL.v_enum, FL.v_isi, FL.v_addI, FL.v_addS, FL.v_addT, FL.v_addL, FL.v_subI, FL.v_neg, FL.v_lt, FL.v_le, FL.v_gt, FL.v_ge, FL.v_eqI, FL.v_neI, FL.v_eqS, FL.v_neS, FL.v_ixT, FL.v_ixD, FL.v_ixL, FL.v_ixS, FL.v_len, FL.v_lnT, FL.v_lnD, FL.v_lnL, FL.v_lnS, FL.v_abs, FL.v_max, FL.v_min, FL.v_int, FL.v_intB, FL.v_tuple, FL.v_list, FL.v_sqT, FL.v_sqD, FL.v_sqL, FL.v_itT, FL.v_itL, FL.v_itS, FL.v_isN, FL.v_notN, FL.v_setL, FL.v_setD, FL.v_kS, FL.v_kI, FL.v_mp, FL.v_mpn, FL.v_pO, FL.v_tupG, FL.v_gsC, FL.v_gsN, FL.v_slD, FL.v_at0, FL.v_at1, FL.v_at2, FL.v_i30, FL.v_i31, FL.v_i32, FL.v_Mv, FL.v_mvV, FL.v_pr, FL.v_wpN, FL.v_wpC, FL.v_wsN, FL.v_wsV, FL.v_wsO, FL.v_bkN, FL.v_bkC, FL.v_bsN, FL.v_bsI, FL.v_sf, FL.callD, Option.bind_some, Option.bind_none, List.getElem?_cons_zero, List.getElem?_cons_succ, List.getElem?_nil, List.set_cons_zero, List.set_cons_succ, List.length_cons, List.length_nil, List.filterMap_cons, List.filterMap_nil, decide_eq_true_eq, if_true, if_false, true_and, and_true, Nat.reduceAdd, Nat.reduceLeDiff, Nat.reduceEqDiff, ↓reduceIte, Bool.false_eq_true, FL.startE, FL.backs, List.map_cons, List.map_nil, List.cons_append, List.nil_append, Nat.reduceSub, List.replicate_succ, List.replicate_zero, List.nodup_nil, List.nodup_cons, List.not_mem_nil, not_false_eq_true, and_self, reduceCtorEq, Option.map_some, Option.map_none]
      · exact e3)
    [.val (scriptT ns), .val (tS a b 0), ov none, ov none, ov none, .no] ⟨_, none, none, none, rfl, h0.le (by omega)⟩
  simp only [show ov none = SL.no from rfl] at e2
  have hS : ∀ n, n ≤ 1 → Sq n fun _ _ => 1 := fun n hn => ⟨fun _ => rfl, fun _ _ => rfl, [2, 3], by decide, fun a b h1 h2 h3 => by omega⟩
  have r0 := right_one 0 (by decide) (fun _ _ => 1) (hS 0 (by decide))
  have r1 := right_one 1 (by decide) (fun _ _ => 1) (hS 1 (by decide))
  have q0 : tabD 0 (fun _ _ => 1) = .tuple [] := rfl
  have q1 : tabD 1 (fun _ _ => 1) = .tuple [.tuple [.int 1]] := rfl
  rw [q0] at r0
  rw [q1] at r1
  refine ⟨[scriptT ns], ?_⟩
  rw [v_fn]
  unfold m_law
  unfold scriptT at e1 e2 ⊢
  simp -implicitDefEqProofs only [FL.v_seq, FL.v_thN, FL.v_thR, FL.v_thB, FL.v_thC, FL.v_ifS, FL.v_asg, FL.v_ret, FL.v_retN, FL.v_drop, FL.v_nx, FL.v_bk, FL.v_ct, FL.v_name, FL.v_pN, FL.v_pV, FL.v_var, FL.v_at, FL.v_trV, FL.v_trP, FL.v_wV, FL.v_wP, FL.v_C, FL.v_ER, FL.v_Fz, FL.v_fO, FL.v_fS, FL.v_fV, FL.v_fP, FL.v_fL, FL.v_vS, FL.v_vO, FL.v_op, FL.v_un, FL.v_bOf, FL.v_test, FL.v_and, FL.v_or, FL.v_not, FL.v_tru, FL.v_trB, FL.v_andV, FL.v_orV, FL.v_notV, FL.v_if, FL.v_chain, FL.v_arN, FL.v_arC, FL.v_faN, FL.v_faC, FL.v_tup, FL.v_lst, FL.v_tdN, FL.v_tdC, FL.v_tdI, FL.v_tdL, FL.toDs_imms, FL.imms_imms, FL.v_cb, FL.v_vsN, FL.v_vsC, FL.v_bm, FL.v_tyS, FL.v_tyL, FL.v_sl, FL.v_moN, FL.v_moS, FL.v_iOf, FL.v_call, FL.v_osO, FL.v_osS, FL.v_isI, FL.v_isL, FL.v_isD, FL.v_gN, FL.v_gO, FL.v_gS, FL.v_for, FL.v_lc, FL.v_sub, FL.v_sub2, FL.v_iAt, FL.v_iC, FL.v_aug, FL.v_par, FL.v_mut, FL.v_rng1, FL.v_rng2, FL.v_seqI, FL.v_enum, FL.v_isi, FL.v_addI, FL.v_addS, FL.v_addT, FL.v_addL, FL.v_subI, FL.v_neg, FL.v_lt, FL.v_le, FL.v_gt, FL.v_ge, FL.v_eqI, FL.v_neI, FL.v_eqS, FL.v_neS, FL.v_ixT, FL.v_ixD, FL.v_ixL, FL.v_ixS, FL.v_len, FL.v_lnT, FL.v_lnD, FL.v_lnL, FL.v_lnS, FL.v_abs, FL.v_max, FL.v_min, FL.v_int, FL.v_intB, FL.v_tuple, FL.v_list, FL.v_sqT, FL.v_sqD, FL.v_sqL, FL.v_itT, FL.v_itL, FL.v_itS, FL.v_isN, FL.v_notN, FL.v_setL, FL.v_setD, FL.v_kS, FL.v_kI, FL.v_mp, FL.v_mpn, FL.v_pO, FL.v_tupG, FL.v_gsC, FL.v_gsN, FL.v_slD, FL.v_at0, FL.v_at1, FL.v_at2, FL.v_i30, FL.v_i31, FL.v_i32, FL.v_Mv, FL.v_mvV, FL.v_pr, FL.v_wpN, FL.v_wpC, FL.v_wsN, FL.v_wsV, FL.v_wsO, FL.v_bkN, FL.v_bkC, FL.v_bsN, FL.v_bsI, FL.v_sf, FL.callD, Option.bind_some, Option.bind_none, List.getElem?_cons_zero, List.getElem?_cons_succ, List.getElem?_nil, List.set_cons_zero, List.set_cons_succ, List.length_cons, List.length_nil, List.filterMap_cons, List.filterMap_nil, decide_eq_true_eq, if_true, if_false, true_and, and_true, Nat.reduceAdd, Nat.reduceLeDiff, Nat.reduceEqDiff, ↓reduceIte, Bool.false_eq_true, FL.startE, FL.backs, List.map_cons, List.map_nil, List.cons_append, List.nil_append, Nat.reduceSub, List.replicate_succ, List.replicate_zero, List.nodup_nil, List.nodup_cons, List.not_mem_nil, not_false_eq_true, and_self, reduceCtorEq, Option.map_some, Option.map_none, e1, r0, r1, Bool.not_true, List.length_map, hj, hr, e2, show (0 ≤ 16777216) = True from eq_true (by decide), show (1 ≤ 16777216) = True from eq_true (by decide)]
end WK

open PySem PySem.W PyProof.Rows in
set_option maxRecDepth 100000 in
set_option maxHeartbeats 0 in
theorem PySem.Challenge.cw_mirrorkin_k04_tables_shown_holds : PySem.Challenge.rw_mirrorkin_k04_tables_shown.Holds := by
  w_on; o_law; k_head; (case hw => w_witness2)
  k_fill
  refine FL.walk_G (l := PySem.Challenge.rw_mirrorkin_k04_tables_shown) (n := 63) (k := 6) (m := FL.mFn 6 WK.m_law) (x := "_law_script") rfl (by decide) rfl ⟨rfl, by decide, by decide⟩ (fun w h Y => PySem.W.kIn_of Y) ?F WK.law_true
  case F =>
    intro w mg fa h KX G hmg
    refine' WK.all_mk KX G hmg ?a0 ?l0 ?c0 ?k0 ?a1 ?l1 ?c1 ?k1 ?a2 ?l2 ?c2 ?k2 ?a3 ?l3 ?c3 ?k3 ?a4 ?l4 ?c4 ?k4 ?a5 ?l5 ?c5 ?k5 ?a6 ?l6 ?c6 ?k6 ?a7 ?l7 ?c7 ?k7 ?a8 ?l8 ?c8 ?k8 ?a9 ?l9 ?c9 ?k9 ?a10 ?l10 ?c10 ?k10 ?a11 ?l11 ?c11 ?k11 ?a12 ?l12 ?c12 ?k12 ?a13 ?l13 ?c13 ?k13 ?a14 ?l14 ?c14 ?k14 ?a15 ?l15 ?c15 ?k15 ?z_abs ?z_enumerate ?z_isinstance ?z_len ?z_list ?z_max ?z_min ?z_range ?z_repr ?z_str ?z_tuple ?c_HEAD ?c_LEAST_ORDER ?c_LETTERS ?c_MOST_MIRRORS ?c_MOST_NUMBER ?c_MOST_ORDER ?c_NEVER
    (case a0 => k_is)
    (case l0 => k_is)
    (case c0 => k_is)
    (case k0 => k_is)
    (case a1 => k_is)
    (case l1 => k_is)
    (case c1 => k_is)
    (case k1 => k_is)
    (case a2 => k_is)
    (case l2 => k_is)
    (case c2 => k_is)
    (case k2 => k_is)
    (case a3 => k_is)
    (case l3 => k_is)
    (case c3 => k_is)
    (case k3 => k_is)
    (case a4 => k_is)
    (case l4 => k_is)
    (case c4 => k_is)
    (case k4 => k_is)
    (case a5 => k_is)
    (case l5 => k_is)
    (case c5 => k_is)
    (case k5 => k_is)
    (case a6 => k_is)
    (case l6 => k_is)
    (case c6 => k_is)
    (case k6 => k_is)
    (case a7 => k_is)
    (case l7 => k_is)
    (case c7 => k_is)
    (case k7 => k_is)
    (case a8 => k_is)
    (case l8 => k_is)
    (case c8 => k_is)
    (case k8 => k_is)
    (case a9 => k_is)
    (case l9 => k_is)
    (case c9 => k_is)
    (case k9 => k_is)
    (case a10 => k_is)
    (case l10 => k_is)
    (case c10 => k_is)
    (case k10 => k_is)
    (case a11 => k_is)
    (case l11 => k_is)
    (case c11 => k_is)
    (case k11 => k_is)
    (case a12 => k_is)
    (case l12 => k_is)
    (case c12 => k_is)
    (case k12 => k_is)
    (case a13 => k_is)
    (case l13 => k_is)
    (case c13 => k_is)
    (case k13 => k_is)
    (case a14 => k_is)
    (case l14 => k_is)
    (case c14 => k_is)
    (case k14 => k_is)
    (case a15 => k_is)
    (case l15 => k_is)
    (case c15 => k_is)
    (case k15 => k_is)
    (case z_abs => k_is)
    (case z_enumerate => k_is)
    (case z_isinstance => k_is)
    (case z_len => k_is)
    (case z_list => k_is)
    (case z_max => k_is)
    (case z_min => k_is)
    (case z_range => k_is)
    (case z_repr => k_is)
    (case z_str => k_is)
    (case z_tuple => k_is)
    (case c_HEAD => k_is)
    (case c_LEAST_ORDER => k_is)
    (case c_LETTERS => k_is)
    (case c_MOST_MIRRORS => k_is)
    (case c_MOST_NUMBER => k_is)
    (case c_MOST_ORDER => k_is)
    (case c_NEVER => k_is)

