import PyProof.Rows.All
import Wide.All
import OpenK.AllK
import Wide.FinOn
import HandS.ForMost
import HandS.Deep
import HandS.Wide
import HandS.Small
import HandS.TupAny
import HandS.TupMul
import HandS.TupLe
import HandS.Conv
import HandS.IsInst
import HandS.SortInts
import KE.GoesEnum
import HandS.SortRule
import HandS.More
import KE.DataMinMax
import HandS.NoneIn
import HandS.ListItems
import KE.KDictList
import HandS.SetFor
import HandS.Strs
import KE.KIndexOf
import KE.DataCmp
import PySem.Challenge.RW_mirrorkin_k82_least_tables
set_option Elab.async false
set_option linter.all false
set_option maxRecDepth 100000
set_option maxHeartbeats 4000000
/-! FL: what a def's body does to plain data, by one function. Part A: data, owned trees, places, steps. -/
namespace FL
open PySem L2

theorem seqT {K : PySem.W.Frag} {H H' : Hp} {a : Addr} {xs : List V} (e : Same H H') (h : SqT K H a xs) : SqT K H' a xs := by
  rcases h with (h | ⟨o, h⟩) | h
  · exact .inl (.inl (e _ _ h))
  · exact .inl (.inr ⟨o, e _ _ h⟩)
  · exact .inr h

mutual
theorem dpMono {K : PySem.W.Frag} {H H' : Hp} (e : Same H H') : ∀ (d : PyData) (v : V), Dp K H v d → Dp K H' v d
  | .none, _, h => by cases h; exact .non
  | .bool _, _, h => by cases h; exact .bl _
  | .int _, _, h => by cases h; exact .int _
  | .str _, _, h => by cases h; exact .str _
  | .list ds, _, h => by
    cases h with
    | lst hs ha => exact .lst (e.seq hs) (dpMonos e ds _ ha)
  | .tuple ds, _, h => by
    cases h with
    | tup hs ha => exact .tup (seqT e hs) (dpMonos e ds _ ha)
  | .dict _, _, h => by cases h
theorem dpMonos {K : PySem.W.Frag} {H H' : Hp} (e : Same H H') : ∀ (ds : List PyData) (vs : List V), DpAll K H vs ds → DpAll K H' vs ds
  | [], _, h => by cases h; exact .nil
  | d :: ds, _, h => by
    cases h with
    | cons h1 h2 => exact .cons (dpMono e d _ h1) (dpMonos e ds _ h2)
end

/-- a tree: a datum that stands still, or a list (a dict) that one name alone holds -/
inductive Tr where
  | imm (d : PyData)
  | lst (ts : List Tr)
  | dic (kvs : List (Key × PyData))
  | tpl (ds : List PyData)
mutual
def Tr.toD : Tr → Option PyData
  | .imm d => some d
  | .lst ts => (Tr.toDs ts).map PyData.list
  | .tpl ds => some (.tuple ds)
  | .dic _ => none
def Tr.toDs : List Tr → Option (List PyData)
  | [] => some []
  | t :: ts => (Tr.toD t).bind fun d => (Tr.toDs ts).map (d :: ·)
end

mutual
inductive RepT (K : PySem.W.Frag) (Hi H : Hp) : V → Tr → List Addr → Prop
  | imm {v : V} {d : PyData} : Dp K Hi v d → RepT K Hi H v (.imm d) []
  | lst {a : Addr} {vs : List V} {ts : List Tr} {F : List Addr} : H a = some (.lst vs) → Hi a = none → RepTs K Hi H vs ts F → a ∉ F → RepT K Hi H (.ref a) (.lst ts) (a :: F)
  | dic {a : Addr} {kvs : List (Key × V)} {ds : List (Key × PyData)} : H a = some (.dK kvs) → Hi a = none → Paired (fun (p : Key × V) (q : Key × PyData) => p.1 = q.1 ∧ Dp K Hi p.2 q.2) kvs ds → RepT K Hi H (.ref a) (.dic ds) [a]
  | tpl {a : Addr} {o : Obj} {vs : List V} {ds : List PyData} : Hi a = some (.frz o (.tup vs)) → o.dict = none → DpAll K Hi vs ds → RepT K Hi H (.ref a) (.tpl ds) []
inductive RepTs (K : PySem.W.Frag) (Hi H : Hp) : List V → List Tr → List Addr → Prop
  | nil : RepTs K Hi H [] [] []
  | cons {v : V} {vs : List V} {t : Tr} {ts : List Tr} {F G : List Addr} : RepT K Hi H v t F → RepTs K Hi H vs ts G → (∀ a ∈ F, a ∉ G) → RepTs K Hi H (v :: vs) (t :: ts) (F ++ G)
end

section
variable {K : PySem.W.Frag} {Hi H Hi' H' : Hp}
mutual
theorem RepT.own : ∀ (t : Tr) (v : V) (F : List Addr), RepT K Hi H v t F → ∀ a ∈ F, Hi a = none ∧ ∃ o, H a = some o
  | .imm _, _, _, h, a, ha => by cases h; cases ha
  | .tpl _, _, _, h, a, ha => by cases h; cases ha
  | .lst ts, _, _, h, b, hb => by
    cases h with
    | lst h1 h2 h3 h4 =>
      rcases List.mem_cons.mp hb with rfl | hb
      · exact ⟨h2, _, h1⟩
      · exact RepTs.own ts _ _ h3 b hb
  | .dic _, _, _, h, b, hb => by
    cases h with
    | dic h1 h2 _ =>
      rcases List.mem_cons.mp hb with rfl | hb
      · exact ⟨h2, _, h1⟩
      · cases hb
theorem RepTs.own : ∀ (ts : List Tr) (vs : List V) (F : List Addr), RepTs K Hi H vs ts F → ∀ a ∈ F, Hi a = none ∧ ∃ o, H a = some o
  | [], _, _, h, a, ha => by cases h; cases ha
  | t :: ts, _, _, h, a, ha => by
    cases h with
    | cons h1 h2 _ =>
      rcases List.mem_append.mp ha with ha | ha
      · exact RepT.own t _ _ h1 a ha
      · exact RepTs.own ts _ _ h2 a ha
end
mutual
theorem RepT.frame (e : Same Hi Hi') : ∀ (t : Tr) (v : V) (F : List Addr), RepT K Hi H v t F → (∀ a ∈ F, H' a = H a) → (∀ a ∈ F, Hi' a = none) → RepT K Hi' H' v t F
  | .imm d, _, _, h, _, _ => by
    cases h with
    | imm h => exact .imm (dpMono e d _ h)
  | .lst ts, _, _, h, k1, k2 => by
    cases h with
    | lst h1 h2 h3 h4 =>
      exact .lst ((k1 _ List.mem_cons_self).trans h1) (k2 _ List.mem_cons_self) (RepTs.frame e ts _ _ h3 (fun a ha => k1 a (List.mem_cons_of_mem _ ha)) (fun a ha => k2 a (List.mem_cons_of_mem _ ha))) h4
  | .tpl ds, _, _, h, _, _ => by
    cases h with
    | tpl h1 h2 h3 => exact .tpl (e _ _ h1) h2 (dpMonos e ds _ h3)
  | .dic _, _, _, h, k1, k2 => by
    cases h with
    | dic h1 h2 h3 => exact .dic ((k1 _ List.mem_cons_self).trans h1) (k2 _ List.mem_cons_self) (Paired.mapP h3 fun p q z => ⟨z.1, dpMono e _ _ z.2⟩)
theorem RepTs.frame (e : Same Hi Hi') : ∀ (ts : List Tr) (vs : List V) (F : List Addr), RepTs K Hi H vs ts F → (∀ a ∈ F, H' a = H a) → (∀ a ∈ F, Hi' a = none) → RepTs K Hi' H' vs ts F
  | [], _, _, h, _, _ => by cases h; exact .nil
  | t :: ts, _, _, h, k1, k2 => by
    cases h with
    | cons h1 h2 h3 =>
      exact .cons (RepT.frame e t _ _ h1 (fun a ha => k1 a (List.mem_append_left _ ha)) (fun a ha => k2 a (List.mem_append_left _ ha)))
        (RepTs.frame e ts _ _ h2 (fun a ha => k1 a (List.mem_append_right _ ha)) (fun a ha => k2 a (List.mem_append_right _ ha))) h3
end
mutual
/-- frozen, or looked at -/
theorem RepT.froz (e : Same Hi Hi') : ∀ (t : Tr) (v : V) (F : List Addr) (d : PyData), RepT K Hi H v t F → (∀ a ∈ F, Hi' a = H a) → t.toD = some d → Dp K Hi' v d
  | .imm d, _, _, d', h, _, q => by
    cases h with
    | imm h =>
      rw [Tr.toD] at q
      cases q
      exact dpMono e d _ h
  | .lst ts, _, _, d', h, k1, q => by
    cases h with
    | lst h1 h2 h3 h4 =>
      rw [Tr.toD, Option.map_eq_some_iff] at q
      obtain ⟨ds, q1, rfl⟩ := q
      exact .lst (.inl (.inl ((k1 _ List.mem_cons_self).trans h1))) (RepTs.froz e ts _ _ ds h3 (fun a ha => k1 a (List.mem_cons_of_mem _ ha)) q1)
  | .tpl ds, _, _, d', h, _, q => by
    cases h with
    | tpl h1 h2 h3 =>
      rw [Tr.toD] at q
      cases q
      exact .tup (.inl (.inr ⟨_, e _ _ h1⟩)) (dpMonos e ds _ h3)
  | .dic _, _, _, _, _, _, q => by rw [Tr.toD] at q; cases q
theorem RepTs.froz (e : Same Hi Hi') : ∀ (ts : List Tr) (vs : List V) (F : List Addr) (ds : List PyData), RepTs K Hi H vs ts F → (∀ a ∈ F, Hi' a = H a) → Tr.toDs ts = some ds → DpAll K Hi' vs ds
  | [], _, _, _, h, _, q => by
    cases h
    rw [Tr.toDs] at q
    cases q
    exact .nil
  | t :: ts, _, _, _, h, k1, q => by
    cases h with
    | cons h1 h2 h3 =>
      rw [Tr.toDs, Option.bind_eq_some_iff] at q
      obtain ⟨d, q1, q2⟩ := q
      rw [Option.map_eq_some_iff] at q2
      obtain ⟨ds, q2, rfl⟩ := q2
      exact .cons (RepT.froz e t _ _ d h1 (fun a ha => k1 a (List.mem_append_left _ ha)) q1) (RepTs.froz e ts _ _ ds h2 (fun a ha => k1 a (List.mem_append_right _ ha)) q2)
end
/-- a tree of data alone -/
theorem RepTs.imms : ∀ {ds : List PyData} {vs : List V}, DpAll K Hi vs ds → RepTs K Hi H vs (ds.map Tr.imm) []
  | [], _, h => by cases h; exact .nil
  | d :: ds, _, h => by
    cases h with
    | cons h1 h2 => exact RepTs.cons (F := []) (G := []) (.imm h1) (RepTs.imms h2) (fun a z => nomatch z)
theorem RepTs.length : ∀ {ts : List Tr} {vs : List V} {F : List Addr}, RepTs K Hi H vs ts F → vs.length = ts.length
  | [], _, _, h => by cases h; rfl
  | t :: ts, _, _, h => by
    cases h with
    | cons h1 h2 h3 =>
      have := RepTs.length h2
      simp [this]
end

/-! ### places -/
inductive SL where
  | no
  | val (t : Tr)
  | par (t : Tr)
abbrev En := List SL
def SL.tree : SL → Option Tr
  | .no => none
  | .val t => some t
  | .par t => some t
def SL.with : SL → Tr → SL
  | .no, _ => .no
  | .val _, t => .val t
  | .par _, t => .par t
/-- the tree at a place -/
def at? (E : En) (i : Nat) : Option Tr := E[i]?.bind SL.tree
def InE (Fs : Nat → List Addr) : Addr → Prop := fun a => ∃ i, a ∈ Fs i
/-- A: the arguments as they were handed in -/
structure RepE (K : PySem.W.Frag) (A : List V) (Hi H : Hp) (σ : L2.St) (E : En) (Fs : Nat → List Addr) : Prop where
  sub : Same Hi H
  len : E.length = σ.length
  val : ∀ (i : Nat) t, at? E i = some t → ∃ v, σ[i]? = some (some v) ∧ RepT K Hi H v t (Fs i)
  par : ∀ (i : Nat) t, E[i]? = some (.par t) → ∃ v, σ[i]? = some (some v) ∧ A[i]? = some v
  no : ∀ i, at? E i = none → Fs i = []
  dis : ∀ i j a, a ∈ Fs i → a ∈ Fs j → i = j

structure Step (Hi H : Hp) (F : Addr → Prop) (Hi' H' : Hp) (F' : Addr → Prop) : Prop where
  ex : Same Hi Hi'
  fr : ∀ a o, H a = some o → ¬ F a → H' a = some o
  nw : ∀ a, F' a → F a ∨ H a = none
  nh : ∀ a o, Hi' a = some o → (∃ o', Hi a = some o') ∨ F a ∨ H a = none

section
variable {K : PySem.W.Frag} {A : List V} {Hi H Hi' H' Hi1 H1 Hi2 H2 : Hp} {F F' F1 F2 : Addr → Prop} {σ : L2.St} {E : En} {Fs : Nat → List Addr}
theorem Step.refl (Hi H : Hp) (F : Addr → Prop) : Step Hi H F Hi H F := ⟨Same.refl _, fun _ _ h _ => h, fun _ h => .inl h, fun _ o h => .inl ⟨o, h⟩⟩
theorem Step.trans (a : Step Hi H F Hi1 H1 F1) (b : Step Hi1 H1 F1 Hi2 H2 F2) : Step Hi H F Hi2 H2 F2 := by
  have k1 : ∀ x, F1 x ∨ H1 x = none → F x ∨ H x = none := fun x h => by
    rcases h with h | h
    · exact a.nw x h
    · cases q : H x with
      | none => exact .inr rfl
      | some o =>
        by_cases f : F x
        · exact .inl f
        · rw [a.fr x o q f] at h
          cases h
  refine ⟨a.ex.trans b.ex, fun x o h f => b.fr x o (a.fr x o h f) fun f1 => ?_, fun x h => k1 x (b.nw x h), fun x o h => ?_⟩
  · rcases a.nw x f1 with z | z
    · exact f z
    · rw [h] at z; cases z
  · rcases b.nh x o h with ⟨o', h'⟩ | h'
    · exact a.nh x o' h'
    · exact .inr (k1 x h')
theorem Step.weak (a : Step Hi H F Hi' H' F') (h : ∀ x, F2 x → F' x) : Step Hi H F Hi' H' F2 := ⟨a.ex, a.fr, fun x z => a.nw x (h x z), a.nh⟩
theorem Step.more (a : Step Hi H F Hi' H' F') (h : ∀ x, F x → F2 x) : Step Hi H F2 Hi' H' F' := ⟨a.ex, fun x o e z => a.fr x o e fun y => z (h x y), fun x z => (a.nw x z).imp (h x) id, fun x o e => (a.nh x o e).imp id (Or.imp (h x) id)⟩
/-- what is held besides stays, and stays apart -/
theorem Step.keep {v : V} {t : Tr} {G : List Addr} (a : Step Hi H F Hi' H' F') (h : RepT K Hi H v t G) (d : ∀ x ∈ G, ¬ F x) : RepT K Hi' H' v t G :=
  h.frame a.ex _ _ _ (fun x hx => by
    obtain ⟨_, o, e⟩ := h.own _ _ _ x hx
    rw [a.fr x o e (d x hx), e]) fun x hx => by
    obtain ⟨e0, o, e⟩ := h.own _ _ _ x hx
    cases q : Hi' x with
    | none => rfl
    | some u =>
      rcases a.nh x u q with ⟨o', z⟩ | z | z
      · rw [e0] at z; cases z
      · exact absurd z (d x hx)
      · rw [e] at z; cases z
theorem Step.keeps {vs : List V} {ts : List Tr} {G : List Addr} (a : Step Hi H F Hi' H' F') (h : RepTs K Hi H vs ts G) (d : ∀ x ∈ G, ¬ F x) : RepTs K Hi' H' vs ts G :=
  h.frame a.ex _ _ _ (fun x hx => by
    obtain ⟨_, o, e⟩ := h.own _ _ _ x hx
    rw [a.fr x o e (d x hx), e]) fun x hx => by
    obtain ⟨e0, o, e⟩ := h.own _ _ _ x hx
    cases q : Hi' x with
    | none => rfl
    | some u =>
      rcases a.nh x u q with ⟨o', z⟩ | z | z
      · rw [e0] at z; cases z
      · exact absurd z (d x hx)
      · rw [e] at z; cases z
theorem Step.apart {G : List Addr} (a : Step Hi H F Hi' H' F') (h : ∀ x ∈ G, ∃ o, H x = some o) (d : ∀ x ∈ G, ¬ F x) : ∀ x ∈ G, ¬ F' x := fun x hx f => by
  rcases a.nw x f with z | z
  · exact d x hx z
  · obtain ⟨o, e⟩ := h x hx
    rw [e] at z; cases z
theorem RepE.own (h : RepE K A Hi H σ E Fs) {a : Addr} (ha : InE Fs a) : Hi a = none ∧ ∃ o, H a = some o := by
  obtain ⟨i, hi⟩ := ha
  cases q : at? E i with
  | none => rw [h.no i q] at hi; cases hi
  | some t =>
    obtain ⟨v, _, r⟩ := h.val i t q
    exact r.own _ _ _ a hi
/-- all of E is held besides -/
theorem RepE.keep (h : RepE K A Hi H σ E Fs) (s : Step Hi H F Hi' H' F') (sub : Same Hi' H') (d : ∀ x, InE Fs x → ¬ F x) : RepE K A Hi' H' σ E Fs :=
  ⟨sub, h.len, fun i t q => let ⟨v, e, r⟩ := h.val i t q; ⟨v, e, s.keep r fun x hx => d x ⟨i, hx⟩⟩, h.par, h.no, h.dis⟩
end
end FL

/-! FL, part B: what a reading of an expression gives. -/
namespace FL
open PySem L2

/-- what an operand is: a place, or a value of one's own -/
inductive Rf where
  | slot (i : Nat)
  | own (t : Tr)
/-- a made tuple is a tuple -/
def Tr.plain : Tr → Tr
  | .tpl ds => .imm (.tuple ds)
  | t => t
def viewR (E : En) : Rf → Option Tr
  | .slot i => at? E i
  | .own t => some t
def view (E : En) (o : Rf) : Option Tr := (viewR E o).map Tr.plain
theorem RepT.plain {K : PySem.W.Frag} {Hi H : Hp} {v : V} {t : Tr} {G : List Addr} (h : RepT K Hi H v t G) : RepT K Hi H v t.plain G := by
  cases h with
  | tpl h1 h2 h3 => exact .imm (.tup (.inl (.inr ⟨_, h1⟩)) h3)
  | imm h => exact .imm h
  | lst h1 h2 h3 h4 => exact .lst h1 h2 h3 h4
  | dic h1 h2 h3 => exact .dic h1 h2 h3
abbrev MR := En → Option (Rf × En)
abbrev MF := En → Option (Tr × En)
abbrev MT := En → Option (Bool × En)
abbrev MA := En → Option (List Rf × En)
abbrev MFs := En → Option (List Tr × En)
abbrev MI := En → Option (List PyData × En)

section
variable (K : PySem.W.Frag)
inductive RepR (Hi H : Hp) (σ : L2.St) : V → Rf → List Addr → Prop
  | slot {i : Nat} {v : V} : σ[i]? = some (some v) → RepR Hi H σ v (.slot i) []
  | own {v : V} {t : Tr} {G : List Addr} : RepT K Hi H v t G → RepR Hi H σ v (.own t) G
inductive RepRs (Hi H : Hp) (σ : L2.St) : List V → List Rf → List Addr → Prop
  | nil : RepRs Hi H σ [] [] []
  | cons {v : V} {vs : List V} {o : Rf} {os : List Rf} {F G : List Addr} : RepR K Hi H σ v o F → RepRs Hi H σ vs os G → (∀ a ∈ F, a ∉ G) → RepRs Hi H σ (v :: vs) (o :: os) (F ++ G)
/-- an operand -/
def ER (te : TE) (m : MR) : Prop := ∀ E o E', m E = some (o, E') → ∀ A σ Hi H Fs, RepE K A Hi H σ E Fs → ∀ Q : VK,
  (∀ v Hi' H' Fs' G, RepR K Hi' H' σ v o G → RepE K A Hi' H' σ E' Fs' → (∀ a ∈ G, ¬ InE Fs' a) → Step Hi H (InE Fs) Hi' H' (fun a => InE Fs' a ∨ a ∈ G) → Q v H') → te σ H Q
/-- a value of one's own -/
def FR (te : TE) (m : MF) : Prop := ∀ E t E', m E = some (t, E') → ∀ A σ Hi H Fs, RepE K A Hi H σ E Fs → ∀ Q : VK,
  (∀ v Hi' H' Fs' G, RepT K Hi' H' v t G → RepE K A Hi' H' σ E' Fs' → (∀ a ∈ G, ¬ InE Fs' a) → Step Hi H (InE Fs) Hi' H' (fun a => InE Fs' a ∨ a ∈ G) → Q v H') → te σ H Q
def TR (tt : TT) (m : MT) : Prop := ∀ E b E', m E = some (b, E') → ∀ A σ Hi H Fs, RepE K A Hi H σ E Fs → ∀ Q : Bool → Hp → Prop,
  (∀ Hi' H' Fs', RepE K A Hi' H' σ E' Fs' → Step Hi H (InE Fs) Hi' H' (InE Fs') → Q b H') → tt σ H Q
/-- arguments -/
def AR (ta : TA) (m : MA) : Prop := ∀ E os E', m E = some (os, E') → ∀ A σ Hi H Fs, RepE K A Hi H σ E Fs → ∀ Q : List V → Hp → Prop,
  (∀ vs Hi' H' Fs' G, RepRs K Hi' H' σ vs os G → RepE K A Hi' H' σ E' Fs' → (∀ a ∈ G, ¬ InE Fs' a) → Step Hi H (InE Fs) Hi' H' (fun a => InE Fs' a ∨ a ∈ G) → Q vs H') → ta σ H Q
/-- the items of a display -/
def FA (ta : TA) (m : MFs) : Prop := ∀ E ts E', m E = some (ts, E') → ∀ A σ Hi H Fs, RepE K A Hi H σ E Fs → ∀ Q : List V → Hp → Prop,
  (∀ vs Hi' H' Fs' G, RepTs K Hi' H' vs ts G → RepE K A Hi' H' σ E' Fs' → (∀ a ∈ G, ¬ InE Fs' a) → Step Hi H (InE Fs) Hi' H' (fun a => InE Fs' a ∨ a ∈ G) → Q vs H') → ta σ H Q
end

section
variable {K : PySem.W.Frag} {A : List V} {Hi H Hi' H' : Hp} {σ : L2.St} {E : En} {Fs : Nat → List Addr}
theorem RepR.ownG {v : V} {o : Rf} {G : List Addr} (h : RepR K Hi H σ v o G) : ∀ a ∈ G, Hi a = none ∧ ∃ o, H a = some o := by
  cases h with
  | slot h => intro a z; cases z
  | own h => exact h.own _ _ _
theorem RepRs.ownG : ∀ {vs : List V} {os : List Rf} {G : List Addr}, RepRs K Hi H σ vs os G → ∀ a ∈ G, Hi a = none ∧ ∃ o, H a = some o
  | _, _, _, .nil, a, z => nomatch z
  | _, _, _, .cons h t _, a, z => (List.mem_append.mp z).elim (h.ownG a) (RepRs.ownG t a)
theorem RepTs.ownG {vs : List V} {ts : List Tr} {G : List Addr} (h : RepTs K Hi H vs ts G) : ∀ a ∈ G, Hi a = none ∧ ∃ o, H a = some o := h.own _ _ _
theorem RepT.ownG {v : V} {t : Tr} {G : List Addr} (h : RepT K Hi H v t G) : ∀ a ∈ G, Hi a = none ∧ ∃ o, H a = some o := h.own _ _ _
theorem Step.keepR {v : V} {o : Rf} {G : List Addr} {F F' : Addr → Prop} (a : Step Hi H F Hi' H' F') (h : RepR K Hi H σ v o G) (d : ∀ x ∈ G, ¬ F x) : RepR K Hi' H' σ v o G := by
  cases h with
  | slot h => exact .slot h
  | own h => exact .own (a.keep h d)
/-- what an operand is, seen now -/
theorem RepE.view (h : RepE K A Hi H σ E Fs) {v : V} {o : Rf} {t : Tr} {G : List Addr} (r : RepR K Hi H σ v o G) (q : view E o = some t) : ∃ G, RepT K Hi H v t G := by
  obtain ⟨t0, q0, rfl⟩ := Option.map_eq_some_iff.mp q
  cases r with
  | slot e' =>
    obtain ⟨u, e, rt⟩ := h.val _ t0 q0
    rw [e'] at e
    cases e
    exact ⟨_, rt.plain⟩
  | own r =>
    have q' : some _ = some t0 := q0
    cases q'
    exact ⟨_, r.plain⟩
theorem looks {v : V} {t : Tr} {G : List Addr} {d : PyData} (s : Same Hi H) (r : RepT K Hi H v t G) (qd : t.toD = some d) : Dp K H v d := r.froz s _ _ _ d (fun _ _ => rfl) qd

/-! ### growth -/
/-- new objects alone: those of W are one's own -/
structure Grow (Hi H Hi' H' : Hp) (W : List Addr) : Prop where
  ex : Same Hi Hi'
  all : Same H H'
  sub : Same Hi' H'
  new : ∀ a ∈ W, H a = none
  nh : ∀ a o, Hi' a = some o → (∃ o', Hi a = some o') ∨ H a = none
theorem Grow.refl (h : Same Hi H) : Grow Hi H Hi H [] := ⟨Same.refl _, Same.refl _, h, fun _ z => (nomatch z), fun _ o e => .inl ⟨o, e⟩⟩
theorem Grow.step {W : List Addr} (g : Grow Hi H Hi' H' W) (F : Addr → Prop) : Step Hi H F Hi' H' (fun a => F a ∨ a ∈ W) :=
  ⟨g.ex, fun a o e _ => g.all a o e, fun a z => z.imp id (g.new a), fun a o e => (g.nh a o e).imp id .inr⟩
theorem RepE.grow {W : List Addr} (h : RepE K A Hi H σ E Fs) (g : Grow Hi H Hi' H' W) : RepE K A Hi' H' σ E Fs := by
  have s0 : Step Hi H (fun _ => False) Hi' H' (fun a => False ∨ a ∈ W) := g.step _
  exact h.keep s0 g.sub fun _ _ z => z
theorem RepE.fresh {W : List Addr} (h : RepE K A Hi H σ E Fs) (g : Grow Hi H Hi' H' W) : ∀ a ∈ W, ¬ InE Fs a := fun a ha hf => by
  obtain ⟨_, o, e⟩ := h.own hf
  rw [g.new a ha] at e
  cases e
theorem same_new {p : Addr} {o : HO} (n : H p = none) : Same H (upd H p o) := fun b x e => by
  rw [upd_ne (ne_of_none e n)]
  exact e
theorem free_of (s : Same Hi H) {p : Addr} (n : H p = none) : Hi p = none := Same.free s n
theorem same_upd2 (s : Same Hi H) {p : Addr} {o : HO} : Same (upd Hi p o) (upd H p o) := fun b x e => by
  by_cases hb : b = p
  · subst hb; rw [upd_same] at e ⊢; exact e
  · rw [upd_ne hb] at e ⊢; exact s b x e
/-- a new object that stands still -/
theorem Grow.imm (s : Same Hi H) {p : Addr} {o : HO} (n : H p = none) : Grow Hi H (upd Hi p o) (upd H p o) [] :=
  ⟨same_new (free_of s n), same_new n, same_upd2 s, fun _ z => (nomatch z), fun a u e => by
    by_cases hb : a = p
    · subst hb; exact .inr n
    · rw [upd_ne hb] at e; exact .inl ⟨u, e⟩⟩
/-- a new object of one's own -/
theorem Grow.own (s : Same Hi H) {p : Addr} {o : HO} (n : H p = none) : Grow Hi H Hi (upd H p o) [p] :=
  ⟨Same.refl _, same_new n, s.trans (same_new n), fun a z => by
    have e : a = p := by simpa using z
    rw [e]
    exact n, fun a u e => .inl ⟨u, e⟩⟩

/-! ### operations by values -/
/-- two operands -/
def OpT (K : PySem.W.Frag) (r : R2) (f : Tr → Tr → Option Tr) : Prop := ∀ t u w, f t u = some w → ∀ Hi H x y F G, Same Hi H → RepT K Hi H x t F → RepT K Hi H y u G → ∀ Q : VK,
  (∀ v Hi' H' W, RepT K Hi' H' v w W → Grow Hi H Hi' H' W → Q v H') → r x y H Q
/-- one operand -/
def UnT (K : PySem.W.Frag) (r : V → Hp → VK → Prop) (f : Tr → Option Tr) : Prop := ∀ t w, f t = some w → ∀ Hi H x F, Same Hi H → RepT K Hi H x t F → ∀ Q : VK,
  (∀ v Hi' H' W, RepT K Hi' H' v w W → Grow Hi H Hi' H' W → Q v H') → r x H Q
/-- what is handed in, one by one -/
inductive RepVs (K : PySem.W.Frag) (Hi H : Hp) : List V → List Tr → Prop
  | nil : RepVs K Hi H [] []
  | cons {v : V} {vs : List V} {t : Tr} {ts : List Tr} {F : List Addr} : RepT K Hi H v t F → RepVs K Hi H vs ts → RepVs K Hi H (v :: vs) (t :: ts)
def CallT (K : PySem.W.Frag) (r : List V → Hp → VK → Prop) (f : List Tr → Option Tr) : Prop := ∀ ts w, f ts = some w → ∀ Hi H xs, Same Hi H → RepVs K Hi H xs ts → ∀ Q : VK,
  (∀ v Hi' H' W, RepT K Hi' H' v w W → Grow Hi H Hi' H' W → Q v H') → r xs H Q
/-- x.m(..) that changes nothing -/
def MetT (K : PySem.W.Frag) (r : V → List V → Hp → VK → Prop) (f : Tr → List Tr → Option Tr) : Prop := ∀ t ts w, f t ts = some w → ∀ Hi H x xs F, Same Hi H → RepT K Hi H x t F → RepVs K Hi H xs ts → ∀ Q : VK,
  (∀ v Hi' H' W, RepT K Hi' H' v w W → Grow Hi H Hi' H' W → Q v H') → r x xs H Q

def viewsR (E : En) : List Rf → Option (List Tr)
  | [] => some []
  | o :: os => (viewR E o).bind fun t => (viewsR E os).map (t :: ·)
def views (E : En) : List Rf → Option (List Tr)
  | [] => some []
  | o :: os => (view E o).bind fun t => (views E os).map (t :: ·)
theorem RepE.views (h : RepE K A Hi H σ E Fs) : ∀ {vs : List V} {os : List Rf} {G : List Addr} {ts : List Tr}, RepRs K Hi H σ vs os G → views E os = some ts → RepVs K Hi H vs ts
  | _, _, _, _, .nil, q => by
    have q' : some [] = some _ := q
    cases q'
    exact .nil
  | _, _, _, _, .cons r rs _, q => by
    rw [FL.views, Option.bind_eq_some_iff] at q
    obtain ⟨t, q1, q2⟩ := q
    rw [Option.map_eq_some_iff] at q2
    obtain ⟨ts, q2, rfl⟩ := q2
    obtain ⟨G, rt⟩ := h.view r q1
    exact .cons rt (RepE.views h rs q2)

/-! ### operands -/
theorem stepN {F : Addr → Prop} : Step Hi H F Hi H (fun a => F a ∨ a ∈ ([] : List Addr)) := (Step.refl Hi H F).weak fun x z => z.elim id fun y => nomatch y
def mVar (i : Nat) : MR := fun E => (at? E i).bind fun _ => some (.slot i, E)
theorem er_var {i : Nat} : ER K (tVar i) (mVar i) := fun E o E' q A σ Hi H Fs h Q k => by
  unfold mVar at q
  rw [Option.bind_eq_some_iff] at q
  obtain ⟨t, q1, q2⟩ := q
  cases q2
  obtain ⟨v, e, _⟩ := h.val i t q1
  exact ⟨v, e, k v Hi H Fs [] (.slot e) h (fun a z => nomatch z) stepN⟩
def mC (d : PyData) : MF := fun E => some (.imm d, E)
theorem fr_d {v : V} {d : PyData} (hd : ∀ H, Dp K H v d) : FR K (tC v) (mC d) := fun E t E' q A σ Hi H Fs h Q k => by
  cases q
  exact k v Hi H Fs [] (.imm (hd Hi)) h (fun a z => nomatch z) stepN
theorem fr_int {i : Int} : FR K (tC (.int i)) (mC (.int i)) := fr_d fun _ => .int i
theorem fr_bl {b : Bool} : FR K (tC (.bl b)) (mC (.bool b)) := fr_d fun _ => .bl b
theorem fr_str {x : Str} : FR K (tC (.str x)) (mC (.str x)) := fr_d fun _ => .str x
theorem fr_non : FR K (tC .non) (mC .none) := fr_d fun _ => .non
theorem RepT.imm_inv {v : V} {d : PyData} {F : List Addr} (h : RepT K Hi H v (.imm d) F) : Dp K Hi v d ∧ F = [] := by
  cases h with
  | imm h => exact ⟨h, rfl⟩
/-- what is one's own stands still from now on -/
def fzH (Hi H : Hp) (G : List Addr) : Hp := fun a => if a ∈ G then H a else Hi a
theorem fz_same {G : List Addr} (o : ∀ a ∈ G, Hi a = none) : Same Hi (fzH Hi H G) := fun a u e => by
  have : a ∉ G := fun z => by rw [o a z] at e; cases e
  unfold fzH
  rw [if_neg this]
  exact e
theorem fz_in {G : List Addr} {a : Addr} (h : a ∈ G) : fzH Hi H G a = H a := if_pos h
theorem fz_sub {G : List Addr} (s : Same Hi H) : Same (fzH Hi H G) H := fun a u e => by
  unfold fzH at e
  split at e
  · exact e
  · exact s a u e
theorem fz_step {G : List Addr} {F : Addr → Prop} (o : ∀ a ∈ G, Hi a = none) : Step Hi H (fun a => F a ∨ a ∈ G) (fzH Hi H G) H F :=
  ⟨fz_same o, fun _ _ e _ => e, fun _ z => .inl (.inl z), fun a u e => by
    by_cases ha : a ∈ G
    · exact .inr (.inl (.inr ha))
    · unfold fzH at e
      rw [if_neg ha] at e
      exact .inl ⟨u, e⟩⟩
/-- an operand made of a value of one's own -/
def mER (m : MF) : MR := fun E => (m E).bind fun p => some (.own p.1, p.2)
theorem er_of {te : TE} {m : MF} (hm : FR K te m) : ER K te (mER m) := fun E o E' q A σ Hi H Fs h Q k => by
  unfold mER at q
  rw [Option.bind_eq_some_iff] at q
  obtain ⟨⟨t, E1⟩, q1, q2⟩ := q
  cases q2
  exact hm E t E1 q1 A σ Hi H Fs h Q fun v Hi1 H1 Fs1 G rt h1 da st => k v Hi1 H1 Fs1 G (.own rt) h1 da st
/-- a name's value, kept: it stands still from now on -/
def mFz (m : MR) : MF := fun E => (m E).bind fun p => match p.1 with
  | .own t => some (t, p.2)
  | .slot i => match p.2[i]? with
    | some (.val (.imm d)) => some (.imm d, p.2)
    | some (.val (.tpl ds)) => some (.imm (.tuple ds), p.2)
    | some (.val t) => t.toD.bind fun d => some (.imm d, p.2.set i (.val (.imm d)))
    | some (.par (.imm d)) => some (.imm d, p.2)
    | _ => none
theorem at_val {E : En} {i : Nat} {t : Tr} (h : E[i]? = some (.val t)) : at? E i = some t := by
  unfold at?
  rw [h]
  rfl
theorem at_par {E : En} {i : Nat} {t : Tr} (h : E[i]? = some (.par t)) : at? E i = some t := by
  unfold at?
  rw [h]
  rfl
theorem at_set {E : En} {i j : Nat} {s : SL} : at? (E.set i s) j = if i = j ∧ i < E.length then s.tree else at? E j := by
  unfold at?
  rw [List.getElem?_set]
  by_cases hi : i = j
  · subst hi
    by_cases hl : i < E.length
    · rw [if_pos rfl, if_pos hl, if_pos ⟨rfl, hl⟩] <;> rfl
    · have : E[i]? = none := List.getElem?_eq_none_iff.mpr (by omega)
      rw [if_pos rfl, if_neg hl, if_neg (fun z => hl z.2), this]
  · rw [if_neg hi, if_neg (fun z => hi z.1)]
theorem lt_of_at {E : En} {i : Nat} {s : SL} (h : E[i]? = some s) : i < E.length := (List.getElem?_eq_some_iff.mp h).1
/-- another footprint at a place -/
def fset (Fs : Nat → List Addr) (i : Nat) (G : List Addr) : Nat → List Addr := fun j => if j = i then G else Fs j
theorem fset_same {Fs : Nat → List Addr} {i : Nat} {G : List Addr} : fset Fs i G i = G := if_pos rfl
theorem fset_ne {Fs : Nat → List Addr} {i j : Nat} {G : List Addr} (h : j ≠ i) : fset Fs i G j = Fs j := if_neg h
theorem inE_fset {Fs : Nat → List Addr} {i : Nat} {G : List Addr} {a : Addr} (h : InE (fset Fs i G) a) : InE Fs a ∨ a ∈ G := by
  obtain ⟨j, hj⟩ := h
  by_cases e : j = i
  · subst e
    rw [fset_same] at hj
    exact .inr hj
  · rw [fset_ne e] at hj
    exact .inl ⟨j, hj⟩
/-- a place's tree is another one now; all else is as it was -/
theorem RepE.put {i : Nat} {t' : Tr} {s s' : SL} {G : List Addr} {v : V} {σ' : L2.St} (h : RepE K A Hi H σ E Fs) (he : E[i]? = some s) (hs : s'.tree = some t') (hp : ∀ t, s' = .par t → ∃ v, σ'[i]? = some (some v) ∧ A[i]? = some v)
    (st : Step Hi H (fun a => a ∈ Fs i ∨ a ∈ G) Hi' H' (fun a => a ∈ G)) (dg : ∀ a ∈ G, ∀ j, j ≠ i → a ∉ Fs j) (sub : Same Hi' H')
    (hl : σ'.length = σ.length) (hv : σ'[i]? = some (some v)) (ho : ∀ j, j ≠ i → σ'[j]? = σ[j]?) (r : RepT K Hi' H' v t' G) : RepE K A Hi' H' σ' (E.set i s') (fset Fs i G) := by
  have hlt := lt_of_at he
  refine ⟨sub, by rw [List.length_set, h.len, hl], fun j t q => ?_, fun j t q => ?_, fun j q => ?_, fun j k a hj hk => ?_⟩
  · rw [at_set] at q
    by_cases e : i = j
    · subst e
      rw [if_pos ⟨rfl, hlt⟩, hs] at q
      cases q
      exact ⟨v, hv, by rw [fset_same]; exact r⟩
    · rw [if_neg (fun z => e z.1)] at q
      obtain ⟨u, e1, r1⟩ := h.val j t q
      refine ⟨u, by rw [ho j (Ne.symm e)]; exact e1, ?_⟩
      rw [fset_ne (Ne.symm e)]
      refine st.keep r1 fun x hx z => ?_
      rcases z with z | z
      · exact e (h.dis i j x z hx)
      · exact dg x z j (Ne.symm e) hx
  · rw [List.getElem?_set] at q
    by_cases e : i = j
    · subst e
      rw [if_pos rfl, if_pos hlt] at q
      exact hp t (Option.some.inj q)
    · rw [if_neg e] at q
      obtain ⟨u, e1, e2⟩ := h.par j t q
      exact ⟨u, by rw [ho j (Ne.symm e)]; exact e1, e2⟩
  · rw [at_set] at q
    by_cases e : i = j
    · subst e
      rw [if_pos ⟨rfl, hlt⟩, hs] at q
      cases q
    · rw [if_neg (fun z => e z.1)] at q
      rw [fset_ne (Ne.symm e)]
      exact h.no j q
  · by_cases e1 : j = i
    · subst e1
      rw [fset_same] at hj
      by_cases e2 : k = j
      · exact e2.symm
      · rw [fset_ne e2] at hk
        exact absurd hk (dg a hj k e2)
    · rw [fset_ne e1] at hj
      by_cases e2 : k = i
      · subst e2
        rw [fset_same] at hk
        exact absurd hj (dg a hk j e1)
      · rw [fset_ne e2] at hk
        exact h.dis j k a hj hk
theorem fr_of {te : TE} {m : MR} (hm : ER K te m) : FR K te (mFz m) := fun E t E' q A σ Hi H Fs h Q k => by
  unfold mFz at q
  rw [Option.bind_eq_some_iff] at q
  obtain ⟨⟨o, E1⟩, q1, q2⟩ := q
  refine hm E o E1 q1 A σ Hi H Fs h Q fun v Hi1 H1 Fs1 G r h1 dg st => ?_
  cases r with
  | own r =>
    cases q2
    exact k v Hi1 H1 Fs1 G r h1 dg st
  | @slot i _ r' =>
    have st : Step Hi H (InE Fs) Hi1 H1 (InE Fs1) := st.weak fun x z => .inl z
    have still : ∀ d, Dp K Hi1 v d → t = .imm d → E' = E1 → Q v H1 := fun d hd e1 e2 => by
      subst e1 e2
      exact k v Hi1 H1 Fs1 [] (.imm hd) h1 (fun a z => nomatch z) (st.weak fun x z => z.elim id fun y => nomatch y)
    have q2' : (match E1[i]? with
      | some (.val (.imm d)) => some (Tr.imm d, E1)
      | some (.val (.tpl ds)) => some (Tr.imm (.tuple ds), E1)
      | some (.val t) => t.toD.bind fun d => some (.imm d, E1.set i (.val (.imm d)))
      | some (.par (.imm d)) => some (.imm d, E1)
      | _ => none) = some (t, E') := q2
    have seen : ∀ t0, at? E1 i = some t0 → RepT K Hi1 H1 v t0 (Fs1 i) := fun t0 e => by
      obtain ⟨u, e1, r1⟩ := h1.val i t0 e
      rw [r'] at e1
      cases e1
      exact r1
    split at q2'
    · rename_i d e
      cases q2'
      have z := seen _ (at_val e)
      exact still d z.imm_inv.1 rfl rfl
    · rename_i ds e
      cases q2'
      have z := seen _ (at_val e)
      exact still _ z.plain.imm_inv.1 rfl rfl
    · rename_i t0 _ _ e
      rw [Option.bind_eq_some_iff] at q2'
      obtain ⟨d, e2, e3⟩ := q2'
      cases e3
      have rt := seen _ (at_val e)
      have og : ∀ a ∈ Fs1 i, Hi1 a = none := fun a ha => (rt.own _ _ _ a ha).1
      have hd := rt.froz (fz_same (H := H1) og) _ _ _ d (fun a ha => fz_in ha) e2
      have s1 : Step Hi1 H1 (fun a => a ∈ Fs1 i ∨ a ∈ ([] : List Addr)) (fzH Hi1 H1 (Fs1 i)) H1 (fun a => a ∈ ([] : List Addr)) :=
        ⟨fz_same og, fun _ _ e _ => e, fun _ z => (nomatch z), fun a u e => by
          by_cases ha : a ∈ Fs1 i
          · exact .inr (.inl (.inl ha))
          · unfold fzH at e
            rw [if_neg ha] at e
            exact .inl ⟨u, e⟩⟩
      refine k v (fzH Hi1 H1 (Fs1 i)) H1 (fset Fs1 i []) [] (.imm hd) (h1.put e rfl (fun t z => by cases z) s1 (fun a z => nomatch z) (fz_sub h1.sub) rfl r' (fun _ _ => rfl) (.imm hd)) (fun a z => nomatch z) ?_
      refine st.trans ⟨fz_same og, fun _ _ e _ => e, fun x z => ?_, fun a u e => ?_⟩
      · rcases z with z | z
        · rcases inE_fset z with z | z
          · exact .inl z
          · cases z
        · cases z
      · by_cases ha : a ∈ Fs1 i
        · exact .inr (.inl ⟨i, ha⟩)
        · unfold fzH at e
          rw [if_neg ha] at e
          exact .inl ⟨u, e⟩
    · rename_i d e
      cases q2'
      have z := seen _ (at_par e)
      exact still d z.imm_inv.1 rfl rfl
    · cases q2'
end
end FL

/-! FL, part C: expressions. -/
namespace FL
open PySem L2
section
variable {K : PySem.W.Frag} {A : List V} {Hi H Hi' H' : Hp} {σ : L2.St} {E : En} {Fs : Nat → List Addr} {ta tb te : TE} {ma mb : MR} {m m' : MF}
/-- two readings in a row -/
theorem Step.seq {Hi1 H1 Hi2 H2 : Hp} {F F1 F2 : Addr → Prop} {G : List Addr} (a : Step Hi H F Hi1 H1 (fun x => F1 x ∨ x ∈ G)) (b : Step Hi1 H1 F1 Hi2 H2 F2) : Step Hi H F Hi2 H2 F2 := (a.weak fun _ z => .inl z).trans b

def mOp (f : Tr → Tr → Option Tr) (ma mb : MR) : MF := fun E => (ma E).bind fun p => (mb p.2).bind fun q => (view q.2 p.1).bind fun t => (view q.2 q.1).bind fun u => (f t u).bind fun w => some (w, q.2)
theorem fr_op {r : R2} {f : Tr → Tr → Option Tr} (ha : ER K ta ma) (hb : ER K tb mb) (hr : OpT K r f) : FR K (tOp r ta tb) (mOp f ma mb) := fun E w E' q A σ Hi H Fs h Q k => by
  unfold mOp at q
  obtain ⟨⟨o1, E1⟩, q1, q⟩ := Option.bind_eq_some_iff.mp q
  obtain ⟨⟨o2, E2⟩, q2, q⟩ := Option.bind_eq_some_iff.mp q
  obtain ⟨t, q3, q⟩ := Option.bind_eq_some_iff.mp q
  obtain ⟨u, q4, q⟩ := Option.bind_eq_some_iff.mp q
  obtain ⟨w', q5, q⟩ := Option.bind_eq_some_iff.mp q
  cases q
  refine ha E o1 E1 q1 A σ Hi H Fs h _ fun v1 Hi1 H1 Fs1 G1 r1 h1 d1 s1 => ?_
  refine hb E1 o2 E2 q2 A σ Hi1 H1 Fs1 h1 _ fun v2 Hi2 H2 Fs2 G2 r2 h2 d2 s2 => ?_
  obtain ⟨F1, rt⟩ := h2.view (s2.keepR r1 d1) q3
  obtain ⟨F2, ru⟩ := h2.view r2 q4
  exact hr t u _ q5 Hi2 H2 v1 v2 F1 F2 h2.sub rt ru Q fun v Hi3 H3 W rw g => k v Hi3 H3 Fs2 W rw (h2.grow g) (h2.fresh g) (s1.seq (s2.seq (g.step _)))
def mUn (f : Tr → Option Tr) (ma : MR) : MF := fun E => (ma E).bind fun p => (view p.2 p.1).bind fun t => (f t).bind fun w => some (w, p.2)
theorem fr_un {r : V → Hp → VK → Prop} {f : Tr → Option Tr} (ha : ER K ta ma) (hr : UnT K r f) : FR K (tUn r ta) (mUn f ma) := fun E w E' q A σ Hi H Fs h Q k => by
  unfold mUn at q
  obtain ⟨⟨o1, E1⟩, q1, q⟩ := Option.bind_eq_some_iff.mp q
  obtain ⟨t, q3, q⟩ := Option.bind_eq_some_iff.mp q
  obtain ⟨w', q5, q⟩ := Option.bind_eq_some_iff.mp q
  cases q
  refine ha E o1 E1 q1 A σ Hi H Fs h _ fun v1 Hi1 H1 Fs1 G1 r1 h1 d1 s1 => ?_
  obtain ⟨F1, rt⟩ := h1.view r1 q3
  exact hr t _ q5 Hi1 H1 v1 F1 h1.sub rt Q fun v Hi3 H3 W rw g => k v Hi3 H3 Fs1 W rw (h1.grow g) (h1.fresh g) (s1.seq (g.step _))

/-! ### tests -/
def bOf : Tr → Option Bool
  | .imm (.bool b) => some b
  | _ => none
theorem bOf_inv {t : Tr} {b : Bool} (h : bOf t = some b) : t = .imm (.bool b) := by
  unfold bOf at h
  split at h
  · cases h; rfl
  · cases h
theorem RepT.bl_inv {v : V} {b : Bool} {F : List Addr} (h : RepT K Hi H v (.imm (.bool b)) F) : v = .bl b ∧ F = [] := by
  obtain ⟨d, e⟩ := h.imm_inv
  cases d
  exact ⟨rfl, e⟩
theorem RepT.int_inv {v : V} {i : Int} {F : List Addr} (h : RepT K Hi H v (.imm (.int i)) F) : v = .int i ∧ F = [] := by
  obtain ⟨d, e⟩ := h.imm_inv
  cases d
  exact ⟨rfl, e⟩
theorem RepT.str_inv {v : V} {i : Str} {F : List Addr} (h : RepT K Hi H v (.imm (.str i)) F) : v = .str i ∧ F = [] := by
  obtain ⟨d, e⟩ := h.imm_inv
  cases d
  exact ⟨rfl, e⟩
theorem RepT.non_inv {v : V} {F : List Addr} (h : RepT K Hi H v (.imm .none) F) : v = .non ∧ F = [] := by
  obtain ⟨d, e⟩ := h.imm_inv
  cases d
  exact ⟨rfl, e⟩
def mTest (m : MF) : MT := fun E => (m E).bind fun p => (bOf p.1).bind fun b => some (b, p.2)
theorem tr_val {tt : TT} (ht : tt = fun σ H Q => te σ H fun x H' => ∃ k, x = .bl k ∧ Q k H') (h : FR K te m) : TR K tt (mTest m) := fun E b E' q A σ Hi H Fs hE Q k => by
  unfold mTest at q
  obtain ⟨⟨t, E1⟩, q1, q⟩ := Option.bind_eq_some_iff.mp q
  obtain ⟨b', q2, q⟩ := Option.bind_eq_some_iff.mp q
  cases q
  rw [ht]
  refine h E t E1 q1 A σ Hi H Fs hE _ fun v Hi1 H1 Fs1 G r h1 d s => ?_
  have e := bOf_inv q2
  subst e
  obtain ⟨e, _⟩ := r.bl_inv
  exact ⟨_, e, k Hi1 H1 Fs1 h1 (s.weak fun x z => .inl z)⟩
theorem tr_test (h : FR K te m) : TR K (tTest te) (mTest m) := tr_val rfl h
theorem tr_B (h : FR K te m) : TR K (tB te) (mTest m) := tr_val rfl h
section
variable {t u : TT} {mt mu : MT}
def mAnd (mt mu : MT) : MT := fun E => (mt E).bind fun p => if p.1 = true then mu p.2 else some (false, p.2)
theorem tr_and (ht : TR K t mt) (hu : TR K u mu) : TR K (tAnd t u) (mAnd mt mu) := fun E b E' q A σ Hi H Fs hE Q k => by
  unfold mAnd at q
  obtain ⟨⟨c, E1⟩, q1, q⟩ := Option.bind_eq_some_iff.mp q
  refine ht E c E1 q1 A σ Hi H Fs hE _ fun Hi1 H1 Fs1 h1 s1 => ?_
  cases c with
  | true =>
    rw [if_pos rfl] at q ⊢
    exact hu E1 b E' q A σ Hi1 H1 Fs1 h1 Q fun Hi2 H2 Fs2 h2 s2 => k Hi2 H2 Fs2 h2 (s1.trans s2)
  | false =>
    rw [if_neg Bool.false_ne_true] at q ⊢
    cases q
    exact k Hi1 H1 Fs1 h1 s1
def mOr (mt mu : MT) : MT := fun E => (mt E).bind fun p => if p.1 = true then some (true, p.2) else mu p.2
theorem tr_or (ht : TR K t mt) (hu : TR K u mu) : TR K (tOr t u) (mOr mt mu) := fun E b E' q A σ Hi H Fs hE Q k => by
  unfold mOr at q
  obtain ⟨⟨c, E1⟩, q1, q⟩ := Option.bind_eq_some_iff.mp q
  refine ht E c E1 q1 A σ Hi H Fs hE _ fun Hi1 H1 Fs1 h1 s1 => ?_
  cases c with
  | true =>
    rw [if_pos rfl] at q ⊢
    cases q
    exact k Hi1 H1 Fs1 h1 s1
  | false =>
    rw [if_neg Bool.false_ne_true] at q ⊢
    exact hu E1 b E' q A σ Hi1 H1 Fs1 h1 Q fun Hi2 H2 Fs2 h2 s2 => k Hi2 H2 Fs2 h2 (s1.trans s2)
def mNot (mt : MT) : MT := fun E => (mt E).bind fun p => some (!p.1, p.2)
theorem tr_not (ht : TR K t mt) : TR K (tNot t) (mNot mt) := fun E b E' q A σ Hi H Fs hE Q k => by
  unfold mNot at q
  obtain ⟨⟨c, E1⟩, q1, q⟩ := Option.bind_eq_some_iff.mp q
  cases q
  exact ht E c E1 q1 A σ Hi H Fs hE _ fun Hi1 H1 Fs1 h1 s1 => k Hi1 H1 Fs1 h1 s1
/-- a value's truth -/
def truT : Tr → Option Bool
  | .imm .none => some false
  | .imm (.bool b) => some b
  | .imm (.int i) => some (i != 0)
  | .imm (.str z) => if z.length ≤ 16777216 then some ((z.length : Int) != 0) else none
  | .imm (.list ds) => some (!ds.isEmpty)
  | .imm (.tuple ds) => some (!ds.isEmpty)
  | .imm (.dict _) => none
  | .lst ts => some (!ts.isEmpty)
  | .dic kvs => some (!kvs.isEmpty)
  | .tpl _ => none
theorem dpAll_len : ∀ {ds : List PyData} {vs : List V}, DpAll K H vs ds → vs.length = ds.length
  | _, _, .nil => rfl
  | _, _, .cons _ t => congrArg (· + 1) (dpAll_len t)
theorem emp_len {α β : Type} {xs : List α} {ys : List β} (h : xs.length = ys.length) : xs.isEmpty = ys.isEmpty := by
  cases xs <;> cases ys <;> first | rfl | cases h
theorem tru_ok {x : V} {t : Tr} {F : List Addr} {b : Bool} (s : Same Hi H) (r : RepT K Hi H x t F) (q : truT t = some b) : TruV K x H b := by
  cases r with
  | imm h =>
    cases h with
    | non => cases q; rfl
    | bl b => cases q; rfl
    | int i => cases q; rfl
    | str z =>
      rw [truT] at q
      split at q
      · rename_i hz
        cases q
        exact ⟨by rw [sizeLine_eq]; exact hz, rfl⟩
      · cases q
    | lst hs ha => cases q; exact .inl ⟨_, s.seq hs, by rw [emp_len (dpAll_len ha)]⟩
    | tup hs ha => cases q; exact .inr (.inl ⟨_, seqT s hs, by rw [emp_len (dpAll_len ha)]⟩)
  | lst h1 h2 h3 h4 => cases q; exact .inl ⟨_, .inl (.inl h1), by rw [emp_len h3.length]⟩
  | dic h1 h2 h3 => cases q; exact .inr (.inr ⟨_, h1, by rw [emp_len (Paired.length h3)]⟩)
  | tpl _ _ _ => cases q
def mTru (ma : MR) : MT := fun E => (ma E).bind fun p => (view p.2 p.1).bind fun t => (truT t).bind fun b => some (b, p.2)
theorem tr_tru (h : ER K te ma) : TR K (fun σ H Q => te σ H fun x H' => ∃ k, TruV K x H' k ∧ Q k H') (mTru ma) := fun E b E' q A σ Hi H Fs hE Q k => by
  unfold mTru at q
  obtain ⟨⟨o, E1⟩, q1, q⟩ := Option.bind_eq_some_iff.mp q
  obtain ⟨t, q2, q⟩ := Option.bind_eq_some_iff.mp q
  obtain ⟨b', q3, q⟩ := Option.bind_eq_some_iff.mp q
  cases q
  refine h E o E1 q1 A σ Hi H Fs hE _ fun v Hi1 H1 Fs1 G r h1 d s => ?_
  obtain ⟨F, rt⟩ := h1.view r q2
  exact ⟨_, tru_ok h1.sub rt q3, k Hi1 H1 Fs1 h1 (s.weak fun x z => .inl z)⟩
/-- truths as values -/
def mAndV (m m' : MF) : MF := fun E => (m E).bind fun p => (bOf p.1).bind fun b => if b = true then m' p.2 else some (.imm (.bool false), p.2)
theorem fr_andV (h : FR K ta m) (h' : FR K tb m') : FR K (tAndV ta tb) (mAndV m m') := fun E w E' q A σ Hi H Fs hE Q k => by
  unfold mAndV at q
  obtain ⟨⟨t, E1⟩, q1, q⟩ := Option.bind_eq_some_iff.mp q
  obtain ⟨b, q2, q⟩ := Option.bind_eq_some_iff.mp q
  have e := bOf_inv q2
  subst e
  refine h E _ E1 q1 A σ Hi H Fs hE _ fun v Hi1 H1 Fs1 G r h1 d s => ?_
  obtain ⟨e, _⟩ := r.bl_inv
  refine ⟨b, e, ?_⟩
  cases b with
  | true =>
    rw [if_pos rfl] at q ⊢
    exact h' E1 w E' q A σ Hi1 H1 Fs1 h1 Q fun v2 Hi2 H2 Fs2 G2 r2 h2 d2 s2 => k v2 Hi2 H2 Fs2 G2 r2 h2 d2 (s.seq s2)
  | false =>
    rw [if_neg Bool.false_ne_true] at q ⊢
    cases q
    exact k _ Hi1 H1 Fs1 [] (.imm (.bl false)) h1 (fun a z => nomatch z) ((s.weak fun x z => .inl z).weak fun x z => z.elim id fun y => nomatch y)
def mOrV (m m' : MF) : MF := fun E => (m E).bind fun p => (bOf p.1).bind fun b => if b = true then some (.imm (.bool true), p.2) else m' p.2
theorem fr_orV (h : FR K ta m) (h' : FR K tb m') : FR K (tOrV ta tb) (mOrV m m') := fun E w E' q A σ Hi H Fs hE Q k => by
  unfold mOrV at q
  obtain ⟨⟨t, E1⟩, q1, q⟩ := Option.bind_eq_some_iff.mp q
  obtain ⟨b, q2, q⟩ := Option.bind_eq_some_iff.mp q
  have e := bOf_inv q2
  subst e
  refine h E _ E1 q1 A σ Hi H Fs hE _ fun v Hi1 H1 Fs1 G r h1 d s => ?_
  obtain ⟨e, _⟩ := r.bl_inv
  refine ⟨b, e, ?_⟩
  cases b with
  | true =>
    rw [if_pos rfl] at q ⊢
    cases q
    exact k _ Hi1 H1 Fs1 [] (.imm (.bl true)) h1 (fun a z => nomatch z) ((s.weak fun x z => .inl z).weak fun x z => z.elim id fun y => nomatch y)
  | false =>
    rw [if_neg Bool.false_ne_true] at q ⊢
    exact h' E1 w E' q A σ Hi1 H1 Fs1 h1 Q fun v2 Hi2 H2 Fs2 G2 r2 h2 d2 s2 => k v2 Hi2 H2 Fs2 G2 r2 h2 d2 (s.seq s2)
def mNotV (m : MF) : MF := fun E => (m E).bind fun p => (bOf p.1).bind fun b => some (.imm (.bool (!b)), p.2)
theorem fr_notV (h : FR K ta m) : FR K (tNotV ta) (mNotV m) := fun E w E' q A σ Hi H Fs hE Q k => by
  unfold mNotV at q
  obtain ⟨⟨t, E1⟩, q1, q⟩ := Option.bind_eq_some_iff.mp q
  obtain ⟨b, q2, q⟩ := Option.bind_eq_some_iff.mp q
  have e := bOf_inv q2
  subst e
  cases q
  refine h E _ E1 q1 A σ Hi H Fs hE _ fun v Hi1 H1 Fs1 G r h1 d s => ?_
  obtain ⟨e, _⟩ := r.bl_inv
  exact ⟨b, e, k _ Hi1 H1 Fs1 [] (.imm (.bl (!b))) h1 (fun a z => nomatch z) ((s.weak fun x z => .inl z).weak fun x z => z.elim id fun y => nomatch y)⟩
def mIf (mt : MT) (m m' : MF) : MF := fun E => (mt E).bind fun p => if p.1 = true then m p.2 else m' p.2
theorem fr_if (ht : TR K t mt) (h : FR K ta m) (h' : FR K tb m') : FR K (tIf t ta tb) (mIf mt m m') := fun E w E' q A σ Hi H Fs hE Q k => by
  unfold mIf at q
  obtain ⟨⟨c, E1⟩, q1, q⟩ := Option.bind_eq_some_iff.mp q
  refine ht E c E1 q1 A σ Hi H Fs hE _ fun Hi1 H1 Fs1 h1 s1 => ?_
  cases c with
  | true =>
    rw [if_pos rfl] at q ⊢
    exact h E1 w E' q A σ Hi1 H1 Fs1 h1 Q fun v2 Hi2 H2 Fs2 G2 r2 h2 d2 s2 => k v2 Hi2 H2 Fs2 G2 r2 h2 d2 (s1.trans s2)
  | false =>
    rw [if_neg Bool.false_ne_true] at q ⊢
    exact h' E1 w E' q A σ Hi1 H1 Fs1 h1 Q fun v2 Hi2 H2 Fs2 G2 r2 h2 d2 s2 => k v2 Hi2 H2 Fs2 G2 r2 h2 d2 (s1.trans s2)
end

/-- a < b < c -/
def mChain (f f' : Tr → Tr → Option Tr) (ma mb mc : MR) : MF := fun E => (ma E).bind fun p => (mb p.2).bind fun q => (view q.2 p.1).bind fun t => (view q.2 q.1).bind fun u => (f t u).bind fun w => (bOf w).bind fun b =>
  if b = true then (mc q.2).bind fun r => (view r.2 q.1).bind fun u' => (view r.2 r.1).bind fun x => (f' u' x).bind fun w' => some (w', r.2) else some (.imm (.bool false), q.2)
theorem fr_chain {tc : TE} {mc : MR} {r r' : R2} {f f' : Tr → Tr → Option Tr} (ha : ER K ta ma) (hb : ER K tb mb) (hc : ER K tc mc) (hr : OpT K r f) (hr' : OpT K r' f') : FR K (tChain r r' ta tb tc) (mChain f f' ma mb mc) := fun E w E' q A σ Hi H Fs h Q k => by
  unfold mChain at q
  obtain ⟨⟨o1, E1⟩, q1, q⟩ := Option.bind_eq_some_iff.mp q
  obtain ⟨⟨o2, E2⟩, q2, q⟩ := Option.bind_eq_some_iff.mp q
  obtain ⟨t, q3, q⟩ := Option.bind_eq_some_iff.mp q
  obtain ⟨u, q4, q⟩ := Option.bind_eq_some_iff.mp q
  obtain ⟨w', q5, q⟩ := Option.bind_eq_some_iff.mp q
  obtain ⟨b, q6, q⟩ := Option.bind_eq_some_iff.mp q
  rw [bOf_inv q6] at q5
  refine ha E o1 E1 q1 A σ Hi H Fs h _ fun v1 Hi1 H1 Fs1 G1 r1 h1 d1 s1 => ?_
  refine hb E1 o2 E2 q2 A σ Hi1 H1 Fs1 h1 _ fun v2 Hi2 H2 Fs2 G2 r2 h2 d2 s2 => ?_
  obtain ⟨F1, rt⟩ := h2.view (s2.keepR r1 d1) q3
  obtain ⟨F2, ru⟩ := h2.view r2 q4
  refine hr t u _ q5 Hi2 H2 v1 v2 F1 F2 h2.sub rt ru _ fun v Hi3 H3 W rw g => ?_
  obtain ⟨e, eW⟩ := rw.bl_inv
  subst eW
  refine ⟨b, e, ?_⟩
  have s3 : Step Hi H (InE Fs) Hi3 H3 (InE Fs2) := s1.seq (s2.seq ((g.step _).weak fun x z => .inl z))
  have h3 := h2.grow g
  cases b with
  | true =>
    dsimp only at q ⊢
    rw [if_pos rfl] at q ⊢
    obtain ⟨⟨o3, E3⟩, q7, q⟩ := Option.bind_eq_some_iff.mp q
    obtain ⟨u', q8, q⟩ := Option.bind_eq_some_iff.mp q
    obtain ⟨x, q9, q⟩ := Option.bind_eq_some_iff.mp q
    obtain ⟨w2, q10, q⟩ := Option.bind_eq_some_iff.mp q
    cases q
    have r2' := (g.step (fun _ => False)).keepR r2 fun _ _ z => z
    refine hc E2 o3 E3 q7 A σ Hi3 H3 Fs2 h3 _ fun v4 Hi4 H4 Fs4 G4 r4 h4 d4 s4 => ?_
    obtain ⟨F3, ru'⟩ := h4.view (s4.keepR r2' d2) q8
    obtain ⟨F4, rx⟩ := h4.view r4 q9
    exact hr' u' x _ q10 Hi4 H4 v2 v4 F3 F4 h4.sub ru' rx Q fun v Hi5 H5 W rw g => k v Hi5 H5 Fs4 W rw (h4.grow g) (h4.fresh g) (s3.trans (s4.seq (g.step _)))
  | false =>
    dsimp only at q ⊢
    rw [if_neg Bool.false_ne_true] at q ⊢
    cases q
    exact k _ Hi3 H3 Fs2 [] (.imm (.bl false)) h3 (fun a z => nomatch z) (s3.weak fun x z => z.elim id fun y => nomatch y)

/-! ### arguments, displays -/
def arNil : MA := fun E => some ([], E)
theorem ar_nil : AR K tNil arNil := fun E os E' q A σ Hi H Fs h Q k => by
  cases q
  exact k [] Hi H Fs [] .nil h (fun a z => nomatch z) stepN
def arCons (ma : MR) (ms : MA) : MA := fun E => (ma E).bind fun p => (ms p.2).bind fun q => some (p.1 :: q.1, q.2)
theorem ar_cons {tr : TA} {ms : MA} (ha : ER K ta ma) (hs : AR K tr ms) : AR K (tCons ta tr) (arCons ma ms) := fun E os E' q A σ Hi H Fs h Q k => by
  unfold arCons at q
  obtain ⟨⟨o, E1⟩, q1, q⟩ := Option.bind_eq_some_iff.mp q
  obtain ⟨⟨os', E2⟩, q2, q⟩ := Option.bind_eq_some_iff.mp q
  cases q
  refine ha E o E1 q1 A σ Hi H Fs h _ fun v1 Hi1 H1 Fs1 G1 r1 h1 d1 s1 => ?_
  refine hs E1 os' E2 q2 A σ Hi1 H1 Fs1 h1 _ fun vs Hi2 H2 Fs2 G2 r2 h2 d2 s2 => ?_
  have r1' := s2.keepR r1 d1
  have ap := s2.apart (fun x hx => (r1.ownG x hx).2) d1
  refine k (v1 :: vs) Hi2 H2 Fs2 (G1 ++ G2) (.cons r1' r2 fun a ha hb => ap a ha (.inr hb)) h2 (fun a ha hf => ?_) ?_
  · rcases List.mem_append.mp ha with z | z
    · exact ap a z (.inl hf)
    · exact d2 a z hf
  · refine ⟨s1.ex.trans s2.ex, (s1.seq s2).fr, fun x z => ?_, (s1.seq s2).nh⟩
    rcases z with z | z
    · exact (s1.seq s2).nw x (.inl z)
    · rcases List.mem_append.mp z with z | z
      · exact s1.nw x (.inr z)
      · exact (s1.seq s2).nw x (.inr z)
def faNil : MFs := fun E => some ([], E)
theorem fa_nil : FA K tNil faNil := fun E os E' q A σ Hi H Fs h Q k => by
  cases q
  exact k [] Hi H Fs [] .nil h (fun a z => nomatch z) stepN
def faCons (ma : MF) (ms : MFs) : MFs := fun E => (ma E).bind fun p => (ms p.2).bind fun q => some (p.1 :: q.1, q.2)
theorem fa_cons {tr : TA} {ms : MFs} (ha : FR K ta m) (hs : FA K tr ms) : FA K (tCons ta tr) (faCons m ms) := fun E os E' q A σ Hi H Fs h Q k => by
  unfold faCons at q
  obtain ⟨⟨o, E1⟩, q1, q⟩ := Option.bind_eq_some_iff.mp q
  obtain ⟨⟨os', E2⟩, q2, q⟩ := Option.bind_eq_some_iff.mp q
  cases q
  refine ha E o E1 q1 A σ Hi H Fs h _ fun v1 Hi1 H1 Fs1 G1 r1 h1 d1 s1 => ?_
  refine hs E1 os' E2 q2 A σ Hi1 H1 Fs1 h1 _ fun vs Hi2 H2 Fs2 G2 r2 h2 d2 s2 => ?_
  have r1' := s2.keep r1 d1
  have ap := s2.apart (fun x hx => (r1.ownG x hx).2) d1
  refine k (v1 :: vs) Hi2 H2 Fs2 (G1 ++ G2) (.cons r1' r2 fun a ha hb => ap a ha (.inr hb)) h2 (fun a ha hf => ?_) ?_
  · rcases List.mem_append.mp ha with z | z
    · exact ap a z (.inl hf)
    · exact d2 a z hf
  · refine ⟨s1.ex.trans s2.ex, (s1.seq s2).fr, fun x z => ?_, (s1.seq s2).nh⟩
    rcases z with z | z
    · exact (s1.seq s2).nw x (.inl z)
    · rcases List.mem_append.mp z with z | z
      · exact s1.nw x (.inr z)
      · exact (s1.seq s2).nw x (.inr z)
/-- what is held besides stands still from now on -/
theorem RepE.fz {G : List Addr} (h : RepE K A Hi H σ E Fs) (og : ∀ a ∈ G, Hi a = none) (da : ∀ a ∈ G, ¬ InE Fs a) : RepE K A (fzH Hi H G) H σ E Fs := by
  refine h.keep (F := fun a => a ∈ G) (F' := fun _ => False) ⟨fz_same og, fun _ _ e _ => e, fun _ z => z.elim, fun a u e => ?_⟩ (fz_sub h.sub) fun x hx hg => da x hg hx
  by_cases ha : a ∈ G
  · exact .inr (.inl ha)
  · unfold fzH at e
    rw [if_neg ha] at e
    exact .inl ⟨u, e⟩
def mTup (ms : MFs) : MF := fun E => (ms E).bind fun p => (Tr.toDs p.1).bind fun ds => if p.1.length ≤ 16777216 then some (.imm (.tuple ds), p.2) else none
theorem fr_tup {tr : TA} {ms : MFs} (hs : FA K tr ms) : FR K (tTup tr) (mTup ms) := fun E w E' q A σ Hi H Fs h Q k => by
  unfold mTup at q
  obtain ⟨⟨ts, E1⟩, q1, q⟩ := Option.bind_eq_some_iff.mp q
  obtain ⟨ds, q2, q⟩ := Option.bind_eq_some_iff.mp q
  split at q
  · rename_i hl
    cases q
    refine hs E ts E1 q1 A σ Hi H Fs h _ fun vs Hi1 H1 Fs1 G r h1 d s => ?_
    refine ⟨by rw [sizeLine_eq, r.length]; exact hl, fun p hp => ?_⟩
    have og : ∀ a ∈ G, Hi1 a = none := fun a ha => (r.ownG a ha).1
    have hd : DpAll K (fzH Hi1 H1 G) vs ds := r.froz (fz_same og) _ _ _ ds (fun a ha => fz_in ha) q2
    have h2 := h1.fz og d
    have g : Grow (fzH Hi1 H1 G) H1 (upd (fzH Hi1 H1 G) p (.tup vs)) (upd H1 p (.tup vs)) [] := Grow.imm h2.sub hp
    have s2 : Step Hi1 H1 (fun a => InE Fs1 a ∨ a ∈ G) (fzH Hi1 H1 G) H1 (InE Fs1) := fz_step og
    exact k (.ref p) _ _ Fs1 [] (.imm (.tup (SqT.of upd_same) (dpMonos g.ex _ _ hd))) (h2.grow g) (fun a z => nomatch z) (s.trans (s2.trans (g.step _)))
  · cases q
def mLst (ms : MFs) : MF := fun E => (ms E).bind fun p => if p.1.length ≤ 16777216 then some (.lst p.1, p.2) else none
theorem fr_lst {tr : TA} {ms : MFs} (hs : FA K tr ms) : FR K (tLst tr) (mLst ms) := fun E w E' q A σ Hi H Fs h Q k => by
  unfold mLst at q
  obtain ⟨⟨ts, E1⟩, q1, q⟩ := Option.bind_eq_some_iff.mp q
  split at q
  · rename_i hl
    cases q
    refine hs E ts E1 q1 A σ Hi H Fs h _ fun vs Hi1 H1 Fs1 G r h1 d s => ?_
    refine ⟨by rw [sizeLine_eq, r.length]; exact hl, fun p hp => ?_⟩
    have g : Grow Hi1 H1 Hi1 (upd H1 p (.lst vs)) [p] := Grow.own h1.sub hp
    have pG : p ∉ G := fun z => by
      obtain ⟨_, o, e⟩ := r.ownG p z
      rw [hp] at e; cases e
    have r' := (g.step (fun _ => False)).keeps r fun _ _ z => z
    refine k (.ref p) _ _ Fs1 (p :: G) (.lst upd_same (free_of h1.sub hp) r' pG) (h1.grow g) (fun a ha => ?_) ?_
    · rcases List.mem_cons.mp ha with e | ha
      · subst e; exact h1.fresh g a (by simp)
      · exact d a ha
    · refine ⟨s.ex, fun x o e f => g.all x o (s.fr x o e f), fun x z => ?_, s.nh⟩
      rcases z with z | z
      · exact s.nw x (.inl z)
      · rcases List.mem_cons.mp z with e | z
        · subst e
          cases q : H x with
          | none => exact .inr rfl
          | some o =>
            by_cases f : InE Fs x
            · exact .inl f
            · have := s.fr x o q f
              rw [hp] at this; cases this
        · exact s.nw x (.inr z)
  · cases q
/-! ### builtins, methods that change nothing, slices -/
def mCB (f : List Tr → Option Tr) (ms : MA) : MF := fun E => (ms E).bind fun p => (views p.2 p.1).bind fun ts => (f ts).bind fun w => some (w, p.2)
theorem fr_cb {r : List V → Hp → VK → Prop} {f : List Tr → Option Tr} {tr : TA} {ms : MA} (hs : AR K tr ms) (hr : CallT K r f) : FR K (tCB r tr) (mCB f ms) := fun E w E' q A σ Hi H Fs h Q k => by
  unfold mCB at q
  obtain ⟨⟨os, E1⟩, q1, q⟩ := Option.bind_eq_some_iff.mp q
  obtain ⟨ts, q2, q⟩ := Option.bind_eq_some_iff.mp q
  obtain ⟨w', q3, q⟩ := Option.bind_eq_some_iff.mp q
  cases q
  refine hs E os E1 q1 A σ Hi H Fs h _ fun vs Hi1 H1 Fs1 G r1 h1 d s => ?_
  exact hr ts _ q3 Hi1 H1 vs h1.sub (h1.views r1 q2) Q fun v Hi3 H3 W rw g => k v Hi3 H3 Fs1 W rw (h1.grow g) (h1.fresh g) (s.seq (g.step _))
def tyB : String → Tr → Bool
  | "str", .imm (.str _) => true
  | "int", .imm (.int _) => true
  | "list", .imm (.list _) => true
  | "list", .lst _ => true
  | "dict", .dic _ => true
  | _, _ => false
theorem tyV_of {T : String} {v : V} {t : Tr} {F : List Addr} (s : Same Hi H) (r : RepT K Hi H v t F) (q : tyB T t = true) : tyV K T v H := by
  unfold tyB at q
  split at q
  · obtain ⟨e, _⟩ := r.str_inv; subst e; rfl
  · obtain ⟨e, _⟩ := r.int_inv; subst e; rfl
  · obtain ⟨d, _⟩ := r.imm_inv
    cases d with
    | lst hs ha => exact .inl ⟨rfl, _, s.seq hs⟩
  · cases r with
    | lst h1 h2 h3 h4 => exact .inl ⟨rfl, _, SqL.of h1⟩
  · cases r with
    | dic h1 h2 h3 => exact .inr (.inr (.inl ⟨rfl, .inl ⟨_, h1⟩⟩))
  · cases q
def mBM (T : String) (f : Tr → List Tr → Option Tr) (mo : MR) (ms : MA) : MF := fun E => (mo E).bind fun p => (view p.2 p.1).bind fun t0 => if tyB T t0 = true then (ms p.2).bind fun q => (view q.2 p.1).bind fun t => (views q.2 q.1).bind fun ts => (f t ts).bind fun w => some (w, q.2) else none
theorem fr_bm {T : String} {r : V → List V → Hp → VK → Prop} {f : Tr → List Tr → Option Tr} {to : TE} {mo : MR} {tr : TA} {ms : MA} (ho : ER K to mo) (hs : AR K tr ms) (hr : MetT K r f) : FR K (tBM K T r to tr) (mBM T f mo ms) := fun E w E' q A σ Hi H Fs h Q k => by
  unfold mBM at q
  obtain ⟨⟨o, E1⟩, q1, q⟩ := Option.bind_eq_some_iff.mp q
  obtain ⟨t0, q2, q⟩ := Option.bind_eq_some_iff.mp q
  split at q
  · rename_i hT
    obtain ⟨⟨os, E2⟩, q3, q⟩ := Option.bind_eq_some_iff.mp q
    obtain ⟨t, q4, q⟩ := Option.bind_eq_some_iff.mp q
    obtain ⟨ts, q5, q⟩ := Option.bind_eq_some_iff.mp q
    obtain ⟨w', q6, q⟩ := Option.bind_eq_some_iff.mp q
    cases q
    refine ho E o E1 q1 A σ Hi H Fs h _ fun v1 Hi1 H1 Fs1 G1 r1 h1 d1 s1 => ?_
    obtain ⟨F0, rt0⟩ := h1.view r1 q2
    refine ⟨tyV_of h1.sub rt0 hT, ?_⟩
    refine hs E1 os E2 q3 A σ Hi1 H1 Fs1 h1 _ fun vs Hi2 H2 Fs2 G2 r2 h2 d2 s2 => ?_
    obtain ⟨F1, rt⟩ := h2.view (s2.keepR r1 d1) q4
    exact hr t ts _ q6 Hi2 H2 v1 vs F1 h2.sub rt (h2.views r2 q5) Q fun v Hi3 H3 W rw g => k v Hi3 H3 Fs2 W rw (h2.grow g) (h2.fresh g) (s1.seq (s2.seq (g.step _)))
  · cases q
def mBM0 (T : String) (f : Tr → List Tr → Option Tr) (mo : MR) : MF := fun E => (mo E).bind fun p => (view p.2 p.1).bind fun t0 => if tyB T t0 = true then (f t0 []).bind fun w => some (w, p.2) else none
theorem fr_bm0 {T : String} {r : V → List V → Hp → VK → Prop} {f : Tr → List Tr → Option Tr} {to : TE} {mo : MR} (ho : ER K to mo) (hr : MetT K r f) : FR K (tBM0 K T r to) (mBM0 T f mo) := fun E w E' q A σ Hi H Fs h Q k => by
  unfold mBM0 at q
  obtain ⟨⟨o, E1⟩, q1, q⟩ := Option.bind_eq_some_iff.mp q
  obtain ⟨t0, q2, q⟩ := Option.bind_eq_some_iff.mp q
  split at q
  · rename_i hT
    obtain ⟨w', q6, q⟩ := Option.bind_eq_some_iff.mp q
    cases q
    refine ho E o E1 q1 A σ Hi H Fs h _ fun v1 Hi1 H1 Fs1 G1 r1 h1 d1 s1 => ?_
    obtain ⟨F0, rt0⟩ := h1.view r1 q2
    exact ⟨tyV_of h1.sub rt0 hT, hr t0 [] _ q6 Hi1 H1 v1 [] F0 h1.sub rt0 .nil Q fun v Hi3 H3 W rw g => k v Hi3 H3 Fs1 W rw (h1.grow g) (h1.fresh g) (s1.seq (g.step _))⟩
  · cases q
/-- a part of a slice -/
abbrev MO := En → Option (Option Int × En)
def OR (K : PySem.W.Frag) (to : TO) (m : MO) : Prop := ∀ E o E', m E = some (o, E') → ∀ A σ Hi H Fs, RepE K A Hi H σ E Fs → ∀ Q : Option Int → Hp → Prop,
  (∀ Hi' H' Fs', RepE K A Hi' H' σ E' Fs' → Step Hi H (InE Fs) Hi' H' (InE Fs') → Q o H') → to σ H Q
def iOf : Tr → Option Int
  | .imm (.int i) => some i
  | _ => none
theorem iOf_inv {t : Tr} {b : Int} (h : iOf t = some b) : t = .imm (.int b) := by
  unfold iOf at h
  split at h
  · cases h; rfl
  · cases h
def moNone : MO := fun E => some (none, E)
theorem or_none : OR K tNoPart moNone := fun E o E' q A σ Hi H Fs h Q k => by
  cases q
  exact k Hi H Fs h (Step.refl _ _ _)
def moSome (m : MF) : MO := fun E => (m E).bind fun p => (iOf p.1).bind fun i => some (some i, p.2)
theorem or_some (ha : FR K te m) : OR K (tPart te) (moSome m) := fun E o E' q A σ Hi H Fs h Q k => by
  unfold moSome at q
  obtain ⟨⟨t, E1⟩, q1, q⟩ := Option.bind_eq_some_iff.mp q
  obtain ⟨i, q2, q⟩ := Option.bind_eq_some_iff.mp q
  cases q
  have e := iOf_inv q2
  subst e
  refine ha E _ E1 q1 A σ Hi H Fs h _ fun v1 Hi1 H1 Fs1 G1 r1 h1 d1 s1 => ?_
  exact ⟨i, r1.int_inv.1, k Hi1 H1 Fs1 h1 (s1.weak fun _ z => .inl z)⟩
def SlT (K : PySem.W.Frag) (r : V → Option Int → Option Int → Hp → VK → Prop) (f : Tr → Option Int → Option Int → Option Tr) : Prop := ∀ t lo hi w, f t lo hi = some w → ∀ Hi H x F, Same Hi H → RepT K Hi H x t F → ∀ Q : VK,
  (∀ v Hi' H' W, RepT K Hi' H' v w W → Grow Hi H Hi' H' W → Q v H') → r x lo hi H Q
def mSl (f : Tr → Option Int → Option Int → Option Tr) (ma : MR) (ml mh : MO) : MF := fun E => (ma E).bind fun p => (ml p.2).bind fun l => (mh l.2).bind fun u => (view u.2 p.1).bind fun t => (f t l.1 u.1).bind fun w => some (w, u.2)
theorem fr_sl {r : V → Option Int → Option Int → Hp → VK → Prop} {f : Tr → Option Int → Option Int → Option Tr} {tl th : TO} {ml mh : MO} (ha : ER K te ma) (hl : OR K tl ml) (hh : OR K th mh) (hr : SlT K r f) : FR K (tSl r te tl th) (mSl f ma ml mh) := fun E w E' q A σ Hi H Fs h Q k => by
  unfold mSl at q
  obtain ⟨⟨o1, E1⟩, q1, q⟩ := Option.bind_eq_some_iff.mp q
  obtain ⟨⟨l, E2⟩, q2, q⟩ := Option.bind_eq_some_iff.mp q
  obtain ⟨⟨u, E3⟩, q3, q⟩ := Option.bind_eq_some_iff.mp q
  obtain ⟨t, q4, q⟩ := Option.bind_eq_some_iff.mp q
  obtain ⟨w', q5, q⟩ := Option.bind_eq_some_iff.mp q
  cases q
  refine ha E o1 E1 q1 A σ Hi H Fs h _ fun v1 Hi1 H1 Fs1 G1 r1 h1 d1 s1 => ?_
  refine hl E1 l E2 q2 A σ Hi1 H1 Fs1 h1 _ fun Hi2 H2 Fs2 h2 s2 => ?_
  refine hh E2 u E3 q3 A σ Hi2 H2 Fs2 h2 _ fun Hi3 H3 Fs3 h3 s3 => ?_
  have s23 := s2.trans s3
  obtain ⟨F1, rt⟩ := h3.view (s23.keepR r1 d1) q4
  exact hr t l u _ q5 Hi3 H3 v1 F1 h3.sub rt Q fun v Hi4 H4 W rw g => k v Hi4 H4 Fs3 W rw (h3.grow g) (h3.fresh g) (s1.seq (s23.trans (g.step _)))
end
end FL

/-! FL, part D: statements; defs and their calls. -/
namespace FL
open PySem L2

/-! ### what a statement ends in -/
inductive Out where
  | nx (E : En)
  | rt (t : Tr) (E : En)
  | bk (E : En)
  | ct (E : En)
abbrev MS := En → Option Out
section
variable (K : PySem.W.Frag)
def Goal (A : List V) (Hi H : Hp) (F : Addr → Prop) : Out → Ends → Prop
  | .nx E', D => ∀ σ' Hi' H' Fs', RepE K A Hi' H' σ' E' Fs' → Step Hi H F Hi' H' (InE Fs') → D.nx σ' H'
  | .rt t E', D => ∀ v σ' Hi' H' Fs' G, RepT K Hi' H' v t G → RepE K A Hi' H' σ' E' Fs' → (∀ a ∈ G, ¬ InE Fs' a) → Step Hi H F Hi' H' (fun a => InE Fs' a ∨ a ∈ G) → D.rt v H'
  | .bk E', D => ∀ σ' Hi' H' Fs', RepE K A Hi' H' σ' E' Fs' → Step Hi H F Hi' H' (InE Fs') → D.bk σ' H'
  | .ct E', D => ∀ σ' Hi' H' Fs', RepE K A Hi' H' σ' E' Fs' → Step Hi H F Hi' H' (InE Fs') → D.ct σ' H'
def SR (ts : TS) (m : MS) : Prop := ∀ E out, m E = some out → ∀ A σ Hi H Fs D, RepE K A Hi H σ E Fs → Goal K A Hi H (InE Fs) out D → ts D σ H
/-- where a value is stored -/
def Chg (ws : List Nat) (σ σ' : L2.St) : Prop := σ'.length = σ.length ∧ ∀ j, j ∉ ws → σ'[j]? = σ[j]?
def GR (g : TG) (m : Tr → En → Option En) (ws : List Nat) : Prop := ∀ t E E', m t E = some E' → ∀ A σ Hi H Fs v G, RepE K A Hi H σ E Fs → RepT K Hi H v t G → (∀ a ∈ G, ¬ InE Fs a) → ∀ Q : L2.St → Hp → Prop,
  (∀ σ' Hi' H' Fs', Chg ws σ σ' → RepE K A Hi' H' σ' E' Fs' → Step Hi H (fun a => InE Fs a ∨ a ∈ G) Hi' H' (InE Fs') → Q σ' H') → g v σ H Q
def GRs (g : TGs) (m : List PyData → En → Option En) (ws : List Nat) : Prop := ∀ ds E E', m ds E = some E' → ∀ A σ Hi H Fs vs, RepE K A Hi H σ E Fs → DpAll K Hi vs ds → ∀ Q : L2.St → Hp → Prop,
  (∀ σ' Hi' H' Fs', Chg ws σ σ' → RepE K A Hi' H' σ' E' Fs' → Step Hi H (InE Fs) Hi' H' (InE Fs') → Q σ' H') → g vs σ H Q
end
section
variable {K : PySem.W.Frag} {A : List V} {Hi H Hi1 H1 Hi' H' : Hp} {σ : L2.St} {E : En} {Fs : Nat → List Addr} {te : TE} {m : MF} {ma : MR}
theorem Goal.from {F F1 : Addr → Prop} {out : Out} {D : Ends} (g : Goal K A Hi H F out D) (s : Step Hi H F Hi1 H1 F1) : Goal K A Hi1 H1 F1 out D := by
  cases out with
  | nx E' => exact fun σ' Hi' H' Fs' h s' => g σ' Hi' H' Fs' h (s.trans s')
  | rt t E' => exact fun v σ' Hi' H' Fs' G r h d s' => g v σ' Hi' H' Fs' G r h d (s.trans s')
  | bk E' => exact fun σ' Hi' H' Fs' h s' => g σ' Hi' H' Fs' h (s.trans s')
  | ct E' => exact fun σ' Hi' H' Fs' h s' => g σ' Hi' H' Fs' h (s.trans s')
def mNext : MS := fun E => some (.nx E)
theorem sr_next : SR K tNext mNext := fun E out q A σ Hi H Fs D h g => by
  cases q
  exact g σ Hi H Fs h (Step.refl _ _ _)
def mBreak : MS := fun E => some (.bk E)
theorem sr_break : SR K tBreak mBreak := fun E out q A σ Hi H Fs D h g => by
  cases q
  exact g σ Hi H Fs h (Step.refl _ _ _)
def mCont : MS := fun E => some (.ct E)
theorem sr_cont : SR K tCont mCont := fun E out q A σ Hi H Fs D h g => by
  cases q
  exact g σ Hi H Fs h (Step.refl _ _ _)
def mThen (m' : MS) : Out → Option Out
  | .nx E => m' E
  | .rt t E => some (.rt t E)
  | .bk E => some (.bk E)
  | .ct E => some (.ct E)
def mSeq (m m' : MS) : MS := fun E => (m E).bind (mThen m')
theorem sr_seq {t u : TS} {m m' : MS} (ht : SR K t m) (hu : SR K u m') : SR K (tSeq t u) (mSeq m m') := fun E out q A σ Hi H Fs D h g => by
  obtain ⟨o1, q1, q⟩ := Option.bind_eq_some_iff.mp q
  refine ht E o1 q1 A σ Hi H Fs { D with nx := u D } h ?_
  cases o1 with
  | nx E1 => exact fun σ' Hi' H' Fs' h' s => hu E1 out q A σ' Hi' H' Fs' D h' (g.from s)
  | rt t E1 => cases q; exact g
  | bk E1 => cases q; exact g
  | ct E1 => cases q; exact g
def mDrop (m : MF) : MS := fun E => (m E).bind fun p => some (.nx p.2)
theorem sr_drop (h : FR K te m) : SR K (tDrop te) (mDrop m) := fun E out q A σ Hi H Fs D hE g => by
  obtain ⟨⟨t, E1⟩, q1, q⟩ := Option.bind_eq_some_iff.mp q
  cases q
  exact h E t E1 q1 A σ Hi H Fs hE _ fun v Hi1 H1 Fs1 G r h1 d s => g σ Hi1 H1 Fs1 h1 (s.weak fun _ z => .inl z)
def mRet (m : MF) : MS := fun E => (m E).bind fun p => some (.rt p.1 p.2)
theorem sr_ret (h : FR K te m) : SR K (tRet te) (mRet m) := fun E out q A σ Hi H Fs D hE g => by
  obtain ⟨⟨t, E1⟩, q1, q⟩ := Option.bind_eq_some_iff.mp q
  cases q
  exact h E t E1 q1 A σ Hi H Fs hE _ fun v Hi1 H1 Fs1 G r h1 d s => g v σ Hi1 H1 Fs1 G r h1 d s
def mRetN : MS := fun E => some (.rt (.imm .none) E)
theorem sr_retN : SR K tRetN mRetN := fun E out q A σ Hi H Fs D h g => by
  cases q
  exact g .non σ Hi H Fs [] (.imm .non) h (fun a z => nomatch z) stepN
def mIfS (mt : MT) (m m' : MS) : MS := fun E => (mt E).bind fun p => if p.1 = true then m p.2 else m' p.2
theorem sr_if {c : TT} {t u : TS} {mt : MT} {m m' : MS} (hc : TR K c mt) (ht : SR K t m) (hu : SR K u m') : SR K (tIfS c t u) (mIfS mt m m') := fun E out q A σ Hi H Fs D h g => by
  obtain ⟨⟨b, E1⟩, q1, q⟩ := Option.bind_eq_some_iff.mp q
  refine hc E b E1 q1 A σ Hi H Fs h _ fun Hi1 H1 Fs1 h1 s => ?_
  cases b with
  | true => exact ht E1 out q A σ Hi1 H1 Fs1 D h1 (g.from s)
  | false => exact hu E1 out q A σ Hi1 H1 Fs1 D h1 (g.from s)
def mAsg (m : MF) (mg : Tr → En → Option En) : MS := fun E => (m E).bind fun p => (mg p.1 p.2).bind fun E' => some (.nx E')
theorem sr_asg {g : TG} {mg : Tr → En → Option En} {ws : List Nat} (h : FR K te m) (hg : GR K g mg ws) : SR K (tAsg te g) (mAsg m mg) := fun E out q A σ Hi H Fs D hE go => by
  obtain ⟨⟨t, E1⟩, q1, q⟩ := Option.bind_eq_some_iff.mp q
  obtain ⟨E2, q2, q⟩ := Option.bind_eq_some_iff.mp q
  cases q
  refine h E t E1 q1 A σ Hi H Fs hE _ fun v Hi1 H1 Fs1 G r h1 d s => ?_
  exact hg t E1 E2 q2 A σ Hi1 H1 Fs1 v G h1 r d _ fun σ' Hi2 H2 Fs2 _ h2 s2 => go σ' Hi2 H2 Fs2 h2 (s.trans s2)
/-- a name -/
def mName (i : Nat) : Tr → En → Option En := fun t E => match E[i]? with
  | some .no => some (E.set i (.val t))
  | some (.val _) => some (E.set i (.val t))
  | _ => none
theorem RepE.name {i : Nat} {t : Tr} {s : SL} {v : V} {G : List Addr} (h : RepE K A Hi H σ E Fs) (he : E[i]? = some s) (r : RepT K Hi H v t G) (d : ∀ a ∈ G, ¬ InE Fs a) :
    RepE K A Hi H (σ.set i (some v)) (E.set i (.val t)) (fset Fs i G) ∧ Step Hi H (fun a => InE Fs a ∨ a ∈ G) Hi H (InE (fset Fs i G)) := by
  have hlt : i < σ.length := by rw [← h.len]; exact lt_of_at he
  refine ⟨h.put (s' := .val t) he rfl (fun t z => by cases z) ⟨Same.refl _, fun _ _ e _ => e, fun _ z => .inl (.inr z), fun _ o e => .inl ⟨o, e⟩⟩ (fun a ha j _ z => d a ha ⟨j, z⟩) h.sub (by simp) (by rw [List.getElem?_set_self hlt]) (fun j hj => List.getElem?_set_ne (Ne.symm hj)) r, ?_⟩
  exact (Step.refl Hi H (fun a => InE Fs a ∨ a ∈ G)).weak fun x z => inE_fset z
theorem chg_set {i : Nat} {x : Option V} : Chg [i] σ (σ.set i x) := ⟨by simp, fun j h => List.getElem?_set_ne fun e => h (by simp [e])⟩
theorem Chg.refl {ws : List Nat} : Chg ws σ σ := ⟨rfl, fun _ _ => rfl⟩
theorem gr_name {i : Nat} : GR K (gName i) (mName i) [i] := fun t E E' q A σ Hi H Fs v G h r d Q k => by
  unfold mName at q
  split at q
  · rename_i e
    cases q
    obtain ⟨h', s⟩ := h.name e r d
    exact k _ Hi H _ chg_set h' s
  · rename_i e
    cases q
    obtain ⟨h', s⟩ := h.name e r d
    exact k _ Hi H _ chg_set h' s
  · cases q
/-- several names -/
def gsNil : List PyData → En → Option En := fun ds E => match ds with
  | [] => some E
  | _ => none
theorem grs_nil : GRs K gNil gsNil [] := fun ds E E' q A σ Hi H Fs vs h r Q k => by
  cases r with
  | nil =>
    cases q
    exact ⟨rfl, k σ Hi H Fs Chg.refl h (Step.refl _ _ _)⟩
  | cons => cases q
def gsCons (mg : Tr → En → Option En) (ms : List PyData → En → Option En) : List PyData → En → Option En := fun ds E => match ds with
  | [] => none
  | d :: r => (mg (.imm d) E).bind (ms r)
theorem grs_cons {t : TG} {u : TGs} {mg : Tr → En → Option En} {ms : List PyData → En → Option En} {ws ws' : List Nat} (ht : GR K t mg ws) (hu : GRs K u ms ws') : GRs K (gCons t u) (gsCons mg ms) (ws ++ ws') := fun ds E E' q A σ Hi H Fs vs h r Q k => by
  cases r with
  | nil => cases q
  | @cons v vs d ds r1 r2 =>
    obtain ⟨E1, q1, q⟩ := Option.bind_eq_some_iff.mp q
    refine ⟨v, vs, rfl, ?_⟩
    refine ht (.imm d) E E1 q1 A σ Hi H Fs v [] h (.imm r1) (fun a z => nomatch z) _ fun σ1 Hi1 H1 Fs1 c1 h1 s1 => ?_
    exact hu ds E1 E' q A σ1 Hi1 H1 Fs1 vs h1 (dpMonos s1.ex _ _ r2) _ fun σ2 Hi2 H2 Fs2 c2 h2 s2 => k σ2 Hi2 H2 Fs2 ⟨c2.1.trans c1.1, fun j hj => (c2.2 j fun z => hj (List.mem_append_right _ z)).trans (c1.2 j fun z => hj (List.mem_append_left _ z))⟩ h2 ((s1.more (F2 := InE Fs) fun x z => z.elim id fun y => nomatch y).trans s2)
def mTupG (n : Nat) (ms : List PyData → En → Option En) : Tr → En → Option En := fun t E => match t with
  | .imm (.tuple ds) => if ds.length = n then ms ds E else none
  | _ => none
theorem gr_tup {n : Nat} {t : TGs} {ms : List PyData → En → Option En} {ws : List Nat} (ht : GRs K t ms ws) : GR K (gTup K n t) (mTupG n ms) ws := fun t E E' q A σ Hi H Fs v G h r d Q k => by
  unfold mTupG at q
  split at q
  · rename_i ds
    split at q
    · rename_i hn
      obtain ⟨hd, rfl⟩ := r.imm_inv
      cases hd with
      | @tup a vs _ hs ha =>
        refine ⟨a, vs, rfl, seqT h.sub hs, by rw [dpAll_len ha, hn], ?_⟩
        exact ht ds E E' q A σ Hi H Fs vs h ha _ fun σ1 Hi1 H1 Fs1 c1 h1 s1 => k σ1 Hi1 H1 Fs1 c1 h1 (s1.more fun x z => .inl z)
    · cases q
  · cases q

/-! ### defs and their calls -/
abbrev MFn := List Tr → Option (Tr × List Tr)
structure RepAs (K : PySem.W.Frag) (Hi H : Hp) (vs : List V) (ts : List Tr) (Fs : Nat → List Addr) : Prop where
  len : vs.length = ts.length
  val : ∀ (i : Nat) t, ts[i]? = some t → ∃ v, vs[i]? = some v ∧ RepT K Hi H v t (Fs i)
  no : ∀ i, ts[i]? = none → Fs i = []
  dis : ∀ i j a, a ∈ Fs i → a ∈ Fs j → i = j
/-- what a def promises: from its arguments' trees its value and the arguments' trees behind it -/
def spM (K : PySem.W.Frag) (n : Nat) (m : MFn) : Sp := fun vs H Q _ => ∃ ts r ts' Hi Fs, m ts = some (r, ts') ∧ ts.length = n ∧ Same Hi H ∧ RepAs K Hi H vs ts Fs ∧
  ∀ v Hi' H' Fs' G, RepAs K Hi' H' vs ts' Fs' → Same Hi' H' → RepT K Hi' H' v r G → (∀ a ∈ G, ¬ InE Fs' a) → Step Hi H (InE Fs) Hi' H' (fun a => InE Fs' a ∨ a ∈ G) → Q v H'
def isOwn : Tr → Bool
  | .imm _ => false
  | .tpl _ => false
  | _ => true
def ownSlot (E : En) : Rf → Option Nat
  | .own _ => none
  | .slot i => match at? E i with
    | some t => if isOwn t = true then some i else none
    | none => none
/-- the arguments' trees go back to their places -/
def gives (E0 : En) : En → List Rf → List Tr → Option En
  | E, [], [] => some E
  | E, .own _ :: os, _ :: ts => gives E0 E os ts
  | E, .slot i :: os, t :: ts => match E0[i]? with
    | some s => if (s.tree.map isOwn) = some true then gives E0 (E.set i (s.with t)) os ts else gives E0 E os ts
    | none => none
  | _, _, _ => none
def mCall (n : Nat) (m : MFn) (ma : MA) : MF := fun E => (ma E).bind fun p => (viewsR p.2 p.1).bind fun ts => if ts.length = n ∧ (p.1.filterMap (ownSlot p.2)).Nodup then (m ts).bind fun r => (gives p.2 p.2 p.1 r.2).bind fun E' => some (r.1, E') else none
theorem own_nil {v : V} {t : Tr} {F : List Addr} (h : RepT K Hi H v t F) (o : isOwn t = false) : F = [] := by
  cases h with
  | imm _ => rfl
  | lst _ _ _ _ => cases o
  | dic _ _ _ => cases o
  | tpl _ _ _ => rfl
theorem still {v : V} {t : Tr} {F : List Addr} (h : RepT K Hi H v t F) (o : isOwn t = false) (e : Same Hi Hi') : RepT K Hi' H' v t [] := by
  cases t with
  | imm d => exact .imm (dpMono e _ _ h.imm_inv.1)
  | lst _ => cases o
  | dic _ => cases o
  | tpl ds =>
    cases h with
    | tpl h1 h2 h3 => exact .tpl (e _ _ h1) h2 (dpMonos e ds _ h3)
theorem tree_with {s : SL} {t t' : Tr} (h : s.tree = some t) : (s.with t').tree = some t' := by
  cases s with
  | no => cases h
  | val _ => rfl
  | par _ => rfl
theorem ownSlot_eq {E : En} {o : Rf} {i : Nat} (h : ownSlot E o = some i) : o = .slot i ∧ ∃ t, at? E i = some t ∧ isOwn t = true := by
  cases o with
  | own t => cases h
  | slot k =>
    unfold ownSlot at h
    dsimp only at h
    cases q : at? E k with
    | none => rw [q] at h; cases h
    | some t =>
      rw [q] at h
      dsimp only at h
      split at h
      · rename_i ho
        cases h
        exact ⟨rfl, t, q, ho⟩
      · cases h
theorem args_ok : ∀ {os : List Rf} {vs : List V} {G : List Addr} {ts : List Tr}, RepE K A Hi H σ E Fs → RepRs K Hi H σ vs os G → viewsR E os = some ts → (os.filterMap (ownSlot E)).Nodup → (∀ a ∈ G, ¬ InE Fs a) →
    ∃ FA : Nat → List Addr, RepAs K Hi H vs ts FA ∧ ∀ j a, a ∈ FA j → (∃ i, i ∈ os.filterMap (ownSlot E) ∧ a ∈ Fs i) ∨ a ∈ G
  | [], _, _, _, h, r, q, _, _ => by
    cases r
    cases q
    exact ⟨fun _ => [], ⟨rfl, fun i t z => by simp at z, fun _ _ => rfl, fun _ _ _ z => nomatch z⟩, fun _ _ z => nomatch z⟩
  | o :: os, _, _, _, h, r, q, nd, d => by
    cases r with
    | @cons v vs _ _ F G r rs df =>
      rw [viewsR, Option.bind_eq_some_iff] at q
      obtain ⟨t, q1, q2⟩ := q
      rw [Option.map_eq_some_iff] at q2
      obtain ⟨ts, q2, rfl⟩ := q2
      have nd2 : (os.filterMap (ownSlot E)).Nodup := by
        rw [List.filterMap_cons] at nd
        split at nd
        · exact nd
        · exact (List.nodup_cons.mp nd).2
      obtain ⟨FA, ra, fa⟩ := args_ok h rs q2 nd2 fun a ha => d a (List.mem_append_right _ ha)
      -- the first one's own things
      have hd : ∃ F0, RepT K Hi H v t F0 ∧ (∀ a ∈ F0, (∃ i, ownSlot E o = some i ∧ a ∈ Fs i) ∨ a ∈ F) := by
        cases r with
        | @slot i _ e =>
          obtain ⟨u, e1, rt⟩ := h.val i t q1
          rw [e] at e1
          cases e1
          cases ho : isOwn t with
          | true =>
            refine ⟨Fs i, rt, fun a ha => .inl ⟨i, ?_, ha⟩⟩
            unfold ownSlot
            dsimp only
            have q1' : at? E i = some t := q1
            rw [q1']
            dsimp only
            rw [if_pos ho]
          | false => exact ⟨Fs i, rt, fun a ha => by rw [own_nil rt ho] at ha; cases ha⟩
        | own rt =>
          cases q1
          exact ⟨F, rt, fun a ha => .inr ha⟩
      obtain ⟨F0, rt, f0⟩ := hd
      have dj : ∀ j a, a ∈ F0 → a ∈ FA j → False := fun j a h0 hj => by
        rcases f0 a h0 with ⟨i, ei, hi⟩ | hF
        · rcases fa j a hj with ⟨k, hk, hk2⟩ | hG
          · have e := h.dis i k a hi hk2
            subst e
            rw [List.filterMap_cons, ei] at nd
            exact (List.nodup_cons.mp nd).1 hk
          · exact d a (List.mem_append_right _ hG) ⟨i, hi⟩
        · rcases fa j a hj with ⟨k, hk, hk2⟩ | hG
          · exact d a (List.mem_append_left _ hF) ⟨k, hk2⟩
          · exact df a hF hG
      refine ⟨fun j => match j with | 0 => F0 | j + 1 => FA j, ⟨by simp [ra.len], fun i t' z => ?_, fun i z => ?_, fun i j a hi hj => ?_⟩, fun j a hj => ?_⟩
      · cases i with
        | zero => simp at z; subst z; exact ⟨v, rfl, rt⟩
        | succ i => exact ra.val i t' (by simpa using z)
      · cases i with
        | zero => simp at z
        | succ i => exact ra.no i (by simpa using z)
      · cases i with
        | zero =>
          cases j with
          | zero => rfl
          | succ j => exact (dj j a hi hj).elim
        | succ i =>
          cases j with
          | zero => exact (dj i a hj hi).elim
          | succ j => rw [ra.dis i j a hi hj]
      · cases j with
        | zero =>
          rcases f0 a hj with ⟨i, ei, hi⟩ | hF
          · exact .inl ⟨i, List.mem_filterMap.mpr ⟨o, List.mem_cons_self, ei⟩, hi⟩
          · exact .inr (List.mem_append_left _ hF)
        | succ j =>
          rcases fa j a hj with ⟨i, hi, hi2⟩ | hG
          · refine .inl ⟨i, ?_, hi2⟩
            obtain ⟨o', ho, e⟩ := List.mem_filterMap.mp hi
            exact List.mem_filterMap.mpr ⟨o', List.mem_cons_of_mem _ ho, e⟩
          · exact .inr (List.mem_append_right _ hG)
/-- the places but those of S, whose things are out -/
structure RepP (K : PySem.W.Frag) (A : List V) (Hi H : Hp) (σ : L2.St) (E : En) (Fs : Nat → List Addr) (S : List Nat) : Prop where
  sub : Same Hi H
  len : E.length = σ.length
  val : ∀ (i : Nat) t, i ∉ S → at? E i = some t → ∃ v, σ[i]? = some (some v) ∧ RepT K Hi H v t (Fs i)
  par : ∀ (i : Nat) t, E[i]? = some (.par t) → ∃ v, σ[i]? = some (some v) ∧ A[i]? = some v
  no : ∀ i, at? E i = none → Fs i = []
  out : ∀ i, i ∈ S → Fs i = []
  dis : ∀ i j a, a ∈ Fs i → a ∈ Fs j → i = j
theorem gives_ok {E0 : En} : ∀ {os : List Rf} {vs : List V} {ts : List Tr} {FA : Nat → List Addr} {E E' : En} {Fs : Nat → List Addr}, RepP K A Hi H σ E Fs (os.filterMap (ownSlot E0)) → RepAs K Hi H vs ts FA → (∀ j a, a ∈ FA j → ¬ InE Fs a) →
    (∀ (j : Nat) i, os[j]? = some (.slot i) → ∃ v, σ[i]? = some (some v) ∧ vs[j]? = some v) → (os.filterMap (ownSlot E0)).Nodup → (∀ i, i ∈ os.filterMap (ownSlot E0) → E[i]? = E0[i]?) → gives E0 E os ts = some E' →
    ∃ Fs', RepE K A Hi H σ E' Fs' ∧ ∀ a, InE Fs' a → InE Fs a ∨ InE FA a
  | [], _, [], FA, E, E', Fs, h, ra, _, _, _, _, q => by
    cases q
    exact ⟨Fs, ⟨h.sub, h.len, fun i t => h.val i t (fun z => nomatch z), h.par, h.no, h.dis⟩, fun a => .inl⟩
  | [], _, _ :: _, _, _, _, _, _, _, _, _, _, _, q => by cases q
  | .own _ :: _, _, [], _, _, _, _, _, _, _, _, _, _, q => by cases q
  | .slot _ :: _, _, [], _, _, _, _, _, _, _, _, _, _, q => by cases q
  | o :: os, [], t :: ts, _, _, _, _, _, ra, _, _, _, _, _ => by
    have := ra.len
    cases this
  | .own t0 :: os, v :: vs, t :: ts, FA, E, E', Fs, h, ra, df, hv, nd, he, q => by
    have e0 : (Rf.own t0 :: os).filterMap (ownSlot E0) = os.filterMap (ownSlot E0) := rfl
    rw [e0] at h nd he
    have ra' : RepAs K Hi H vs ts (fun j => FA (j + 1)) := ⟨by have := ra.len; simpa using this, fun i t z => by simpa using ra.val (i + 1) t (by simpa using z), fun i z => ra.no (i + 1) (by simpa using z), fun i j a hi hj => by have := ra.dis _ _ a hi hj; omega⟩
    obtain ⟨Fs', h', hF⟩ := gives_ok h ra' (fun j a hj => df (j + 1) a hj) (fun j i z => by simpa using hv (j + 1) i (by simpa using z)) nd he q
    exact ⟨Fs', h', fun a ha => (hF a ha).imp id fun ⟨j, hj⟩ => ⟨j + 1, hj⟩⟩
  | .slot i :: os, v :: vs, t :: ts, FA, E, E', Fs, h, ra, df, hv, nd, he, q => by
    have ra' : RepAs K Hi H vs ts (fun j => FA (j + 1)) := ⟨by have := ra.len; simpa using this, fun i t z => by simpa using ra.val (i + 1) t (by simpa using z), fun i z => ra.no (i + 1) (by simpa using z), fun i j a hi hj => by have := ra.dis _ _ a hi hj; omega⟩
    have hv' : ∀ (j : Nat) k, os[j]? = some (.slot k) → ∃ v, σ[k]? = some (some v) ∧ vs[j]? = some v := fun j k z => by simpa using hv (j + 1) k (by simpa using z)
    rw [gives] at q
    cases q0 : E0[i]? with
    | none => rw [q0] at q; cases q
    | some s =>
      rw [q0] at q
      dsimp only at q
      by_cases ho : s.tree.map isOwn = some true
      · rw [if_pos ho] at q
        obtain ⟨t0, ht0, ho0⟩ := Option.map_eq_some_iff.mp ho
        have es : ownSlot E0 (.slot i) = some i := by
          unfold ownSlot at?
          dsimp only
          rw [q0]
          show (match s.tree with | some t => if isOwn t = true then some i else none | none => none) = some i
          rw [ht0]
          show (if isOwn t0 = true then some i else none) = some i
          rw [if_pos ho0]
        rw [List.filterMap_cons, es] at h nd he
        dsimp only at h nd he
        obtain ⟨ni, nd'⟩ := List.nodup_cons.mp nd
        have ei : E[i]? = some s := (he i List.mem_cons_self).trans q0
        have hlt := lt_of_at ei
        obtain ⟨v', ev', evv⟩ := hv 0 i rfl
        have evv' : v = v' := by simpa using evv
        subst evv'
        obtain ⟨v2, ev2, rt⟩ := ra.val 0 t rfl
        have ev2' : v = v2 := by simpa using ev2
        subst ev2'
        have tw := tree_with (t' := t) ht0
        have hnew : RepP K A Hi H σ (E.set i (s.with t)) (fset Fs i (FA 0)) (os.filterMap (ownSlot E0)) := by
          refine ⟨h.sub, by rw [List.length_set]; exact h.len, fun j t' nj z => ?_, fun j t' z => ?_, fun j z => ?_, fun j hj => ?_, fun j k a hj hk => ?_⟩
          · rw [at_set] at z
            by_cases e : i = j
            · subst e
              rw [if_pos ⟨rfl, hlt⟩, tw] at z
              cases z
              exact ⟨v, ev', by rw [fset_same]; exact rt⟩
            · rw [if_neg (fun y => e y.1)] at z
              obtain ⟨u, e1, r1⟩ := h.val j t' (fun y => (List.mem_cons.mp y).elim (fun x => e x.symm) nj) z
              exact ⟨u, e1, by rw [fset_ne (Ne.symm e)]; exact r1⟩
          · rw [List.getElem?_set] at z
            by_cases e : i = j
            · subst e
              rw [if_pos rfl, if_pos hlt] at z
              cases s with
              | no => cases ht0
              | val _ => cases z
              | par t1 => exact h.par i t1 ei
            · rw [if_neg e] at z
              exact h.par j t' z
          · rw [at_set] at z
            by_cases e : i = j
            · subst e
              rw [if_pos ⟨rfl, hlt⟩, tw] at z
              cases z
            · rw [if_neg (fun y => e y.1)] at z
              rw [fset_ne (Ne.symm e)]
              exact h.no j z
          · by_cases e : j = i
            · subst e
              exact absurd hj ni
            · rw [fset_ne e]
              exact h.out j (List.mem_cons_of_mem _ hj)
          · by_cases e1 : j = i
            · subst e1
              rw [fset_same] at hj
              by_cases e2 : k = j
              · exact e2.symm
              · rw [fset_ne e2] at hk
                exact absurd ⟨k, hk⟩ (df 0 a hj)
            · rw [fset_ne e1] at hj
              by_cases e2 : k = i
              · subst e2
                rw [fset_same] at hk
                exact absurd ⟨j, hj⟩ (df 0 a hk)
              · rw [fset_ne e2] at hk
                exact h.dis j k a hj hk
        obtain ⟨Fs', h', hF⟩ := gives_ok hnew ra' (fun j a hj hin => by
          rcases inE_fset hin with z | z
          · exact df (j + 1) a hj z
          · have := ra.dis _ _ a hj z
            omega) hv' nd' (fun k hk => by
          have hne : i ≠ k := fun e => ni (e ▸ hk)
          rw [List.getElem?_set_ne hne]
          exact he k (List.mem_cons_of_mem _ hk)) q
        refine ⟨Fs', h', fun a ha => ?_⟩
        rcases hF a ha with z | ⟨j, hj⟩
        · rcases inE_fset z with z | z
          · exact .inl z
          · exact .inr ⟨0, z⟩
        · exact .inr ⟨j + 1, hj⟩
      · rw [if_neg ho] at q
        have es : ownSlot E0 (.slot i) = none := by
          cases z : ownSlot E0 (.slot i) with
          | none => rfl
          | some k =>
            obtain ⟨e1, t1, e2, e3⟩ := ownSlot_eq z
            cases e1
            refine absurd ?_ ho
            unfold at? at e2
            rw [q0] at e2
            have e2' : s.tree = some t1 := e2
            rw [e2']
            show some (isOwn t1) = some true
            rw [e3]
        rw [List.filterMap_cons, es] at h nd he
        dsimp only at h nd he
        obtain ⟨Fs', h', hF⟩ := gives_ok h ra' (fun j a hj => df (j + 1) a hj) hv' nd he q
        exact ⟨Fs', h', fun a ha => (hF a ha).imp id fun ⟨j, hj⟩ => ⟨j + 1, hj⟩⟩
theorem repRs_slot : ∀ {vs : List V} {os : List Rf} {G : List Addr}, RepRs K Hi H σ vs os G → ∀ (j : Nat) i, os[j]? = some (.slot i) → ∃ v, σ[i]? = some (some v) ∧ vs[j]? = some v
  | _, _, _, .nil, j, i, z => by simp at z
  | _, _, _, .cons (o := o) r rs _, 0, i, z => by
    have e : o = Rf.slot i := by simpa using z
    subst e
    cases r with
    | slot e => exact ⟨_, e, rfl⟩
  | _, _, _, .cons r rs _, j + 1, i, z => by
    obtain ⟨v, a, b⟩ := repRs_slot rs j i (by simpa using z)
    exact ⟨v, a, by simpa using b⟩
theorem fr_call {n : Nat} {mf : MFn} {tr : TA} {ms : MA} {E0 : XK} (hs : AR K tr ms) : FR K (tCall (spM K n mf) [] E0 tr) (mCall n mf ms) := fun E w E' q A σ Hi H Fs h Q k => by
  unfold mCall at q
  obtain ⟨⟨os, E1⟩, q1, q⟩ := Option.bind_eq_some_iff.mp q
  obtain ⟨ts, q2, q⟩ := Option.bind_eq_some_iff.mp q
  dsimp only at q q2
  split at q
  · rename_i hc
    obtain ⟨hn, nd⟩ := hc
    obtain ⟨⟨r, ts'⟩, q3, q⟩ := Option.bind_eq_some_iff.mp q
    obtain ⟨E2, q4, q⟩ := Option.bind_eq_some_iff.mp q
    cases q
    refine hs E os E1 q1 A σ Hi H Fs h _ fun vs Hi1 H1 Fs1 G r1 h1 d1 s1 => ?_
    obtain ⟨FA, ra, fa⟩ := args_ok h1 r1 q2 nd d1
    have hsl := repRs_slot r1
    show spM K n mf (vs ++ []) H1 Q E0
    rw [List.append_nil]
    refine ⟨ts, _, ts', Hi1, FA, q3, hn, h1.sub, ra, fun v Hi2 H2 FA' W ra' sub rw dw s2 => ?_⟩
    -- the other places stand
    have apart : ∀ i a, a ∈ Fs1 i → i ∉ os.filterMap (ownSlot E1) → ¬ InE FA a := fun i a ha ni ⟨j, hj⟩ => by
      rcases fa j a hj with ⟨k, hk, hk2⟩ | hG
      · have e := h1.dis i k a ha hk2
        subst e
        exact ni hk
      · exact d1 a hG ⟨i, ha⟩
    have hP : RepP K A Hi2 H2 σ E1 (fun i => if i ∈ os.filterMap (ownSlot E1) then [] else Fs1 i) (os.filterMap (ownSlot E1)) := by
      refine ⟨sub, h1.len, fun i t ni z => ?_, h1.par, fun i z => ?_, fun i hi => if_pos hi, fun i j a hi hj => ?_⟩
      · obtain ⟨u, e1, rt⟩ := h1.val i t z
        refine ⟨u, e1, ?_⟩
        rw [if_neg ni]
        exact s2.keep rt fun x hx => apart i x hx ni
      · rw [h1.no i z]
        split <;> rfl
      · split at hi
        · cases hi
        · split at hj
          · cases hj
          · exact h1.dis i j a hi hj
    have out : ∀ a, InE (fun i => if i ∈ os.filterMap (ownSlot E1) then [] else Fs1 i) a → InE Fs1 a ∧ ¬ InE FA a := fun a ⟨i, hi⟩ => by
      dsimp only at hi
      split at hi
      · cases hi
      · rename_i ni
        exact ⟨⟨i, hi⟩, apart i a hi ni⟩
    have away : ∀ a, InE Fs1 a → ¬ InE FA a → ¬ (InE FA' a ∨ a ∈ W) := fun a ha na hf => by
      obtain ⟨_, o, e⟩ := h1.own ha
      rcases s2.nw a hf with z | z
      · exact na z
      · rw [e] at z; cases z
    obtain ⟨Fs2, h2, hF⟩ := gives_ok hP ra' (fun j a hj hin => by
      obtain ⟨x1, x2⟩ := out a hin
      exact away a x1 x2 (.inl ⟨j, hj⟩)) hsl nd (fun _ _ => rfl) q4
    refine k v Hi2 H2 Fs2 W rw h2 (fun a ha hin => ?_) ?_
    · rcases hF a hin with z | z
      · obtain ⟨x1, x2⟩ := out a z
        exact away a x1 x2 (.inr ha)
      · exact dw a ha z
    · have s2' : Step Hi1 H1 (fun a => InE Fs1 a ∨ a ∈ G) Hi2 H2 (fun a => InE Fs2 a ∨ a ∈ W) := by
        refine ⟨s2.ex, fun a o e f => s2.fr a o e fun ⟨j, hj⟩ => ?_, fun a z => ?_, fun a o e => ?_⟩
        · rcases fa j a hj with ⟨i, _, hi⟩ | hG
          · exact f (.inl ⟨i, hi⟩)
          · exact f (.inr hG)
        · rcases z with z | z
          · rcases hF a z with z | z
            · exact .inl (.inl (out a z).1)
            · rcases s2.nw a (.inl z) with ⟨j, hj⟩ | z
              · rcases fa j a hj with ⟨i, _, hi⟩ | hG
                · exact .inl (.inl ⟨i, hi⟩)
                · exact .inl (.inr hG)
              · exact .inr z
          · rcases s2.nw a (.inr z) with ⟨j, hj⟩ | z
            · rcases fa j a hj with ⟨i, _, hi⟩ | hG
              · exact .inl (.inl ⟨i, hi⟩)
              · exact .inl (.inr hG)
            · exact .inr z
        · rcases s2.nh a o e with z | ⟨j, hj⟩ | z
          · exact .inl z
          · rcases fa j a hj with ⟨i, _, hi⟩ | hG
            · exact .inr (.inl (.inl ⟨i, hi⟩))
            · exact .inr (.inl (.inr hG))
          · exact .inr (.inr z)
      exact s1.trans s2'
  · cases q

/-! ### a def by its body -/
def startE (n : Nat) (ts : List Tr) : En := ts.map (fun t => if isOwn t = true then SL.par t else SL.val t) ++ List.replicate (n - ts.length) .no
def backs : List Tr → En → Option (List Tr)
  | [], _ => some []
  | t :: ts, s :: E => if isOwn t = true then (match s with | .par t' => (backs ts E).map (t' :: ·) | _ => none) else (backs ts E).map (t :: ·)
  | _ :: _, [] => none
def mFn (n : Nat) (mb : MS) : MFn := fun ts => (mb (startE n ts)).bind fun o => match o with
  | .rt r E' => (backs ts E').map fun ts' => (r, ts')
  | .nx E' => (backs ts E').map fun ts' => (.imm .none, ts')
  | _ => none
theorem startE_at {n : Nat} {ts : List Tr} {i : Nat} : at? (startE n ts) i = ts[i]? := by
  unfold at? startE
  rw [List.getElem?_append]
  by_cases h : i < ts.length
  · rw [if_pos (by simpa using h), List.getElem?_map]
    cases q : ts[i]? with
    | none => rfl
    | some t =>
      show SL.tree (if isOwn t = true then SL.par t else SL.val t) = some t
      split <;> rfl
  · rw [if_neg (by simpa using h), List.getElem?_eq_none_iff.mpr (show ts.length ≤ i by omega)]
    rw [List.getElem?_replicate]
    split <;> rfl
theorem backs_get : ∀ {ts : List Tr} {E : En} {ts' : List Tr}, backs ts E = some ts' → ts'.length = ts.length ∧ ∀ (i : Nat) t', ts'[i]? = some t' → ∃ t, ts[i]? = some t ∧ ((isOwn t = true ∧ E[i]? = some (.par t')) ∨ (isOwn t = false ∧ t' = t))
  | [], _, _, q => by
    cases q
    exact ⟨rfl, fun i t' z => by simp at z⟩
  | _ :: _, [], _, q => by cases q
  | t :: ts, s :: E, ts', q => by
    unfold backs at q
    split at q
    · rename_i ho
      split at q
      · rename_i t1
        obtain ⟨r, q1, rfl⟩ := Option.map_eq_some_iff.mp q
        obtain ⟨l, g⟩ := backs_get q1
        refine ⟨by simp [l], fun i t' z => ?_⟩
        cases i with
        | zero => simp at z; subst z; exact ⟨t, rfl, .inl ⟨ho, rfl⟩⟩
        | succ i => simpa using g i t' (by simpa using z)
      · cases q
    · rename_i ho
      obtain ⟨r, q1, rfl⟩ := Option.map_eq_some_iff.mp q
      obtain ⟨l, g⟩ := backs_get q1
      refine ⟨by simp [l], fun i t' z => ?_⟩
      cases i with
      | zero => simp at z; subst z; exact ⟨t, rfl, .inr ⟨by simpa using ho, rfl⟩⟩
      | succ i => simpa using g i t' (by simpa using z)
theorem start_ok {N : List Str} {vs : List V} {ts : List Tr} (ra : RepAs K Hi H vs ts Fs) (sub : Same Hi H) (hl : vs.length ≤ N.length) : RepE K vs Hi H (L2.start N vs) (startE N.length ts) Fs := by
  have hvs : ∀ (i : Nat) v, vs[i]? = some v → (L2.start N vs)[i]? = some (some v) := fun i v z => by
    unfold L2.start
    have hi := (List.getElem?_eq_some_iff.mp z).1
    rw [List.getElem?_append, if_pos (by simpa using hi), List.getElem?_map, z]
    rfl
  refine ⟨sub, ?_, fun i t q => ?_, fun i t q => ?_, fun i q => ?_, ra.dis⟩
  · unfold startE L2.start
    simp [ra.len]
  · rw [startE_at] at q
    obtain ⟨v, e, r⟩ := ra.val i t q
    exact ⟨v, hvs i v e, r⟩
  · have q' : at? (startE N.length ts) i = some t := at_par q
    rw [startE_at] at q'
    obtain ⟨v, e, r⟩ := ra.val i t q'
    exact ⟨v, hvs i v e, e⟩
  · rw [startE_at] at q
    exact ra.no i q
theorem back_ok {vs : List V} {ts ts' : List Tr} {E' : En} {Fs' : Nat → List Addr} {σ' : L2.St} (ra : RepAs K Hi H vs ts Fs) (ex : Same Hi Hi') (h : RepE K vs Hi' H' σ' E' Fs') (q : backs ts E' = some ts') :
    RepAs K Hi' H' vs ts' (fun i => if (ts[i]?.map isOwn) = some true then Fs' i else []) := by
  obtain ⟨l, g⟩ := backs_get q
  refine ⟨by rw [l, ra.len], fun i t' z => ?_, fun i z => ?_, fun i j a hi hj => ?_⟩
  · obtain ⟨t, e, c⟩ := g i t' z
    obtain ⟨v, ev, rt⟩ := ra.val i t e
    rcases c with ⟨ho, ep⟩ | ⟨ho, rfl⟩
    · obtain ⟨u, e1, r1⟩ := h.val i t' (at_par ep)
      obtain ⟨u', e2, e3⟩ := h.par i t' ep
      rw [e1] at e2
      cases e2
      refine ⟨u, e3, ?_⟩
      rw [e]
      dsimp only [Option.map]
      rw [if_pos (by rw [ho])]
      exact r1
    · refine ⟨v, ev, ?_⟩
      rw [e]
      dsimp only [Option.map]
      rw [if_neg (by rw [ho]; decide)]
      exact still rt ho ex
  · have : ts[i]? = none := by
      rw [List.getElem?_eq_none_iff] at z ⊢
      omega
    rw [this]
    exact if_neg (by intro z; cases z)
  · split at hi
    · split at hj
      · exact h.dis i j a hi hj
      · cases hj
    · cases hi
/-- THE RULE for a def: its body's reading gives what it promises -/
theorem fn_run {N : List Str} {n : Nat} {t : TS} {m : MS} {vs : List V} {Q : VK} {E1 : XK} (hb : SR K t m) (hn : n ≤ N.length) (h : spM K n (mFn N.length m) vs H Q E1) : t { nx := fun _ H' => Q .non H', rt := Q } (L2.start N vs) H := by
  obtain ⟨ts, r, ts', Hi, Fs, q, hl, sub, ra, k⟩ := h
  unfold mFn at q
  obtain ⟨o, q1, q⟩ := Option.bind_eq_some_iff.mp q
  refine hb _ o q1 vs _ Hi H Fs _ (start_ok ra sub (by rw [ra.len, hl]; exact hn)) ?_
  have fin : ∀ (v : V) (σ' : L2.St) (Hi' H' : Hp) (Fs' : Nat → List Addr) (G : List Addr) (E' : En) (tr : Tr), RepT K Hi' H' v tr G → RepE K vs Hi' H' σ' E' Fs' → (∀ a ∈ G, ¬ InE Fs' a) → Step Hi H (InE Fs) Hi' H' (fun a => InE Fs' a ∨ a ∈ G) →
      backs ts E' = some ts' → r = tr → Q v H' := fun v σ' Hi' H' Fs' G E' tr rt h' d s e er => by
    subst er
    have sb : ∀ a, InE (fun i => if (ts[i]?.map isOwn) = some true then Fs' i else []) a → InE Fs' a := fun a ⟨i, hi⟩ => by
      dsimp only at hi
      split at hi
      · exact ⟨i, hi⟩
      · cases hi
    exact k v Hi' H' _ G (back_ok ra s.ex h' e) h'.sub rt (fun a ha hf => d a ha (sb a hf)) (s.weak fun x z => z.imp (sb x) id)
  cases o with
  | rt tr E' =>
    obtain ⟨ts2, q2, e⟩ := Option.map_eq_some_iff.mp q
    cases e
    exact fun v σ' Hi' H' Fs' G rt h' d s => fin v σ' Hi' H' Fs' G E' _ rt h' d s q2 rfl
  | nx E' =>
    obtain ⟨ts2, q2, e⟩ := Option.map_eq_some_iff.mp q
    cases e
    exact fun σ' Hi' H' Fs' h' s => fin .non σ' Hi' H' Fs' [] E' (.imm .none) (.imm .non) h' (fun a z => nomatch z) (s.weak fun x z => z.elim id fun y => nomatch y) q2 rfl
  | bk E' => cases q
  | ct E' => cases q
end
end FL

/-! FL, part E: loops, comprehensions. -/
namespace FL
open PySem L2

structure ItOk (K : PySem.W.Frag) (J : It) (Hi1 : Hp) (ds : List PyData) : Prop where
  stop : ∀ Hi H, Same Hi1 Hi → Same Hi H → ∀ i, ds.length ≤ i → J.stop i H
  go : ∀ Hi H, Same Hi1 Hi → Same Hi H → ∀ i, i < ds.length → J.go i H
  yld : ∀ Hi H, Same Hi1 Hi → Same Hi H → ∀ (i : Nat) d x H', ds[i]? = some d → J.yld i H x H' → ∃ Hi', Grow Hi H Hi' H' [] ∧ Dp K Hi' x d
def IR (K : PySem.W.Frag) (wi : TI) (m : MI) : Prop := ∀ E ds E', m E = some (ds, E') → ∀ A σ Hi H Fs, RepE K A Hi H σ E Fs → ∀ R : It → Hp → Prop,
  (∀ J Hi' H' Fs', ItOk K J Hi' ds → RepE K A Hi' H' σ E' Fs' → Step Hi H (InE Fs) Hi' H' (InE Fs') → R J H') → wi σ H R
section
variable {K : PySem.W.Frag} {A : List V} {Hi H Hi1 H1 Hi' H' : Hp} {σ : L2.St} {E : En} {Fs : Nat → List Addr} {te : TE} {m : MF} {ma : MR}
/-! ### for -/
def afterTurn (go : En → Option Out) : Out → Option Out
  | .nx E => go E
  | .ct E => go E
  | .bk E => some (.nx E)
  | .rt t E => some (.rt t E)
def forD (mg : Tr → En → Option En) (mb : MS) : List PyData → MS
  | [], E => some (.nx E)
  | d :: ds, E => (mg (.imm d) E).bind fun E1 => (mb E1).bind (afterTurn (forD mg mb ds))
def mFor (mi : MI) (mg : Tr → En → Option En) (mb : MS) : MS := fun E => (mi E).bind fun p => forD mg mb p.1 p.2
theorem sr_for {wi : TI} {g : TG} {tb : TS} {mi : MI} {mg : Tr → En → Option En} {mb : MS} {ws : List Nat} (hi : IR K wi mi) (hg : GR K g mg ws) (hb : SR K tb mb) : SR K (tFor wi g tb) (mFor mi mg mb) := fun E out q A σ Hi H Fs D h go => by
  obtain ⟨⟨ds, E1⟩, q1, q⟩ := Option.bind_eq_some_iff.mp q
  refine hi E ds E1 q1 A σ Hi H Fs h _ fun J Hi1 H1 Fs1 it h1 s1 => ?_
  refine ⟨fun i m σ' H' => i + m = ds.length ∧ ∃ E' Hi' Fs', RepE K A Hi' H' σ' E' Fs' ∧ Same Hi1 Hi' ∧ Step Hi H (InE Fs) Hi' H' (InE Fs') ∧ forD mg mb (ds.drop i) E' = some out,
    ⟨ds.length, by simp, E1, Hi1, Fs1, h1, Same.refl _, s1, q⟩, fun i m σ' H' hw => ?_⟩
  obtain ⟨hm, E', Hi', Fs', h', ex, s', qf⟩ := hw
  cases e : ds.drop i with
  | nil =>
    rw [e] at qf
    cases qf
    have hl : ds.length ≤ i := List.drop_eq_nil_iff.mp e
    exact .inl ⟨it.stop Hi' H' ex h'.sub i hl, go σ' Hi' H' Fs' h' s'⟩
  | cons d r =>
    have hlt : i < ds.length := by
      refine Nat.lt_of_not_le fun z => ?_
      rw [List.drop_eq_nil_iff.mpr z] at e
      cases e
    have hd : ds[i]? = some d := by
      have := List.getElem?_drop (xs := ds) (i := i) (j := 0)
      rw [e] at this
      simpa using this.symm
    have hr : ds.drop (i + 1) = r := by
      rw [← List.drop_drop, e]
      rfl
    rw [e] at qf
    obtain ⟨E2, q2, qf⟩ := Option.bind_eq_some_iff.mp qf
    obtain ⟨o, q3, qf⟩ := Option.bind_eq_some_iff.mp qf
    refine .inr ⟨it.go Hi' H' ex h'.sub i hlt, fun σ2 H2 => i + 1 + (m - 1) = ds.length ∧ ∃ E' Hi' Fs', RepE K A Hi' H2 σ2 E' Fs' ∧ Same Hi1 Hi' ∧ Step Hi H (InE Fs) Hi' H2 (InE Fs') ∧ forD mg mb (ds.drop (i + 1)) E' = some out,
      fun σ2 H2 hN => ⟨m - 1, by omega, hN⟩, fun x H2 hy => ?_⟩
    obtain ⟨Hi2, gr, hx⟩ := it.yld Hi' H' ex h'.sub i d x H2 hd hy
    refine hg (.imm d) E' E2 q2 A σ' Hi2 H2 Fs' x [] (h'.grow gr) (.imm hx) (fun a z => nomatch z) _ fun σ3 Hi3 H3 Fs3 _ h3 s3 => ?_
    have s03 : Step Hi H (InE Fs) Hi3 H3 (InE Fs3) := s'.trans ((gr.step _).trans s3)
    have ex3 : Same Hi1 Hi3 := ex.trans (gr.ex.trans s3.ex)
    refine hb E2 o q3 A σ3 Hi3 H3 Fs3 _ h3 ?_
    have again : ∀ E4, forD mg mb r E4 = some out → ∀ σ4 Hi4 H4 Fs4, RepE K A Hi4 H4 σ4 E4 Fs4 → Step Hi3 H3 (InE Fs3) Hi4 H4 (InE Fs4) → i + 1 + (m - 1) = ds.length ∧ ∃ E' Hi' Fs', RepE K A Hi' H4 σ4 E' Fs' ∧ Same Hi1 Hi' ∧ Step Hi H (InE Fs) Hi' H4 (InE Fs') ∧ forD mg mb (ds.drop (i + 1)) E' = some out :=
      fun E4 q4 σ4 Hi4 H4 Fs4 h4 s4 => ⟨by omega, E4, Hi4, Fs4, h4, ex3.trans s4.ex, s03.trans s4, by rw [hr]; exact q4⟩
    cases o with
    | nx E4 => exact again E4 qf
    | ct E4 => exact again E4 qf
    | bk E4 => cases qf; exact Goal.from (out := .nx E4) go s03
    | rt t E4 => cases qf; exact Goal.from (out := .rt t E4) go s03
/-! ### while -/
def whileF (mc : MT) (mb : MS) : Nat → MS
  | 0, _ => none
  | n + 1, E => (mc E).bind fun p => if p.1 = true then (mb p.2).bind (afterTurn (whileF mc mb n)) else some (.nx p.2)
theorem whileF_succ {mc : MT} {mb : MS} : ∀ {n : Nat} {E : En} {o : Out}, whileF mc mb n E = some o → whileF mc mb (n + 1) E = some o
  | 0, _, _, q => by cases q
  | n + 1, E, o, q => by
    obtain ⟨p, q1, q⟩ := Option.bind_eq_some_iff.mp q
    show (mc E).bind _ = some o
    rw [q1]
    show (if p.1 = true then (mb p.2).bind (afterTurn (whileF mc mb (n + 1))) else some (.nx p.2)) = some o
    split at q
    · rename_i hp
      rw [if_pos hp]
      obtain ⟨o1, q2, q⟩ := Option.bind_eq_some_iff.mp q
      rw [q2]
      cases o1 with
      | nx E1 => exact whileF_succ q
      | ct E1 => exact whileF_succ q
      | bk E1 => exact q
      | rt t E1 => exact q
    · rename_i hp
      rw [if_neg hp]
      exact q
theorem whileF_more {mc : MT} {mb : MS} {n : Nat} {E : En} {o : Out} (q : whileF mc mb n E = some o) : ∀ k, whileF mc mb (n + k) E = some o
  | 0 => q
  | k + 1 => whileF_succ (whileF_more q k)
open Classical in
noncomputable def mWhile (mc : MT) (mb : MS) : MS := fun E => if h : ∃ n o, whileF mc mb n E = some o then whileF mc mb (Classical.choose h) E else none
theorem mWhile_of {mc : MT} {mb : MS} {n : Nat} {E : En} {o : Out} (q : whileF mc mb n E = some o) : mWhile mc mb E = some o := by
  have h : ∃ n o, whileF mc mb n E = some o := ⟨n, o, q⟩
  unfold mWhile
  rw [dif_pos h]
  obtain ⟨o', q'⟩ := Classical.choose_spec h
  have a := whileF_more q (Classical.choose h)
  have b := whileF_more q' n
  rw [Nat.add_comm] at b
  rw [a] at b
  rw [q', b]
theorem mWhile_fuel {mc : MT} {mb : MS} {E : En} {o : Out} (q : mWhile mc mb E = some o) : ∃ n, whileF mc mb n E = some o := by
  unfold mWhile at q
  split at q
  · exact ⟨_, q⟩
  · cases q
theorem sr_while {c : TT} {tb : TS} {mc : MT} {mb : MS} (hc : TR K c mc) (hb : SR K tb mb) : SR K (tWhile c tb) (mWhile mc mb) := fun E out q A σ Hi H Fs D h go => by
  obtain ⟨n, q⟩ := mWhile_fuel q
  refine ⟨fun m σ' H' => ∃ E' Hi' Fs', RepE K A Hi' H' σ' E' Fs' ∧ Step Hi H (InE Fs) Hi' H' (InE Fs') ∧ whileF mc mb m E' = some out, ⟨n, E, Hi, Fs, h, Step.refl _ _ _, q⟩, fun m σ' H' hw => ?_⟩
  obtain ⟨E', Hi', Fs', h', s', qf⟩ := hw
  cases m with
  | zero => cases qf
  | succ m =>
    obtain ⟨⟨b, E1⟩, q1, qf⟩ := Option.bind_eq_some_iff.mp qf
    refine hc E' b E1 q1 A σ' Hi' H' Fs' h' _ fun Hi1 H1 Fs1 h1 s1 => ?_
    have s01 := s'.trans s1
    cases b with
    | false =>
      cases qf
      exact go σ' Hi1 H1 Fs1 h1 s01
    | true =>
      obtain ⟨o, q2, qf⟩ := Option.bind_eq_some_iff.mp (show (mb E1).bind (afterTurn (whileF mc mb m)) = some out from qf)
      refine ⟨fun σ2 H2 => ∃ E' Hi' Fs', RepE K A Hi' H2 σ2 E' Fs' ∧ Step Hi H (InE Fs) Hi' H2 (InE Fs') ∧ whileF mc mb m E' = some out, fun σ2 H2 hN => ⟨m, Nat.lt_succ_self _, hN⟩, ?_⟩
      refine hb E1 o q2 A σ' Hi1 H1 Fs1 _ h1 ?_
      cases o with
      | nx E4 => exact fun σ4 Hi4 H4 Fs4 h4 s4 => ⟨E4, Hi4, Fs4, h4, s01.trans s4, qf⟩
      | ct E4 => exact fun σ4 Hi4 H4 Fs4 h4 s4 => ⟨E4, Hi4, Fs4, h4, s01.trans s4, qf⟩
      | bk E4 => cases qf; exact Goal.from (out := .nx E4) go s01
      | rt t E4 => cases qf; exact Goal.from (out := .rt t E4) go s01

/-! ### comprehensions -/
def wipeE (E : En) : List Nat → Option En
  | [] => some E
  | v :: vs => (wipeE E vs).bind fun E' => match E'[v]? with
    | some (.par _) => none
    | _ => some (E'.set v .no)
/-- the comprehension's own names are as they were -/
def backE (E0 E : En) : List Nat → En
  | [] => E
  | v :: vs => match E0[v]? with
    | some (.val (.imm d)) => (backE E0 E vs).set v (.val (.imm d))
    | _ => backE E0 E vs
def lcD (mg : Tr → En → Option En) (mt : MT) (mf : MF) (vs : List Nat) : List PyData → List Tr → En → Option (List Tr × En)
  | [], acc, E => some (acc, E)
  | d :: ds, acc, E => (mg (.imm d) E).bind fun E1 => (mt E1).bind fun p => if p.1 = true then (mf p.2).bind fun r => if acc.length < 16777216 then (wipeE r.2 vs).bind fun E4 => lcD mg mt mf vs ds (acc ++ [r.1]) E4 else none
    else (wipeE p.2 vs).bind fun E4 => lcD mg mt mf vs ds acc E4
def mLc (mi : MI) (mg : Tr → En → Option En) (mt : MT) (mf : MF) (vs : List Nat) : MF := fun E => (mi E).bind fun p => (wipeE p.2 vs).bind fun E1 => (lcD mg mt mf vs p.1 [] E1).bind fun r => some (.lst r.1, backE p.2 r.2 vs)
theorem wipeE_ok : ∀ {vs : List Nat} {E E' : En}, RepE K A Hi H σ E Fs → wipeE E vs = some E' → ∃ Fs', RepE K A Hi H (wipe σ vs) E' Fs' ∧ (∀ a, InE Fs' a → InE Fs a) ∧ ∀ i ∈ vs, at? E' i = none
  | [], E, E', h, q => by
    cases q
    exact ⟨Fs, h, fun _ z => z, fun _ z => nomatch z⟩
  | v :: vs, E, E', h, q => by
    obtain ⟨E1, q1, q⟩ := Option.bind_eq_some_iff.mp q
    obtain ⟨Fs1, h1, f1, n1⟩ := wipeE_ok h q1
    have q' : E' = E1.set v .no ∧ ∀ t, E1[v]? ≠ some (.par t) := by
      split at q
      · cases q
      · rename_i e
        cases q
        exact ⟨rfl, fun t z => e t z⟩
    obtain ⟨rfl, np⟩ := q'
    have hat : ∀ j, at? (E1.set v .no) j = if v = j then none else at? E1 j := fun j => by
      rw [at_set]
      by_cases e : v = j
      · subst e
        by_cases hl : v < E1.length
        · rw [if_pos ⟨rfl, hl⟩, if_pos rfl]
          rfl
        · rw [if_neg (fun z => hl z.2), if_pos rfl]
          unfold at?
          rw [List.getElem?_eq_none_iff.mpr (by omega)]
          rfl
      · rw [if_neg (fun z => e z.1), if_neg e]
    refine ⟨fset Fs1 v [], ⟨h1.sub, by show (E1.set v .no).length = ((wipe σ vs).set v none).length; rw [List.length_set, List.length_set, h1.len], fun i t z => ?_, fun i t z => ?_, fun i z => ?_, fun i j a hi hj => ?_⟩, fun a ha => ?_, fun i hi => ?_⟩
    · rw [hat] at z
      by_cases e : v = i
      · rw [if_pos e] at z; cases z
      · rw [if_neg e] at z
        obtain ⟨u, e1, r⟩ := h1.val i t z
        refine ⟨u, ?_, by rw [fset_ne (Ne.symm e)]; exact r⟩
        show ((wipe σ vs).set v none)[i]? = _
        rw [List.getElem?_set_ne e]
        exact e1
    · rw [List.getElem?_set] at z
      by_cases e : v = i
      · rw [if_pos e] at z
        split at z <;> cases z
      · rw [if_neg e] at z
        obtain ⟨u, e1, r⟩ := h1.par i t z
        refine ⟨u, ?_, r⟩
        show ((wipe σ vs).set v none)[i]? = _
        rw [List.getElem?_set_ne e]
        exact e1
    · rw [hat] at z
      by_cases e : v = i
      · subst e; exact fset_same
      · rw [if_neg e] at z
        rw [fset_ne (Ne.symm e)]
        exact h1.no i z
    · by_cases e1 : i = v
      · subst e1; rw [fset_same] at hi; cases hi
      · by_cases e2 : j = v
        · subst e2; rw [fset_same] at hj; cases hj
        · rw [fset_ne e1] at hi
          rw [fset_ne e2] at hj
          exact h1.dis i j a hi hj
    · rcases inE_fset ha with z | z
      · exact f1 a z
      · cases z
    · rw [hat]
      rcases List.mem_cons.mp hi with e | hi
      · rw [if_pos e.symm]
      · split
        · rfl
        · exact n1 i hi
theorem backE_ok : ∀ {vs : List Nat} {E0 E : En} {Fs0 : Nat → List Addr}, RepE K A Hi H σ E0 Fs0 → Same Hi Hi' → RepE K A Hi' H' (wipe σ vs) E Fs → (∀ i ∈ vs, at? E i = none) → RepE K A Hi' H' σ (backE E0 E vs) Fs
  | vs, E0, E, Fs0, h0, ex, h, hn => by
    -- E at σ itself: the places of vs are empty
    have hl : σ.length = (wipe σ vs).length := (wipe_length σ vs).symm
    have base : RepE K A Hi' H' σ E Fs := by
      refine ⟨h.sub, by rw [h.len, hl], fun i t z => ?_, fun i t z => ?_, h.no, h.dis⟩
      · obtain ⟨u, e, r⟩ := h.val i t z
        exact ⟨u, (wipe_some e).1, r⟩
      · obtain ⟨u, e, r⟩ := h.par i t z
        exact ⟨u, (wipe_some e).1, r⟩
    have step : ∀ (ws : List Nat), (∀ i ∈ ws, i ∈ vs) → RepE K A Hi' H' σ (backE E0 E ws) Fs := by
      intro ws
      induction ws with
      | nil => intro _; exact base
      | cons v ws ih =>
        intro hv
        have ih := ih fun i hi => hv i (List.mem_cons_of_mem _ hi)
        unfold backE
        split
        · rename_i d e
          obtain ⟨u, e1, r⟩ := h0.val v _ (at_val e)
          have hd := dpMono ex _ _ r.imm_inv.1
          have hlt : v < (backE E0 E ws).length := by rw [ih.len, ← h0.len]; exact lt_of_at e
          have hF : Fs v = [] := h.no v (hn v (hv v List.mem_cons_self))
          refine ⟨ih.sub, by rw [List.length_set]; exact ih.len, fun i t z => ?_, fun i t z => ?_, fun i z => ?_, ih.dis⟩
          · rw [at_set] at z
            by_cases ei : v = i
            · subst ei
              rw [if_pos ⟨rfl, hlt⟩] at z
              cases z
              exact ⟨u, e1, by rw [hF]; exact .imm hd⟩
            · rw [if_neg (fun y => ei y.1)] at z
              exact ih.val i t z
          · rw [List.getElem?_set] at z
            by_cases ei : v = i
            · rw [if_pos ei] at z
              split at z <;> cases z
            · rw [if_neg ei] at z
              exact ih.par i t z
          · rw [at_set] at z
            by_cases ei : v = i
            · subst ei; exact hF
            · rw [if_neg (fun y => ei y.1)] at z
              exact ih.no i z
        · exact ih
    exact step vs fun _ z => z
theorem wipe_chg {ws vs : List Nat} {σ0 σ2 : L2.St} (c : Chg ws (wipe σ0 vs) σ2) (hs : ∀ i ∈ ws, i ∈ vs) : wipe σ2 vs = wipe σ0 vs := by
  refine List.ext_getElem? fun i => ?_
  have hmem : ∀ (τ : L2.St), i ∈ vs → (wipe τ vs)[i]? = if i < τ.length then some none else none := fun τ hi => by
    by_cases hl : i < τ.length
    · rw [if_pos hl]
      have hl2 : i < (wipe τ vs).length := by rw [wipe_length]; exact hl
      cases q : (wipe τ vs)[i]? with
      | none => rw [List.getElem?_eq_none_iff] at q; omega
      | some o =>
        cases o with
        | none => rfl
        | some x => exact absurd hi (wipe_some q).2
    · rw [if_neg hl, List.getElem?_eq_none_iff, wipe_length]
      omega
  by_cases hi : i ∈ vs
  · rw [hmem _ hi, hmem _ hi, c.1, wipe_length]
  · rw [wipe_out hi, c.2 i fun z => hi (hs i z)]
theorem RepTs.snoc {vs : List V} {ts : List Tr} {F G : List Addr} {v : V} {t : Tr} : RepTs K Hi H vs ts F → RepT K Hi H v t G → (∀ a ∈ F, a ∉ G) → ∃ F', RepTs K Hi H (vs ++ [v]) (ts ++ [t]) F' ∧ ∀ a, a ∈ F' ↔ a ∈ F ∨ a ∈ G
  | .nil, r, _ => ⟨G ++ [], .cons r .nil (fun a _ z => nomatch z), fun a => by simp⟩
  | .cons (F := F1) (G := G1) r1 rs d1, r, d => by
    obtain ⟨F', r', hF⟩ := RepTs.snoc rs r fun a ha => d a (List.mem_append_right _ ha)
    refine ⟨F1 ++ F', .cons r1 r' fun a ha hb => ?_, fun a => by simp [hF, or_assoc]⟩
    rcases (hF a).mp hb with z | z
    · exact d1 a ha z
    · exact d a (List.mem_append_left _ ha) z
theorem fr_lc {wi : TI} {g : TG} {tt : TT} {mi : MI} {mg : Tr → En → Option En} {mt : MT} {mf : MF} {ws vs : List Nat} (hi : IR K wi mi) (hg : GR K g mg ws) (ht : TR K tt mt) (he : FR K te mf) (hws : ∀ i ∈ ws, i ∈ vs) : FR K (tLc wi g tt te vs) (mLc mi mg mt mf vs) := fun E w E' q A σ Hi H Fs h Q k => by
  unfold mLc at q
  obtain ⟨⟨ds, E1⟩, q1, q⟩ := Option.bind_eq_some_iff.mp q
  obtain ⟨E2, q2, q⟩ := Option.bind_eq_some_iff.mp q
  obtain ⟨⟨ts, E3⟩, q3, q⟩ := Option.bind_eq_some_iff.mp q
  cases q
  refine hi E ds E1 q1 A σ Hi H Fs h _ fun J Hi1 H1 Fs1 it h1 s1 => ?_
  intro Dl hD
  obtain ⟨Fs2, h2, f2, n2⟩ := wipeE_ok h1 q2
  have g0 : Grow Hi1 H1 Hi1 (upd H1 Dl (.lst [])) [Dl] := Grow.own h1.sub hD
  -- what holds at a turn
  refine ⟨fun i m H' => i + m = ds.length ∧ ∃ E' Hi' Fs' G vsa acc, RepE K A Hi' H' (wipe σ vs) E' Fs' ∧ (∀ i ∈ vs, at? E' i = none) ∧ Same Hi1 Hi' ∧ H' Dl = some (.lst vsa) ∧ Hi' Dl = none ∧ ¬ InE Fs' Dl ∧ Dl ∉ G ∧ RepTs K Hi' H' vsa acc G ∧ (∀ a ∈ G, ¬ InE Fs' a) ∧
      Step Hi H (InE Fs) Hi' H' (fun a => InE Fs' a ∨ a ∈ Dl :: G) ∧ lcD mg mt mf vs (ds.drop i) acc E' = some (ts, E3),
    ⟨ds.length, by simp, E2, Hi1, Fs2, [], [], [], h2.grow g0, n2, Same.refl _, upd_same, free_of h1.sub hD, fun z => ?_, (fun z => nomatch z), .nil, (fun a z => nomatch z), ?_, q3⟩, fun i m H' hw => ?_⟩
  · obtain ⟨_, o, e⟩ := h2.own z
    rw [hD] at e; cases e
  · refine s1.trans ((g0.step _).weak fun a z => ?_)
    rcases z with z | z
    · exact .inl (f2 a z)
    · exact .inr z
  obtain ⟨hm, E', Hi', Fs', G, vsa, acc, h', n', ex, hDl, hDi, dF, dG, ra, rd, s', ql⟩ := hw
  cases e : ds.drop i with
  | nil =>
    rw [e] at ql
    cases ql
    have hl : ds.length ≤ i := List.drop_eq_nil_iff.mp e
    refine .inl ⟨it.stop Hi' H' ex h'.sub i hl, ?_⟩
    refine k (.ref Dl) Hi' H' Fs' (Dl :: G) (.lst hDl hDi ra dG) (backE_ok h1 ex h' n') (fun a ha => ?_) s'
    rcases List.mem_cons.mp ha with rfl | ha
    · exact dF
    · exact rd a ha
  | cons d r =>
    have hlt : i < ds.length := by
      refine Nat.lt_of_not_le fun z => ?_
      rw [List.drop_eq_nil_iff.mpr z] at e
      cases e
    have hd : ds[i]? = some d := by
      have := List.getElem?_drop (xs := ds) (i := i) (j := 0)
      rw [e] at this
      simpa using this.symm
    have hr : ds.drop (i + 1) = r := by
      rw [← List.drop_drop, e]
      rfl
    rw [e] at ql
    obtain ⟨E4, q4, ql⟩ := Option.bind_eq_some_iff.mp ql
    obtain ⟨⟨b, E5⟩, q5, ql⟩ := Option.bind_eq_some_iff.mp ql
    refine .inr ⟨it.go Hi' H' ex h'.sub i hlt, fun H' => i + 1 + (m - 1) = ds.length ∧ ∃ E' Hi' Fs' G vsa acc, RepE K A Hi' H' (wipe σ vs) E' Fs' ∧ (∀ i ∈ vs, at? E' i = none) ∧ Same Hi1 Hi' ∧ H' Dl = some (.lst vsa) ∧ Hi' Dl = none ∧ ¬ InE Fs' Dl ∧ Dl ∉ G ∧ RepTs K Hi' H' vsa acc G ∧ (∀ a ∈ G, ¬ InE Fs' a) ∧
      Step Hi H (InE Fs) Hi' H' (fun a => InE Fs' a ∨ a ∈ Dl :: G) ∧ lcD mg mt mf vs (ds.drop (i + 1)) acc E' = some (ts, E3), fun H' hN => ⟨m - 1, by omega, hN⟩, fun x H2 hy => ?_⟩
    obtain ⟨Hi2, gr, hx⟩ := it.yld Hi' H' ex h'.sub i d x H2 hd hy
    have sg : Step Hi' H' (fun _ => False) Hi2 H2 (fun a => False ∨ a ∈ ([] : List Addr)) := gr.step _
    -- what is held besides: the new list and its items
    have out0 : ∀ a ∈ Dl :: G, ¬ InE Fs' a := fun a ha => (List.mem_cons.mp ha).elim (fun z => by rw [z]; exact dF) (rd a)
    have there : ∀ a ∈ Dl :: G, ∃ o, H' a = some o := fun a ha => (List.mem_cons.mp ha).elim (fun z => by rw [z]; exact ⟨_, hDl⟩) fun z => (ra.ownG a z).2
    have held : RepT K Hi' H' (.ref Dl) (.lst acc) (Dl :: G) := .lst hDl hDi ra dG
    have held2 := sg.keep held fun _ _ z => z
    refine hg (.imm d) E' E4 q4 A (wipe σ vs) Hi2 H2 Fs' x [] (h'.grow gr) (.imm hx) (fun a z => nomatch z) _ fun σ3 Hi3 H3 Fs3 c3 h3 s3 => ?_
    have s3 : Step Hi2 H2 (InE Fs') Hi3 H3 (InE Fs3) := s3.more fun x z => z.elim id fun y => nomatch y
    have out3 := s3.apart (fun a ha => (held2.ownG a ha).2) out0
    have held3 := s3.keep held2 out0
    refine ⟨wipe_chg c3 hws, ?_⟩
    refine ht E4 b E5 q5 A σ3 Hi3 H3 Fs3 h3 _ fun Hi5 H5 Fs5 h5 s5 => ?_
    have out5 := s5.apart (fun a ha => (held3.ownG a ha).2) out3
    have held5 := s5.keep held3 out3
    have s05 : Step Hi H (InE Fs) Hi5 H5 (fun a => InE Fs5 a ∨ a ∈ Dl :: G) := by
      have st : Step Hi' H' (InE Fs') Hi5 H5 (InE Fs5) := ((gr.step (InE Fs')).weak fun x z => .inl z).trans (s3.trans s5)
      refine ⟨s'.ex.trans st.ex, fun a o ea fa => st.fr a o (s'.fr a o ea fa) fun z => ?_, fun a z => ?_, fun a o ea => ?_⟩
      · rcases s'.nw a (.inl z) with y | y
        · exact fa y
        · rw [ea] at y; cases y
      · rcases z with z | z
        · rcases st.nw a z with y | y
          · exact s'.nw a (.inl y)
          · cases qa : H a with
            | none => exact .inr rfl
            | some o =>
              by_cases fa : InE Fs a
              · exact .inl fa
              · rw [s'.fr a o qa fa] at y; cases y
        · exact s'.nw a (.inr z)
      · rcases st.nh a o ea with ⟨o', y⟩ | y | y
        · exact s'.nh a o' y
        · exact .inr (s'.nw a (.inl y))
        · cases qa : H a with
          | none => exact .inr (.inr rfl)
          | some o' =>
            by_cases fa : InE Fs a
            · exact .inr (.inl fa)
            · rw [s'.fr a o' qa fa] at y; cases y
    have ex5 : Same Hi1 Hi5 := ex.trans (gr.ex.trans (s3.ex.trans s5.ex))
    have hw5 : wipe σ3 vs = wipe σ vs := wipe_chg c3 hws
    cases b with
    | false =>
      obtain ⟨E6, q6, ql⟩ := Option.bind_eq_some_iff.mp (show (wipeE E5 vs).bind _ = _ from ql)
      obtain ⟨Fs6, h6, f6, n6⟩ := wipeE_ok h5 q6
      rw [hw5] at h6
      cases held5 with
      | lst a1 a2 a3 a4 =>
        exact ⟨by omega, E6, Hi5, Fs6, G, _, acc, h6, n6, ex5, a1, a2, fun z => out5 Dl List.mem_cons_self (f6 _ z), a4, a3, fun a ha z => out5 a (List.mem_cons_of_mem _ ha) (f6 _ z), s05.weak fun a z => z.imp (f6 a) id, by rw [hr]; exact ql⟩
    | true =>
      obtain ⟨⟨t, E6⟩, q6, ql⟩ := Option.bind_eq_some_iff.mp (show (mf E5).bind _ = _ from ql)
      dsimp only at ql
      split at ql
      · rename_i hz
        obtain ⟨E7, q7, ql⟩ := Option.bind_eq_some_iff.mp ql
        refine he E5 t E6 q6 A σ3 Hi5 H5 Fs5 h5 _ fun y Hi6 H6 Fs6 W ry h6 dW s6 => ?_
        have out6 := s6.apart (fun a ha => (held5.ownG a ha).2) out5
        have held6 := s6.keep held5 out5
        obtain ⟨Fs7, h7, f7, n7⟩ := wipeE_ok h6 q7
        rw [hw5] at h7
        cases held6 with
        | @lst _ vsb _ _ a1 a2 a3 a4 =>
          have nDW : Dl ∉ W := fun z => out6 Dl List.mem_cons_self (.inr z)
          refine ⟨vsb, a1, by rw [sizeLine_eq, a3.length]; exact hz, by omega, ?_⟩
          obtain ⟨G', rG, hG⟩ := a3.snoc ry fun a ha hb => out6 a (List.mem_cons_of_mem _ ha) (.inr hb)
          -- the list grows by one
          have su : Step Hi6 H6 (fun a => a = Dl) Hi6 (upd H6 Dl (.lst (vsb ++ [y]))) (fun a => a = Dl) :=
            ⟨Same.refl _, fun a o ea na => by rw [upd_ne na]; exact ea, fun a z => .inl z, fun a o ea => .inl ⟨o, ea⟩⟩
          have sub7 : Same Hi6 (upd H6 Dl (.lst (vsb ++ [y]))) := fun a o ea => by
            have : a ≠ Dl := fun z => by rw [z, a2] at ea; cases ea
            rw [upd_ne this]
            exact h6.sub a o ea
          have nD7 : ¬ InE Fs7 Dl := fun z => out6 Dl List.mem_cons_self (.inl (f7 _ z))
          have nDG : Dl ∉ G' := fun z => ((hG Dl).mp z).elim a4 nDW
          have h7' := h7.keep su sub7 fun a ha z => nD7 (z ▸ ha)
          have rG' := su.keeps rG fun a ha z => nDG (z ▸ ha)
          refine ⟨E7, Hi6, Fs7, G', _, acc ++ [t], h7', n7, ex5.trans s6.ex, upd_same, a2, nD7, nDG, rG', fun a ha z => ?_, ?_, by rw [hr]; exact ql⟩
          · rcases (hG a).mp ha with y | y
            · exact out6 a (List.mem_cons_of_mem _ y) (.inl (f7 _ z))
            · exact dW a y (f7 _ z)
          · refine ⟨s05.ex.trans s6.ex, fun a o ea fa => ?_, fun a z => ?_, fun a o ea => ?_⟩
            · have h5a := s05.fr a o ea fa
              have n5 : ¬ (InE Fs5 a ∨ a ∈ Dl :: G) := fun z => by
                rcases s05.nw a z with y | y
                · exact fa y
                · rw [ea] at y; cases y
              have h6a := s6.fr a o h5a fun z => n5 (.inl z)
              rw [upd_ne fun z => n5 (.inr (by rw [z]; exact List.mem_cons_self))]
              exact h6a
            · have back : ∀ b, InE Fs5 b ∨ H5 b = none → InE Fs b ∨ H b = none := fun b z => by
                rcases z with z | z
                · exact s05.nw b (.inl z)
                · cases qb : H b with
                  | none => exact .inr rfl
                  | some o =>
                    by_cases fb : InE Fs b
                    · exact .inl fb
                    · rw [s05.fr b o qb fb] at z; cases z
              rcases z with z | z
              · exact back a (s6.nw a (.inl (f7 a z)))
              · rcases List.mem_cons.mp z with rfl | z
                · exact s05.nw a (.inr List.mem_cons_self)
                · rcases (hG a).mp z with y | y
                  · exact s05.nw a (.inr (List.mem_cons_of_mem _ y))
                  · exact back a (s6.nw a (.inr y))
            · rcases s6.nh a o ea with ⟨o', y⟩ | y | y
              · exact s05.nh a o' y
              · exact .inr (s05.nw a (.inl y))
              · cases qa : H a with
                | none => exact .inr (.inr rfl)
                | some o' =>
                  by_cases fa : InE Fs a
                  · exact .inr (.inl fa)
                  · rw [s05.fr a o' qa fa] at y; cases y
      · cases ql
end
end FL

/-! FL, part F: stores into lists and dicts, methods that change their list. -/
namespace FL
open PySem L2
section
variable {K : PySem.W.Frag} {A : List V} {Hi H Hi1 H1 Hi' H' : Hp} {σ : L2.St} {E : En} {Fs : Nat → List Addr} {te : TE} {m : MF} {ma : MR}
theorem RepTs.get : ∀ {vs : List V} {ts : List Tr} {F : List Addr} {j : Nat} {t : Tr}, RepTs K Hi H vs ts F → ts[j]? = some t → ∃ v G, vs[j]? = some v ∧ RepT K Hi H v t G ∧ ∀ a ∈ G, a ∈ F
  | _, _, _, j, _, .nil, e => by simp at e
  | _, _, _, 0, _, .cons r _ _, e => by
    simp at e
    subst e
    exact ⟨_, _, rfl, r, fun a ha => List.mem_append_left _ ha⟩
  | _, _, _, j + 1, _, .cons _ rs _, e => by
    obtain ⟨v, G, a, b, c⟩ := RepTs.get rs (by simpa using e)
    exact ⟨v, G, by simpa using a, b, fun x hx => List.mem_append_right _ (c x hx)⟩
/-- an item is another one now -/
theorem RepTs.set {v : V} {t : Tr} {G : List Addr} : ∀ {vs : List V} {ts : List Tr} {F : List Addr} (j : Nat), RepTs K Hi H vs ts F → RepT K Hi H v t G → (∀ a ∈ G, a ∉ F) → ∃ F', RepTs K Hi H (vs.set j v) (ts.set j t) F' ∧ ∀ a ∈ F', a ∈ F ∨ a ∈ G
  | _, _, _, _, .nil, _, _ => ⟨[], .nil, fun _ z => nomatch z⟩
  | _, _, _, 0, .cons r rs d, rt, dg => ⟨_, .cons rt rs fun a ha hb => dg a ha (List.mem_append_right _ hb), fun a ha => (List.mem_append.mp ha).elim .inr fun z => .inl (List.mem_append_right _ z)⟩
  | _, _, _, j + 1, .cons r rs d, rt, dg => by
    obtain ⟨F', r', hF⟩ := RepTs.set j rs rt fun a ha hb => dg a ha (List.mem_append_right _ hb)
    refine ⟨_, .cons r r' fun a ha hb => ?_, fun a ha => ?_⟩
    · rcases hF a hb with z | z
      · exact d a ha z
      · exact dg a z (List.mem_append_left _ ha)
    · rcases List.mem_append.mp ha with z | z
      · exact .inl (List.mem_append_left _ z)
      · exact (hF a z).imp (List.mem_append_right _) id
/-- a list of one's own is written -/
theorem lst_upd {a : Addr} {vs' : List V} {ts ts' : List Tr} {F F' : List Addr} (h : RepT K Hi H (.ref a) (.lst ts) (a :: F)) (n : a ∉ F') (r : RepTs K Hi H vs' ts' F') (sub : Same Hi H) :
    RepT K Hi (upd H a (.lst vs')) (.ref a) (.lst ts') (a :: F') ∧ Same Hi (upd H a (.lst vs')) := by
  obtain ⟨n0, _⟩ := h.ownG a List.mem_cons_self
  have s : Same Hi (upd H a (.lst vs')) := fun b o e => by
    have : b ≠ a := fun z => by rw [z, n0] at e; cases e
    rw [upd_ne this]
    exact sub b o e
  refine ⟨.lst upd_same n0 (r.frame (Same.refl _) _ _ _ (fun b hb => upd_ne fun z => n (z ▸ hb)) fun b hb => (r.ownG b hb).1) n, s⟩

/-- o.m(..) of a place that changes its own tree alone: what it gives, the tree behind it -/
def MutT (K : PySem.W.Frag) (r : V → List V → Hp → VK → Prop) (f : Tr → List Tr → Option (Tr × Tr)) : Prop := ∀ t us w t', f t us = some (w, t') → ∀ Hi H x xs F G, Same Hi H → RepT K Hi H x t F → RepTs K Hi H xs us G → (∀ a ∈ F, a ∉ G) → ∀ Q : VK,
  (∀ v H' F' W, RepT K Hi H' x t' F' → RepT K Hi H' v w W → (∀ a ∈ F', a ∉ W) → (∀ a, a ∈ F' ∨ a ∈ W → a ∈ F ∨ a ∈ G) → (∀ a o, H a = some o → a ∉ F → a ∉ G → H' a = some o) → Same Hi H' → Q v H') → r x xs H Q
theorem mut_done {i : Nat} {s : SL} {t t' w : Tr} {x v : V} {F' W G : List Addr} (h : RepE K A Hi H σ E Fs) (he : E[i]? = some s) (ht : s.tree = some t) (hx : σ[i]? = some (some x)) (dG : ∀ a ∈ G, ¬ InE Fs a) (gG : ∀ a ∈ G, ∃ o, H a = some o)
    (r : RepT K Hi H' x t' F') (rw_ : RepT K Hi H' v w W) (d : ∀ a ∈ F', a ∉ W) (sb : ∀ a, a ∈ F' ∨ a ∈ W → a ∈ Fs i ∨ a ∈ G) (fr : ∀ a o, H a = some o → a ∉ Fs i → a ∉ G → H' a = some o) (sub : Same Hi H') :
    RepE K A Hi H' σ (E.set i (s.with t')) (fset Fs i F') ∧ (∀ a ∈ W, ¬ InE (fset Fs i F') a) ∧ Step Hi H (fun a => InE Fs a ∨ a ∈ G) Hi H' (fun a => InE (fset Fs i F') a ∨ a ∈ W) := by
  have st : Step Hi H (fun a => (a ∈ Fs i ∨ a ∈ F') ∨ a ∈ G) Hi H' (fun a => a ∈ F') :=
    ⟨Same.refl _, fun a o e z => fr a o e (fun y => z (.inl (.inl y))) (fun y => z (.inr y)), fun a z => .inl (.inl (.inr z)), fun a o e => .inl ⟨o, e⟩⟩
  have away : ∀ a, a ∈ Fs i ∨ a ∈ G → ∀ j, j ≠ i → a ∉ Fs j := fun a ha j hj z => ha.elim (fun y => hj (h.dis j i a z y)) fun y => dG a y ⟨j, z⟩
  refine ⟨?_, fun a ha hin => ?_, ?_⟩
  · -- all the other places
    have hlt := lt_of_at he
    have tw := tree_with (t' := t') ht
    refine ⟨sub, by rw [List.length_set]; exact h.len, fun j t2 z => ?_, fun j t2 z => ?_, fun j z => ?_, fun j k a hj hk => ?_⟩
    · rw [at_set] at z
      by_cases e : i = j
      · subst e
        rw [if_pos ⟨rfl, hlt⟩, tw] at z
        cases z
        exact ⟨x, hx, by rw [fset_same]; exact r⟩
      · rw [if_neg (fun y => e y.1)] at z
        obtain ⟨u, e1, r1⟩ := h.val j t2 z
        refine ⟨u, e1, ?_⟩
        rw [fset_ne (Ne.symm e)]
        refine st.keep r1 fun b hb y => ?_
        rcases y with (y | y) | y
        · exact e (h.dis i j b y hb)
        · exact away b (sb b (.inl y)) j (Ne.symm e) hb
        · exact dG b y ⟨j, hb⟩
    · rw [List.getElem?_set] at z
      by_cases e : i = j
      · subst e
        rw [if_pos rfl, if_pos hlt] at z
        cases s with
        | no => cases ht
        | val _ => cases z
        | par t1 => exact h.par i t1 he
      · rw [if_neg e] at z
        exact h.par j t2 z
    · rw [at_set] at z
      by_cases e : i = j
      · subst e
        rw [if_pos ⟨rfl, hlt⟩, tw] at z
        cases z
      · rw [if_neg (fun y => e y.1)] at z
        rw [fset_ne (Ne.symm e)]
        exact h.no j z
    · by_cases e1 : j = i
      · subst e1
        rw [fset_same] at hj
        by_cases e2 : k = j
        · exact e2.symm
        · rw [fset_ne e2] at hk
          exact absurd hk (away a (sb a (.inl hj)) k e2)
      · rw [fset_ne e1] at hj
        by_cases e2 : k = i
        · subst e2
          rw [fset_same] at hk
          exact absurd hj (away a (sb a (.inl hk)) j e1)
        · rw [fset_ne e2] at hk
          exact h.dis j k a hj hk
  · obtain ⟨j, hj⟩ := hin
    by_cases e : j = i
    · subst e
      rw [fset_same] at hj
      exact d a hj ha
    · rw [fset_ne e] at hj
      exact away a (sb a (.inr ha)) j e hj
  · refine ⟨Same.refl _, fun a o e z => fr a o e (fun y => z (.inl ⟨i, y⟩)) (fun y => z (.inr y)), fun a z => ?_, fun a o e => .inl ⟨o, e⟩⟩
    have : a ∈ F' ∨ a ∈ W → InE Fs a ∨ a ∈ G := fun y => (sb a y).imp (fun z => ⟨i, z⟩) id
    rcases z with z | z
    · rcases inE_fset z with y | y
      · exact .inl (.inl y)
      · exact .inl (this (.inl y))
    · exact .inl (this (.inr z))
def mMut (i : Nat) (T : String) (f : Tr → List Tr → Option (Tr × Tr)) (ms : MFs) : MF := fun E => (at? E i).bind fun t0 => if tyB T t0 = true then (ms E).bind fun p => (p.2[i]?).bind fun s => s.tree.bind fun t => (f t p.1).bind fun r => some (r.1, p.2.set i (s.with r.2)) else none
theorem fr_mut {i : Nat} {T : String} {r : V → List V → Hp → VK → Prop} {f : Tr → List Tr → Option (Tr × Tr)} {tr : TA} {ms : MFs} (hs : FA K tr ms) (hr : MutT K r f) : FR K (tBM K T r (tVar i) tr) (mMut i T f ms) := fun E w E' q A σ Hi H Fs h Q k => by
  unfold mMut at q
  obtain ⟨t0, q1, q⟩ := Option.bind_eq_some_iff.mp q
  split at q
  · rename_i hT
    obtain ⟨⟨us, E1⟩, q2, q⟩ := Option.bind_eq_some_iff.mp q
    obtain ⟨s, q3, q⟩ := Option.bind_eq_some_iff.mp q
    obtain ⟨t, q4, q⟩ := Option.bind_eq_some_iff.mp q
    obtain ⟨⟨w', t'⟩, q5, q⟩ := Option.bind_eq_some_iff.mp q
    cases q
    obtain ⟨x, ex, rt0⟩ := h.val i t0 q1
    refine ⟨x, ex, tyV_of h.sub rt0 hT, ?_⟩
    refine hs E us E1 q2 A σ Hi H Fs h _ fun xs Hi1 H1 Fs1 G rs h1 d1 s1 => ?_
    dsimp only at q3
    have qa : at? E1 i = some t := by
      unfold at?
      rw [q3]
      exact q4
    obtain ⟨x', ex', rt⟩ := h1.val i t qa
    rw [ex] at ex'
    cases ex'
    refine hr t us _ t' q5 Hi1 H1 x xs (Fs1 i) G h1.sub rt rs (fun a ha hb => d1 a hb ⟨i, ha⟩) Q fun v H2 F' W r1 r2 d sb fr sub => ?_
    obtain ⟨h2, dW, s2⟩ := mut_done (H' := H2) h1 q3 q4 ex d1 (fun a ha => (rs.ownG a ha).2) r1 r2 d sb fr sub
    exact k v Hi1 H2 _ W r2 h2 dW (s1.trans s2)
  · cases q
def mMut0 (i : Nat) (T : String) (f : Tr → List Tr → Option (Tr × Tr)) : MF := fun E => (E[i]?).bind fun s => s.tree.bind fun t => if tyB T t = true then (f t []).bind fun r => some (r.1, E.set i (s.with r.2)) else none
theorem fr_mut0 {i : Nat} {T : String} {r : V → List V → Hp → VK → Prop} {f : Tr → List Tr → Option (Tr × Tr)} (hr : MutT K r f) : FR K (tBM0 K T r (tVar i)) (mMut0 i T f) := fun E w E' q A σ Hi H Fs h Q k => by
  unfold mMut0 at q
  obtain ⟨s, q3, q⟩ := Option.bind_eq_some_iff.mp q
  obtain ⟨t, q4, q⟩ := Option.bind_eq_some_iff.mp q
  split at q
  · rename_i hT
    obtain ⟨⟨w', t'⟩, q5, q⟩ := Option.bind_eq_some_iff.mp q
    cases q
    have qa : at? E i = some t := by
      unfold at?
      rw [q3]
      exact q4
    obtain ⟨x, ex, rt⟩ := h.val i t qa
    refine ⟨x, ex, tyV_of h.sub rt hT, ?_⟩
    refine hr t [] _ t' q5 Hi H x [] (Fs i) [] h.sub rt .nil (fun a _ z => nomatch z) Q fun v H2 F' W r1 r2 d sb fr sub => ?_
    obtain ⟨h2, dW, s2⟩ := mut_done (H' := H2) (G := []) h q3 q4 ex (fun a z => nomatch z) (fun a z => nomatch z) r1 r2 d sb fr sub
    exact k v Hi H2 _ W r2 h2 dW (s2.more fun x z => z.elim id fun y => nomatch y)
  · cases q

/-! #### the methods of a list -/
def fAppend : Tr → List Tr → Option (Tr × Tr)
  | .lst ts, [u] => if ts.length < 16777216 then some (.imm .none, .lst (ts ++ [u])) else none
  | _, _ => none
theorem mu_append : MutT K rAppend fAppend := fun t us w t' q Hi H x xs F G sub rt rs d Q k => by
  unfold fAppend at q
  split at q
  · rename_i ts u
    split at q
    · rename_i hl
      cases q
      cases rs with
      | cons ru rn dn =>
        cases rn
        cases rt with
        | @lst a vs _ F1 h1 h2 h3 h4 =>
          obtain ⟨F2, r2, hF⟩ := h3.snoc ru fun b hb hc => d b (List.mem_cons_of_mem _ hb) (List.mem_append_left _ hc)
          have n2 : a ∉ F2 := fun z => ((hF a).mp z).elim h4 fun y => d a List.mem_cons_self (List.mem_append_left _ y)
          obtain ⟨r3, s3⟩ := lst_upd (RepT.lst h1 h2 h3 h4) n2 r2 sub
          refine ⟨a, vs, _, rfl, rfl, h1, by rw [sizeLine_eq, h3.length]; exact hl, ?_⟩
          refine k .non _ _ [] r3 (.imm .non) (fun b _ z => nomatch z) (fun b hb => ?_) (fun b o e nb _ => ?_) s3
          · rcases hb with hb | hb
            · rcases List.mem_cons.mp hb with rfl | hb
              · exact .inl List.mem_cons_self
              · rcases (hF b).mp hb with z | z
                · exact .inl (List.mem_cons_of_mem _ z)
                · exact .inr (List.mem_append_left _ z)
            · cases hb
          · rw [upd_ne fun z => nb (by rw [z]; exact List.mem_cons_self)]
            exact e
    · cases q
  · cases q
theorem RepTs.app : ∀ {vs ws : List V} {ts us : List Tr} {F G : List Addr}, RepTs K Hi H vs ts F → RepTs K Hi H ws us G → (∀ a ∈ F, a ∉ G) → RepTs K Hi H (vs ++ ws) (ts ++ us) (F ++ G)
  | _, _, _, _, _, _, .nil, r, _ => r
  | _, _, _, _, _, G, .cons (F := F1) (G := G1) r1 rs d1, r, d => by
    rw [List.append_assoc]
    refine .cons r1 (RepTs.app rs r fun a ha => d a (List.mem_append_right _ ha)) fun a ha hb => ?_
    rcases List.mem_append.mp hb with z | z
    · exact d1 a ha z
    · exact d a (List.mem_append_left _ ha) z
def fExtend : Tr → List Tr → Option (Tr × Tr)
  | .lst ts, [.lst us] => if ts.length + us.length ≤ 16777216 then some (.imm .none, .lst (ts ++ us)) else none
  | _, _ => none
theorem mu_extend : MutT K rExtend fExtend := fun t us w t' q Hi H x xs F G sub rt rs d Q k => by
  unfold fExtend at q
  split at q
  · rename_i ts us
    split at q
    · rename_i hl
      cases q
      cases rs with
      | cons ru rn dn =>
        cases rn
        cases rt with
        | @lst a vs _ F1 h1 h2 h3 h4 =>
          cases ru with
          | @lst b ws _ G1 g1 g2 g3 g4 =>
            have dd : ∀ c ∈ F1, c ∉ G1 := fun c hc hz => d c (List.mem_cons_of_mem _ hc) (List.mem_append_left _ (List.mem_cons_of_mem _ hz))
            have r2 := h3.app g3 dd
            have n2 : a ∉ F1 ++ G1 := fun z => (List.mem_append.mp z).elim h4 fun y => d a List.mem_cons_self (List.mem_append_left _ (List.mem_cons_of_mem _ y))
            obtain ⟨r3, s3⟩ := lst_upd (RepT.lst h1 h2 h3 h4) n2 r2 sub
            refine ⟨a, b, vs, ws, rfl, rfl, h1, g1, by rw [sizeLine_eq, h3.length, g3.length]; exact hl, ?_⟩
            refine k .non _ _ [] r3 (.imm .non) (fun c _ z => nomatch z) (fun c hc => ?_) (fun c o e nc _ => ?_) s3
            · rcases hc with hc | hc
              · rcases List.mem_cons.mp hc with rfl | hc
                · exact .inl List.mem_cons_self
                · rcases List.mem_append.mp hc with z | z
                  · exact .inl (List.mem_cons_of_mem _ z)
                  · exact .inr (List.mem_append_left _ (List.mem_cons_of_mem _ z))
              · cases hc
            · rw [upd_ne fun z => nc (by rw [z]; exact List.mem_cons_self)]
              exact e
    · cases q
  · cases q
/-- an item goes out -/
theorem RepTs.out : ∀ {vs : List V} {ts : List Tr} {F : List Addr} {j : Nat} {t : Tr}, RepTs K Hi H vs ts F → ts[j]? = some t → ∃ v G F', vs[j]? = some v ∧ RepT K Hi H v t G ∧ RepTs K Hi H (vs.eraseIdx j) (ts.eraseIdx j) F' ∧ (∀ a ∈ F', a ∉ G) ∧ ∀ a, a ∈ F' ∨ a ∈ G → a ∈ F
  | _, _, _, j, _, .nil, e => by simp at e
  | _, _, _, 0, _, .cons r rs d, e => by
    simp at e
    subst e
    exact ⟨_, _, _, rfl, r, rs, fun a ha hb => d a hb ha, fun a ha => ha.elim (List.mem_append_right _) (List.mem_append_left _)⟩
  | _, _, _, j + 1, _, .cons (F := F1) r rs d, e => by
    obtain ⟨v, G, F', e1, r1, rs1, d1, s1⟩ := RepTs.out (j := j) rs (by simpa using e)
    refine ⟨v, G, F1 ++ F', by simpa using e1, r1, .cons r rs1 fun a ha hb => d a ha (s1 a (.inl hb)), fun a ha hb => ?_, fun a ha => ?_⟩
    · rcases List.mem_append.mp ha with z | z
      · exact d a z (s1 a (.inr hb))
      · exact d1 a z hb
    · rcases ha with ha | ha
      · rcases List.mem_append.mp ha with z | z
        · exact List.mem_append_left _ z
        · exact List.mem_append_right _ (s1 a (.inl z))
      · exact List.mem_append_right _ (s1 a (.inr ha))
theorem pop_mut {j : Nat} {ts : List Tr} {t : Tr} {a : Addr} {vs : List V} {F1 G : List Addr} (sub : Same Hi H) (h1 : H a = some (.lst vs)) (h2 : Hi a = none) (h3 : RepTs K Hi H vs ts F1) (h4 : a ∉ F1) (e : ts[j]? = some t) :
    ∃ v, vs[j]? = some v ∧ ∀ Q : VK, (∀ v H' F' W, RepT K Hi H' (.ref a) (.lst (ts.eraseIdx j)) F' → RepT K Hi H' v t W → (∀ b ∈ F', b ∉ W) → (∀ b, b ∈ F' ∨ b ∈ W → b ∈ a :: F1 ∨ b ∈ G) → (∀ b o, H b = some o → b ∉ a :: F1 → b ∉ G → H' b = some o) → Same Hi H' → Q v H') →
      Q v (upd H a (.lst (vs.eraseIdx j))) := by
  obtain ⟨v, W, F', e1, r1, rs1, d1, s1⟩ := h3.out e
  refine ⟨v, e1, fun Q k => ?_⟩
  have n2 : a ∉ F' := fun z => h4 (s1 a (.inl z))
  have nW : a ∉ W := fun z => h4 (s1 a (.inr z))
  obtain ⟨r3, s3⟩ := lst_upd (RepT.lst h1 h2 h3 h4) n2 rs1 sub
  refine k v _ (a :: F') W r3 (r1.frame (Same.refl _) _ _ _ (fun b hb => upd_ne fun z => nW (z ▸ hb)) fun b hb => (r1.ownG b hb).1) (fun b hb hw => ?_) (fun b hb => ?_) (fun b o eb nb _ => ?_) s3
  · rcases List.mem_cons.mp hb with rfl | hb
    · exact nW hw
    · exact d1 b hb hw
  · rcases hb with hb | hb
    · rcases List.mem_cons.mp hb with rfl | hb
      · exact .inl List.mem_cons_self
      · exact .inl (List.mem_cons_of_mem _ (s1 b (.inl hb)))
    · exact .inl (List.mem_cons_of_mem _ (s1 b (.inr hb)))
  · rw [upd_ne fun z => nb (by rw [z]; exact List.mem_cons_self)]
    exact eb
def fPop : Tr → List Tr → Option (Tr × Tr)
  | .lst ts, [] => (ts[ts.length - 1]?).map fun t => (t, .lst (ts.eraseIdx (ts.length - 1)))
  | _, _ => none
theorem dropLast_erase {α : Type} : ∀ (xs : List α), xs.dropLast = xs.eraseIdx (xs.length - 1)
  | [] => rfl
  | [_] => rfl
  | x :: y :: r => by
    show x :: (y :: r).dropLast = (x :: y :: r).eraseIdx (r.length + 1)
    rw [dropLast_erase (y :: r)]
    rfl
theorem mu_pop : MutT K rPop fPop := fun t us w t' q Hi H x xs F G sub rt rs d Q k => by
  unfold fPop at q
  split at q
  · rename_i ts
    obtain ⟨t0, e, q⟩ := Option.map_eq_some_iff.mp q
    cases q
    cases rs
    cases rt with
    | @lst a vs _ F1 h1 h2 h3 h4 =>
      obtain ⟨v, ev, kk⟩ := pop_mut (G := []) sub h1 h2 h3 h4 e
      rw [← h3.length] at ev
      refine ⟨a, vs, v, rfl, rfl, h1, ev, ?_⟩
      rw [dropLast_erase, h3.length]
      exact kk Q k
  · cases q
def fPopAt : Tr → List Tr → Option (Tr × Tr)
  | .lst ts, [.imm (.int i)] => if ts.length ≤ 16777216 then (ixN ts.length i).bind fun j => (ts[j]?).map fun t => (t, .lst (ts.eraseIdx j)) else none
  | _, _ => none
theorem ixN_seq {n : Nat} {i : Int} {j : Nat} (h : ixN n i = some j) (hn : n < 2 ^ 62) : seqIndex? i n = some j ∧ -(2 ^ 63) ≤ i ∧ i < 2 ^ 63 ∧ j < n := by
  unfold ixN at h
  split at h
  · rename_i h0
    split at h
    · rename_i h1
      cases h
      exact ⟨PySem.StrLaws.seqIndex_nonneg h0 h1, by omega, by omega, by omega⟩
    · cases h
  · rename_i h0
    split at h
    · rename_i h1
      cases h
      refine ⟨?_, by omega, by omega, by omega⟩
      unfold seqIndex?
      have e1 : i < 0 := by omega
      simp only [e1, if_true]
      have e2 : (decide (0 ≤ i + (n : Int)) && decide (i + (n : Int) < (n : Int))) = true := by
        rw [Bool.and_eq_true, decide_eq_true_eq, decide_eq_true_eq]
        omega
      rw [if_pos e2]
    · cases h
theorem mu_popAt : MutT K rPopAt fPopAt := fun t us w t' q Hi H x xs F G sub rt rs d Q k => by
  unfold fPopAt at q
  split at q
  · rename_i ts i
    split at q
    · rename_i hz
      obtain ⟨j, ej, q⟩ := Option.bind_eq_some_iff.mp q
      obtain ⟨t0, e, q⟩ := Option.map_eq_some_iff.mp q
      cases q
      cases rs with
      | @cons vi _ _ _ F2 _ ri rn dn =>
        cases rn
        obtain ⟨e1, _⟩ := ri.int_inv
        subst e1
        cases rt with
        | @lst a vs _ F1 h1 h2 h3 h4 =>
          obtain ⟨v, ev, kk⟩ := pop_mut (G := F2 ++ []) sub h1 h2 h3 h4 e
          obtain ⟨a1, a2, a3, a4⟩ := ixN_seq ej (by omega)
          rw [← h3.length] at a1
          exact ⟨a, vs, i, j, v, rfl, rfl, h1, a2, a3, a1, ev, kk Q k⟩
    · cases q
  · cases q
end
end FL

/-! FL, part G: o[i] = v; x op= e; a, b = x, y. -/
namespace FL
open PySem L2
section
variable {K : PySem.W.Frag} {A : List V} {Hi H Hi1 H1 Hi' H' : Hp} {σ : L2.St} {E : En} {Fs : Nat → List Addr} {te ti tj : TE} {m : MF} {ma : MR}
def rSetA : TSet := fun o i v H Q => rSetL o i v H Q ∨ rSetD o i v H Q
theorem set_any {X : Cx} (hu : X.A.units + 1 < cLine) : PSet X rSetA := by
  intro pins s σ H o i v ov iv u Q I ro ri rv h
  rcases h with h | h
  · exact set_list pins s σ H o i v ov iv u Q I ro ri rv h
  · exact set_dict hu pins s σ H o i v ov iv u Q I ro ri rv h
def SetT (K : PySem.W.Frag) (r : TSet) (f : Tr → Tr → Tr → Option Tr) : Prop := ∀ t ix u t', f t ix u = some t' → ∀ Hi H x xi xv F Fi G, Same Hi H → RepT K Hi H x t F → RepT K Hi H xi ix Fi → RepT K Hi H xv u G → (∀ a ∈ F, a ∉ G) → ∀ Q : Hp → Prop,
  (∀ H' F', RepT K Hi H' x t' F' → (∀ a, a ∈ F' → a ∈ F ∨ a ∈ G) → (∀ a o, H a = some o → a ∉ F → a ∉ G → H' a = some o) → Same Hi H' → Q H') → r x xi xv H Q
def keyD : PyData → Option Key
  | .int i => some (.inl i)
  | .str s => some (.inr s)
  | _ => none
def putD (kvs : List (Key × PyData)) (k : Key) (v : PyData) : List (Key × PyData) :=
  if (kvs.any fun kv => decide (kv.1 = k)) = true then kvs.map (fun kv => if kv.1 = k then (kv.1, v) else kv) else kvs ++ [(k, v)]
def getD (kvs : List (Key × PyData)) (k : Key) : Option PyData := (kvs.find? fun kv => decide (kv.1 = k)).map (·.2)
theorem keyD_kV {d : PyData} {k : Key} {v : V} (q : keyD d = some k) (h : Dp K H v d) : v = kV k := by
  cases h with
  | int i => cases q; rfl
  | str x => cases q; rfl
  | non => cases q
  | bl b => cases q
  | lst _ _ => cases q
  | tup _ _ => cases q
abbrev KvR (K : PySem.W.Frag) (Hi : Hp) : List (Key × V) → List (Key × PyData) → Prop := Paired (fun (p : Key × V) (q : Key × PyData) => p.1 = q.1 ∧ Dp K Hi p.2 q.2)
theorem kv_any {k : Key} : ∀ {xs : List (Key × V)} {ds : List (Key × PyData)}, KvR K Hi xs ds → (xs.any fun kv => decide (kv.1 = k)) = ds.any fun kv => decide (kv.1 = k)
  | _, _, .nil => rfl
  | _, _, .cons r t => by rw [List.any_cons, List.any_cons, kv_any t, r.1]
theorem kv_map {k : Key} {v : V} {d : PyData} : ∀ {xs : List (Key × V)} {ds : List (Key × PyData)}, KvR K Hi xs ds → Dp K Hi v d → KvR K Hi (xs.map fun kv => if kv.1 = k then (kv.1, v) else kv) (ds.map fun kv => if kv.1 = k then (kv.1, d) else kv)
  | _, _, .nil, _ => .nil
  | _, _, .cons r1 t, r => by
    refine .cons ?_ (kv_map t r)
    dsimp only
    rw [r1.1]
    split
    · exact ⟨rfl, r⟩
    · exact ⟨r1.1, r1.2⟩
theorem kv_snoc {k : Key} {v : V} {d : PyData} : ∀ {xs : List (Key × V)} {ds : List (Key × PyData)}, KvR K Hi xs ds → Dp K Hi v d → KvR K Hi (xs ++ [(k, v)]) (ds ++ [(k, d)])
  | _, _, .nil, r => .cons ⟨rfl, r⟩ .nil
  | _, _, .cons r1 t, r => .cons r1 (kv_snoc t r)
theorem kv_put {k : Key} {v : V} {d : PyData} {xs : List (Key × V)} {ds : List (Key × PyData)} (h : KvR K Hi xs ds) (r : Dp K Hi v d) : KvR K Hi (putK xs k v) (putD ds k d) := by
  unfold putK putD
  rw [kv_any h]
  split
  · exact kv_map h r
  · exact kv_snoc h r
theorem kv_get {k : Key} : ∀ {xs : List (Key × V)} {ds : List (Key × PyData)}, KvR K Hi xs ds → match getD ds k with
    | some d => ∃ v, valV xs k = some v ∧ Dp K Hi v d
    | none => valV xs k = none
  | _, _, .nil => rfl
  | _, _, .cons (a := p) (b := q) r t => by
    have ih := kv_get (k := k) t
    unfold getD at ih ⊢
    rw [List.find?_cons]
    by_cases e : q.1 = k
    · rw [decide_eq_true e]
      exact ⟨p.2, valV_pos (r.1.trans e), r.2⟩
    · rw [decide_eq_false e]
      have e' : ¬ p.1 = k := fun z => e (r.1 ▸ z)
      rw [valV_neg e']
      exact ih
def fSetA : Tr → Tr → Tr → Option Tr
  | .lst ts, .imm (.int k), u => (ixN ts.length k).map fun j => .lst (ts.set j u)
  | .dic kvs, .imm kd, .imm d => (keyD kd).bind fun k => if kvs.length < 16777216 then some (.dic (putD kvs k d)) else none
  | _, _, _ => none
theorem set_tree : SetT K rSetA fSetA := fun t ix u t' q Hi H x xi xv F Fi G sub rt ri ru d Q k => by
  unfold fSetA at q
  split at q
  · rename_i ts kk
    obtain ⟨j, ej, q⟩ := Option.map_eq_some_iff.mp q
    cases q
    obtain ⟨e1, _⟩ := ri.int_inv
    subst e1
    cases rt with
    | @lst a vs _ F1 h1 h2 h3 h4 =>
      obtain ⟨F2, r2, hF⟩ := h3.set j ru fun b hb hc => d b (List.mem_cons_of_mem _ hc) hb
      have n2 : a ∉ F2 := fun z => (hF a z).elim h4 fun y => d a List.mem_cons_self y
      obtain ⟨r3, s3⟩ := lst_upd (RepT.lst h1 h2 h3 h4) n2 r2 sub
      refine .inl ⟨a, vs, kk, j, rfl, rfl, h1, by rw [h3.length]; exact ej, ?_⟩
      refine k _ _ r3 (fun b hb => ?_) (fun b o e nb _ => ?_) s3
      · rcases List.mem_cons.mp hb with rfl | hb
        · exact .inl List.mem_cons_self
        · exact (hF b hb).imp (List.mem_cons_of_mem _) id
      · rw [upd_ne fun z => nb (by rw [z]; exact List.mem_cons_self)]
        exact e
  · rename_i kvs kd dd
    obtain ⟨key, e1, q⟩ := Option.bind_eq_some_iff.mp q
    split at q
    · rename_i hl
      cases q
      have ek := keyD_kV e1 ri.imm_inv.1
      subst ek
      cases rt with
      | @dic a xs _ h1 h2 h3 =>
        have hs : Same Hi (upd H a (.dK (putK xs key xv))) := fun b o e => by
          have : b ≠ a := fun z => by rw [z, h2] at e; cases e
          rw [upd_ne this]
          exact sub b o e
        refine .inr ⟨a, _, rfl, DPut.k h1 (by rw [sizeLine_eq, Paired.length h3]; exact hl), ?_⟩
        refine k _ [a] (.dic upd_same h2 (kv_put h3 ru.imm_inv.1)) (fun b hb => .inl hb) (fun b o e nb _ => ?_) hs
        rw [upd_ne fun z => nb (by rw [z]; exact List.mem_cons_self)]
        exact e
    · cases q
  · cases q
def mSub (i : Nat) (f : Tr → Tr → Tr → Option Tr) (mi : MF) : Tr → En → Option En := fun u E => (at? E i).bind fun _ => (mi E).bind fun p => (p.2[i]?).bind fun s => s.tree.bind fun t => (f t p.1 u).bind fun t' => some (p.2.set i (s.with t'))
theorem gr_sub {i : Nat} {r : TSet} {f : Tr → Tr → Tr → Option Tr} {mi : MF} (hi : FR K ti mi) (hr : SetT K r f) : GR K (gSub (tVar i) ti r) (mSub i f mi) [] := fun u E E' q A σ Hi H Fs v G h ru dG Q k => by
  unfold mSub at q
  obtain ⟨t0, q0, q⟩ := Option.bind_eq_some_iff.mp q
  obtain ⟨⟨ix, E1⟩, q1, q⟩ := Option.bind_eq_some_iff.mp q
  obtain ⟨s, q2, q⟩ := Option.bind_eq_some_iff.mp q
  obtain ⟨t, q3, q⟩ := Option.bind_eq_some_iff.mp q
  obtain ⟨t', q4, q⟩ := Option.bind_eq_some_iff.mp q
  cases q
  dsimp only at q2
  -- the place, ahead of the index
  have key : ∀ Hi1 H1 Fs1 xi W, RepT K Hi1 H1 xi ix W → RepE K A Hi1 H1 σ E1 Fs1 → (∀ a ∈ W, ¬ InE Fs1 a) → Step Hi H (InE Fs) Hi1 H1 (fun a => InE Fs1 a ∨ a ∈ W) → ∀ x, σ[i]? = some (some x) → r x xi v H1 fun H3 => Q σ H3 := fun Hi1 H1 Fs1 xi W ri h1 dW s1 x ex => by
    have qa : at? E1 i = some t := by
      unfold at?
      rw [q2]
      exact q3
    obtain ⟨x', ex', rt⟩ := h1.val i t qa
    rw [ex] at ex'
    cases ex'
    have ru1 := s1.keep ru dG
    have out1 := s1.apart (fun a ha => (ru.ownG a ha).2) dG
    refine hr t ix u t' q4 Hi1 H1 x xi v (Fs1 i) W G h1.sub rt ri ru1 (fun a ha hb => out1 a hb (.inl ⟨i, ha⟩)) _ fun H2 F' r1 sb fr sub => ?_
    obtain ⟨h2, _, s2⟩ := mut_done (H' := H2) (w := .imm .none) (v := .non) (W := []) h1 q2 q3 ex (fun a ha z => out1 a ha (.inl z)) (fun a ha => (ru1.ownG a ha).2) r1 (.imm .non) (fun a _ z => nomatch z) (fun a ha => ha.elim (sb a) fun z => nomatch z) fr sub
    refine k σ Hi1 H2 _ Chg.refl h2 ?_
    have s1' : Step Hi H (fun a => InE Fs a ∨ a ∈ G) Hi1 H1 (fun a => InE Fs1 a ∨ a ∈ G) := by
      refine ⟨s1.ex, fun a o e f => s1.fr a o e fun z => f (.inl z), fun a z => ?_, fun a o e => (s1.nh a o e).imp id (Or.imp .inl id)⟩
      rcases z with z | z
      · exact (s1.nw a (.inl z)).imp .inl id
      · exact .inl (.inr z)
    exact s1'.trans (s2.weak fun a z => .inl z)
  obtain ⟨x, ex, _⟩ := h.val i t0 q0
  refine ⟨x, ex, ?_⟩
  exact hi E ix E1 q1 A σ Hi H Fs h _ fun xi Hi1 H1 Fs1 W ri h1 dW s1 => key Hi1 H1 Fs1 xi W ri h1 dW s1 x ex

/-! ### readings that leave all places as they are -/
/-- an int, by the places as they stand -/
def PR (K : PySem.W.Frag) (te : TE) (f : En → Option Int) : Prop := ∀ E k, f E = some k → ∀ A σ Hi H Fs, RepE K A Hi H σ E Fs → ∀ Q : VK, (∀ Hi' H', Grow Hi H Hi' H' [] → Q (.int k) H') → te σ H Q
def iAt (i : Nat) : En → Option Int := fun E => (at? E i).bind iOf
theorem pr_var {i : Nat} : PR K (tVar i) (iAt i) := fun E k q A σ Hi H Fs h Q kk => by
  obtain ⟨t, q1, q2⟩ := Option.bind_eq_some_iff.mp q
  have e := iOf_inv q2
  subst e
  obtain ⟨v, ev, r⟩ := h.val i _ q1
  obtain ⟨e1, _⟩ := r.int_inv
  subst e1
  exact ⟨_, ev, kk Hi H (Grow.refl h.sub)⟩
def iC (c : Int) : En → Option Int := fun _ => some c
theorem pr_int {c : Int} : PR K (tC (.int c)) (iC c) := fun E k q A σ Hi H Fs h Q kk => by
  cases q
  exact kk Hi H (Grow.refl h.sub)
theorem Grow.trans {Hi2 H2 : Hp} (a : Grow Hi H Hi1 H1 []) (b : Grow Hi1 H1 Hi2 H2 []) : Grow Hi H Hi2 H2 [] :=
  ⟨a.ex.trans b.ex, a.all.trans b.all, b.sub, fun _ z => (nomatch z), fun x o e => by
    rcases b.nh x o e with ⟨o', z⟩ | z
    · exact a.nh x o' z
    · exact .inr (Same.free a.all z)⟩
def iOp (f : Int → Int → Int) (fa fb : En → Option Int) : En → Option Int := fun E => (fa E).bind fun a => (fb E).bind fun b => some (f a b)
theorem pr_op {f : Int → Int → Int} {ta tb : TE} {fa fb : En → Option Int} (ha : PR K ta fa) (hb : PR K tb fb) : PR K (tOp (rI0 fun i j => .int (f i j)) ta tb) (iOp f fa fb) := fun E k q A σ Hi H Fs h Q kk => by
  obtain ⟨a, q1, q⟩ := Option.bind_eq_some_iff.mp q
  obtain ⟨b, q2, q⟩ := Option.bind_eq_some_iff.mp q
  cases q
  refine ha E a q1 A σ Hi H Fs h _ fun Hi1 H1 g1 => ?_
  refine hb E b q2 A σ Hi1 H1 Fs (h.grow g1) _ fun Hi2 H2 g2 => ?_
  exact ⟨a, b, rfl, rfl, kk Hi2 H2 (g1.trans g2)⟩
/-- xs[i] of a list or a tuple of ints -/
def ixAt : Tr → Int → Option Int
  | .imm (.tuple ds), i => (atI ds i).bind fun d => iOf (.imm d)
  | .imm (.list ds), i => (atI ds i).bind fun d => iOf (.imm d)
  | .lst ts, i => (atI ts i).bind iOf
  | _, _ => none
theorem dpAll_at {ds : List PyData} {vs : List V} {d : PyData} : ∀ {j : Nat}, DpAll K Hi vs ds → ds[j]? = some d → ∃ v, vs[j]? = some v ∧ Dp K Hi v d := by
  intro j h e
  induction h using DpAll.rec (motive_1 := fun _ _ _ => True) generalizing j with
  | nil => simp at e
  | cons h1 h2 _ ih =>
    cases j with
    | zero => simp at e; subst e; exact ⟨_, rfl, h1⟩
    | succ j => simpa using ih (by simpa using e)
  | _ => trivial
theorem atI_len {α β : Type} {xs : List α} {ys : List β} (e : xs.length = ys.length) {i : Int} {y : β} (h : atI ys i = some y) : ∃ j x, ixN ys.length i = some j ∧ ys[j]? = some y ∧ xs[j]? = some x ∧ atI xs i = some x := by
  unfold atI at h
  obtain ⟨j, e1, e2⟩ := Option.bind_eq_some_iff.mp h
  have hj : j < xs.length := by rw [e]; exact (List.getElem?_eq_some_iff.mp e2).1
  refine ⟨j, xs[j], e1, e2, List.getElem?_eq_getElem hj, ?_⟩
  unfold atI
  rw [e, e1]
  exact List.getElem?_eq_getElem hj
/-- the index rule: what stands there -/
theorem ix_imm {H : Hp} {x : V} {t : Tr} {F : List Addr} {i k : Int} (sub : Same Hi H) (r : RepT K Hi H x t F) (q : ixAt t i = some k) {Q : VK} (h : Q (.int k) H) : rIx K x (.int i) H Q := by
  unfold ixAt at q
  split at q
  · rename_i ds i
    obtain ⟨d, e1, e2⟩ := Option.bind_eq_some_iff.mp q
    have e3 := iOf_inv e2
    cases e3
    obtain ⟨hd, _⟩ := r.imm_inv
    cases hd with
    | @tup a vs _ hs ha =>
      obtain ⟨j, v, j1, j2, j3, j4⟩ := atI_len (xs := vs) (dpAll_len ha) e1
      obtain ⟨v', e4, hv⟩ := dpAll_at ha j2
      rw [j3] at e4
      cases e4
      cases hv
      exact .inr (.inl ⟨a, vs, _, _, rfl, rfl, seqT sub hs, j4, h⟩)
  · rename_i ds i
    obtain ⟨d, e1, e2⟩ := Option.bind_eq_some_iff.mp q
    have e3 := iOf_inv e2
    cases e3
    obtain ⟨hd, _⟩ := r.imm_inv
    cases hd with
    | @lst a vs _ hs ha =>
      obtain ⟨j, v, j1, j2, j3, j4⟩ := atI_len (xs := vs) (dpAll_len ha) e1
      obtain ⟨v', e4, hv⟩ := dpAll_at ha j2
      rw [j3] at e4
      cases e4
      cases hv
      exact .inl ⟨a, vs, _, _, rfl, rfl, sub.seq hs, j4, h⟩
  · rename_i ts i
    obtain ⟨d, e1, e2⟩ := Option.bind_eq_some_iff.mp q
    have e3 := iOf_inv e2
    cases e3
    cases r with
    | @lst a vs _ F1 h1 h2 h3 h4 =>
      obtain ⟨j, v, j1, j2, j3, j4⟩ := atI_len (xs := vs) h3.length e1
      obtain ⟨v', G, e4, hv, _⟩ := h3.get j2
      rw [j3] at e4
      cases e4
      obtain ⟨e5, _⟩ := hv.int_inv
      cases e5
      exact .inl ⟨a, vs, _, _, rfl, rfl, SqL.of h1, j4, h⟩
  · cases q
def iIx (i : Nat) (fj : En → Option Int) : En → Option Int := fun E => (fj E).bind fun j => (at? E i).bind fun t => ixAt t.plain j
theorem pr_ix {i : Nat} {fj : En → Option Int} (hj : PR K tj fj) : PR K (tOp (rIx K) (tVar i) tj) (iIx i fj) := fun E k q A σ Hi H Fs h Q kk => by
  obtain ⟨j, q1, q⟩ := Option.bind_eq_some_iff.mp q
  obtain ⟨t, q2, q3⟩ := Option.bind_eq_some_iff.mp q
  obtain ⟨v, ev, r⟩ := h.val i t q2
  refine ⟨v, ev, hj E j q1 A σ Hi H Fs h _ fun Hi1 H1 g1 => ?_⟩
  obtain ⟨v', ev', r'⟩ := (h.grow g1).val i t q2
  rw [ev] at ev'
  cases ev'
  exact ix_imm g1.sub r'.plain q3 (kk Hi1 H1 g1)
/-- an item is another tree now -/
theorem RepTs.redo : ∀ {vs : List V} {ts : List Tr} {F : List Addr} {j : Nat} {t : Tr}, RepTs K Hi H vs ts F → ts[j]? = some t → ∃ v G, vs[j]? = some v ∧ RepT K Hi H v t G ∧ (∀ a ∈ G, a ∈ F) ∧
    ∀ (H2 : Hp) (t' : Tr) (F2 : List Addr), (∀ a ∈ F, a ∉ G → H2 a = H a) → RepT K Hi H2 v t' F2 → (∀ a ∈ F2, a ∈ G ∨ a ∉ F) → ∃ F3, RepTs K Hi H2 vs (ts.set j t') F3 ∧ ∀ a ∈ F3, a ∈ F ∨ a ∈ F2
  | _, _, _, j, _, .nil, e => by simp at e
  | _, _, _, 0, _, .cons (F := F) (G := G) r rs d, e => by
    simp at e
    subst e
    refine ⟨_, F, rfl, r, fun a ha => List.mem_append_left _ ha, fun H2 t' F2 fr r2 sb => ⟨F2 ++ G, .cons r2 (rs.frame (Same.refl _) _ _ _ (fun a ha => fr a (List.mem_append_right _ ha) fun z => d a z ha) fun a ha => (rs.ownG a ha).1) fun a ha hb => ?_, fun a ha => ?_⟩⟩
    · rcases sb a ha with z | z
      · exact d a z hb
      · exact z (List.mem_append_right _ hb)
    · exact (List.mem_append.mp ha).elim .inr fun z => .inl (List.mem_append_right _ z)
  | _, _, _, j + 1, _, .cons (F := F) (G := G) r rs d, e => by
    obtain ⟨v, G1, e1, r1, s1, k1⟩ := RepTs.redo (j := j) rs (by simpa using e)
    refine ⟨v, G1, by simpa using e1, r1, fun a ha => List.mem_append_right _ (s1 a ha), fun H2 t' F2 fr r2 sb => ?_⟩
    obtain ⟨F3, r3, s3⟩ := k1 H2 t' F2 (fun a ha hn => fr a (List.mem_append_right _ ha) hn) r2 fun a ha => (sb a ha).imp id fun z y => z (List.mem_append_right _ y)
    refine ⟨F ++ F3, .cons (r.frame (Same.refl _) _ _ _ (fun a ha => fr a (List.mem_append_left _ ha) fun z => d a ha (s1 a z)) fun a ha => (r.ownG a ha).1) r3 fun a ha hb => ?_, fun a ha => ?_⟩
    · rcases s3 a hb with z | z
      · exact d a ha z
      · rcases sb a z with y | y
        · exact d a ha (s1 a y)
        · exact y (List.mem_append_left _ ha)
    · rcases List.mem_append.mp ha with z | z
      · exact .inl (List.mem_append_left _ z)
      · exact (s3 a z).imp (List.mem_append_right _) id
def sub2 (t : Tr) (a b : Int) (u : Tr) : Option Tr := match t with
  | .lst ts => (ixN ts.length a).bind fun j => (ts[j]?).bind fun row => (fSetA row (.imm (.int b)) u).bind fun row' => some (.lst (ts.set j row'))
  | _ => none
def mSub2 (i : Nat) (fa fb : En → Option Int) : Tr → En → Option En := fun u E => (fa E).bind fun a => (fb E).bind fun b => (E[i]?).bind fun s => s.tree.bind fun t => (sub2 t a b u).bind fun t' => some (E.set i (s.with t'))
theorem gr_sub2 {i : Nat} {fa fb : En → Option Int} (ha : PR K tj fa) (hb : PR K ti fb) : GR K (gSub (tOp (rIx K) (tVar i) tj) ti rSetA) (mSub2 i fa fb) [] := fun u E E' q A σ Hi H Fs v G h ru dG Q k => by
  unfold mSub2 at q
  obtain ⟨a, q1, q⟩ := Option.bind_eq_some_iff.mp q
  obtain ⟨b, q2, q⟩ := Option.bind_eq_some_iff.mp q
  obtain ⟨s, q3, q⟩ := Option.bind_eq_some_iff.mp q
  obtain ⟨t, q4, q⟩ := Option.bind_eq_some_iff.mp q
  obtain ⟨t', q5, q⟩ := Option.bind_eq_some_iff.mp q
  cases q
  have qa : at? E i = some t := by
    unfold at?
    rw [q3]
    exact q4
  unfold sub2 at q5
  split at q5
  · rename_i ts
    obtain ⟨j, j1, q5⟩ := Option.bind_eq_some_iff.mp q5
    obtain ⟨row, j2, q5⟩ := Option.bind_eq_some_iff.mp q5
    obtain ⟨row', j3, q5⟩ := Option.bind_eq_some_iff.mp q5
    cases q5
    obtain ⟨x, ex, rt⟩ := h.val i _ qa
    refine ⟨x, ex, ha E a q1 A σ Hi H Fs h _ fun Hi1 H1 g1 => ?_⟩
    have h1 := h.grow g1
    have sg1 : Step Hi H (fun _ => False) Hi1 H1 (fun a => False ∨ a ∈ ([] : List Addr)) := g1.step _
    have ru1 := sg1.keep ru fun _ _ z => z
    have rt1 := sg1.keep rt fun _ _ z => z
    generalize hFi : Fs i = Fi at rt1
    cases rt1 with
    | @lst p vs _ F1 e1 e2 e3 e4 =>
      obtain ⟨v0, G0, x1, x2, x3, x4⟩ := e3.redo j2
      have hat : atI vs a = some v0 := by
        unfold atI
        rw [e3.length, j1]
        exact x1
      refine .inl ⟨p, vs, a, v0, rfl, rfl, SqL.of e1, hat, ?_⟩
      refine hb E b q2 A σ Hi1 H1 Fs h1 _ fun Hi2 H2 g2 => ?_
      have h2 := h1.grow g2
      have sg2 : Step Hi1 H1 (fun _ => False) Hi2 H2 (fun a => False ∨ a ∈ ([] : List Addr)) := g2.step _
      have ru2 := sg2.keep ru1 fun _ _ z => z
      have e3' := sg2.keeps e3 fun _ _ z => z
      obtain ⟨v0', G0', x1', x2', x3', x4'⟩ := e3'.redo j2
      rw [x1] at x1'
      cases x1'
      have rp2 := sg2.keep (RepT.lst e1 e2 e3 e4) fun _ _ z => z
      obtain ⟨n0, _⟩ := rp2.ownG p List.mem_cons_self
      have hp2 : H2 p = some (.lst vs) := g2.all _ _ e1
      have dG1 : ∀ c ∈ G, c ∉ p :: F1 := fun c hc z => dG c hc ⟨i, by rw [hFi]; exact z⟩
      refine set_tree row (.imm (.int b)) u row' j3 Hi2 H2 v0 (.int b) v G0' [] G h2.sub x2' (.imm (.int b)) ru2 (fun c hc hg => dG1 c hg (List.mem_cons_of_mem _ (x3' c hc))) _ fun H3 F3 r3 s3 fr3 sub3 => ?_
      have np : ∀ c, c ∈ G0' ∨ c ∈ G → c ≠ p := fun c hc z => by
        subst z
        rcases hc with hc | hc
        · exact e4 (x3' c hc)
        · exact dG1 c hc List.mem_cons_self
      obtain ⟨F4, r4, s4⟩ := x4' H3 row' F3 (fun c hc hn => by
          obtain ⟨_, o, eo⟩ := e3'.ownG c hc
          rw [eo]
          exact fr3 c o eo hn fun z => dG1 c z (List.mem_cons_of_mem _ hc)) r3 fun c hc => by
        rcases s3 c hc with z | z
        · exact .inl z
        · exact .inr fun y => dG1 c z (List.mem_cons_of_mem _ y)
      have hp3 : H3 p = some (.lst vs) := fr3 p _ hp2 (fun z => np p (.inl z) rfl) fun z => np p (.inr z) rfl
      have n4 : p ∉ F4 := fun z => by
        rcases s4 p z with y | y
        · exact e4 y
        · exact np p (s3 p y) rfl
      have s4' : ∀ c ∈ F4, c ∈ F1 ∨ c ∈ G := fun c hc => by
        rcases s4 c hc with y | y
        · exact .inl y
        · exact (s3 c y).imp (x3' c) id
      obtain ⟨h3, _, st3⟩ := mut_done (H' := H3) (w := .imm .none) (v := .non) (W := []) h2 q3 q4 ex dG (fun c hc => (ru2.ownG c hc).2) (RepT.lst hp3 n0 r4 n4) (.imm .non) (fun c _ z => nomatch z) (fun c hc => by
          rcases hc with hc | hc
          · rcases List.mem_cons.mp hc with e | hc
            · subst e; exact .inl (by rw [hFi]; exact List.mem_cons_self)
            · exact (s4' c hc).imp (fun z => by rw [hFi]; exact List.mem_cons_of_mem _ z) id
          · cases hc) (fun c o eo n1 n2 => fr3 c o eo (fun z => n1 (by rw [hFi]; exact List.mem_cons_of_mem _ (x3' c z))) n2) sub3
      refine k σ Hi2 H3 _ Chg.refl h3 ?_
      have sgF : ∀ {Ha Hb Hc Hd : Hp}, Grow Ha Hb Hc Hd [] → Step Ha Hb (fun a => InE Fs a ∨ a ∈ G) Hc Hd (fun a => InE Fs a ∨ a ∈ G) := fun g => (g.step _).weak fun x z => .inl z
      exact (sgF g1).trans ((sgF g2).trans (st3.weak fun x z => .inl z))
  · cases q5
/-! ### x op= e; a, b = x, y -/
def IpT (K : PySem.W.Frag) (ti : TIp) (f : Tr → Tr → Option Tr) : Prop := ∀ t u w, f t u = some w → ∀ Hi H x y F G, Same Hi H → RepT K Hi H x t F → RepT K Hi H y u G → ∀ Q : VK,
  (∀ v Hi' H' W, RepT K Hi' H' v w W → Grow Hi H Hi' H' W → Q v H') → ti x y H Q
def mAug (i : Nat) (f : Tr → Tr → Option Tr) (mb : MR) : MS := fun E => (at? E i).bind fun _ => (mb E).bind fun q => (view q.2 (.slot i)).bind fun t => (view q.2 q.1).bind fun u => (f t u).bind fun w => (mName i w q.2).bind fun E' => some (.nx E')
theorem sr_aug {i : Nat} {tip : TIp} {f : Tr → Tr → Option Tr} {mb : MR} (hb : ER K te mb) (hr : IpT K tip f) : SR K (tAug i te tip) (mAug i f mb) := fun E out q A σ Hi H Fs D h go => by
  unfold mAug at q
  obtain ⟨t0, q0, q⟩ := Option.bind_eq_some_iff.mp q
  obtain ⟨⟨o, E1⟩, q1, q⟩ := Option.bind_eq_some_iff.mp q
  obtain ⟨t, q2, q⟩ := Option.bind_eq_some_iff.mp q
  obtain ⟨u, q3, q⟩ := Option.bind_eq_some_iff.mp q
  obtain ⟨w, q4, q⟩ := Option.bind_eq_some_iff.mp q
  obtain ⟨E2, q5, q⟩ := Option.bind_eq_some_iff.mp q
  cases q
  obtain ⟨x, ex, _⟩ := h.val i t0 q0
  refine ⟨x, ex, hb E o E1 q1 A σ Hi H Fs h _ fun y Hi1 H1 Fs1 G r h1 d s1 => ?_⟩
  obtain ⟨F1, rt⟩ := h1.view (RepR.slot (K := K) (Hi := Hi1) (H := H1) ex) q2
  obtain ⟨F2, ru⟩ := h1.view r q3
  refine hr t u w q4 Hi1 H1 x y F1 F2 h1.sub rt ru _ fun v Hi2 H2 W rw_ g => ?_
  exact gr_name (K := K) w E1 E2 q5 A σ Hi2 H2 Fs1 v W (h1.grow g) rw_ (h1.fresh g) _ fun σ' Hi3 H3 Fs3 _ h3 s3 => go σ' Hi3 H3 Fs3 h3 (s1.seq ((g.step _).trans s3))
def mPar (i j : Nat) (ms : MFs) : MS := fun E => (ms E).bind fun p => match p.1 with
  | [t, u] => (mName i t p.2).bind fun E1 => (mName j u E1).bind fun E2 => some (.nx E2)
  | _ => none
theorem sr_par {i j : Nat} {ta : TA} {ms : MFs} (hs : FA K ta ms) : SR K (tPar i j ta) (mPar i j ms) := fun E out q A σ Hi H Fs D h go => by
  unfold mPar at q
  obtain ⟨⟨ts, E1⟩, q1, q⟩ := Option.bind_eq_some_iff.mp q
  dsimp only at q
  split at q
  · rename_i t u
    obtain ⟨E2, q2, q⟩ := Option.bind_eq_some_iff.mp q
    obtain ⟨E3, q3, q⟩ := Option.bind_eq_some_iff.mp q
    cases q
    refine hs E _ E1 q1 A σ Hi H Fs h _ fun vs Hi1 H1 Fs1 G r h1 d s1 => ?_
    cases r with
    | @cons v _ _ _ F1 _ r1 rs dd =>
      cases rs with
      | @cons w _ _ _ F2 _ r2 rn d2 =>
        cases rn
        refine ⟨v, w, rfl, ?_⟩
        -- the first name: the second value is held besides
        have e1 : ∃ s, E1[i]? = some s ∧ E2 = E1.set i (.val t) := by
          unfold mName at q2
          split at q2
          · rename_i e; cases q2; exact ⟨_, e, rfl⟩
          · rename_i e; cases q2; exact ⟨_, e, rfl⟩
          · cases q2
        obtain ⟨s, e1, rfl⟩ := e1
        obtain ⟨h2, s2⟩ := h1.name e1 r1 fun a ha => d a (List.mem_append_left _ ha)
        have e2 : ∃ s, (E1.set i (.val t))[j]? = some s ∧ E3 = (E1.set i (.val t)).set j (.val u) := by
          unfold mName at q3
          split at q3
          · rename_i e; cases q3; exact ⟨_, e, rfl⟩
          · rename_i e; cases q3; exact ⟨_, e, rfl⟩
          · cases q3
        obtain ⟨s', e2, rfl⟩ := e2
        have d2' : ∀ a ∈ F2, ¬ InE (fset Fs1 i F1) a := fun a ha z => by
          rcases inE_fset z with y | y
          · exact d a (List.mem_append_right _ (List.mem_append_left _ ha)) y
          · exact dd a y (List.mem_append_left _ ha)
        obtain ⟨h3, s3⟩ := h2.name e2 r2 d2'
        refine go _ Hi1 H1 _ h3 ⟨s1.ex, s1.fr, fun a z => ?_, s1.nh⟩
        rcases inE_fset z with y | y
        · rcases inE_fset y with y | y
          · exact s1.nw a (.inl y)
          · exact s1.nw a (.inr (List.mem_append_left _ y))
        · exact s1.nw a (.inr (List.mem_append_right _ (List.mem_append_left _ y)))
  · cases q
end
end FL

/-! FL, part H: defs that run where nothing is being shown (no guard is up): for repr. -/
namespace FL
open PySem L2

/-- a def's promise, kept wherever no guard is up -/
structure FnG (P : Program) (w : World) (K : PySem.W.Frag) (mg : Str → Option Value) (base : Heap) (CX : CXT) (k : Nat) (f : Addr) (fd : FuncData) (ps : List Str) (sp : Sp) : Prop where
  arity : ∀ vs H Q E, sp vs H Q E → vs.length = ps.length
  go : ∀ (A : Around) (outer : List PySem.Env) (s : Shared) (H : Hp) (args : Args) (us : List Value) (vs : List V) (Q : VK) (E : XK), A.guards = some [] → Room k A → Env0 P w K mg base A outer s H →
    BindsTo s fd args (ps.zip us) → Vals vs us → sp vs H Q E → codeAny (model P w) A (.call (.ref f) args) (CR CX outer P w H s Q E) s
section
variable {P : Program} {w : World} {K : PySem.W.Frag} {mg : Str → Option Value} {base : Heap} {CX : CXT} {k j : Nat} {f : Addr} {fd : FuncData} {ps : List Str} {sp : Sp}
theorem FnG.mono (G : FnG P w K mg base CX j f fd ps sp) (h : j ≤ k) : FnG P w K mg base CX k f fd ps sp :=
  ⟨G.arity, fun A outer s H args us vs Q E g r => G.go A outer s H args us vs Q E g (r.mono h)⟩
theorem FnG.of (F : FnOk P w K mg base CX k f fd ps sp) : FnG P w K mg base CX k f fd ps sp :=
  ⟨F.len, fun A outer s H args us vs Q E _ r => F.run A outer s H args us vs Q E r⟩
/-- another promise -/
theorem FnG.imp {sp' : Sp} (G : FnG P w K mg base CX k f fd ps sp) (h : ∀ vs H Q E, sp' vs H Q E → sp vs H Q E) : FnG P w K mg base CX k f fd ps sp' :=
  ⟨fun vs H Q E z => G.arity vs H Q E (h vs H Q E z), fun A outer s H args us vs Q E g r e b v z => G.go A outer s H args us vs Q E g r e b v (h vs H Q E z)⟩
end
/-- where one stands: room, and no guard -/
structure RoomG (k : Nat) (A : Around) : Prop where
  room : Room k A
  free : A.guards = some []
theorem RoomG.mono {j k : Nat} {A : Around} (r : RoomG k A) (h : j ≤ k) : RoomG j A := ⟨r.room.mono h, r.free⟩
section
variable {X : Cx} {CX : CXT} {k : Nat} {f : Addr} {fd : FuncData} {ps : List Str} {sp : Sp} {E : XK} {x : Str} {p pos : Pos} {e : Expr} {es : List Expr} {t : TA}
theorem call_G {pins : List (Addr × Obj)} {σ : L2.St} {H : Hp} {s : Shared} {Q : VK} {us : List Value} {vs : List V} (G : FnG X.prog X.w X.K X.mg X.base CX k f fd ps sp) (r : RoomG k X.A) (b : Binds X.K fd ps []) (hx : Passes CX X E)
    (I : Inv X pins σ H s) (v : Vals vs us) (h : sp vs H Q E) : wpAny (model X.prog X.w) X.A (call (.ref f) us) (EP X pins σ Q) X.xe s := by
  have len : (us ++ []).length = ps.length := by
    rw [List.append_nil, ← v.length]
    exact G.arity vs H Q E h
  have bb := b s us I.kIn len
  rw [List.append_nil] at bb
  refine wpAny_call (codeAny_mono (G.go X.A X.stack s H ⟨us, []⟩ us vs Q E r.free r.room I.env0 bb v h) fun res s' z => ?_)
  match res, z with
  | .error err, z => exact hx pins σ H s err s' I z
  | .ok (.ret u), z => exact I.after z
  | .ok .next, z => exact z.elim
  | .ok .brk, z => exact z.elim
  | .ok .cont, z => exact z.elim
theorem pe_callG (G : FnG X.prog X.w X.K X.mg X.base CX k f fd ps sp) (r : RoomG k X.A) (hg : Gl X x) (hm : X.mg x = some (.ref f)) (hk : PySem.W.keepIn X.K (.ref f) = true) (b : Binds X.K fd ps []) (hx : Passes CX X E)
    (ha : PA X (e :: es) t) (hdb : (x == ("__debug__" : Str)) = false := by decide) (he : starEach (e :: es) X.env = (false, eval e X.env) :: starEach es X.env := by rfl) (hpl : (backTo pos (starEach es X.env)).any (·.1) = false := by rfl) :
    PE X (.Call (.Name x p) (e :: es) [] pos) (tCall sp [] E t) := ⟨fun pins s σ H Q I h =>
  wpAny_Call_Name_kw (ld_glob I hg hm (PySem.W.callWith_K (h₀ := X.base) I.ok.mod.kin hk (thn (ha.run pos pins s σ H _ I h) fun us s1 ⟨vs, H1, I1, v, z⟩ => ⟨I1.kIn, call_G G r b hx I1 v (by
    have z' : sp (vs ++ []) H1 Q E := z
    rw [List.append_nil] at z'
    exact z')⟩) he hpl) hdb)⟩
theorem pe_callG0 (G : FnG X.prog X.w X.K X.mg X.base CX k f fd ps sp) (r : RoomG k X.A) (hg : Gl X x) (hm : X.mg x = some (.ref f)) (hk : PySem.W.keepIn X.K (.ref f) = true) (b : Binds X.K fd ps []) (hx : Passes CX X E)
    (hdb : (x == ("__debug__" : Str)) = false := by decide) : PE X (.Call (.Name x p) [] [] pos) (tCall sp [] E tNil) := ⟨fun pins s σ H Q I h =>
  wpAny_Call_Name_kw (ld_glob I hg hm (PySem.W.callWith_K0 I.kIn hk (call_G (us := []) G r b hx I .nil h)) hdb)⟩
end
section
variable {P : Program} {w : World} {K : PySem.W.Frag} {mg : Str → Option Value} {base : Heap} {CX : CXT}
theorem fn_G {x qual : Str} {st : Stmt} {f : Addr} {fd : FuncData} {N ps : List Str} {k : Nat} {sp : Sp} (F : Fun K x qual st f fd) (S : FnScope N ps (defScope st)) (len : ∀ vs H Q E, sp vs H Q E → vs.length = ps.length)
    (body : ∀ (cdv : Value) (A : Around) (outer : List PySem.Env) (s : Shared) (H : Hp) (vs : List V) (Q : VK) (E : XK), RoomG k (A.deeper (PyProof.Rows.envOfC qual (defScope st) s.heap.objs.size f cdv)) → sp vs H Q E →
      ∃ t, PSs (cxOf CX P w K mg base N qual (defScope st) f cdv A outer s H E) (defBody st) t ∧ t { nx := fun _ H' => Q .non H', rt := Q } (L2.start N vs) H) : FnG P w K mg base CX (k + 1) f fd ps sp := by
  obtain ⟨oc, od, kV, doc, pm, an, cdv, ct, osl, rfl, lk, hcd⟩ := F.ex
  refine ⟨len, fun A outer s H args us vs Q E gd room e0 bind v hsp => ?_⟩
  have keep : ∀ b o, base.get? b = some o → s.heap.get? b = some o := fun b o z => (e0.bs b o z).1
  have kin := e0.mod.kin.keeps keep
  have lim := e0.mod.nolimit.keeps keep
  have kinds : ∀ y ∈ ps.zip us, (defScope st).names.lookup y.1 = some .local ∨ ((defScope st).names.lookup y.1 = some .cell ∧ ((PySem.cellsFrom (s.heap.objs.size + 1) (defScope st).names []).lookup y.1).isSome = true) := fun y hy => by
    refine (S.par y.1 (List.of_mem_zip (a := y.1) (b := y.2) hy).1).imp id fun c => ⟨c, PySem.W.cellsFrom_some _ _ _ (.inl c)⟩
  refine codeAny_call_function room.depth (kin _ _ lk) rfl S.co S.gen rfl (PySem.W.codeRec_of kin hcd) (bind _ _ _ _ ?_)
  refine wpAny_newFunctionEnv_cells S.kind kinds fun env he s1 ic => ?_
  subst he
  refine ⟨lim.keeps ic.toInCall.keep, codeAny_func ?_⟩
  obtain ⟨t, ht, q⟩ := body cdv A outer s H vs Q E ⟨room.deeper _, gd⟩ hsp
  have I0 := inv_start (CX := CX) (cd := cdv) (f := f) (qual := qual) (E := E) S room.hd e0 (len _ _ _ _ hsp) v ic
  refine wpAny_mono (ht.run [] s1 (L2.start N vs) H _ I0 q) (fun fl s' z => ?_) fun _ _ z => z
  match fl, z with
  | .ret u, ⟨v', σ', H', J, rv, z⟩ => exact ⟨v', H', J.os, J.bare, J.base, J.hok, rv, z⟩
  | .next, ⟨σ', H', J, z⟩ => exact ⟨.non, H', J.os, J.bare, J.base, J.hok, rfl, z⟩
  | .brk, ⟨_, _, _, z⟩ => exact z.elim
  | .cont, ⟨_, _, _, z⟩ => exact z.elim
/-- THE RULE for a def: its body's reading gives what it promises -/
theorem fn_ok {x qual : Str} {st : Stmt} {f : Addr} {fd : FuncData} {N ps : List Str} {k : Nat} {m : MS} (F : Fun K x qual st f fd) (S : FnScope N ps (defScope st)) (hn : ps.length ≤ N.length)
    (hb : ∀ (cdv : Value) (A : Around) (outer : List PySem.Env) (s : Shared) (H : Hp) (E : XK), RoomG k (A.deeper (PyProof.Rows.envOfC qual (defScope st) s.heap.objs.size f cdv)) →
      ∃ t, PSs (cxOf CX0 P w K mg base N qual (defScope st) f cdv A outer s H E).nox (defBody st) t ∧ SR K t m) : FnG P w K mg base CX0 (k + 1) f fd ps (spM K ps.length (mFn N.length m)) :=
  fn_G F S (fun vs H Q E ⟨ts, r, ts', Hi, Fs, q, hl, sub, ra, _⟩ => by rw [ra.len, hl]) fun cdv A outer s H vs Q E hr h => by
    obtain ⟨t, h1, h2⟩ := hb cdv A outer s H E hr
    exact ⟨t, h1.nox, fn_run h2 hn h⟩
end
end FL

/-! FL, part I: the law's own end. -/
namespace FL
open PySem PySem.Spec PyProof.Rows L2

/-- the script alone is looked at: locked, or one of the module's own objects -/
def scriptH (K : PySem.W.Frag) (a : Addr) (o : Obj) (xs : List V) : Hp := fun b => if b = a ∧ K.lookup a = none then some (.frz o (.lst xs)) else none
theorem law_go {P : Program} {w : World} {K : PySem.W.Frag} {mg mb : Str → Option Value} {k : Nat} {fa a : Addr} {fd : FuncData} {x : Str} {sp : Sp} {s1 : Shared} {vs : List Value} {ns : List Int}
    (KX : K.In s1.heap) (hns : s1.heap.Ns mainGlobals mg) (hb : s1.heap.Ns builtinsNs mb) (hbb : ∀ x : Str, x ≠ "__name__" → mb x = bootBuiltins x) (hlim : s1.heap.NoLimit) (gens : s1.gens = #[])
    (ha : s1.heap.get? a = some { cls := .type "list", data := .seq vs.toArray }) (hints : PyProof.Rows.IntsAre vs ns) (hl : ns.length ≤ sizeLine) (room : Room k callerA)
    (G : ∀ base : Heap, K.In base → base.Ns mainGlobals mg → FnG P w K mg base CX0 k fa fd [x] sp) (hbind : ∀ (s : Shared) (u : Value), BindsTo s fd ⟨[u], []⟩ [(x, u)])
    (hsp : ∀ H : Hp, SqL K H a (ns.map V.int) → sp [.ref a] H (fun v _ => v = .bl true) E0) :
    codeAny (model P w) callerA (.call (.ref fa) ⟨[.ref a], []⟩) (fun r s' => r = .ok (.ret (.bool true)) ∧ OldK s1.heap s'.heap ∧ s'.os = s1.os ∧ AllBare s'.gens) s1 := by
  let ob : Obj := { cls := .type "list", data := .seq vs.toArray }
  have rv : Vals (ns.map V.int) vs := vals_ints hints
  have lv : vs.length = ns.length := hints.length
  let H := scriptH K a ob (ns.map V.int)
  -- what H knows
  have only : ∀ b u, H b = some u → b = a ∧ K.lookup a = none ∧ u = .frz ob (.lst (ns.map V.int)) := fun b u z => by
    have z' : (if b = a ∧ K.lookup a = none then some (HO.frz ob (.lst (ns.map V.int))) else none) = some u := z
    split at z'
    · rename_i h
      exact ⟨h.1, h.2, (Option.some.inj z').symm⟩
    · cases z'
  have hok : HOk P w H s1.heap := fun b u z => by
    obtain ⟨rfl, _, rfl⟩ := only b u z
    exact ⟨ha, by rw [List.length_map]; exact hl, vs, _, rv, ha⟩
  have seen : SqL K H a (ns.map V.int) := by
    cases q : K.lookup a with
    | none => exact .inl (.inr ⟨ob, if_pos ⟨rfl, q⟩⟩)
    | some o =>
      have z := KX a o q
      rw [ha] at z
      cases z
      exact .inr ⟨_, vs.toArray, _, q, rfl, rfl, rfl, by rw [List.size_toArray, lv]; exact hl, by simpa using rv⟩
  -- the base: all but the script
  have dicts : ∀ {b : Addr} {m : Str → Option Value}, s1.heap.Ns b m → (hidT s1.heap H).Ns b m := fun {b m} ⟨o, es, ep, z, dd, rest⟩ => by
    refine ⟨o, es, ep, hidT_get z ?_, dd, rest⟩
    cases q : H b with
    | none => rfl
    | some u =>
      obtain ⟨rfl, _, _⟩ := only b u q
      rw [ha] at z
      cases z
      cases (show Data.seq vs.toArray _ = Data.dict es ep from dd)
  have kin : K.In (hidT s1.heap H) := fun b o z => hidT_get (KX b o z) (by
    cases q : H b with
    | none => rfl
    | some u =>
      obtain ⟨rfl, n, _⟩ := only b u q
      exact absurd (n.symm.trans z) (fun y => by cases y))
  have md : Mod K mg (hidT s1.heap H) := ⟨kin, dicts hns, ⟨mb, dicts hb, hbb⟩, by obtain ⟨mc, h1, h2⟩ := hlim; exact ⟨mc, dicts h1, h2⟩⟩
  have en : Env0 P w K mg (hidT s1.heap H) callerA [] s1 H := ⟨rfl, md, fun b o z => of_hidT z, Nat.le_of_eq (hidT_size _ _), trivial, fun b z => (nomatch z), hok, .of_eq gens⟩
  refine codeAny_mono ((G _ kin (dicts hns)).go callerA [] s1 H ⟨[.ref a], []⟩ [.ref a] [.ref a] (fun v _ => v = .bl true) E0 rfl room en (hbind s1 (.ref a)) (.cons rfl .nil) (hsp H seen)) fun r s' z => ?_
  match r, z with
  | .error e, z => exact z.elim
  | .ok .next, z => exact z.elim
  | .ok .brk, z => exact z.elim
  | .ok .cont, z => exact z.elim
  | .ok (.ret u), ⟨v, H', os, bare, un, hok', rel, hv⟩ =>
    have hv' : v = .bl true := hv
    subst hv'
    have hu : u = Value.bool true := rel
    subst hu
    refine ⟨rfl, OldK.of_keep fun b o zz => ?_, os, bare⟩
    cases q : H b with
    | none => exact un.keep b o zz q (fun y => nomatch y) (fun y => nomatch y)
    | some u =>
      obtain ⟨rfl, _, rfl⟩ := only b u q
      obtain ⟨e1, _⟩ := hok b _ q
      obtain ⟨e2, _⟩ := hok' b _ (un.frzs b ob _ q)
      rw [zz] at e1
      cases e1
      exact e2
theorem ints_dp {K : PySem.W.Frag} {H : Hp} : ∀ ns : List Int, DpAll K H (ns.map V.int) (ns.map PyData.int)
  | [] => .nil
  | n :: ns => .cons (.int n) (ints_dp ns)
/-- the law's datum: a script -/
def scriptT (ns : List Int) : Tr := .imm (.list (ns.map PyData.int))
theorem walk_G {l : PySem.W.OpenLaw} {n k : Nat} {q : Program} {loose : List Str} {XP : (Str → Option Value) → Heap → Prop} {YP : World → Heap → Prop} {d : DefRec} {K : Params → PySem.W.Frag} {m : MFn} {x : Str}
    (hn : l.most = some n) (hn2 : n ≤ sizeLine) (hdf : d.params.defaults = []) (room : Room k callerA)
    (hY : ∀ (w : World) (h : Heap), YP w h → (K w.params).In h)
    (F : ∀ (w : World) (mg : Str → Option Value) (fa : Addr) (h : Heap), (K w.params).In h → h.Ns mainGlobals mg → mg d.name = some (.ref fa) →
      ∃ fd : FuncData, (∀ (s : Shared) (u : Value), BindsTo s fd ⟨[u], []⟩ [(x, u)]) ∧
        ∀ base : Heap, (K w.params).In base → base.Ns mainGlobals mg → FnG l.prog w (K w.params) mg base CX0 k fa fd [x] (spM (K w.params) 1 m))
    (law : ∀ ns : List Int, ns.length ≤ n → ∃ ts', m [scriptT ns] = some (.imm (.bool true), ts')) :
    PySem.W.WalkO q loose XP YP l.row.toRowW d [] (fun f vs => PySem.call f vs) := by
  refine Att.attach_call hn hdf fun w s₀ s₁ mg mb fa o pm cd doc a vs ns G Y ho hd hcd hmg hobj hints hlen hg => ?_
  obtain ⟨fd, hb, hF⟩ := F w mg fa _ (hY w _ Y) G.T.g hmg
  refine law_go (hY w _ Y) G.T.g G.T.b G.T.builtins G.T.nolimit hg hobj hints (Nat.le_trans hlen hn2) room hF hb fun H hS => ?_
  obtain ⟨ts', e⟩ := law ns hlen
  refine ⟨[scriptT ns], .imm (.bool true), ts', H, fun _ => [], e, rfl, Same.refl _, ⟨rfl, fun i t z => ?_, fun _ _ => rfl, fun _ _ _ z => nomatch z⟩, fun v Hi' H' Fs' G' _ _ r _ _ => r.bl_inv.1⟩
  cases i with
  | zero =>
    simp at z
    subst z
    exact ⟨_, rfl, .imm (.lst hS (ints_dp ns))⟩
  | succ i => simp at z
end FL

/-! FL, part O: operations by data. -/
namespace FL
open PySem L2

section
variable {X : Cx}
theorem OpR.or3 {f : Value → Value → Sem Value} {r1 r2 r3 : R2} (h1 : OpR X f r1) (h2 : OpR X f r2) (h3 : OpR X f r3) : OpR X f (fun x y H Q => r1 x y H Q ∨ r2 x y H Q ∨ r3 x y H Q) := OpR.or h1 (OpR.or h2 h3)
theorem CallR.or {f : Value} {r1 r2 : List V → Hp → VK → Prop} (h1 : CallR X f r1) (h2 : CallR X f r2) : CallR X f (fun x H Q => r1 x H Q ∨ r2 x H Q) := by
  intro pins s σ H xs us Q I r h
  rcases h with h | h
  · exact h1 pins s σ H xs us Q I r h
  · exact h2 pins s σ H xs us Q I r h
end
section
variable {K : PySem.W.Frag} {A : List V} {Hi H Hi1 H1 Hi' H' : Hp} {σ : L2.St} {E : En} {Fs : Nat → List Addr}
/-- a datum that is no address -/
theorem give {Q : VK} {v : V} {d : PyData} (sub : Same Hi H) (hd : Dp K Hi v d) (k : ∀ v Hi' H' W, RepT K Hi' H' v (.imm d) W → Grow Hi H Hi' H' W → Q v H') : Q v H := k v Hi H [] (.imm hd) (Grow.refl sub)
theorem giveI {Q : VK} {i : Int} (sub : Same Hi H) (k : ∀ v Hi' H' W, RepT K Hi' H' v (.imm (.int i)) W → Grow Hi H Hi' H' W → Q v H') : Q (.int i) H := give sub (.int i) k
theorem giveB {Q : VK} {b : Bool} (sub : Same Hi H) (k : ∀ v Hi' H' W, RepT K Hi' H' v (.imm (.bool b)) W → Grow Hi H Hi' H' W → Q v H') : Q (.bl b) H := give sub (.bl b) k
/-- a new tuple, a new list of data -/
theorem giveT {Q : VK} {vs : List V} {ds : List PyData} (sub : Same Hi H) (hd : DpAll K Hi vs ds) (k : ∀ v Hi' H' W, RepT K Hi' H' v (.imm (.tuple ds)) W → Grow Hi H Hi' H' W → Q v H') : ∀ p, H p = none → Q (.ref p) (upd H p (.tup vs)) := fun p hp => by
  have g : Grow Hi H (upd Hi p (.tup vs)) (upd H p (.tup vs)) [] := Grow.imm sub hp
  exact k _ _ _ [] (.imm (.tup (SqT.of upd_same) (dpMonos g.ex _ _ hd))) g
theorem giveL {Q : VK} {vs : List V} {ds : List PyData} (sub : Same Hi H) (hd : DpAll K Hi vs ds) (k : ∀ v Hi' H' W, RepT K Hi' H' v (.lst (ds.map Tr.imm)) W → Grow Hi H Hi' H' W → Q v H') : ∀ p, H p = none → Q (.ref p) (upd H p (.lst vs)) := fun p hp => by
  have g : Grow Hi H Hi (upd H p (.lst vs)) [p] := Grow.own sub hp
  exact k _ _ _ [p] (.lst upd_same (free_of sub hp) (RepTs.imms hd) (fun z => nomatch z)) g
/-- the items, where all of them stand still -/
def imms : List Tr → Option (List PyData)
  | [] => some []
  | .imm d :: ts => (imms ts).map (d :: ·)
  | _ :: _ => none
theorem imms_map (ds : List PyData) : imms (ds.map Tr.imm) = some ds := by
  induction ds with
  | nil => rfl
  | cons d ds ih => rw [List.map_cons, imms, ih]; rfl
theorem imms_ok : ∀ {ts : List Tr} {vs : List V} {F : List Addr} {ds : List PyData}, RepTs K Hi H vs ts F → imms ts = some ds → DpAll K Hi vs ds
  | [], _, _, _, h, q => by
    cases h
    cases q
    exact .nil
  | .imm d :: ts, _, _, _, h, q => by
    cases h with
    | cons r rs _ =>
      obtain ⟨ds, q1, rfl⟩ := Option.map_eq_some_iff.mp q
      exact .cons r.imm_inv.1 (imms_ok rs q1)
  | .lst _ :: _, _, _, _, _, q => by cases q
  | .dic _ :: _, _, _, _, _, q => by cases q
/-- what is read as a sequence of data: kind (true: a tuple), items -/
def seqOf : Tr → Option (Bool × List PyData)
  | .imm (.tuple ds) => some (true, ds)
  | .imm (.list ds) => some (false, ds)
  | .lst ts => (imms ts).map fun ds => (false, ds)
  | _ => none
theorem seq_ok {x : V} {t : Tr} {F : List Addr} {b : Bool} {ds : List PyData} (sub : Same Hi H) (r : RepT K Hi H x t F) (q : seqOf t = some (b, ds)) : ∃ a vs, x = .ref a ∧ DpAll K Hi vs ds ∧ (b = true → SqT K H a vs) ∧ (b = false → SqL K H a vs) := by
  unfold seqOf at q
  split at q
  · cases q
    obtain ⟨h, _⟩ := r.imm_inv
    cases h with
    | tup hs ha => exact ⟨_, _, rfl, ha, fun _ => seqT sub hs, fun z => nomatch z⟩
  · cases q
    obtain ⟨h, _⟩ := r.imm_inv
    cases h with
    | lst hs ha => exact ⟨_, _, rfl, ha, fun z => (nomatch z), fun _ => sub.seq hs⟩
  · obtain ⟨ds', q1, q2⟩ := Option.map_eq_some_iff.mp q
    cases q2
    cases r with
    | lst h1 h2 h3 h4 => exact ⟨_, _, rfl, imms_ok h3 q1, fun z => (nomatch z), fun _ => SqL.of h1⟩
  · cases q
theorem dpAll_app : ∀ {vs ws : List V} {ds es : List PyData}, DpAll K H vs ds → DpAll K H ws es → DpAll K H (vs ++ ws) (ds ++ es)
  | _, _, _, _, .nil, h => h
  | _, _, _, _, .cons a t, h => .cons a (dpAll_app t h)

/-! ### + -/
def rAddA (K : PySem.W.Frag) : R2 := fun x y H Q => rI0 (fun i j => .int (i + j)) x y H Q ∨ (∃ i j, x = .str i ∧ y = .str j ∧ i.length + j.length ≤ sizeLine ∧ Q (.str (i ++ j)) H) ∨ rCat x y H Q ∨ rCatA K x y H Q
theorem op_addA {X : Cx} : OpR X (binaryOp .Add) (rAddA X.K) := OpR.or op_add (OpR.or op_add_str (OpR.or op_cat op_catA))
def fAdd : Tr → Tr → Option Tr
  | .imm (.int i), .imm (.int j) => some (.imm (.int (i + j)))
  | .imm (.str a), .imm (.str b) => if a.length + b.length ≤ 16777216 then some (.imm (.str (a ++ b))) else none
  | .lst ts, .lst us => (imms ts).bind fun ds => (imms us).bind fun es => if ds.length + es.length ≤ 16777216 then some (.lst ((ds ++ es).map Tr.imm)) else none
  | .imm (.tuple ds), .imm (.tuple es) => if ds.length + es.length ≤ 16777216 then some (.imm (.tuple (ds ++ es))) else none
  | _, _ => none
theorem o_add : OpT K (rAddA K) fAdd := fun t u w q Hi H x y F G sub rt ru Q k => by
  unfold fAdd at q
  split at q
  · cases q
    obtain ⟨rfl, _⟩ := rt.int_inv
    obtain ⟨rfl, _⟩ := ru.int_inv
    exact .inl ⟨_, _, rfl, rfl, giveI sub k⟩
  · split at q
    · rename_i hl
      cases q
      obtain ⟨rfl, _⟩ := rt.str_inv
      obtain ⟨rfl, _⟩ := ru.str_inv
      exact .inr (.inl ⟨_, _, rfl, rfl, by rw [sizeLine_eq]; exact hl, give sub (.str _) k⟩)
    · cases q
  · obtain ⟨ds, q1, q⟩ := Option.bind_eq_some_iff.mp q
    obtain ⟨es, q2, q⟩ := Option.bind_eq_some_iff.mp q
    split at q
    · rename_i hl
      cases q
      cases rt with
      | lst h1 h2 h3 h4 =>
        cases ru with
        | lst g1 g2 g3 g4 =>
          have a := imms_ok h3 q1
          have b := imms_ok g3 q2
          exact .inr (.inr (.inl ⟨_, _, _, _, rfl, rfl, h1, g1, by rw [sizeLine_eq, dpAll_len a, dpAll_len b]; exact hl, giveL sub (dpAll_app a b) k⟩))
    · cases q
  · split at q
    · rename_i hl
      cases q
      obtain ⟨hd, _⟩ := rt.imm_inv
      obtain ⟨he, _⟩ := ru.imm_inv
      cases hd with
      | @tup a vs _ hs ha =>
        cases he with
        | @tup b ws _ hs2 hb =>
          refine .inr (.inr (.inr ⟨a, b, vs, ws, rfl, rfl, seqT sub hs, seqT sub hs2, by rw [sizeLine_eq, dpAll_len ha, dpAll_len hb]; exact hl, fun e => ?_, fun _ e => ?_, fun _ _ => giveT sub (dpAll_app ha hb) k⟩))
          · subst e
            cases ha
            exact give sub (.tup hs2 hb) k
          · subst e
            cases hb
            rw [List.append_nil] at k
            exact give sub (.tup hs ha) k
    · cases q
  · cases q
/-! ### - * // % ** -/
def fI (C : Int → Int → Bool) (g : Int → Int → Int) : Tr → Tr → Option Tr
  | .imm (.int i), .imm (.int j) => if C i j = true then some (.imm (.int (g i j))) else none
  | _, _ => none
theorem o_I {C : Int → Int → Bool} {D : Int → Int → Prop} {g : Int → Int → Int} (h : ∀ i j, C i j = true → D i j) : OpT K (rI D fun i j => .int (g i j)) (fI C g) := fun t u w q Hi H x y F G sub rt ru Q k => by
  unfold fI at q
  split at q
  · split at q
    · rename_i hc
      cases q
      obtain ⟨rfl, _⟩ := rt.int_inv
      obtain ⟨rfl, _⟩ := ru.int_inv
      exact ⟨_, _, rfl, rfl, h _ _ hc, giveI sub k⟩
    · cases q
  · cases q
def fI0 (g : Int → Int → Int) : Tr → Tr → Option Tr
  | .imm (.int i), .imm (.int j) => some (.imm (.int (g i j)))
  | _, _ => none
theorem o_I0 {g : Int → Int → Int} : OpT K (rI0 fun i j => .int (g i j)) (fI0 g) := fun t u w q Hi H x y F G sub rt ru Q k => by
  unfold fI0 at q
  split at q
  · cases q
    obtain ⟨rfl, _⟩ := rt.int_inv
    obtain ⟨rfl, _⟩ := ru.int_inv
    exact ⟨_, _, rfl, rfl, giveI sub k⟩
  · cases q
def fSub : Tr → Tr → Option Tr := fI0 fun i j => i - j
theorem o_sub : OpT K (rI0 fun i j => .int (i - j)) fSub := o_I0
def cDiv (_ j : Int) : Bool := decide (0 < j) && decide (j.natAbs.log2 < 9000)
def fDiv : Tr → Tr → Option Tr := fI cDiv fun i j => i / j
theorem o_div : OpT K (rI CDivW fun i j => .int (i / j)) fDiv := o_I fun i j h => by
  unfold cDiv at h
  rw [Bool.and_eq_true, decide_eq_true_eq, decide_eq_true_eq] at h
  exact h
def cMod (_ j : Int) : Bool := decide (0 < j)
def fMod : Tr → Tr → Option Tr := fI cMod fun i j => i % j
theorem o_mod : OpT K (rI (fun _ j => 0 < j) fun i j => .int (i % j)) fMod := o_I fun i j h => of_decide_eq_true h
def cPow (i j : Int) : Bool := decide (0 ≤ j) && decide (j ≤ 1000000) && decide (i.natAbs < 2 ^ 64)
def fPow : Tr → Tr → Option Tr := fI cPow fun i j => i ^ j.toNat
theorem o_pow : OpT K (rI CPow fun i j => .int (i ^ j.toNat)) fPow := o_I fun i j h => by
  unfold cPow at h
  rw [Bool.and_eq_true, Bool.and_eq_true, decide_eq_true_eq, decide_eq_true_eq, decide_eq_true_eq] at h
  exact ⟨h.1.1, h.1.2, h.2⟩
def rMulA : R2 := fun x y H Q => rI CMulW (fun i j => .int (i * j)) x y H Q ∨ rRep x y H Q
theorem op_mulA {X : Cx} : OpR X (binaryOp .Mult) rMulA := OpR.or op_mulW op_rep
def fMul : Tr → Tr → Option Tr
  | .imm (.int i), .imm (.int j) => if i.natAbs.log2 + j.natAbs.log2 < 1000000 then some (.imm (.int (i * j))) else none
  | .lst ts, .imm (.int k) => (imms ts).bind fun ds => if -1000000 ≤ k ∧ k ≤ 1000000 ∧ ds.length * k.toNat ≤ 16777216 then some (.lst ((List.replicate k.toNat ds).flatten.map Tr.imm)) else none
  | _, _ => none
theorem dpAll_rep {vs : List V} {ds : List PyData} (h : DpAll K H vs ds) : ∀ n, DpAll K H (List.replicate n vs).flatten (List.replicate n ds).flatten
  | 0 => .nil
  | n + 1 => dpAll_app h (dpAll_rep h n)
theorem o_mul : OpT K rMulA fMul := fun t u w q Hi H x y F G sub rt ru Q k => by
  unfold fMul at q
  split at q
  · split at q
    · rename_i hc
      cases q
      obtain ⟨rfl, _⟩ := rt.int_inv
      obtain ⟨rfl, _⟩ := ru.int_inv
      exact .inl ⟨_, _, rfl, rfl, hc, giveI sub k⟩
    · cases q
  · obtain ⟨ds, q1, q⟩ := Option.bind_eq_some_iff.mp q
    split at q
    · rename_i hl
      cases q
      obtain ⟨rfl, _⟩ := ru.int_inv
      cases rt with
      | lst h1 h2 h3 h4 =>
        have a := imms_ok h3 q1
        exact .inr ⟨_, _, _, rfl, rfl, h1, by omega, by omega, by rw [sizeLine_eq, dpAll_len a]; exact hl.2.2, giveL sub (dpAll_rep a _) k⟩
    · cases q
  · cases q
def fNeg : Tr → Option Tr
  | .imm (.int i) => some (.imm (.int (-i)))
  | _ => none
theorem o_neg : UnT K (rU fun i => .int (-i)) fNeg := fun t w q Hi H x F sub rt Q k => by
  unfold fNeg at q
  split at q
  · cases q
    obtain ⟨rfl, _⟩ := rt.int_inv
    exact ⟨_, rfl, giveI sub k⟩
  · cases q

/-! ### comparisons -/
def fC (g : Int → Int → Bool) : Tr → Tr → Option Tr
  | .imm (.int i), .imm (.int j) => some (.imm (.bool (g i j)))
  | _, _ => none
theorem o_C {g : Int → Int → Bool} : OpT K (rI0 fun i j => .bl (g i j)) (fC g) := fun t u w q Hi H x y F G sub rt ru Q k => by
  unfold fC at q
  split at q
  · cases q
    obtain ⟨rfl, _⟩ := rt.int_inv
    obtain ⟨rfl, _⟩ := ru.int_inv
    exact ⟨_, _, rfl, rfl, giveB sub k⟩
  · cases q
def fLt : Tr → Tr → Option Tr := fC fun i j => decide (i < j)
theorem o_lt : OpT K (rI0 fun i j => .bl (decide (i < j))) fLt := o_C
def fLe : Tr → Tr → Option Tr := fC fun i j => decide (i ≤ j)
theorem o_le : OpT K (rI0 fun i j => .bl (decide (i ≤ j))) fLe := o_C
def fGt : Tr → Tr → Option Tr := fC fun i j => decide (j < i)
theorem o_gt : OpT K (rI0 fun i j => .bl (decide (j < i))) fGt := o_C
def fGe : Tr → Tr → Option Tr := fC fun i j => decide (j ≤ i)
theorem o_ge : OpT K (rI0 fun i j => .bl (decide (j ≤ i))) fGe := o_C
def rEqA (K : PySem.W.Frag) : R2 := fun x y H Q => rEq x y H Q ∨ rEqD K x y H Q
def rNeA (K : PySem.W.Frag) : R2 := fun x y H Q => rNe x y H Q ∨ rNeD K x y H Q
theorem op_eqA {X : Cx} (hu : X.A.units + 64 < cLine) : OpR X (compareOp .Eq) (rEqA X.K) := OpR.or op_eq (op_eqD hu)
theorem op_neA {X : Cx} (hu : X.A.units + 64 < cLine) : OpR X (compareOp .NotEq) (rNeA X.K) := OpR.or op_ne (op_neD hu)
/-- == of two data -/
def eqT : Tr → Tr → Option Bool
  | .imm (.str a), .imm (.str b) => some (decide (a = b))
  | .imm (.int i), .imm (.int j) => some (decide (i = j))
  | t, u => t.toD.bind fun d => u.toD.bind fun e => if SeqAt.shaped d = true ∧ SeqAt.shaped e = true then some (PyData.eqv d e) else none
def fEq (t u : Tr) : Option Tr := (eqT t u).map fun b => .imm (.bool b)
def fNe (t u : Tr) : Option Tr := (eqT t u).map fun b => .imm (.bool !b)
theorem dec_V_str {a b : Str} : decide (V.str a = V.str b) = decide (a = b) := by
  by_cases h : a = b
  · subst h; simp
  · rw [decide_eq_false h, decide_eq_false fun z => h (V.str.inj z)]
theorem dec_V_int {a b : Int} : decide (V.int a = V.int b) = decide (a = b) := by
  by_cases h : a = b
  · subst h; simp
  · rw [decide_eq_false h, decide_eq_false fun z => h (V.int.inj z)]
theorem eq_core {t u : Tr} {b : Bool} (q : eqT t u = some b) {x y : V} {F G : List Addr} (sub : Same Hi H) (rt : RepT K Hi H x t F) (ru : RepT K Hi H y u G) :
    (scal x y = true ∧ decide (x = y) = b) ∨ ∃ d e, Dp K H x d ∧ Dp K H y e ∧ SeqAt.shaped d = true ∧ SeqAt.shaped e = true ∧ PyData.eqv d e = b := by
  unfold eqT at q
  split at q
  · cases q
    obtain ⟨rfl, _⟩ := rt.str_inv
    obtain ⟨rfl, _⟩ := ru.str_inv
    exact .inl ⟨rfl, dec_V_str⟩
  · cases q
    obtain ⟨rfl, _⟩ := rt.int_inv
    obtain ⟨rfl, _⟩ := ru.int_inv
    exact .inl ⟨rfl, dec_V_int⟩
  · obtain ⟨d, q1, q⟩ := Option.bind_eq_some_iff.mp q
    obtain ⟨e, q2, q⟩ := Option.bind_eq_some_iff.mp q
    split at q
    · rename_i hs
      cases q
      exact .inr ⟨d, e, looks sub rt q1, looks sub ru q2, hs.1, hs.2, rfl⟩
    · cases q
theorem o_eq : OpT K (rEqA K) fEq := fun t u w q Hi H x y F G sub rt ru Q k => by
  obtain ⟨b, q1, rfl⟩ := Option.map_eq_some_iff.mp q
  rcases eq_core q1 sub rt ru with ⟨h1, h2⟩ | ⟨d, e, h1, h2, h3, h4, h5⟩
  · refine .inl ⟨h1, ?_⟩
    rw [h2]
    exact giveB sub k
  · refine .inr ⟨d, e, h1, h2, h3, h4, ?_⟩
    rw [h5]
    exact giveB sub k
theorem o_ne : OpT K (rNeA K) fNe := fun t u w q Hi H x y F G sub rt ru Q k => by
  obtain ⟨b, q1, rfl⟩ := Option.map_eq_some_iff.mp q
  rcases eq_core q1 sub rt ru with ⟨h1, h2⟩ | ⟨d, e, h1, h2, h3, h4, h5⟩
  · refine .inl ⟨h1, ?_⟩
    rw [h2]
    exact giveB sub k
  · refine .inr ⟨d, e, h1, h2, h3, h4, ?_⟩
    rw [h5]
    exact giveB sub k
/-- is None -/
def isN : Tr → Bool
  | .imm .none => true
  | _ => false
theorem isN_ok {t : Tr} {x : V} {F : List Addr} (r : RepT K Hi H x t F) : decide (x = .non) = isN t := by
  cases r with
  | imm h => cases h <;> rfl
  | lst _ _ _ _ => rfl
  | dic _ _ _ => rfl
  | tpl _ _ _ => rfl
def fIsN (t u : Tr) : Option Tr := if isN u = true then some (.imm (.bool (isN t))) else none
def fNotN (t u : Tr) : Option Tr := if isN u = true then some (.imm (.bool !(isN t))) else none
theorem non_of {t : Tr} {x : V} {F : List Addr} (r : RepT K Hi H x t F) (h : isN t = true) : x = .non := by
  have := isN_ok r
  rw [h] at this
  exact of_decide_eq_true this
theorem o_isN : OpT K (fun x y H Q => y = .non ∧ Q (.bl (decide (x = .non))) H) fIsN := fun t u w q Hi H x y F G sub rt ru Q k => by
  unfold fIsN at q
  split at q
  · rename_i hn
    cases q
    refine ⟨non_of ru hn, ?_⟩
    rw [isN_ok rt]
    exact giveB sub k
  · cases q
theorem o_notN : OpT K (fun x y H Q => y = .non ∧ Q (.bl (!decide (x = .non))) H) fNotN := fun t u w q Hi H x y F G sub rt ru Q k => by
  unfold fNotN at q
  split at q
  · rename_i hn
    cases q
    refine ⟨non_of ru hn, ?_⟩
    rw [isN_ok rt]
    exact giveB sub k
  · cases q

/-! ### in -/
def flatD : PyData → Bool
  | .none => true
  | .bool _ => true
  | .int _ => true
  | .str _ => true
  | _ => false
def rInA (K : PySem.W.Frag) : R2 := fun x y H Q => rInD K x y H Q ∨ rIn K false x y H Q
def rNotInA (K : PySem.W.Frag) : R2 := fun x y H Q => rNotInD K x y H Q ∨ rIn K true x y H Q
theorem op_inA {X : Cx} (hu : X.A.units + 65 < cLine) : OpR X (compareOp .In) (rInA X.K) := OpR.or (op_inD hu) op_in_seq
theorem op_notInA {X : Cx} (hu : X.A.units + 65 < cLine) : OpR X (compareOp .NotIn) (rNotInA X.K) := OpR.or (op_notInD hu) op_notIn_seq
/-- x in a list: its items by ==; x in a tuple: of ints, texts, truths and None -/
def inT (t u : Tr) : Option Bool := t.toD.bind fun d => match u with
  | .imm (.tuple ds) => if flatD d = true ∧ ds.all flatD = true then some (ds.any fun z => PyData.eqv z d) else none
  | u => u.toD.bind fun l => match l with
    | .list ds => if SeqAt.shaped d = true ∧ SeqAt.shaped (.list ds) = true then some (ds.any fun z => PyData.eqv z d) else none
    | _ => none
theorem flat_ok {d : PyData} {v : V} (h : Dp K H v d) (f : flatD d = true) : flatV v = true := by
  cases h <;> first
    | rfl
    | cases f
theorem flats_ok : ∀ {vs : List V} {ds : List PyData}, DpAll K H vs ds → ds.all flatD = true → vs.all flatV = true
  | _, _, .nil, _ => rfl
  | _, _, .cons h t, f => by
    rw [List.all_cons, Bool.and_eq_true] at f ⊢
    exact ⟨flat_ok h f.1, flats_ok t f.2⟩
theorem eqV_ok {d e : PyData} {v u : V} (h : Dp K H v d) (g : Dp K H u e) (f1 : flatD d = true) (f2 : flatD e = true) : eqV v u = PyData.eqv d e := by
  cases h <;> cases g <;> first
    | (cases f1; done)
    | (cases f2; done)
    | (simp only [eqV, PyData.eqv]; done)
    | (simp [eqV, PyData.eqv]; done)
    | skip
theorem anyV_ok {d : PyData} {v : V} (h : Dp K H v d) (f : flatD d = true) : ∀ {vs : List V} {ds : List PyData}, DpAll K H vs ds → ds.all flatD = true → inV v vs = ds.any fun z => PyData.eqv z d
  | _, _, .nil, _ => rfl
  | _, _, .cons g t, fs => by
    rw [List.all_cons, Bool.and_eq_true] at fs
    have ih := anyV_ok h f t fs.2
    unfold inV at ih ⊢
    rw [List.any_cons, List.any_cons, ih, eqV_ok g h fs.1 f]
end
end FL

/-! FL, part P: in, subscripts, slices, built-ins, methods. -/
namespace FL
open PySem L2

section
variable {K : PySem.W.Frag} {A : List V} {Hi H Hi1 H1 Hi' H' : Hp} {σ : L2.St} {E : En} {Fs : Nat → List Addr}
theorem in_core {t u : Tr} {b : Bool} (q : inT t u = some b) {x y : V} {F G : List Addr} (sub : Same Hi H) (rt : RepT K Hi H x t F) (ru : RepT K Hi H y u G) :
    (∃ d ds, Dp K H x d ∧ Dp K H y (.list ds) ∧ SeqAt.shaped d = true ∧ SeqAt.shaped (.list ds) = true ∧ (ds.any fun z => PyData.eqv z d) = b) ∨
    ∃ p xs, y = .ref p ∧ (SqL K H p xs ∨ SqT K H p xs) ∧ flatV x = true ∧ xs.all flatV = true ∧ inV x xs = b := by
  unfold inT at q
  obtain ⟨d, q1, q⟩ := Option.bind_eq_some_iff.mp q
  have hx := looks sub rt q1
  split at q
  · rename_i ds
    split at q
    · rename_i hf
      cases q
      obtain ⟨hy, _⟩ := ru.imm_inv
      cases hy with
      | tup hs ha =>
        exact .inr ⟨_, _, rfl, .inr (seqT sub hs), flat_ok hx hf.1, flats_ok ha hf.2, anyV_ok hx hf.1 (dpMonos sub _ _ ha) hf.2⟩
    · cases q
  · obtain ⟨l, q2, q⟩ := Option.bind_eq_some_iff.mp q
    split at q
    · rename_i ds
      split at q
      · rename_i hs
        cases q
        exact .inl ⟨d, ds, hx, looks sub ru q2, hs.1, hs.2, rfl⟩
      · cases q
    · cases q
def fIn (t u : Tr) : Option Tr := (inT t u).map fun b => .imm (.bool b)
def fNotIn (t u : Tr) : Option Tr := (inT t u).map fun b => .imm (.bool !b)
theorem o_in : OpT K (rInA K) fIn := fun t u w q Hi H x y F G sub rt ru Q k => by
  obtain ⟨b, q1, rfl⟩ := Option.map_eq_some_iff.mp q
  rcases in_core q1 sub rt ru with ⟨d, ds, h1, h2, h3, h4, h5⟩ | ⟨p, xs, h1, h2, h3, h4, h5⟩
  · refine .inl ⟨d, ds, h1, h2, h3, h4, ?_⟩
    rw [h5]
    exact giveB sub k
  · refine .inr ⟨p, xs, h1, h2, h3, h4, ?_⟩
    rw [if_neg Bool.false_ne_true, h5]
    exact giveB sub k
theorem o_notIn : OpT K (rNotInA K) fNotIn := fun t u w q Hi H x y F G sub rt ru Q k => by
  obtain ⟨b, q1, rfl⟩ := Option.map_eq_some_iff.mp q
  rcases in_core q1 sub rt ru with ⟨d, ds, h1, h2, h3, h4, h5⟩ | ⟨p, xs, h1, h2, h3, h4, h5⟩
  · refine .inl ⟨d, ds, h1, h2, h3, h4, ?_⟩
    rw [h5]
    exact giveB sub k
  · refine .inr ⟨p, xs, h1, h2, h3, h4, ?_⟩
    rw [if_pos rfl, h5]
    exact giveB sub k

/-! ### subscripts, slices -/
def fIx : Tr → Tr → Option Tr
  | .imm (.tuple ds), .imm (.int i) => (atI ds i).map Tr.imm
  | .imm (.list ds), .imm (.int i) => (atI ds i).map Tr.imm
  | .lst ts, .imm (.int i) => (atI ts i).bind fun t => match t with
    | .imm d => some (.imm d)
    | _ => none
  | .imm (.str z), .imm (.int i) => if z.length ≤ 16777216 then (atI z.cps.toList i).map fun c => .imm (.str ⟨#[c]⟩) else none
  | _, _ => none
theorem o_ix : OpT K (rIx K) fIx := fun t u w q Hi H x y F G sub rt ru Q k => by
  unfold fIx at q
  split at q
  · obtain ⟨d, e1, rfl⟩ := Option.map_eq_some_iff.mp q
    obtain ⟨rfl, _⟩ := ru.int_inv
    obtain ⟨hd, _⟩ := rt.imm_inv
    cases hd with
    | @tup a vs _ hs ha =>
      obtain ⟨j, v, j1, j2, j3, j4⟩ := atI_len (xs := vs) (dpAll_len ha) e1
      obtain ⟨v', e4, hv⟩ := dpAll_at ha j2
      rw [j3] at e4
      cases e4
      exact .inr (.inl ⟨a, vs, _, _, rfl, rfl, seqT sub hs, j4, give sub hv k⟩)
  · obtain ⟨d, e1, rfl⟩ := Option.map_eq_some_iff.mp q
    obtain ⟨rfl, _⟩ := ru.int_inv
    obtain ⟨hd, _⟩ := rt.imm_inv
    cases hd with
    | @lst a vs _ hs ha =>
      obtain ⟨j, v, j1, j2, j3, j4⟩ := atI_len (xs := vs) (dpAll_len ha) e1
      obtain ⟨v', e4, hv⟩ := dpAll_at ha j2
      rw [j3] at e4
      cases e4
      exact .inl ⟨a, vs, _, _, rfl, rfl, sub.seq hs, j4, give sub hv k⟩
  · obtain ⟨t0, e1, q⟩ := Option.bind_eq_some_iff.mp q
    split at q
    · cases q
      obtain ⟨rfl, _⟩ := ru.int_inv
      cases rt with
      | @lst a vs _ F1 h1 h2 h3 h4 =>
        obtain ⟨j, v, j1, j2, j3, j4⟩ := atI_len (xs := vs) h3.length e1
        obtain ⟨v', G, e4, hv, _⟩ := h3.get j2
        rw [j3] at e4
        cases e4
        exact .inl ⟨a, vs, _, _, rfl, rfl, SqL.of h1, j4, give sub hv.imm_inv.1 k⟩
    · cases q
  · split at q
    · rename_i hz
      obtain ⟨c, e1, rfl⟩ := Option.map_eq_some_iff.mp q
      obtain ⟨rfl, _⟩ := ru.int_inv
      obtain ⟨rfl, _⟩ := rt.str_inv
      exact .inr (.inr ⟨_, _, c, rfl, rfl, by rw [sizeLine_eq]; exact hz, e1, give sub (.str _) k⟩)
    · cases q
  · cases q
def cutL {α : Type} (xs : List α) (lo hi : Option Int) : List α := (xs.drop (HT.sIx xs.length 0 lo)).take (HT.sIx xs.length xs.length hi - HT.sIx xs.length 0 lo)
theorem dpAll_drop : ∀ {vs : List V} {ds : List PyData} (n : Nat), DpAll K H vs ds → DpAll K H (vs.drop n) (ds.drop n)
  | _, _, 0, h => h
  | _, _, _ + 1, .nil => .nil
  | _, _, n + 1, .cons _ t => dpAll_drop n t
theorem dpAll_take : ∀ {vs : List V} {ds : List PyData} (n : Nat), DpAll K H vs ds → DpAll K H (vs.take n) (ds.take n)
  | _, _, 0, _ => .nil
  | _, _, _ + 1, .nil => .nil
  | _, _, n + 1, .cons a t => .cons a (dpAll_take n t)
theorem dpAll_cut {vs : List V} {ds : List PyData} (h : DpAll K H vs ds) (lo hi : Option Int) : DpAll K H (cutV vs lo hi) (cutL ds lo hi) := by
  unfold cutV cutL
  rw [dpAll_len h]
  exact dpAll_take _ (dpAll_drop _ h)
def rSlX (K : PySem.W.Frag) : V → Option Int → Option Int → Hp → VK → Prop := fun x lo hi H Q => rSlL K x lo hi H Q ∨ rSlA K x lo hi H Q ∨ rSlS x lo hi H Q
theorem sl_any {X : Cx} : SlR X (rSlX X.K) := by
  intro pins s σ H x v vl vu lo hi sl Q I rx hs pl pu h
  rcases h with h | h | h
  · exact sl_list pins s σ H x v vl vu lo hi sl Q I rx hs pl pu h
  · exact sl_tupA pins s σ H x v vl vu lo hi sl Q I rx hs pl pu h
  · exact sl_str pins s σ H x v vl vu lo hi sl Q I rx hs pl pu h
def fSl (t : Tr) (lo hi : Option Int) : Option Tr := match t with
  | .imm (.str z) => if z.length ≤ 16777216 then some (.imm (.str (cutS z lo hi))) else none
  | t => (seqOf t).map fun p => if p.1 = true then .imm (.tuple (cutL p.2 lo hi)) else .lst ((cutL p.2 lo hi).map Tr.imm)
theorem cut_whole {α : Type} {xs : List α} {lo hi : Option Int} (h : HT.sIx xs.length 0 lo = 0 ∧ HT.sIx xs.length xs.length hi = xs.length) : cutL xs lo hi = xs := by
  unfold cutL
  rw [h.1, h.2]
  simp
theorem o_sl : SlT K (rSlX K) fSl := fun t lo hi w q Hi H x F sub rt Q k => by
  unfold fSl at q
  split at q
  · split at q
    · rename_i hz
      cases q
      obtain ⟨rfl, _⟩ := rt.str_inv
      exact .inr (.inr ⟨_, rfl, by rw [sizeLine_eq]; exact hz, give sub (.str _) k⟩)
    · cases q
  · obtain ⟨⟨b, ds⟩, q1, rfl⟩ := Option.map_eq_some_iff.mp q
    obtain ⟨a, vs, rfl, ha, hT, hL⟩ := seq_ok sub rt q1
    cases b with
    | true =>
      have hc := dpAll_cut ha lo hi
      refine .inr (.inl ⟨a, vs, rfl, hT rfl, fun hw => ?_, fun _ => giveT sub hc k⟩)
      have e1 : cutL ds lo hi = ds := cut_whole (by rw [← dpAll_len ha]; exact hw)
      have e2 : cutV vs lo hi = vs := cut_whole hw
      rw [e1] at k
      -- the whole tuple is the tuple itself
      have hd : Dp K Hi (.ref a) (.tuple ds) := by
        clear k hc
        unfold seqOf at q1
        split at q1
        · cases q1
          exact rt.imm_inv.1
        · cases q1
        · obtain ⟨_, _, z⟩ := Option.map_eq_some_iff.mp q1
          cases z
        · cases q1
      exact give sub hd k
    | false => exact .inl ⟨a, vs, rfl, hL rfl, giveL sub (dpAll_cut ha lo hi) k⟩

/-! ### built-ins -/
theorem RepVs.nil_inv {xs : List V} (h : RepVs K Hi H xs []) : xs = [] := by
  cases h
  rfl
theorem RepVs.one_inv {xs : List V} {t : Tr} (h : RepVs K Hi H xs [t]) : ∃ x F, xs = [x] ∧ RepT K Hi H x t F := by
  cases h with
  | cons r rs =>
    cases rs
    exact ⟨_, _, rfl, r⟩
theorem RepVs.two_inv {xs : List V} {t u : Tr} (h : RepVs K Hi H xs [t, u]) : ∃ x y F G, xs = [x, y] ∧ RepT K Hi H x t F ∧ RepT K Hi H y u G := by
  cases h with
  | cons r rs =>
    obtain ⟨y, G, rfl, s⟩ := rs.one_inv
    exact ⟨_, _, _, _, rfl, r, s⟩
def rLenA (K : PySem.W.Frag) : List V → Hp → VK → Prop := fun xs H Q => (∃ p ys, xs = [.ref p] ∧ (SqL K H p ys ∨ SqT K H p ys) ∧ Q (.int ys.length) H) ∨ (∃ z, xs = [.str z] ∧ z.length ≤ sizeLine ∧ Q (.int z.length) H) ∨ (∃ a kvs, xs = [V.ref a] ∧ H a = some (.dK kvs) ∧ Q (.int kvs.length) H)
theorem call_lenA {X : Cx} : CallR X (.builtin "len") (rLenA X.K) := CallR.or call_len_seq (CallR.or call_len_str call_lenD)
def lenT : Tr → Option Nat
  | .imm (.tuple ds) => some ds.length
  | .imm (.list ds) => some ds.length
  | .lst ts => some ts.length
  | .dic kvs => some kvs.length
  | .imm (.str z) => if z.length ≤ 16777216 then some z.length else none
  | _ => none
def fLen : List Tr → Option Tr
  | [t] => (lenT t).map fun n => .imm (.int (n : Int))
  | _ => none
theorem c_len : CallT K (rLenA K) fLen := fun ts w q Hi H xs sub r Q k => by
  unfold fLen at q
  split at q
  · obtain ⟨n, q1, rfl⟩ := Option.map_eq_some_iff.mp q
    obtain ⟨x, F, rfl, rt⟩ := r.one_inv
    unfold lenT at q1
    split at q1
    · cases q1
      obtain ⟨hd, _⟩ := rt.imm_inv
      cases hd with
      | tup hs ha =>
        refine .inl ⟨_, _, rfl, .inr (seqT sub hs), ?_⟩
        rw [dpAll_len ha]
        exact giveI sub k
    · cases q1
      obtain ⟨hd, _⟩ := rt.imm_inv
      cases hd with
      | lst hs ha =>
        refine .inl ⟨_, _, rfl, .inl (sub.seq hs), ?_⟩
        rw [dpAll_len ha]
        exact giveI sub k
    · cases q1
      cases rt with
      | lst h1 h2 h3 h4 =>
        refine .inl ⟨_, _, rfl, .inl (SqL.of h1), ?_⟩
        rw [h3.length]
        exact giveI sub k
    · cases q1
      cases rt with
      | dic h1 h2 h3 =>
        refine .inr (.inr ⟨_, _, rfl, h1, ?_⟩)
        rw [Paired.length h3]
        exact giveI sub k
    · split at q1
      · rename_i hz
        cases q1
        obtain ⟨rfl, _⟩ := rt.str_inv
        exact .inr (.inl ⟨_, rfl, by rw [sizeLine_eq]; exact hz, giveI sub k⟩)
      · cases q1
    · cases q1
  · cases q
def fAbs : List Tr → Option Tr
  | [.imm (.int i)] => some (.imm (.int (if i < 0 then -i else i)))
  | _ => none
theorem c_abs : CallT K (fun xs H Q => ∃ i, xs = [.int i] ∧ Q (.int (if i < 0 then -i else i)) H) fAbs := fun ts w q Hi H xs sub r Q k => by
  unfold fAbs at q
  split at q
  · cases q
    obtain ⟨x, F, rfl, rt⟩ := r.one_inv
    obtain ⟨rfl, _⟩ := rt.int_inv
    exact ⟨_, rfl, giveI sub k⟩
  · cases q
def fMax2 : List Tr → Option Tr
  | [.imm (.int i), .imm (.int j)] => some (.imm (.int (if j > i then j else i)))
  | _ => none
theorem c_max2 : CallT K (fun xs H Q => ∃ i j, xs = [.int i, .int j] ∧ Q (.int (if j > i then j else i)) H) fMax2 := fun ts w q Hi H xs sub r Q k => by
  unfold fMax2 at q
  split at q
  · cases q
    obtain ⟨x, y, F, G, rfl, rt, ru⟩ := r.two_inv
    obtain ⟨rfl, _⟩ := rt.int_inv
    obtain ⟨rfl, _⟩ := ru.int_inv
    exact ⟨_, _, rfl, giveI sub k⟩
  · cases q
def fMin2 : List Tr → Option Tr
  | [.imm (.int i), .imm (.int j)] => some (.imm (.int (if j < i then j else i)))
  | _ => none
theorem c_min2 : CallT K (fun xs H Q => ∃ i j, xs = [.int i, .int j] ∧ Q (.int (if j < i then j else i)) H) fMin2 := fun ts w q Hi H xs sub r Q k => by
  unfold fMin2 at q
  split at q
  · cases q
    obtain ⟨x, y, F, G, rfl, rt, ru⟩ := r.two_inv
    obtain ⟨rfl, _⟩ := rt.int_inv
    obtain ⟨rfl, _⟩ := ru.int_inv
    exact ⟨_, _, rfl, giveI sub k⟩
  · cases q
def fInt1 : List Tr → Option Tr
  | [.imm (.int i)] => some (.imm (.int i))
  | [.imm (.bool b)] => some (.imm (.int (if b then 1 else 0)))
  | _ => none
theorem c_int1 : CallT K (fun xs H Q => (∃ i, xs = [.int i] ∧ Q (.int i) H) ∨ ∃ k, xs = [.bl k] ∧ Q (.int (if k then 1 else 0)) H) fInt1 := fun ts w q Hi H xs sub r Q k => by
  unfold fInt1 at q
  split at q
  · cases q
    obtain ⟨x, F, rfl, rt⟩ := r.one_inv
    obtain ⟨rfl, _⟩ := rt.int_inv
    exact .inl ⟨_, rfl, giveI sub k⟩
  · cases q
    obtain ⟨x, F, rfl, rt⟩ := r.one_inv
    obtain ⟨rfl, _⟩ := rt.bl_inv
    exact .inr ⟨_, rfl, giveI sub k⟩
  · cases q
/-- all ints, all truths -/
def intsOf : List PyData → Option (List Int)
  | [] => some []
  | .int i :: ds => (intsOf ds).map (i :: ·)
  | _ :: _ => none
theorem intsOf_ok : ∀ {ds : List PyData} {vs : List V} {ns : List Int}, DpAll K H vs ds → intsOf ds = some ns → vs = ns.map V.int
  | [], _, _, h, q => by
    cases h
    cases q
    rfl
  | .int i :: ds, _, _, h, q => by
    obtain ⟨ns, q1, rfl⟩ := Option.map_eq_some_iff.mp q
    cases h with
    | cons h1 h2 =>
      cases h1
      rw [intsOf_ok h2 q1]
      rfl
  | .none :: _, _, _, _, q => by cases q
  | .bool _ :: _, _, _, _, q => by cases q
  | .str _ :: _, _, _, _, q => by cases q
  | .list _ :: _, _, _, _, q => by cases q
  | .tuple _ :: _, _, _, _, q => by cases q
  | .dict _ :: _, _, _, _, q => by cases q
theorem intsOf_map (ns : List Int) : intsOf (ns.map PyData.int) = some ns := by
  induction ns with
  | nil => rfl
  | cons n ns ih => rw [List.map_cons, intsOf, ih]; rfl
def boolsOf : List PyData → Option (List Bool)
  | [] => some []
  | .bool i :: ds => (boolsOf ds).map (i :: ·)
  | _ :: _ => none
theorem boolsOf_ok : ∀ {ds : List PyData} {vs : List V} {ns : List Bool}, DpAll K H vs ds → boolsOf ds = some ns → vs = ns.map V.bl
  | [], _, _, h, q => by
    cases h
    cases q
    rfl
  | .bool i :: ds, _, _, h, q => by
    obtain ⟨ns, q1, rfl⟩ := Option.map_eq_some_iff.mp q
    cases h with
    | cons h1 h2 =>
      cases h1
      rw [boolsOf_ok h2 q1]
      rfl
  | .none :: _, _, _, _, q => by cases q
  | .int _ :: _, _, _, _, q => by cases q
  | .str _ :: _, _, _, _, q => by cases q
  | .list _ :: _, _, _, _, q => by cases q
  | .tuple _ :: _, _, _, _, q => by cases q
  | .dict _ :: _, _, _, _, q => by cases q
theorem boolsOf_map (ns : List Bool) : boolsOf (ns.map PyData.bool) = some ns := by
  induction ns with
  | nil => rfl
  | cons n ns ih => rw [List.map_cons, boolsOf, ih]; rfl
/-- the items of a list -/
def lstD (t : Tr) : Option (List PyData) := (seqOf t).bind fun p => if p.1 = true then none else some p.2
theorem lstD_ok {x : V} {t : Tr} {F : List Addr} {ds : List PyData} (sub : Same Hi H) (r : RepT K Hi H x t F) (q : lstD t = some ds) : ∃ a vs, x = .ref a ∧ DpAll K Hi vs ds ∧ SqL K H a vs := by
  unfold lstD at q
  obtain ⟨⟨b, es⟩, q1, q⟩ := Option.bind_eq_some_iff.mp q
  cases b with
  | true => cases q
  | false =>
    cases q
    obtain ⟨a, vs, e, ha, _, hL⟩ := seq_ok sub r q1
    exact ⟨a, vs, e, ha, hL rfl⟩
def fSum : List Tr → Option Tr
  | [t] => (lstD t).bind fun ds => (intsOf ds).map fun ns => .imm (.int ns.sum)
  | _ => none
theorem c_sum : CallT K (rSum K) fSum := fun ts w q Hi H xs sub r Q k => by
  unfold fSum at q
  split at q
  · obtain ⟨ds, q1, q⟩ := Option.bind_eq_some_iff.mp q
    obtain ⟨ns, q2, rfl⟩ := Option.map_eq_some_iff.mp q
    obtain ⟨x, F, rfl, rt⟩ := r.one_inv
    obtain ⟨a, vs, rfl, ha, hL⟩ := lstD_ok sub rt q1
    have e := intsOf_ok ha q2
    subst e
    exact ⟨a, ns, rfl, hL, giveI sub k⟩
  · cases q
def fAll : List Tr → Option Tr
  | [t] => (lstD t).bind fun ds => (boolsOf ds).map fun ns => .imm (.bool (ns.all id))
  | _ => none
theorem c_all : CallT K (rAll K) fAll := fun ts w q Hi H xs sub r Q k => by
  unfold fAll at q
  split at q
  · obtain ⟨ds, q1, q⟩ := Option.bind_eq_some_iff.mp q
    obtain ⟨ns, q2, rfl⟩ := Option.map_eq_some_iff.mp q
    obtain ⟨x, F, rfl, rt⟩ := r.one_inv
    obtain ⟨a, vs, rfl, ha, hL⟩ := lstD_ok sub rt q1
    have e := boolsOf_ok ha q2
    subst e
    exact ⟨a, ns, rfl, hL, giveB sub k⟩
  · cases q
def fAny : List Tr → Option Tr
  | [t] => (lstD t).bind fun ds => (boolsOf ds).map fun ns => .imm (.bool (ns.any id))
  | _ => none
theorem c_any : CallT K (rAny K) fAny := fun ts w q Hi H xs sub r Q k => by
  unfold fAny at q
  split at q
  · obtain ⟨ds, q1, q⟩ := Option.bind_eq_some_iff.mp q
    obtain ⟨ns, q2, rfl⟩ := Option.map_eq_some_iff.mp q
    obtain ⟨x, F, rfl, rt⟩ := r.one_inv
    obtain ⟨a, vs, rfl, ha, hL⟩ := lstD_ok sub rt q1
    have e := boolsOf_ok ha q2
    subst e
    exact ⟨a, ns, rfl, hL, giveB sub k⟩
  · cases q
/-- tuple(x), list(x) -/
def fTuple : List Tr → Option Tr
  | [t] => (seqOf t).map fun p => .imm (.tuple p.2)
  | _ => none
theorem c_tuple : CallT K (fun xs H Q => ∃ p ys, xs = [.ref p] ∧ ((SqL K H p ys ∧ ∀ l, H l = none → Q (.ref l) (upd H l (.tup ys))) ∨ (SqT K H p ys ∧ Q (.ref p) H))) fTuple := fun ts w q Hi H xs sub r Q k => by
  unfold fTuple at q
  split at q
  · obtain ⟨⟨b, ds⟩, q1, rfl⟩ := Option.map_eq_some_iff.mp q
    obtain ⟨x, F, rfl, rt⟩ := r.one_inv
    obtain ⟨a, vs, rfl, ha, hT, hL⟩ := seq_ok sub rt q1
    cases b with
    | true =>
      have hd : Dp K Hi (.ref a) (.tuple ds) := by
        clear k
        unfold seqOf at q1
        split at q1
        · cases q1
          exact rt.imm_inv.1
        · cases q1
        · obtain ⟨_, _, z⟩ := Option.map_eq_some_iff.mp q1
          cases z
        · cases q1
      exact ⟨a, vs, rfl, .inr ⟨hT rfl, give sub hd k⟩⟩
    | false => exact ⟨a, vs, rfl, .inl ⟨hL rfl, giveT sub ha k⟩⟩
  · cases q
def fList : List Tr → Option Tr
  | [t] => (seqOf t).map fun p => .lst (p.2.map Tr.imm)
  | _ => none
theorem c_list : CallT K (fun xs H Q => ∃ p ys, xs = [.ref p] ∧ (SqL K H p ys ∨ SqT K H p ys) ∧ ∀ l, H l = none → Q (.ref l) (upd H l (.lst ys))) fList := fun ts w q Hi H xs sub r Q k => by
  unfold fList at q
  split at q
  · obtain ⟨⟨b, ds⟩, q1, rfl⟩ := Option.map_eq_some_iff.mp q
    obtain ⟨x, F, rfl, rt⟩ := r.one_inv
    obtain ⟨a, vs, rfl, ha, hT, hL⟩ := seq_ok sub rt q1
    refine ⟨a, vs, rfl, ?_, giveL sub ha k⟩
    cases b with
    | true => exact .inr (hT rfl)
    | false => exact .inl (hL rfl)
  · cases q
/-- sorted(xs), xs a list of ints -/
def insI (x : Int) : List Int → List Int
  | [] => [x]
  | y :: r => if x ≤ y then x :: y :: r else y :: insI x r
def srtI : List Int → List Int
  | [] => []
  | x :: r => insI x (srtI r)
theorem insI_perm (x : Int) : ∀ r : List Int, (insI x r).Perm (x :: r)
  | [] => List.Perm.refl _
  | y :: r => by
    unfold insI
    split
    · exact List.Perm.refl _
    · exact ((insI_perm x r).cons y).trans (List.Perm.swap x y r)
theorem srtI_perm : ∀ r : List Int, (srtI r).Perm r
  | [] => List.Perm.refl _
  | x :: r => (insI_perm x (srtI r)).trans ((srtI_perm r).cons x)
theorem insI_sorted (x : Int) : ∀ r : List Int, r.Pairwise (· ≤ ·) → (insI x r).Pairwise (· ≤ ·)
  | [], _ => List.pairwise_singleton _ _
  | y :: r, h => by
    unfold insI
    obtain ⟨h1, h2⟩ := List.pairwise_cons.mp h
    split
    · rename_i hxy
      exact List.pairwise_cons.mpr ⟨fun z hz => (List.mem_cons.mp hz).elim (fun e => e ▸ hxy) fun m => Int.le_trans hxy (h1 z m), h⟩
    · rename_i hxy
      refine List.pairwise_cons.mpr ⟨fun z hz => ?_, insI_sorted x r h2⟩
      rcases List.mem_cons.mp ((insI_perm x r).mem_iff.mp hz) with e | m
      · omega
      · exact h1 z m
theorem srtI_sorted : ∀ r : List Int, (srtI r).Pairwise (· ≤ ·)
  | [] => List.Pairwise.nil
  | x :: r => insI_sorted x _ (srtI_sorted r)
theorem srt_one : ∀ {a b : List Int}, a.Perm b → a.Pairwise (· ≤ ·) → b.Pairwise (· ≤ ·) → a = b := fun p ha hb => p.eq_of_pairwise (fun x y _ _ h1 h2 => Int.le_antisymm h1 h2) ha hb
def fSorted : List Tr → Option Tr
  | [t] => (lstD t).bind fun ds => (intsOf ds).map fun ns => .lst (((srtI ns).map PyData.int).map Tr.imm)
  | _ => none
theorem c_sorted : CallT K (rSortedI K) fSorted := fun ts w q Hi H xs sub r Q k => by
  unfold fSorted at q
  split at q
  · obtain ⟨ds, q1, q⟩ := Option.bind_eq_some_iff.mp q
    obtain ⟨ns, q2, rfl⟩ := Option.map_eq_some_iff.mp q
    obtain ⟨x, F, rfl, rt⟩ := r.one_inv
    obtain ⟨a, vs, rfl, ha, hL⟩ := lstD_ok sub rt q1
    have e := intsOf_ok ha q2
    subst e
    refine ⟨a, ns, rfl, hL, fun ns' p hp hs hf => ?_⟩
    have e2 : ns' = srtI ns := srt_one (hp.trans (srtI_perm ns).symm) hs (srtI_sorted ns)
    subst e2
    exact giveL sub (ints_dp (K := K) (srtI ns)) k p hf
  · cases q
/-- str(n) -/
def fStrI : List Tr → Option Tr
  | [.imm (.int i)] => if i.natAbs.log2 < 1920 then some (.imm (.str (toString i))) else none
  | _ => none
theorem c_str : CallT K (fun xs H Q => ∃ i, xs = [.int i] ∧ i.natAbs.log2 < 1920 ∧ Q (.str (toString i)) H) fStrI := fun ts w q Hi H xs sub r Q k => by
  unfold fStrI at q
  split at q
  · split at q
    · rename_i hl
      cases q
      obtain ⟨x, F, rfl, rt⟩ := r.one_inv
      obtain ⟨rfl, _⟩ := rt.int_inv
      exact ⟨_, rfl, hl, give sub (.str _) k⟩
    · cases q
  · cases q
end
end FL

/-! FL, part Q: what is walked. -/
namespace FL
open PySem PySem.Spec PyProof.Rows L2

/-! ### enumerate(v) of what begins with one new iterator -/
theorem meets_enum1 {v : Value} {o : Obj} {T : Heap → Prop} (B : Begins v o T) : Meets (Builtin.«enumerate.__new__» ⟨[.type "enumerate", v], []⟩) (fun _ R s => T s.heap ∧
      R (.ok (.ret (.ref (s.heap.push o).objs.size))) { s with heap := (s.heap.push o).push { cls := .type "enumerate", data := .fields #[.none, .bool false, .ref s.heap.objs.size, rawInt 0, .none, .none] } }) :=
  .of_wp fun prog w A R s h => by
    obtain ⟨hp, g, d, tk, os⟩ := s
    obtain ⟨h1, h⟩ := h
    have hsub := sub_enumerate
    have q1 : ∀ {A' : Around} {E : Value → Shared → Prop} {Q : Value → Shared → Prop}, Q (.ref hp.objs.size) ⟨hp.push o, g, d, tk, os⟩ → wpAny (model prog w) A' (pyIter v) Q E ⟨hp, g, d, tk, os⟩ :=
      fun q => B.iter prog w _ _ ⟨hp, g, d, tk, os⟩ _ h1 q
    wp_walk using q1
    refine wpAny_stack_any fun st => wpAny_pure ?_
    split
    · rename_i c _ _ _ _ _
      cases (c == Value.type "enumerate") <;> (wp_walk using q1; exact ⟨_, rfl, h⟩)
    · wp_walk using q1
      exact ⟨_, rfl, h⟩
section
variable {prog : Program} {w : World} {A : Around} {E : Value → Shared → Prop} {s : Shared}
theorem call_enum1 {v : Value} {o : Obj} {T : Heap → Prop} {Q : Value → Shared → Prop} (B : Begins v o T) (h1 : T s.heap)
    (h : ∀ h', IsEnum h' (s.heap.objs.size + 1) s.heap.objs.size 0 .none → h'.get? s.heap.objs.size = some o → (∀ b ob, s.heap.get? b = some ob → h'.get? b = some ob) → Q (.ref (s.heap.objs.size + 1)) { s with heap := h' }) :
    wpAny (model prog w) A (call (.type "enumerate") [v]) Q E s := by
  refine callType_new F.called_enumerate (by decide) (F.typeCall_enumerate_1 _) (F.newCall_enumerate_1 _) (fun obj => F.args_object_init_2 obj _) F.entry_enumerate_new (meets_enum1 B) ⟨h1, ?_⟩
  have hz : (s.heap.push o).objs.size = s.heap.objs.size + 1 := Heap.size_push ..
  have he := Heap.get?_push_size (s.heap.push o) (o := { cls := .type "enumerate", data := .fields #[.none, .bool false, .ref s.heap.objs.size, rawInt 0, .none, .none] }) rfl
  rw [hz] at he ⊢
  exact ⟨⟨_, he, rfl⟩, h _ he (Heap.get?_push_of_some _ (Heap.get?_push_size _ B.free)) fun b ob x => Heap.get?_push_of_some _ (Heap.get?_push_of_some _ x)⟩
end
/-- the tuple at a, each item in a new pair -/
def IteT (K : PySem.W.Frag) (a : Addr) : It :=
  ⟨fun i H => ∃ (xs : List V) (x : V), SqT K H a xs ∧ xs[i]? = some x, fun i H v H' => ∃ T x, v = .ref T ∧ H T = none ∧ H' = upd H T (.tup [.int (i : Nat), x]) ∧ ∀ xs, SqT K H a xs → xs[i]? = some x, fun i H => ∃ xs : List V, SqT K H a xs ∧ xs.length ≤ i⟩
theorem turn_enumT {P : Program} {w : World} {K : PySem.W.Frag} {elts : List Expr} {kk : Nat} {tpos : Pos} (a e it : Addr) :
    Turn P w K (.Tuple elts kk tpos) (IteT K a) [e, it] e (fun i h => (∃ old, IsEnum h e it ((i : Nat) : Int) old) ∧ h.IsTupleIter it a i ∧ e ≠ it ∧ a ≠ it ∧ e ≠ a) where
  mem := by simp
  obj := fun i h st b hb => by
    obtain ⟨⟨old, he⟩, ⟨o, ho, hc, hd⟩, _⟩ := st
    rcases (by simpa using hb : b = e ∨ b = it) with z | z
    · rw [z]; exact ⟨_, he, fun v q => nomatch q⟩
    · rw [z]; exact ⟨o, ho, fun v q => by rw [hd] at q; cases q⟩
  keep := fun i h h' st k => let ⟨⟨old, he⟩, hi, rest⟩ := st; ⟨⟨old, k e (by simp) _ he⟩, hi.at fun o q => k it (by simp) o q, rest⟩
  item := by
    intro X hP hw hK hc i pins s σ H E I hf st hg
    subst hP hw hK
    obtain ⟨⟨old, he⟩, hit, hne, hat, hae⟩ := st
    obtain ⟨xs, x, hq, hx⟩ := hg
    obtain ⟨its, rv, p, hz⟩ := I.tuple hq
    obtain ⟨u, hu, ru⟩ := rv.get hx
    have hel : e < s.heap.objs.size := Heap.lt_size he
    have hil : it < s.heap.objs.size := by obtain ⟨_, q, _⟩ := hit; exact Heap.lt_size q
    have hlt : i < its.toArray.size := by
      rw [List.size_toArray]
      exact (List.getElem?_eq_some_iff.mp hu).1
    have D := Draws.tuple (prog := X.prog) (w := X.w) (A := X.A.in1) (I.ok.hd hc) it a hat its.toArray
    refine wpAny_pyNext_enum_itemD D he ⟨hit, p⟩ hlt hne (by simp [hne, hae]) fun x' h' tk hP ho st' hT hsz hk => ?_
    have ex : x' = u := by
      have hP' : its.toArray[i]? = some x' := hP
      have : its[i]? = some x' := by simpa using hP'
      rw [hu] at this
      exact (Option.some.inj this).symm
    subst ex
    refine ⟨_, rfl, wpAny_letOwnedTupleGo_enum (s := { s with heap := h', toks := tk + 1 }) ho fun h'' he' sb => ?_⟩
    have hT2 : h''.get? s.heap.objs.size = some { cls := .type "tuple", data := .seq #[.int i tk, x'] } := (sb.2 _ (Nat.ne_of_gt hel)).trans hT
    have new : ObjOk X.prog X.w (upd H s.heap.objs.size (.tup [.int (i : Nat), x])) h'' s.heap.objs.size (.tup [.int (i : Nat), x]) :=
      ⟨by show 2 ≤ sizeLine; decide, [.int i tk, x'], .cons ⟨_, rfl⟩ (.cons ru .nil), ⟨_, hT2, rfl, _, rfl⟩⟩
    have I1 : Inv X pins σ (upd H s.heap.objs.size (.tup [.int (i : Nat), x])) { s with heap := h'', toks := tk + 1 } :=
      I.turnedNew (ch := [e, it]) (fun b ob hb q => (sb.2 b (fun z => hb (by simp [z]))).trans (hk b ob (fun z => hb (by simp [z])) (fun z => hb (by simp [z])) q)) hf (Nat.le_refl _) new
    refine ⟨.ref s.heap.objs.size, _, I1, rfl, ⟨_, x, rfl, I.hok.fresh (Nat.le_refl _), rfl, fun ys hy => by rw [I.tuple_inj hy hq]; exact hx⟩, ⟨⟨x', ?_⟩, st'.1.at fun o q => (sb.2 it (Ne.symm hne)).trans q, hne, hat, hae⟩, fun b hb => ?_⟩
    · rw [show ((i + 1 : Nat) : Int) = (i : Int) + 1 by omega]
      exact he'
    · have hb' : b < s.heap.objs.size := by
        rcases (by simpa using hb : b = e ∨ b = it) with z | z
        · rw [z]; exact hel
        · rw [z]; exact hil
      rw [upd_ne (Nat.ne_of_lt hb')]
      exact (hf b hb).1
  done := by
    intro X hP hw hK hc i pins s σ H E I hf st hg
    subst hP hw hK
    obtain ⟨⟨old, he⟩, hit, hne, hat, hae⟩ := st
    obtain ⟨xs, hq, hx⟩ := hg
    obtain ⟨its, rv, p, hz⟩ := I.tuple hq
    obtain ⟨f0, f1, f2, f3, f4, f5⟩ := hf it (by simp)
    have hl := rv.length
    have D := Draws.tuple (prog := X.prog) (w := X.w) (A := X.A.in1) (I.ok.hd hc) it a hat its.toArray
    -- the walk may be told for any place at the end or beyond
    have hit' : its.toArray[i]? = none := by simp; omega
    unfold pyNext
    have hT : s.TypeIs (.ref e) "enumerate" := ⟨_, he, rfl⟩
    refine wpAny_bind (wpAny_attempt (wpAny_callSpecial?_slot (name := Str.ofString "__next__") hT PySem.F.slot_enumerate_next (wpAny_call_entry PySem.F.slot_enumerate_next hT PySem.F.entry_enumerate_next ?_ (PySem.F.args_enumerate_next_1 _))))
    show wpAny _ _ (field (.ref e) 2 >>= _) _ _ _
    refine wpAny_bind (wpAny_field he rfl (x := .ref it) rfl ?_)
    refine wpAny_bind (wpAny_nextOf_tuple_end (I.ok.hd hc) hit (show s.heap.IsTuple a its.toArray from p) hit' fun h' y eb hy => ?_)
    obtain ⟨o, ho, hcl⟩ := hy
    exact wpAny_bind (wpAny_isInstance (T := "StopIteration") (b := true) ⟨o, ho, hcl⟩ isSubtype_stop (wpAny_pure ⟨rfl, I.turned (t' := s.toks) (fun b ob hb q => eb b ob hb q) f0 f1 f3 f4 f5⟩))
  self := fun A i s Q E st h => let ⟨⟨_, he⟩, _⟩ := st; wpAny_pyIter_enum he h
/-- enumerate of a list or a tuple -/
def iEnumA (K : PySem.W.Frag) (ta : TA) : TI := fun σ H R => ta σ H fun vs H1 => (∃ a xs, vs = [.ref a] ∧ SqL K H1 a xs ∧ R (Ite K a) H1) ∨ ∃ a xs, vs = [.ref a] ∧ SqT K H1 a xs ∧ R (IteT K a) H1
theorem pi_enumA {X : Cx} {e : Expr} {ta : TA} {p pos tpos : Pos} {elts : List Expr} {kk : Nat} (hg : Gl X "enumerate") (hm : X.mg "enumerate" = none) (ha : PA X [e] ta) (hs : starEach [e] X.env = [(false, eval e X.env)] := by rfl) :
    PI X (.Tuple elts kk tpos) (.Call (.Name "enumerate" p) [e] [] pos) (iEnumA X.K ta) := by
  refine ⟨fun pins s σ H R I h => ?_⟩
  refine Call_ (ld_blt I hg hm boot_enumerate (PyProof.Rows.callWith_type1 (thn (ha.run pos pins s σ H _ I h) fun us s1 ⟨vs, H1, I1, r1, q1⟩ => ?_) hs rfl))
  have fin : ∀ (h' : Heap), (∀ b ob, s1.heap.get? b = some ob → h'.get? b = some ob) → ∀ b ∈ [s1.heap.objs.size + 1, s1.heap.objs.size], FpOk X pins H1 b := fun h' hk b hb => by
    have hle : s1.heap.objs.size ≤ b := by
      rcases (by simpa using hb : b = s1.heap.objs.size + 1 ∨ b = s1.heap.objs.size) with z | z
      · rw [z]; exact Nat.le_add_right _ _
      · rw [z]; exact Nat.le_refl _
    exact I1.fpOk hle (I1.hok.fresh hle)
  rcases q1 with ⟨a, xs, ex, hq, q⟩ | ⟨a, xs, ex, hq, q⟩
  · subst ex
    cases r1 with
    | cons r rr =>
      cases rr
      cases r
      obtain ⟨its, rv, p', hz⟩ := I1.list hq
      refine call_enum1 (begins_list a its.toArray) p'.isList fun h' he hit hk => wpAny_pyIter_enum he ?_
      exact ⟨s1.heap.objs.size + 1, [s1.heap.objs.size + 1, s1.heap.objs.size], _, _, H1, rfl, I1.kept (t' := s1.toks) hk, turn_enum a (s1.heap.objs.size + 1) s1.heap.objs.size, ⟨⟨.none, he⟩, ⟨_, hit, rfl, rfl⟩, Nat.succ_ne_self _⟩, fin h' hk, q⟩
  · subst ex
    cases r1 with
    | cons r rr =>
      cases rr
      cases r
      obtain ⟨its, rv, p', hz⟩ := I1.tuple hq
      have hat : a < s1.heap.objs.size := by obtain ⟨o, ho, _⟩ := p'; exact Heap.lt_size ho
      refine call_enum1 (begins_tuple a its.toArray) (show s1.heap.IsTuple a its.toArray from p') fun h' he hit hk => wpAny_pyIter_enum he ?_
      refine ⟨s1.heap.objs.size + 1, [s1.heap.objs.size + 1, s1.heap.objs.size], _, _, H1, rfl, I1.kept (t' := s1.toks) hk, turn_enumT a (s1.heap.objs.size + 1) s1.heap.objs.size, ⟨⟨.none, he⟩, ⟨_, hit, rfl, rfl⟩, Nat.succ_ne_self _, Nat.ne_of_lt hat, ?_⟩, fin h' hk, q⟩
      exact Nat.ne_of_gt (Nat.lt_succ_of_lt hat)
/-- a list, a tuple, a text -/
def iSeq (K : PySem.W.Frag) (tl : TE) : TI := fun σ H R => tl σ H fun x H1 => (∃ a, x = .ref a ∧ (∃ xs, SqL K H1 a xs) ∧ R (Itl K a) H1) ∨ (∃ a, x = .ref a ∧ (∃ xs, SqT K H1 a xs) ∧ R (Itt K a) H1) ∨ ∃ z, x = .str z ∧ R (Its z) H1
theorem pi_seq {X : Cx} {tg l : Expr} {tl : TE} (hl : PE X l tl) : PI X tg l (iSeq X.K tl) := by
  refine ⟨fun pins s σ H R I h => thn (hl.run pins s σ H _ I h) fun v s1 ⟨x, H1, I1, r1, q1⟩ => ?_⟩
  rcases q1 with ⟨a, e, ⟨xs, hq⟩, q⟩ | ⟨a, e, ⟨xs, hq⟩, q⟩ | ⟨z, e, q⟩
  · subst e
    cases r1
    obtain ⟨its, _, p, _⟩ := I1.list hq
    exact wpAny_pyIter_list p.isList (pi_one (tk := s1.toks) I1 _ (turn_list a _) ⟨_, Heap.get?_push_size _ rfl, rfl, rfl⟩ q)
  · subst e
    cases r1
    obtain ⟨its, _, p, _⟩ := I1.tuple hq
    exact wpAny_pyIter_tuple (show s1.heap.IsTuple a its.toArray from p) (pi_one (tk := s1.toks) I1 _ (turn_tuple a _) ⟨_, Heap.get?_push_size _ rfl, rfl, rfl⟩ q)
  · subst e
    obtain ⟨t, rfl⟩ := r1
    cases ha : z.cps.all (· < 128)
    · exact wpAny_pyIter_wide ha (pi_one (tk := s1.toks) I1 _ (turn_str _ z t "str_iterator" (.inr rfl)) ⟨_, Heap.get?_push_size _ rfl, rfl, rfl⟩ q)
    · exact wpAny_pyIter_ascii ha (pi_one (tk := s1.toks) I1 _ (turn_str _ z t "str_ascii_iterator" (.inl rfl)) ⟨_, Heap.get?_push_size _ rfl, rfl, rfl⟩ q)

section
variable {K : PySem.W.Frag} {A : List V} {Hi H Hi1 H1 Hi' H' : Hp} {σ : L2.St} {E : En} {Fs : Nat → List Addr} {te : TE} {m : MF}
/-! ### their readings -/
theorem itOk_l {a : Addr} {vs : List V} {ds : List PyData} (hs : SqL K Hi1 a vs) (ha : DpAll K Hi1 vs ds) : ItOk K (Itl K a) Hi1 ds :=
  ⟨fun Hi H e s i hi => ⟨vs, s.seq (e.seq hs), by rw [dpAll_len ha]; exact hi⟩, fun Hi H e s i hi => ⟨vs, vs[i]'(by rw [dpAll_len ha]; exact hi), s.seq (e.seq hs), List.getElem?_eq_getElem _⟩,
    fun Hi H e s i d x H' hd hy => by
      obtain ⟨rfl, hy⟩ := hy
      obtain ⟨v, e1, hv⟩ := dpAll_at ha hd
      have e2 := hy vs (s.seq (e.seq hs))
      rw [e1] at e2
      cases e2
      exact ⟨Hi, Grow.refl s, dpMono e _ _ hv⟩⟩
theorem itOk_t {a : Addr} {vs : List V} {ds : List PyData} (hs : SqT K Hi1 a vs) (ha : DpAll K Hi1 vs ds) : ItOk K (Itt K a) Hi1 ds :=
  ⟨fun Hi H e s i hi => ⟨vs, seqT s (seqT e hs), by rw [dpAll_len ha]; exact hi⟩, fun Hi H e s i hi => ⟨vs, vs[i]'(by rw [dpAll_len ha]; exact hi), seqT s (seqT e hs), List.getElem?_eq_getElem _⟩,
    fun Hi H e s i d x H' hd hy => by
      obtain ⟨rfl, hy⟩ := hy
      obtain ⟨v, e1, hv⟩ := dpAll_at ha hd
      have e2 := hy vs (seqT s (seqT e hs))
      rw [e1] at e2
      cases e2
      exact ⟨Hi, Grow.refl s, dpMono e _ _ hv⟩⟩
def charsD (z : Str) : List PyData := z.cps.toList.map fun c => .str ⟨#[c]⟩
theorem itOk_s {z : Str} : ItOk K (Its z) Hi1 (charsD z) :=
  ⟨fun Hi H e s i hi => by
      have : (charsD z).length = z.cps.size := by simp [charsD]
      show z.cps.size ≤ i
      omega, fun Hi H e s i hi => by
      have : (charsD z).length = z.cps.size := by simp [charsD]
      show i < z.cps.size
      omega,
    fun Hi H e s i d x H' hd hy => by
      obtain ⟨rfl, c, e1, rfl⟩ := hy
      unfold charsD at hd
      rw [List.getElem?_map, Array.getElem?_toList, e1] at hd
      cases hd
      exact ⟨Hi, Grow.refl s, .str _⟩⟩
def rangeD (lo : Int) (n : Nat) : List PyData := (List.range n).map fun i => PyData.int (lo + (i : Nat))
theorem itOk_r {lo : Int} {n : Nat} : ItOk K (Itr lo n) Hi1 (rangeD lo n) :=
  ⟨fun Hi H e s i hi => by
      have : (rangeD lo n).length = n := by simp [rangeD]
      show n ≤ i
      omega, fun Hi H e s i hi => by
      have : (rangeD lo n).length = n := by simp [rangeD]
      show i < n
      omega,
    fun Hi H e s i d x H' hd hy => by
      obtain ⟨rfl, rfl⟩ := hy
      unfold rangeD at hd
      rw [List.getElem?_map] at hd
      obtain ⟨j, e1, rfl⟩ := Option.map_eq_some_iff.mp hd
      obtain ⟨_, e2⟩ := List.getElem?_eq_some_iff.mp e1
      rw [List.getElem_range] at e2
      subst e2
      exact ⟨Hi, Grow.refl s, .int _⟩⟩
def enumD (ds : List PyData) : List PyData := ds.zipIdx.map fun p => .tuple [.int (p.2 : Nat), p.1]
theorem enumD_at {ds : List PyData} {i : Nat} {d : PyData} (h : (enumD ds)[i]? = some d) : ∃ e, ds[i]? = some e ∧ d = .tuple [.int (i : Nat), e] := by
  unfold enumD at h
  rw [List.getElem?_map, List.getElem?_zipIdx] at h
  obtain ⟨p, e1, rfl⟩ := Option.map_eq_some_iff.mp h
  obtain ⟨e, e2, rfl⟩ := Option.map_eq_some_iff.mp e1
  refine ⟨e, e2, ?_⟩
  simp
theorem enum_pair {H2 : Hp} {T : Addr} {i : Nat} {v : V} {e : PyData} (sub : Same Hi H) (hv : Dp K Hi v e) (hT : H T = none) : ∃ Hi', Grow Hi H Hi' (upd H T (.tup [.int (i : Nat), v])) [] ∧ Dp K Hi' (.ref T) (.tuple [.int (i : Nat), e]) := by
  have g : Grow Hi H (upd Hi T (.tup [.int (i : Nat), v])) (upd H T (.tup [.int (i : Nat), v])) [] := Grow.imm sub hT
  exact ⟨_, g, .tup (SqT.of upd_same) (.cons (.int _) (.cons (dpMono g.ex _ _ hv) .nil))⟩
theorem itOk_el {a : Addr} {vs : List V} {ds : List PyData} (hs : SqL K Hi1 a vs) (ha : DpAll K Hi1 vs ds) : ItOk K (Ite K a) Hi1 (enumD ds) := by
  have hl : (enumD ds).length = ds.length := by simp [enumD]
  refine ⟨fun Hi H e s i hi => ⟨vs, s.seq (e.seq hs), by rw [dpAll_len ha]; omega⟩, fun Hi H e s i hi => ⟨vs, vs[i]'(by rw [dpAll_len ha]; omega), s.seq (e.seq hs), List.getElem?_eq_getElem _⟩, fun Hi H e s i d x H' hd hy => ?_⟩
  obtain ⟨T, y, rfl, hT, rfl, hy⟩ := hy
  obtain ⟨d', e1, rfl⟩ := enumD_at hd
  obtain ⟨v, e2, hv⟩ := dpAll_at ha e1
  have e3 := hy vs (s.seq (e.seq hs))
  rw [e2] at e3
  cases e3
  exact enum_pair (H2 := H) s (dpMono e _ _ hv) hT
theorem itOk_et {a : Addr} {vs : List V} {ds : List PyData} (hs : SqT K Hi1 a vs) (ha : DpAll K Hi1 vs ds) : ItOk K (IteT K a) Hi1 (enumD ds) := by
  have hl : (enumD ds).length = ds.length := by simp [enumD]
  refine ⟨fun Hi H e s i hi => ⟨vs, seqT s (seqT e hs), by rw [dpAll_len ha]; omega⟩, fun Hi H e s i hi => ⟨vs, vs[i]'(by rw [dpAll_len ha]; omega), seqT s (seqT e hs), List.getElem?_eq_getElem _⟩, fun Hi H e s i d x H' hd hy => ?_⟩
  obtain ⟨T, y, rfl, hT, rfl, hy⟩ := hy
  obtain ⟨d', e1, rfl⟩ := enumD_at hd
  obtain ⟨v, e2, hv⟩ := dpAll_at ha e1
  have e3 := hy vs (seqT s (seqT e hs))
  rw [e2] at e3
  cases e3
  exact enum_pair (H2 := H) s (dpMono e _ _ hv) hT
/-- range(n), range(a, b) -/
def rngOk (j : Int) : Bool := decide (-(2 ^ 62) ≤ j) && decide (j < 2 ^ 62)
theorem rngOk_ok {j : Int} (h : rngOk j = true) : -(2 ^ 62) ≤ j ∧ j < 2 ^ 62 := by
  unfold rngOk at h
  rw [Bool.and_eq_true, decide_eq_true_eq, decide_eq_true_eq] at h
  exact h
def mRng1 (ms : MA) : MI := fun E => (ms E).bind fun p => (views p.2 p.1).bind fun ts => match ts with
  | [.imm (.int j)] => if rngOk j = true then some (rangeD 0 j.toNat, p.2) else none
  | _ => none
theorem ir_rng1 {ta : TA} {ms : MA} (hs : AR K ta ms) : IR K (iRng1 ta) (mRng1 ms) := fun E ds E' q A σ Hi H Fs h R k => by
  unfold mRng1 at q
  obtain ⟨⟨os, E1⟩, q1, q⟩ := Option.bind_eq_some_iff.mp q
  obtain ⟨ts, q2, q⟩ := Option.bind_eq_some_iff.mp q
  split at q
  · rename_i j
    split at q
    · rename_i hb
      cases q
      refine hs E os E1 q1 A σ Hi H Fs h _ fun vs Hi1 H1 Fs1 G r h1 d s => ?_
      obtain ⟨x, F, rfl, rt⟩ := (h1.views r q2).one_inv
      obtain ⟨rfl, _⟩ := rt.int_inv
      obtain ⟨b1, b2⟩ := rngOk_ok hb
      exact ⟨j, rfl, b1, b2, k _ Hi1 H1 Fs1 itOk_r h1 (s.weak fun _ z => .inl z)⟩
    · cases q
  · cases q
def mRng2 (ms : MA) : MI := fun E => (ms E).bind fun p => (views p.2 p.1).bind fun ts => match ts with
  | [.imm (.int i), .imm (.int j)] => if rngOk i = true ∧ rngOk j = true then some (rangeD i (j - i).toNat, p.2) else none
  | _ => none
theorem ir_rng2 {ta : TA} {ms : MA} (hs : AR K ta ms) : IR K (iRng2 ta) (mRng2 ms) := fun E ds E' q A σ Hi H Fs h R k => by
  unfold mRng2 at q
  obtain ⟨⟨os, E1⟩, q1, q⟩ := Option.bind_eq_some_iff.mp q
  obtain ⟨ts, q2, q⟩ := Option.bind_eq_some_iff.mp q
  split at q
  · rename_i i j
    split at q
    · rename_i hb
      cases q
      refine hs E os E1 q1 A σ Hi H Fs h _ fun vs Hi1 H1 Fs1 G r h1 d s => ?_
      obtain ⟨x, y, F, F', rfl, rt, ru⟩ := (h1.views r q2).two_inv
      obtain ⟨rfl, _⟩ := rt.int_inv
      obtain ⟨rfl, _⟩ := ru.int_inv
      obtain ⟨b1, b2⟩ := rngOk_ok hb.1
      obtain ⟨b3, b4⟩ := rngOk_ok hb.2
      exact ⟨i, j, rfl, ⟨b1, b2, b3, b4⟩, k _ Hi1 H1 Fs1 itOk_r h1 (s.weak fun _ z => .inl z)⟩
    · cases q
  · cases q
/-- what is walked stands still -/
def itemsD : PyData → Option (List PyData)
  | .tuple ds => some ds
  | .list ds => some ds
  | .str z => some (charsD z)
  | _ => none
def mSeqI (m : MF) : MI := fun E => (m E).bind fun p => p.1.toD.bind fun d => (itemsD d).bind fun ds => some (ds, p.2)
theorem ir_seq (hm : FR K te m) : IR K (iSeq K te) (mSeqI m) := fun E ds E' q A σ Hi H Fs h R k => by
  unfold mSeqI at q
  obtain ⟨⟨t, E1⟩, q1, q⟩ := Option.bind_eq_some_iff.mp q
  obtain ⟨d, q2, q⟩ := Option.bind_eq_some_iff.mp q
  obtain ⟨ds', q3, q⟩ := Option.bind_eq_some_iff.mp q
  cases q
  refine hm E t E1 q1 A σ Hi H Fs h _ fun v Hi1 H1 Fs1 G r h1 dd s => ?_
  have og : ∀ a ∈ G, Hi1 a = none := fun a ha => (r.ownG a ha).1
  have hd : Dp K (fzH Hi1 H1 G) v d := r.froz (fz_same og) _ _ _ d (fun a ha => fz_in ha) q2
  have h2 := h1.fz og dd
  have st : Step Hi H (InE Fs) (fzH Hi1 H1 G) H1 (InE Fs1) := s.trans (fz_step og)
  unfold itemsD at q3
  split at q3
  · cases q3
    cases hd with
    | tup hs ha => exact .inr (.inl ⟨_, rfl, ⟨_, seqT h2.sub hs⟩, k _ _ H1 Fs1 (itOk_t hs ha) h2 st⟩)
  · cases q3
    cases hd with
    | lst hs ha => exact .inl ⟨_, rfl, ⟨_, h2.sub.seq hs⟩, k _ _ H1 Fs1 (itOk_l hs ha) h2 st⟩
  · cases q3
    cases hd with
    | str z => exact .inr (.inr ⟨_, rfl, k _ _ H1 Fs1 itOk_s h2 st⟩)
  · cases q3
def mEnum (m : MF) : MI := fun E => (m E).bind fun p => p.1.toD.bind fun d => match d with
  | .tuple ds => some (enumD ds, p.2)
  | .list ds => some (enumD ds, p.2)
  | _ => none
theorem ir_enum (hm : FR K te m) : IR K (iEnumA K (tCons te tNil)) (mEnum m) := fun E ds E' q A σ Hi H Fs h R k => by
  unfold mEnum at q
  obtain ⟨⟨t, E1⟩, q1, q⟩ := Option.bind_eq_some_iff.mp q
  obtain ⟨d, q2, q⟩ := Option.bind_eq_some_iff.mp q
  refine hm E t E1 q1 A σ Hi H Fs h _ fun v Hi1 H1 Fs1 G r h1 dd s => ?_
  have og : ∀ a ∈ G, Hi1 a = none := fun a ha => (r.ownG a ha).1
  have hd : Dp K (fzH Hi1 H1 G) v d := r.froz (fz_same og) _ _ _ d (fun a ha => fz_in ha) q2
  have h2 := h1.fz og dd
  have st : Step Hi H (InE Fs) (fzH Hi1 H1 G) H1 (InE Fs1) := s.trans (fz_step og)
  split at q
  · cases q
    cases hd with
    | tup hs ha => exact .inr ⟨_, _, rfl, seqT h2.sub hs, k _ _ H1 Fs1 (itOk_et hs ha) h2 st⟩
  · cases q
    cases hd with
    | lst hs ha => exact .inl ⟨_, _, rfl, h2.sub.seq hs, k _ _ H1 Fs1 (itOk_el hs ha) h2 st⟩
  · cases q
end
end FL

/-! FL, part R: repr, join, split, list(range), isinstance, dicts. -/
namespace FL
open PySem PySem.Spec PyProof.Rows L2

/-! ### repr of any datum, where nothing is being shown -/
def rRepr (K : PySem.W.Frag) : List V → Hp → VK → Prop := fun xs H Q => ∃ x d, xs = [x] ∧ Dp K H x d ∧ d.showable = true ∧ d.shown.length ≤ sizeLine ∧ d.depth ≤ 60 ∧ d.hasDict = false ∧ Q (.str d.shown) H
theorem call_reprA {X : Cx} (hg : X.A.guards = some []) (hu : X.A.units + 64 < cLine) : CallR X (.builtin "repr") (rRepr X.K) := by
  intro pins s σ H xs us Q I r h
  obtain ⟨x, d, rfl, hd, h1, h2, h3, h4, q⟩ := h
  obtain ⟨u, rfl, rx⟩ := vals1 r
  obtain ⟨as, rd⟩ := Dp.reads I d x u hd rx
  cases rd with
  | none =>
    simp only [PyData.shown] at q
    exact PySem.P.repr_of_none ⟨.str _, H, I.tok _, ⟨_, rfl⟩, q⟩
  | bool b =>
    simp only [PyData.shown] at q
    exact PySem.P.repr_of_bool ⟨.str _, H, I.tok _, ⟨_, rfl⟩, q⟩
  | int i t =>
    simp only [PyData.shown] at q
    exact PySem.P.repr_of_int (by simpa [PyData.showable] using h1) ⟨.str _, H, I.tok _, ⟨_, rfl⟩, q⟩
  | str z t =>
    simp only [PyData.shown] at q h2
    exact PySem.P.repr_of_str ⟨.str _, H, I.tok _, ⟨_, rfl⟩, q⟩ h2
  | list a b c e =>
    exact repr_of_reads' (.list a b c e) h1 (fun z => by rw [h4] at z; cases z) hg (by omega) (fun _ _ z => z) (fun h' u tk hk => ⟨.str _, H, I.kept hk, ⟨_, rfl⟩, q⟩) h2
  | tuple a b c e =>
    exact repr_of_reads' (.tuple a b c e) h1 (fun z => by rw [h4] at z; cases z) hg (by omega) (fun _ _ z => z) (fun h' u tk hk => ⟨.str _, H, I.kept hk, ⟨_, rfl⟩, q⟩) h2
  | dict a b c e f => cases hd

section
variable {K : PySem.W.Frag} {A : List V} {Hi H Hi1 H1 Hi' H' : Hp} {σ : L2.St} {E : En} {Fs : Nat → List Addr} {te td ty tx : TE} {m : MF} {ma md : MR}
def fRepr : List Tr → Option Tr
  | [t] => t.toD.bind fun d => if d.showable = true ∧ d.shown.length ≤ 16777216 ∧ d.depth ≤ 60 ∧ d.hasDict = false then some (.imm (.str d.shown)) else none
  | _ => none
theorem c_repr : CallT K (rRepr K) fRepr := fun ts w q Hi H xs sub r Q k => by
  unfold fRepr at q
  split at q
  · obtain ⟨d, q1, q⟩ := Option.bind_eq_some_iff.mp q
    split at q
    · rename_i hc
      cases q
      obtain ⟨x, F, rfl, rt⟩ := r.one_inv
      exact ⟨x, d, rfl, looks sub rt q1, hc.1, by rw [sizeLine_eq]; exact hc.2.1, hc.2.2.1, hc.2.2.2, give sub (.str _) k⟩
    · cases q
  · cases q
/-! ### texts -/
def strsOf : List PyData → Option (List Str)
  | [] => some []
  | .str i :: ds => (strsOf ds).map (i :: ·)
  | _ :: _ => none
theorem strsOf_ok : ∀ {ds : List PyData} {vs : List V} {ns : List Str}, DpAll K H vs ds → strsOf ds = some ns → vs = ns.map V.str
  | [], _, _, h, q => by
    cases h
    cases q
    rfl
  | .str i :: ds, _, _, h, q => by
    obtain ⟨ns, q1, rfl⟩ := Option.map_eq_some_iff.mp q
    cases h with
    | cons h1 h2 =>
      cases h1
      rw [strsOf_ok h2 q1]
      rfl
  | .none :: _, _, _, _, q => by cases q
  | .bool _ :: _, _, _, _, q => by cases q
  | .int _ :: _, _, _, _, q => by cases q
  | .list _ :: _, _, _, _, q => by cases q
  | .tuple _ :: _, _, _, _, q => by cases q
  | .dict _ :: _, _, _, _, q => by cases q
theorem strsOf_map (ns : List Str) : strsOf (ns.map PyData.str) = some ns := by
  induction ns with
  | nil => rfl
  | cons n ns ih => rw [List.map_cons, strsOf, ih]; rfl
theorem strs_dp : ∀ ns : List Str, DpAll K H (ns.map V.str) (ns.map PyData.str)
  | [] => .nil
  | n :: ns => .cons (.str n) (strs_dp ns)
def rJoinA (K : PySem.W.Frag) : V → List V → Hp → VK → Prop := fun x xs H Q => ∃ a p, ∃ ys : List Str, x = .str a ∧ xs = [.ref p] ∧ (SqL K H p (ys.map V.str) ∨ SqT K H p (ys.map V.str)) ∧
    (ys.map (·.length)).sum + ys.length * a.length ≤ 16777216 ∧ Q (.str (Txt.join a ys)) H
theorem mt_joinA {X : Cx} : MtR X "str.join" (rJoinA X.K) := mt_join
def fJoin : Tr → List Tr → Option Tr
  | .imm (.str a), [t] => (seqOf t).bind fun p => (strsOf p.2).bind fun ys => if (ys.map (·.length)).sum + ys.length * a.length ≤ 16777216 then some (.imm (.str (Txt.join a ys))) else none
  | _, _ => none
theorem m_join : MetT K (rJoinA K) fJoin := fun t ts w q Hi H x xs F sub rt r Q k => by
  unfold fJoin at q
  split at q
  · rename_i a t
    obtain ⟨⟨b, ds⟩, q1, q⟩ := Option.bind_eq_some_iff.mp q
    obtain ⟨ys, q2, q⟩ := Option.bind_eq_some_iff.mp q
    split at q
    · rename_i hl
      cases q
      obtain ⟨rfl, _⟩ := rt.str_inv
      obtain ⟨y, F, rfl, ru⟩ := r.one_inv
      obtain ⟨p, vs, rfl, ha, hT, hL⟩ := seq_ok sub ru q1
      have e := strsOf_ok ha q2
      subst e
      refine ⟨a, p, ys, rfl, rfl, ?_, hl, give sub (.str _) k⟩
      cases b with
      | true => exact .inr (hT rfl)
      | false => exact .inl (hL rfl)
    · cases q
  · cases q
def rSplitA : V → List V → Hp → VK → Prop := fun x xs H Q => ∃ a b, x = .str a ∧ xs = [.str b] ∧ (b.length == 0) = false ∧ a.length + 2 ≤ sizeLine ∧ rNewStrs (Txt.split a b) H Q
theorem mt_splitA {X : Cx} : MtR X "str.split" rSplitA := mt_split
def fSplit : Tr → List Tr → Option Tr
  | .imm (.str a), [.imm (.str b)] => if (b.length == 0) = false ∧ a.length + 2 ≤ 16777216 then some (.lst (((Txt.split a b).map PyData.str).map Tr.imm)) else none
  | _, _ => none
theorem m_split : MetT K rSplitA fSplit := fun t ts w q Hi H x xs F sub rt r Q k => by
  unfold fSplit at q
  split at q
  · rename_i a b
    split at q
    · rename_i hl
      cases q
      obtain ⟨rfl, _⟩ := rt.str_inv
      obtain ⟨y, F, rfl, ru⟩ := r.one_inv
      obtain ⟨rfl, _⟩ := ru.str_inv
      exact ⟨a, b, rfl, rfl, hl.1, by rw [sizeLine_eq]; exact hl.2, giveL sub (strs_dp (K := K) _) k⟩
    · cases q
  · cases q
/-! ### list(range(..)), tuple(range(..)) -/
def rgM1 (m : MF) : En → Option (Int × Int × En) := fun E => (m E).bind fun p => (iOf p.1).bind fun n => some (0, n, p.2)
def mLstRg (f : En → Option (Int × Int × En)) : MF := fun E => (f E).bind fun p => if rngOk p.1 = true ∧ rngOk p.2.1 = true ∧ (p.2.1 - p.1).toNat ≤ 2 ^ 24 then some (.lst ((rangeD p.1 (p.2.1 - p.1).toNat).map Tr.imm), p.2.2) else none
def mTupRg (f : En → Option (Int × Int × En)) : MF := fun E => (f E).bind fun p => if rngOk p.1 = true ∧ rngOk p.2.1 = true ∧ (p.2.1 - p.1).toNat ≤ 2 ^ 24 then some (.imm (.tuple (rangeD p.1 (p.2.1 - p.1).toNat)), p.2.2) else none
theorem range_dp (lo : Int) (n : Nat) : DpAll K H ((List.range n).map fun i => V.int (lo + (i : Nat))) (rangeD lo n) := by
  unfold rangeD
  generalize List.range n = l
  induction l with
  | nil => exact .nil
  | cons i l ih => exact .cons (.int _) ih
theorem fr_lstRg1 (h : FR K te m) : FR K (tLstRg (tRg1 te)) (mLstRg (rgM1 m)) := fun E w E' q A σ Hi H Fs hE Q k => by
  unfold mLstRg rgM1 at q
  obtain ⟨⟨a, b, E1⟩, q1, q⟩ := Option.bind_eq_some_iff.mp q
  obtain ⟨⟨t, E2⟩, q2, q1⟩ := Option.bind_eq_some_iff.mp q1
  obtain ⟨n, q3, q1⟩ := Option.bind_eq_some_iff.mp q1
  cases q1
  dsimp only at q
  split at q
  · rename_i hb
    cases q
    have e := iOf_inv q3
    subst e
    refine h E _ _ q2 A σ Hi H Fs hE _ fun v Hi1 H1 Fs1 G r h1 d s => ?_
    refine ⟨_, r.int_inv.1, ⟨(rngOk_ok hb.1).1, (rngOk_ok hb.1).2, (rngOk_ok hb.2.1).1, (rngOk_ok hb.2.1).2, hb.2.2⟩, giveL (K := K) h1.sub (range_dp _ _) fun v Hi2 H2 W rr g => k v Hi2 H2 Fs1 W rr (h1.grow g) (h1.fresh g) (s.seq (g.step _))⟩
  · cases q
theorem fr_tupRg1 (h : FR K te m) : FR K (tTupRg (tRg1 te)) (mTupRg (rgM1 m)) := fun E w E' q A σ Hi H Fs hE Q k => by
  unfold mTupRg rgM1 at q
  obtain ⟨⟨a, b, E1⟩, q1, q⟩ := Option.bind_eq_some_iff.mp q
  obtain ⟨⟨t, E2⟩, q2, q1⟩ := Option.bind_eq_some_iff.mp q1
  obtain ⟨n, q3, q1⟩ := Option.bind_eq_some_iff.mp q1
  cases q1
  dsimp only at q
  split at q
  · rename_i hb
    cases q
    have e := iOf_inv q3
    subst e
    refine h E _ _ q2 A σ Hi H Fs hE _ fun v Hi1 H1 Fs1 G r h1 d s => ?_
    refine ⟨_, r.int_inv.1, ⟨(rngOk_ok hb.1).1, (rngOk_ok hb.1).2, (rngOk_ok hb.2.1).1, (rngOk_ok hb.2.1).2, hb.2.2⟩, giveT (K := K) h1.sub (range_dp _ _) fun v Hi2 H2 W rr g => k v Hi2 H2 Fs1 W rr (h1.grow g) (h1.fresh g) (s.seq (g.step _))⟩
  · cases q
/-! ### isinstance(x, T), T a built-in class by its name -/
def tyName : Tr → Option String
  | .imm .none => some "NoneType"
  | .imm (.bool _) => some "bool"
  | .imm (.int _) => some "int"
  | .imm (.str _) => some "str"
  | .imm (.list _) => some "list"
  | .imm (.tuple _) => some "tuple"
  | .imm (.dict _) => none
  | .lst _ => some "list"
  | .dic _ => some "dict"
  | .tpl _ => none
theorem ty_ok {x : V} {t : Tr} {F : List Addr} {T : String} (sub : Same Hi H) (r : RepT K Hi H x t F) (q : tyName t = some T) : TyX K H x (.type T) := by
  cases r with
  | imm h =>
    cases h with
    | non => cases q; exact .base .non
    | bl b => cases q; exact .base (.bl b)
    | int i => cases q; exact .base (.int i)
    | str z => cases q; exact .base (.str z)
    | lst hs ha =>
      cases q
      rcases hs with (h | ⟨o, h⟩) | ⟨o, its, n, h1, h2, _⟩
      · exact .base (.lst (sub _ _ h))
      · exact .base (.frz (sub _ _ h))
      · exact .kList h1 h2
    | tup hs ha =>
      cases q
      rcases hs with (h | ⟨o, h⟩) | ⟨o, its, n, h1, h2, _⟩
      · exact .base (.tup (sub _ _ h))
      · exact .fTuple (sub _ _ h)
      · exact .kTuple h1 h2
  | lst h1 _ _ _ => cases q; exact .base (.lst h1)
  | dic h1 _ _ => cases q; exact .base (.dK h1)
  | tpl _ _ _ => cases q
def tIsi (K : PySem.W.Frag) (T : String) (te : TE) : TE := tCB (rIsi K) (tCons te (tCons (tC (.ty T)) tNil))
def mIsi (T : String) (ma : MR) : MF := fun E => (ma E).bind fun p => (view p.2 p.1).bind fun t => (tyName t).bind fun S => (kitB S T).bind fun b => some (.imm (.bool b), p.2)
theorem fr_isi {T : String} (hT : (∃ u, ClsV (.ty T) u ∧ u = .type T) := by exact ⟨_, .ty _, rfl⟩) (h : ER K te ma) : FR K (tCB (rIsi K) (tCons te (tCons (tC (.ty T)) tNil))) (mIsi T ma) := fun E w E' q A σ Hi H Fs hE Q k => by
  unfold mIsi at q
  obtain ⟨⟨o, E1⟩, q1, q⟩ := Option.bind_eq_some_iff.mp q
  obtain ⟨t, q2, q⟩ := Option.bind_eq_some_iff.mp q
  obtain ⟨S, q3, q⟩ := Option.bind_eq_some_iff.mp q
  obtain ⟨b, q4, q⟩ := Option.bind_eq_some_iff.mp q
  cases q
  refine h E o _ q1 A σ Hi H Fs hE _ fun v Hi1 H1 Fs1 G r h1 d s => ?_
  obtain ⟨F, rt⟩ := h1.view r q2
  obtain ⟨u, hu, rfl⟩ := hT
  refine ⟨v, .ty T, .type S, .type T, b, rfl, hu, ty_ok h1.sub rt q3, kit_ty q4, giveB (K := K) h1.sub fun v Hi2 H2 W rr g => k v Hi2 H2 Fs1 W rr (h1.grow g) (h1.fresh g) (s.seq (g.step _))⟩
/-! ### dicts of one's own -/
theorem fr_dnewK : FR K tDNewK (fun E => some (.dic [], E)) := fun E w E' q A σ Hi H Fs h Q k p hp => by
  cases q
  have g : Grow Hi H Hi (upd H p (.dK [])) [p] := Grow.own h.sub hp
  exact k (.ref p) Hi _ Fs [p] (.dic upd_same (free_of h.sub hp) .nil) (h.grow g) (h.fresh g) (g.step _)
/-- what a dict holds at a key -/
theorem dget_ok {a : Addr} {xs : List (Key × V)} {ds : List (Key × PyData)} {y : V} {kd : PyData} {key : Key} (e : H a = some (.dK xs)) (h : KvR K Hi xs ds) (hk : Dp K Hi y kd) (q : keyD kd = some key) : DGet H a y (valV xs key) := by
  have := keyD_kV q hk
  subst this
  exact DGet.k e
def mDIn (my md : MR) : MF := fun E => (my E).bind fun p => (md p.2).bind fun q => (view q.2 p.1).bind fun ty => (view q.2 q.1).bind fun td => match ty, td with
  | .imm kd, .dic ds => (keyD kd).bind fun key => some (.imm (.bool (getD ds key).isSome), q.2)
  | _, _ => none
theorem fr_din {my : MR} (hy : ER K ty my) (hd : ER K td md) : FR K (tDIn ty td) (mDIn my md) := fun E w E' q A σ Hi H Fs h Q k => by
  unfold mDIn at q
  obtain ⟨⟨o1, E1⟩, q1, q⟩ := Option.bind_eq_some_iff.mp q
  obtain ⟨⟨o2, E2⟩, q2, q⟩ := Option.bind_eq_some_iff.mp q
  obtain ⟨t1, q3, q⟩ := Option.bind_eq_some_iff.mp q
  obtain ⟨t2, q4, q⟩ := Option.bind_eq_some_iff.mp q
  split at q
  · rename_i kd ds _
    obtain ⟨key, q5, q⟩ := Option.bind_eq_some_iff.mp q
    cases q
    refine hy E o1 E1 q1 A σ Hi H Fs h _ fun v1 Hi1 H1 Fs1 G1 r1 h1 d1 s1 => ?_
    refine hd E1 o2 _ q2 A σ Hi1 H1 Fs1 h1 _ fun v2 Hi2 H2 Fs2 G2 r2 h2 d2 s2 => ?_
    obtain ⟨F1, rt⟩ := h2.view (s2.keepR r1 d1) q3
    obtain ⟨F2, ru⟩ := h2.view r2 q4
    cases ru with
    | @dic a xs _ e1 e2 e3 =>
      refine ⟨a, _, rfl, dget_ok e1 e3 rt.imm_inv.1 q5, ?_⟩
      have hg := kv_get (k := key) e3
      have e : (valV xs key).isSome = (getD ds key).isSome := by
        split at hg
        · rename_i d ed
          obtain ⟨v, ev, _⟩ := hg
          rw [ev, ed]
          rfl
        · rename_i ed
          rw [hg, ed]
          rfl
      rw [e]
      exact giveB (K := K) h2.sub fun v Hi3 H3 W rr g => k v Hi3 H3 Fs2 W rr (h2.grow g) (h2.fresh g) (s1.seq (s2.seq (g.step _)))
  · cases q
def mDGet (md my : MR) : MF := fun E => (md E).bind fun p => (my p.2).bind fun q => (view q.2 p.1).bind fun td => (view q.2 q.1).bind fun ty => match ty, td with
  | .imm kd, .dic ds => (keyD kd).bind fun key => (getD ds key).bind fun d => some (.imm d, q.2)
  | _, _ => none
theorem fr_dget {my : MR} (hd : ER K td md) (hy : ER K ty my) : FR K (tDGet td ty) (mDGet md my) := fun E w E' q A σ Hi H Fs h Q k => by
  unfold mDGet at q
  obtain ⟨⟨o1, E1⟩, q1, q⟩ := Option.bind_eq_some_iff.mp q
  obtain ⟨⟨o2, E2⟩, q2, q⟩ := Option.bind_eq_some_iff.mp q
  obtain ⟨t1, q3, q⟩ := Option.bind_eq_some_iff.mp q
  obtain ⟨t2, q4, q⟩ := Option.bind_eq_some_iff.mp q
  split at q
  · rename_i kd ds
    obtain ⟨key, q5, q⟩ := Option.bind_eq_some_iff.mp q
    obtain ⟨d, q6, q⟩ := Option.bind_eq_some_iff.mp q
    cases q
    refine hd E o1 E1 q1 A σ Hi H Fs h _ fun v1 Hi1 H1 Fs1 G1 r1 h1 d1 s1 => ?_
    refine hy E1 o2 _ q2 A σ Hi1 H1 Fs1 h1 _ fun v2 Hi2 H2 Fs2 G2 r2 h2 d2 s2 => ?_
    obtain ⟨F1, rt⟩ := h2.view (s2.keepR r1 d1) q3
    obtain ⟨F2, ru⟩ := h2.view r2 q4
    cases rt with
    | @dic a xs _ e1 e2 e3 =>
      have hg := kv_get (k := key) e3
      rw [q6] at hg
      obtain ⟨v, ev, hv⟩ := hg
      refine ⟨a, v, rfl, ?_, give (K := K) h2.sub hv fun v Hi3 H3 W rr g => k v Hi3 H3 Fs2 W rr (h2.grow g) (h2.fresh g) (s1.seq (s2.seq (g.step _)))⟩
      have := dget_ok e1 e3 ru.imm_inv.1 q5
      rw [ev] at this
      exact this
  · cases q
/-- d.get(k, x) of a name's dict -/
def mDGet2 (i : Nat) (my mx : MF) : MF := fun E => (at? E i).bind fun t0 => match t0 with
  | .dic _ => (my E).bind fun p => match p.1 with
    | .imm kd => (mx p.2).bind fun q => match q.1 with
      | .imm x => (at? q.2 i).bind fun td => match td with
        | .dic ds => (keyD kd).bind fun key => some (.imm ((getD ds key).getD x), q.2)
        | _ => none
      | _ => none
    | _ => none
  | _ => none
theorem fr_dget2 {i : Nat} {my mx : MF} (hy : FR K ty my) (hx : FR K tx mx) : FR K (tDGet2 (tVar i) ty tx) (mDGet2 i my mx) := fun E w E' q A σ Hi H Fs h Q k => by
  unfold mDGet2 at q
  obtain ⟨t0, q0, q⟩ := Option.bind_eq_some_iff.mp q
  split at q
  · obtain ⟨⟨t1, E1⟩, q1, q⟩ := Option.bind_eq_some_iff.mp q
    dsimp only at q
    split at q
    · rename_i kd
      obtain ⟨⟨t2, E2⟩, q2, q⟩ := Option.bind_eq_some_iff.mp q
      dsimp only at q
      split at q
      · rename_i x
        obtain ⟨td, q3, q⟩ := Option.bind_eq_some_iff.mp q
        split at q
        · rename_i ds
          obtain ⟨key, q4, q⟩ := Option.bind_eq_some_iff.mp q
          cases q
          obtain ⟨vd, ed, rd⟩ := h.val i _ q0
          generalize Fs i = Fi at rd
          cases rd with
          | @dic a xs0 _ e1 e2 e3 =>
            refine ⟨_, ed, a, rfl, .inl ⟨_, .inl e1⟩, ?_⟩
            refine hy E _ E1 q1 A σ Hi H Fs h _ fun v1 Hi1 H1 Fs1 G1 r1 h1 d1 s1 => ?_
            refine hx E1 _ _ q2 A σ Hi1 H1 Fs1 h1 _ fun v2 Hi2 H2 Fs2 G2 r2 h2 d2 s2 => ?_
            obtain ⟨vd', ed', rd'⟩ := h2.val i _ q3
            rw [ed] at ed'
            cases ed'
            generalize Fs2 i = Fi at rd'
            cases rd' with
            | @dic _ xs _ f1 f2 f3 =>
              have hk := dpMono s2.ex _ _ r1.imm_inv.1
              refine ⟨valV xs key, dget_ok f1 f3 hk q4, ?_⟩
              have hg := kv_get (k := key) f3
              have fin : ∃ v, (valV xs key).getD v2 = v ∧ Dp K Hi2 v ((getD ds key).getD x) := by
                split at hg
                · rename_i d e
                  obtain ⟨v, ev, hv⟩ := hg
                  rw [ev, e]
                  exact ⟨v, rfl, hv⟩
                · rename_i e
                  rw [hg, e]
                  exact ⟨v2, rfl, r2.imm_inv.1⟩
              obtain ⟨v, ev, hv⟩ := fin
              rw [ev]
              have s1' : Step Hi H (InE Fs) Hi1 H1 (InE Fs1) := s1.weak fun _ z => .inl z
              exact give (K := K) h2.sub hv fun v Hi3 H3 W rr g => k v Hi3 H3 Fs2 W rr (h2.grow g) (h2.fresh g) (s1'.trans (s2.seq (g.step _)))
        · cases q
      · cases q
    · cases q
  · cases q
end
end FL

/-! FL, part S: small words for the printed walks. -/
namespace FL
open PySem L2
theorem u1_of {k : Nat} {A : Around} (r : RoomG k A) : A.units + 1 < cLine := by have := r.room.un; omega
theorem u64_of {k : Nat} {A : Around} (r : RoomG k A) : A.units + 64 < cLine := by have := r.room.un; omega
theorem u65_of {k : Nat} {A : Around} (r : RoomG k A) : A.units + 65 < cLine := by have := r.room.un; omega
theorem RoomG.u1 {k : Nat} {A : Around} (r : RoomG k A) : A.units + 1 < cLine := u1_of r
theorem RoomG.u64 {k : Nat} {A : Around} (r : RoomG k A) : A.units + 64 < cLine := u64_of r
theorem RoomG.u65 {k : Nat} {A : Around} (r : RoomG k A) : A.units + 65 < cLine := u65_of r
section
variable {K : PySem.W.Frag}
def mYes : MT := fun E => some (true, E)
theorem tr_yes : TR K tYes mYes := fun E b E' q A σ Hi H Fs h Q k => by
  cases q
  exact k Hi H Fs h (Step.refl _ _ _)
theorem tr_one {t : TT} {m : MT} (h : TR K t m) : TR K t m := h
def fAddI : Tr → Tr → Option Tr := fI0 fun i j => i + j
def fSubI : Tr → Tr → Option Tr := fI0 fun i j => i - j
theorem i_I {g : Int → Int → Int} : IpT K (ipI g) (fI0 g) := fun t u w q Hi H x y F G sub rt ru Q k => by
  unfold fI0 at q
  split at q
  · cases q
    obtain ⟨rfl, _⟩ := rt.int_inv
    obtain ⟨rfl, _⟩ := ru.int_inv
    exact ⟨_, _, rfl, rfl, giveI sub k⟩
  · cases q
theorem i_add : IpT K (ipI fun i j => i + j) fAddI := i_I
theorem i_sub : IpT K (ipI fun i j => i - j) fSubI := i_I
end
end FL

/-! FL, part T: what is told at a def's end goes over to the asker -/
namespace FL
open PySem L2
section
variable {K : PySem.W.Frag} {A : List V} {Hi H : Hp} {σ : L2.St} {E : En} {Fs : Nat → List Addr}
def mMv (i : Nat) : MF := fun E => match E[i]? with
  | some (.val t) => some (t, E.set i .no)
  | _ => none
theorem fr_mv {i : Nat} : FR K (tVar i) (mMv i) := fun E t E' q A σ Hi H Fs h Q k => by
  unfold mMv at q
  split at q
  · rename_i t0 e
    cases q
    obtain ⟨v, e1, r1⟩ := h.val i t (at_val e)
    have hl : i < E.length := (List.getElem?_eq_some_iff.mp e).1
    have hat : ∀ j, at? (E.set i .no) j = if i = j then none else at? E j := fun j => by
      rw [at_set]
      by_cases e : i = j
      · rw [if_pos ⟨e, hl⟩, if_pos e]; rfl
      · rw [if_neg (fun z => e z.1), if_neg e]
    refine ⟨v, e1, k v Hi H (fset Fs i []) (Fs i) r1 ⟨h.sub, by rw [List.length_set, h.len], fun j t z => ?_, fun j t z => ?_, fun j z => ?_, fun j l a hj hk => ?_⟩ (fun a ha hb => ?_) ((Step.refl Hi H (InE Fs)).weak fun x z => ?_)⟩
    · rw [hat] at z
      by_cases e2 : i = j
      · rw [if_pos e2] at z; cases z
      · rw [if_neg e2] at z
        rw [fset_ne (fun z => e2 z.symm)]
        exact h.val j t z
    · by_cases e2 : i = j
      · subst e2
        rw [List.getElem?_set_self hl] at z
        cases z
      · rw [List.getElem?_set_ne e2] at z
        exact h.par j t z
    · rw [hat] at z
      by_cases e2 : i = j
      · subst e2; exact fset_same
      · rw [if_neg e2] at z
        rw [fset_ne (fun z => e2 z.symm)]
        exact h.no j z
    · have nf : ∀ j, a ∈ fset Fs i [] j → a ∈ Fs j := fun j z => by
        by_cases e2 : j = i
        · subst e2; rw [fset_same] at z; nomatch z
        · rw [fset_ne e2] at z; exact z
      exact h.dis j l a (nf j hj) (nf l hk)
    · obtain ⟨j, hj⟩ := hb
      by_cases e2 : j = i
      · subst e2; rw [fset_same] at hj; nomatch hj
      · rw [fset_ne e2] at hj
        exact e2 (h.dis j i a hj ha)
    · rcases z with ⟨j, hj⟩ | z
      · by_cases e2 : j = i
        · subst e2; rw [fset_same] at hj; nomatch hj
        · rw [fset_ne e2] at hj; exact ⟨j, hj⟩
      · exact ⟨i, z⟩
  · cases q
end
end FL

/-! FL, part U: an int within lists within a list -/
namespace FL
open PySem L2
section
variable {K : PySem.W.Frag} {A : List V} {Hi H : Hp} {σ : L2.St} {E : En} {Fs : Nat → List Addr} {te tj ti : TE}
def mPr (f : En → Option Int) : MF := fun E => (f E).bind fun k => some (.imm (.int k), E)
theorem fr_pr {f : En → Option Int} (h : PR K te f) : FR K te (mPr f) := fun E t E' q A σ Hi H Fs hr Q k => by
  obtain ⟨i, q1, q⟩ := Option.bind_eq_some_iff.mp q
  cases q
  exact h E i q1 A σ Hi H Fs hr Q fun Hi' H' g => k _ Hi' H' Fs [] (.imm (.int i)) (hr.grow g) (fun a z => nomatch z) (g.step _)
def iIx2 (i : Nat) (fa fb : En → Option Int) : En → Option Int := fun E => (fa E).bind fun a => (fb E).bind fun b => (at? E i).bind fun t => match t with
  | .lst ts => (ixN ts.length a).bind fun j => (ts[j]?).bind fun row => ixAt row b
  | _ => none
theorem pr_ix2 {i : Nat} {fa fb : En → Option Int} (ha : PR K tj fa) (hb : PR K ti fb) : PR K (tOp (rIx K) (tOp (rIx K) (tVar i) tj) ti) (iIx2 i fa fb) := fun E k q A σ Hi H Fs h Q kk => by
  obtain ⟨a, q1, q⟩ := Option.bind_eq_some_iff.mp q
  obtain ⟨b, q2, q⟩ := Option.bind_eq_some_iff.mp q
  obtain ⟨t, q3, q⟩ := Option.bind_eq_some_iff.mp q
  split at q
  · rename_i ts
    obtain ⟨j, j1, q⟩ := Option.bind_eq_some_iff.mp q
    obtain ⟨row, j2, q5⟩ := Option.bind_eq_some_iff.mp q
    obtain ⟨x, ex, rt⟩ := h.val i _ q3
    refine ⟨x, ex, ha E a q1 A σ Hi H Fs h _ fun Hi1 H1 g1 => ?_⟩
    have h1 := h.grow g1
    have sg1 : Step Hi H (fun _ => False) Hi1 H1 (fun a => False ∨ a ∈ ([] : List Addr)) := g1.step _
    have rt1 := sg1.keep rt fun _ _ z => z
    generalize hFi : Fs i = Fi at rt1
    cases rt1 with
    | @lst p vs _ F1 e1 e2 e3 e4 =>
      obtain ⟨v0, G0, x1, x2, x3, x4⟩ := e3.redo j2
      have hat : atI vs a = some v0 := by
        unfold atI
        rw [e3.length, j1]
        exact x1
      refine .inl ⟨p, vs, a, v0, rfl, rfl, SqL.of e1, hat, ?_⟩
      refine hb E b q2 A σ Hi1 H1 Fs h1 _ fun Hi2 H2 g2 => ?_
      have sg2 : Step Hi1 H1 (fun _ => False) Hi2 H2 (fun a => False ∨ a ∈ ([] : List Addr)) := g2.step _
      have r2 := sg2.keep x2 fun _ _ z => z
      exact ix_imm g2.sub r2 q5 (kk Hi2 H2 (g1.trans g2))
  · cases q
end
end FL

/-! FL, part W: roads never taken; list(range(a, b)); tuples of ints beside one another; is True -/
namespace FL
open PySem L2
section
variable {K : PySem.W.Frag} {A : List V} {Hi H : Hp} {σ : L2.St} {E : En} {Fs : Nat → List Addr} {te ta tb : TE} {ma mb : MF}
theorem ps_nev {X : Cx} {st : Stmt} : PS X st (fun _ _ _ => False) := ⟨fun _ _ _ _ _ _ h => h.elim⟩
def mNever : MS := fun _ => none
theorem sr_never {ts : TS} : SR K ts mNever := fun _ _ q => by cases q
def rgM2 (ma mb : MF) : En → Option (Int × Int × En) := fun E => (ma E).bind fun p => (iOf p.1).bind fun a => (mb p.2).bind fun q => (iOf q.1).bind fun b => some (a, b, q.2)
theorem fr_lstRg2 (ha : FR K ta ma) (hb : FR K tb mb) : FR K (tLstRg (tRg2 ta tb)) (mLstRg (rgM2 ma mb)) := fun E w E' q A σ Hi H Fs hE Q k => by
  unfold mLstRg rgM2 at q
  obtain ⟨⟨a, b, E1⟩, q1, q⟩ := Option.bind_eq_some_iff.mp q
  obtain ⟨⟨t, E2⟩, q2, q1⟩ := Option.bind_eq_some_iff.mp q1
  obtain ⟨n, q3, q1⟩ := Option.bind_eq_some_iff.mp q1
  obtain ⟨⟨u, E3⟩, q4, q1⟩ := Option.bind_eq_some_iff.mp q1
  obtain ⟨m, q5, q1⟩ := Option.bind_eq_some_iff.mp q1
  cases q1
  dsimp only at q
  split at q
  · rename_i hc
    cases q
    have e := iOf_inv q3
    subst e
    have e := iOf_inv q5
    subst e
    refine ha E _ _ q2 A σ Hi H Fs hE _ fun v Hi1 H1 Fs1 G r h1 d s => ?_
    refine hb E2 _ _ q4 A σ Hi1 H1 Fs1 h1 _ fun v2 Hi2 H2 Fs2 G2 r2 h2 d2 s2 => ?_
    refine ⟨_, _, r.int_inv.1, r2.int_inv.1, ⟨(rngOk_ok hc.1).1, (rngOk_ok hc.1).2, (rngOk_ok hc.2.1).1, (rngOk_ok hc.2.1).2, hc.2.2⟩, giveL (K := K) h2.sub (range_dp _ _) fun v Hi3 H3 W rr g => k v Hi3 H3 Fs2 W rr (h2.grow g) (h2.fresh g) (s.seq (s2.seq (g.step _)))⟩
  · cases q
def lexLe (ns ms : List Int) : Bool := Ob.lexAt (fun j => decide (ns.getD j 0 = ms.getD j 0)) (fun j => decide (ns.getD j 0 ≤ ms.getD j 0)) (decide (ns.length ≤ ms.length)) 0 (min ns.length ms.length)
def fLeT : Tr → Tr → Option Tr
  | .imm (.tuple ds), .imm (.tuple es) => (intsOf ds).bind fun ns => (intsOf es).bind fun ms => some (.imm (.bool (lexLe ns ms)))
  | _, _ => none
theorem o_leT : OpT K (rLeT K) fLeT := fun t u w q Hi H x y F G sub rt ru Q k => by
  unfold fLeT at q
  split at q
  · obtain ⟨ns, q1, q⟩ := Option.bind_eq_some_iff.mp q
    obtain ⟨ms, q2, q⟩ := Option.bind_eq_some_iff.mp q
    cases q
    obtain ⟨a, vs, rfl, ha, hT, -⟩ := seq_ok (b := true) sub rt rfl
    obtain ⟨b, us, rfl, hb, hT2, -⟩ := seq_ok (b := true) sub ru rfl
    have e := intsOf_ok ha q1
    subst e
    have e := intsOf_ok hb q2
    subst e
    exact ⟨a, b, ns, ms, rfl, rfl, hT rfl, hT2 rfl, giveB sub k⟩
  · cases q
def fIsB : Tr → Tr → Option Tr
  | .imm (.bool a), .imm (.bool b) => some (.imm (.bool (decide (a = b))))
  | _, _ => none
def fNotB : Tr → Tr → Option Tr
  | .imm (.bool a), .imm (.bool b) => some (.imm (.bool !decide (a = b)))
  | _, _ => none
theorem o_isB : OpT K (fun x y H Q => ∃ a b, x = .bl a ∧ y = .bl b ∧ Q (.bl (decide (a = b))) H) fIsB := fun t u w q Hi H x y F G sub rt ru Q k => by
  unfold fIsB at q
  split at q
  · cases q
    obtain ⟨rfl, _⟩ := rt.bl_inv
    obtain ⟨rfl, _⟩ := ru.bl_inv
    exact ⟨_, _, rfl, rfl, giveB sub k⟩
  · cases q
theorem o_notB : OpT K (fun x y H Q => ∃ a b, x = .bl a ∧ y = .bl b ∧ Q (.bl (!decide (a = b))) H) fNotB := fun t u w q Hi H x y F G sub rt ru Q k => by
  unfold fNotB at q
  split at q
  · cases q
    obtain ⟨rfl, _⟩ := rt.bl_inv
    obtain ⟨rfl, _⟩ := ru.bl_inv
    exact ⟨_, _, rfl, rfl, giveB sub k⟩
  · cases q
theorem fn_none {P : Program} {w : World} {mg : Str → Option Value} {base : Heap} {CX : CXT} {k : Nat} {f : Addr} {fd : FuncData} {ps : List Str} {n N : Nat} : FnG P w K mg base CX k f fd ps (spM K n (mFn N fun _ => none)) :=
  have no : ∀ vs H Q E, ¬ spM K n (mFn N fun _ => none) vs H Q E := fun vs H Q E h => by
    obtain ⟨ts, r, ts', Hi, Fs, q, _⟩ := h
    cases q
  ⟨fun vs H Q E h => absurd h (no vs H Q E), fun _ _ _ H _ _ vs Q E _ _ _ _ _ h => absurd h (no vs H Q E)⟩
end
end FL

/-! FL, part X: sorted of a list of tuples of d ints each, from 0 on and below B -/
namespace FL
open PySem PySem.Spec PyProof.Rows L2
section
variable {prog : Program} {w : World} {A : Around} {s : Shared}
theorem tups_sortable {d : Nat} {B : Int} {a : Addr} {vs : List Value} (hd : 1 ≤ d) (h0 : 0 < vs.length) (x : TS.TupsOk s.heap d B vs) (r : Value → Int) (hr : ∀ v ∈ vs, ∀ ns, TS.TupInts s.heap v ns → r v = TS.code B ns) (ha : ∀ o, s.heap.get? a = some o → o.cls ≠ .type "tuple") :
    SrtO.SortableO prog w A s a vs fun v u => decide (r v < r u) := by
  intro h' keep
  have kp : ∀ b o, s.heap.get? b = some o → o.cls = .type "tuple" → h'.get? b = some o := fun b o e c => keep b o (fun z => by subst z; exact ha o e c) e
  have x' : TS.TupsOk h' d B vs := x.keeps kp
  obtain ⟨fs, k, hl, hi⟩ := TS.firsts_of hd vs x'
  refine ⟨tuples' true, fun Q E hq => ?_, fun p q hp hq => ?_⟩
  · refine PySem.W.kat_kind (T := Value.type "int") k (by omega) (fun f hf => ?_) rfl ?_
    · obtain ⟨n, t, rfl⟩ := hi f hf
      exact PySem.W.Looks.now
    · have e : (Value.type "int" != Value.type "tuple") = true := by first | decide +kernel | rfl | decide
      rw [e]
      exact hq
  · obtain ⟨ns, tp0, lp, bp⟩ := x _ hp
    obtain ⟨ms, tq0, lq, bq⟩ := x _ hq
    have ep := hr _ hp _ tp0
    have eq2 := hr _ hq _ tq0
    have tp := tp0.keeps kp
    have tq := tq0.keeps kp
    show wpAny (model prog w) A (keyLt' (tuples' true) p.1 q.1) (fun b s' => s' = _ ∧ b = decide (r p.1 < r q.1)) (fun _ _ => False) _
    rw [ep, eq2]
    obtain ⟨a1, xs, e1, ⟨o, ho, hc, n, hdt⟩, i⟩ := tp
    obtain ⟨a2, ys, e2, ⟨o', ho', hc', n', hdt'⟩, i'⟩ := tq
    rw [e1, e2]
    refine PySem.W.kat_lt ho hdt ho' hdt' ?_
    have sz : decide (xs.size < ys.size) = false := by
      have l1 := i.length
      have l2 := i'.length
      rw [Array.length_toList] at l1 l2
      exact decide_eq_false (by omega)
    rw [sz]
    exact TS.lex_ints 0 i i' (by omega) bp bq ⟨rfl, rfl⟩
end
/-- sorted(xs), xs a list of tuples of d ints in [0, B) (R says which): a new list, rising by the code -/
def rSortedTs (K : PySem.W.Frag) : List V → Hp → VK → Prop := fun vs H Q => ∃ (a : Addr) (xs : List V) (nss : List (List Int)) (R : V → List Int → Prop) (d : Nat) (B : Int), vs = [V.ref a] ∧ SqL K H a xs ∧ 1 ≤ d ∧ Paired R xs nss ∧ (∀ x ns, R x ns → ∃ t, x = V.ref t ∧ SqT K H t (ns.map V.int)) ∧ (∀ ns ∈ nss, ns.length = d ∧ TS.Bd B ns) ∧
  ∀ ys mss p, Paired R ys mss → mss.Perm nss → mss.Pairwise (fun x y => TS.code B x ≤ TS.code B y) → H p = none → Q (.ref p) (upd H p (.lst ys))
theorem cr_sortedTs {X : Cx} : CallR X (.builtin "sorted") (rSortedTs X.K) := by
  intro pins s σ H vs us Q I r h
  obtain ⟨a, xs, nss, R, d, B, rfl, hs, hd, hp, hx, hB, q⟩ := h
  obtain ⟨its, rv, hl, hz⟩ := I.list hs
  obtain ⟨u, rfl, ru⟩ := vals1 r
  obtain rfl : u = Value.ref a := ru
  have key : ∀ (xs : List V) (its : List Value) (nss : List (List Int)), Vals xs its → Paired R xs nss → xs = its.map backV ∧ nss = its.map (TS.intsOf s.heap) ∧ ∀ v ∈ its, (∃ t, v = Value.ref t) ∧ R (backV v) (TS.intsOf s.heap v) ∧ TS.TupInts s.heap v (TS.intsOf s.heap v) := by
    intro xs
    induction xs with
    | nil =>
      intro its nss hv hp
      cases hv
      cases hp
      exact ⟨rfl, rfl, fun v hv => nomatch hv⟩
    | cons x xs ih =>
      intro its nss hv hp
      cases hv with
      | cons r0 r1 =>
        cases hp with
        | cons p0 p1 =>
          obtain ⟨t, rfl, ht⟩ := hx _ _ p0
          cases r0
          obtain ⟨e1, e2, e3⟩ := ih _ _ r1 p1
          obtain ⟨its2, r2, p2, _⟩ := I.tuple ht
          rename_i ns _ _
          have ti : TS.TupInts s.heap (Value.ref t) _ := ⟨t, its2.toArray, rfl, p2, by simpa using Vals.ints r2⟩
          have ei := ti.ints
          refine ⟨by rw [List.map_cons, ← e1]; rfl, by rw [List.map_cons, ei, ← e2], fun v hv => ?_⟩
          rcases List.mem_cons.mp hv with rfl | hv
          · rw [ei]
            exact ⟨⟨t, rfl⟩, p0, ti⟩
          · exact e3 v hv
  obtain ⟨e1, e2, e3⟩ := key xs its nss rv hp
  have swo : SrtO.Swo fun v u => decide (TS.code B (TS.intsOf s.heap v) < TS.code B (TS.intsOf s.heap u)) := ⟨fun x y h => by
      rw [decide_eq_true_eq] at h
      rw [decide_eq_false_iff_not]; omega, fun x y z h1 h2 => by
      rw [decide_eq_false_iff_not] at h1 h2 ⊢; omega⟩
  have hBv : ∀ v ∈ its, (TS.intsOf s.heap v).length = d ∧ TS.Bd B (TS.intsOf s.heap v) := fun v hv => hB _ (by rw [e2]; exact List.mem_map.mpr ⟨v, hv, rfl⟩)
  refine SrtO.sorted_ord swo hl.isList (by rw [← rv.length]; exact hz) (fun h2 h₁ b hb kk => ?_) fun out hs1 hb1 => ?_
  · refine tups_sortable (s := { s with heap := h₁ }) hd (by omega) (fun v hv => ⟨_, (e3 v hv).2.2.keeps fun b o e _ => (kk b o e).2, (hBv v hv).1, (hBv v hv).2⟩) (fun v => TS.code B (TS.intsOf s.heap v)) (fun v hv ns t => ?_) fun o e => ?_
    · have t2 := (e3 v hv).2.2.keeps fun b o e _ => (kk b o e).2
      have := t2.ints.symm.trans t.ints
      show TS.code B (TS.intsOf s.heap v) = _
      rw [this]
    · have e' : some o = some _ := e.symm.trans hb
      cases e'
      intro c
      exact absurd (Value.type.inj c) (by decide)
  · have hperm := hb1.perm
    have h3 : ∀ u ∈ out, ∃ a, u = Value.ref a := fun u hu => (e3 u (hperm.mem_iff.mp hu)).1
    obtain ⟨n, hn⟩ := PyProof.Rows.sortedAll_at s.heap its out.toArray
    have kp : ∀ b o, s.heap.get? b = some o → (PyProof.Rows.sortedAll s.heap its out.toArray).get? b = some o := fun b o e => PyProof.Rows.sortedAll_old e
    have hpair : ∀ l : List Value, (∀ v ∈ l, v ∈ its) → Paired R (l.map backV) (l.map (TS.intsOf s.heap)) := fun l => by
      induction l with
      | nil => exact fun _ => .nil
      | cons v l ih => exact fun h => .cons (e3 v (h v List.mem_cons_self)).2.1 (ih fun v hv => h v (List.mem_cons_of_mem _ hv))
    refine ⟨.ref (s.heap.objs.size + 1), upd H (s.heap.objs.size + 1) (.lst (out.map backV)), I.laid (t' := s.toks) kp (Nat.le_succ _) ⟨?_, out, n, vals_back h3, hn⟩, rfl, q _ (out.map (TS.intsOf s.heap)) _ (hpair out fun v hv => hperm.mem_iff.mp hv) (by rw [e2]; exact hperm.map _) (List.pairwise_map.mpr (hs1.imp fun {x y} h => ?_)) (I.hok.fresh (Nat.le_succ _))⟩
    · rw [List.length_map, hperm.length_eq, ← rv.length]
      exact hz
    · have h' : decide (TS.code B (TS.intsOf s.heap y) < TS.code B (TS.intsOf s.heap x)) = false := h
      rw [decide_eq_false_iff_not] at h'
      omega
end FL
namespace FL
open PySem L2
section
variable {K : PySem.W.Frag} {Hi H : Hp}
theorem code_inj {B : Int} : ∀ {ns ms : List Int}, ns.length = ms.length → TS.Bd B ns → TS.Bd B ms → TS.code B ns = TS.code B ms → ns = ms
  | [], [], _, _, _, _ => rfl
  | [], _ :: _, h, _, _, _ => by cases h
  | _ :: _, [], h, _, _, _ => by cases h
  | d :: r, e :: q, h, hr, hq, hc => by
    have hl : r.length = q.length := by simpa using h
    rcases Int.lt_trichotomy d e with hd | rfl | hd
    · have := TS.code_lt hl hr.tail hq.tail hd
      omega
    · have : TS.code B r = TS.code B q := by
        unfold TS.code at hc
        rw [hl] at hc
        generalize d * B ^ q.length = z at hc
        omega
      rw [code_inj hl hr.tail hq.tail this]
    · have := TS.code_lt hl.symm hq.tail hr.tail hd
      omega
def insT (x : List Int) : List (List Int) → List (List Int)
  | [] => [x]
  | y :: r => if TS.code 64 x ≤ TS.code 64 y then x :: y :: r else y :: insT x r
def srtT : List (List Int) → List (List Int)
  | [] => []
  | x :: r => insT x (srtT r)
theorem insT_perm (x : List Int) : ∀ r : List (List Int), (insT x r).Perm (x :: r)
  | [] => List.Perm.refl _
  | y :: r => by
    unfold insT
    split
    · exact List.Perm.refl _
    · exact ((insT_perm x r).cons y).trans (List.Perm.swap x y r)
theorem srtT_perm : ∀ r : List (List Int), (srtT r).Perm r
  | [] => List.Perm.refl _
  | x :: r => (insT_perm x (srtT r)).trans ((srtT_perm r).cons x)
theorem insT_sorted (x : List Int) : ∀ r : List (List Int), r.Pairwise (fun x y => TS.code 64 x ≤ TS.code 64 y) → (insT x r).Pairwise (fun x y => TS.code 64 x ≤ TS.code 64 y)
  | [], _ => List.pairwise_singleton _ _
  | y :: r, h => by
    unfold insT
    obtain ⟨h1, h2⟩ := List.pairwise_cons.mp h
    split
    · rename_i hxy
      exact List.pairwise_cons.mpr ⟨fun z hz => (List.mem_cons.mp hz).elim (fun e => e ▸ hxy) fun m => Int.le_trans hxy (h1 z m), h⟩
    · rename_i hxy
      refine List.pairwise_cons.mpr ⟨fun z hz => ?_, insT_sorted x r h2⟩
      rcases List.mem_cons.mp ((insT_perm x r).mem_iff.mp hz) with e | m
      · rw [e]; omega
      · exact h1 z m
theorem srtT_sorted : ∀ r : List (List Int), (srtT r).Pairwise (fun x y => TS.code 64 x ≤ TS.code 64 y)
  | [] => List.Pairwise.nil
  | x :: r => insT_sorted x _ (srtT_sorted r)
def tupsOf : List PyData → Option (List (List Int))
  | [] => some []
  | .tuple es :: ds => (intsOf es).bind fun ns => (tupsOf ds).map (ns :: ·)
  | _ :: _ => none
def okT (d : Nat) (nss : List (List Int)) : Bool := decide (1 ≤ d) && nss.all fun ns => decide (ns.length = d) && ns.all fun m => decide (0 ≤ m) && decide (m < 64)
def fSortT : List Tr → Option Tr
  | [t] => (lstD t).bind fun ds => (tupsOf ds).bind fun nss => if okT (nss.headD [0]).length nss = true then some (.lst (((srtT nss).map fun ns => PyData.tuple (ns.map PyData.int)).map Tr.imm)) else none
  | _ => none
def IsTp (K : PySem.W.Frag) (Hi : Hp) (x : V) (ns : List Int) : Prop := ∃ t, x = V.ref t ∧ SqT K Hi t (ns.map V.int)
theorem tupsOf_ok : ∀ {ds : List PyData} {vs : List V} {nss : List (List Int)}, DpAll K Hi vs ds → tupsOf ds = some nss → Paired (IsTp K Hi) vs nss
  | [], _, _, h, q => by
    cases h
    cases q
    exact .nil
  | d :: ds, _, nss, h, q => by
    cases h with
    | cons h0 h1 =>
      unfold tupsOf at q
      split at q
      · rename_i e; cases e
      · rename_i es ds' e
        cases e
        obtain ⟨ns, q1, q⟩ := Option.bind_eq_some_iff.mp q
        obtain ⟨mss, q2, rfl⟩ := Option.map_eq_some_iff.mp q
        cases h0 with
        | tup hs ha =>
          have e := intsOf_ok ha q1
          subst e
          exact .cons ⟨_, rfl, hs⟩ (tupsOf_ok h1 q2)
      · cases q
theorem tups_dp : ∀ {ys : List V} {mss : List (List Int)}, Paired (IsTp K Hi) ys mss → DpAll K Hi ys (mss.map fun ns => PyData.tuple (ns.map PyData.int))
  | _, _, .nil => .nil
  | _, _, .cons h t => by
    obtain ⟨a, rfl, hs⟩ := h
    exact .cons (.tup hs (ints_dp _)) (tups_dp t)
theorem c_sortT : CallT K (rSortedTs K) fSortT := fun ts w q Hi H xs sub r Q k => by
  unfold fSortT at q
  split at q
  · obtain ⟨ds, q1, q⟩ := Option.bind_eq_some_iff.mp q
    obtain ⟨nss, q2, q⟩ := Option.bind_eq_some_iff.mp q
    split at q
    · rename_i hok
      cases q
      unfold okT at hok
      simp only [Bool.and_eq_true, decide_eq_true_eq, List.all_eq_true] at hok
      obtain ⟨x, F, rfl, rt⟩ := r.one_inv
      obtain ⟨a, vs, rfl, ha, hL⟩ := lstD_ok sub rt q1
      have hb : ∀ ns ∈ nss, ns.length = (nss.headD [0]).length ∧ TS.Bd 64 ns := fun ns h => ⟨(hok.2 ns h).1, fun m hm => (hok.2 ns h).2 m hm⟩
      refine ⟨a, vs, nss, IsTp K Hi, (nss.headD [0]).length, 64, rfl, hL, hok.1, tupsOf_ok ha q2, fun x ns ⟨t, e, h⟩ => ⟨t, e, seqT sub h⟩, hb, fun ys mss p hp hm hs hf => ?_⟩
      have e2 : mss = srtT nss := (hm.trans (srtT_perm nss).symm).eq_of_pairwise (fun x y hx hy h1 h2 => by
        have hx' := hb x (hm.mem_iff.mp hx)
        have hy' := hb y ((srtT_perm nss).mem_iff.mp hy)
        exact code_inj (by rw [hx'.1, hy'.1]) hx'.2 hy'.2 (Int.le_antisymm h1 h2)) hs (srtT_sorted nss)
      subst e2
      exact giveL sub (tups_dp hp) k p hf
    · cases q
  · cases q
def rSortedA (K : PySem.W.Frag) : List V → Hp → VK → Prop := fun vs H Q => rSortedI K vs H Q ∨ rSortedTs K vs H Q
theorem cr_sortedA {X : Cx} : CallR X (.builtin "sorted") (rSortedA X.K) := fun pins s σ H vs us Q I r h => h.elim (fun h => cr_sortedI pins s σ H vs us Q I r h) fun h => cr_sortedTs pins s σ H vs us Q I r h
def fSortA (ts : List Tr) : Option Tr := match fSorted ts with
  | some r => some r
  | none => fSortT ts
theorem c_sortA : CallT K (rSortedA K) fSortA := fun ts w q Hi H xs sub r Q k => by
  unfold fSortA at q
  split at q
  · rename_i e
    cases q
    exact .inl (c_sorted ts _ e Hi H xs sub r Q k)
  · exact .inr (c_sortT ts _ q Hi H xs sub r Q k)
end
end FL

/-! FL, part V: the mirrors' own evaluation, one row for each -/
namespace FL
open PySem L2
section
variable {E E' : En} {m m' : MF} {ma mb mc : MR} {mt mu : MT} {ms ms' : MS} {as : MA} {fs : MFs} {t u : Tr} {i j : Nat}
theorem bind_cg {α β : Type} {a a' : Option α} (f : α → Option β) (h : a = a') : a.bind f = a'.bind f := by rw [h]
def putS (t : Tr) (E : En) (i : Nat) : SL → Option En
  | .no => some (E.set i (.val t))
  | .val _ => some (E.set i (.val t))
  | .par _ => none
def fzS (E : En) (i : Nat) : SL → Option (Tr × En)
  | .val (.imm d) => some (.imm d, E)
  | .val (.tpl ds) => some (.imm (.tuple ds), E)
  | .val t => t.toD.bind fun d => some (.imm d, E.set i (.val (.imm d)))
  | .par (.imm d) => some (.imm d, E)
  | _ => none
def fzR (E : En) : Rf → Option (Tr × En)
  | .own t => some (t, E)
  | .slot i => (E[i]?).bind (fzS E i)
theorem v_seq : mSeq ms ms' E = (ms E).bind (mThen ms') := rfl
theorem v_thN : mThen ms (.nx E) = ms E := rfl
theorem v_thR : mThen ms (.rt t E) = some (.rt t E) := rfl
theorem v_thB : mThen ms (.bk E) = some (.bk E) := rfl
theorem v_thC : mThen ms (.ct E) = some (.ct E) := rfl
theorem v_ifS : mIfS mt ms ms' E = (mt E).bind fun p => if p.1 = true then ms p.2 else ms' p.2 := rfl
theorem v_asg {g : Tr → En → Option En} : mAsg m g E = (m E).bind fun p => (g p.1 p.2).bind fun E' => some (.nx E') := rfl
theorem v_ret : mRet m E = (m E).bind fun p => some (.rt p.1 p.2) := rfl
theorem v_retN : mRetN E = some (.rt (.imm .none) E) := rfl
theorem v_drop : mDrop m E = (m E).bind fun p => some (.nx p.2) := rfl
theorem v_nx : mNext E = some (.nx E) := rfl
theorem v_bk : mBreak E = some (.bk E) := rfl
theorem v_ct : mCont E = some (.ct E) := rfl
theorem v_name : mName i t E = (E[i]?).bind (putS t E i) := by
  unfold mName
  cases h : E[i]? with
  | none => rfl
  | some s => cases s <;> rfl
theorem v_pN : putS t E i .no = some (E.set i (.val t)) := rfl
theorem v_pV : putS t E i (.val u) = some (E.set i (.val t)) := rfl
theorem v_var : mVar i E = (at? E i).bind fun _ => some (.slot i, E) := rfl
theorem v_at : at? E i = E[i]?.bind SL.tree := rfl
theorem v_trV : SL.tree (.val t) = some t := rfl
theorem v_trP : SL.tree (.par t) = some t := rfl
theorem v_wV : SL.with (.val u) t = .val t := rfl
theorem v_wP : SL.with (.par u) t = .par t := rfl
theorem v_C {d : PyData} : mC d E = some (.imm d, E) := rfl
theorem v_ER : mER m E = (m E).bind fun p => some (.own p.1, p.2) := rfl
theorem v_Fz : mFz ma E = (ma E).bind fun p => fzR p.2 p.1 := by
  unfold mFz
  cases ma E with
  | none => rfl
  | some p =>
    rcases p with ⟨r, E1⟩
    cases r with
    | own t => rfl
    | slot i =>
      simp only [Option.bind_some, fzR]
      cases E1[i]? with
      | none => rfl
      | some s =>
        cases s with
        | no => rfl
        | val t => cases t <;> rfl
        | par t => cases t <;> rfl
theorem v_fO : fzR E (.own t) = some (t, E) := rfl
theorem v_fS : fzR E (.slot i) = (E[i]?).bind (fzS E i) := rfl
theorem v_fV {d : PyData} : fzS E i (.val (.imm d)) = some (.imm d, E) := rfl
theorem v_fP {d : PyData} : fzS E i (.par (.imm d)) = some (.imm d, E) := rfl
theorem v_fL {ts : List Tr} : fzS E i (.val (.lst ts)) = ((Tr.toDs ts).map PyData.list).bind fun d => some (.imm d, E.set i (.val (.imm d))) := rfl
theorem v_fT {ds : List PyData} : fzS E i (.val (.tpl ds)) = some (.imm (.tuple ds), E) := rfl
theorem v_vS : view E (.slot i) = (at? E i).map Tr.plain := rfl
theorem v_vO : view E (.own t) = some t.plain := rfl
theorem v_rS : viewR E (.slot i) = at? E i := rfl
theorem v_rO : viewR E (.own t) = some t := rfl
theorem v_plI {d : PyData} : Tr.plain (.imm d) = .imm d := rfl
theorem v_plL {ts : List Tr} : Tr.plain (.lst ts) = .lst ts := rfl
theorem v_plD {ds : List (Key × PyData)} : Tr.plain (.dic ds) = .dic ds := rfl
theorem v_plT {ds : List PyData} : Tr.plain (.tpl ds) = .imm (.tuple ds) := rfl
theorem v_vrN : viewsR E [] = some [] := rfl
theorem v_vrC {o : Rf} {os : List Rf} : viewsR E (o :: os) = (viewR E o).bind fun t => (viewsR E os).map (t :: ·) := rfl
theorem v_op {f : Tr → Tr → Option Tr} : mOp f ma mb E = (ma E).bind fun p => (mb p.2).bind fun q => (view q.2 p.1).bind fun t => (view q.2 q.1).bind fun u => (f t u).bind fun w => some (w, q.2) := rfl
theorem v_un {f : Tr → Option Tr} : mUn f ma E = (ma E).bind fun p => (view p.2 p.1).bind fun t => (f t).bind fun w => some (w, p.2) := rfl
theorem v_bOf {b : Bool} : bOf (.imm (.bool b)) = some b := rfl
theorem v_test : mTest m E = (m E).bind fun p => (bOf p.1).bind fun b => some (b, p.2) := rfl
theorem v_and : mAnd mt mu E = (mt E).bind fun p => if p.1 = true then mu p.2 else some (false, p.2) := rfl
theorem v_or : mOr mt mu E = (mt E).bind fun p => if p.1 = true then some (true, p.2) else mu p.2 := rfl
theorem v_not : mNot mt E = (mt E).bind fun p => some (!p.1, p.2) := rfl
theorem v_tru : mTru ma E = (ma E).bind fun p => (view p.2 p.1).bind fun t => (truT t).bind fun b => some (b, p.2) := rfl
theorem v_trB {b : Bool} : truT (.imm (.bool b)) = some b := rfl
theorem v_andV : mAndV m m' E = (m E).bind fun p => (bOf p.1).bind fun b => if b = true then m' p.2 else some (.imm (.bool false), p.2) := rfl
theorem v_orV : mOrV m m' E = (m E).bind fun p => (bOf p.1).bind fun b => if b = true then some (.imm (.bool true), p.2) else m' p.2 := rfl
theorem v_notV : mNotV m E = (m E).bind fun p => (bOf p.1).bind fun b => some (.imm (.bool (!b)), p.2) := rfl
theorem v_if : mIf mt m m' E = (mt E).bind fun p => if p.1 = true then m p.2 else m' p.2 := rfl
theorem v_chain {f f' : Tr → Tr → Option Tr} : mChain f f' ma mb mc E = (ma E).bind fun p => (mb p.2).bind fun q => (view q.2 p.1).bind fun t => (view q.2 q.1).bind fun u => (f t u).bind fun w => (bOf w).bind fun b =>
  if b = true then (mc q.2).bind fun r => (view r.2 q.1).bind fun u' => (view r.2 r.1).bind fun x => (f' u' x).bind fun w' => some (w', r.2) else some (.imm (.bool false), q.2) := rfl
theorem v_arN : arNil E = some ([], E) := rfl
theorem v_arC : arCons ma as E = (ma E).bind fun p => (as p.2).bind fun q => some (p.1 :: q.1, q.2) := rfl
theorem v_faN : faNil E = some ([], E) := rfl
theorem v_faC : faCons m fs E = (m E).bind fun p => (fs p.2).bind fun q => some (p.1 :: q.1, q.2) := rfl
theorem v_tup : mTup fs E = (fs E).bind fun p => (Tr.toDs p.1).bind fun ds => if p.1.length ≤ 16777216 then some (.imm (.tuple ds), p.2) else none := rfl
theorem v_lst : mLst fs E = (fs E).bind fun p => if p.1.length ≤ 16777216 then some (.lst p.1, p.2) else none := rfl
theorem v_tdN : Tr.toDs [] = some [] := by rw [Tr.toDs]
theorem v_tdC {ts : List Tr} : Tr.toDs (t :: ts) = (Tr.toD t).bind fun d => (Tr.toDs ts).map (d :: ·) := by rw [Tr.toDs]
theorem v_tdI {d : PyData} : Tr.toD (.imm d) = some d := by rw [Tr.toD]
theorem v_tdL {ts : List Tr} : Tr.toD (.lst ts) = (Tr.toDs ts).map PyData.list := by rw [Tr.toD]
theorem toDs_imms : ∀ ds : List PyData, Tr.toDs (ds.map Tr.imm) = some ds
  | [] => v_tdN
  | d :: ds => by rw [List.map_cons, v_tdC, v_tdI, toDs_imms ds]; rfl
theorem imms_imms : ∀ ds : List PyData, imms (ds.map Tr.imm) = some ds
  | [] => rfl
  | d :: ds => by rw [List.map_cons, imms, imms_imms ds]; rfl
theorem v_cb {f : List Tr → Option Tr} : mCB f as E = (as E).bind fun p => (views p.2 p.1).bind fun ts => (f ts).bind fun w => some (w, p.2) := rfl
theorem v_vsN : views E [] = some [] := rfl
theorem v_vsC {o : Rf} {os : List Rf} : views E (o :: os) = (view E o).bind fun t => (views E os).map (t :: ·) := rfl
theorem v_mb {T : Option PyData} {f : PyData → PyData} : True := trivial
theorem v_bm {T : String} {f : Tr → List Tr → Option Tr} : mBM T f ma as E = (ma E).bind fun p => (view p.2 p.1).bind fun t0 => if tyB T t0 = true then (as p.2).bind fun q => (view q.2 p.1).bind fun t => (views q.2 q.1).bind fun ts => (f t ts).bind fun w => some (w, q.2) else none := rfl
theorem v_tyS {z : Str} : tyB "str" (.imm (.str z)) = true := rfl
theorem v_tyL {ts : List Tr} : tyB "list" (.lst ts) = true := rfl
theorem v_sl {f : Tr → Option Int → Option Int → Option Tr} {ml mh : MO} : mSl f ma ml mh E = (ma E).bind fun p => (ml p.2).bind fun l => (mh l.2).bind fun u => (view u.2 p.1).bind fun t => (f t l.1 u.1).bind fun w => some (w, u.2) := rfl
theorem v_moN : moNone E = some (none, E) := rfl
theorem v_moS : moSome m E = (m E).bind fun p => (iOf p.1).bind fun i => some (some i, p.2) := rfl
theorem v_iOf {k : Int} : iOf (.imm (.int k)) = some k := rfl
def callD (n : Nat) (f : MFn) (os : List Rf) (E : En) (ts : List Tr) : Option (Tr × En) := if ts.length = n ∧ (os.filterMap (ownSlot E)).Nodup then (f ts).bind fun r => (gives E E os r.2).bind fun E' => some (r.1, E') else none
theorem v_call {n : Nat} {f : MFn} : mCall n f as E = (as E).bind fun p => (viewsR p.2 p.1).bind fun ts => callD n f p.1 p.2 ts := rfl
theorem v_callD {n : Nat} {f : MFn} {os : List Rf} {ts : List Tr} (h : ts.length = n) (k : (os.filterMap (ownSlot E)).Nodup) : callD n f os E ts = (f ts).bind fun r => (gives E E os r.2).bind fun E' => some (r.1, E') := if_pos ⟨h, k⟩
theorem v_osO : ownSlot E (.own t) = none := rfl
theorem v_osS : ownSlot E (.slot i) = (at? E i).bind fun t => if isOwn t = true then some i else none := by
  show (match at? E i with | some t => if isOwn t = true then some i else none | none => none) = _
  cases at? E i <;> rfl
theorem v_isI {d : PyData} : isOwn (.imm d) = false := rfl
theorem v_isL {ts : List Tr} : isOwn (.lst ts) = true := rfl
theorem v_isD {ts : List (Key × PyData)} : isOwn (.dic ts) = true := rfl
theorem v_gN {E0 : En} : gives E0 E [] [] = some E := rfl
theorem v_gO {E0 : En} {os : List Rf} {ts : List Tr} : gives E0 E (.own t :: os) (u :: ts) = gives E0 E os ts := rfl
theorem v_gS {E0 : En} {os : List Rf} {ts : List Tr} : gives E0 E (.slot i :: os) (t :: ts) = (E0[i]?).bind fun s => if (s.tree.map isOwn) = some true then gives E0 (E.set i (s.with t)) os ts else gives E0 E os ts := by
  rw [gives]
  cases E0[i]? <;> rfl
theorem v_fn {n : Nat} {ts : List Tr} : mFn n ms ts = (ms (startE n ts)).bind fun o => match o with
  | .rt r E' => (backs ts E').map fun ts' => (r, ts')
  | .nx E' => (backs ts E').map fun ts' => (.imm .none, ts')
  | _ => none := rfl
theorem v_for {mi : MI} {g : Tr → En → Option En} : mFor mi g ms E = (mi E).bind fun p => forD g ms p.1 p.2 := Eq.trans rfl rfl
theorem v_lc {mi : MI} {g : Tr → En → Option En} {vs : List Nat} : mLc mi g mt m vs E = (mi E).bind fun p => (wipeE p.2 vs).bind fun E1 => (lcD g mt m vs p.1 [] E1).bind fun r => some (.lst r.1, backE p.2 r.2 vs) := rfl
theorem v_yes : mYes E = some (true, E) := rfl
theorem v_sub {f : Tr → Tr → Tr → Option Tr} : mSub i f m u E = (at? E i).bind fun _ => (m E).bind fun p => (p.2[i]?).bind fun s => s.tree.bind fun t => (f t p.1 u).bind fun t' => some (p.2.set i (s.with t')) := rfl
theorem v_sub2 {fa fb : En → Option Int} : mSub2 i fa fb u E = (fa E).bind fun a => (fb E).bind fun b => (E[i]?).bind fun s => s.tree.bind fun t => (sub2 t a b u).bind fun t' => some (E.set i (s.with t')) := rfl
theorem v_iAt : iAt i E = (at? E i).bind iOf := rfl
theorem v_iC {c : Int} : iC c E = some c := rfl
theorem v_aug {f : Tr → Tr → Option Tr} : mAug i f mb E = (at? E i).bind fun _ => (mb E).bind fun q => (view q.2 (.slot i)).bind fun t => (view q.2 q.1).bind fun u => (f t u).bind fun w => (mName i w q.2).bind fun E' => some (.nx E') := rfl
theorem v_par : mPar i j fs E = (fs E).bind fun p => match p.1 with
  | [t, u] => (mName i t p.2).bind fun E1 => (mName j u E1).bind fun E2 => some (.nx E2)
  | _ => none := rfl
theorem v_mut {T : String} {f : Tr → List Tr → Option (Tr × Tr)} : mMut i T f fs E = (at? E i).bind fun t0 => if tyB T t0 = true then (fs E).bind fun p => (p.2[i]?).bind fun s => s.tree.bind fun t => (f t p.1).bind fun r => some (r.1, p.2.set i (s.with r.2)) else none := rfl
def rng1D (ts : List Tr) (E : En) : Option (List PyData × En) := match ts with
  | [.imm (.int j)] => if rngOk j = true then some (rangeD 0 j.toNat, E) else none
  | _ => none
def rng2D (ts : List Tr) (E : En) : Option (List PyData × En) := match ts with
  | [.imm (.int i), .imm (.int j)] => if rngOk i = true ∧ rngOk j = true then some (rangeD i (j - i).toNat, E) else none
  | _ => none
theorem v_rng1 : mRng1 as E = (as E).bind fun p => (views p.2 p.1).bind fun ts => rng1D ts p.2 := Eq.trans rfl rfl
theorem v_rng2 : mRng2 as E = (as E).bind fun p => (views p.2 p.1).bind fun ts => rng2D ts p.2 := Eq.trans rfl rfl
theorem v_rg1 {j : Int} (h : rngOk j = true) : rng1D [.imm (.int j)] E = some (rangeD 0 j.toNat, E) := if_pos h
theorem v_rg2 {i j : Int} (h : rngOk i = true) (k : rngOk j = true) : rng2D [.imm (.int i), .imm (.int j)] E = some (rangeD i (j - i).toNat, E) := if_pos ⟨h, k⟩
theorem v_seqI : mSeqI m E = (m E).bind fun p => p.1.toD.bind fun d => (itemsD d).bind fun ds => some (ds, p.2) := Eq.trans rfl rfl
theorem v_enum : mEnum m E = (m E).bind fun p => p.1.toD.bind fun d => match d with
  | .tuple ds => some (enumD ds, p.2)
  | .list ds => some (enumD ds, p.2)
  | _ => none := rfl
theorem v_isi {T : String} : mIsi T ma E = (ma E).bind fun p => (view p.2 p.1).bind fun t => (tyName t).bind fun S => (kitB S T).bind fun b => some (.imm (.bool b), p.2) := Eq.trans rfl rfl
/-! values -/
variable {a b : Int}
theorem v_addI : fAdd (.imm (.int a)) (.imm (.int b)) = some (.imm (.int (a + b))) := rfl
theorem v_addS {x y : Str} : fAdd (.imm (.str x)) (.imm (.str y)) = if x.length + y.length ≤ 16777216 then some (.imm (.str (x ++ y))) else none := rfl
theorem v_addT {x y : List PyData} : fAdd (.imm (.tuple x)) (.imm (.tuple y)) = if x.length + y.length ≤ 16777216 then some (.imm (.tuple (x ++ y))) else none := rfl
theorem v_addL {x y : List Tr} : fAdd (.lst x) (.lst y) = (imms x).bind fun ds => (imms y).bind fun es => if ds.length + es.length ≤ 16777216 then some (.lst ((ds ++ es).map Tr.imm)) else none := rfl
theorem v_subI : fSub (.imm (.int a)) (.imm (.int b)) = some (.imm (.int (a - b))) := rfl
theorem v_mulI (h : a.natAbs.log2 + b.natAbs.log2 < 1000000) : fMul (.imm (.int a)) (.imm (.int b)) = some (.imm (.int (a * b))) := if_pos h
theorem v_divI (h : cDiv a b = true) : fDiv (.imm (.int a)) (.imm (.int b)) = some (.imm (.int (a / b))) := if_pos h
theorem v_modI (h : 0 < b) : fMod (.imm (.int a)) (.imm (.int b)) = some (.imm (.int (a % b))) := if_pos (decide_eq_true h)
theorem v_powI (h : cPow a b = true) : fPow (.imm (.int a)) (.imm (.int b)) = some (.imm (.int (a ^ b.toNat))) := if_pos h
theorem v_neg : fNeg (.imm (.int a)) = some (.imm (.int (-a))) := rfl
theorem v_lt : fLt (.imm (.int a)) (.imm (.int b)) = some (.imm (.bool (decide (a < b)))) := rfl
theorem v_le : fLe (.imm (.int a)) (.imm (.int b)) = some (.imm (.bool (decide (a ≤ b)))) := rfl
theorem v_gt : fGt (.imm (.int a)) (.imm (.int b)) = some (.imm (.bool (decide (b < a)))) := rfl
theorem v_ge : fGe (.imm (.int a)) (.imm (.int b)) = some (.imm (.bool (decide (b ≤ a)))) := rfl
theorem v_eqI : fEq (.imm (.int a)) (.imm (.int b)) = some (.imm (.bool (decide (a = b)))) := rfl
theorem v_neI : fNe (.imm (.int a)) (.imm (.int b)) = some (.imm (.bool (!decide (a = b)))) := rfl
theorem v_eqS {x y : Str} : fEq (.imm (.str x)) (.imm (.str y)) = some (.imm (.bool (decide (x = y)))) := rfl
theorem v_neS {x y : Str} : fNe (.imm (.str x)) (.imm (.str y)) = some (.imm (.bool (!decide (x = y)))) := rfl
theorem v_ixT {ds : List PyData} {k : Int} : fIx (.imm (.tuple ds)) (.imm (.int k)) = (atI ds k).map Tr.imm := rfl
theorem v_ixD {ds : List PyData} {k : Int} : fIx (.imm (.list ds)) (.imm (.int k)) = (atI ds k).map Tr.imm := rfl
theorem v_ixL {ts : List Tr} {k : Int} : fIx (.lst ts) (.imm (.int k)) = (atI ts k).bind fun t => match t with
    | .imm d => some (.imm d)
    | _ => none := rfl
theorem v_ixS {z : Str} {k : Int} : fIx (.imm (.str z)) (.imm (.int k)) = if z.length ≤ 16777216 then (atI z.cps.toList k).map fun c => .imm (.str ⟨#[c]⟩) else none := rfl
theorem v_len : fLen [t] = (lenT t).bind fun n => some (.imm (.int (n : Int))) := by
  unfold fLen
  cases h : lenT t <;> simp [h]
theorem v_lnT {ds : List PyData} : lenT (.imm (.tuple ds)) = some ds.length := rfl
theorem v_lnD {ds : List PyData} : lenT (.imm (.list ds)) = some ds.length := rfl
theorem v_lnL {ts : List Tr} : lenT (.lst ts) = some ts.length := rfl
theorem v_lnS {z : Str} : lenT (.imm (.str z)) = if z.length ≤ 16777216 then some z.length else none := rfl
theorem v_abs : fAbs [.imm (.int a)] = some (.imm (.int (if a < 0 then -a else a))) := rfl
theorem v_max : fMax2 [.imm (.int a), .imm (.int b)] = some (.imm (.int (if b > a then b else a))) := rfl
theorem v_min : fMin2 [.imm (.int a), .imm (.int b)] = some (.imm (.int (if b < a then b else a))) := rfl
theorem v_int : fInt1 [.imm (.int a)] = some (.imm (.int a)) := rfl
theorem v_intB {c : Bool} : fInt1 [.imm (.bool c)] = some (.imm (.int (if c then 1 else 0))) := rfl
theorem v_tuple : fTuple [t] = (seqOf t).map fun p => .imm (.tuple p.2) := rfl
theorem v_list : fList [t] = (seqOf t).map fun p => .lst (p.2.map Tr.imm) := rfl
theorem v_sqT {ds : List PyData} : seqOf (.imm (.tuple ds)) = some (true, ds) := rfl
theorem v_sqD {ds : List PyData} : seqOf (.imm (.list ds)) = some (false, ds) := rfl
theorem v_sqL {ds : List PyData} : seqOf (.lst (ds.map Tr.imm)) = some (false, ds) := by
  show (imms _).map _ = _
  rw [imms_imms]; rfl
theorem v_itT {ds : List PyData} : itemsD (.tuple ds) = some ds := rfl
theorem v_itL {ds : List PyData} : itemsD (.list ds) = some ds := rfl
theorem v_itS {z : Str} : itemsD (.str z) = some (charsD z) := rfl
theorem v_isN {x : PyData} : fIsN t (.imm .none) = some (.imm (.bool (isN t))) := rfl
theorem v_notN : fNotN t (.imm .none) = some (.imm (.bool !(isN t))) := rfl
theorem v_setL {ts : List Tr} {k : Int} : fSetA (.lst ts) (.imm (.int k)) u = (ixN ts.length k).map fun j => .lst (ts.set j u) := rfl
theorem v_setD {kvs : List (Key × PyData)} {kd d : PyData} : fSetA (.dic kvs) (.imm kd) (.imm d) = (keyD kd).bind fun k => if kvs.length < 16777216 then some (.dic (putD kvs k d)) else none := rfl
theorem v_kS {z : Str} : keyD (.str z) = some (.inr z) := rfl
theorem v_kI {k : Int} : keyD (.int k) = some (.inl k) := rfl
theorem v_mp {α β : Type} {f : α → β} {x : α} : (some x).map f = some (f x) := rfl
theorem v_mpn {α β : Type} {f : α → β} : (none : Option α).map f = none := rfl
def mvS (E : En) (i : Nat) : SL → Option (Tr × En)
  | .val t => some (t, E.set i .no)
  | _ => none
theorem v_mvV {t : Tr} : mvS E i (.val t) = some (t, E.set i .no) := rfl
/-! loops -/
theorem forD_inv {g : Tr → En → Option En} (I : Nat → En → Prop) (ds : List PyData) (h : ∀ i d E, ds[i]? = some d → I i E → ∃ E1 E2, g (.imm d) E = some E1 ∧ (ms E1 = some (.nx E2) ∨ ms E1 = some (.ct E2)) ∧ I (i + 1) E2) :
    ∀ E, I 0 E → ∃ E', forD g ms ds E = some (.nx E') ∧ I ds.length E' := by
  induction ds generalizing I with
  | nil => exact fun E h0 => ⟨E, rfl, h0⟩
  | cons d ds ih =>
    intro E h0
    obtain ⟨E1, E2, e1, e2, h1⟩ := h 0 d E rfl h0
    obtain ⟨E', e3, h2⟩ := ih (fun i => I (i + 1)) (fun i d E e k => h (i + 1) d E (by simpa using e) k) E2 h1
    refine ⟨E', ?_, h2⟩
    rw [forD, e1]
    rcases e2 with e2 | e2 <;> (simp only [Option.bind_some, e2, afterTurn]; exact e3)
theorem lcD_inv {g : Tr → En → Option En} {vs : List Nat} (I : Nat → En → Prop) (R : Nat → PyData → PyData → Prop) (ds : List PyData) (h : ∀ i d E, ds[i]? = some d → I i E → ∃ E1 E2 E3 r, g (.imm d) E = some E1 ∧ m E1 = some (.imm r, E2) ∧ wipeE E2 vs = some E3 ∧ I (i + 1) E3 ∧ R i d r) :
    ∀ (acc : List Tr) E, acc.length + ds.length ≤ 16777216 → I 0 E → ∃ (rs : List PyData) (E' : En), lcD g mYes m vs ds acc E = some (acc ++ rs.map Tr.imm, E') ∧ I ds.length E' ∧ rs.length = ds.length ∧ ∀ i d, ds[i]? = some d → ∃ r, rs[i]? = some r ∧ R i d r := by
  induction ds generalizing I R with
  | nil => exact fun acc E _ h0 => ⟨[], E, by simp [lcD], h0, rfl, fun i d e => by simp at e⟩
  | cons d ds ih =>
    intro acc E hl h0
    simp only [List.length_cons] at hl
    obtain ⟨E1, E2, E3, r, e1, e2, e3, h1, h2⟩ := h 0 d E rfl h0
    obtain ⟨rs, E', e4, h3, h4, h5⟩ := ih (fun i => I (i + 1)) (fun i => R (i + 1)) (fun i d E e k => h (i + 1) d E (by simpa using e) k) (acc ++ [.imm r]) E3 (by simp; omega) h1
    refine ⟨r :: rs, E', ?_, h3, by simp [h4], ?_⟩
    · rw [lcD, e1]
      simp only [Option.bind_some, mYes, if_true, e2]
      rw [if_pos (by omega), e3]
      simp only [Option.bind_some]
      rw [e4]
      simp
    · intro i d' e
      cases i with
      | zero => simp at e; subst e; exact ⟨r, rfl, h2⟩
      | succ i => simpa using h5 i d' (by simpa using e)
end
end FL
namespace FL
open PySem L2
theorem v_at0 {α : Type} {x : α} {xs : List α} : atI (x :: xs) 0 = some x := by
  unfold atI ixN
  rw [if_pos (by omega), if_pos (by simp only [List.length_cons]; omega)]
  rfl
theorem v_at1 {α : Type} {x y : α} {xs : List α} : atI (x :: y :: xs) 1 = some y := by
  unfold atI ixN
  rw [if_pos (by omega), if_pos (by simp only [List.length_cons]; omega)]
  rfl
theorem v_at2 {α : Type} {x y z : α} {xs : List α} : atI (x :: y :: z :: xs) 2 = some z := by
  unfold atI ixN
  rw [if_pos (by omega), if_pos (by simp only [List.length_cons]; omega)]
  rfl
theorem ixN_nat {n i : Nat} (h : i < n) : ixN n (i : Int) = some i := by
  unfold ixN
  rw [if_pos (by omega), if_pos (by omega)]
  rfl
theorem atI_nat {α : Type} {xs : List α} {i : Nat} {x : α} (h : xs[i]? = some x) : atI xs (i : Int) = some x := by
  unfold atI
  rw [ixN_nat (by have := List.getElem?_eq_some_iff.mp h; exact this.1)]
  exact h
theorem atI_ofint {α : Type} {xs : List α} {i : Int} (h0 : 0 ≤ i) (h : i < xs.length) : ∃ x, atI xs i = some x ∧ xs[i.toNat]? = some x := by
  obtain ⟨n, rfl⟩ := Int.eq_ofNat_of_zero_le h0
  have hn : n < xs.length := by omega
  exact ⟨xs[n], atI_nat (List.getElem?_eq_getElem hn), List.getElem?_eq_getElem hn⟩
theorem v_i30 : ixN 3 0 = some 0 := rfl
theorem v_i31 : ixN 3 1 = some 1 := rfl
theorem v_i32 : ixN 3 2 = some 2 := rfl
/-- so many signs at most -/
def Bd (n : Nat) (a : Int) : Prop := a.natAbs < 2 ^ n
instance {n : Nat} {a : Int} : Decidable (Bd n a) := inferInstanceAs (Decidable (a.natAbs < 2 ^ n))
theorem Bd.mul {m n : Nat} {a b : Int} (h : Bd m a) (k : Bd n b) : Bd (m + n) (a * b) := by
  unfold Bd at *
  rw [Int.natAbs_mul, Nat.pow_add]
  exact Nat.mul_lt_mul'' h k
theorem Bd.mono {m n : Nat} {a : Int} (h : Bd m a) (k : m ≤ n) : Bd n a := Nat.lt_of_lt_of_le h (Nat.pow_le_pow_right (by decide) k)
theorem Bd.add {m : Nat} {a b : Int} (h : Bd m a) (k : Bd m b) : Bd (m + 1) (a + b) := by
  unfold Bd at *
  rw [Nat.pow_succ]
  omega
theorem Bd.log {n : Nat} {a : Int} (h : Bd n a) : a.natAbs.log2 ≤ n := by
  rcases Nat.eq_zero_or_pos a.natAbs with h0 | h0
  · rw [h0]; exact Nat.zero_le _
  · exact Nat.le_of_lt ((Nat.log2_lt (by omega)).mpr h)
theorem Bd.fmul {m n : Nat} {a b : Int} (h : Bd m a) (k : Bd n b) (hs : m + n < 1000000) : fMul (.imm (.int a)) (.imm (.int b)) = some (.imm (.int (a * b))) := v_mulI (by have := h.log; have := k.log; omega)
theorem Bd.mod {n : Nat} {a b : Int} (h0 : 0 < b) (h : Bd n b) : Bd n (a % b) := by
  have h1 := Int.emod_nonneg a (b := b) (by omega)
  have h2 := Int.emod_lt_of_pos a h0
  unfold Bd at *
  omega
theorem Bd.of {n : Nat} {a : Int} (h0 : 0 ≤ a) (h : a < ((2 ^ n : Nat) : Int)) : Bd n a := by
  unfold Bd
  omega
theorem cdiv_ok {a b : Int} {n : Nat} (h0 : 0 < b) (h : Bd n b) (hn : n < 9000) : cDiv a b = true := by
  unfold cDiv
  have := h.log
  rw [decide_eq_true h0, decide_eq_true (by omega)]
  rfl
end FL
namespace FL
open PySem L2
def ov : Option Tr → SL
  | none => .no
  | some t => .val t
theorem v_pO {t : Tr} {E : En} {i : Nat} {o : Option Tr} : putS t E i (ov o) = some (E.set i (.val t)) := by cases o <;> rfl
theorem v_tupG {n : Nat} {f : List PyData → En → Option En} {ds : List PyData} {E : En} : mTupG n f (.imm (.tuple ds)) E = if ds.length = n then f ds E else none := rfl
theorem v_gsC {g : Tr → En → Option En} {f : List PyData → En → Option En} {d : PyData} {r : List PyData} {E : En} : gsCons g f (d :: r) E = (g (.imm d) E).bind (f r) := rfl
theorem v_gsN {E : En} : gsNil [] E = some E := rfl
theorem v_slD {ds : List PyData} {lo hi : Option Int} : fSl (.imm (.list ds)) lo hi = some (.lst ((cutL ds lo hi).map Tr.imm)) := rfl
theorem v_slS {z : Str} {lo hi : Option Int} : fSl (.imm (.str z)) lo hi = if z.length ≤ 16777216 then some (.imm (.str (cutS z lo hi))) else none := rfl
theorem cutL_mem {α : Type} {xs : List α} {lo hi : Option Int} {i : Nat} {x : α} (h : (cutL xs lo hi)[i]? = some x) : x ∈ xs := by
  have h1 := List.mem_of_getElem? h
  exact List.mem_of_mem_drop (List.mem_of_mem_take h1)
theorem cutL_len {α : Type} (xs : List α) (lo hi : Option Int) : (cutL xs lo hi).length ≤ xs.length := by
  unfold cutL
  rw [List.length_take, List.length_drop]
  omega
theorem enumD_item {ds : List PyData} {i : Nat} {d : PyData} (h : (enumD ds)[i]? = some d) : ∃ x, ds[i]? = some x ∧ d = .tuple [.int (i : Nat), x] := by
  unfold enumD at h
  rw [List.getElem?_map] at h
  cases hz : ds.zipIdx[i]? with
  | none => rw [hz] at h; cases h
  | some p =>
    rw [hz] at h
    rw [List.getElem?_zipIdx] at hz
    cases hd : ds[i]? with
    | none => rw [hd] at hz; cases hz
    | some x =>
      rw [hd] at hz
      cases hz
      cases h
      exact ⟨x, rfl, by simp⟩
theorem rangeD_at {lo : Int} {n i : Nat} {d : PyData} (h : (rangeD lo n)[i]? = some d) : i < n ∧ d = .int (lo + (i : Nat)) := by
  unfold rangeD at h
  rw [List.getElem?_map] at h
  by_cases hi : i < n
  · rw [List.getElem?_range hi] at h
    cases h
    exact ⟨hi, rfl⟩
  · rw [List.getElem?_eq_none (by simp; omega)] at h
    cases h
theorem rangeD_len {lo : Int} {n : Nat} : (rangeD lo n).length = n := by simp [rangeD]
end FL
namespace FL
theorem v_Mv {E : En} {i : Nat} : mMv i E = (E[i]?).bind (mvS E i) := by
  unfold mMv
  cases E[i]? with
  | none => rfl
  | some s => cases s <;> rfl
end FL
namespace FL
open PySem L2
theorem v_pr {f : En → Option Int} {E : En} : mPr f E = (f E).bind fun k => some (.imm (.int k), E) := rfl
theorem v_mul1 {d : PyData} {k : Int} (h0 : 0 ≤ k) (h1 : k ≤ 1000) : fMul (.lst [.imm d]) (.imm (.int k)) = some (.lst ((List.replicate k.toNat d).map Tr.imm)) := by
  unfold fMul
  show (some [d]).bind _ = _
  rw [Option.bind_some, if_pos ⟨by omega, by omega, by simp; omega⟩]
  congr 3
  generalize k.toNat = n
  induction n with
  | zero => rfl
  | succ n ih => rw [List.replicate_succ, List.replicate_succ, List.flatten_cons, ih]; rfl
theorem lcD_map {g : Tr → En → Option En} {m : MF} {vs : List Nat} {E : En} (f : PyData → Tr) : ∀ (ds : List PyData) (_ : ∀ d ∈ ds, ∃ E1 E2, g (.imm d) E = some E1 ∧ m E1 = some (f d, E2) ∧ wipeE E2 vs = some E) (acc : List Tr), acc.length + ds.length ≤ 16777216 → lcD g mYes m vs ds acc E = some (acc ++ ds.map f, E)
  | [], _, acc, _ => by simp [lcD]
  | d :: ds, h, acc, hl => by
    simp only [List.length_cons] at hl
    obtain ⟨E1, E2, e1, e2, e3⟩ := h d List.mem_cons_self
    rw [lcD, e1]
    simp only [Option.bind_some, mYes, if_true, e2]
    rw [if_pos (by omega), e3]
    simp only [Option.bind_some]
    rw [lcD_map f ds (fun d hd => h d (List.mem_cons_of_mem _ hd)) (acc ++ [f d]) (by simp; omega)]
    simp
/-- a square of numbers, as one's own lists -/
def rowsT (n : Nat) (G : Nat → Nat → Int) : Tr := .lst ((List.range n).map fun i => Tr.lst ((List.range n).map fun j => Tr.imm (.int (G i j))))
/-- a square of numbers, as tuples -/
def tabD (n : Nat) (G : Nat → Nat → Int) : PyData := .tuple ((List.range n).map fun i => PyData.tuple ((List.range n).map fun j => PyData.int (G i j)))
def updG (G : Nat → Nat → Int) (a b : Nat) (k : Int) : Nat → Nat → Int := fun i j => if i = a ∧ j = b then k else G i j
theorem range_get {α : Type} {f : Nat → α} {n i : Nat} (h : i < n) : ((List.range n).map f)[i]? = some (f i) := by
  rw [List.getElem?_map, List.getElem?_range h]; rfl
theorem range_set {α : Type} {f : Nat → α} {n i : Nat} {x : α} : ((List.range n).map f).set i x = (List.range n).map fun j => if j = i then x else f j := by
  refine List.ext_getElem? fun j => ?_
  rw [List.getElem?_set]
  by_cases hj : j < n
  · rw [range_get hj, range_get hj]
    by_cases e : i = j
    · subst e; rw [if_pos rfl, if_pos (by simpa using hj), if_pos rfl]
    · rw [if_neg e, if_neg (fun z => e z.symm)]
  · rw [List.getElem?_eq_none (l := List.map _ _) (by simp; omega), List.getElem?_eq_none (l := List.map _ _) (by simp; omega)]
    split
    · rename_i e; subst e; rw [if_neg (by simpa using hj)]
    · rfl
theorem sub2_rows {n a b : Nat} {G : Nat → Nat → Int} {k : Int} (ha : a < n) (hb : b < n) : sub2 (rowsT n G) (a : Int) (b : Int) (.imm (.int k)) = some (rowsT n (updG G a b k)) := by
  unfold sub2 rowsT
  simp only [List.length_map, List.length_range, ixN_nat ha, Option.bind_some, range_get ha, fSetA, ixN_nat hb, Option.map_some, range_set]
  congr 2
  refine List.map_congr_left fun i hi => ?_
  unfold updG
  by_cases e : i = a
  · rw [if_pos e]
    congr 1
    refine List.map_congr_left fun j hj => ?_
    by_cases e2 : j = b
    · rw [if_pos e2, if_pos ⟨e, e2⟩]
    · rw [if_neg e2, if_neg (fun z => e2 z.2), e]
  · rw [if_neg e]
    congr 1
    refine List.map_congr_left fun j hj => ?_
    rw [if_neg (fun z => e z.1)]
theorem ix2_rows {n a b i : Nat} {G : Nat → Nat → Int} {E : En} {fa fb : En → Option Int} (ha : a < n) (hb : b < n) (e1 : fa E = some (a : Int)) (e2 : fb E = some (b : Int)) (e3 : at? E i = some (rowsT n G)) : iIx2 i fa fb E = some (G a b) := by
  unfold iIx2 rowsT at *
  rw [e1, e2, e3]
  simp only [Option.bind_some, List.length_map, List.length_range, ixN_nat ha, range_get ha, ixAt, atI_nat (range_get hb), iOf]
end FL
namespace FL
theorem rng_nat {n : Nat} (h : n < 1000000) : rngOk (n : Int) = true := by
  simp only [rngOk, Bool.and_eq_true, decide_eq_true_eq]
  omega
theorem v_rgN {n : Nat} (h : n < 1000000) {E : En} : rng1D [.imm (.int (n : Nat))] E = some (rangeD 0 n, E) := by
  rw [v_rg1 (rng_nat h), Int.toNat_natCast]
end FL
namespace FL
open PySem L2
def wipeS (E : En) (v : Nat) : Option SL → Option En
  | some (.par _) => none
  | _ => some (E.set v .no)
def backS (v : Nat) (E : En) : Option SL → En
  | some (.val (.imm d)) => E.set v (.val (.imm d))
  | _ => E
theorem v_wpN {E : En} : wipeE E [] = some E := Eq.trans rfl rfl
theorem v_wpC {E : En} {v : Nat} {vs : List Nat} : wipeE E (v :: vs) = (wipeE E vs).bind fun E' => wipeS E' v E'[v]? := by
  rw [wipeE]
  cases wipeE E vs with
  | none => rfl
  | some E' =>
    simp only [Option.bind_some]
    cases E'[v]? with
    | none => rfl
    | some s => cases s <;> rfl
theorem v_wsN {E : En} {v : Nat} : wipeS E v (some .no) = some (E.set v .no) := rfl
theorem v_wsV {E : En} {v : Nat} {t : Tr} : wipeS E v (some (.val t)) = some (E.set v .no) := rfl
theorem v_wsO {E : En} {v : Nat} {t : Option Tr} : wipeS E v (some (ov t)) = some (E.set v .no) := by cases t <;> rfl
theorem v_bkN {E0 E : En} : backE E0 E [] = E := Eq.trans rfl rfl
theorem v_bkC {E0 E : En} {v : Nat} {vs : List Nat} : backE E0 E (v :: vs) = backS v (backE E0 E vs) E0[v]? := by
  rw [backE]
  cases E0[v]? with
  | none => rfl
  | some s =>
    cases s with
    | no => rfl
    | val t => cases t <;> rfl
    | par t => rfl
theorem v_bsN {E : En} {v : Nat} : backS v E (some .no) = E := rfl
theorem v_bsI {E : En} {v : Nat} {d : PyData} : backS v E (some (.val (.imm d))) = E.set v (.val (.imm d)) := rfl
end FL
namespace FL
theorem v_sf : ((some false : Option Bool) = some true) = False := eq_false (by decide)
end FL

/-! FL, part Y1: a tuple times 0 or 1 -/
namespace FL
open PySem PySem.Spec PyProof.Rows L2
/-- times 1: the tuple itself -/
theorem mul_same (p : Addr) (xs : Array Value) (c : Nat) (od : Option Addr) (ws : Array (Option Value)) (u : Tok) :
    Meets (Builtin.«tuple.__mul__» ⟨[.ref p, .int 1 u], []⟩)
      (fun _ R s => s.heap.get? p = some ⟨.type "tuple", od, .seq xs c, ws⟩ ∧ R (.ok (.ret (.ref p))) s) :=
  .of_wp fun q w B R s hyp => by
    obtain ⟨hp, g, d, tk, os⟩ := s
    obtain ⟨look, hyp⟩ := hyp
    have ix := AutoSeq1.idx_int
    wp_walk using wpAny_loadPart' look
    exact ⟨_, rfl, hyp⟩
/-- times 0: a new empty one -/
theorem mul_none (p : Addr) (xs : Array Value) (c : Nat) (od : Option Addr) (ws : Array (Option Value)) (u : Tok) (ne : xs.isEmpty = false) :
    Meets (Builtin.«tuple.__mul__» ⟨[.ref p, .int 0 u], []⟩)
      (fun _ R s => s.heap.get? p = some ⟨.type "tuple", od, .seq xs c, ws⟩ ∧ R (.ok (.ret (.ref s.heap.objs.size))) { s with heap := s.heap.push { cls := .type "tuple", data := .seq #[] } }) :=
  .of_wp fun q w B R s hyp => by
    obtain ⟨hp, g, d, tk, os⟩ := s
    obtain ⟨look, hyp⟩ := hyp
    have ix := AutoSeq1.idx_int
    have e1 : (xs.isEmpty || (0 : Int) == 1) = false := by rw [ne]; rfl
    wp_walk using wpAny_loadPart' look
    repeat (first
      | (refine wpAny_ite_false (decide_eq_false (by rw [e1]; exact Bool.false_ne_true)) ?_; wp_walk using wpAny_loadPart' look))
    exact ⟨_, rfl, hyp⟩
section
variable {X : Cx} {K : PySem.W.Frag} {Hi H : Hp}
def rRep01 (K : PySem.W.Frag) : R2 := fun x y H Q => ∃ p xs, x = .ref p ∧ SqT K H p xs ∧ (y = .int 1 ∧ Q (.ref p) H ∨ y = .int 0 ∧ xs ≠ [] ∧ ∀ a, H a = none → Q (.ref a) (upd H a (.tup [])))
theorem op_rep01 : OpR X (binaryOp .Mult) (rRep01 X.K) := by
  intro pins s σ H x y v u Q I rx ry h
  obtain ⟨p, xs, rfl, hT, h⟩ := h
  cases rx
  obtain ⟨its, r, ⟨⟨cls, od, data, ws⟩, ho, hc, c, hd⟩, -⟩ := I.tuple hT
  simp only at hc hd
  subst hc hd
  rcases h with ⟨rfl, q⟩ | ⟨rfl, ne, q⟩
  · obtain ⟨t, rfl⟩ := ry
    exact wpAny_binaryOp_repeat_ref (T := "tuple") (U := "int") (by decide) ⟨_, ho, rfl⟩ (fun s' => typeIs_int s' 1 t) noFill_tuple_mul F.fills_int_mul F.slot_int_rmul repeat_tuple F.slot_int_index.lookup
      (call_meets F.slot_int_rmul (typeIs_int s 1 t) F.entry_int_rmul (F.args_int_rmul_2 _ _) (int_rmul_tuple 1 t p its.toArray c od ws)
        ⟨ho, rfl, ⟨_, ho, rfl⟩, call_meets F.slot_tuple_mul ⟨_, ho, rfl⟩ F.entry_tuple_mul (F.args_tuple_mul_2 _ _) (mul_same p its.toArray c od ws t) ⟨ho, .ref p, H, I, rfl, q⟩⟩)
  · obtain ⟨t, rfl⟩ := ry
    have e : its.toArray.isEmpty = false := by
      cases r with
      | nil => exact absurd rfl ne
      | cons _ _ => rfl
    exact wpAny_binaryOp_repeat_ref (T := "tuple") (U := "int") (by decide) ⟨_, ho, rfl⟩ (fun s' => typeIs_int s' 0 t) noFill_tuple_mul F.fills_int_mul F.slot_int_rmul repeat_tuple F.slot_int_index.lookup
      (call_meets F.slot_int_rmul (typeIs_int s 0 t) F.entry_int_rmul (F.args_int_rmul_2 _ _) (int_rmul_tuple 0 t p its.toArray c od ws)
        ⟨ho, rfl, ⟨_, ho, rfl⟩, call_meets F.slot_tuple_mul ⟨_, ho, rfl⟩ F.entry_tuple_mul (F.args_tuple_mul_2 _ _) (mul_none p its.toArray c od ws t e)
          ⟨ho, .ref s.heap.objs.size, _, I.laid (t' := s.toks) (o := .tup []) (fun b ob z => Heap.get?_push_of_some _ z) (Nat.le_refl _) ⟨Nat.zero_le _, [], .nil, IsTup.new _ _⟩, rfl, q _ (I.hok.fresh (Nat.le_refl _))⟩⟩)
end
end FL

/-! FL, part Y: dicts by one key, greatest and least, sorted keys, tuples by range -/
namespace FL
open PySem L2
section
variable {K : PySem.W.Frag} {A : List V} {Hi H Hi' H' : Hp} {σ : L2.St} {E : En} {Fs : Nat → List Addr} {te ta tb tk tv ty td : TE} {ma mb mv : MF}
/-! ### {k: v} -/
def mDisp1 (fk : En → Option Int) (mv : MF) : MF := fun E => (fk E).bind fun i => (mv E).bind fun r => match r.1 with
  | .imm d => some (.dic [(.inl i, d)], r.2)
  | _ => none
theorem fr_disp1 {fk : En → Option Int} (hk : PR K tk fk) (hv : FR K tv mv) : FR K (tDisp [(tk, tv)]) (mDisp1 fk mv) := fun E w E' q A σ Hi H Fs h Q k p hp => by
  obtain ⟨i, q1, q⟩ := Option.bind_eq_some_iff.mp q
  obtain ⟨⟨t, E1⟩, q2, q⟩ := Option.bind_eq_some_iff.mp q
  dsimp only at q
  split at q
  · rename_i d
    cases q
    have g : Grow Hi H Hi (upd H p (.dK [])) [p] := Grow.own h.sub hp
    refine hk E i q1 A σ Hi _ Fs (h.grow g) _ fun Hi1 H1 g1 => ?_
    have h1 := (h.grow g).grow g1
    refine hv E _ _ q2 A σ Hi1 H1 Fs h1 _ fun v Hi2 H2 Fs2 G r h2 dG s2 => ?_
    have p0 : ¬ InE Fs p := h.fresh g p (by simp)
    have p1 : H1 p = some (.dK []) := g1.all p _ upd_same
    have p2 : H2 p = some (.dK []) := s2.fr p _ p1 p0
    have p3 : ¬ (InE Fs2 p ∨ p ∈ G) := fun z => by
      rcases s2.nw p z with y | y
      · exact p0 y
      · rw [p1] at y; cases y
    have i1 : Hi1 p = none := by
      cases e : Hi1 p with
      | none => rfl
      | some o =>
        rcases g1.nh p o e with ⟨o', y⟩ | y
        · rw [free_of h.sub hp] at y; cases y
        · rw [upd_same] at y; cases y
    have i2 : Hi2 p = none := by
      cases e : Hi2 p with
      | none => rfl
      | some o =>
        rcases s2.nh p o e with ⟨o', y⟩ | y | y
        · rw [i1] at y; cases y
        · exact absurd y p0
        · rw [p1] at y; cases y
    obtain ⟨hd, _⟩ := r.imm_inv
    refine ⟨p2, [(.inl i, v)], rfl, Nat.le_succ_of_le (Nat.succ_le_succ (Nat.zero_le _)), ?_⟩
    show Q (.ref p) (upd H2 p (.dK [(.inl i, v)]))
    have sub3 : Same Hi2 (upd H2 p (.dK [(.inl i, v)])) := fun b o e => by
      have nb : b ≠ p := fun z => by rw [z, i2] at e; cases e
      rw [upd_ne nb]
      exact h2.sub b o e
    refine k (.ref p) Hi2 _ Fs2 [p] (.dic upd_same i2 (.cons ⟨rfl, hd⟩ .nil)) (h2.keep (F := fun a => a = p) (F' := fun a => a = p) ⟨Same.refl _, fun a o e z => by rw [upd_ne z]; exact e, fun a z => .inl z, fun a o e => .inl ⟨o, e⟩⟩ sub3 fun a ha z => p3 (.inl (z ▸ ha))) (fun a ha z => ?_) ?_
    · have e : a = p := by simpa using ha
      exact p3 (.inl (e ▸ z))
    · have base : ∀ a, H1 a = none → H a = none := fun a e => Same.free g.all (Same.free g1.all e)
      refine ⟨g.ex.trans (g1.ex.trans s2.ex), fun a o e z => ?_, fun a z => ?_, fun a o e => ?_⟩
      · have na : a ≠ p := fun y => by rw [y, hp] at e; cases e
        rw [upd_ne na]
        exact s2.fr a o (g1.all a o (g.all a o e)) z
      · rcases z with z | z
        · exact (s2.nw a (.inl z)).imp id (base a)
        · have e : a = p := by simpa using z
          exact .inr (e ▸ hp)
      · rcases s2.nh a o e with ⟨o', y⟩ | y | y
        · rcases g1.nh a o' y with y | y
          · exact .inl y
          · exact .inr (.inr (Same.free g.all y))
        · exact .inr (.inl y)
        · exact .inr (.inr (base a y))
  · cases q
/-! ### k not in d -/
def mDNotIn (my md : MR) : MF := fun E => (my E).bind fun p => (md p.2).bind fun q => (view q.2 p.1).bind fun ty => (view q.2 q.1).bind fun td => match ty, td with
  | .imm kd, .dic ds => (keyD kd).bind fun key => some (.imm (.bool !(getD ds key).isSome), q.2)
  | _, _ => none
theorem fr_dnin {my md : MR} (hy : ER K ty my) (hd : ER K td md) : FR K (tDNotIn ty td) (mDNotIn my md) := fun E w E' q A σ Hi H Fs h Q k => by
  unfold mDNotIn at q
  obtain ⟨⟨o1, E1⟩, q1, q⟩ := Option.bind_eq_some_iff.mp q
  obtain ⟨⟨o2, E2⟩, q2, q⟩ := Option.bind_eq_some_iff.mp q
  obtain ⟨t1, q3, q⟩ := Option.bind_eq_some_iff.mp q
  obtain ⟨t2, q4, q⟩ := Option.bind_eq_some_iff.mp q
  split at q
  · rename_i kd ds _
    obtain ⟨key, q5, q⟩ := Option.bind_eq_some_iff.mp q
    cases q
    refine hy E o1 E1 q1 A σ Hi H Fs h _ fun v1 Hi1 H1 Fs1 G1 r1 h1 d1 s1 => ?_
    refine hd E1 o2 _ q2 A σ Hi1 H1 Fs1 h1 _ fun v2 Hi2 H2 Fs2 G2 r2 h2 d2 s2 => ?_
    obtain ⟨F1, rt⟩ := h2.view (s2.keepR r1 d1) q3
    obtain ⟨F2, ru⟩ := h2.view r2 q4
    cases ru with
    | @dic a xs _ e1 e2 e3 =>
      refine ⟨a, _, rfl, dget_ok e1 e3 rt.imm_inv.1 q5, ?_⟩
      have hg := kv_get (k := key) e3
      have e : (valV xs key).isSome = (getD ds key).isSome := by
        split at hg
        · rename_i d ed
          obtain ⟨v, ev, _⟩ := hg
          rw [ev, ed]
          rfl
        · rename_i ed
          rw [hg, ed]
          rfl
      rw [e]
      exact giveB (K := K) h2.sub fun v Hi3 H3 W rr g => k v Hi3 H3 Fs2 W rr (h2.grow g) (h2.fresh g) (s1.seq (s2.seq (g.step _)))
  · cases q
/-! ### sorted(d): its keys -/
def keysI : List (Key × PyData) → Option (List Int)
  | [] => some []
  | (.inl i, _) :: r => (keysI r).map (i :: ·)
  | (.inr _, _) :: _ => none
theorem keysI_ok : ∀ {xs : List (Key × V)} {ds : List (Key × PyData)} {ks : List Int}, KvR K Hi xs ds → keysI ds = some ks → xs.map (·.1) = ks.map Sum.inl
  | _, _, _, .nil, q => by cases q; rfl
  | _, (.inl i, d) :: ds, _, .cons r t, q => by
    obtain ⟨ks, q1, rfl⟩ := Option.map_eq_some_iff.mp q
    rw [List.map_cons, List.map_cons, keysI_ok t q1, r.1]
  | _, (.inr _, _) :: _, _, .cons _ _, q => by cases q
def rSortD : List V → Hp → VK → Prop := fun xs H Q => ∃ (a : Addr) (kvs : List (Key × V)) (ks : List Int), xs = [.ref a] ∧ Rd H a (.dK kvs) ∧ kvs.map (·.1) = ks.map Sum.inl ∧ ks.length < 64 ∧ ∀ (ys : List Int) (p : Addr), ys.Perm ks → ys.Pairwise (· ≤ ·) → H p = none → Q (.ref p) (upd H p (.lst (ys.map V.int)))
def fSortD : List Tr → Option Tr
  | [.dic ds] => (keysI ds).bind fun ks => if ks.length < 64 then some (.lst (((srtI ks).map PyData.int).map Tr.imm)) else none
  | _ => none
theorem c_sortD : CallT K rSortD fSortD := fun ts w q Hi H xs sub r Q k => by
  unfold fSortD at q
  split at q
  · rename_i ds
    obtain ⟨ks, q1, q⟩ := Option.bind_eq_some_iff.mp q
    split at q
    · rename_i hl
      cases q
      obtain ⟨x, F, rfl, rt⟩ := r.one_inv
      cases rt with
      | @dic a vs _ h1 h2 h3 =>
        refine ⟨a, vs, ks, rfl, Rd.of h1, keysI_ok h3 q1, hl, fun ys p hp hs hf => ?_⟩
        have e2 : ys = srtI ks := srt_one (hp.trans (srtI_perm ks).symm) hs (srtI_sorted ks)
        subst e2
        exact giveL sub (ints_dp (K := K) (srtI ks)) k p hf
    · cases q
  · cases q
def rSortedB (K : PySem.W.Frag) : List V → Hp → VK → Prop := fun vs H Q => rSortD vs H Q ∨ rSortedA K vs H Q
theorem cr_sortedB {X : Cx} (hc : X.calm = true) : CallR X (.builtin "sorted") (rSortedB X.K) := CallR.or (call_sortedDI hc) cr_sortedA
def fSortB (ts : List Tr) : Option Tr := match ts with
  | [.dic ds] => fSortD [.dic ds]
  | _ => fSortA ts
theorem c_sortB : CallT K (rSortedB K) fSortB := fun ts w q Hi H xs sub r Q k => by
  unfold fSortB at q
  split at q
  · exact .inl (c_sortD _ _ q Hi H xs sub r Q k)
  · exact .inr (c_sortA ts _ q Hi H xs sub r Q k)
/-! ### the greatest, the least of a list -/
def maxL : List Int → Int
  | [] => 0
  | [a] => a
  | a :: b :: r => max a (maxL (b :: r))
def minL : List Int → Int
  | [] => 0
  | [a] => a
  | a :: b :: r => min a (minL (b :: r))
theorem maxL_ge : ∀ (l : List Int) (y : Int), y ∈ l → y ≤ maxL l
  | [], _, h => nomatch h
  | [a], y, h => by rw [List.mem_singleton.mp h]; exact Int.le_refl _
  | a :: b :: r, y, h => by
    unfold maxL
    rcases List.mem_cons.mp h with e | h
    · omega
    · have := maxL_ge (b :: r) y h
      omega
theorem maxL_mem : ∀ (l : List Int), l ≠ [] → maxL l ∈ l
  | [], h => absurd rfl h
  | [a], _ => List.mem_singleton.mpr rfl
  | a :: b :: r, _ => by
    have := maxL_mem (b :: r) (fun z => nomatch z)
    unfold maxL
    by_cases e : a ≤ maxL (b :: r)
    · rw [Int.max_eq_right e]; exact List.mem_cons_of_mem _ this
    · rw [Int.max_eq_left (by omega)]; exact List.mem_cons_self
theorem minL_le : ∀ (l : List Int) (y : Int), y ∈ l → minL l ≤ y
  | [], _, h => nomatch h
  | [a], y, h => by rw [List.mem_singleton.mp h]; exact Int.le_refl _
  | a :: b :: r, y, h => by
    unfold minL
    rcases List.mem_cons.mp h with e | h
    · omega
    · have := minL_le (b :: r) y h
      omega
theorem minL_mem : ∀ (l : List Int), l ≠ [] → minL l ∈ l
  | [], h => absurd rfl h
  | [a], _ => List.mem_singleton.mpr rfl
  | a :: b :: r, _ => by
    have := minL_mem (b :: r) (fun z => nomatch z)
    unfold minL
    by_cases e : a ≤ minL (b :: r)
    · rw [Int.min_eq_left e]; exact List.mem_cons_self
    · rw [Int.min_eq_right (by omega)]; exact List.mem_cons_of_mem _ this
/-- the same of a tuple's items, read as a list -/
def fMaxL : List Tr → Option Tr
  | [t] => (lstD t).bind fun ds => (intsOf ds).bind fun ns => if ns = [] then none else some (.imm (.int (maxL ns)))
  | _ => none
def fMinL : List Tr → Option Tr
  | [t] => (lstD t).bind fun ds => (intsOf ds).bind fun ns => if ns = [] then none else some (.imm (.int (minL ns)))
  | _ => none
theorem c_maxL : CallT K (rMax K) fMaxL := fun ts w q Hi H xs sub r Q k => by
  unfold fMaxL at q
  split at q
  · obtain ⟨ds, q1, q⟩ := Option.bind_eq_some_iff.mp q
    obtain ⟨ns, q2, q⟩ := Option.bind_eq_some_iff.mp q
    split at q
    · cases q
    · rename_i hn
      cases q
      obtain ⟨x, F, rfl, rt⟩ := r.one_inv
      obtain ⟨a, vs, rfl, ha, hL⟩ := lstD_ok sub rt q1
      have e := intsOf_ok ha q2
      subst e
      refine ⟨a, ns, rfl, hL, List.length_pos_iff.mpr hn, fun m hm hg => ?_⟩
      have e : m = maxL ns := Int.le_antisymm (maxL_ge ns m hm) (hg _ (maxL_mem ns hn))
      rw [e]
      exact giveI sub k
  · cases q
theorem c_minL : CallT K (rMin K) fMinL := fun ts w q Hi H xs sub r Q k => by
  unfold fMinL at q
  split at q
  · obtain ⟨ds, q1, q⟩ := Option.bind_eq_some_iff.mp q
    obtain ⟨ns, q2, q⟩ := Option.bind_eq_some_iff.mp q
    split at q
    · cases q
    · rename_i hn
      cases q
      obtain ⟨x, F, rfl, rt⟩ := r.one_inv
      obtain ⟨a, vs, rfl, ha, hL⟩ := lstD_ok sub rt q1
      have e := intsOf_ok ha q2
      subst e
      refine ⟨a, ns, rfl, hL, List.length_pos_iff.mpr hn, fun m hm hg => ?_⟩
      have e : m = minL ns := Int.le_antisymm (hg _ (minL_mem ns hn)) (minL_le ns m hm)
      rw [e]
      exact giveI sub k
  · cases q
/-! ### tuple(range(a, b)) -/
theorem fr_tupRg2 (ha : FR K ta ma) (hb : FR K tb mb) : FR K (tTupRg (tRg2 ta tb)) (mTupRg (rgM2 ma mb)) := fun E w E' q A σ Hi H Fs hE Q k => by
  unfold mTupRg rgM2 at q
  obtain ⟨⟨a, b, E1⟩, q1, q⟩ := Option.bind_eq_some_iff.mp q
  obtain ⟨⟨t, E2⟩, q2, q1⟩ := Option.bind_eq_some_iff.mp q1
  obtain ⟨n, q3, q1⟩ := Option.bind_eq_some_iff.mp q1
  obtain ⟨⟨u, E3⟩, q4, q1⟩ := Option.bind_eq_some_iff.mp q1
  obtain ⟨m, q5, q1⟩ := Option.bind_eq_some_iff.mp q1
  cases q1
  dsimp only at q
  split at q
  · rename_i hc
    cases q
    have e := iOf_inv q3
    subst e
    have e := iOf_inv q5
    subst e
    refine ha E _ _ q2 A σ Hi H Fs hE _ fun v Hi1 H1 Fs1 G r h1 d s => ?_
    refine hb E2 _ _ q4 A σ Hi1 H1 Fs1 h1 _ fun v2 Hi2 H2 Fs2 G2 r2 h2 d2 s2 => ?_
    refine ⟨_, _, r.int_inv.1, r2.int_inv.1, ⟨(rngOk_ok hc.1).1, (rngOk_ok hc.1).2, (rngOk_ok hc.2.1).1, (rngOk_ok hc.2.1).2, hc.2.2⟩, giveT (K := K) h2.sub (range_dp _ _) fun v Hi3 H3 W rr g => k v Hi3 H3 Fs2 W rr (h2.grow g) (h2.fresh g) (s.seq (s2.seq (g.step _)))⟩
  · cases q
/-! ### len(x) within an index -/
def iLen (i : Nat) : En → Option Int := fun E => (at? E i).bind fun t => (fLen [t]).bind iOf
theorem pr_len {i : Nat} : PR K (tCB (rLenA K) (tCons (tVar i) tNil)) (iLen i) := fun E k q A σ Hi H Fs h Q kk => by
  obtain ⟨t, q1, q⟩ := Option.bind_eq_some_iff.mp q
  obtain ⟨w, q2, q⟩ := Option.bind_eq_some_iff.mp q
  have e := iOf_inv q
  subst e
  obtain ⟨v, ev, r⟩ := h.val i t q1
  refine ⟨v, ev, c_len [t] _ q2 Hi H [v] h.sub (.cons r .nil) Q fun v' Hi' H' W rr g => ?_⟩
  obtain ⟨e, eW⟩ := rr.int_inv
  subst e eW
  exact kk Hi' H' g
theorem pr_add {fa fb : En → Option Int} (ha : PR K ta fa) (hb : PR K tb fb) : PR K (tOp (rAddA K) ta tb) (iOp (· + ·) fa fb) := fun E k q A σ Hi H Fs h Q kk => by
  obtain ⟨a, q1, q⟩ := Option.bind_eq_some_iff.mp q
  obtain ⟨b, q2, q⟩ := Option.bind_eq_some_iff.mp q
  cases q
  refine ha E a q1 A σ Hi H Fs h _ fun Hi1 H1 g1 => ?_
  refine hb E b q2 A σ Hi1 H1 Fs (h.grow g1) _ fun Hi2 H2 g2 => ?_
  exact .inl ⟨a, b, rfl, rfl, kk Hi2 H2 (g1.trans g2)⟩
/-! ### tuple * k -/
def rMulB (K : PySem.W.Frag) : R2 := fun x y H Q => rRep01 K x y H Q ∨ rRepT K x y H Q ∨ rMulA x y H Q
theorem op_mulB {X : Cx} : OpR X (binaryOp .Mult) (rMulB X.K) := OpR.or op_rep01 (OpR.or op_repT op_mulA)
def fMulB : Tr → Tr → Option Tr
  | .imm (.tuple ds), .imm (.int k) => if ds ≠ [] ∧ 0 ≤ k ∧ k ≤ 1000 ∧ ds.length ≤ 1000 then some (.imm (.tuple (List.replicate k.toNat ds).flatten)) else none
  | t, u => fMul t u
theorem o_mulB : OpT K (rMulB K) fMulB := fun t u w q Hi H x y F G sub rt ru Q k => by
  unfold fMulB at q
  split at q
  · rename_i ds i
    split at q
    · rename_i hc
      cases q
      obtain ⟨rfl, _⟩ := ru.int_inv
      obtain ⟨hd, _⟩ := rt.imm_inv
      cases hd with
      | @tup a vs _ hs ha =>
        have hne : vs ≠ [] := fun e => hc.1 (by
          subst e
          cases ha
          rfl)
        by_cases h0 : i = 0
        · subst h0
          exact .inl ⟨a, vs, rfl, seqT sub hs, .inr ⟨rfl, hne, giveT (K := K) sub .nil k⟩⟩
        · by_cases h1 : i = 1
          · subst h1
            have e : (List.replicate (Int.toNat 1) ds).flatten = ds := by
              show (List.replicate 1 ds).flatten = ds
              simp
            rw [e] at k
            exact .inl ⟨a, vs, rfl, seqT sub hs, .inl ⟨rfl, give sub (.tup hs ha) k⟩⟩
          · exact .inr (.inl ⟨a, i, vs, rfl, rfl, seqT sub hs, hne, by omega, hc.2.2.1, by rw [dpAll_len ha]; exact hc.2.2.2, giveT sub (dpAll_rep ha _) k⟩)
    · cases q
  · exact .inr (.inr (o_mul t u w q Hi H x y F G sub rt ru Q k))
end
end FL

/-! FL, part Y2: evaluation rows for part Y -/
namespace FL
open PySem L2
section
variable {E E' : En} {m m' ma mb : MF} {mx my md : MR} {t u : Tr} {i j : Nat} {k : MS}
/-- a value of one's own, standing still from now on -/
def mImm (m : MF) : MF := fun E => (m E).bind fun p => p.1.toD.bind fun d => some (.imm d, p.2)
theorem v_imm : mImm m E = (m E).bind fun p => p.1.toD.bind fun d => some (.imm d, p.2) := rfl
theorem fr_imm {K : PySem.W.Frag} {te : TE} (h : FR K te m) : FR K te (mImm m) := fun E w E' q A σ Hi H Fs hE Q kk => by
  obtain ⟨⟨t, E1⟩, q1, q⟩ := Option.bind_eq_some_iff.mp q
  obtain ⟨d, q2, q⟩ := Option.bind_eq_some_iff.mp q
  cases q
  refine h E t E1 q1 A σ Hi H Fs hE Q fun v Hi1 H1 Fs1 G r h1 dG s => ?_
  have og : ∀ a ∈ G, Hi1 a = none := fun a ha => (r.ownG a ha).1
  have hd : Dp K (fzH Hi1 H1 G) v d := r.froz (fz_same og) _ _ _ d (fun a ha => fz_in ha) q2
  exact kk v (fzH Hi1 H1 G) H1 Fs1 [] (.imm hd) (h1.fz og dG) (fun a z => nomatch z) ((s.trans (fz_step og)).weak fun x z => z.elim id fun y => nomatch y)
theorem v_aftN : afterTurn k (.nx E) = k E := rfl
theorem v_aftC : afterTurn k (.ct E) = k E := rfl
theorem v_aftB : afterTurn k (.bk E) = some (.nx E) := rfl
theorem v_aftR : afterTurn k (.rt t E) = some (.rt t E) := rfl
theorem v_iOp {f : Int → Int → Int} {fa fb : En → Option Int} : iOp f fa fb E = (fa E).bind fun a => (fb E).bind fun b => some (f a b) := rfl
theorem v_iLen : iLen i E = (at? E i).bind fun t => (fLen [t]).bind iOf := rfl
def dninD : Tr → Tr → En → Option (Tr × En)
  | .imm kd, .dic ds, E => (keyD kd).bind fun key => some (.imm (.bool !(getD ds key).isSome), E)
  | _, _, _ => none
theorem v_dnin : mDNotIn my md E = (my E).bind fun p => (md p.2).bind fun q => (view q.2 p.1).bind fun ty => (view q.2 q.1).bind fun td => dninD ty td q.2 := by
  unfold mDNotIn
  refine bind_cg' fun p => bind_cg' fun q => bind_cg' fun ty => bind_cg' fun td => ?_
  unfold dninD
  cases ty <;> cases td <;> rfl
where bind_cg' {α β : Type} {a : Option α} {f g : α → Option β} (h : ∀ x, f x = g x) : a.bind f = a.bind g := by rw [funext h]
theorem v_dninI {n : Int} {ds : List (Key × PyData)} : dninD (.imm (.int n)) (.dic ds) E = some (.imm (.bool !(getD ds (.inl n)).isSome), E) := rfl
def dispD : Int → Tr → En → Option (Tr × En)
  | i, .imm d, E => some (.dic [(.inl i, d)], E)
  | _, _, _ => none
theorem v_disp1 {fk : En → Option Int} : mDisp1 fk m E = (fk E).bind fun i => (m E).bind fun r => dispD i r.1 r.2 := by
  unfold mDisp1
  cases fk E with
  | none => rfl
  | some i =>
    simp only [Option.bind_some]
    cases m E with
    | none => rfl
    | some r =>
      rcases r with ⟨t, E1⟩
      cases t <;> rfl
theorem v_dispI {n : Int} {d : PyData} : dispD n (.imm d) E = some (.dic [(.inl n, d)], E) := rfl
theorem v_mut0 {T : String} {f : Tr → List Tr → Option (Tr × Tr)} : mMut0 i T f E = (E[i]?).bind fun s => s.tree.bind fun t => if tyB T t = true then (f t []).bind fun r => some (r.1, E.set i (s.with r.2)) else none := rfl
theorem v_mulB {ds : List PyData} {n : Int} : fMulB (.imm (.tuple ds)) (.imm (.int n)) = if ds ≠ [] ∧ 0 ≤ n ∧ n ≤ 1000 ∧ ds.length ≤ 1000 then some (.imm (.tuple (List.replicate n.toNat ds).flatten)) else none := rfl
def rgD (T : List PyData → Tr) (a b : Int) (E : En) : Option (Tr × En) := if rngOk a = true ∧ rngOk b = true ∧ (b - a).toNat ≤ 2 ^ 24 then some (T (rangeD a (b - a).toNat), E) else none
def rgL (ds : List PyData) : Tr := .lst (ds.map Tr.imm)
def rgT (ds : List PyData) : Tr := .imm (.tuple ds)
theorem v_lrg1 : mLstRg (rgM1 m) E = (m E).bind fun p => (iOf p.1).bind fun n => rgD rgL 0 n p.2 := by
  unfold mLstRg rgM1
  cases m E with
  | none => rfl
  | some p =>
    simp only [Option.bind_some]
    cases iOf p.1 <;> rfl
theorem v_trg1 : mTupRg (rgM1 m) E = (m E).bind fun p => (iOf p.1).bind fun n => rgD rgT 0 n p.2 := by
  unfold mTupRg rgM1
  cases m E with
  | none => rfl
  | some p =>
    simp only [Option.bind_some]
    cases iOf p.1 <;> rfl
theorem v_lrg2 : mLstRg (rgM2 ma mb) E = (ma E).bind fun p => (iOf p.1).bind fun a => (mb p.2).bind fun q => (iOf q.1).bind fun b => rgD rgL a b q.2 := by
  unfold mLstRg rgM2
  cases ma E with
  | none => rfl
  | some p =>
    simp only [Option.bind_some]
    cases iOf p.1 with
    | none => rfl
    | some a =>
      simp only [Option.bind_some]
      cases mb p.2 with
      | none => rfl
      | some q =>
        simp only [Option.bind_some]
        cases iOf q.1 <;> rfl
theorem v_trg2 : mTupRg (rgM2 ma mb) E = (ma E).bind fun p => (iOf p.1).bind fun a => (mb p.2).bind fun q => (iOf q.1).bind fun b => rgD rgT a b q.2 := by
  unfold mTupRg rgM2
  cases ma E with
  | none => rfl
  | some p =>
    simp only [Option.bind_some]
    cases iOf p.1 with
    | none => rfl
    | some a =>
      simp only [Option.bind_some]
      cases mb p.2 with
      | none => rfl
      | some q =>
        simp only [Option.bind_some]
        cases iOf q.1 <;> rfl
theorem rgD_nat {T : List PyData → Tr} {a b : Nat} (ha : a ≤ b) (hb : b < 1000000) : rgD T (a : Int) (b : Int) E = some (T (rangeD a (b - a)), E) := by
  unfold rgD
  rw [if_pos ⟨rng_nat (by omega), rng_nat (by omega), by omega⟩]
  congr 4
  omega
def enumE : PyData → En → Option (List PyData × En)
  | .tuple ds, E => some (enumD ds, E)
  | .list ds, E => some (enumD ds, E)
  | _, _ => none
theorem v_enumE : mEnum m E = (m E).bind fun p => p.1.toD.bind fun d => enumE d p.2 := by
  unfold mEnum
  cases m E with
  | none => rfl
  | some p =>
    simp only [Option.bind_some]
    cases p.1.toD with
    | none => rfl
    | some d => cases d <;> rfl
theorem v_enumT {ds : List PyData} : enumE (.tuple ds) E = some (enumD ds, E) := rfl
theorem v_enumL {ds : List PyData} : enumE (.list ds) E = some (enumD ds, E) := rfl
end
end FL

/-! FL, part Y3: the greatest and the least of a tuple of ints -/
namespace FL
open PySem PySem.SeqAt PyProof.Rows PySem.W L2
theorem foldl_max : ∀ (r : List Int) (n : Int), r.foldl max n = maxL (n :: r)
  | [], _ => rfl
  | m :: r, n => by
    show r.foldl max (max n m) = max n (maxL (m :: r))
    rw [foldl_max r]
    cases r with
    | nil => rfl
    | cons k r =>
      show max (max n m) (maxL (k :: r)) = max n (max m (maxL (k :: r)))
      omega
theorem foldl_min : ∀ (r : List Int) (n : Int), r.foldl min n = minL (n :: r)
  | [], _ => rfl
  | m :: r, n => by
    show r.foldl min (min n m) = min n (minL (m :: r))
    rw [foldl_min r]
    cases r with
    | nil => rfl
    | cons k r =>
      show min (min n m) (minL (k :: r)) = min n (min m (minL (k :: r)))
      omega
theorem alike_ints (ns : List Int) : AlikeAll (ns.map PyData.int) := by
  refine ⟨fun x hx y hy => ?_, fun x hx => ?_⟩
  · obtain ⟨a, _, rfl⟩ := List.mem_map.mp hx
    obtain ⟨b, _, rfl⟩ := List.mem_map.mp hy
    rfl
  · obtain ⟨a, _, rfl⟩ := List.mem_map.mp hx
    exact fun z => nomatch z
theorem depth_of_ints : ∀ ns : List Int, PyData.depthAll (ns.map PyData.int) = 0
  | [] => by rw [List.map_nil, PyData.depthAll]
  | n :: ns => by rw [List.map_cons, PyData.depthAll, depth_of_ints ns, PyData.depth]; rfl
theorem reads_int {h : Heap} {v : Value} {m : Int} {as : List Addr} (r : Reads h v (.int m) as) : ∃ t, v = .int m t := by
  cases r with
  | int t => exact ⟨_, rfl⟩
def rBestT (K : PySem.W.Frag) (f : List Int → Int) : List V → Hp → VK → Prop := fun vs H Q => ∃ (a : Addr) (ns : List Int), vs = [V.ref a] ∧ SqT K H a (ns.map V.int) ∧ ns ≠ [] ∧ Q (.int (f ns)) H
section
variable {X : Cx}
theorem cr_maxT (hc : X.calm = true) (hu : X.A.units + 1 < cLine) : CallR X (.builtin "max") (rBestT X.K maxL) := by
  intro pins s σ H vs us Q I r h
  obtain ⟨a, ns, rfl, hs, hne, q⟩ := h
  obtain ⟨its, rv, pl, _⟩ := I.tuple hs
  rw [Vals.ref1 r]
  cases ns with
  | nil => exact absurd rfl hne
  | cons n ns =>
    obtain ⟨as, rd⟩ := Dp.readsAll I ((n :: ns).map PyData.int) _ its (ints_dp _) rv
    refine max_tuple_data (x := .int n) (xs := ns.map PyData.int) (I.ok.hd hc) (show s.heap.IsTuple a its.toArray from pl) (by simpa using rd) (alike_ints (n :: ns)) (by rw [show PyData.int n :: ns.map PyData.int = (n :: ns).map PyData.int from rfl, depth_of_ints]; exact hu) fun i v h' tk bs hv hr hk => ?_
    rw [maxD_ints, foldl_max] at hr
    obtain ⟨t, rfl⟩ := reads_int hr
    exact ⟨.int _, H, I.kept hk, ⟨_, rfl⟩, q⟩
theorem cr_minT (hc : X.calm = true) (hu : X.A.units + 1 < cLine) : CallR X (.builtin "min") (rBestT X.K minL) := by
  intro pins s σ H vs us Q I r h
  obtain ⟨a, ns, rfl, hs, hne, q⟩ := h
  obtain ⟨its, rv, pl, _⟩ := I.tuple hs
  rw [Vals.ref1 r]
  cases ns with
  | nil => exact absurd rfl hne
  | cons n ns =>
    obtain ⟨as, rd⟩ := Dp.readsAll I ((n :: ns).map PyData.int) _ its (ints_dp _) rv
    refine min_tuple_data (x := .int n) (xs := ns.map PyData.int) (I.ok.hd hc) (show s.heap.IsTuple a its.toArray from pl) (by simpa using rd) (alike_ints (n :: ns)) (by rw [show PyData.int n :: ns.map PyData.int = (n :: ns).map PyData.int from rfl, depth_of_ints]; exact hu) fun i v h' tk bs hv hr hk => ?_
    rw [minD_ints, foldl_min] at hr
    obtain ⟨t, rfl⟩ := reads_int hr
    exact ⟨.int _, H, I.kept hk, ⟨_, rfl⟩, q⟩
end
section
variable {K : PySem.W.Frag}
def bestT (f : List Int → Int) (g : List Tr → Option Tr) : List Tr → Option Tr
  | [.imm (.tuple ds)] => (intsOf ds).bind fun ns => if ns = [] then none else some (.imm (.int (f ns)))
  | ts => g ts
theorem c_bestT {f : List Int → Int} {g : List Tr → Option Tr} {r : List V → Hp → VK → Prop} (hg : CallT K r g) : CallT K (fun vs H Q => rBestT K f vs H Q ∨ r vs H Q) (bestT f g) := fun ts w q Hi H xs sub rr Q k => by
  unfold bestT at q
  split at q
  · obtain ⟨ns, q1, q⟩ := Option.bind_eq_some_iff.mp q
    split at q
    · cases q
    · rename_i hn
      cases q
      obtain ⟨x, F, rfl, rt⟩ := rr.one_inv
      obtain ⟨hd, _⟩ := rt.imm_inv
      cases hd with
      | tup hs ha =>
        have e := intsOf_ok ha q1
        subst e
        exact .inl ⟨_, ns, rfl, seqT sub hs, hn, giveI sub k⟩
  · exact .inr (hg ts w q Hi H xs sub rr Q k)
def fMaxB : List Tr → Option Tr := bestT maxL fMaxL
def fMinB : List Tr → Option Tr := bestT minL fMinL
def rMaxB (K : PySem.W.Frag) : List V → Hp → VK → Prop := fun vs H Q => rBestT K maxL vs H Q ∨ rMax K vs H Q
def rMinB (K : PySem.W.Frag) : List V → Hp → VK → Prop := fun vs H Q => rBestT K minL vs H Q ∨ rMin K vs H Q
theorem cr_maxB {X : Cx} (hc : X.calm = true) (hu : X.A.units + 1 < cLine) : CallR X (.builtin "max") (rMaxB X.K) := CallR.or (cr_maxT hc hu) (cr_max hc)
theorem cr_minB {X : Cx} (hc : X.calm = true) (hu : X.A.units + 1 < cLine) : CallR X (.builtin "min") (rMinB X.K) := CallR.or (cr_minT hc hu) (cr_min hc)
theorem c_maxB : CallT K (rMaxB K) fMaxB := c_bestT c_maxL
theorem c_minB : CallT K (rMinB K) fMinB := c_bestT c_minL
end
/-! ### a, b, c = what a def tells: a tuple or a list -/
section
variable {K : PySem.W.Frag}
def gAny (K : PySem.W.Frag) (n : Nat) (t : TGs) : L2.TG := fun v σ H Q => gTup K n t v σ H Q ∨ gUnl K n t v σ H Q
theorem pg_any {X : Cx} {pos : Pos} {es : List Expr} {k : Nat} {t : TGs} {n : Nat} (hc : X.calm = true) (h : PGs X es t)
    (hn : (assignEach es X.env).length = n := by rfl) (hst : (assignEach es X.env).findIdx? (·.1) = none := by rfl) : PG X (.Tuple es k pos) (gAny X.K n t) :=
  ⟨fun pins s σ H v u Q I r hw => hw.elim (fun z => (pg_tup hc h hn hst).run pins s σ H v u Q I r z) fun z => (pg_unl hc h hn hst).run pins s σ H v u Q I r z⟩
def mTupA (n : Nat) (ms : List PyData → En → Option En) : Tr → En → Option En := fun t E => (seqOf t).bind fun p => if p.2.length = n then ms p.2 E else none
theorem gr_any {n : Nat} {t : TGs} {ms : List PyData → En → Option En} {ws : List Nat} (ht : GRs K t ms ws) : GR K (gAny K n t) (mTupA n ms) ws := fun t E E' q A σ Hi H Fs v G h r d Q k => by
  obtain ⟨⟨b, ds⟩, q1, q⟩ := Option.bind_eq_some_iff.mp q
  dsimp only at q
  split at q
  · rename_i hn
    obtain ⟨a, vs, rfl, ha, hT, hL⟩ := seq_ok h.sub r q1
    cases b with
    | true => exact .inl ⟨a, vs, rfl, hT rfl, by rw [dpAll_len ha, hn], ht ds E E' q A σ Hi H Fs vs h ha _ fun σ1 Hi1 H1 Fs1 c1 h1 s1 => k σ1 Hi1 H1 Fs1 c1 h1 (s1.more fun x z => .inl z)⟩
    | false => exact .inr ⟨a, vs, rfl, hL rfl, by rw [dpAll_len ha, hn], ht ds E E' q A σ Hi H Fs vs h ha _ fun σ1 Hi1 H1 Fs1 c1 h1 s1 => k σ1 Hi1 H1 Fs1 c1 h1 (s1.more fun x z => .inl z)⟩
  · cases q
theorem v_tupA {n : Nat} {f : List PyData → En → Option En} {t : Tr} {E : En} : mTupA n f t E = (seqOf t).bind fun p => if p.2.length = n then f p.2 E else none := rfl
theorem v_sqE {ts : List Tr} : seqOf (.lst ts) = (imms ts).map fun ds => (false, ds) := rfl
end
end FL

/-! FL, part Y4: an own dict gone through by its entries; list(d.values()) -/
namespace FL
open PySem L2 PySem.Spec PyProof.Rows
/-! ### list(d.values()) -/
def tListVals (te : TE) : TE := fun σ H Q => te σ H fun x H1 => ∃ (a : Addr) (xs : List (Key × V)), x = .ref a ∧ H1 a = some (.dK xs) ∧
  ∀ p, H1 p = none → Q (.ref p) (upd H1 p (.lst (xs.map Prod.snd)))
theorem kv_vals : ∀ {xs : List (Key × V)} {us : List (Key × Value)}, KV xs us → Vals (xs.map Prod.snd) (us.map Prod.snd)
  | _, _, .nil => .nil
  | _, _, .cons h t => .cons h.2 (kv_vals t)
section
variable {X : Cx} {e : Expr} {te : TE} {p apos cpos pos : Pos}
theorem pe_listVals (hc : X.calm = true) (he : PE X e te) (hg : Gl X "list") (hm : X.mg "list" = none) (hv : bootBuiltins "list" = some (.type "list"))
    (hbase : attributeBase e "values" X.env (eval e X.env) = eval e X.env := by rfl) (hline : (apos.endLine == cpos.line) = true := by rfl)
    (hs : starEach [.Call (.Attribute e "values" apos) [] [] cpos] X.env = (false, eval (.Call (.Attribute e "values" apos) [] [] cpos) X.env) :: starEach [] X.env := by rfl) :
    PE X (.Call (.Name "list" p) [.Call (.Attribute e "values" apos) [] [] cpos] [] pos) (tListVals te) := by
  constructor
  intro pins s σ H Q I hq
  apply wpAny_Call_Name_kw
  apply ld_blt I hg hm hv
  refine PyProof.Rows.callWith_type1 ?_ hs rfl
  rw [hs]
  show wpAny _ _ (spliced ((false, eval (.Call (.Attribute e "values" apos) [] [] cpos) X.env) :: backTo pos (starEach [] X.env))) _ _ s
  apply Calls.spliced_cons
  refine wpAny_Call_method (T := "dict") (id := "dict.values") hbase rfl hline F.plainAttrs_dict F.slot_dict_values F.type_dict_values ?_
  refine thn (he.run pins s σ H _ I hq) ?_
  rintro u t ⟨x, H1, I1, rx, a, xs, rfl, ha, q⟩
  have eu : u = Value.ref a := rx
  subst eu
  obtain ⟨hz, lo, us, rel, dd⟩ := I1.hok a _ ha
  obtain ⟨ep, hat⟩ := dd.dictAt
  have ln : xs.length = us.length := Paired.length rel
  let wob : Obj := { cls := .type "dict_values", data := .fields #[.ref a] }
  have I2 : Inv X pins σ H1 { t with heap := t.heap.push wob } := I1.kept (t' := t.toks) (by intro b ob z; exact Heap.get?_push_of_some _ z)
  refine ⟨dd.typeIs, dd.mapOf.noDict, ?_⟩
  show wpAny _ _ (callWith cpos (.builtin "dict.values") [.ref a] [] []) _ X.xe t
  apply method_meetsIn F.slot_dict_values F.entry_dict_values rfl
  refine PySem.evalArgs_none ⟨rfl, dd.typeIs, F.args_dict_values_1 _, _, meets_dict_values (mixKind X.prog X.w) a lo, ⟨us, dd⟩, ?_⟩
  apply Calls.spliced_nil
  have kd := PySem.W.kdl_values (knd := mixKind X.prog X.w) (kvs := us) (ep := ep) (prog := X.prog) (w := X.w) (r := t.heap.objs.size) (d := a)
  refine PySem.W.kdl_call kd (I1.ok.hd hc) ⟨⟨wob, Heap.get?_push_size _ rfl, rfl, rfl⟩, hat.push _⟩ (by omega) ?_
  intro h' tk acc c old new its
  have el : acc.toList = us.map (·.2) := PySem.W.kdl_vals_eq acc.toList (by rw [Array.length_toList]; exact its.1) (fun j v z => its.2 j v (by rw [← Array.getElem?_toList]; exact z))
  have ok : ObjOk X.prog X.w (upd H1 (t.heap.push wob).objs.size (.lst (xs.map Prod.snd))) h' (t.heap.push wob).objs.size (.lst (xs.map Prod.snd)) := by
    refine ⟨by rw [List.length_map]; exact hz, acc.toList, c, by rw [el]; exact kv_vals rel, ?_⟩
    rw [Array.toArray_toList]
    exact new
  have I3 := I2.laid (t' := tk) old (Nat.le_refl _) ok
  exact ⟨.ref _, _, I3, rfl, q _ (I2.hok.fresh (Nat.le_refl _))⟩
end
section
variable {K : PySem.W.Frag} {A : List V} {Hi H Hi1 H1 Hi' H' : Hp} {σ : L2.St} {E E1 : En} {Fs Fs1 : Nat → List Addr} {te td : TE}
theorem kvr_vals : ∀ {xs : List (Key × V)} {ds : List (Key × PyData)}, KvR K Hi xs ds → DpAll K Hi (xs.map Prod.snd) (ds.map Prod.snd)
  | _, _, .nil => .nil
  | _, _, .cons r t => .cons r.2 (kvr_vals t)
def mListVals (md : MR) : MF := fun E => (md E).bind fun q => (view q.2 q.1).bind fun t => match t with
  | .dic ds => some (.lst ((ds.map Prod.snd).map Tr.imm), q.2)
  | _ => none
theorem fr_listVals {md : MR} (hd : ER K td md) : FR K (tListVals td) (mListVals md) := fun E w E' q A σ Hi H Fs h Q k => by
  unfold mListVals at q
  obtain ⟨⟨o1, E1⟩, q1, q⟩ := Option.bind_eq_some_iff.mp q
  obtain ⟨t1, q3, q⟩ := Option.bind_eq_some_iff.mp q
  split at q
  · rename_i ds _
    cases q
    refine hd E o1 _ q1 A σ Hi H Fs h _ fun v1 Hi1 H1 Fs1 G1 r1 h1 d1 s1 => ?_
    obtain ⟨F1, rt⟩ := h1.view r1 q3
    cases rt with
    | @dic a xs _ e1 e2 e3 =>
      refine ⟨a, xs, rfl, e1, giveL (K := K) h1.sub (kvr_vals e3) fun v Hi3 H3 W rr g => k v Hi3 H3 Fs1 W rr (h1.grow g) (h1.fresh g) (s1.seq (g.step _))⟩
  · cases q
/-! ### for k, v in d.items() -/
def keyDt : Key → PyData
  | .inl i => .int i
  | .inr z => .str z
def pairsD (ds : List (Key × PyData)) : List PyData := ds.map fun p => .tuple [keyDt p.1, p.2]
theorem keyDt_ok : ∀ k : Key, Dp K Hi (kV k) (keyDt k)
  | .inl _ => .int _
  | .inr _ => .str _
theorem kvr_at : ∀ {xs : List (Key × V)} {ds : List (Key × PyData)}, KvR K Hi xs ds → ∀ {i : Nat} {k : Key} {v : V} {d : PyData}, xs[i]? = some (k, v) → (pairsD ds)[i]? = some d → ∃ e, d = .tuple [keyDt k, e] ∧ Dp K Hi v e
  | _, _, .nil, i, _, _, _, q, _ => by cases q
  | _, _, .cons r t, 0, _, _, _, q, q' => by
    cases q
    cases q'
    obtain ⟨r1, r2⟩ := r
    dsimp only at r1
    exact ⟨_, by rw [r1], r2⟩
  | _, _, .cons r t, i + 1, _, _, _, q, q' => kvr_at t (i := i) q q'
theorem forIt_walk {a : Addr} {o : HO} {J : It} {ds : List PyData} {g : TG} {tb : TS} {mg : Tr → En → Option En} {mb : MS} {ws : List Nat} {out : Out} {D : Ends}
    (stop : ∀ H : Hp, H a = some o → ∀ i, ds.length ≤ i → J.stop i H) (goes : ∀ H : Hp, H a = some o → ∀ i, i < ds.length → J.go i H)
    (yld : ∀ Hi H : Hp, Same Hi1 Hi → Same Hi H → ∀ i d x H', ds[i]? = some d → J.yld i H x H' → ∃ Hi', Grow Hi H Hi' H' [] ∧ Dp K Hi' x d)
    (ha : H1 a = some o) (hf : ¬ InE Fs1 a) (h1 : RepE K A Hi1 H1 σ E1 Fs1) (q : forD mg mb ds E1 = some out) (hg : GR K g mg ws) (hb : SR K tb mb) (go : Goal K A Hi1 H1 (InE Fs1) out D) :
    ∃ W : Nat → Nat → L2.St → Hp → Prop, (∃ m, W 0 m σ H1) ∧ ∀ i m σ H, W i m σ H →
      (J.stop i H ∧ D.nx σ H) ∨ (J.go i H ∧ ∃ N : L2.St → Hp → Prop, (∀ σ' H', N σ' H' → ∃ m', m' < m ∧ W (i + 1) m' σ' H') ∧ ∀ x H', J.yld i H x H' → g x σ H' fun σ2 H2 => tb { D with nx := N, ct := N, bk := D.nx } σ2 H2) := by
  refine ⟨fun i m σ' H' => i + m = ds.length ∧ ∃ E' Hi' Fs', RepE K A Hi' H' σ' E' Fs' ∧ Step Hi1 H1 (InE Fs1) Hi' H' (InE Fs') ∧ forD mg mb (ds.drop i) E' = some out,
    ⟨ds.length, by simp, E1, Hi1, Fs1, h1, Step.refl _ _ _, q⟩, fun i m σ' H' hw => ?_⟩
  obtain ⟨hm, E', Hi', Fs', h', s', qf⟩ := hw
  have ha' : H' a = some o := s'.fr a o ha hf
  cases e : ds.drop i with
  | nil =>
    rw [e] at qf
    cases qf
    exact .inl ⟨stop H' ha' i (List.drop_eq_nil_iff.mp e), go σ' Hi' H' Fs' h' s'⟩
  | cons d r =>
    have hlt : i < ds.length := by
      refine Nat.lt_of_not_le fun z => ?_
      rw [List.drop_eq_nil_iff.mpr z] at e
      cases e
    have hd : ds[i]? = some d := by
      have := List.getElem?_drop (xs := ds) (i := i) (j := 0)
      rw [e] at this
      simpa using this.symm
    have hr : ds.drop (i + 1) = r := by
      rw [← List.drop_drop, e]
      rfl
    rw [e] at qf
    obtain ⟨E2, q2, qf⟩ := Option.bind_eq_some_iff.mp qf
    obtain ⟨o', q3, qf⟩ := Option.bind_eq_some_iff.mp qf
    refine .inr ⟨goes H' ha' i hlt, fun σ2 H2 => i + 1 + (m - 1) = ds.length ∧ ∃ E' Hi' Fs', RepE K A Hi' H2 σ2 E' Fs' ∧ Step Hi1 H1 (InE Fs1) Hi' H2 (InE Fs') ∧ forD mg mb (ds.drop (i + 1)) E' = some out,
      fun σ2 H2 hN => ⟨m - 1, by omega, hN⟩, fun x H2 hy => ?_⟩
    obtain ⟨Hi2, gr, hx⟩ := yld Hi' H' s'.ex h'.sub i d x H2 hd hy
    refine hg (.imm d) E' E2 q2 A σ' Hi2 H2 Fs' x [] (h'.grow gr) (.imm hx) (fun a z => nomatch z) _ fun σ3 Hi3 H3 Fs3 _ h3 s3 => ?_
    have s03 : Step Hi1 H1 (InE Fs1) Hi3 H3 (InE Fs3) := s'.trans ((gr.step _).trans s3)
    refine hb E2 o' q3 A σ3 Hi3 H3 Fs3 _ h3 ?_
    have again : ∀ E4, forD mg mb r E4 = some out → ∀ σ4 Hi4 H4 Fs4, RepE K A Hi4 H4 σ4 E4 Fs4 → Step Hi3 H3 (InE Fs3) Hi4 H4 (InE Fs4) → i + 1 + (m - 1) = ds.length ∧ ∃ E' Hi' Fs', RepE K A Hi' H4 σ4 E' Fs' ∧ Step Hi1 H1 (InE Fs1) Hi' H4 (InE Fs') ∧ forD mg mb (ds.drop (i + 1)) E' = some out :=
      fun E4 q4 σ4 Hi4 H4 Fs4 h4 s4 => ⟨by omega, E4, Hi4, Fs4, h4, s03.trans s4, by rw [hr]; exact q4⟩
    cases o' with
    | nx E4 => exact again E4 qf
    | ct E4 => exact again E4 qf
    | bk E4 => cases qf; exact Goal.from (out := .nx E4) go s03
    | rt t E4 => cases qf; exact Goal.from (out := .rt t E4) go s03
/-- the dict is lost behind the loop: its place must be set anew -/
def mForIt (i : Nat) (mg : Tr → En → Option En) (mb : MS) : MS := fun E => match E[i]? with
  | some (.val (.dic ds)) => forD mg mb (pairsD ds) (E.set i .no)
  | _ => none
theorem itOk_it {a : Addr} {od : Obj} {xs : List (Key × V)} {ds : List (Key × PyData)} (r : KvR K Hi1 xs ds) (Hi H : Hp) (s1 : Same Hi1 Hi) (s2 : Same Hi H) (i : Nat) (d : PyData) (x : V) (H' : Hp) (q : (pairsD ds)[i]? = some d) (y : (Iti a od xs).yld i H x H') :
    ∃ Hi', Grow Hi H Hi' H' [] ∧ Dp K Hi' x d := by
  obtain ⟨T, k, v, e1, rfl, hT, rfl⟩ := y
  obtain ⟨e, rfl, hv⟩ := kvr_at r e1 q
  have g : Grow Hi H (upd Hi T (.tup [kV k, v])) (upd H T (.tup [kV k, v])) [] := Grow.imm s2 hT
  exact ⟨_, g, .tup (SqT.of upd_same) (.cons (keyDt_ok k) (.cons (dpMono (s1.trans g.ex) _ _ hv) .nil))⟩
theorem sr_forIt {i : Nat} {g : TG} {tb : TS} {mg : Tr → En → Option En} {mb : MS} {ws : List Nat} (hg : GR K g mg ws) (hb : SR K tb mb) : SR K (tLock (tFor (iItems (tVar i)) g tb)) (mForIt i mg mb) := fun E out q A σ Hi H Fs D h go => by
  unfold mForIt at q
  split at q
  · rename_i ds hE
    have hat : at? E i = some (.dic ds) := by
      show E[i]?.bind SL.tree = _
      rw [hE]
      rfl
    obtain ⟨v, ev, rt⟩ := h.val i _ hat
    generalize hF : Fs i = F at rt
    cases rt with
    | @dic a xs _ e1 e2 e3 =>
    have hlen : xs.length = (pairsD ds).length := by
      unfold pairsD
      rw [List.length_map]
      exact Paired.length e3
    have iI : i < E.length := by
      refine Nat.lt_of_not_le fun z => ?_
      rw [List.getElem?_eq_none z] at hE
      cases hE
    have at2 : ∀ j, at? (E.set i .no) j = if j = i then none else at? E j := fun j => by
      show (E.set i .no)[j]?.bind SL.tree = _
      rw [List.getElem?_set]
      by_cases hj : j = i
      · rw [if_pos hj, if_pos hj.symm, if_pos iI]
        rfl
      · rw [if_neg hj, if_neg (fun z => hj z.symm)]
        rfl
    refine ⟨a, .dK xs, e1, trivial, fun od => ?_⟩
    have fr2 : ∀ b, b ≠ a → upd H a (.frz od (.dK xs)) b = H b := fun b hb => upd_ne hb
    have naF : ∀ j, j ≠ i → a ∉ Fs j := fun j hj z => hj (h.dis j i a z (by rw [hF]; exact List.mem_cons_self))
    have h2 : RepE K A Hi (upd H a (.frz od (.dK xs))) σ (E.set i .no) (fun j => if j = i then [] else Fs j) := by
      refine ⟨fun b u z => ?_, by rw [List.length_set]; exact h.len, fun j t z => ?_, fun j t z => ?_, fun j z => ?_, fun j l b zj zl => ?_⟩
      · have nb : b ≠ a := fun y => by rw [y, e2] at z; cases z
        rw [fr2 b nb]
        exact h.sub b u z
      · rw [at2] at z
        split at z
        · cases z
        · rename_i hj
          obtain ⟨v, w1, w2⟩ := h.val j t z
          rw [if_neg hj]
          exact ⟨v, w1, w2.frame (Same.refl _) _ _ _ (fun b hb => fr2 b (fun y => naF j hj (y ▸ hb))) (fun b hb => (w2.own _ _ _ b hb).1)⟩
      · rw [List.getElem?_set] at z
        split at z
        · cases z
        · exact h.par j t z
      · show (if j = i then [] else Fs j) = []
        rw [at2] at z
        split
        · rfl
        · rename_i hj
          rw [if_neg hj] at z
          exact h.no j z
      · change b ∈ (if j = i then [] else Fs j) at zj
        change b ∈ (if l = i then [] else Fs l) at zl
        split at zj
        · cases zj
        · split at zl
          · cases zl
          · exact h.dis j l b zj zl
    have na : ¬ InE (fun j => if j = i then [] else Fs j) a := fun ⟨j, z⟩ => by
      dsimp only at z
      split at z
      · cases z
      · rename_i hj
        exact naF j hj z
    have sub : ∀ b, InE (fun j => if j = i then [] else Fs j) b → InE Fs b := fun b ⟨j, z⟩ => by
      dsimp only at z
      split at z
      · cases z
      · exact ⟨j, z⟩
    have inA : InE Fs a := ⟨i, by rw [hF]; exact List.mem_cons_self⟩
    have a2 : upd H a (.frz od (.dK xs)) a = some (.frz od (.dK xs)) := upd_same
    -- back to the dict of one's own
    have back : ∀ {Hi' H' : Hp} {F' : Addr → Prop}, Step Hi (upd H a (.frz od (.dK xs))) (InE fun j => if j = i then [] else Fs j) Hi' H' F' → Hi' a = none ∧ H' a = some (.frz od (.dK xs)) ∧ ¬ F' a ∧ Step Hi H (InE Fs) Hi' (upd H' a (.dK xs)) F' := fun {Hi' H' F'} s => by
      have b1 : Hi' a = none := by
        cases z : Hi' a with
        | none => rfl
        | some u =>
          rcases s.nh a u z with ⟨u', y⟩ | y | y
          · rw [e2] at y; cases y
          · exact absurd y na
          · rw [a2] at y; cases y
      have b3 : ¬ F' a := fun z => by
        rcases s.nw a z with y | y
        · exact na y
        · rw [a2] at y; cases y
      refine ⟨b1, s.fr a _ a2 na, b3, s.ex, fun b u z hb => ?_, fun b z => ?_, fun b u z => ?_⟩
      · have nb : b ≠ a := fun y => hb (y ▸ inA)
        rw [upd_ne nb]
        exact s.fr b u ((fr2 b nb).trans z) (fun y => hb (sub b y))
      · rcases s.nw b z with y | y
        · exact .inl (sub b y)
        · have nb : b ≠ a := fun w => by rw [w, a2] at y; cases y
          rw [fr2 b nb] at y
          exact .inr y
      · rcases s.nh b u z with y | y | y
        · exact .inl y
        · exact .inr (.inl (sub b y))
        · have nb : b ≠ a := fun w => by rw [w, a2] at y; cases y
          rw [fr2 b nb] at y
          exact .inr (.inr y)
    have rep : ∀ {Hi' H' : Hp} {σ' : L2.St} {E' : En} {Fs' : Nat → List Addr}, Hi' a = none → ¬ InE Fs' a → RepE K A Hi' H' σ' E' Fs' → RepE K A Hi' (upd H' a (.dK xs)) σ' E' Fs' := fun {Hi' H' σ' E' Fs'} b1 b3 h' =>
      ⟨fun b u z => by
        have nb : b ≠ a := fun y => by rw [y, b1] at z; cases z
        rw [upd_ne nb]
        exact h'.sub b u z, h'.len, fun j t z => by
        obtain ⟨v, w1, w2⟩ := h'.val j t z
        exact ⟨v, w1, w2.frame (Same.refl _) _ _ _ (fun b hb => upd_ne fun y => b3 ⟨j, y ▸ hb⟩) (fun b hb => (w2.own _ _ _ b hb).1)⟩, h'.par, h'.no, h'.dis⟩
    refine ⟨.ref a, ev, a, od, xs, rfl, a2, ?_⟩
    refine forIt_walk (o := .frz od (.dK xs)) (ds := pairsD ds) (fun H hH i hi => ⟨hH, by omega⟩) (fun H hH i hi => ⟨hH, by omega⟩) (itOk_it e3) a2 na h2 q hg hb ?_
    cases out with
    | nx E' => exact fun σ' Hi' H' Fs' h' s' => let ⟨b1, b2, b3, b4⟩ := back s'; ⟨b2, go σ' Hi' _ Fs' (rep b1 b3 h') b4⟩
    | bk E' => exact fun σ' Hi' H' Fs' h' s' => let ⟨b1, b2, b3, b4⟩ := back s'; ⟨b2, go σ' Hi' _ Fs' (rep b1 b3 h') b4⟩
    | ct E' => exact fun σ' Hi' H' Fs' h' s' => let ⟨b1, b2, b3, b4⟩ := back s'; ⟨b2, go σ' Hi' _ Fs' (rep b1 b3 h') b4⟩
    | rt t E' => exact fun v σ' Hi' H' Fs' G r h' d s' => let ⟨b1, b2, b3, b4⟩ := back s'; ⟨b2, go v σ' Hi' _ Fs' G (r.frame (Same.refl _) _ _ _ (fun b hb => upd_ne fun y => b3 (.inr (y ▸ hb))) (fun b hb => (r.own _ _ _ b hb).1)) (rep b1 (fun z => b3 (.inl z)) h') d b4⟩
  · cases q
end
end FL

/-! FL, part Y5: sorted(set(xs)), xs a list of ints -/
namespace FL
open PySem L2 PySem.Spec PyProof.Rows
/-- the set just made -/
abbrev bareSet (w : World) : Obj := { cls := .type "set", dict := none, data := .set #[] 0 (.fresh 0 0 (!w.params.followText "set-order")) }
section
variable {P : Program} {w : World} {A : Around} {E : Value → Shared → Prop} {s : Shared}
/-- what the filled set is known by -/
def Filled (w : World) (s : Shared) (ns : List Int) (r : Value) (t : Shared) : Prop := r = .none ∧ ∃ h' tk c, t = { s with heap := h', toks := tk } ∧
  SetR w h' s.heap.objs.size (fun j => decide (j ∈ ns)) c ∧ c ≤ ns.length ∧ ∀ b o, s.heap.get? b = some o → h'.get? b = some o
set_option maxRecDepth 100000 in
theorem set_of_list {l : Addr} {items : Array Value} (ns : List Int) {Q : Value → Shared → Prop} (hh : A.handled = none) (hl : s.heap.IsList l items) (hit : IntsAre items.toList ns) (hb : ns.length + 1 < scanBound)
    (h : ∀ (h' : Heap) (tk c : Nat), SetR w h' s.heap.objs.size (fun j => decide (j ∈ ns)) c → c ≤ ns.length → (∀ b o, s.heap.get? b = some o → h'.get? b = some o) → Q (.ref s.heap.objs.size) { s with heap := h', toks := tk }) :
    wpAny (model P w) A (call (.type "set") [.ref l]) Q E s := by
  have size : items.size = ns.length := (Array.length_toList ..).symm.trans (IntsAre.length hit)
  obtain ⟨c0, tl, mro⟩ := F.called_set.mro
  have made := F.called_set.made
  have below := F.called_set.sub
  apply wpAny_call
  apply codeAny_of_tree
  show wpAny _ _ (callAny (.type "set") _) _ _ _
  apply wpAny_pure
  refine ⟨Code.quiet_builtin _ (by decide +kernel), ?_⟩
  apply codeAny_builtin F.entry_type_call
  rw [Around.under_plain (weight_type_call_type "set" [.ref l] []) rfl]
  have f1 := F.called_set.notType
  have f2 := F.called_set.canCreate
  have f3 := F.typeCall_set_1 (.ref l)
  repeat any_goals first | assumption | wp_step
  apply codeAny_mono (code_set_led1 (.ref l) (E := E) (Q₁ := fun obj t => obj = .ref s.heap.objs.size ∧ t = { s with heap := s.heap.push (bareSet w) }) ⟨rfl, rfl⟩)
  intro r t hr
  match r, hr with
  | .error e, hr => exact hr
  | .ok (.ret obj), hr =>
    obtain ⟨rfl, rfl⟩ := hr
    have at0 : (s.heap.push (bareSet w)).get? s.heap.objs.size = some (bareSet w) := Heap.get?_push_size _ rfl
    have ty : Shared.TypeIs { s with heap := s.heap.push (bareSet w) } (.ref s.heap.objs.size) "set" := ⟨_, at0, rfl⟩
    have g1 := F.called_set.init.lookup
    have g2 := F.called_set.init.bind (.ref s.heap.objs.size)
    repeat any_goals first | assumption | wp_step
    apply codeAny_mono (codeAny_call_builtin (R := wants (Filled w s ns) E) F.called_set.init.plain F.entry_set_init (check_set_init_1 ty ?_))
    · intro r2 t2 hr2
      match r2, hr2 with
      | .error e, hr2 => exact hr2
      | .ok (.ret v), hr2 =>
        obtain ⟨rfl, h', tk, c, rfl, k1, k2, k3⟩ := hr2
        repeat any_goals first | assumption | wp_step
        exact h _ _ _ k1 k2 k3
    · obtain ⟨⟨oc, od, oa, os⟩, e0, cl, nn, dt⟩ := hl
      simp only at cl dt
      subst cl dt
      have isl : (s.heap.push (bareSet w)).IsList l items := ⟨_, Heap.get?_push_of_some _ e0, rfl, nn, rfl⟩
      have at1 := Heap.get?_push_of_some (bareSet w) e0
      have no1 := F.sub_list_set
      have no2 := F.sub_list_frozenset
      have no3 : (Value.type "list" == Value.type "dict") = false := by decide
      have ls : l < s.heap.objs.size := Heap.lt_size e0
      unfold Builtin.«set.__init__» noKeywords Builtin.Frozenset.updateFrom
      generalize hI : pyIter = goes
      wp_walk
      subst hI
      apply wpAny_pyIter_list isl
      apply wpAny_bind
      apply wpAny_runValue
      have big : (s.heap.push (bareSet w)).objs.size = s.heap.objs.size + 1 := Heap.size_push ..
      have n1 : l ≠ (s.heap.push (bareSet w)).objs.size := by rw [big]; exact Nat.ne_of_lt (Nat.lt_succ_of_lt ls)
      have n2 : s.heap.objs.size ∉ [(s.heap.push (bareSet w)).objs.size, l] := by
        intro z
        rw [big] at z
        rcases List.mem_cons.mp z with z | z
        · exact absurd z (Nat.ne_of_lt (Nat.lt_succ_self _))
        · exact absurd (List.mem_singleton.mp z) (Nat.ne_of_gt ls)
      have val : ∀ (i : Nat) (v : Value), items[i]? = some v → ∃ k t, ns[i]? = some k ∧ v = .int k t := by
        intro i v hv
        have hi : i < ns.length := size ▸ (Array.getElem?_eq_some_iff.mp hv).1
        obtain ⟨t, e⟩ := IntsAre.int_at hit i v ((Array.getElem?_toList ..).trans hv)
        have g : ns.getD i 0 = ns[i] := by
          rw [List.getD_eq_getElem?_getD, List.getElem?_eq_getElem hi]
          rfl
        exact ⟨ns[i], t, List.getElem?_eq_getElem hi, by rw [e, g]⟩
      have h3 : A.in1.in1.in1.handled = none := by simp [hh]
      apply set_update_ints ((Walks.list h3 _ l n1 items).toS) s.heap.objs.size n2 ns size hb val (items.size - 0) 0 _ (by omega) (Nat.zero_le _) ⟨⟨_, Heap.get?_push_size _ rfl, rfl, rfl⟩, isl.push _⟩
      · exact ⟨0, Nat.le_refl 0, setR_new_at (Heap.get?_push_of_some _ at0)⟩
      · intro t' c mv hc hS
        obtain ⟨h', gg, dd, tk, oo⟩ := t'
        obtain rfl : gg = s.gens := mv.gens
        obtain rfl : dd = s.drawn := mv.drawn
        obtain rfl : oo = s.os := mv.os
        show wpAny _ _ _ _ _ _
        apply wpAny_pure
        show wpAny _ _ (ret Value.none) _ _ _
        rw [size] at hc
        apply wpAny_pure
        refine ⟨rfl, h', tk, c, rfl, hS, hc, fun b o e => mv.heap b o (fun z => ?_) (Heap.get?_push_of_some _ (Heap.get?_push_of_some _ e))⟩
        have b0 : b < s.heap.objs.size := Heap.lt_size e
        rcases List.mem_cons.mp z with z | z
        · exact absurd z (Nat.ne_of_lt b0)
        · have z := List.mem_singleton.mp z
          rw [big] at z
          exact absurd z (Nat.ne_of_lt (Nat.lt_succ_of_lt b0))
end
/-- set(xs) -/
def rSetLI (K : PySem.W.Frag) (w : World) : List V → Hp → VK → Prop := fun xs H Q => ∃ (l : Addr) (ns : List Int), xs = [.ref l] ∧ SqL K H l (ns.map V.int) ∧ ns.length < 63 ∧
  ∀ (p : Addr) (c : Nat), H p = none → c ≤ ns.length → Q (.ref p) (upd H p (SetO w p (fun j => decide (j ∈ ns)) c))
theorem cr_setLI {X : Cx} (hc : X.calm = true) : CallR X (.type "set") (rSetLI X.K X.w) := by
  intro pins s σ H xs us Q I r h
  obtain ⟨l, ns, rfl, hq, hn, q⟩ := h
  rw [Vals.ref1 r]
  obtain ⟨its, rv, pl, hz⟩ := I.list hq
  have hi : IntsAre its.toArray.toList ns := ints_of_vals rv
  apply set_of_list ns (I.ok.hd hc) pl.isList hi (by unfold scanBound; omega)
  intro h' tk c R hcn k
  have J : Inv X pins σ (upd H s.heap.objs.size (SetO X.w s.heap.objs.size (fun j => decide (j ∈ ns)) c)) { s with heap := h', toks := tk } := I.laid (t' := tk) k (Nat.le_refl _) (setO_new R)
  exact ⟨.ref s.heap.objs.size, _, J, rfl, q _ c (I.hok.fresh (Nat.le_refl _)) hcn⟩
/-! ### sorted(set(xs)) -/
def insU (x : Int) : List Int → List Int
  | [] => [x]
  | y :: r => if x < y then x :: y :: r else if x = y then y :: r else y :: insU x r
def uniqI : List Int → List Int
  | [] => []
  | x :: r => insU x (uniqI r)
theorem insU_mem (x k : Int) : ∀ l : List Int, k ∈ insU x l ↔ k = x ∨ k ∈ l
  | [] => by simp [insU]
  | y :: r => by
    have ih := insU_mem x k r
    rw [insU]
    split
    · simp
    · split
      · rename_i e
        rw [e]
        simp
      · rw [List.mem_cons, ih, List.mem_cons]
        constructor
        · rintro (h | h | h)
          · exact .inr (.inl h)
          · exact .inl h
          · exact .inr (.inr h)
        · rintro (h | h | h)
          · exact .inr (.inl h)
          · exact .inl h
          · exact .inr (.inr h)
theorem insU_up (x : Int) : ∀ l : List Int, l.Pairwise (· < ·) → (insU x l).Pairwise (· < ·)
  | [], _ => by simp [insU]
  | y :: r, h => by
    obtain ⟨h1, h2⟩ := List.pairwise_cons.mp h
    rw [insU]
    split
    · rename_i hx
      refine List.pairwise_cons.mpr ⟨fun z hz => ?_, h⟩
      rcases List.mem_cons.mp hz with e | hz
      · rw [e]; exact hx
      · exact Int.lt_trans hx (h1 z hz)
    · split
      · exact h
      · refine List.pairwise_cons.mpr ⟨fun z hz => ?_, insU_up x r h2⟩
        rcases (insU_mem x z r).mp hz with e | hz
        · rw [e]; omega
        · exact h1 z hz
theorem uniq_mem (k : Int) : ∀ l : List Int, k ∈ uniqI l ↔ k ∈ l
  | [] => Iff.rfl
  | x :: r => by rw [uniqI, insU_mem, uniq_mem k r, List.mem_cons]
theorem uniq_up : ∀ l : List Int, (uniqI l).Pairwise (· < ·)
  | [] => List.Pairwise.nil
  | x :: r => by rw [uniqI]; exact insU_up x _ (uniq_up r)
/-- a strictly rising list is known by its members -/
theorem up_one {a b : List Int} (ha : a.Pairwise (· < ·)) (hb : b.Pairwise (· < ·)) (h : ∀ k, k ∈ a ↔ k ∈ b) : a = b := by
  have na : a.Nodup := ha.imp fun z => Int.ne_of_lt z
  have nb : b.Nodup := hb.imp fun z => Int.ne_of_lt z
  exact srt_one ((List.perm_ext_iff_of_nodup na nb).mpr h) (ha.imp fun z => Int.le_of_lt z) (hb.imp fun z => Int.le_of_lt z)
section
variable {K : PySem.W.Frag} {td : TE} {w : World}
def mSortSet (md : MR) : MF := fun E => (md E).bind fun q => (view q.2 q.1).bind fun t => (lstD t).bind fun ds => (intsOf ds).bind fun ns =>
  if ns.length < 63 then some (.lst (((uniqI ns).map PyData.int).map Tr.imm), q.2) else none
theorem fr_sortSet {md : MR} (hd : ER K td md) : FR K (tCB (rSortedSet w) (tCons (tCB (rSetLI K w) (tCons td tNil)) tNil)) (mSortSet md) := fun E u E' q A σ Hi H Fs h Q k => by
  unfold mSortSet at q
  obtain ⟨⟨o1, E1⟩, q1, q⟩ := Option.bind_eq_some_iff.mp q
  obtain ⟨t1, q2, q⟩ := Option.bind_eq_some_iff.mp q
  obtain ⟨ds, q3, q⟩ := Option.bind_eq_some_iff.mp q
  obtain ⟨ns, q4, q⟩ := Option.bind_eq_some_iff.mp q
  split at q
  · rename_i hl
    cases q
    refine hd E o1 _ q1 A σ Hi H Fs h _ fun v1 Hi1 H1 Fs1 G1 r1 h1 d1 s1 => ?_
    obtain ⟨F1, rt⟩ := h1.view r1 q2
    obtain ⟨a, vs, rfl, ha, hL⟩ := lstD_ok h1.sub rt q3
    have e := intsOf_ok ha q4
    subst e
    refine ⟨a, ns, rfl, hL, hl, fun p c hp hc => ?_⟩
    refine ⟨p, _, c, rfl, upd_same, by omega, fun ms b hs hm _ hb => ?_⟩
    have e : ms = uniqI ns := up_one hs (uniq_up ns) fun j => by rw [hm, uniq_mem, decide_eq_true_eq]
    subst e
    -- the set is forgotten: it is no part of what stands still, nor one's own
    have hb1 : H1 b = none := by
      by_cases z : b = p
      · rw [z]; exact hp
      · rw [upd_ne z] at hb; exact hb
    have g1 : Grow Hi1 H1 Hi1 (upd H1 p (SetO w p (fun j => decide (j ∈ ns)) c)) [] := ⟨Same.refl _, same_new hp, h1.sub.trans (same_new hp), fun _ z => (nomatch z), fun _ o z => .inl ⟨o, z⟩⟩
    have h2 := h1.grow g1
    exact giveL (K := K) h2.sub (ints_dp (K := K) (uniqI ns)) (fun v Hi3 H3 W rr g => k v Hi3 H3 Fs1 W rr (h2.grow g) (h2.fresh g) ((s1.seq (g1.step _)).seq (g.step _))) b hb
  · cases q
end
end FL

/-! FL, part Y6: tuples made by tuple(xs), known to be without a dict of their own; t.index(k) -/
namespace FL
open PySem L2 PySem.Spec PyProof.Rows
/-- tuple(xs) of a list: the new object as it is -/
def rTupM (K : PySem.W.Frag) : List V → Hp → VK → Prop := fun xs H Q => ∃ (p : Addr) (ys : List V), xs = [.ref p] ∧ SqL K H p ys ∧ ∀ (l : Addr) (o : Obj), H l = none → o.dict = none → Q (.ref l) (upd H l (.frz o (.tup ys)))
theorem cr_tupM {X : Cx} : CallR X (.type "tuple") (rTupM X.K) := by
  intro pins s σ H xs us Q I r h
  obtain ⟨p, ys, rfl, hq, q⟩ := h
  rw [Vals.ref1 r]
  obtain ⟨its, rv, pl, hz⟩ := I.list hq
  have ln := rv.length
  refine call_tuple_list pl.isList ?_ (by rw [List.size_toArray]; omega)
  · intro h' old
    have I1 : Inv X pins σ H { s with heap := h' } := I.kept (t' := s.toks) old
    let ob : Obj := { cls := .type "tuple", data := .seq its.toArray }
    have ok : ObjOk X.prog X.w (upd H h'.objs.size (.frz ob (.tup ys))) (h'.push ob) h'.objs.size (.frz ob (.tup ys)) := ⟨Heap.get?_push_size _ rfl, hz, its, rv, IsTup.new _ _⟩
    have I2 := I1.laid (t' := s.toks) (fun b u e => Heap.get?_push_of_some _ e) (Nat.le_refl _) ok
    exact ⟨.ref h'.objs.size, _, I2, rfl, q _ ob (I1.hok.fresh (Nat.le_refl _)) rfl⟩
section
variable {K : PySem.W.Frag} {Hi H : Hp}
def fTupM : List Tr → Option Tr
  | [t] => (lstD t).map Tr.tpl
  | _ => none
theorem c_tupM : CallT K (rTupM K) fTupM := fun ts w q Hi H xs sub r Q k => by
  unfold fTupM at q
  split at q
  · obtain ⟨ds, q1, rfl⟩ := Option.map_eq_some_iff.mp q
    obtain ⟨x, F, rfl, rt⟩ := r.one_inv
    obtain ⟨a, vs, rfl, ha, hL⟩ := lstD_ok sub rt q1
    refine ⟨a, vs, rfl, hL, fun l o hl hd => ?_⟩
    have g : Grow Hi H (upd Hi l (.frz o (.tup vs))) (upd H l (.frz o (.tup vs))) [] := Grow.imm sub hl
    exact k _ _ _ [] (.tpl upd_same hd (dpMonos g.ex _ _ ha)) g
  · cases q
end
/-! ### t.index(k) -/
def tTIdx (to te : TE) : TE := fun σ H Q => to σ H fun x H1 => ∃ (p : Addr) (o : Obj) (ns : List Int), x = .ref p ∧ H1 p = some (.frz o (.tup (ns.map V.int))) ∧ o.dict = none ∧
  tCons te tNil σ H1 fun xs H2 => ∃ k : Int, xs = [.int k] ∧ H2 p = some (.frz o (.tup (ns.map V.int))) ∧ k ∈ ns ∧ Q (.int (ns.idxOf k : Nat)) H2
section
variable {X : Cx} {o e : Expr} {to te : TE} {apos cpos : Pos}
theorem frz_tup {pins : List (Addr × Obj)} {σ : L2.St} {H : Hp} {s : Shared} (I : Inv X pins σ H s) {p : Addr} {ob : Obj} {ys : List V} (h : H p = some (.frz ob (.tup ys))) :
    s.heap.get? p = some ob ∧ ob.cls = .type "tuple" ∧ ∃ its : List Value, Vals ys its ∧ s.heap.IsTuple p its.toArray := by
  obtain ⟨e0, _, its, rv, o1, e1, c1, n1, d1⟩ := I.hok p _ h
  have e2 := e1
  rw [e0] at e2
  cases e2
  exact ⟨e0, c1, its, rv, ob, e1, c1, n1, d1⟩
theorem pe_tIdx (ho : PE X o to) (he : PE X e te)
    (hbase : attributeBase o "index" X.env (eval o X.env) = eval o X.env := by rfl)
    (hfew : ((backTo cpos (starEach [e] X.env)).all (fun x => !x.1) && (backToKw cpos (keywordEach [] X.env)).all (fun x => x.1.isSome)
      && decide ([e].length + ([] : List Keyword).length + (if ([] : List Keyword).isEmpty then 0 else 1) < 30)) = true := by rfl)
    (hline : (apos.endLine == cpos.line) = true := by rfl) (hs : starEach [e] X.env = (false, eval e X.env) :: starEach [] X.env := by rfl) (hplain : (backTo cpos (starEach [] X.env)).any (·.1) = false := by rfl) :
    PE X (.Call (.Attribute o "index" apos) [e] [] cpos) (tTIdx to te) := by
  constructor
  intro pins s σ H Q I h
  refine wpAny_Call_method_late hbase hfew hline rfl (thn (ho.run pins s σ H _ I h) ?_)
  rintro v s1 ⟨x, H1, I1, r1, p, ob, ns, rfl, hp, hd, q1⟩
  have ev : v = Value.ref p := r1
  subst ev
  obtain ⟨g0, gc, _⟩ := frz_tup I1 hp
  refine ⟨"tuple", "tuple.index", F.plainAttrs_tuple, F.slot_tuple_index, F.type_tuple_index, ⟨ob, g0, gc⟩, fun a z => ?_, ?_⟩
  · cases z
    exact ⟨ob, g0, hd⟩
  · have hA := (pa_cons (hs := hs) he pa_nil).run cpos pins s1 σ H1 _ I1 q1
    rw [hs] at hA ⊢
    refine Calls.callWith_builtin ?_ (Calls.evalArgs_plain ?_)
    · show (false || (backTo cpos (starEach [] X.env)).any (·.1)) = false
      rw [hplain]
      rfl
    · refine thn hA ?_
      rintro us s2 ⟨vs, H2, I2, r2, k, rfl, hp2, hk, q2⟩
      obtain ⟨_, _, its, rv, it⟩ := frz_tup I2 hp2
      obtain ⟨u, rfl, ru⟩ := r2.one
      obtain ⟨t, rfl⟩ := ru
      exact PySem.SeqAt.tuple_index_ints it (ints_of_vals rv) hk ⟨.int _, H2, I2.tok _, ⟨_, rfl⟩, q2⟩
end
section
variable {K : PySem.W.Frag} {te : TE}
def mTIdx (i : Nat) (me : MF) : MF := fun E => match E[i]? with
  | some (.val (.tpl ds)) => (intsOf ds).bind fun ns => (me E).bind fun r => (iOf r.1).bind fun k => if k ∈ ns then some (.imm (.int (ns.idxOf k : Nat)), r.2) else none
  | _ => none
theorem fr_tIdx {i : Nat} {me : MF} (he : FR K te me) : FR K (tTIdx (tVar i) te) (mTIdx i me) := fun E u E' q A σ Hi H Fs h Q k => by
  unfold mTIdx at q
  split at q
  · rename_i ds hE
    obtain ⟨ns, q1, q⟩ := Option.bind_eq_some_iff.mp q
    obtain ⟨⟨t1, E1⟩, q2, q⟩ := Option.bind_eq_some_iff.mp q
    obtain ⟨n, q3, q⟩ := Option.bind_eq_some_iff.mp q
    split at q
    · rename_i hn
      cases q
      have e := iOf_inv q3
      dsimp only at e
      subst e
      obtain ⟨v, ev, rt⟩ := h.val i _ (at_val hE)
      generalize Fs i = F at rt
      cases rt with
      | tpl e1 e2 e3 =>
        have e := intsOf_ok e3 q1
        subst e
        refine ⟨_, ev, _, _, ns, rfl, h.sub _ _ e1, e2, ?_⟩
        refine he E _ _ q2 A σ Hi H Fs h _ fun v1 Hi1 H1 Fs1 G r1 h1 d1 s1 => ?_
        obtain ⟨e, eG⟩ := r1.int_inv
        subst e eG
        refine ⟨n, rfl, h1.sub _ _ (s1.ex _ _ e1), hn, ?_⟩
        exact giveI (K := K) h1.sub fun v Hi3 H3 W rr g => k v Hi3 H3 Fs1 W rr (h1.grow g) (h1.fresh g) (s1.seq (g.step _))
    · cases q
  · cases q
end
theorem v_isT {ds : List PyData} : isOwn (.tpl ds) = false := rfl
end FL

/-! FL, part Y7: for x in xs, xs one's own list of trees: each tree goes over to x -/
namespace FL
open PySem L2
section
variable {K : PySem.W.Frag} {A : List V} {Hi H Hi1 H1 Hi' H' : Hp} {σ : L2.St} {E : En} {Fs : Nat → List Addr} {te : TE} {m : MF}
theorem Step.plus {F F' : Addr → Prop} {G : List Addr} (s : Step Hi H F Hi' H' F') (h : ∀ x ∈ G, F x ∨ H x = none) : Step Hi H F Hi' H' (fun x => F' x ∨ x ∈ G) :=
  ⟨s.ex, s.fr, fun a z => z.elim (s.nw a) (h a), s.nh⟩
def forT (mg : Tr → En → Option En) (mb : MS) : List Tr → MS
  | [], E => some (.nx E)
  | t :: ts, E => (mg t E).bind fun E1 => (mb E1).bind (afterTurn (forT mg mb ts))
def forL (mg : Tr → En → Option En) (mb : MS) (t : Tr) (E : En) : Option Out := match t with
  | .lst ts => forT mg mb ts E
  | _ => none
def mForT (m : MF) (mg : Tr → En → Option En) (mb : MS) : MS := fun E => (m E).bind fun p => forL mg mb p.1 p.2
theorem sr_forT {g : TG} {tb : TS} {mg : Tr → En → Option En} {mb : MS} {ws : List Nat} (hm : FR K te m) (hg : GR K g mg ws) (hb : SR K tb mb) : SR K (tFor (iSeq K te) g tb) (mForT m mg mb) := fun E out q A σ Hi H Fs D h go => by
  obtain ⟨⟨t, E1⟩, q1, q⟩ := Option.bind_eq_some_iff.mp q
  unfold forL at q
  dsimp only at q
  split at q
  · rename_i ts
    refine hm E _ E1 q1 A σ Hi H Fs h _ fun v Hi1 H1 Fs1 G r h1 dG s1 => ?_
    cases r with
    | @lst a vs _ F r1 r2 r3 r4 =>
    have hlen : vs.length = ts.length := r3.length
    have old : ∀ x ∈ a :: F, InE Fs x ∨ H x = none := fun x hx => s1.nw x (.inr hx)
    refine .inl ⟨a, rfl, ⟨vs, SqL.of r1⟩, ?_⟩
    refine ⟨fun i m σ' H' => i + m = ts.length ∧ ∃ E' Hi' Fs' F', RepE K A Hi' H' σ' E' Fs' ∧ Step Hi H (InE Fs) Hi' H' (InE Fs') ∧ H' a = some (.lst vs) ∧ ¬ InE Fs' a ∧ RepTs K Hi' H' (vs.drop i) (ts.drop i) F' ∧ a ∉ F' ∧ (∀ x ∈ F', ¬ InE Fs' x) ∧ (∀ x ∈ F', x ∈ F) ∧ forT mg mb (ts.drop i) E' = some out,
      ⟨ts.length, by simp, E1, Hi1, Fs1, F, h1, s1.weak fun _ z => .inl z, r1, dG a List.mem_cons_self, r3, r4, fun x hx => dG x (List.mem_cons_of_mem _ hx), fun _ z => z, q⟩, fun i m σ' H' hw => ?_⟩
    obtain ⟨hm', E', Hi', Fs', F', h', s', ea, na, rr, aF, dF, sF, qf⟩ := hw
    cases e : ts.drop i with
    | nil =>
      rw [e] at qf
      cases qf
      have hl : ts.length ≤ i := List.drop_eq_nil_iff.mp e
      exact .inl ⟨⟨vs, SqL.of ea, by omega⟩, go σ' Hi' H' Fs' h' s'⟩
    | cons t r =>
      have hlt : i < ts.length := by
        refine Nat.lt_of_not_le fun z => ?_
        rw [List.drop_eq_nil_iff.mpr z] at e
        cases e
      have hr : ts.drop (i + 1) = r := by
        rw [← List.drop_drop, e]
        rfl
      rw [e] at qf rr
      generalize hvd : vs.drop i = vd at rr
      cases rr with
      | @cons v vr _ _ F1 G1 rv rs d1 =>
      have hv : vs[i]? = some v := by
        have := List.getElem?_drop (xs := vs) (i := i) (j := 0)
        rw [hvd] at this
        simpa using this.symm
      have hvr : vs.drop (i + 1) = vr := by
        rw [← List.drop_drop, hvd]
        rfl
      obtain ⟨E2, q2, qf⟩ := Option.bind_eq_some_iff.mp qf
      obtain ⟨o, q3, qf⟩ := Option.bind_eq_some_iff.mp qf
      refine .inr ⟨⟨vs, v, SqL.of ea, hv⟩, fun σ2 H2 => i + 1 + (m - 1) = ts.length ∧ ∃ E' Hi' Fs' F', RepE K A Hi' H2 σ2 E' Fs' ∧ Step Hi H (InE Fs) Hi' H2 (InE Fs') ∧ H2 a = some (.lst vs) ∧ ¬ InE Fs' a ∧ RepTs K Hi' H2 (vs.drop (i + 1)) (ts.drop (i + 1)) F' ∧ a ∉ F' ∧ (∀ x ∈ F', ¬ InE Fs' x) ∧ (∀ x ∈ F', x ∈ F) ∧ forT mg mb (ts.drop (i + 1)) E' = some out,
        fun σ2 H2 hN => ⟨m - 1, by omega, hN⟩, fun x H2 hy => ?_⟩
      obtain ⟨rfl, hx⟩ := hy
      have ex := hx vs (SqL.of ea)
      rw [hv] at ex
      cases ex
      refine hg t E' E2 q2 A σ' Hi' H2 Fs' v F1 h' rv (fun y hy => dF y (List.mem_append_left _ hy)) _ fun σ3 Hi3 H3 Fs3 _ h3 s3 => ?_
      have off : ∀ y ∈ G1, ¬ (InE Fs' y ∨ y ∈ F1) := fun y hy z => z.elim (dF y (List.mem_append_right _ hy)) fun w => d1 y w hy
      have offa : ¬ (InE Fs' a ∨ a ∈ F1) := fun z => z.elim na fun w => aF (List.mem_append_left _ w)
      have rs3 := s3.keeps rs off
      have ea3 := s3.fr a _ ea offa
      have off3 := s3.apart (fun y hy => (rs.ownG y hy).2) off
      have na3 : ¬ InE Fs3 a := (s3.apart (G := [a]) (fun y hy => by rw [List.mem_singleton.mp hy]; exact ⟨_, ea⟩) (fun y hy => by rw [List.mem_singleton.mp hy]; exact offa)) a (List.mem_singleton.mpr rfl)
      have s03 : Step Hi H (InE Fs) Hi3 H3 (InE Fs3) := (s'.plus (G := F1) fun x hx => old x (List.mem_cons_of_mem _ (sF x (List.mem_append_left _ hx)))).trans s3
      refine hb E2 o q3 A σ3 Hi3 H3 Fs3 _ h3 ?_
      have again : ∀ E4, forT mg mb r E4 = some out → ∀ σ4 Hi4 H4 Fs4, RepE K A Hi4 H4 σ4 E4 Fs4 → Step Hi3 H3 (InE Fs3) Hi4 H4 (InE Fs4) → i + 1 + (m - 1) = ts.length ∧ ∃ E' Hi' Fs' F', RepE K A Hi' H4 σ4 E' Fs' ∧ Step Hi H (InE Fs) Hi' H4 (InE Fs') ∧ H4 a = some (.lst vs) ∧ ¬ InE Fs' a ∧ RepTs K Hi' H4 (vs.drop (i + 1)) (ts.drop (i + 1)) F' ∧ a ∉ F' ∧ (∀ x ∈ F', ¬ InE Fs' x) ∧ (∀ x ∈ F', x ∈ F) ∧ forT mg mb (ts.drop (i + 1)) E' = some out :=
        fun E4 q4 σ4 Hi4 H4 Fs4 h4 s4 => ⟨by omega, E4, Hi4, Fs4, G1, h4, s03.trans s4, s4.fr a _ ea3 na3,
          (s4.apart (G := [a]) (fun y hy => by rw [List.mem_singleton.mp hy]; exact ⟨_, ea3⟩) (fun y hy => by rw [List.mem_singleton.mp hy]; exact na3)) a (List.mem_singleton.mpr rfl),
          by rw [hvr, hr]; exact s4.keeps rs3 off3, fun z => aF (List.mem_append_right _ z), s4.apart (fun y hy => (rs3.ownG y hy).2) off3, fun x hx => sF x (List.mem_append_right _ hx), by rw [hr]; exact q4⟩
      cases o with
      | nx E4 => exact again E4 qf
      | ct E4 => exact again E4 qf
      | bk E4 => cases qf; exact Goal.from (out := .nx E4) go s03
      | rt t E4 => cases qf; exact Goal.from (out := .rt t E4) go s03
  · cases q
end
end FL

/-! FL, part Y8: < of tuples within tuples, the least of a list of such -/
namespace FL
open PySem PySem.SeqAt PyProof.Rows PySem.W L2
def rLtX (K : PySem.W.Frag) : R2 := fun x y H Q => ∃ dx dy : PyData, Dp K H x dx ∧ Dp K H y dy ∧ alike dx dy = true ∧ dx ≠ .none ∧ dx.depth ≤ 8 ∧ Q (.bl (dataLt dx dy)) H
theorem op_ltX {X : Cx} (hu : X.A.units + 65 < cLine) : OpR X (compareOp .Lt) (rLtX X.K) := by
  intro pins s σ H x y v u Q I rx ry h
  obtain ⟨dx, dy, h1, h2, h3, h4, h5, q⟩ := h
  obtain ⟨as, ra⟩ := Dp.reads I dx x v h1 rx
  obtain ⟨bs, rb⟩ := Dp.reads I dy y u h2 ry
  exact lt_data ra rb h3 h4 (by have := Nat.min_le_left dx.depth dy.depth; omega) ⟨.bl _, H, I, rfl, q⟩
theorem minX_mem : ∀ (r : List PyData) (x : PyData), minD x r ∈ x :: r
  | [], x => List.mem_cons_self
  | y :: r, x => by
    show minD (if dataLt y x then y else x) r ∈ _
    have := minX_mem r (if dataLt y x then y else x)
    rcases List.mem_cons.mp this with e | e
    · rw [e]
      split
      · exact List.mem_cons_of_mem _ List.mem_cons_self
      · exact List.mem_cons_self
    · exact List.mem_cons_of_mem _ (List.mem_cons_of_mem _ e)
def rMinX (K : PySem.W.Frag) : List V → Hp → VK → Prop := fun vs H Q => ∃ (a : Addr) (xs : List V) (x : PyData) (r : List PyData), vs = [V.ref a] ∧ SqL K H a xs ∧ DpAll K H xs (x :: r) ∧ AlikeAll (x :: r) ∧ PyData.depthAll (x :: r) ≤ 8 ∧
  ∀ (i : Nat) (v : V), xs[i]? = some v → (x :: r)[i]? = some (minD x r) → Q v H
theorem cr_minX {X : Cx} (hc : X.calm = true) (hu : X.A.units + 65 < cLine) : CallR X (.builtin "min") (rMinX X.K) := by
  intro pins s σ H vs us Q I r h
  obtain ⟨a, xs, x, ds, rfl, hs, hd, al, dp, q⟩ := h
  obtain ⟨its, rv, pl, _⟩ := I.list hs
  rw [Vals.ref1 r]
  obtain ⟨as, rd⟩ := Dp.readsAll I (x :: ds) xs its hd rv
  refine min_list_data (I.ok.hd hc) pl.isList (by simpa using rd) al (by omega) fun i v h' tk bs hv hr hk => ?_
  have I2 : Inv X pins σ H { s with heap := h', toks := tk } := I.kept hk
  have hv' : its[i]? = some v := by simpa using hv
  have hi0 : i < xs.length := by
    have h1 := (List.getElem?_eq_some_iff.mp hv').1
    rw [← rv.length] at h1
    exact h1
  obtain ⟨u0, hu0, rw'⟩ := rv.get (List.getElem?_eq_getElem hi0)
  rw [hv'] at hu0
  cases hu0
  have hw : xs[i]? = some xs[i] := List.getElem?_eq_getElem hi0
  generalize xs[i] = w at hw rw'
  have hi : i < (x :: ds).length := by
    rw [← dpAll_len hd]
    exact hi0
  obtain ⟨w2, hw2, hdp⟩ := dpAll_at hd (List.getElem?_eq_getElem hi)
  rw [hw] at hw2
  cases hw2
  obtain ⟨cs, rc⟩ := Dp.reads I2 _ w v hdp rw'
  have mem : minD x ds ∈ x :: ds := minX_mem ds x
  have e : (x :: ds)[i] = minD x ds := alike_unique _ _ v cs bs (al.1 _ (List.getElem_mem hi) _ mem) rc hr
  exact ⟨w, H, I2, rw', q i w hw (by rw [List.getElem?_eq_getElem hi, e])⟩
section
variable {K : PySem.W.Frag}
open Classical in
noncomputable def fLtX (t u : Tr) : Option Tr := t.toD.bind fun dx => u.toD.bind fun dy => if alike dx dy = true ∧ dx ≠ .none ∧ dx.depth ≤ 8 then some (.imm (.bool (dataLt dx dy))) else none
theorem o_ltX : OpT K (rLtX K) fLtX := fun t u w q Hi H x y F G sub rt ru Q k => by
  unfold fLtX at q
  obtain ⟨dx, q1, q⟩ := Option.bind_eq_some_iff.mp q
  obtain ⟨dy, q2, q⟩ := Option.bind_eq_some_iff.mp q
  split at q
  · rename_i hc
    cases q
    exact ⟨dx, dy, looks sub rt q1, looks sub ru q2, hc.1, hc.2.1, hc.2.2, giveB sub k⟩
  · cases q
open Classical in
noncomputable def fMinX : List Tr → Option Tr
  | [t] => (lstD t).bind fun ds => match ds with
    | x :: r => if AlikeAll (x :: r) ∧ PyData.depthAll (x :: r) ≤ 8 then some (.imm (minD x r)) else none
    | [] => none
  | _ => none
theorem c_minX : CallT K (rMinX K) fMinX := fun ts w q Hi H xs sub r Q k => by
  unfold fMinX at q
  split at q
  · obtain ⟨ds, q1, q⟩ := Option.bind_eq_some_iff.mp q
    split at q
    · rename_i x ds
      split at q
      · rename_i hc
        cases q
        obtain ⟨v, F, rfl, rt⟩ := r.one_inv
        obtain ⟨a, vs, rfl, ha, hL⟩ := lstD_ok sub rt q1
        refine ⟨a, vs, x, ds, rfl, hL, dpMonos sub _ _ ha, hc.1, hc.2, fun i v hv hi => ?_⟩
        obtain ⟨v', e1, hd⟩ := dpAll_at ha hi
        rw [hv] at e1
        cases e1
        exact give sub hd k
      · cases q
    · cases q
  · cases q
end
end FL

/-! FL, part Y9: made tuples out of displays, slices and sums -/
namespace FL
open PySem L2 PySem.Spec PyProof.Rows
theorem viewR_ok {K : PySem.W.Frag} {A : List V} {Hi H : Hp} {σ : L2.St} {E : En} {Fs : Nat → List Addr} (h : RepE K A Hi H σ E Fs) {v : V} {o : Rf} {t : Tr} {G : List Addr} (r : RepR K Hi H σ v o G) (q : viewR E o = some t) : ∃ G, RepT K Hi H v t G := by
  cases r with
  | slot e' =>
    obtain ⟨u, e, rt⟩ := h.val _ t q
    rw [e'] at e
    cases e
    exact ⟨_, rt⟩
  | own r =>
    have q' : some _ = some t := q
    cases q'
    exact ⟨_, r⟩
/-- a new made tuple -/
theorem giveM {K : PySem.W.Frag} {Hi H : Hp} {Q : VK} {vs : List V} {ds : List PyData} (sub : Same Hi H) (hd : DpAll K Hi vs ds) (k : ∀ v Hi' H' W, RepT K Hi' H' v (.tpl ds) W → Grow Hi H Hi' H' W → Q v H') : ∀ (p : Addr) (o : Obj), H p = none → o.dict = none → Q (.ref p) (upd H p (.frz o (.tup vs))) := fun p o hp ho => by
  have g : Grow Hi H (upd Hi p (.frz o (.tup vs))) (upd H p (.frz o (.tup vs))) [] := Grow.imm sub hp
  exact k _ _ _ [] (.tpl upd_same ho (dpMonos g.ex _ _ hd)) g
/-! ### (a, b, ..) -/
def tTupM (t : TA) : TE := fun σ H Q => t σ H fun xs H1 => xs.length ≤ sizeLine ∧ ∀ (p : Addr) (o : Obj), H1 p = none → o.dict = none → Q (.ref p) (upd H1 p (.frz o (.tup xs)))
section
variable {X : Cx} {es : List Expr} {t : TA} {pos : Pos}
theorem pe_tupM {x1} (h : PA X es t) : PE X (.Tuple es x1 pos) (tTupM t) := by
  constructor
  intro pins s σ H Q I hq
  apply wpAny_Tuple_spliced
  refine thn (h.run pos pins s σ H _ I hq) ?_
  rintro us s1 ⟨xs, H1, I1, r, z, q⟩
  refine ⟨by rw [← r.length]; exact z, ?_⟩
  let ob : Obj := { cls := .type "tuple", data := .seq us.toArray }
  have ok : ObjOk X.prog X.w (upd H1 s1.heap.objs.size (.frz ob (.tup xs))) (s1.heap.push ob) s1.heap.objs.size (.frz ob (.tup xs)) := ⟨Heap.get?_push_size _ rfl, z, us, r, IsTup.new _ _⟩
  exact ⟨.ref s1.heap.objs.size, _, I1.laid (t' := s1.toks) (fun b u e => Heap.get?_push_of_some _ e) (Nat.le_refl _) ok, rfl, q _ ob (I1.hok.fresh (Nat.le_refl _)) rfl⟩
/-! ### t[lo:hi] -/
def wholeS (xs : List V) (lo hi : Option Int) : Prop := HT.sIx xs.length 0 lo = 0 ∧ HT.sIx xs.length xs.length hi = xs.length
def rSlM (K : PySem.W.Frag) : V → Option Int → Option Int → Hp → VK → Prop := fun x lo hi H Q => ∃ (a : Addr) (xs : List V), x = .ref a ∧ SqT K H a xs ∧ (wholeS xs lo hi → Q (.ref a) H) ∧
  (¬ wholeS xs lo hi → ∀ (p : Addr) (o : Obj), H p = none → o.dict = none → Q (.ref p) (upd H p (.frz o (.tup (cutV xs lo hi)))))
theorem sl_M : SlR X (rSlM X.K) := by
  intro pins s σ H x v vl vu lo hi sl Q I rx hs pl pu h
  obtain ⟨a, xs, rfl, hx, q1, q2⟩ := h
  by_cases hw : wholeS xs lo hi
  · exact sl_tupA pins s σ H _ v vl vu lo hi sl Q I rx hs pl pu ⟨a, xs, rfl, hx, q1, fun z => absurd hw z⟩
  · cases rx
    obtain ⟨its, r, ht, hz⟩ := I.tuple hx
    have ln : its.toArray.size = xs.length := by rw [List.size_toArray, r.length]
    refine ⟨"tuple", _, PyProof.Rows.slot_tuple_getitem.lookup, ht.typeIs, ?_⟩
    refine HT.getItem_tuple_cut ht hs pl pu (by rw [ln]; exact hw) ?_ (by rw [ln]; exact hz)
    rw [ln]
    exact ⟨.ref s.heap.objs.size, _, I.laid (t' := s.toks) (o := .frz _ (.tup (cutV xs lo hi))) (fun b ob q => Heap.get?_push_of_some _ q) (Nat.le_refl _)
      ⟨Heap.get?_push_size _ rfl, Nat.le_trans (cutV_length xs lo hi) hz, _, (r.drop (HT.sIx xs.length 0 lo)).take (HT.sIx xs.length xs.length hi - HT.sIx xs.length 0 lo), IsTup.new _ _⟩, rfl, q2 hw _ _ (I.hok.fresh (Nat.le_refl _)) rfl⟩
/-! ### t + u -/
def rCatM (K : PySem.W.Frag) : R2 := fun x y H Q => ∃ (a b : Addr) (xs ys : List V), x = .ref a ∧ y = .ref b ∧ SqT K H a xs ∧ SqT K H b ys ∧ xs.length + ys.length ≤ sizeLine ∧
  (xs = [] → Q (.ref b) H) ∧ (ys = [] → Q (.ref a) H) ∧ (xs ≠ [] → ys ≠ [] → ∀ (p : Addr) (o : Obj), H p = none → o.dict = none → Q (.ref p) (upd H p (.frz o (.tup (xs ++ ys)))))
theorem op_catM : OpR X (binaryOp .Add) (rCatM X.K) := by
  intro pins s σ H x y v u Q I rx ry h
  obtain ⟨a, b, xs, ys, rfl, rfl, ha, hb, hz, q0, q1, q2⟩ := h
  by_cases hx : xs = []
  · exact op_catA pins s σ H _ _ v u Q I rx ry ⟨a, b, xs, ys, rfl, rfl, ha, hb, hz, q0, fun z => absurd hx z, fun z => absurd hx z⟩
  · by_cases hy : ys = []
    · exact op_catA pins s σ H _ _ v u Q I rx ry ⟨a, b, xs, ys, rfl, rfl, ha, hb, hz, fun z => absurd z hx, fun _ => q1, fun _ z => absurd hy z⟩
    · cases rx
      cases ry
      obtain ⟨its, r1, p1, _⟩ := I.tuple ha
      obtain ⟨its2, r2, p2, _⟩ := I.tuple hb
      refine HT.cat_tup p1 p2 (fun z => hx (r1.nil_iff.mp z)) (fun z => absurd (r2.nil_iff.mp z) hy) (fun _ => ?_) (by rw [← r1.length, ← r2.length]; exact hz)
      exact ⟨.ref s.heap.objs.size, _, I.laid (t' := s.toks) (o := .frz _ (.tup (xs ++ ys))) (fun b ob q => Heap.get?_push_of_some _ q) (Nat.le_refl _)
        ⟨Heap.get?_push_size _ rfl, by rw [List.length_append]; exact hz, _, r1.append r2, IsTup.new _ _⟩, rfl, q2 hx hy _ _ (I.hok.fresh (Nat.le_refl _)) rfl⟩
end
section
variable {K : PySem.W.Frag} {te ta tb : TE} {ma mb : MR}
def mTupM (ms : MFs) : MF := fun E => (ms E).bind fun p => (imms p.1).bind fun ds => if ds.length ≤ 16777216 then some (.tpl ds, p.2) else none
theorem imms_rep {Hi H : Hp} : ∀ {ts : List Tr} {vs : List V} {G : List Addr} {ds : List PyData}, RepTs K Hi H vs ts G → imms ts = some ds → DpAll K Hi vs ds ∧ G = []
  | [], _, _, _, r, q => by
    cases r
    cases q
    exact ⟨.nil, rfl⟩
  | .imm d :: ts, _, _, _, r, q => by
    cases r with
    | cons r rs _ =>
      obtain ⟨es, q1, rfl⟩ := Option.map_eq_some_iff.mp q
      obtain ⟨h1, h2⟩ := imms_rep rs q1
      obtain ⟨h3, h4⟩ := r.imm_inv
      subst h2 h4
      exact ⟨.cons h3 h1, rfl⟩
  | .lst _ :: _, _, _, _, _, q => by cases q
  | .dic _ :: _, _, _, _, _, q => by cases q
  | .tpl _ :: _, _, _, _, _, q => by cases q
theorem fr_tupM {tr : TA} {ms : MFs} (hs : FA K tr ms) : FR K (tTupM tr) (mTupM ms) := fun E w E' q A σ Hi H Fs h Q k => by
  unfold mTupM at q
  obtain ⟨⟨ts, E1⟩, q1, q⟩ := Option.bind_eq_some_iff.mp q
  obtain ⟨ds, q2, q⟩ := Option.bind_eq_some_iff.mp q
  split at q
  · rename_i hl
    cases q
    refine hs E ts E1 q1 A σ Hi H Fs h _ fun vs Hi1 H1 Fs1 G r h1 d s => ?_
    obtain ⟨hd, eG⟩ := imms_rep r q2
    subst eG
    exact ⟨by rw [sizeLine_eq, dpAll_len hd]; exact hl, giveM h1.sub hd fun v Hi2 H2 W rr g => k v Hi2 H2 Fs1 W rr (h1.grow g) (h1.fresh g) (s.seq (g.step _))⟩
  · cases q
def mSlR (f : Tr → Option Int → Option Int → Option Tr) (ma : MR) (ml mh : MO) : MF := fun E => (ma E).bind fun p => (ml p.2).bind fun l => (mh l.2).bind fun u => (viewR u.2 p.1).bind fun t => (f t l.1 u.1).bind fun w => some (w, u.2)
theorem fr_slR {r : V → Option Int → Option Int → Hp → VK → Prop} {f : Tr → Option Int → Option Int → Option Tr} {tl th : TO} {ml mh : MO} (ha : ER K te ma) (hl : OR K tl ml) (hh : OR K th mh) (hr : SlT K r f) : FR K (tSl r te tl th) (mSlR f ma ml mh) := fun E w E' q A σ Hi H Fs h Q k => by
  unfold mSlR at q
  obtain ⟨⟨o1, E1⟩, q1, q⟩ := Option.bind_eq_some_iff.mp q
  obtain ⟨⟨l, E2⟩, q2, q⟩ := Option.bind_eq_some_iff.mp q
  obtain ⟨⟨u, E3⟩, q3, q⟩ := Option.bind_eq_some_iff.mp q
  obtain ⟨t, q4, q⟩ := Option.bind_eq_some_iff.mp q
  obtain ⟨w', q5, q⟩ := Option.bind_eq_some_iff.mp q
  cases q
  refine ha E o1 E1 q1 A σ Hi H Fs h _ fun v1 Hi1 H1 Fs1 G1 r1 h1 d1 s1 => ?_
  refine hl E1 l E2 q2 A σ Hi1 H1 Fs1 h1 _ fun Hi2 H2 Fs2 h2 s2 => ?_
  refine hh E2 u E3 q3 A σ Hi2 H2 Fs2 h2 _ fun Hi3 H3 Fs3 h3 s3 => ?_
  have s23 := s2.trans s3
  obtain ⟨F1, rt⟩ := viewR_ok h3 (s23.keepR r1 d1) q4
  exact hr t l u _ q5 Hi3 H3 v1 F1 h3.sub rt Q fun v Hi4 H4 W rw g => k v Hi4 H4 Fs3 W rw (h3.grow g) (h3.fresh g) (s1.seq (s23.trans (g.step _)))
def fSlM : Tr → Option Int → Option Int → Option Tr
  | .tpl ds, lo, hi => some (.tpl (cutL ds lo hi))
  | _, _, _ => none
theorem o_slM : SlT K (rSlM K) fSlM := fun t lo hi w q Hi H x F sub rt Q k => by
  cases t with
  | tpl ds =>
    cases q
    cases rt with
    | @tpl a o vs _ h1 h2 h3 =>
      refine ⟨a, vs, rfl, .inl (.inr ⟨_, sub _ _ h1⟩), fun hw => ?_, fun _ => giveM sub (dpAll_cut h3 lo hi) k⟩
      have e1 : cutL ds lo hi = ds := cut_whole (by rw [← dpAll_len h3]; exact hw)
      rw [e1] at k
      exact k _ Hi H [] (.tpl h1 h2 h3) (Grow.refl sub)
  | _ => cases q
def mOpR (f : Tr → Tr → Option Tr) (ma mb : MR) : MF := fun E => (ma E).bind fun p => (mb p.2).bind fun q => (viewR q.2 p.1).bind fun t => (viewR q.2 q.1).bind fun u => (f t u).bind fun w => some (w, q.2)
theorem fr_opR {r : R2} {f : Tr → Tr → Option Tr} (ha : ER K ta ma) (hb : ER K tb mb) (hr : OpT K r f) : FR K (tOp r ta tb) (mOpR f ma mb) := fun E w E' q A σ Hi H Fs h Q k => by
  unfold mOpR at q
  obtain ⟨⟨o1, E1⟩, q1, q⟩ := Option.bind_eq_some_iff.mp q
  obtain ⟨⟨o2, E2⟩, q2, q⟩ := Option.bind_eq_some_iff.mp q
  obtain ⟨t, q3, q⟩ := Option.bind_eq_some_iff.mp q
  obtain ⟨u, q4, q⟩ := Option.bind_eq_some_iff.mp q
  obtain ⟨w', q5, q⟩ := Option.bind_eq_some_iff.mp q
  cases q
  refine ha E o1 E1 q1 A σ Hi H Fs h _ fun v1 Hi1 H1 Fs1 G1 r1 h1 d1 s1 => ?_
  refine hb E1 o2 E2 q2 A σ Hi1 H1 Fs1 h1 _ fun v2 Hi2 H2 Fs2 G2 r2 h2 d2 s2 => ?_
  obtain ⟨F1, rt⟩ := viewR_ok h2 (s2.keepR r1 d1) q3
  obtain ⟨F2, ru⟩ := viewR_ok h2 r2 q4
  exact hr t u _ q5 Hi2 H2 v1 v2 F1 F2 h2.sub rt ru Q fun v Hi3 H3 W rw g => k v Hi3 H3 Fs2 W rw (h2.grow g) (h2.fresh g) (s1.seq (s2.seq (g.step _)))
def fAddM : Tr → Tr → Option Tr
  | .tpl ds, .tpl es => if ds.length + es.length ≤ 16777216 then some (.tpl (ds ++ es)) else none
  | _, _ => none
theorem o_addM : OpT K (rCatM K) fAddM := fun t u w q Hi H x y F G sub rt ru Q k => by
  unfold fAddM at q
  split at q
  · rename_i ds es
    split at q
    · rename_i hl
      cases q
      cases rt with
      | @tpl a o vs _ h1 h2 h3 =>
      cases ru with
      | @tpl b o' us _ k1 k2 k3 =>
        refine ⟨a, b, vs, us, rfl, rfl, .inl (.inr ⟨_, sub _ _ h1⟩), .inl (.inr ⟨_, sub _ _ k1⟩), by rw [sizeLine_eq, dpAll_len h3, dpAll_len k3]; exact hl, fun e => ?_, fun e => ?_, fun _ _ => giveM sub (dpAll_app h3 k3) k⟩
        · subst e
          cases h3
          exact k _ Hi H [] (.tpl k1 k2 k3) (Grow.refl sub)
        · subst e
          cases k3
          rw [List.append_nil] at k
          exact k _ Hi H [] (.tpl h1 h2 h3) (Grow.refl sub)
    · cases q
  · cases q
end
end FL

/-! printed by gen.py: the walk of rw_mirrorkin_k82_least_tables -/
namespace WK
open PySem L2 FL
def topS (i : Nat) : Stmt := PySem.Challenge.pw_mirrorkin_k82_least_tables.main.body.getD i (.Pass ⟨0, 0, 0, 0⟩)
abbrev s_turned_table : Stmt := topS 1
theorem sc_turned_table : FnScope ["table", "p", "whence", "i", "there", "j"] ["table", "p"] (defScope s_turned_table) := ⟨rfl, rfl, rfl, by decide +kernel, rfl, by decide +kernel, by decide +kernel⟩
abbrev s__law_hand : Stmt := topS 5
theorem sc__law_hand : FnScope ["_law_script", "_law_state", "_law_far", "_law_cell", "_law_k", "_law_mixed"] ["_law_script"] (defScope s__law_hand) := ⟨rfl, rfl, rfl, by decide +kernel, rfl, by decide +kernel, by decide +kernel⟩
abbrev s__law_take : Stmt := topS 6
theorem sc__law_take : FnScope ["_law_state", "_law_many", "_law_digit", "_law_mixed"] ["_law_state", "_law_many"] (defScope s__law_take) := ⟨rfl, rfl, rfl, by decide +kernel, rfl, by decide +kernel, by decide +kernel⟩
abbrev s__law_orders : Stmt := topS 8
theorem sc__law_orders : FnScope ["_law_many", "_law_found", "_law_k", "_law_longer", "_law_order", "_law_at"] ["_law_many"] (defScope s__law_orders) := ⟨rfl, rfl, rfl, by decide +kernel, rfl, by decide +kernel, by decide +kernel⟩
abbrev s__law_table : Stmt := topS 7
theorem sc__law_table : FnScope ["_law_state", "_law_many", "_law_stocks", "_law_stock", "_law_rows", "_law_j", "_law_i", "_law_row"] ["_law_state", "_law_many"] (defScope s__law_table) := ⟨rfl, rfl, rfl, by decide +kernel, rfl, by decide +kernel, by decide +kernel⟩
abbrev s__law_due : Stmt := topS 9
theorem sc__law_due : FnScope ["_law_table_here", "_law_best", "_law_whence", "_law_turned", "_law_there", "_law_i", "_law_j"] ["_law_table_here"] (defScope s__law_due) := ⟨rfl, rfl, rfl, by decide +kernel, rfl, by decide +kernel, by decide +kernel⟩
abbrev s__law_even : Stmt := topS 10
theorem sc__law_even : FnScope ["_law_state", "_law_many", "_law_pair", "_law_rows", "_law_j", "_law_i", "_law_row"] ["_law_state", "_law_many"] (defScope s__law_even) := ⟨rfl, rfl, rfl, by decide +kernel, rfl, by decide +kernel, by decide +kernel⟩
abbrev s_all_orders : Stmt := topS 2
theorem sc_all_orders : FnScope ["left", "found", "i", "rest", "j", "order"] ["left"] (defScope s_all_orders) := ⟨rfl, rfl, rfl, by decide +kernel, rfl, by decide +kernel, by decide +kernel⟩
abbrev s_least_table : Stmt := topS 3
theorem sc_least_table : FnScope ["table", "p"] ["table"] (defScope s_least_table) := ⟨rfl, rfl, rfl, by decide +kernel, rfl, by decide +kernel, by decide +kernel⟩
abbrev s_law : Stmt := topS 11
theorem sc_law : FnScope ["_law_script", "_law_state", "_law_k", "_law_many", "_law_table_here", "_law_due_here", "_law_left", "_law_order", "_law_other", "_law_found", "_law_j", "_law_i"] ["_law_script"] (defScope s_law) := ⟨rfl, rfl, rfl, by decide +kernel, rfl, by decide +kernel, by decide +kernel⟩
/-! ### the mirrors -/
noncomputable def B_turned_table_1 : MS :=
    (mAsg (mFz (mVar 3)) (mSub 2 fSetA (mFz (mVar 4))))
noncomputable def X_turned_table_1 : MF :=
    (mOp fIx (mER (mOp fIx (mVar 0) (mVar 3))) (mVar 5))
noncomputable def X_turned_table_2 : MF :=
    (mCB fTuple (arCons (mER (mLc (mSeqI (mFz (mVar 2))) (mName 5) mYes X_turned_table_1 [5])) arNil))
noncomputable def m_turned_table : MS :=
    (mSeq (mAsg (mOp fMul (mER (mLst (faCons (mC (.int 0)) faNil))) (mER (mCB fLen (arCons (mVar 1) arNil)))) (mName 2))
    (mSeq (mFor (mEnum (mFz (mVar 1))) (mTupG 2 (gsCons (mName 3) (gsCons (mName 4) gsNil))) B_turned_table_1)
    (mRet (mCB fTuple (arCons (mER (mLc (mSeqI (mFz (mVar 2))) (mName 3) mYes X_turned_table_2 [3])) arNil)))))
noncomputable def B__law_hand_1 : MS :=
    (mSeq (mAsg (mOp fAdd (mER (mOp fIx (mVar 1) (mER (mC (.int 0))))) (mER (mOp fMul (mER (mOp fMod (mER (mCB fAbs (arCons (mVar 3) arNil))) (mER (mOp fPow (mER (mC (.int 10))) (mER (mC (.int 60))))))) (mVar 2)))) (mSub 1 fSetA (mC (.int 0))))
    (mAsg (mOp fMul (mVar 2) (mER (mOp fPow (mER (mC (.int 10))) (mER (mC (.int 60)))))) (mName 2)))
noncomputable def B__law_hand_2 : MS :=
    (mSeq (mAsg (mOp fAdd (mER (mOp fAdd (mER (mOp fMod (mVar 3) (mER (mC (.int 2305843009213693951))))) (mER (mOp fMul (mER (mC (.int 7919))) (mVar 4))))) (mER (mC (.int 3)))) (mName 5))
    (mAsg (mOp fMod (mER (mOp fAdd (mER (mOp fMul (mER (mOp fIx (mVar 1) (mER (mC (.int 1))))) (mER (mC (.int 48271))))) (mVar 5))) (mER (mC (.int 2305843009213693951)))) (mSub 1 fSetA (mC (.int 1)))))
noncomputable def m__law_hand : MS :=
    (mSeq (mAsg (mLst (faCons (mC (.int 0)) (faCons (mC (.int 0)) (faCons (mC (.int 0)) faNil)))) (mName 1))
    (mSeq (mIfS (mAnd (mTest (mOp fGt (mER (mCB fLen (arCons (mVar 0) arNil))) (mER (mC (.int 0))))) (mTest (mOp fGe (mER (mOp fIx (mVar 0) (mER (mC (.int 0))))) (mER (mOp fPow (mER (mC (.int 10))) (mER (mC (.int 18)))))))) (mSeq (mAsg (mC (.int 1)) (mName 2))
    (mFor (mSeqI (mSl fSl (mVar 0) moNone (moSome (mC (.int 63))))) (mName 3) B__law_hand_1)) mNext)
    (mSeq (mFor (mEnum (mSl fSl (mVar 0) moNone (moSome (mC (.int 63))))) (mTupG 2 (gsCons (mName 4) (gsCons (mName 3) gsNil))) B__law_hand_2)
    (mRet (mMv 1)))))
noncomputable def m__law_take : MS :=
    (mSeq (mIfS (mTest (mOp fGt (mER (mOp fIx (mVar 0) (mER (mC (.int 0))))) (mER (mC (.int 0))))) (mSeq (mAsg (mOp fMod (mER (mOp fIx (mVar 0) (mER (mC (.int 0))))) (mVar 1)) (mName 2))
    (mSeq (mAsg (mOp fDiv (mER (mOp fIx (mVar 0) (mER (mC (.int 0))))) (mVar 1)) (mSub 0 fSetA (mC (.int 0))))
    (mRet (mFz (mVar 2))))) mNext)
    (mSeq (mAsg (mOp fAdd (mER (mOp fIx (mVar 0) (mER (mC (.int 2))))) (mER (mC (.int 1)))) (mSub 0 fSetA (mC (.int 2))))
    (mSeq (mAsg (mOp fMod (mER (mOp fMul (mER (mOp fAdd (mER (mOp fAdd (mER (mOp fIx (mVar 0) (mER (mC (.int 1))))) (mER (mOp fMul (mER (mOp fMul (mER (mC (.int 65537))) (mER (mOp fIx (mVar 0) (mER (mC (.int 2))))))) (mER (mOp fIx (mVar 0) (mER (mC (.int 2))))))))) (mER (mC (.int 11))))) (mER (mC (.int 48271))))) (mER (mC (.int 2305843009213693921)))) (mName 3))
    (mSeq (mAsg (mOp fMod (mER (mOp fMul (mVar 3) (mER (mOp fAdd (mER (mOp fMod (mVar 3) (mER (mC (.int 1000003))))) (mER (mOp fMul (mER (mC (.int 99991))) (mER (mOp fIx (mVar 0) (mER (mC (.int 2))))))))))) (mER (mC (.int 2305843009213693907)))) (mName 3))
    (mRet (mOp fMod (mER (mOp fAdd (mER (mOp fDiv (mVar 3) (mER (mC (.int 97))))) (mER (mOp fDiv (mVar 3) (mER (mC (.int 1000033))))))) (mVar 1)))))))
noncomputable def X__law_orders_1 : MF :=
    (mOpR fAddM (mER (mOpR fAddM (mER (mSlR fSlM (mVar 4) moNone (moSome (mFz (mVar 5))))) (mER (mTupM (faCons (mFz (mVar 2)) faNil))))) (mER (mSlR fSlM (mVar 4) (moSome (mFz (mVar 5))) moNone)))
noncomputable def B__law_orders_1 : MS :=
    (mDrop (mMut 3 "list" fExtend (faCons (mLc (mRng1 (arCons (mER (mOp fAdd (mER (mCB fLen (arCons (mVar 4) arNil))) (mER (mC (.int 1))))) arNil)) (mName 5) mYes X__law_orders_1 [5]) faNil)))
noncomputable def B__law_orders_2 : MS :=
    (mSeq (mAsg (mLst faNil) (mName 3))
    (mSeq (mForT (mMv 1) (mName 4) B__law_orders_1)
    (mAsg (mMv 3) (mName 1))))
noncomputable def m__law_orders : MS :=
    (mSeq (mAsg (mLst (faCons (mTupM faNil) faNil)) (mName 1))
    (mSeq (mFor (mRng1 (arCons (mVar 0) arNil)) (mName 2) B__law_orders_2)
    (mRet (mMv 1))))
noncomputable def X__law_table_1 : MF :=
    (mOp fMul (mER (mLst (faCons (mC (.int 1)) faNil))) (mVar 1))
noncomputable def B__law_table_1 : MS :=
    (mSeq (mAsg (mOp fIx (mVar 3) (mER (mCall 2 (mFn 4 m__law_take) (arCons (mVar 0) (arCons (mER (mCB fLen (arCons (mVar 3) arNil))) arNil))))) (mSub2 4 (iAt 6) (iAt 5)))
    (mAsg (mPr (iIx2 4 (iAt 6) (iAt 5))) (mSub2 4 (iAt 5) (iAt 6))))
noncomputable def B__law_table_2 : MS :=
    (mFor (mRng1 (arCons (mVar 5) arNil)) (mName 6) B__law_table_1)
noncomputable def X__law_table_2 : MF :=
    (mCB fTuple (arCons (mVar 7) arNil))
noncomputable def m__law_table : MS :=
    (mSeq (mAsg (mLst (faCons (mTup (faCons (mC (.int 2)) (faCons (mC (.int 3)) faNil))) (faCons (mTup (faCons (mC (.int 2)) (faCons (mC (.int 3)) (faCons (mC (.int 0)) faNil)))) (faCons (mTup (faCons (mC (.int 2)) (faCons (mC (.int 2)) (faCons (mC (.int 3)) (faCons (mC (.int 4)) faNil))))) (faCons (mTup (faCons (mC (.int 2)) (faCons (mC (.int 2)) (faCons (mC (.int 3)) (faCons (mC (.int 5)) faNil))))) (faCons (mTup (faCons (mC (.int 2)) (faCons (mC (.int 3)) (faCons (mC (.int 4)) (faCons (mC (.int 6)) (faCons (mC (.int 12)) (faCons (mC (.int 0)) faNil))))))) (faCons (mTup (faCons (mC (.int 2)) (faCons (mC (.int 3)) (faCons (mC (.int 4)) (faCons (mC (.int 5)) faNil))))) (faCons (mTup (faCons (mC (.int 2)) (faCons (mC (.int 7)) (faCons (mC (.int 0)) faNil)))) (faCons (mTup (faCons (mC (.int 2)) (faCons (mC (.int 4)) (faCons (mC (.int 8)) faNil)))) faNil))))))))) (mName 2))
    (mSeq (mAsg (mOp fAdd (mVar 2) (mER (mLst (faCons (mTup (faCons (mC (.int 2)) (faCons (mC (.int 9)) (faCons (mC (.int 5)) faNil)))) (faCons (mTup (faCons (mC (.int 2)) (faCons (mC (.int 5)) (faCons (mC (.int 10)) faNil)))) (faCons (mTup (faCons (mC (.int 2)) (faCons (mC (.int 2)) (faCons (mC (.int 11)) faNil)))) (faCons (mTup (faCons (mC (.int 2)) (faCons (mC (.int 3)) (faCons (mC (.int 4)) (faCons (mC (.int 5)) (faCons (mC (.int 6)) (faCons (mC (.int 10)) (faCons (mC (.int 12)) (faCons (mC (.int 0)) faNil))))))))) (faCons (mTup (faCons (mC (.int 2)) (faCons (mC (.int 7)) (faCons (mC (.int 8)) faNil)))) (faCons (mTup (faCons (mC (.int 2)) (faCons (mC (.int 2)) (faCons (mC (.int 2)) (faCons (mC (.int 3)) (faCons (mC (.int 8)) faNil)))))) faNil))))))))) (mName 2))
    (mSeq (mAsg (mOp fIx (mER (mOp fAdd (mVar 2) (mER (mLst (faCons (mTup (faCons (mC (.int 2)) (faCons (mC (.int 0)) faNil))) (faCons (mTup (faCons (mC (.int 2)) (faCons (mC (.int 2)) (faCons (mC (.int 2)) (faCons (mC (.int 2)) (faCons (mC (.int 3)) faNil)))))) faNil)))))) (mER (mCall 2 (mFn 4 m__law_take) (arCons (mVar 0) (arCons (mER (mC (.int 16))) arNil))))) (mName 3))
    (mSeq (mAsg (mLc (mRng1 (arCons (mVar 1) arNil)) (mName 6) mYes X__law_table_1 [6]) (mName 4))
    (mSeq (mFor (mRng1 (arCons (mVar 1) arNil)) (mName 5) B__law_table_2)
    (mRet (mCB fTuple (arCons (mER (mLc (mSeqI (mFz (mVar 4))) (mName 7) mYes X__law_table_2 [7])) arNil))))))))
noncomputable def X__law_due_1 : MF :=
    (mOp fIx (mER (mOp fIx (mVar 0) (mVar 5))) (mVar 6))
noncomputable def X__law_due_2 : MF :=
    (mCB fTuple (arCons (mER (mLc (mSeqI (mFz (mVar 2))) (mName 6) mYes X__law_due_1 [6])) arNil))
noncomputable def X__law_due_3 : MF :=
    (mTIdx 2 (mFz (mVar 5)))
noncomputable def B__law_due_1 : MS :=
    (mSeq (mAsg (mCB fTuple (arCons (mER (mLc (mSeqI (mFz (mVar 2))) (mName 5) mYes X__law_due_2 [5])) arNil)) (mName 3))
    (mSeq (mAsg (mCB fTuple (arCons (mER (mLc (mRng1 (arCons (mER (mCB fLen (arCons (mVar 2) arNil))) arNil)) (mName 5) mYes X__law_due_3 [5])) arNil)) (mName 4))
    (mIfS (mOr (mTest (mOp fIsN (mVar 1) (mER (mC .none)))) (mTest (mOp fLtX (mER (mTup (faCons (mFz (mVar 3)) (faCons (mFz (mVar 4)) faNil)))) (mVar 1)))) (mAsg (mTup (faCons (mFz (mVar 3)) (faCons (mFz (mVar 4)) faNil))) (mName 1)) mNext)))
noncomputable def m__law_due : MS :=
    (mSeq (mAsg (mC .none) (mName 1))
    (mSeq (mForT (mCall 1 (mFn 6 m__law_orders) (arCons (mER (mCB fLen (arCons (mVar 0) arNil))) arNil)) (mName 2) B__law_due_1)
    (mRet (mFz (mVar 1)))))
noncomputable def X__law_even_1 : MF :=
    (mOp fMul (mER (mLst (faCons (mC (.int 1)) faNil))) (mVar 1))
noncomputable def B__law_even_1 : MS :=
    (mSeq (mAsg (mOp fIx (mVar 2) (mER (mCall 2 (mFn 4 m__law_take) (arCons (mVar 0) (arCons (mER (mC (.int 2))) arNil))))) (mSub2 3 (iAt 5) (iAt 4)))
    (mAsg (mPr (iIx2 3 (iAt 5) (iAt 4))) (mSub2 3 (iAt 4) (iAt 5))))
noncomputable def B__law_even_2 : MS :=
    (mFor (mRng1 (arCons (mVar 4) arNil)) (mName 5) B__law_even_1)
noncomputable def X__law_even_2 : MF :=
    (mCB fTuple (arCons (mVar 6) arNil))
noncomputable def m__law_even : MS :=
    (mSeq (mAsg (mOp fIx (mER (mLst (faCons (mTup (faCons (mC (.int 2)) (faCons (mC (.int 3)) faNil))) (faCons (mTup (faCons (mC (.int 3)) (faCons (mC (.int 0)) faNil))) (faCons (mTup (faCons (mC (.int 2)) (faCons (mC (.int 4)) faNil))) (faCons (mTup (faCons (mC (.int 3)) (faCons (mC (.int 3)) faNil))) (faCons (mTup (faCons (mC (.int 2)) (faCons (mC (.int 0)) faNil))) (faCons (mTup (faCons (mC (.int 5)) (faCons (mC (.int 5)) faNil))) faNil)))))))) (mER (mCall 2 (mFn 4 m__law_take) (arCons (mVar 0) (arCons (mER (mC (.int 6))) arNil))))) (mName 2))
    (mSeq (mAsg (mLc (mRng1 (arCons (mVar 1) arNil)) (mName 5) mYes X__law_even_1 [5]) (mName 3))
    (mSeq (mFor (mRng1 (arCons (mVar 1) arNil)) (mName 4) B__law_even_2)
    (mRet (mCB fTuple (arCons (mER (mLc (mSeqI (mFz (mVar 3))) (mName 6) mYes X__law_even_2 [6])) arNil))))))
noncomputable def m_all_orders : Nat → MS
  | 0 => fun _ => none
  | fuel + 1 => (mSeq (mIfS (mTest (mOp fEq (mVar 0) (mER (mTup faNil)))) (mRet (mLst (faCons (mTup faNil) faNil))) mNext)
    (mSeq (mAsg (mLst faNil) (mName 1))
    (mSeq (mFor (mSeqI (mFz (mVar 0))) (mName 2) (mSeq (mAsg (mCB fTuple (arCons (mER (mLc (mSeqI (mFz (mVar 0))) (mName 4) (mTest (mOp fNe (mVar 4) (mVar 2))) (mFz (mVar 4)) [4])) arNil)) (mName 3))
    (mDrop (mMut 1 "list" fExtend (faCons (mLc (mSeqI (mCall 1 (mFn 6 (m_all_orders fuel)) (arCons (mVar 3) arNil))) (mName 5) mYes (mOp fAdd (mER (mTup (faCons (mFz (mVar 2)) faNil))) (mVar 5)) [5]) faNil)))))
    (mRet (mMv 1)))))
noncomputable def X_least_table_1 : MF :=
    (mTup (faCons (mCall 2 (mFn 6 m_turned_table) (arCons (mVar 0) (arCons (mVar 1) arNil))) (faCons (mFz (mVar 1)) faNil)))
noncomputable def m_least_table : MS :=
    (mRet (mCB fMinX (arCons (mER (mLc (mSeqI (mCall 1 (mFn 6 (m_all_orders 10)) (arCons (mER (mTupRg (rgM1 (mCB fLen (arCons (mVar 0) arNil))))) arNil))) (mName 1) mYes X_least_table_1 [1])) arNil)))
noncomputable def X_law_1 : MF :=
    (mMut 6 "list" fPopAt (faCons (mCall 2 (mFn 4 m__law_take) (arCons (mVar 1) (arCons (mER (mCB fLen (arCons (mVar 6) arNil))) arNil))) faNil))
noncomputable def X_law_2 : MF :=
    (mOp fIx (mER (mOp fIx (mVar 4) (mVar 11))) (mVar 10))
noncomputable def X_law_3 : MF :=
    (mCB fTuple (arCons (mER (mLc (mSeqI (mFz (mVar 7))) (mName 10) mYes X_law_2 [10])) arNil))
noncomputable def B_law_1 : MS :=
    (mSeq (mAsg (mOp fAdd (mER (mC (.int 1))) (mER (mOp fIx (mER (mLst (faCons (mCall 2 (mFn 4 m__law_take) (arCons (mVar 1) (arCons (mER (mC (.int 4))) arNil))) (faCons (mOp fAdd (mER (mC (.int 3))) (mER (mCall 2 (mFn 4 m__law_take) (arCons (mVar 1) (arCons (mER (mC (.int 3))) arNil))))) faNil)))) (mER (mCall 2 (mFn 4 m__law_take) (arCons (mVar 1) (arCons (mER (mC (.int 2))) arNil))))))) (mName 3))
    (mSeq (mAsg (mOp fIx (mER (mLst (faCons (mCall 2 (mFn 7 m__law_even) (arCons (mVar 1) (arCons (mVar 3) arNil))) (faCons (mCall 2 (mFn 8 m__law_table) (arCons (mVar 1) (arCons (mVar 3) arNil))) faNil)))) (mER (mCall 2 (mFn 4 m__law_take) (arCons (mVar 1) (arCons (mER (mC (.int 2))) arNil))))) (mName 4))
    (mSeq (mAsg (mCall 1 (mFn 7 m__law_due) (arCons (mVar 4) arNil)) (mName 5))
    (mSeq (mIfS (mOr (mTest (mOp fNe (mER (mCB fRepr (arCons (mER (mCall 1 (mFn 2 m_least_table) (arCons (mVar 4) arNil))) arNil))) (mER (mCB fRepr (arCons (mVar 5) arNil))))) (mTest (mOp fNe (mER (mCall 2 (mFn 6 m_turned_table) (arCons (mVar 4) (arCons (mER (mOp fIx (mVar 5) (mER (mC (.int 1))))) arNil)))) (mER (mOp fIx (mVar 5) (mER (mC (.int 0)))))))) (mRet (mC (.bool false))) mNext)
    (mSeq (mAsg (mLstRg (rgM1 (mFz (mVar 3)))) (mName 6))
    (mSeq (mAsg (mLc (mRng1 (arCons (mVar 3) arNil)) (mName 10) mYes X_law_1 [10]) (mName 7))
    (mSeq (mAsg (mCB fTuple (arCons (mER (mLc (mSeqI (mFz (mVar 7))) (mName 11) mYes X_law_3 [11])) arNil)) (mName 8))
    (mSeq (mAsg (mCall 1 (mFn 2 m_least_table) (arCons (mVar 8) arNil)) (mName 9))
    (mIfS (mOr (mTest (mOp fNe (mER (mCB fRepr (arCons (mVar 9) arNil))) (mER (mCB fRepr (arCons (mER (mCall 1 (mFn 7 m__law_due) (arCons (mVar 8) arNil))) arNil))))) (mTest (mOp fNe (mER (mOp fIx (mVar 9) (mER (mC (.int 0))))) (mER (mOp fIx (mVar 5) (mER (mC (.int 0)))))))) (mRet (mC (.bool false))) mNext)))))))))
noncomputable def m_law : MS :=
    (mSeq (mAsg (mCall 1 (mFn 6 m__law_hand) (arCons (mVar 0) arNil)) (mName 1))
    (mSeq (mIfS (mOr (mTest (mOp fNe (mER (mCB fRepr (arCons (mER (mCall 1 (mFn 2 m_least_table) (arCons (mER (mTup faNil)) arNil))) arNil))) (mER (mC (.str "((), ())"))))) (mTest (mOp fNe (mER (mCB fRepr (arCons (mER (mCall 1 (mFn 2 m_least_table) (arCons (mER (mTup (faCons (mTup (faCons (mC (.int 1)) faNil)) faNil))) arNil))) arNil))) (mER (mC (.str "(((1,),), (0,))")))))) (mRet (mC (.bool false))) mNext)
    (mSeq (mFor (mRng1 (arCons (mER (mCB fMax2 (arCons (mER (mC (.int 3))) (arCons (mER (mCB fMin2 (arCons (mER (mCB fLen (arCons (mVar 0) arNil))) (arCons (mER (mC (.int 6))) arNil)))) arNil)))) arNil)) (mName 2) B_law_1)
    (mRet (mC (.bool true))))))
/-! ### what the top has written -/
structure Txt (K : PySem.W.Frag) (mg : Str → Option Value) where
  a_turned_table : Addr
  d_turned_table : FuncData
  F_turned_table : Fun K "turned_table" "turned_table" s_turned_table a_turned_table d_turned_table
  g_turned_table : mg "turned_table" = some (.ref a_turned_table)
  b_turned_table : Binds K d_turned_table ["table", "p"] []
  a__law_hand : Addr
  d__law_hand : FuncData
  F__law_hand : Fun K "_law_hand" "_law_hand" s__law_hand a__law_hand d__law_hand
  g__law_hand : mg "_law_hand" = some (.ref a__law_hand)
  b__law_hand : Binds K d__law_hand ["_law_script"] []
  a__law_take : Addr
  d__law_take : FuncData
  F__law_take : Fun K "_law_take" "_law_take" s__law_take a__law_take d__law_take
  g__law_take : mg "_law_take" = some (.ref a__law_take)
  b__law_take : Binds K d__law_take ["_law_state", "_law_many"] []
  a__law_orders : Addr
  d__law_orders : FuncData
  F__law_orders : Fun K "_law_orders" "_law_orders" s__law_orders a__law_orders d__law_orders
  g__law_orders : mg "_law_orders" = some (.ref a__law_orders)
  b__law_orders : Binds K d__law_orders ["_law_many"] []
  a__law_table : Addr
  d__law_table : FuncData
  F__law_table : Fun K "_law_table" "_law_table" s__law_table a__law_table d__law_table
  g__law_table : mg "_law_table" = some (.ref a__law_table)
  b__law_table : Binds K d__law_table ["_law_state", "_law_many"] []
  a__law_due : Addr
  d__law_due : FuncData
  F__law_due : Fun K "_law_due" "_law_due" s__law_due a__law_due d__law_due
  g__law_due : mg "_law_due" = some (.ref a__law_due)
  b__law_due : Binds K d__law_due ["_law_table_here"] []
  a__law_even : Addr
  d__law_even : FuncData
  F__law_even : Fun K "_law_even" "_law_even" s__law_even a__law_even d__law_even
  g__law_even : mg "_law_even" = some (.ref a__law_even)
  b__law_even : Binds K d__law_even ["_law_state", "_law_many"] []
  a_all_orders : Addr
  d_all_orders : FuncData
  F_all_orders : Fun K "all_orders" "all_orders" s_all_orders a_all_orders d_all_orders
  g_all_orders : mg "all_orders" = some (.ref a_all_orders)
  b_all_orders : Binds K d_all_orders ["left"] []
  a_least_table : Addr
  d_least_table : FuncData
  F_least_table : Fun K "least_table" "least_table" s_least_table a_least_table d_least_table
  g_least_table : mg "least_table" = some (.ref a_least_table)
  b_least_table : Binds K d_least_table ["table"] []
  a_law : Addr
  d_law : FuncData
  F_law : Fun K "law" "law" s_law a_law d_law
  g_law : mg "law" = some (.ref a_law)
  b_law : Binds K d_law ["_law_script"] []
  z_abs : mg "abs" = none
  z_enumerate : mg "enumerate" = none
  z_len : mg "len" = none
  z_list : mg "list" = none
  z_max : mg "max" = none
  z_min : mg "min" = none
  z_range : mg "range" = none
  z_repr : mg "repr" = none
  z_tuple : mg "tuple" = none
section
variable {P : Program} {w : World} {K : PySem.W.Frag} {mg : Str → Option Value} {base : Heap}
theorem ok_turned_table (T : Txt K mg) : FnG P w K mg base CX0 1 T.a_turned_table T.d_turned_table ["table", "p"] (spM K 2 (mFn 6 m_turned_table)) :=
  fn_ok (N := ["table", "p", "whence", "i", "there", "j"]) (m := m_turned_table) T.F_turned_table sc_turned_table (by decide) fun cdv A outer s H E hr => ⟨_, (pss_cons (ps_set (i := 2) sc_turned_table.nd rfl (Or.inr rfl) (pe_op op_mulA (pe_lst (pa_cons pe_int pa_nil)) (pe_callB call_lenA (by rfl) T.z_len (by decide +kernel) (pa_cons (pv 1) pa_nil))))
      (pss_cons (ps_for PassesOwn.never rfl (pi_enumA (by rfl) T.z_enumerate (pa_cons (pv 1) pa_nil)) (pg_tup rfl (pgs_cons (pg_name (i := 3) sc_turned_table.nd rfl (by first | exact Or.inl rfl | exact Or.inr rfl)) (pgs_cons (pg_name (i := 4) sc_turned_table.nd rfl (by first | exact Or.inl rfl | exact Or.inr rfl)) pgs_nil))) (pss_one (ps_asg (pv 3) (pg_sub (pv 2) (pv 4) (set_any hr.u1)))))
      (pss_one (ps_ret (pe_callTy call_tuple_of (by rfl) T.z_tuple (by decide +kernel) (pa_cons (pe_lc rfl sc_turned_table.nd (pi_seq (pv 2)) (blkOk_by (own := [("i", 3)]) (by with_unfolding_all rfl)) (fun _ _ _ _ _ => (pg_name (i := 3) sc_turned_table.nd rfl (by first | exact Or.inl rfl | exact Or.inr rfl))) (fun _ _ _ _ _ => pts_nil) (fun _ _ _ _ _ => (pe_callTy call_tuple_of (by rfl) T.z_tuple (by decide +kernel) (pa_cons (pe_lc rfl sc_turned_table.nd (pi_seq (pv 2)) (blkOk_by (own := [("j", 5)]) (by with_unfolding_all rfl)) (fun _ _ _ _ _ => (pg_name (i := 5) sc_turned_table.nd rfl (by first | exact Or.inl rfl | exact Or.inr rfl))) (fun _ _ _ _ _ => pts_nil) (fun _ _ _ _ _ => (pe_ix ix_seq (pe_ix ix_seq (pv 0) (pv 3) (fun _ _ => rfl)) (pv 5) (fun _ _ => rfl)))) pa_nil)))) pa_nil)))))),
    (sr_seq (sr_asg (fr_op (er_of (fr_lst (fa_cons fr_int fa_nil))) (er_of (fr_cb (ar_cons er_var ar_nil) c_len)) o_mul) gr_name)
      (sr_seq (sr_for (ir_enum (fr_of er_var)) (gr_tup (grs_cons gr_name (grs_cons gr_name grs_nil))) (sr_asg (fr_of er_var) (gr_sub (fr_of er_var) set_tree)))
      (sr_ret (fr_cb (ar_cons (er_of (fr_lc (ir_seq (fr_of er_var)) gr_name tr_yes (fr_cb (ar_cons (er_of (fr_lc (ir_seq (fr_of er_var)) gr_name tr_yes (fr_op (er_of (fr_op er_var er_var o_ix)) er_var o_ix) (by decide))) ar_nil) c_tuple) (by decide))) ar_nil) c_tuple))))⟩
theorem ok__law_hand (T : Txt K mg) : FnG P w K mg base CX0 1 T.a__law_hand T.d__law_hand ["_law_script"] (spM K 1 (mFn 6 m__law_hand)) :=
  fn_ok (N := ["_law_script", "_law_state", "_law_far", "_law_cell", "_law_k", "_law_mixed"]) (m := m__law_hand) T.F__law_hand sc__law_hand (by decide) fun cdv A outer s H E hr => ⟨_, (pss_cons (ps_set (i := 1) sc__law_hand.nd rfl (Or.inl rfl) (pe_lst (pa_cons pe_int (pa_cons pe_int (pa_cons pe_int pa_nil)))))
      (pss_cons (ps_if (PW.pt (pw_and (pt_cmpR op_gt (pe_callB call_lenA (by rfl) T.z_len (by decide +kernel) (pa_cons (pv 0) pa_nil)) pe_int (nomark _)) (pw_and1 (pt_cmpR op_ge (pe_ix ix_seq (pv 0) pe_int (fun _ _ => rfl)) (pe_op op_pow pe_int pe_int) (nomark _))))) (pss_cons (ps_set (i := 2) sc__law_hand.nd rfl (Or.inl rfl) pe_int)
      (pss_one (ps_for PassesOwn.never rfl (pi_seq (pe_slice sl_any (pv 0) po_none (po_some pe_int))) (pg_name (i := 3) sc__law_hand.nd rfl (by first | exact Or.inl rfl | exact Or.inr rfl)) (pss_cons (ps_asg (pe_op op_addA (pe_ix ix_seq (pv 1) pe_int (fun _ _ => rfl)) (pe_op op_mulA (pe_op op_mod (pe_callB call_abs (by rfl) T.z_abs (by decide +kernel) (pa_cons (pv 3) pa_nil)) (pe_op op_pow pe_int pe_int)) (pv 2))) (pg_sub (pv 1) pe_int (set_any hr.u1)))
      (pss_one (ps_set (i := 2) sc__law_hand.nd rfl (Or.inl rfl) (pe_op op_mulA (pv 2) (pe_op op_pow pe_int pe_int)))))))) pss_nil)
      (pss_cons (ps_for PassesOwn.never rfl (pi_enumA (by rfl) T.z_enumerate (pa_cons (pe_slice sl_any (pv 0) po_none (po_some pe_int)) pa_nil)) (pg_tup rfl (pgs_cons (pg_name (i := 4) sc__law_hand.nd rfl (by first | exact Or.inl rfl | exact Or.inr rfl)) (pgs_cons (pg_name (i := 3) sc__law_hand.nd rfl (by first | exact Or.inl rfl | exact Or.inr rfl)) pgs_nil))) (pss_cons (ps_set (i := 5) sc__law_hand.nd rfl (Or.inl rfl) (pe_op op_addA (pe_op op_addA (pe_op op_mod (pv 3) pe_int) (pe_op op_mulA pe_int (pv 4))) pe_int))
      (pss_one (ps_asg (pe_op op_mod (pe_op op_addA (pe_op op_mulA (pe_ix ix_seq (pv 1) pe_int (fun _ _ => rfl)) pe_int) (pv 5)) pe_int) (pg_sub (pv 1) pe_int (set_any hr.u1))))))
      (pss_one (ps_ret (pv 1)))))),
    (sr_seq (sr_asg (fr_lst (fa_cons fr_int (fa_cons fr_int (fa_cons fr_int fa_nil)))) gr_name)
      (sr_seq (sr_if (tr_and (tr_test (fr_op (er_of (fr_cb (ar_cons er_var ar_nil) c_len)) (er_of fr_int) o_gt)) (tr_test (fr_op (er_of (fr_op er_var (er_of fr_int) o_ix)) (er_of (fr_op (er_of fr_int) (er_of fr_int) o_pow)) o_ge))) (sr_seq (sr_asg fr_int gr_name)
      (sr_for (ir_seq (fr_sl er_var or_none (or_some fr_int) o_sl)) gr_name (sr_seq (sr_asg (fr_op (er_of (fr_op er_var (er_of fr_int) o_ix)) (er_of (fr_op (er_of (fr_op (er_of (fr_cb (ar_cons er_var ar_nil) c_abs)) (er_of (fr_op (er_of fr_int) (er_of fr_int) o_pow)) o_mod)) er_var o_mul)) o_add) (gr_sub fr_int set_tree))
      (sr_asg (fr_op er_var (er_of (fr_op (er_of fr_int) (er_of fr_int) o_pow)) o_mul) gr_name)))) sr_next)
      (sr_seq (sr_for (ir_enum (fr_sl er_var or_none (or_some fr_int) o_sl)) (gr_tup (grs_cons gr_name (grs_cons gr_name grs_nil))) (sr_seq (sr_asg (fr_op (er_of (fr_op (er_of (fr_op er_var (er_of fr_int) o_mod)) (er_of (fr_op (er_of fr_int) er_var o_mul)) o_add)) (er_of fr_int) o_add) gr_name)
      (sr_asg (fr_op (er_of (fr_op (er_of (fr_op (er_of (fr_op er_var (er_of fr_int) o_ix)) (er_of fr_int) o_mul)) er_var o_add)) (er_of fr_int) o_mod) (gr_sub fr_int set_tree))))
      (sr_ret fr_mv))))⟩
theorem ok__law_take (T : Txt K mg) : FnG P w K mg base CX0 1 T.a__law_take T.d__law_take ["_law_state", "_law_many"] (spM K 2 (mFn 4 m__law_take)) :=
  fn_ok (N := ["_law_state", "_law_many", "_law_digit", "_law_mixed"]) (m := m__law_take) T.F__law_take sc__law_take (by decide) fun cdv A outer s H E hr => ⟨_, (pss_cons (ps_if (pt_cmpR op_gt (pe_ix ix_seq (pv 0) pe_int (fun _ _ => rfl)) pe_int (nomark _)) (pss_cons (ps_set (i := 2) sc__law_take.nd rfl (Or.inl rfl) (pe_op op_mod (pe_ix ix_seq (pv 0) pe_int (fun _ _ => rfl)) (pv 1)))
      (pss_cons (ps_asg (pe_op op_fdivW (pe_ix ix_seq (pv 0) pe_int (fun _ _ => rfl)) (pv 1)) (pg_sub (pv 0) pe_int (set_any hr.u1)))
      (pss_one (ps_ret (pv 2))))) pss_nil)
      (pss_cons (ps_asg (pe_op op_addA (pe_ix ix_seq (pv 0) pe_int (fun _ _ => rfl)) pe_int) (pg_sub (pv 0) pe_int (set_any hr.u1)))
      (pss_cons (ps_set (i := 3) sc__law_take.nd rfl (Or.inl rfl) (pe_op op_mod (pe_op op_mulA (pe_op op_addA (pe_op op_addA (pe_ix ix_seq (pv 0) pe_int (fun _ _ => rfl)) (pe_op op_mulA (pe_op op_mulA pe_int (pe_ix ix_seq (pv 0) pe_int (fun _ _ => rfl))) (pe_ix ix_seq (pv 0) pe_int (fun _ _ => rfl)))) pe_int) pe_int) pe_int))
      (pss_cons (ps_set (i := 3) sc__law_take.nd rfl (Or.inl rfl) (pe_op op_mod (pe_op op_mulA (pv 3) (pe_op op_addA (pe_op op_mod (pv 3) pe_int) (pe_op op_mulA pe_int (pe_ix ix_seq (pv 0) pe_int (fun _ _ => rfl))))) pe_int))
      (pss_one (ps_ret (pe_op op_mod (pe_op op_addA (pe_op op_fdivW (pv 3) pe_int) (pe_op op_fdivW (pv 3) pe_int)) (pv 1)))))))),
    (sr_seq (sr_if (tr_test (fr_op (er_of (fr_op er_var (er_of fr_int) o_ix)) (er_of fr_int) o_gt)) (sr_seq (sr_asg (fr_op (er_of (fr_op er_var (er_of fr_int) o_ix)) er_var o_mod) gr_name)
      (sr_seq (sr_asg (fr_op (er_of (fr_op er_var (er_of fr_int) o_ix)) er_var o_div) (gr_sub fr_int set_tree))
      (sr_ret (fr_of er_var)))) sr_next)
      (sr_seq (sr_asg (fr_op (er_of (fr_op er_var (er_of fr_int) o_ix)) (er_of fr_int) o_add) (gr_sub fr_int set_tree))
      (sr_seq (sr_asg (fr_op (er_of (fr_op (er_of (fr_op (er_of (fr_op (er_of (fr_op er_var (er_of fr_int) o_ix)) (er_of (fr_op (er_of (fr_op (er_of fr_int) (er_of (fr_op er_var (er_of fr_int) o_ix)) o_mul)) (er_of (fr_op er_var (er_of fr_int) o_ix)) o_mul)) o_add)) (er_of fr_int) o_add)) (er_of fr_int) o_mul)) (er_of fr_int) o_mod) gr_name)
      (sr_seq (sr_asg (fr_op (er_of (fr_op er_var (er_of (fr_op (er_of (fr_op er_var (er_of fr_int) o_mod)) (er_of (fr_op (er_of fr_int) (er_of (fr_op er_var (er_of fr_int) o_ix)) o_mul)) o_add)) o_mul)) (er_of fr_int) o_mod) gr_name)
      (sr_ret (fr_op (er_of (fr_op (er_of (fr_op er_var (er_of fr_int) o_div)) (er_of (fr_op er_var (er_of fr_int) o_div)) o_add)) er_var o_mod))))))⟩
theorem ok__law_orders (T : Txt K mg) : FnG P w K mg base CX0 1 T.a__law_orders T.d__law_orders ["_law_many"] (spM K 1 (mFn 6 m__law_orders)) :=
  fn_ok (N := ["_law_many", "_law_found", "_law_k", "_law_longer", "_law_order", "_law_at"]) (m := m__law_orders) T.F__law_orders sc__law_orders (by decide) fun cdv A outer s H E hr => ⟨_, (pss_cons (ps_set (i := 1) sc__law_orders.nd rfl (Or.inl rfl) (pe_lst (pa_cons (pe_tupM pa_nil) pa_nil)))
      (pss_cons (ps_for PassesOwn.never rfl (pi_range1 (by rfl) T.z_range (pa_cons (pv 0) pa_nil)) (pg_name (i := 2) sc__law_orders.nd rfl (by first | exact Or.inl rfl | exact Or.inr rfl)) (pss_cons (ps_set (i := 3) sc__law_orders.nd rfl (Or.inl rfl) (pe_lst pa_nil))
      (pss_cons (ps_for PassesOwn.never rfl (pi_seq (pv 1)) (pg_name (i := 4) sc__law_orders.nd rfl (by first | exact Or.inl rfl | exact Or.inr rfl)) (pss_one (ps_expr (pe_bm PySem.F.plainAttrs_list PySem.F.slot_list_extend PySem.F.type_list_extend mt_extend (pv 3) (pa_cons (pe_lc rfl sc__law_orders.nd (pi_range1 (by rfl) T.z_range (pa_cons (pe_op op_addA (pe_callB call_lenA (by rfl) T.z_len (by decide +kernel) (pa_cons (pv 4) pa_nil)) pe_int) pa_nil)) (blkOk_by (own := [("_law_at", 5)]) (by with_unfolding_all rfl)) (fun _ _ _ _ _ => (pg_name (i := 5) sc__law_orders.nd rfl (by first | exact Or.inl rfl | exact Or.inr rfl))) (fun _ _ _ _ _ => pts_nil) (fun _ _ _ _ _ => (pe_op op_catM (pe_op op_catM (pe_slice sl_M (pv 4) po_none (po_some (pv 5))) (pe_tupM (pa_cons (pv 2) pa_nil))) (pe_slice sl_M (pv 4) (po_some (pv 5)) po_none)))) pa_nil)))))
      (pss_one (ps_set (i := 1) sc__law_orders.nd rfl (Or.inl rfl) (pv 3))))))
      (pss_one (ps_ret (pv 1))))),
    (sr_seq (sr_asg (fr_lst (fa_cons (fr_tupM fa_nil) fa_nil)) gr_name)
      (sr_seq (sr_for (ir_rng1 (ar_cons er_var ar_nil)) gr_name (sr_seq (sr_asg (fr_lst fa_nil) gr_name)
      (sr_seq (sr_forT fr_mv gr_name (sr_drop (fr_mut (fa_cons (fr_lc (ir_rng1 (ar_cons (er_of (fr_op (er_of (fr_cb (ar_cons er_var ar_nil) c_len)) (er_of fr_int) o_add)) ar_nil)) gr_name tr_yes (fr_opR (er_of (fr_opR (er_of (fr_slR er_var or_none (or_some (fr_of er_var)) o_slM)) (er_of (fr_tupM (fa_cons (fr_of er_var) fa_nil))) o_addM)) (er_of (fr_slR er_var (or_some (fr_of er_var)) or_none o_slM)) o_addM) (by decide)) fa_nil) mu_extend)))
      (sr_asg fr_mv gr_name))))
      (sr_ret fr_mv)))⟩
theorem ok__law_table (T : Txt K mg) : FnG P w K mg base CX0 2 T.a__law_table T.d__law_table ["_law_state", "_law_many"] (spM K 2 (mFn 8 m__law_table)) :=
  fn_ok (N := ["_law_state", "_law_many", "_law_stocks", "_law_stock", "_law_rows", "_law_j", "_law_i", "_law_row"]) (m := m__law_table) T.F__law_table sc__law_table (by decide) fun cdv A outer s H E hr => ⟨_, (pss_cons (ps_set (i := 2) sc__law_table.nd rfl (Or.inl rfl) (pe_lst (pa_cons (pe_tup (pa_cons pe_int (pa_cons pe_int pa_nil))) (pa_cons (pe_tup (pa_cons pe_int (pa_cons pe_int (pa_cons pe_int pa_nil)))) (pa_cons (pe_tup (pa_cons pe_int (pa_cons pe_int (pa_cons pe_int (pa_cons pe_int pa_nil))))) (pa_cons (pe_tup (pa_cons pe_int (pa_cons pe_int (pa_cons pe_int (pa_cons pe_int pa_nil))))) (pa_cons (pe_tup (pa_cons pe_int (pa_cons pe_int (pa_cons pe_int (pa_cons pe_int (pa_cons pe_int (pa_cons pe_int pa_nil))))))) (pa_cons (pe_tup (pa_cons pe_int (pa_cons pe_int (pa_cons pe_int (pa_cons pe_int pa_nil))))) (pa_cons (pe_tup (pa_cons pe_int (pa_cons pe_int (pa_cons pe_int pa_nil)))) (pa_cons (pe_tup (pa_cons pe_int (pa_cons pe_int (pa_cons pe_int pa_nil)))) pa_nil))))))))))
      (pss_cons (ps_set (i := 2) sc__law_table.nd rfl (Or.inl rfl) (pe_op op_addA (pv 2) (pe_lst (pa_cons (pe_tup (pa_cons pe_int (pa_cons pe_int (pa_cons pe_int pa_nil)))) (pa_cons (pe_tup (pa_cons pe_int (pa_cons pe_int (pa_cons pe_int pa_nil)))) (pa_cons (pe_tup (pa_cons pe_int (pa_cons pe_int (pa_cons pe_int pa_nil)))) (pa_cons (pe_tup (pa_cons pe_int (pa_cons pe_int (pa_cons pe_int (pa_cons pe_int (pa_cons pe_int (pa_cons pe_int (pa_cons pe_int (pa_cons pe_int pa_nil))))))))) (pa_cons (pe_tup (pa_cons pe_int (pa_cons pe_int (pa_cons pe_int pa_nil)))) (pa_cons (pe_tup (pa_cons pe_int (pa_cons pe_int (pa_cons pe_int (pa_cons pe_int (pa_cons pe_int pa_nil)))))) pa_nil)))))))))
      (pss_cons (ps_set (i := 3) sc__law_table.nd rfl (Or.inl rfl) (pe_ix ix_seq (pe_op op_addA (pv 2) (pe_lst (pa_cons (pe_tup (pa_cons pe_int (pa_cons pe_int pa_nil))) (pa_cons (pe_tup (pa_cons pe_int (pa_cons pe_int (pa_cons pe_int (pa_cons pe_int (pa_cons pe_int pa_nil)))))) pa_nil)))) (pe_callG (ok__law_take T) (hr.mono (by decide)) (by rfl) T.g__law_take T.F__law_take.kp T.b__law_take pass0 (pa_cons (pv 0) (pa_cons pe_int pa_nil))) (fun _ _ => rfl)))
      (pss_cons (ps_setLc (i := 4) rfl sc__law_table.nd rfl rfl (sw_true rfl rfl rfl (by decide +kernel)) (pi_range1 (by rfl) T.z_range (pa_cons (pv 1) pa_nil)) (blkOk_by (own := [("_law_i", 6)]) (by with_unfolding_all rfl)) (fun _ _ _ _ _ => (pg_name (i := 6) sc__law_table.nd rfl (by first | exact Or.inl rfl | exact Or.inr rfl))) (fun _ _ _ _ _ => pts_nil) (fun _ _ _ _ _ => (pe_op op_mulA (pe_lst (pa_cons pe_int pa_nil)) (pv 1))))
      (pss_cons (ps_for PassesOwn.never rfl (pi_range1 (by rfl) T.z_range (pa_cons (pv 1) pa_nil)) (pg_name (i := 5) sc__law_table.nd rfl (by first | exact Or.inl rfl | exact Or.inr rfl)) (pss_one (ps_for PassesOwn.never rfl (pi_range1 (by rfl) T.z_range (pa_cons (pv 5) pa_nil)) (pg_name (i := 6) sc__law_table.nd rfl (by first | exact Or.inl rfl | exact Or.inr rfl)) (pss_cons (ps_asg (pe_ix ix_seq (pv 3) (pe_callG (ok__law_take T) (hr.mono (by decide)) (by rfl) T.g__law_take T.F__law_take.kp T.b__law_take pass0 (pa_cons (pv 0) (pa_cons (pe_callB call_lenA (by rfl) T.z_len (by decide +kernel) (pa_cons (pv 3) pa_nil)) pa_nil))) (fun _ _ => rfl)) (pg_sub (pe_ix ix_seq (pv 4) (pv 6) (fun _ _ => rfl)) (pv 5) (set_any hr.u1)))
      (pss_one (ps_asg (pe_ix ix_seq (pe_ix ix_seq (pv 4) (pv 6) (fun _ _ => rfl)) (pv 5) (fun _ _ => rfl)) (pg_sub (pe_ix ix_seq (pv 4) (pv 5) (fun _ _ => rfl)) (pv 6) (set_any hr.u1))))))))
      (pss_one (ps_ret (pe_callTy call_tuple_of (by rfl) T.z_tuple (by decide +kernel) (pa_cons (pe_lc rfl sc__law_table.nd (pi_seq (pv 4)) (blkOk_by (own := [("_law_row", 7)]) (by with_unfolding_all rfl)) (fun _ _ _ _ _ => (pg_name (i := 7) sc__law_table.nd rfl (by first | exact Or.inl rfl | exact Or.inr rfl))) (fun _ _ _ _ _ => pts_nil) (fun _ _ _ _ _ => (pe_callTy call_tuple_of (by rfl) T.z_tuple (by decide +kernel) (pa_cons (pv 7) pa_nil)))) pa_nil))))))))),
    (sr_seq (sr_asg (fr_lst (fa_cons (fr_tup (fa_cons fr_int (fa_cons fr_int fa_nil))) (fa_cons (fr_tup (fa_cons fr_int (fa_cons fr_int (fa_cons fr_int fa_nil)))) (fa_cons (fr_tup (fa_cons fr_int (fa_cons fr_int (fa_cons fr_int (fa_cons fr_int fa_nil))))) (fa_cons (fr_tup (fa_cons fr_int (fa_cons fr_int (fa_cons fr_int (fa_cons fr_int fa_nil))))) (fa_cons (fr_tup (fa_cons fr_int (fa_cons fr_int (fa_cons fr_int (fa_cons fr_int (fa_cons fr_int (fa_cons fr_int fa_nil))))))) (fa_cons (fr_tup (fa_cons fr_int (fa_cons fr_int (fa_cons fr_int (fa_cons fr_int fa_nil))))) (fa_cons (fr_tup (fa_cons fr_int (fa_cons fr_int (fa_cons fr_int fa_nil)))) (fa_cons (fr_tup (fa_cons fr_int (fa_cons fr_int (fa_cons fr_int fa_nil)))) fa_nil))))))))) gr_name)
      (sr_seq (sr_asg (fr_op er_var (er_of (fr_lst (fa_cons (fr_tup (fa_cons fr_int (fa_cons fr_int (fa_cons fr_int fa_nil)))) (fa_cons (fr_tup (fa_cons fr_int (fa_cons fr_int (fa_cons fr_int fa_nil)))) (fa_cons (fr_tup (fa_cons fr_int (fa_cons fr_int (fa_cons fr_int fa_nil)))) (fa_cons (fr_tup (fa_cons fr_int (fa_cons fr_int (fa_cons fr_int (fa_cons fr_int (fa_cons fr_int (fa_cons fr_int (fa_cons fr_int (fa_cons fr_int fa_nil))))))))) (fa_cons (fr_tup (fa_cons fr_int (fa_cons fr_int (fa_cons fr_int fa_nil)))) (fa_cons (fr_tup (fa_cons fr_int (fa_cons fr_int (fa_cons fr_int (fa_cons fr_int (fa_cons fr_int fa_nil)))))) fa_nil)))))))) o_add) gr_name)
      (sr_seq (sr_asg (fr_op (er_of (fr_op er_var (er_of (fr_lst (fa_cons (fr_tup (fa_cons fr_int (fa_cons fr_int fa_nil))) (fa_cons (fr_tup (fa_cons fr_int (fa_cons fr_int (fa_cons fr_int (fa_cons fr_int (fa_cons fr_int fa_nil)))))) fa_nil)))) o_add)) (er_of (fr_call (ar_cons er_var (ar_cons (er_of fr_int) ar_nil)))) o_ix) gr_name)
      (sr_seq (sr_asg (fr_lc (ir_rng1 (ar_cons er_var ar_nil)) gr_name tr_yes (fr_op (er_of (fr_lst (fa_cons fr_int fa_nil))) er_var o_mul) (by decide)) gr_name)
      (sr_seq (sr_for (ir_rng1 (ar_cons er_var ar_nil)) gr_name (sr_for (ir_rng1 (ar_cons er_var ar_nil)) gr_name (sr_seq (sr_asg (fr_op er_var (er_of (fr_call (ar_cons er_var (ar_cons (er_of (fr_cb (ar_cons er_var ar_nil) c_len)) ar_nil)))) o_ix) (gr_sub2 pr_var pr_var))
      (sr_asg (fr_pr (pr_ix2 pr_var pr_var)) (gr_sub2 pr_var pr_var)))))
      (sr_ret (fr_cb (ar_cons (er_of (fr_lc (ir_seq (fr_of er_var)) gr_name tr_yes (fr_cb (ar_cons er_var ar_nil) c_tuple) (by decide))) ar_nil) c_tuple)))))))⟩
theorem ok__law_due (T : Txt K mg) : FnG P w K mg base CX0 2 T.a__law_due T.d__law_due ["_law_table_here"] (spM K 1 (mFn 7 m__law_due)) :=
  fn_ok (N := ["_law_table_here", "_law_best", "_law_whence", "_law_turned", "_law_there", "_law_i", "_law_j"]) (m := m__law_due) T.F__law_due sc__law_due (by decide) fun cdv A outer s H E hr => ⟨_, (pss_cons (ps_set (i := 1) sc__law_due.nd rfl (Or.inl rfl) pe_non)
      (pss_cons (ps_for PassesOwn.never rfl (pi_seq (pe_callG (ok__law_orders T) (hr.mono (by decide)) (by rfl) T.g__law_orders T.F__law_orders.kp T.b__law_orders pass0 (pa_cons (pe_callB call_lenA (by rfl) T.z_len (by decide +kernel) (pa_cons (pv 0) pa_nil)) pa_nil))) (pg_name (i := 2) sc__law_due.nd rfl (by first | exact Or.inl rfl | exact Or.inr rfl)) (pss_cons (ps_set (i := 3) sc__law_due.nd rfl (Or.inl rfl) (pe_callTy call_tuple_of (by rfl) T.z_tuple (by decide +kernel) (pa_cons (pe_lc rfl sc__law_due.nd (pi_seq (pv 2)) (blkOk_by (own := [("_law_i", 5)]) (by with_unfolding_all rfl)) (fun _ _ _ _ _ => (pg_name (i := 5) sc__law_due.nd rfl (by first | exact Or.inl rfl | exact Or.inr rfl))) (fun _ _ _ _ _ => pts_nil) (fun _ _ _ _ _ => (pe_callTy call_tuple_of (by rfl) T.z_tuple (by decide +kernel) (pa_cons (pe_lc rfl sc__law_due.nd (pi_seq (pv 2)) (blkOk_by (own := [("_law_j", 6)]) (by with_unfolding_all rfl)) (fun _ _ _ _ _ => (pg_name (i := 6) sc__law_due.nd rfl (by first | exact Or.inl rfl | exact Or.inr rfl))) (fun _ _ _ _ _ => pts_nil) (fun _ _ _ _ _ => (pe_ix ix_seq (pe_ix ix_seq (pv 0) (pv 5) (fun _ _ => rfl)) (pv 6) (fun _ _ => rfl)))) pa_nil)))) pa_nil)))
      (pss_cons (ps_set (i := 4) sc__law_due.nd rfl (Or.inl rfl) (pe_callTy call_tuple_of (by rfl) T.z_tuple (by decide +kernel) (pa_cons (pe_lc rfl sc__law_due.nd (pi_range1 (by rfl) T.z_range (pa_cons (pe_callB call_lenA (by rfl) T.z_len (by decide +kernel) (pa_cons (pv 2) pa_nil)) pa_nil)) (blkOk_by (own := [("_law_i", 5)]) (by with_unfolding_all rfl)) (fun _ _ _ _ _ => (pg_name (i := 5) sc__law_due.nd rfl (by first | exact Or.inl rfl | exact Or.inr rfl))) (fun _ _ _ _ _ => pts_nil) (fun _ _ _ _ _ => (pe_tIdx (pv 2) (pv 5)))) pa_nil)))
      (pss_one (ps_if (PW.pt (pw_or (pt_cmpR op_isN (pv 1) pe_non (nomark _)) (pw_or1 (pt_cmpR (op_ltX hr.u65) (pe_tup (pa_cons (pv 3) (pa_cons (pv 4) pa_nil))) (pv 1) (nomark _))))) (pss_one (ps_set (i := 1) sc__law_due.nd rfl (Or.inl rfl) (pe_tup (pa_cons (pv 3) (pa_cons (pv 4) pa_nil))))) pss_nil)))))
      (pss_one (ps_ret (pv 1))))),
    (sr_seq (sr_asg fr_non gr_name)
      (sr_seq (sr_forT (fr_call (ar_cons (er_of (fr_cb (ar_cons er_var ar_nil) c_len)) ar_nil)) gr_name (sr_seq (sr_asg (fr_cb (ar_cons (er_of (fr_lc (ir_seq (fr_of er_var)) gr_name tr_yes (fr_cb (ar_cons (er_of (fr_lc (ir_seq (fr_of er_var)) gr_name tr_yes (fr_op (er_of (fr_op er_var er_var o_ix)) er_var o_ix) (by decide))) ar_nil) c_tuple) (by decide))) ar_nil) c_tuple) gr_name)
      (sr_seq (sr_asg (fr_cb (ar_cons (er_of (fr_lc (ir_rng1 (ar_cons (er_of (fr_cb (ar_cons er_var ar_nil) c_len)) ar_nil)) gr_name tr_yes (fr_tIdx (fr_of er_var)) (by decide))) ar_nil) c_tuple) gr_name)
      (sr_if (tr_or (tr_test (fr_op er_var (er_of fr_non) o_isN)) (tr_test (fr_op (er_of (fr_tup (fa_cons (fr_of er_var) (fa_cons (fr_of er_var) fa_nil)))) er_var o_ltX))) (sr_asg (fr_tup (fa_cons (fr_of er_var) (fa_cons (fr_of er_var) fa_nil))) gr_name) sr_next))))
      (sr_ret (fr_of er_var))))⟩
theorem ok__law_even (T : Txt K mg) : FnG P w K mg base CX0 2 T.a__law_even T.d__law_even ["_law_state", "_law_many"] (spM K 2 (mFn 7 m__law_even)) :=
  fn_ok (N := ["_law_state", "_law_many", "_law_pair", "_law_rows", "_law_j", "_law_i", "_law_row"]) (m := m__law_even) T.F__law_even sc__law_even (by decide) fun cdv A outer s H E hr => ⟨_, (pss_cons (ps_set (i := 2) sc__law_even.nd rfl (Or.inl rfl) (pe_ix ix_seq (pe_lst (pa_cons (pe_tup (pa_cons pe_int (pa_cons pe_int pa_nil))) (pa_cons (pe_tup (pa_cons pe_int (pa_cons pe_int pa_nil))) (pa_cons (pe_tup (pa_cons pe_int (pa_cons pe_int pa_nil))) (pa_cons (pe_tup (pa_cons pe_int (pa_cons pe_int pa_nil))) (pa_cons (pe_tup (pa_cons pe_int (pa_cons pe_int pa_nil))) (pa_cons (pe_tup (pa_cons pe_int (pa_cons pe_int pa_nil))) pa_nil))))))) (pe_callG (ok__law_take T) (hr.mono (by decide)) (by rfl) T.g__law_take T.F__law_take.kp T.b__law_take pass0 (pa_cons (pv 0) (pa_cons pe_int pa_nil))) (fun _ _ => rfl)))
      (pss_cons (ps_setLc (i := 3) rfl sc__law_even.nd rfl rfl (sw_true rfl rfl rfl (by decide +kernel)) (pi_range1 (by rfl) T.z_range (pa_cons (pv 1) pa_nil)) (blkOk_by (own := [("_law_i", 5)]) (by with_unfolding_all rfl)) (fun _ _ _ _ _ => (pg_name (i := 5) sc__law_even.nd rfl (by first | exact Or.inl rfl | exact Or.inr rfl))) (fun _ _ _ _ _ => pts_nil) (fun _ _ _ _ _ => (pe_op op_mulA (pe_lst (pa_cons pe_int pa_nil)) (pv 1))))
      (pss_cons (ps_for PassesOwn.never rfl (pi_range1 (by rfl) T.z_range (pa_cons (pv 1) pa_nil)) (pg_name (i := 4) sc__law_even.nd rfl (by first | exact Or.inl rfl | exact Or.inr rfl)) (pss_one (ps_for PassesOwn.never rfl (pi_range1 (by rfl) T.z_range (pa_cons (pv 4) pa_nil)) (pg_name (i := 5) sc__law_even.nd rfl (by first | exact Or.inl rfl | exact Or.inr rfl)) (pss_cons (ps_asg (pe_ix ix_seq (pv 2) (pe_callG (ok__law_take T) (hr.mono (by decide)) (by rfl) T.g__law_take T.F__law_take.kp T.b__law_take pass0 (pa_cons (pv 0) (pa_cons pe_int pa_nil))) (fun _ _ => rfl)) (pg_sub (pe_ix ix_seq (pv 3) (pv 5) (fun _ _ => rfl)) (pv 4) (set_any hr.u1)))
      (pss_one (ps_asg (pe_ix ix_seq (pe_ix ix_seq (pv 3) (pv 5) (fun _ _ => rfl)) (pv 4) (fun _ _ => rfl)) (pg_sub (pe_ix ix_seq (pv 3) (pv 4) (fun _ _ => rfl)) (pv 5) (set_any hr.u1))))))))
      (pss_one (ps_ret (pe_callTy call_tuple_of (by rfl) T.z_tuple (by decide +kernel) (pa_cons (pe_lc rfl sc__law_even.nd (pi_seq (pv 3)) (blkOk_by (own := [("_law_row", 6)]) (by with_unfolding_all rfl)) (fun _ _ _ _ _ => (pg_name (i := 6) sc__law_even.nd rfl (by first | exact Or.inl rfl | exact Or.inr rfl))) (fun _ _ _ _ _ => pts_nil) (fun _ _ _ _ _ => (pe_callTy call_tuple_of (by rfl) T.z_tuple (by decide +kernel) (pa_cons (pv 6) pa_nil)))) pa_nil))))))),
    (sr_seq (sr_asg (fr_op (er_of (fr_lst (fa_cons (fr_tup (fa_cons fr_int (fa_cons fr_int fa_nil))) (fa_cons (fr_tup (fa_cons fr_int (fa_cons fr_int fa_nil))) (fa_cons (fr_tup (fa_cons fr_int (fa_cons fr_int fa_nil))) (fa_cons (fr_tup (fa_cons fr_int (fa_cons fr_int fa_nil))) (fa_cons (fr_tup (fa_cons fr_int (fa_cons fr_int fa_nil))) (fa_cons (fr_tup (fa_cons fr_int (fa_cons fr_int fa_nil))) fa_nil)))))))) (er_of (fr_call (ar_cons er_var (ar_cons (er_of fr_int) ar_nil)))) o_ix) gr_name)
      (sr_seq (sr_asg (fr_lc (ir_rng1 (ar_cons er_var ar_nil)) gr_name tr_yes (fr_op (er_of (fr_lst (fa_cons fr_int fa_nil))) er_var o_mul) (by decide)) gr_name)
      (sr_seq (sr_for (ir_rng1 (ar_cons er_var ar_nil)) gr_name (sr_for (ir_rng1 (ar_cons er_var ar_nil)) gr_name (sr_seq (sr_asg (fr_op er_var (er_of (fr_call (ar_cons er_var (ar_cons (er_of fr_int) ar_nil)))) o_ix) (gr_sub2 pr_var pr_var))
      (sr_asg (fr_pr (pr_ix2 pr_var pr_var)) (gr_sub2 pr_var pr_var)))))
      (sr_ret (fr_cb (ar_cons (er_of (fr_lc (ir_seq (fr_of er_var)) gr_name tr_yes (fr_cb (ar_cons er_var ar_nil) c_tuple) (by decide))) ar_nil) c_tuple)))))⟩
theorem ok_all_orders (T : Txt K mg) : ∀ fuel, FnG P w K mg base CX0 (1 + fuel) T.a_all_orders T.d_all_orders ["left"] (spM K 1 (mFn 6 (m_all_orders fuel)))
  | 0 => fn_none
  | fuel + 1 => fn_ok (N := ["left", "found", "i", "rest", "j", "order"]) (m := m_all_orders (fuel + 1)) (k := 1 + fuel) T.F_all_orders sc_all_orders (by decide) fun cdv A outer s H E hr => ⟨_, (pss_cons (ps_if (pt_cmpR (op_eqA hr.u64) (pv 0) (pe_tup pa_nil) (nomark _)) (pss_one (ps_ret (pe_lst (pa_cons (pe_tup pa_nil) pa_nil)))) pss_nil)
      (pss_cons (ps_set (i := 1) sc_all_orders.nd rfl (Or.inl rfl) (pe_lst pa_nil))
      (pss_cons (ps_for PassesOwn.never rfl (pi_seq (pv 0)) (pg_name (i := 2) sc_all_orders.nd rfl (by first | exact Or.inl rfl | exact Or.inr rfl)) (pss_cons (ps_set (i := 3) sc_all_orders.nd rfl (Or.inl rfl) (pe_callTy call_tuple_of (by rfl) T.z_tuple (by decide +kernel) (pa_cons (pe_lc rfl sc_all_orders.nd (pi_seq (pv 0)) (blkOk_by (own := [("j", 4)]) (by with_unfolding_all rfl)) (fun _ _ _ _ _ => (pg_name (i := 4) sc_all_orders.nd rfl (by first | exact Or.inl rfl | exact Or.inr rfl))) (fun _ _ _ _ _ => (pts_one (pt_cmpR (op_neA hr.u64) (pv 4) (pv 2) (nomark _)))) (fun _ _ _ _ _ => (pv 4))) pa_nil)))
      (pss_one (ps_expr (pe_bm PySem.F.plainAttrs_list PySem.F.slot_list_extend PySem.F.type_list_extend mt_extend (pv 1) (pa_cons (pe_lc rfl sc_all_orders.nd (pi_seq (pe_callG (ok_all_orders T fuel) (hr.mono (by omega)) (by rfl) T.g_all_orders T.F_all_orders.kp T.b_all_orders pass0 (pa_cons (pv 3) pa_nil))) (blkOk_by (own := [("order", 5)]) (by with_unfolding_all rfl)) (fun _ _ _ _ _ => (pg_name (i := 5) sc_all_orders.nd rfl (by first | exact Or.inl rfl | exact Or.inr rfl))) (fun _ _ _ _ _ => pts_nil) (fun _ _ _ _ _ => (pe_op op_addA (pe_tup (pa_cons (pv 2) pa_nil)) (pv 5)))) pa_nil))))))
      (pss_one (ps_ret (pv 1)))))),
    (sr_seq (sr_if (tr_test (fr_op er_var (er_of (fr_tup fa_nil)) o_eq)) (sr_ret (fr_lst (fa_cons (fr_tup fa_nil) fa_nil))) sr_next)
      (sr_seq (sr_asg (fr_lst fa_nil) gr_name)
      (sr_seq (sr_for (ir_seq (fr_of er_var)) gr_name (sr_seq (sr_asg (fr_cb (ar_cons (er_of (fr_lc (ir_seq (fr_of er_var)) gr_name (tr_one (tr_test (fr_op er_var er_var o_ne))) (fr_of er_var) (by decide))) ar_nil) c_tuple) gr_name)
      (sr_drop (fr_mut (fa_cons (fr_lc (ir_seq (fr_call (ar_cons er_var ar_nil))) gr_name tr_yes (fr_op (er_of (fr_tup (fa_cons (fr_of er_var) fa_nil))) er_var o_add) (by decide)) fa_nil) mu_extend))))
      (sr_ret fr_mv))))⟩
theorem ok_least_table (T : Txt K mg) : FnG P w K mg base CX0 12 T.a_least_table T.d_least_table ["table"] (spM K 1 (mFn 2 m_least_table)) :=
  fn_ok (N := ["table", "p"]) (m := m_least_table) T.F_least_table sc_least_table (by decide) fun cdv A outer s H E hr => ⟨_, (pss_one (ps_ret (pe_callB (cr_minX rfl hr.u65) (by rfl) T.z_min (by decide +kernel) (pa_cons (pe_lc rfl sc_least_table.nd (pi_seq (pe_callG (ok_all_orders T 10) (hr.mono (by decide)) (by rfl) T.g_all_orders T.F_all_orders.kp T.b_all_orders pass0 (pa_cons (pe_tupRg rfl (by rfl) T.z_tuple (prg_1 (by rfl) T.z_range (pe_callB call_lenA (by rfl) T.z_len (by decide +kernel) (pa_cons (pv 0) pa_nil)))) pa_nil))) (blkOk_by (own := [("p", 1)]) (by with_unfolding_all rfl)) (fun _ _ _ _ _ => (pg_name (i := 1) sc_least_table.nd rfl (by first | exact Or.inl rfl | exact Or.inr rfl))) (fun _ _ _ _ _ => pts_nil) (fun _ _ _ _ _ => (pe_tup (pa_cons (pe_callG (ok_turned_table T) (hr.mono (by decide)) (by rfl) T.g_turned_table T.F_turned_table.kp T.b_turned_table pass0 (pa_cons (pv 0) (pa_cons (pv 1) pa_nil))) (pa_cons (pv 1) pa_nil))))) pa_nil)))),
    (sr_ret (fr_cb (ar_cons (er_of (fr_lc (ir_seq (fr_call (ar_cons (er_of (fr_tupRg1 (fr_cb (ar_cons er_var ar_nil) c_len))) ar_nil))) gr_name tr_yes (fr_tup (fa_cons (fr_call (ar_cons er_var (ar_cons er_var ar_nil))) (fa_cons (fr_of er_var) fa_nil))) (by decide))) ar_nil) c_minX))⟩
theorem ok_law (T : Txt K mg) : FnG P w K mg base CX0 13 T.a_law T.d_law ["_law_script"] (spM K 1 (mFn 12 m_law)) :=
  fn_ok (N := ["_law_script", "_law_state", "_law_k", "_law_many", "_law_table_here", "_law_due_here", "_law_left", "_law_order", "_law_other", "_law_found", "_law_j", "_law_i"]) (m := m_law) T.F_law sc_law (by decide) fun cdv A outer s H E hr => ⟨_, (pss_cons (ps_set (i := 1) sc_law.nd rfl (Or.inr rfl) (pe_callG (ok__law_hand T) (hr.mono (by decide)) (by rfl) T.g__law_hand T.F__law_hand.kp T.b__law_hand pass0 (pa_cons (pv 0) pa_nil)))
      (pss_cons (ps_if (PW.pt (pw_or (pt_cmpR (op_neA hr.u64) (pe_callB (call_reprA hr.free hr.u64) (by rfl) T.z_repr (by decide +kernel) (pa_cons (pe_callG (ok_least_table T) (hr.mono (by decide)) (by rfl) T.g_least_table T.F_least_table.kp T.b_least_table pass0 (pa_cons (pe_tup pa_nil) pa_nil)) pa_nil)) pe_str (nomark _)) (pw_or1 (pt_cmpR (op_neA hr.u64) (pe_callB (call_reprA hr.free hr.u64) (by rfl) T.z_repr (by decide +kernel) (pa_cons (pe_callG (ok_least_table T) (hr.mono (by decide)) (by rfl) T.g_least_table T.F_least_table.kp T.b_least_table pass0 (pa_cons (pe_tup (pa_cons (pe_tup (pa_cons pe_int pa_nil)) pa_nil)) pa_nil)) pa_nil)) pe_str (nomark _))))) (pss_one (ps_ret pe_bl)) pss_nil)
      (pss_cons (ps_for PassesOwn.never rfl (pi_range1 (by rfl) T.z_range (pa_cons (pe_callB (call_max2 rfl) (by rfl) T.z_max (by decide +kernel) (pa_cons pe_int (pa_cons (pe_callB (call_min2 rfl) (by rfl) T.z_min (by decide +kernel) (pa_cons (pe_callB call_lenA (by rfl) T.z_len (by decide +kernel) (pa_cons (pv 0) pa_nil)) (pa_cons pe_int pa_nil))) pa_nil))) pa_nil)) (pg_name (i := 2) sc_law.nd rfl (by first | exact Or.inl rfl | exact Or.inr rfl)) (pss_cons (ps_set (i := 3) sc_law.nd rfl (Or.inl rfl) (pe_op op_addA pe_int (pe_ix ix_seq (pe_lst (pa_cons (pe_callG (ok__law_take T) (hr.mono (by decide)) (by rfl) T.g__law_take T.F__law_take.kp T.b__law_take pass0 (pa_cons (pv 1) (pa_cons pe_int pa_nil))) (pa_cons (pe_op op_addA pe_int (pe_callG (ok__law_take T) (hr.mono (by decide)) (by rfl) T.g__law_take T.F__law_take.kp T.b__law_take pass0 (pa_cons (pv 1) (pa_cons pe_int pa_nil)))) pa_nil))) (pe_callG (ok__law_take T) (hr.mono (by decide)) (by rfl) T.g__law_take T.F__law_take.kp T.b__law_take pass0 (pa_cons (pv 1) (pa_cons pe_int pa_nil))) (fun _ _ => rfl))))
      (pss_cons (ps_set (i := 4) sc_law.nd rfl (Or.inr rfl) (pe_ix ix_seq (pe_lst (pa_cons (pe_callG (ok__law_even T) (hr.mono (by decide)) (by rfl) T.g__law_even T.F__law_even.kp T.b__law_even pass0 (pa_cons (pv 1) (pa_cons (pv 3) pa_nil))) (pa_cons (pe_callG (ok__law_table T) (hr.mono (by decide)) (by rfl) T.g__law_table T.F__law_table.kp T.b__law_table pass0 (pa_cons (pv 1) (pa_cons (pv 3) pa_nil))) pa_nil))) (pe_callG (ok__law_take T) (hr.mono (by decide)) (by rfl) T.g__law_take T.F__law_take.kp T.b__law_take pass0 (pa_cons (pv 1) (pa_cons pe_int pa_nil))) (fun _ _ => rfl)))
      (pss_cons (ps_set (i := 5) sc_law.nd rfl (Or.inl rfl) (pe_callG (ok__law_due T) (hr.mono (by decide)) (by rfl) T.g__law_due T.F__law_due.kp T.b__law_due pass0 (pa_cons (pv 4) pa_nil)))
      (pss_cons (ps_if (PW.pt (pw_or (pt_cmpR (op_neA hr.u64) (pe_callB (call_reprA hr.free hr.u64) (by rfl) T.z_repr (by decide +kernel) (pa_cons (pe_callG (ok_least_table T) (hr.mono (by decide)) (by rfl) T.g_least_table T.F_least_table.kp T.b_least_table pass0 (pa_cons (pv 4) pa_nil)) pa_nil)) (pe_callB (call_reprA hr.free hr.u64) (by rfl) T.z_repr (by decide +kernel) (pa_cons (pv 5) pa_nil)) (nomark _)) (pw_or1 (pt_cmpR (op_neA hr.u64) (pe_callG (ok_turned_table T) (hr.mono (by decide)) (by rfl) T.g_turned_table T.F_turned_table.kp T.b_turned_table pass0 (pa_cons (pv 4) (pa_cons (pe_ix ix_seq (pv 5) pe_int (fun _ _ => rfl)) pa_nil))) (pe_ix ix_seq (pv 5) pe_int (fun _ _ => rfl)) (nomark _))))) (pss_one (ps_ret pe_bl)) pss_nil)
      (pss_cons (ps_set (i := 6) sc_law.nd rfl (Or.inr rfl) (pe_listRg rfl (by rfl) T.z_list (prg_1 (by rfl) T.z_range (pv 3))))
      (pss_cons (ps_set (i := 7) sc_law.nd rfl (Or.inr rfl) (pe_lc rfl sc_law.nd (pi_range1 (by rfl) T.z_range (pa_cons (pv 3) pa_nil)) (blkOk_by (own := [("_law_j", 10)]) (by with_unfolding_all rfl)) (fun _ _ _ _ _ => (pg_name (i := 10) sc_law.nd rfl (by first | exact Or.inl rfl | exact Or.inr rfl))) (fun _ _ _ _ _ => pts_nil) (fun _ _ _ _ _ => (pe_bm PySem.F.plainAttrs_list PySem.F.slot_list_pop PySem.F.type_list_pop mt_popAt (pv 6) (pa_cons (pe_callG (ok__law_take T) (hr.mono (by decide)) (by rfl) T.g__law_take T.F__law_take.kp T.b__law_take pass0 (pa_cons (pv 1) (pa_cons (pe_callB call_lenA (by rfl) T.z_len (by decide +kernel) (pa_cons (pv 6) pa_nil)) pa_nil))) pa_nil)))))
      (pss_cons (ps_set (i := 8) sc_law.nd rfl (Or.inl rfl) (pe_callTy call_tuple_of (by rfl) T.z_tuple (by decide +kernel) (pa_cons (pe_lc rfl sc_law.nd (pi_seq (pv 7)) (blkOk_by (own := [("_law_i", 11)]) (by with_unfolding_all rfl)) (fun _ _ _ _ _ => (pg_name (i := 11) sc_law.nd rfl (by first | exact Or.inl rfl | exact Or.inr rfl))) (fun _ _ _ _ _ => pts_nil) (fun _ _ _ _ _ => (pe_callTy call_tuple_of (by rfl) T.z_tuple (by decide +kernel) (pa_cons (pe_lc rfl sc_law.nd (pi_seq (pv 7)) (blkOk_by (own := [("_law_j", 10)]) (by with_unfolding_all rfl)) (fun _ _ _ _ _ => (pg_name (i := 10) sc_law.nd rfl (by first | exact Or.inl rfl | exact Or.inr rfl))) (fun _ _ _ _ _ => pts_nil) (fun _ _ _ _ _ => (pe_ix ix_seq (pe_ix ix_seq (pv 4) (pv 11) (fun _ _ => rfl)) (pv 10) (fun _ _ => rfl)))) pa_nil)))) pa_nil)))
      (pss_cons (ps_set (i := 9) sc_law.nd rfl (Or.inl rfl) (pe_callG (ok_least_table T) (hr.mono (by decide)) (by rfl) T.g_least_table T.F_least_table.kp T.b_least_table pass0 (pa_cons (pv 8) pa_nil)))
      (pss_one (ps_if (PW.pt (pw_or (pt_cmpR (op_neA hr.u64) (pe_callB (call_reprA hr.free hr.u64) (by rfl) T.z_repr (by decide +kernel) (pa_cons (pv 9) pa_nil)) (pe_callB (call_reprA hr.free hr.u64) (by rfl) T.z_repr (by decide +kernel) (pa_cons (pe_callG (ok__law_due T) (hr.mono (by decide)) (by rfl) T.g__law_due T.F__law_due.kp T.b__law_due pass0 (pa_cons (pv 8) pa_nil)) pa_nil)) (nomark _)) (pw_or1 (pt_cmpR (op_neA hr.u64) (pe_ix ix_seq (pv 9) pe_int (fun _ _ => rfl)) (pe_ix ix_seq (pv 5) pe_int (fun _ _ => rfl)) (nomark _))))) (pss_one (ps_ret pe_bl)) pss_nil)))))))))))
      (pss_one (ps_ret pe_bl))))),
    (sr_seq (sr_asg (fr_call (ar_cons er_var ar_nil)) gr_name)
      (sr_seq (sr_if (tr_or (tr_test (fr_op (er_of (fr_cb (ar_cons (er_of (fr_call (ar_cons (er_of (fr_tup fa_nil)) ar_nil))) ar_nil) c_repr)) (er_of fr_str) o_ne)) (tr_test (fr_op (er_of (fr_cb (ar_cons (er_of (fr_call (ar_cons (er_of (fr_tup (fa_cons (fr_tup (fa_cons fr_int fa_nil)) fa_nil))) ar_nil))) ar_nil) c_repr)) (er_of fr_str) o_ne))) (sr_ret fr_bl) sr_next)
      (sr_seq (sr_for (ir_rng1 (ar_cons (er_of (fr_cb (ar_cons (er_of fr_int) (ar_cons (er_of (fr_cb (ar_cons (er_of (fr_cb (ar_cons er_var ar_nil) c_len)) (ar_cons (er_of fr_int) ar_nil)) c_min2)) ar_nil)) c_max2)) ar_nil)) gr_name (sr_seq (sr_asg (fr_op (er_of fr_int) (er_of (fr_op (er_of (fr_lst (fa_cons (fr_call (ar_cons er_var (ar_cons (er_of fr_int) ar_nil))) (fa_cons (fr_op (er_of fr_int) (er_of (fr_call (ar_cons er_var (ar_cons (er_of fr_int) ar_nil)))) o_add) fa_nil)))) (er_of (fr_call (ar_cons er_var (ar_cons (er_of fr_int) ar_nil)))) o_ix)) o_add) gr_name)
      (sr_seq (sr_asg (fr_op (er_of (fr_lst (fa_cons (fr_call (ar_cons er_var (ar_cons er_var ar_nil))) (fa_cons (fr_call (ar_cons er_var (ar_cons er_var ar_nil))) fa_nil)))) (er_of (fr_call (ar_cons er_var (ar_cons (er_of fr_int) ar_nil)))) o_ix) gr_name)
      (sr_seq (sr_asg (fr_call (ar_cons er_var ar_nil)) gr_name)
      (sr_seq (sr_if (tr_or (tr_test (fr_op (er_of (fr_cb (ar_cons (er_of (fr_call (ar_cons er_var ar_nil))) ar_nil) c_repr)) (er_of (fr_cb (ar_cons er_var ar_nil) c_repr)) o_ne)) (tr_test (fr_op (er_of (fr_call (ar_cons er_var (ar_cons (er_of (fr_op er_var (er_of fr_int) o_ix)) ar_nil)))) (er_of (fr_op er_var (er_of fr_int) o_ix)) o_ne))) (sr_ret fr_bl) sr_next)
      (sr_seq (sr_asg (fr_lstRg1 (fr_of er_var)) gr_name)
      (sr_seq (sr_asg (fr_lc (ir_rng1 (ar_cons er_var ar_nil)) gr_name tr_yes (fr_mut (fa_cons (fr_call (ar_cons er_var (ar_cons (er_of (fr_cb (ar_cons er_var ar_nil) c_len)) ar_nil))) fa_nil) mu_popAt) (by decide)) gr_name)
      (sr_seq (sr_asg (fr_cb (ar_cons (er_of (fr_lc (ir_seq (fr_of er_var)) gr_name tr_yes (fr_cb (ar_cons (er_of (fr_lc (ir_seq (fr_of er_var)) gr_name tr_yes (fr_op (er_of (fr_op er_var er_var o_ix)) er_var o_ix) (by decide))) ar_nil) c_tuple) (by decide))) ar_nil) c_tuple) gr_name)
      (sr_seq (sr_asg (fr_call (ar_cons er_var ar_nil)) gr_name)
      (sr_if (tr_or (tr_test (fr_op (er_of (fr_cb (ar_cons er_var ar_nil) c_repr)) (er_of (fr_cb (ar_cons (er_of (fr_call (ar_cons er_var ar_nil))) ar_nil) c_repr)) o_ne)) (tr_test (fr_op (er_of (fr_op er_var (er_of fr_int) o_ix)) (er_of (fr_op er_var (er_of fr_int) o_ix)) o_ne))) (sr_ret fr_bl) sr_next))))))))))
      (sr_ret fr_bl))))⟩
end
theorem all_mk {l : PySem.W.OpenLaw} {w : World} {K : PySem.W.Frag} {h : Heap} {mg : Str → Option Value} (X : K.In h) (G : h.Ns mainGlobals mg) {fa : Addr} (hfa : mg "law" = some (.ref fa))
    {f0 : Addr} {od0 an0 : Option Addr} {sl0 : Array (Option Value)} {oc0 kV0 dc0 pm0 cd0 ct0 : Value}
    (a0 : PySem.W.nsIn K mainGlobals "turned_table" = some (some (.ref f0))) (l0 : K.lookup f0 = some ⟨oc0, od0, .func (PySem.W.fnOf "turned_table" "turned_table" (defArgs s_turned_table) (defBody s_turned_table) (defScope s_turned_table) .none kV0 dc0 pm0 an0 cd0 ct0), sl0⟩) (c0 : PySem.W.codeIn K cd0 "turned_table" = true) (k0 : PySem.W.keepIn K (.ref f0) = true)
    {f1 : Addr} {od1 an1 : Option Addr} {sl1 : Array (Option Value)} {oc1 kV1 dc1 pm1 cd1 ct1 : Value}
    (a1 : PySem.W.nsIn K mainGlobals "_law_hand" = some (some (.ref f1))) (l1 : K.lookup f1 = some ⟨oc1, od1, .func (PySem.W.fnOf "_law_hand" "_law_hand" (defArgs s__law_hand) (defBody s__law_hand) (defScope s__law_hand) .none kV1 dc1 pm1 an1 cd1 ct1), sl1⟩) (c1 : PySem.W.codeIn K cd1 "_law_hand" = true) (k1 : PySem.W.keepIn K (.ref f1) = true)
    {f2 : Addr} {od2 an2 : Option Addr} {sl2 : Array (Option Value)} {oc2 kV2 dc2 pm2 cd2 ct2 : Value}
    (a2 : PySem.W.nsIn K mainGlobals "_law_take" = some (some (.ref f2))) (l2 : K.lookup f2 = some ⟨oc2, od2, .func (PySem.W.fnOf "_law_take" "_law_take" (defArgs s__law_take) (defBody s__law_take) (defScope s__law_take) .none kV2 dc2 pm2 an2 cd2 ct2), sl2⟩) (c2 : PySem.W.codeIn K cd2 "_law_take" = true) (k2 : PySem.W.keepIn K (.ref f2) = true)
    {f3 : Addr} {od3 an3 : Option Addr} {sl3 : Array (Option Value)} {oc3 kV3 dc3 pm3 cd3 ct3 : Value}
    (a3 : PySem.W.nsIn K mainGlobals "_law_orders" = some (some (.ref f3))) (l3 : K.lookup f3 = some ⟨oc3, od3, .func (PySem.W.fnOf "_law_orders" "_law_orders" (defArgs s__law_orders) (defBody s__law_orders) (defScope s__law_orders) .none kV3 dc3 pm3 an3 cd3 ct3), sl3⟩) (c3 : PySem.W.codeIn K cd3 "_law_orders" = true) (k3 : PySem.W.keepIn K (.ref f3) = true)
    {f4 : Addr} {od4 an4 : Option Addr} {sl4 : Array (Option Value)} {oc4 kV4 dc4 pm4 cd4 ct4 : Value}
    (a4 : PySem.W.nsIn K mainGlobals "_law_table" = some (some (.ref f4))) (l4 : K.lookup f4 = some ⟨oc4, od4, .func (PySem.W.fnOf "_law_table" "_law_table" (defArgs s__law_table) (defBody s__law_table) (defScope s__law_table) .none kV4 dc4 pm4 an4 cd4 ct4), sl4⟩) (c4 : PySem.W.codeIn K cd4 "_law_table" = true) (k4 : PySem.W.keepIn K (.ref f4) = true)
    {f5 : Addr} {od5 an5 : Option Addr} {sl5 : Array (Option Value)} {oc5 kV5 dc5 pm5 cd5 ct5 : Value}
    (a5 : PySem.W.nsIn K mainGlobals "_law_due" = some (some (.ref f5))) (l5 : K.lookup f5 = some ⟨oc5, od5, .func (PySem.W.fnOf "_law_due" "_law_due" (defArgs s__law_due) (defBody s__law_due) (defScope s__law_due) .none kV5 dc5 pm5 an5 cd5 ct5), sl5⟩) (c5 : PySem.W.codeIn K cd5 "_law_due" = true) (k5 : PySem.W.keepIn K (.ref f5) = true)
    {f6 : Addr} {od6 an6 : Option Addr} {sl6 : Array (Option Value)} {oc6 kV6 dc6 pm6 cd6 ct6 : Value}
    (a6 : PySem.W.nsIn K mainGlobals "_law_even" = some (some (.ref f6))) (l6 : K.lookup f6 = some ⟨oc6, od6, .func (PySem.W.fnOf "_law_even" "_law_even" (defArgs s__law_even) (defBody s__law_even) (defScope s__law_even) .none kV6 dc6 pm6 an6 cd6 ct6), sl6⟩) (c6 : PySem.W.codeIn K cd6 "_law_even" = true) (k6 : PySem.W.keepIn K (.ref f6) = true)
    {f7 : Addr} {od7 an7 : Option Addr} {sl7 : Array (Option Value)} {oc7 kV7 dc7 pm7 cd7 ct7 : Value}
    (a7 : PySem.W.nsIn K mainGlobals "all_orders" = some (some (.ref f7))) (l7 : K.lookup f7 = some ⟨oc7, od7, .func (PySem.W.fnOf "all_orders" "all_orders" (defArgs s_all_orders) (defBody s_all_orders) (defScope s_all_orders) .none kV7 dc7 pm7 an7 cd7 ct7), sl7⟩) (c7 : PySem.W.codeIn K cd7 "all_orders" = true) (k7 : PySem.W.keepIn K (.ref f7) = true)
    {f8 : Addr} {od8 an8 : Option Addr} {sl8 : Array (Option Value)} {oc8 kV8 dc8 pm8 cd8 ct8 : Value}
    (a8 : PySem.W.nsIn K mainGlobals "least_table" = some (some (.ref f8))) (l8 : K.lookup f8 = some ⟨oc8, od8, .func (PySem.W.fnOf "least_table" "least_table" (defArgs s_least_table) (defBody s_least_table) (defScope s_least_table) .none kV8 dc8 pm8 an8 cd8 ct8), sl8⟩) (c8 : PySem.W.codeIn K cd8 "least_table" = true) (k8 : PySem.W.keepIn K (.ref f8) = true)
    {f9 : Addr} {od9 an9 : Option Addr} {sl9 : Array (Option Value)} {oc9 kV9 dc9 pm9 cd9 ct9 : Value}
    (a9 : PySem.W.nsIn K mainGlobals "law" = some (some (.ref f9))) (l9 : K.lookup f9 = some ⟨oc9, od9, .func (PySem.W.fnOf "law" "law" (defArgs s_law) (defBody s_law) (defScope s_law) .none kV9 dc9 pm9 an9 cd9 ct9), sl9⟩) (c9 : PySem.W.codeIn K cd9 "law" = true) (k9 : PySem.W.keepIn K (.ref f9) = true)
    (z_abs : PySem.W.nsIn K mainGlobals "abs" = some none)
    (z_enumerate : PySem.W.nsIn K mainGlobals "enumerate" = some none)
    (z_len : PySem.W.nsIn K mainGlobals "len" = some none)
    (z_list : PySem.W.nsIn K mainGlobals "list" = some none)
    (z_max : PySem.W.nsIn K mainGlobals "max" = some none)
    (z_min : PySem.W.nsIn K mainGlobals "min" = some none)
    (z_range : PySem.W.nsIn K mainGlobals "range" = some none)
    (z_repr : PySem.W.nsIn K mainGlobals "repr" = some none)
    (z_tuple : PySem.W.nsIn K mainGlobals "tuple" = some none) :
    ∃ fd : FuncData, (∀ (s : Shared) (v : Value), BindsTo s fd ⟨[v], []⟩ [("_law_script", v)]) ∧ ∀ base : Heap, K.In base → base.Ns mainGlobals mg → FnG l.prog w K mg base CX0 13 fa fd ["_law_script"] (spM K 1 (mFn 12 m_law)) := by
  have e := hfa.symm.trans (PySem.W.mg_of X G a9)
  cases e
  have F0 := fun_mk (st := s_turned_table) l0 c0 k0
  have b0 := F0.binds (ps := ["table", "p"]) fun _ _ _ _ _ _ us hl => match us, hl with | [_, _], _ => rfl
  have F1 := fun_mk (st := s__law_hand) l1 c1 k1
  have b1 := F1.binds (ps := ["_law_script"]) fun _ _ _ _ _ _ us hl => match us, hl with | [_], _ => rfl
  have F2 := fun_mk (st := s__law_take) l2 c2 k2
  have b2 := F2.binds (ps := ["_law_state", "_law_many"]) fun _ _ _ _ _ _ us hl => match us, hl with | [_, _], _ => rfl
  have F3 := fun_mk (st := s__law_orders) l3 c3 k3
  have b3 := F3.binds (ps := ["_law_many"]) fun _ _ _ _ _ _ us hl => match us, hl with | [_], _ => rfl
  have F4 := fun_mk (st := s__law_table) l4 c4 k4
  have b4 := F4.binds (ps := ["_law_state", "_law_many"]) fun _ _ _ _ _ _ us hl => match us, hl with | [_, _], _ => rfl
  have F5 := fun_mk (st := s__law_due) l5 c5 k5
  have b5 := F5.binds (ps := ["_law_table_here"]) fun _ _ _ _ _ _ us hl => match us, hl with | [_], _ => rfl
  have F6 := fun_mk (st := s__law_even) l6 c6 k6
  have b6 := F6.binds (ps := ["_law_state", "_law_many"]) fun _ _ _ _ _ _ us hl => match us, hl with | [_, _], _ => rfl
  have F7 := fun_mk (st := s_all_orders) l7 c7 k7
  have b7 := F7.binds (ps := ["left"]) fun _ _ _ _ _ _ us hl => match us, hl with | [_], _ => rfl
  have F8 := fun_mk (st := s_least_table) l8 c8 k8
  have b8 := F8.binds (ps := ["table"]) fun _ _ _ _ _ _ us hl => match us, hl with | [_], _ => rfl
  have F9 := fun_mk (st := s_law) l9 c9 k9
  have b9 := F9.binds (ps := ["_law_script"]) fun _ _ _ _ _ _ us hl => match us, hl with | [_], _ => rfl
  let T : Txt K mg := ⟨f0, _, F0, PySem.W.mg_of X G a0, b0, f1, _, F1, PySem.W.mg_of X G a1, b1, f2, _, F2, PySem.W.mg_of X G a2, b2, f3, _, F3, PySem.W.mg_of X G a3, b3, f4, _, F4, PySem.W.mg_of X G a4, b4, f5, _, F5, PySem.W.mg_of X G a5, b5, f6, _, F6, PySem.W.mg_of X G a6, b6, f7, _, F7, PySem.W.mg_of X G a7, b7, f8, _, F8, PySem.W.mg_of X G a8, b8, fa, _, F9, PySem.W.mg_of X G a9, b9, PySem.W.mg_none_of X G z_abs, PySem.W.mg_none_of X G z_enumerate, PySem.W.mg_none_of X G z_len, PySem.W.mg_none_of X G z_list, PySem.W.mg_none_of X G z_max, PySem.W.mg_none_of X G z_min, PySem.W.mg_none_of X G z_range, PySem.W.mg_none_of X G z_repr, PySem.W.mg_none_of X G z_tuple⟩
  exact ⟨_, fun s v => .of_eq rfl, fun base _ _ => ok_law T⟩
end WK

namespace WK
open PySem L2 FL
/-- the hand's state -/
def tS (a b c : Int) : Tr := .lst [.imm (.int a), .imm (.int b), .imm (.int c)]
def wL (ws : List Nat) : List PyData := ws.map fun w => PyData.int (w : Nat)
theorem canLay_wL : ∀ ws : List Nat, PyData.canLayAll0 (wL ws) = true
  | [] => by rw [wL, List.map_nil, PyData.canLayAll0]
  | w :: ws => by
    have := canLay_wL ws
    unfold wL at *
    rw [List.map_cons, PyData.canLayAll0, this, PyData.canLay0]; rfl
theorem depth_wL : ∀ ws : List Nat, PyData.depthAll (wL ws) = 0
  | [] => by rw [wL, List.map_nil, PyData.depthAll]
  | w :: ws => by
    have := depth_wL ws
    unfold wL at *
    rw [List.map_cons, PyData.depthAll, this, PyData.depth]; rfl
theorem shaped_wL (ws : List Nat) : SeqAt.shaped (.tuple (wL ws)) = true := by
  unfold SeqAt.shaped
  rw [PyData.canLay0, canLay_wL, PyData.depth, depth_wL]; rfl
theorem eqv_wL : ∀ ws vs : List Nat, PyData.eqvAll (wL ws) (wL vs) = decide (ws = vs)
  | [], [] => by rw [wL, List.map_nil, PyData.eqvAll]; rfl
  | [], v :: vs => by rw [wL, wL, List.map_nil, List.map_cons, PyData.eqvAll]; rfl
  | w :: ws, [] => by rw [wL, wL, List.map_nil, List.map_cons, PyData.eqvAll]; rfl
  | w :: ws, v :: vs => by
    have h := eqv_wL ws vs
    unfold wL at *
    rw [List.map_cons, List.map_cons, PyData.eqvAll, h, PyData.eqv]
    by_cases e : w = v
    · subst e; simp
    · have : ((w : Int) == (v : Int)) = false := beq_eq_false_iff_ne.mpr (by omega)
      rw [this]; simp [e]
theorem eqT_tup {ds es : List PyData} (h : SeqAt.shaped (.tuple ds) = true) (k : SeqAt.shaped (.tuple es) = true) : eqT (.imm (.tuple ds)) (.imm (.tuple es)) = some (PyData.eqvAll ds es) := by
  unfold eqT
  simp only [v_tdI, Option.bind_some, h, k, and_self, if_true, PyData.eqv]
theorem fEq_wL (ws vs : List Nat) : fEq (.imm (.tuple (wL ws))) (.imm (.tuple (wL vs))) = some (.imm (.bool (decide (ws = vs)))) := by
  unfold fEq
  rw [eqT_tup (shaped_wL ws) (shaped_wL vs), eqv_wL]; rfl
theorem fNe_wL (ws vs : List Nat) : fNe (.imm (.tuple (wL ws))) (.imm (.tuple (wL vs))) = some (.imm (.bool !(decide (ws = vs)))) := by
  unfold fNe
  rw [eqT_tup (shaped_wL ws) (shaped_wL vs), eqv_wL]; rfl
theorem wL_nil : wL [] = [] := rfl
theorem wL_app (ws vs : List Nat) : wL ws ++ wL vs = wL (ws ++ vs) := by unfold wL; rw [List.map_append]
theorem wL_len (ws : List Nat) : (wL ws).length = ws.length := by unfold wL; rw [List.length_map]
theorem show_wL : ∀ ws : List Nat, (∀ w ∈ ws, w < 10) → PyData.showableAll (wL ws) = true ∧ PyData.leavesShortAll 8 (wL ws) = true ∧ PyData.bulkAll (wL ws) = ws.length ∧ PyData.hasDictAll (wL ws) = false
  | [], _ => ⟨by rw [wL, List.map_nil, PyData.showableAll], by rw [wL, List.map_nil, PyData.leavesShortAll], by rw [wL, List.map_nil, PyData.bulkAll]; rfl, by rw [wL, List.map_nil, PyData.hasDictAll]⟩
  | w :: ws, h => by
    obtain ⟨h1, h2, h3, h4⟩ := show_wL ws fun x hx => h x (List.mem_cons_of_mem _ hx)
    have hw : w < 10 := h w List.mem_cons_self
    have small : ∀ w : Fin 10, PyData.showable (.int (w.val : Nat)) = true ∧ PyData.leavesShort 8 (.int (w.val : Nat)) = true := by decide +kernel
    have := small ⟨w, hw⟩
    unfold wL at *
    refine ⟨?_, ?_, ?_, ?_⟩
    · rw [List.map_cons, PyData.showableAll, h1, this.1]; rfl
    · rw [List.map_cons, PyData.leavesShortAll, h2, this.2]; rfl
    · rw [List.map_cons, PyData.bulkAll, h3, PyData.bulk, List.length_cons]; omega
    · rw [List.map_cons, PyData.hasDictAll, h4, PyData.hasDict]; rfl
theorem repr_wL (ws : List Nat) (h : ∀ w ∈ ws, w < 10) (hl : ws.length ≤ 10000) : fRepr [.imm (.tuple (wL ws))] = some (.imm (.str (PyData.shown (.tuple (wL ws))))) := by
  obtain ⟨h1, h2, h3, h4⟩ := show_wL ws h
  have k1 : PyData.showable (.tuple (wL ws)) = true := by rw [PyData.showable]; exact h1
  have k2 : PyData.leavesShort 8 (.tuple (wL ws)) = true := by rw [PyData.leavesShort]; exact h2
  have k3 : PyData.bulk (.tuple (wL ws)) = ws.length := by rw [PyData.bulk]; exact h3
  have k4 : PyData.hasDict (.tuple (wL ws)) = false := by rw [PyData.hasDict]; exact h4
  have k5 : PyData.depth (.tuple (wL ws)) = 1 := by rw [PyData.depth, depth_wL]
  have k6 := PyData.shown_le_bulk 8 (by decide) _ k2
  unfold fRepr
  show (Tr.toD _).bind _ = _
  rw [v_tdI, Option.bind_some, if_pos ⟨k1, by omega, by omega, k4⟩]
theorem repr_none : fRepr [.imm .none] = some (.imm (.str (PyData.shown .none))) := by
  unfold fRepr
  show (Tr.toD _).bind _ = _
  rw [v_tdI, Option.bind_some, if_pos ⟨by rw [PyData.showable], by rw [PyData.shown]; decide +kernel, by rw [PyData.depth]; decide, by rw [PyData.hasDict]⟩]

def rowD (n : Nat) (G : Nat → Nat → Int) (i : Nat) : PyData := .tuple ((List.range n).map fun j => PyData.int (G i j))
theorem tab_is (n : Nat) (G : Nat → Nat → Int) : tabD n G = .tuple ((List.range n).map (rowD n G)) := rfl
theorem rowD_at {n : Nat} {G : Nat → Nat → Int} {i j : Nat} (h : j < n) : fIx (.imm (rowD n G i)) (.imm (.int (j : Nat))) = some (.imm (.int (G i j))) := by
  unfold rowD
  rw [v_ixT, FL.atI_nat (range_get h)]; rfl
theorem tabD_at {n : Nat} {G : Nat → Nat → Int} {i : Nat} (h : i < n) : fIx (.imm (.tuple ((List.range n).map (rowD n G)))) (.imm (.int (i : Nat))) = some (.imm (rowD n G i)) := by
  rw [v_ixT, FL.atI_nat (range_get h)]; rfl
theorem flat_wL : ∀ b : List Nat, (wL b).all flatD = true
  | [] => rfl
  | w :: b => by
    have := flat_wL b
    unfold wL at *
    rw [List.map_cons, List.all_cons, this]; rfl
theorem any_wL (k : Nat) : ∀ b : List Nat, ((wL b).any fun z => PyData.eqv z (.int (k : Nat))) = b.contains k
  | [] => rfl
  | w :: b => by
    have h := any_wL k b
    unfold wL at *
    rw [List.map_cons, List.any_cons, h, List.contains_cons, PyData.eqv]
    congr 1
    by_cases e : k = w
    · subst e; simp
    · have h1 : ((w : Int) == (k : Int)) = false := beq_eq_false_iff_ne.mpr (by omega)
      have h2 : (k == w) = false := beq_eq_false_iff_ne.mpr e
      rw [h1, h2]
theorem notIn_wL (k : Nat) (b : List Nat) : fNotIn (.imm (.int (k : Nat))) (.imm (.tuple (wL b))) = some (.imm (.bool !(b.contains k))) := by
  unfold fNotIn inT
  rw [v_tdI, Option.bind_some]
  simp only [flat_wL, flatD, and_self, if_true, any_wL, Option.map_some]
theorem bools_all : ∀ bs : List Bool, boolsOf (bs.map PyData.bool) = some bs
  | [] => rfl
  | b :: bs => by rw [List.map_cons, boolsOf, bools_all bs]; rfl
theorem fAll_bools (bs : List Bool) : fAll [.lst ((bs.map PyData.bool).map Tr.imm)] = some (.imm (.bool (bs.all id))) := by
  unfold fAll lstD
  show (Option.bind (seqOf _) _).bind _ = _
  rw [v_sqL]
  simp only [Option.bind_some, Bool.false_eq_true, if_false, bools_all, Option.map_some]
theorem enum_wL (b : List Nat) : enumD (wL b) = (List.range b.length).map fun j => PyData.tuple [.int (j : Nat), .int ((b.getD j 0 : Nat) : Int)] := by
  refine List.ext_getElem? fun i => ?_
  by_cases h : i < b.length
  · rw [range_get h]
    unfold enumD wL
    rw [List.getElem?_map, List.getElem?_zipIdx, List.getElem?_map, List.getElem?_eq_getElem h, List.getD_eq_getElem?_getD, List.getElem?_eq_getElem h]
    simp
  · rw [List.getElem?_eq_none (by simp [enumD, wL]; omega), List.getElem?_eq_none (by simp; omega)]
theorem wL_snoc (b : List Nat) (i : Nat) : wL b ++ [PyData.int (i : Nat)] = wL (b ++ [i]) := by unfold wL; rw [List.map_append]; rfl
def tupsT (ps : List (List Nat)) : Tr := .lst ((ps.map fun p => PyData.tuple (wL p)).map Tr.imm)
theorem v_extend {ts us : List Tr} : fExtend (.lst ts) [.lst us] = if ts.length + us.length ≤ 16777216 then some (.imm .none, .lst (ts ++ us)) else none := rfl
theorem tups_app (ps qs : List (List Nat)) : (ps.map fun p => PyData.tuple (wL p)).map Tr.imm ++ (qs.map fun p => PyData.tuple (wL p)).map Tr.imm = ((ps ++ qs).map fun p => PyData.tuple (wL p)).map Tr.imm := by
  rw [List.map_append, List.map_append]
theorem v_slT {ds : List PyData} {lo hi : Option Int} : fSl (.imm (.tuple ds)) lo hi = some (.imm (.tuple (cutL ds lo hi))) := rfl
theorem cut_lo {α : Type} (xs : List α) (i : Nat) (h : i ≤ xs.length) : cutL xs none (some ((i : Nat) : Int)) = xs.take i := by
  unfold cutL
  rw [HT.sIx_nat, HT.sIx_none, Nat.min_eq_left h, List.drop_zero, Nat.sub_zero]
theorem cut_hi {α : Type} (xs : List α) (i : Nat) (h : i ≤ xs.length) : cutL xs (some ((i : Nat) : Int)) none = xs.drop i := by
  unfold cutL
  rw [HT.sIx_nat, HT.sIx_none, Nat.min_eq_left h]
  refine List.take_of_length_le ?_
  rw [List.length_drop]
  exact Nat.le_refl _
theorem wL_take (o : List Nat) (i : Nat) : (wL o).take i = wL (o.take i) := by unfold wL; rw [List.map_take]
theorem wL_drop (o : List Nat) (i : Nat) : (wL o).drop i = wL (o.drop i) := by unfold wL; rw [List.map_drop]
def pT (p : List Nat) : PyData := .tuple (wL p)
/-- a loop that tells v at the first item that P does not hold of -/
theorem forD_all {g : Tr → En → Option En} {ms : MS} (C : En → Prop) (v : Tr) (P : PyData → Bool) : ∀ (ds : List PyData) (_ : ∀ d ∈ ds, ∀ E, C E → ∃ E1 E2, g (.imm d) E = some E1 ∧ C E2 ∧ ms E1 = some (if P d = true then .nx E2 else .rt v E2)) (E : En), C E → ∃ E', C E' ∧ forD g ms ds E = some (if ds.all P = true then .nx E' else .rt v E')
  | [], _, E, h => ⟨E, h, rfl⟩
  | d :: ds, h, E, hC => by
    obtain ⟨E1, E2, e1, h2, e2⟩ := h d List.mem_cons_self E hC
    rw [forD, e1, Option.bind_some, e2, Option.bind_some, List.all_cons]
    cases hp : P d with
    | true =>
      rw [if_pos rfl, Bool.true_and]
      exact forD_all C v P ds (fun d hd => h d (List.mem_cons_of_mem _ hd)) E2 h2
    | false =>
      exact ⟨E2, h2, rfl⟩
theorem wL_at {b : List Nat} {j : Nat} (h : j < b.length) : fIx (.imm (.tuple (wL b))) (.imm (.int (j : Nat))) = some (.imm (.int ((b.getD j 0 : Nat) : Int))) := by
  rw [v_ixT, FL.atI_nat (x := PyData.int ((b.getD j 0 : Nat) : Int)) (by unfold wL; rw [List.getElem?_map, List.getElem?_eq_getElem h, List.getD_eq_getElem?_getD, List.getElem?_eq_getElem h]; rfl)]; rfl
theorem forD_find {g : Tr → En → Option En} {ms : MS} (C : Option Tr → En) (P : PyData → Bool) : ∀ (ds : List PyData) (_ : ∀ d ∈ ds, ∀ s, ∃ s' E1, g (.imm d) (C s) = some E1 ∧ ms E1 = some (if P d = true then .rt (.imm d) (C s') else .nx (C s'))) (s : Option Tr), ∃ s', forD g ms ds (C s) = some (match ds.find? P with | some d => .rt (.imm d) (C s') | none => .nx (C s'))
  | [], _, s => ⟨s, rfl⟩
  | d :: ds, h, s => by
    obtain ⟨s1, E1, e1, e2⟩ := h d List.mem_cons_self s
    rw [forD, e1, Option.bind_some, e2, Option.bind_some, List.find?_cons]
    by_cases hp : P d = true
    · rw [if_pos hp, hp]
      exact ⟨s1, rfl⟩
    · rw [if_neg hp]
      rw [Bool.not_eq_true] at hp
      rw [hp]
      exact forD_find C P ds (fun d hd => h d (List.mem_cons_of_mem _ hd)) s1
theorem lcD_test {g : Tr → En → Option En} {mt : MT} {m : MF} {vs : List Nat} (I : Nat → En → Prop) (ds : List PyData) (h : ∀ i d E, ds[i]? = some d → I i E → ∃ E1 E2 E3 b, g (.imm d) E = some E1 ∧ mt E1 = some (b, E2) ∧ m E2 = some (.imm d, E2) ∧ wipeE E2 vs = some E3 ∧ I (i + 1) E3) :
    ∀ (acc : List Tr) E, acc.length + ds.length ≤ 16777216 → I 0 E → ∃ (rs : List PyData) (E' : En), lcD g mt m vs ds acc E = some (acc ++ rs.map Tr.imm, E') ∧ I ds.length E' ∧ rs.Sublist ds := by
  induction ds generalizing I with
  | nil => exact fun acc E _ h0 => ⟨[], E, by simp [lcD], h0, List.Sublist.slnil⟩
  | cons d ds ih =>
    intro acc E hl h0
    simp only [List.length_cons] at hl
    obtain ⟨E1, E2, E3, b, e1, e2, e3, e4, h1⟩ := h 0 d E rfl h0
    cases b with
    | true =>
      obtain ⟨rs, E', e5, h3, h4⟩ := ih (fun i => I (i + 1)) (fun i d E e k => h (i + 1) d E (by simpa using e) k) (acc ++ [.imm d]) E3 (by simp; omega) h1
      refine ⟨d :: rs, E', ?_, h3, h4.cons₂ d⟩
      rw [lcD, e1]
      simp only [Option.bind_some, e2, if_true, e3]
      rw [if_pos (by omega), e4]
      simp only [Option.bind_some]
      rw [e5]
      simp
    | false =>
      obtain ⟨rs, E', e5, h3, h4⟩ := ih (fun i => I (i + 1)) (fun i d E e k => h (i + 1) d E (by simpa using e) k) acc E3 (by omega) h1
      refine ⟨rs, E', ?_, h3, h4.cons d⟩
      rw [lcD, e1]
      simp only [Option.bind_some, e2, Bool.false_eq_true, if_false, e4]
      exact e5
theorem canLay_ints : ∀ xs : List Int, PyData.canLayAll0 (xs.map PyData.int) = true
  | [] => by rw [List.map_nil, PyData.canLayAll0]
  | x :: xs => by rw [List.map_cons, PyData.canLayAll0, canLay_ints xs, PyData.canLay0]; rfl
theorem depth_ints : ∀ xs : List Int, PyData.depthAll (xs.map PyData.int) = 0
  | [] => by rw [List.map_nil, PyData.depthAll]
  | x :: xs => by rw [List.map_cons, PyData.depthAll, depth_ints xs, PyData.depth]; rfl
theorem eqv_ints : ∀ xs ys : List Int, PyData.eqvAll (xs.map PyData.int) (ys.map PyData.int) = decide (xs = ys)
  | [], [] => by rw [List.map_nil, PyData.eqvAll]; rfl
  | [], _ :: _ => by rw [List.map_nil, List.map_cons, PyData.eqvAll]; rfl
  | _ :: _, [] => by rw [List.map_nil, List.map_cons, PyData.eqvAll]; rfl
  | x :: xs, y :: ys => by
    rw [List.map_cons, List.map_cons, PyData.eqvAll, eqv_ints xs ys, PyData.eqv]
    by_cases e : x = y
    · subst e; simp
    · have : (x == y) = false := beq_eq_false_iff_ne.mpr e
      rw [this]; simp [e]
theorem fNe_lists (xs ys : List Int) : fNe (.lst ((xs.map PyData.int).map Tr.imm)) (.lst ((ys.map PyData.int).map Tr.imm)) = some (.imm (.bool !(decide (xs = ys)))) := by
  have sh : ∀ zs : List Int, SeqAt.shaped (.list (zs.map PyData.int)) = true := fun zs => by
    unfold SeqAt.shaped
    rw [PyData.canLay0, canLay_ints, PyData.depth, depth_ints]; rfl
  unfold fNe eqT
  simp only [v_tdL, toDs_imms, Option.map_some, Option.bind_some, sh, and_self, if_true, PyData.eqv, eqv_ints]
theorem range_dec (n : Nat) (f g : Nat → Int) : decide ((List.range n).map f = (List.range n).map g) = (List.range n).all fun j => decide (f j = g j) := by
  rw [Bool.eq_iff_iff, decide_eq_true_eq, List.all_eq_true, List.map_inj_left]
  exact ⟨fun h a ha => decide_eq_true (h a ha), fun h a ha => of_decide_eq_true (h a ha)⟩
theorem range_ints (n : Nat) (f : Nat → Int) : ((List.range n).map fun j => PyData.int (f j)) = ((List.range n).map f).map PyData.int := by rw [List.map_map]; rfl
theorem fNe_ranges (n : Nat) (f g : Nat → Int) : fNe (.lst (((List.range n).map fun j => PyData.int (f j)).map Tr.imm)) (.lst (((List.range n).map fun j => PyData.int (g j)).map Tr.imm)) = some (.imm (.bool !((List.range n).all fun j => decide (f j = g j)))) := by
  rw [range_ints n f, range_ints n g, fNe_lists, range_dec]
theorem enum_tab (n : Nat) (A : Nat → Nat → Int) : enumD ((List.range n).map (rowD n A)) = (List.range n).map fun i => PyData.tuple [.int (i : Nat), rowD n A i] := by
  refine List.ext_getElem? fun i => ?_
  by_cases h : i < n
  · rw [range_get h]
    unfold enumD
    rw [List.getElem?_map, List.getElem?_zipIdx, List.getElem?_map, List.getElem?_range h]
    simp
  · rw [List.getElem?_eq_none (by simp [enumD]; omega), List.getElem?_eq_none (by simp; omega)]
/-- a comprehension with a test -/
theorem lcD_filt {g : Tr → En → Option En} {mt : MT} {m : MF} {vs : List Nat} {E : En} (P : PyData → Bool) (f : PyData → Tr) : ∀ (ds : List PyData) (_ : ∀ d ∈ ds, ∃ E1 E2, g (.imm d) E = some E1 ∧ mt E1 = some (P d, E2) ∧ (P d = true → ∃ E3, m E2 = some (f d, E3) ∧ wipeE E3 vs = some E) ∧ (P d = false → wipeE E2 vs = some E)) (acc : List Tr), acc.length + ds.length ≤ 16777216 → lcD g mt m vs ds acc E = some (acc ++ (ds.filter P).map f, E)
  | [], _, acc, _ => by simp [lcD]
  | d :: ds, h, acc, hl => by
    simp only [List.length_cons] at hl
    obtain ⟨E1, E2, e1, e2, e3, e4⟩ := h d List.mem_cons_self
    rw [lcD, e1, Option.bind_some, e2, Option.bind_some]
    cases hp : P d with
    | true =>
      obtain ⟨E3, e5, e6⟩ := e3 hp
      rw [if_pos rfl, e5, Option.bind_some, if_pos (by omega), e6, Option.bind_some, lcD_filt P f ds (fun d hd => h d (List.mem_cons_of_mem _ hd)) (acc ++ [f d]) (by simp; omega), List.filter_cons_of_pos hp]
      simp
    | false =>
      rw [if_neg (fun z => Bool.noConfusion z), e4 hp, Option.bind_some, lcD_filt P f ds (fun d hd => h d (List.mem_cons_of_mem _ hd)) acc (by omega), List.filter_cons_of_neg (by rw [hp]; decide)]
structure Sy (G : Nat → Nat → Int) : Prop where
  one : ∀ a, G a a = 1
  sym : ∀ a b, G a b = G b a
def natOf : PyData → Nat
  | .int k => k.toNat
  | _ => 0
def unT : PyData → List Nat
  | .tuple ds => ds.map natOf
  | _ => []
theorem unT_pT (p : List Nat) : unT (pT p) = p := by
  show (wL p).map natOf = p
  unfold wL
  rw [List.map_map]
  exact (List.map_congr_left fun x _ => rfl).trans (List.map_id p)
theorem range_wL (n : Nat) : rangeD 0 n = wL (List.range n) := by
  unfold rangeD wL
  refine List.map_congr_left fun i _ => ?_
  rw [Int.zero_add]
theorem erase_mp {α β : Type} (f : α → β) : ∀ (l : List α) (i : Nat), (l.map f).eraseIdx i = (l.eraseIdx i).map f
  | [], _ => rfl
  | _ :: _, 0 => rfl
  | x :: l, i + 1 => congrArg (f x :: ·) (erase_mp f l i)
theorem v_popAt {L : List Nat} {i : Nat} (h : i < L.length) (hl : L.length ≤ 1000) : fPopAt (.lst ((wL L).map Tr.imm)) [.imm (.int (i : Nat))] = some (.imm (.int ((L.getD i 0 : Nat) : Int)), .lst ((wL (L.eraseIdx i)).map Tr.imm)) := by
  have e : ((wL L).map Tr.imm).length = L.length := by rw [List.length_map, wL_len]
  have e2 : ((wL L).map Tr.imm)[i]? = some (.imm (.int ((L.getD i 0 : Nat) : Int))) := by
    unfold wL
    rw [List.getElem?_map, List.getElem?_map, List.getElem?_eq_getElem h, List.getD_eq_getElem?_getD, List.getElem?_eq_getElem h]; rfl
  unfold fPopAt
  simp only
  rw [if_pos (by rw [e]; omega), e, ixN_nat h, Option.bind_some, e2, Option.map_some]
  unfold wL
  rw [erase_mp, erase_mp]
theorem perm_put : ∀ (L : List Nat) (i : Nat), i < L.length → (L.getD i 0 :: L.eraseIdx i).Perm L
  | [], i, h => absurd h (Nat.not_lt_zero _)
  | x :: L, 0, _ => List.Perm.refl _
  | x :: L, i + 1, h => by
    have := perm_put L i (by simpa using h)
    show (L.getD i 0 :: x :: L.eraseIdx i).Perm _
    exact (List.Perm.swap x _ _).trans (this.cons x)
def lstOf : PyData → Tr
  | .tuple ds => .lst (ds.map Tr.imm)
  | _ => .imm .none
theorem len_tab (n : Nat) (G : Nat → Nat → Int) : fLen [.imm (tabD n G)] = some (.imm (.int (n : Nat))) := by
  rw [tab_is]
  show some (Tr.imm (.int _)) = _
  rw [List.length_map, List.length_range]
theorem items_tab (n : Nat) (G : Nat → Nat → Int) : itemsD (tabD n G) = some ((List.range n).map (rowD n G)) := rfl
theorem rows_lst (n : Nat) (G : Nat → Nat → Int) : ((List.range n).map (rowD n G)).map lstOf = (List.range n).map fun i => Tr.lst ((List.range n).map fun j => Tr.imm (.int (G i j))) := by
  rw [List.map_map]
  refine List.map_congr_left fun i _ => ?_
  show Tr.lst (((List.range n).map fun j => PyData.int (G i j)).map Tr.imm) = _
  rw [List.map_map]; rfl
theorem tups_show (n : Nat) (hn : n < 10) : ∀ ps : List (List Nat), (∀ p ∈ ps, p.length = n ∧ ∀ x ∈ p, x < n) → PyData.showableAll (ps.map pT) = true ∧ PyData.leavesShortAll 8 (ps.map pT) = true ∧ PyData.bulkAll (ps.map pT) ≤ (n + 1) * ps.length ∧ PyData.hasDictAll (ps.map pT) = false ∧ PyData.depthAll (ps.map pT) ≤ 1
  | [], _ => ⟨by rw [List.map_nil, PyData.showableAll], by rw [List.map_nil, PyData.leavesShortAll], by rw [List.map_nil, PyData.bulkAll]; exact Nat.zero_le _, by rw [List.map_nil, PyData.hasDictAll], by rw [List.map_nil, PyData.depthAll]; decide⟩
  | p :: ps, h => by
    obtain ⟨h1, h2, h3, h4, h5⟩ := tups_show n hn ps fun y hy => h y (List.mem_cons_of_mem _ hy)
    obtain ⟨hl, hx⟩ := h p List.mem_cons_self
    obtain ⟨k1, k2, k3, k4⟩ := show_wL p fun w hw => by have := hx w hw; omega
    have k5 := depth_wL p
    refine ⟨?_, ?_, ?_, ?_, ?_⟩
    · rw [List.map_cons, PyData.showableAll, h1, pT, PyData.showable, k1]; rfl
    · rw [List.map_cons, PyData.leavesShortAll, h2, pT, PyData.leavesShort, k2]; rfl
    · rw [List.map_cons, PyData.bulkAll, pT, PyData.bulk, k3, List.length_cons, Nat.mul_succ]; omega
    · rw [List.map_cons, PyData.hasDictAll, h4, pT, PyData.hasDict, k4]; rfl
    · rw [List.map_cons, PyData.depthAll, pT, PyData.depth, k5]; omega
theorem repr_tups (n : Nat) (hn : n ≤ 6) (ps : List (List Nat)) (h : ∀ p ∈ ps, p.length = n ∧ ∀ x ∈ p, x < n) (hl : ps.length ≤ 46656) : fRepr [tupsT ps] = some (.imm (.str (PyData.shown (.list (ps.map pT))))) := by
  obtain ⟨h1, h2, h3, h4, h5⟩ := tups_show n (by omega) ps h
  have h6 : (n + 1) * ps.length ≤ 7 * 46656 := Nat.mul_le_mul (by omega) hl
  have e : tupsT ps = .lst ((ps.map pT).map Tr.imm) := rfl
  rw [e]
  generalize ps.map pT = ds at h1 h2 h3 h4 h5 ⊢
  have k1 : PyData.showable (.list ds) = true := by rw [PyData.showable]; exact h1
  have k2 : PyData.leavesShort 8 (.list ds) = true := by rw [PyData.leavesShort]; exact h2
  have k3 : PyData.bulk (.list ds) ≤ 7 * 46656 := by rw [PyData.bulk]; omega
  have k4 : PyData.hasDict (.list ds) = false := by rw [PyData.hasDict]; exact h4
  have k5 : PyData.depth (.list ds) ≤ 2 := by rw [PyData.depth]; omega
  have k6 := PyData.shown_le_bulk 8 (by decide) _ k2
  unfold fRepr
  show (Tr.toD _).bind _ = _
  rw [v_tdL, toDs_imms, Option.map_some, Option.bind_some, if_pos ⟨k1, by omega, by omega, k4⟩]
theorem v_appT {ts : List Tr} {t : Tr} : fAppend (.lst ts) [t] = if ts.length < 16777216 then some (.imm .none, .lst (ts ++ [t])) else none := rfl
theorem canLay_tups : ∀ ps : List (List Nat), PyData.canLayAll0 (ps.map pT) = true
  | [] => by rw [List.map_nil, PyData.canLayAll0]
  | p :: ps => by rw [List.map_cons, PyData.canLayAll0, canLay_tups ps, pT, PyData.canLay0, canLay_wL]; rfl
theorem depth_tups : ∀ ps : List (List Nat), PyData.depthAll (ps.map pT) ≤ 1
  | [] => by rw [List.map_nil, PyData.depthAll]; decide
  | p :: ps => by
    have := depth_tups ps
    rw [List.map_cons, PyData.depthAll, pT, PyData.depth, depth_wL]; omega
theorem eqv_tups : ∀ ps qs : List (List Nat), PyData.eqvAll (ps.map pT) (qs.map pT) = decide (ps = qs)
  | [], [] => by rw [List.map_nil, PyData.eqvAll]; rfl
  | [], _ :: _ => by rw [List.map_nil, List.map_cons, PyData.eqvAll]; rfl
  | _ :: _, [] => by rw [List.map_nil, List.map_cons, PyData.eqvAll]; rfl
  | p :: ps, q :: qs => by
    rw [List.map_cons, List.map_cons, PyData.eqvAll, eqv_tups ps qs, pT, pT, PyData.eqv, eqv_wL]
    by_cases e : p = q
    · subst e; simp
    · simp [e]
theorem fNe_tups (ps qs : List (List Nat)) : fNe (tupsT ps) (tupsT qs) = some (.imm (.bool !(decide (ps = qs)))) := by
  have sh : ∀ zs : List (List Nat), SeqAt.shaped (.list (zs.map pT)) = true := fun zs => by
    have := depth_tups zs
    unfold SeqAt.shaped
    rw [PyData.canLay0, canLay_tups, PyData.depth, Bool.true_and, decide_eq_true_eq]
    omega
  have e : ∀ zs, tupsT zs = .lst ((zs.map pT).map Tr.imm) := fun _ => rfl
  rw [e, e]
  unfold fNe eqT
  simp only [v_tdL, toDs_imms, Option.map_some, Option.bind_some, sh, and_self, if_true, PyData.eqv, eqv_tups]
def sub (G : Nat → Nat → Int) (p : List Nat) : Nat → Nat → Int := fun a b => G (p.getD a 0) (p.getD b 0)
theorem by_places (p : List Nat) : p = (List.range p.length).map fun a => p.getD a 0 := by
  refine List.ext_getElem? fun i => ?_
  by_cases h : i < p.length
  · rw [range_get h, List.getElem?_eq_getElem h, List.getD_eq_getElem?_getD, List.getElem?_eq_getElem h]; rfl
  · rw [List.getElem?_eq_none (by omega), List.getElem?_eq_none (by simp; omega)]
theorem map_places {α : Type} (p : List Nat) (f : Nat → α) : p.map f = (List.range p.length).map fun a => f (p.getD a 0) := by
  conv => lhs; rw [by_places p]
  rw [List.map_map]; rfl
theorem sub_tab (G : Nat → Nat → Int) (p : List Nat) : tabD p.length (sub G p) = .tuple (p.map fun i => PyData.tuple (p.map fun j => PyData.int (G i j))) := by
  unfold tabD sub
  rw [map_places p]
  congr 1
  refine List.map_congr_left fun a _ => ?_
  rw [map_places p]
theorem Sy.sub {G : Nat → Nat → Int} (h : Sy G) (p : List Nat) : Sy (sub G p) := ⟨fun a => h.one _, fun a b => h.sym _ _⟩
theorem cut_last {α : Type} (n : Nat) (f : Nat → α) : cutL ((List.range (n + 1)).map f) none (some (-1)) = (List.range n).map f := by
  unfold cutL
  have h : HT.sIx ((List.range (n + 1)).map f).length ((List.range (n + 1)).map f).length (some (-1)) = n := by
    rw [List.length_map, List.length_range]
    unfold HT.sIx
    simp only
    rw [if_pos (by decide)]
    omega
  rw [h, HT.sIx_none, List.drop_zero, Nat.sub_zero, List.range_succ, List.map_append]
  rw [List.take_append_of_le_length (by simp), List.take_of_length_le (by simp)]
/-- numbers that a stock may hold -/
def goodB (k : Int) : Bool := decide (k = 0) || (decide (2 ≤ k) && decide (k ≤ 12))
theorem rows_start (n : Nat) : (rangeD 0 n).map (fun _ => Tr.lst ((List.replicate n (PyData.int 1)).map Tr.imm)) = (List.range n).map fun i => Tr.lst ((List.range n).map fun j => Tr.imm (.int 1)) := by
  unfold rangeD
  rw [List.map_map]
  refine List.map_congr_left fun i _ => ?_
  show Tr.lst _ = Tr.lst _
  congr 1
  rw [List.map_replicate, List.map_const', List.length_range]
def tupOf : PyData → Tr
  | .list ds => .imm (.tuple ds)
  | _ => .imm .none
theorem rows_toDs' (G : Nat → Nat → Int) (n : Nat) : ∀ is : List Nat, Tr.toDs (is.map fun i => Tr.lst ((List.range n).map fun j => Tr.imm (.int (G i j)))) = some (is.map fun i => PyData.list ((List.range n).map fun j => PyData.int (G i j)))
  | [] => v_tdN
  | i :: is => by
    have h : (List.range n).map (fun j => Tr.imm (.int (G i j))) = ((List.range n).map fun j => PyData.int (G i j)).map Tr.imm := by rw [List.map_map]; rfl
    rw [List.map_cons, v_tdC, v_tdL, h, toDs_imms, rows_toDs' G n is]; rfl
theorem rows_toDs (_ : Nat) (n : Nat) (G : Nat → Nat → Int) : Tr.toDs ((List.range n).map fun i => Tr.lst ((List.range n).map fun j => Tr.imm (.int (G i j)))) = some ((List.range n).map fun i => PyData.list ((List.range n).map fun j => PyData.int (G i j))) := rows_toDs' G n _

end WK

namespace WK
open PySem L2 FL
theorem take_one (a b c n : Int) (ha : 0 ≤ a) (hb : 0 ≤ b) (hc : 0 ≤ c) (hb2 : b < 2 ^ 61) (hc2 : c < 2 ^ 60) (hn : 0 < n) (hn2 : n < 2 ^ 80) :
    ∃ r a' c', mFn 4 m__law_take [tS a b c, .imm (.int n)] = some (.imm (.int r), [tS a' b c', .imm (.int n)]) ∧ 0 ≤ r ∧ r < n ∧ 0 ≤ a' ∧ c ≤ c' ∧ c' ≤ c + 1 := by
  have hN : Bd 80 n := .of (by omega) (by omega)
  by_cases h : 0 < a
  · refine ⟨a % n, a / n, c, ?_, Int.emod_nonneg _ (by omega), Int.emod_lt_of_pos _ hn, Int.ediv_nonneg ha (by omega), by omega, by omega⟩
    have e1 := v_divI (a := a) (cdiv_ok hn hN (by decide))
    have e2 := v_modI (a := a) hn
    rw [v_fn]
    unfold m__law_take tS
    simp -implicitDefEqProofs only [FL.v_seq, FL.v_thN, FL.v_thR, FL.v_thB, FL.v_thC, FL.v_ifS, FL.v_asg, FL.v_ret, FL.v_retN, FL.v_drop, FL.v_nx, FL.v_bk, FL.v_ct, FL.v_name, FL.v_pN, FL.v_pV, FL.v_var, FL.v_at, FL.v_trV, FL.v_trP, FL.v_wV, FL.v_wP, FL.v_C, FL.v_ER, FL.v_Fz, FL.v_fO, FL.v_fS, FL.v_fV, FL.v_fP, FL.v_fL, FL.v_vS, FL.v_vO, FL.v_op, FL.v_un, FL.v_bOf, FL.v_test, FL.v_and, FL.v_or, FL.v_not, FL.v_tru, FL.v_trB, FL.v_andV, FL.v_orV, FL.v_notV, FL.v_if, FL.v_chain, FL.v_arN, FL.v_arC, FL.v_faN, FL.v_faC, FL.v_tup, FL.v_lst, FL.v_tdN, FL.v_tdC, FL.v_tdI, FL.v_tdL, FL.toDs_imms, FL.imms_imms, FL.v_cb, FL.v_vsN, FL.v_vsC, FL.v_bm, FL.v_tyS, FL.v_tyL, FL.v_sl, FL.v_moN, FL.v_moS, FL.v_iOf, FL.v_call, FL.v_osO, FL.v_osS, FL.v_isI, FL.v_isL, FL.v_isD, FL.v_gN, FL.v_gO, FL.v_gS, FL.v_for, FL.v_lc, FL.v_sub, FL.v_sub2, FL.v_iAt, FL.v_iC, FL.v_aug, FL.v_par, FL.v_mut, FL.v_rng1, FL.v_rng2, FL.v_seqI, FL.v_enumE, FL.v_enumT, FL.v_enumL, FL.v_isi, FL.v_addI, FL.v_addS, FL.v_addT, FL.v_addL, FL.v_subI, FL.v_neg, FL.v_lt, FL.v_le, FL.v_gt, FL.v_ge, FL.v_eqI, FL.v_neI, FL.v_eqS, FL.v_neS, FL.v_ixT, FL.v_ixD, FL.v_ixL, FL.v_ixS, FL.v_len, FL.v_lnT, FL.v_lnD, FL.v_lnL, FL.v_lnS, FL.v_abs, FL.v_max, FL.v_min, FL.v_int, FL.v_intB, FL.v_tuple, FL.v_list, FL.v_sqT, FL.v_sqD, FL.v_sqL, FL.v_itT, FL.v_itL, FL.v_itS, FL.v_isN, FL.v_notN, FL.v_setL, FL.v_setD, FL.v_kS, FL.v_kI, FL.v_mp, FL.v_mpn, FL.v_pO, FL.v_tupG, FL.v_gsC, FL.v_gsN, FL.v_slD, FL.v_at0, FL.v_at1, FL.v_at2, FL.v_i30, FL.v_i31, FL.v_i32, FL.v_Mv, FL.v_mvV, FL.v_pr, FL.v_wpN, FL.v_wpC, FL.v_wsN, FL.v_wsV, FL.v_wsO, FL.v_bkN, FL.v_bkC, FL.v_bsN, FL.v_bsI, FL.v_sf, FL.v_yes, FL.v_tupA, FL.v_imm, FL.v_aftN, FL.v_aftC, FL.v_aftB, FL.v_aftR, FL.v_iOp, FL.v_iLen, FL.v_dnin, FL.v_dninI, FL.v_disp1, FL.v_dispI, FL.v_mut0, FL.v_mulB, FL.v_lrg1, FL.v_trg1, FL.v_lrg2, FL.v_trg2, FL.v_fT, FL.v_rS, FL.v_rO, FL.v_plI, FL.v_plL, FL.v_plD, FL.v_plT, FL.v_vrN, FL.v_vrC, FL.v_isT, FL.callD, Option.bind_some, Option.bind_none, List.getElem?_cons_zero, List.getElem?_cons_succ, List.getElem?_nil, List.set_cons_zero, List.set_cons_succ, List.length_cons, List.length_nil, List.filterMap_cons, List.filterMap_nil, decide_eq_true_eq, if_true, if_false, true_and, and_true, Nat.reduceAdd, Nat.reduceLeDiff, Nat.reduceEqDiff, ↓reduceIte, Bool.false_eq_true, FL.startE, FL.backs, List.map_cons, List.map_nil, List.cons_append, List.nil_append, Nat.reduceSub, List.replicate_succ, List.replicate_zero, List.nodup_nil, List.nodup_cons, List.not_mem_nil, not_false_eq_true, and_self, reduceCtorEq, Option.map_some, Option.map_none, v_at0, v_at1, v_at2, v_i30, v_i31, v_i32, h, e1, e2]
  · have hC : Bd 61 (c + 1) := .of (by omega) (by omega)
    have hB : Bd 61 b := .of (by omega) (by omega)
    have c1 : Bd 17 (65537 : Int) := by decide
    have f1 := c1.fmul hC (by decide)
    have f2 := (c1.mul hC).fmul hC (by decide)
    have g2 := (c1.mul hC).mul hC
    have g3 := (hB.mono (n := 139) (by decide)).add g2
    have g4 := g3.add (b := 11) (Bd.mono (m := 4) (by decide) (by decide))
    have c2 : Bd 16 (48271 : Int) := by decide
    have f3 := g4.fmul c2 (by decide)
    have f4 := v_modI (a := (b + 65537 * (c + 1) * (c + 1) + 11) * 48271) (b := 2305843009213693921) (by decide)
    generalize hx : (b + 65537 * (c + 1) * (c + 1) + 11) * 48271 % 2305843009213693921 = x at f4
    have hX : Bd 61 x := by rw [← hx]; exact .mod (by decide) (by decide)
    have f5 := v_modI (a := x) (b := 1000003) (by decide)
    have c3 : Bd 17 (99991 : Int) := by decide
    have f6 := c3.fmul hC (by decide)
    have g5 := (Bd.mono (n := 78) (Bd.mod (n := 20) (a := x) (b := 1000003) (by decide) (by decide)) (by decide)).add (c3.mul hC)
    have f7 := hX.fmul g5 (by decide)
    have f8 := v_modI (a := x * (x % 1000003 + 99991 * (c + 1))) (b := 2305843009213693907) (by decide)
    generalize hy : x * (x % 1000003 + 99991 * (c + 1)) % 2305843009213693907 = y at f8
    have f9 := v_divI (a := y) (b := 97) (cdiv_ok (n := 20) (by decide) (by decide) (by decide))
    have f10 := v_divI (a := y) (b := 1000033) (cdiv_ok (n := 20) (by decide) (by decide) (by decide))
    have f11 := v_modI (a := y / 97 + y / 1000033) hn
    refine ⟨(y / 97 + y / 1000033) % n, a, c + 1, ?_, Int.emod_nonneg _ (by omega), Int.emod_lt_of_pos _ hn, ha, by omega, by omega⟩
    rw [v_fn]
    unfold m__law_take tS
    simp -implicitDefEqProofs only [FL.v_seq, FL.v_thN, FL.v_thR, FL.v_thB, FL.v_thC, FL.v_ifS, FL.v_asg, FL.v_ret, FL.v_retN, FL.v_drop, FL.v_nx, FL.v_bk, FL.v_ct, FL.v_name, FL.v_pN, FL.v_pV, FL.v_var, FL.v_at, FL.v_trV, FL.v_trP, FL.v_wV, FL.v_wP, FL.v_C, FL.v_ER, FL.v_Fz, FL.v_fO, FL.v_fS, FL.v_fV, FL.v_fP, FL.v_fL, FL.v_vS, FL.v_vO, FL.v_op, FL.v_un, FL.v_bOf, FL.v_test, FL.v_and, FL.v_or, FL.v_not, FL.v_tru, FL.v_trB, FL.v_andV, FL.v_orV, FL.v_notV, FL.v_if, FL.v_chain, FL.v_arN, FL.v_arC, FL.v_faN, FL.v_faC, FL.v_tup, FL.v_lst, FL.v_tdN, FL.v_tdC, FL.v_tdI, FL.v_tdL, FL.toDs_imms, FL.imms_imms, FL.v_cb, FL.v_vsN, FL.v_vsC, FL.v_bm, FL.v_tyS, FL.v_tyL, FL.v_sl, FL.v_moN, FL.v_moS, FL.v_iOf, FL.v_call, FL.v_osO, FL.v_osS, FL.v_isI, FL.v_isL, FL.v_isD, FL.v_gN, FL.v_gO, FL.v_gS, FL.v_for, FL.v_lc, FL.v_sub, FL.v_sub2, FL.v_iAt, FL.v_iC, FL.v_aug, FL.v_par, FL.v_mut, FL.v_rng1, FL.v_rng2, FL.v_seqI, FL.v_enumE, FL.v_enumT, FL.v_enumL, FL.v_isi, FL.v_addI, FL.v_addS, FL.v_addT, FL.v_addL, FL.v_subI, FL.v_neg, FL.v_lt, FL.v_le, FL.v_gt, FL.v_ge, FL.v_eqI, FL.v_neI, FL.v_eqS, FL.v_neS, FL.v_ixT, FL.v_ixD, FL.v_ixL, FL.v_ixS, FL.v_len, FL.v_lnT, FL.v_lnD, FL.v_lnL, FL.v_lnS, FL.v_abs, FL.v_max, FL.v_min, FL.v_int, FL.v_intB, FL.v_tuple, FL.v_list, FL.v_sqT, FL.v_sqD, FL.v_sqL, FL.v_itT, FL.v_itL, FL.v_itS, FL.v_isN, FL.v_notN, FL.v_setL, FL.v_setD, FL.v_kS, FL.v_kI, FL.v_mp, FL.v_mpn, FL.v_pO, FL.v_tupG, FL.v_gsC, FL.v_gsN, FL.v_slD, FL.v_at0, FL.v_at1, FL.v_at2, FL.v_i30, FL.v_i31, FL.v_i32, FL.v_Mv, FL.v_mvV, FL.v_pr, FL.v_wpN, FL.v_wpC, FL.v_wsN, FL.v_wsV, FL.v_wsO, FL.v_bkN, FL.v_bkC, FL.v_bsN, FL.v_bsI, FL.v_sf, FL.v_yes, FL.v_tupA, FL.v_imm, FL.v_aftN, FL.v_aftC, FL.v_aftB, FL.v_aftR, FL.v_iOp, FL.v_iLen, FL.v_dnin, FL.v_dninI, FL.v_disp1, FL.v_dispI, FL.v_mut0, FL.v_mulB, FL.v_lrg1, FL.v_trg1, FL.v_lrg2, FL.v_trg2, FL.v_fT, FL.v_rS, FL.v_rO, FL.v_plI, FL.v_plL, FL.v_plD, FL.v_plT, FL.v_vrN, FL.v_vrC, FL.v_isT, FL.callD, Option.bind_some, Option.bind_none, List.getElem?_cons_zero, List.getElem?_cons_succ, List.getElem?_nil, List.set_cons_zero, List.set_cons_succ, List.length_cons, List.length_nil, List.filterMap_cons, List.filterMap_nil, decide_eq_true_eq, if_true, if_false, true_and, and_true, Nat.reduceAdd, Nat.reduceLeDiff, Nat.reduceEqDiff, ↓reduceIte, Bool.false_eq_true, FL.startE, FL.backs, List.map_cons, List.map_nil, List.cons_append, List.nil_append, Nat.reduceSub, List.replicate_succ, List.replicate_zero, List.nodup_nil, List.nodup_cons, List.not_mem_nil, not_false_eq_true, and_self, reduceCtorEq, Option.map_some, Option.map_none, v_at0, v_at1, v_at2, v_i30, v_i31, v_i32, h, f1, f2, f3, f4, f5, f6, f7, f8, f9, f10, f11]
theorem hand_loop1 (sc : PyData) (ds : List PyData) (hd : ∀ (i : Nat) (d : PyData), ds[i]? = some d → ∃ k : Int, d = PyData.int k) (hl : ds.length ≤ 63) : 
    ∃ a f s3, forD (mName 3) B__law_hand_1 ds [.val (.imm sc), .val (tS 0 0 0), .val (.imm (.int 1)), .no, .no, .no] = some (.nx [.val (.imm sc), .val (tS a 0 0), .val (.imm (.int f)), ov s3, .no, .no]) ∧ 0 ≤ a := by
  obtain ⟨E', e, a, f, s3, rfl, h0, h1, h2⟩ := forD_inv (g := mName 3) (ms := B__law_hand_1)
    (fun i E => ∃ a f s3, E = [.val (.imm sc), .val (tS a 0 0), .val (.imm (.int f)), ov s3, .no, .no] ∧ 0 ≤ a ∧ 0 ≤ f ∧ Bd (200 * i + 1) f) ds
    (fun i d E hi ⟨a, f, s3, hE, h0, h1, h2⟩ => by
      obtain ⟨k, rfl⟩ := hd i d hi
      have hlt : i < 63 := by
        have := (List.getElem?_eq_some_iff.mp hi).1
        omega
      have p1 := v_powI (a := 10) (b := 60) (by decide)
      generalize hP : (10 : Int) ^ Int.toNat 60 = P at p1
      have hP0 : 0 < P := by rw [← hP]; decide
      have hP1 : Bd 200 P := by rw [← hP]; decide
      have p2 := v_modI (a := if k < 0 then -k else k) hP0
      generalize hm : (if k < 0 then -k else k) % P = m at p2
      have hm0 : 0 ≤ m := by rw [← hm]; exact Int.emod_nonneg _ (by omega)
      have hm1 : Bd 200 m := by rw [← hm]; exact .mod hP0 hP1
      have p3 := hm1.fmul h2 (by omega)
      have p4 := h2.fmul hP1 (by omega)
      refine ⟨[.val (.imm sc), .val (tS a 0 0), .val (.imm (.int f)), .val (.imm (.int k)), .no, .no], [.val (.imm sc), .val (tS (a + m * f) 0 0), .val (.imm (.int (f * P))), .val (.imm (.int k)), .no, .no], ?_, .inl ?_, a + m * f, f * P, some (.imm (.int k)), rfl, ?_, ?_, ?_⟩
      · rw [hE]; simp -implicitDefEqProofs only [FL.v_seq, FL.v_thN, FL.v_thR, FL.v_thB, FL.v_thC, FL.v_ifS, FL.v_asg, FL.v_ret, FL.v_retN, FL.v_drop, FL.v_nx, FL.v_bk, FL.v_ct, FL.v_name, FL.v_pN, FL.v_pV, FL.v_var, FL.v_at, FL.v_trV, FL.v_trP, FL.v_wV, FL.v_wP, FL.v_C, FL.v_ER, FL.v_Fz, FL.v_fO, FL.v_fS, FL.v_fV, FL.v_fP, FL.v_fL, FL.v_vS, FL.v_vO, FL.v_op, FL.v_un, FL.v_bOf, FL.v_test, FL.v_and, FL.v_or, FL.v_not, FL.v_tru, FL.v_trB, FL.v_andV, FL.v_orV, FL.v_notV, FL.v_if, FL.v_chain, FL.v_arN, FL.v_arC, FL.v_faN, FL.v_faC, FL.v_tup, FL.v_lst, FL.v_tdN, FL.v_tdC, FL.v_tdI, FL.v_tdL, FL.toDs_imms, FL.imms_imms, FL.v_cb, FL.v_vsN, FL.v_vsC, FL.v_bm, FL.v_tyS, FL.v_tyL, FL.v_sl, FL.v_moN, FL.v_moS, FL.v_iOf, FL.v_call, FL.v_osO, FL.v_osS, FL.v_isI, FL.v_isL, FL.v_isD, FL.v_gN, FL.v_gO, FL.v_gS, FL.v_for, FL.v_lc, FL.v_sub, FL.v_sub2, FL.v_iAt, FL.v_iC, FL.v_aug, FL.v_par, FL.v_mut, FL.v_rng1, FL.v_rng2, FL.v_seqI, FL.v_enumE, FL.v_enumT, FL.v_enumL, FL.v_isi, FL.v_addI, FL.v_addS, FL.v_addT, FL.v_addL, FL.v_subI, FL.v_neg, FL.v_lt, FL.v_le, FL.v_gt, FL.v_ge, FL.v_eqI, FL.v_neI, FL.v_eqS, FL.v_neS, FL.v_ixT, FL.v_ixD, FL.v_ixL, FL.v_ixS, FL.v_len, FL.v_lnT, FL.v_lnD, FL.v_lnL, FL.v_lnS, FL.v_abs, FL.v_max, FL.v_min, FL.v_int, FL.v_intB, FL.v_tuple, FL.v_list, FL.v_sqT, FL.v_sqD, FL.v_sqL, FL.v_itT, FL.v_itL, FL.v_itS, FL.v_isN, FL.v_notN, FL.v_setL, FL.v_setD, FL.v_kS, FL.v_kI, FL.v_mp, FL.v_mpn, FL.v_pO, FL.v_tupG, FL.v_gsC, FL.v_gsN, FL.v_slD, FL.v_at0, FL.v_at1, FL.v_at2, FL.v_i30, FL.v_i31, FL.v_i32, FL.v_Mv, FL.v_mvV, FL.v_pr, FL.v_wpN, FL.v_wpC, FL.v_wsN, FL.v_wsV, FL.v_wsO, FL.v_bkN, FL.v_bkC, FL.v_bsN, FL.v_bsI, FL.v_sf, FL.v_yes, FL.v_tupA, FL.v_imm, FL.v_aftN, FL.v_aftC, FL.v_aftB, FL.v_aftR, FL.v_iOp, FL.v_iLen, FL.v_dnin, FL.v_dninI, FL.v_disp1, FL.v_dispI, FL.v_mut0, FL.v_mulB, FL.v_lrg1, FL.v_trg1, FL.v_lrg2, FL.v_trg2, FL.v_fT, FL.v_rS, FL.v_rO, FL.v_plI, FL.v_plL, FL.v_plD, FL.v_plT, FL.v_vrN, FL.v_vrC, FL.v_isT, FL.callD, Option.bind_some, Option.bind_none, List.getElem?_cons_zero, List.getElem?_cons_succ, List.getElem?_nil, List.set_cons_zero, List.set_cons_succ, List.length_cons, List.length_nil, List.filterMap_cons, List.filterMap_nil, decide_eq_true_eq, if_true, if_false, true_and, and_true, Nat.reduceAdd, Nat.reduceLeDiff, Nat.reduceEqDiff, ↓reduceIte, Bool.false_eq_true, FL.startE, FL.backs, List.map_cons, List.map_nil, List.cons_append, List.nil_append, Nat.reduceSub, List.replicate_succ, List.replicate_zero, List.nodup_nil, List.nodup_cons, List.not_mem_nil, not_false_eq_true, and_self, reduceCtorEq, Option.map_some, Option.map_none]
      · unfold B__law_hand_1 tS
        simp -implicitDefEqProofs only [FL.v_seq, FL.v_thN, FL.v_thR, FL.v_thB, FL.v_thC, FL.v_ifS, FL.v_asg, FL.v_ret, FL.v_retN, FL.v_drop, FL.v_nx, FL.v_bk, FL.v_ct, FL.v_name, FL.v_pN, FL.v_pV, FL.v_var, FL.v_at, FL.v_trV, FL.v_trP, FL.v_wV, FL.v_wP, FL.v_C, FL.v_ER, FL.v_Fz, FL.v_fO, FL.v_fS, FL.v_fV, FL.v_fP, FL.v_fL, FL.v_vS, FL.v_vO, FL.v_op, FL.v_un, FL.v_bOf, FL.v_test, FL.v_and, FL.v_or, FL.v_not, FL.v_tru, FL.v_trB, FL.v_andV, FL.v_orV, FL.v_notV, FL.v_if, FL.v_chain, FL.v_arN, FL.v_arC, FL.v_faN, FL.v_faC, FL.v_tup, FL.v_lst, FL.v_tdN, FL.v_tdC, FL.v_tdI, FL.v_tdL, FL.toDs_imms, FL.imms_imms, FL.v_cb, FL.v_vsN, FL.v_vsC, FL.v_bm, FL.v_tyS, FL.v_tyL, FL.v_sl, FL.v_moN, FL.v_moS, FL.v_iOf, FL.v_call, FL.v_osO, FL.v_osS, FL.v_isI, FL.v_isL, FL.v_isD, FL.v_gN, FL.v_gO, FL.v_gS, FL.v_for, FL.v_lc, FL.v_sub, FL.v_sub2, FL.v_iAt, FL.v_iC, FL.v_aug, FL.v_par, FL.v_mut, FL.v_rng1, FL.v_rng2, FL.v_seqI, FL.v_enumE, FL.v_enumT, FL.v_enumL, FL.v_isi, FL.v_addI, FL.v_addS, FL.v_addT, FL.v_addL, FL.v_subI, FL.v_neg, FL.v_lt, FL.v_le, FL.v_gt, FL.v_ge, FL.v_eqI, FL.v_neI, FL.v_eqS, FL.v_neS, FL.v_ixT, FL.v_ixD, FL.v_ixL, FL.v_ixS, FL.v_len, FL.v_lnT, FL.v_lnD, FL.v_lnL, FL.v_lnS, FL.v_abs, FL.v_max, FL.v_min, FL.v_int, FL.v_intB, FL.v_tuple, FL.v_list, FL.v_sqT, FL.v_sqD, FL.v_sqL, FL.v_itT, FL.v_itL, FL.v_itS, FL.v_isN, FL.v_notN, FL.v_setL, FL.v_setD, FL.v_kS, FL.v_kI, FL.v_mp, FL.v_mpn, FL.v_pO, FL.v_tupG, FL.v_gsC, FL.v_gsN, FL.v_slD, FL.v_at0, FL.v_at1, FL.v_at2, FL.v_i30, FL.v_i31, FL.v_i32, FL.v_Mv, FL.v_mvV, FL.v_pr, FL.v_wpN, FL.v_wpC, FL.v_wsN, FL.v_wsV, FL.v_wsO, FL.v_bkN, FL.v_bkC, FL.v_bsN, FL.v_bsI, FL.v_sf, FL.v_yes, FL.v_tupA, FL.v_imm, FL.v_aftN, FL.v_aftC, FL.v_aftB, FL.v_aftR, FL.v_iOp, FL.v_iLen, FL.v_dnin, FL.v_dninI, FL.v_disp1, FL.v_dispI, FL.v_mut0, FL.v_mulB, FL.v_lrg1, FL.v_trg1, FL.v_lrg2, FL.v_trg2, FL.v_fT, FL.v_rS, FL.v_rO, FL.v_plI, FL.v_plL, FL.v_plD, FL.v_plT, FL.v_vrN, FL.v_vrC, FL.v_isT, FL.callD, Option.bind_some, Option.bind_none, List.getElem?_cons_zero, List.getElem?_cons_succ, List.getElem?_nil, List.set_cons_zero, List.set_cons_succ, List.length_cons, List.length_nil, List.filterMap_cons, List.filterMap_nil, decide_eq_true_eq, if_true, if_false, true_and, and_true, Nat.reduceAdd, Nat.reduceLeDiff, Nat.reduceEqDiff, ↓reduceIte, Bool.false_eq_true, FL.startE, FL.backs, List.map_cons, List.map_nil, List.cons_append, List.nil_append, Nat.reduceSub, List.replicate_succ, List.replicate_zero, List.nodup_nil, List.nodup_cons, List.not_mem_nil, not_false_eq_true, and_self, reduceCtorEq, Option.map_some, Option.map_none, p1, p2, p3, p4]
      · exact Int.add_nonneg h0 (Int.mul_nonneg hm0 h1)
      · exact Int.mul_nonneg h1 (by omega)
      · exact (h2.mul hP1).mono (by omega))
    [.val (.imm sc), .val (tS 0 0 0), .val (.imm (.int 1)), .no, .no, .no] ⟨0, 1, none, rfl, by decide, by decide, by decide⟩
  exact ⟨a, f, s3, e, h0⟩
theorem hand_loop2 (sc : PyData) (ds : List PyData) (hd : ∀ (i : Nat) (d : PyData), ds[i]? = some d → ∃ k : Int, d = PyData.int k) (hl : ds.length ≤ 63) (a : Int) (s2 s3 : Option Tr) : 
    ∃ b s3' s4 s5, forD (mTupG 2 (gsCons (mName 4) (gsCons (mName 3) gsNil))) B__law_hand_2 (enumD ds) [.val (.imm sc), .val (tS a 0 0), ov s2, ov s3, .no, .no] = some (.nx [.val (.imm sc), .val (tS a b 0), ov s2, ov s3', ov s4, ov s5]) ∧ 0 ≤ b ∧ b < 2 ^ 61 := by
  obtain ⟨E', e, b, s3', s4, s5, rfl, h0, h1⟩ := forD_inv (g := (mTupG 2 (gsCons (mName 4) (gsCons (mName 3) gsNil)))) (ms := B__law_hand_2)
    (fun i E => ∃ b s3 s4 s5, E = [.val (.imm sc), .val (tS a b 0), ov s2, ov s3, ov s4, ov s5] ∧ 0 ≤ b ∧ b < 2 ^ 61) (enumD ds)
    (fun i d E hi ⟨b, s3, s4, s5, hE, h0, h1⟩ => by
      obtain ⟨x, hx, rfl⟩ := enumD_item hi
      obtain ⟨k, rfl⟩ := hd i x hx
      have hlt : i < 63 := by
        have := (List.getElem?_eq_some_iff.mp hx).1
        omega
      have p1 := v_modI (a := k) (b := 2305843009213693951) (by decide)
      have p2 := Bd.fmul (m := 20) (n := 20) (a := 7919) (b := (i : Nat)) (by decide) (.of (by omega) (by omega)) (by decide)
      have p3 := Bd.fmul (m := 61) (n := 20) (a := b) (b := 48271) (.of (by omega) (by omega)) (by decide) (by decide)
      generalize hm : k % 2305843009213693951 + 7919 * (i : Nat) + 3 = m
      have p4 := v_modI (a := b * 48271 + m) (b := 2305843009213693951) (by decide)
      refine ⟨[.val (.imm sc), .val (tS a b 0), ov s2, .val (.imm (.int k)), .val (.imm (.int (i : Nat))), ov s5], [.val (.imm sc), .val (tS a ((b * 48271 + m) % 2305843009213693951) 0), ov s2, .val (.imm (.int k)), .val (.imm (.int (i : Nat))), .val (.imm (.int m))], ?_, .inl ?_, (b * 48271 + m) % 2305843009213693951, some (.imm (.int k)), some (.imm (.int (i : Nat))), some (.imm (.int m)), rfl, ?_, ?_⟩
      · rw [hE]; simp -implicitDefEqProofs only [FL.v_seq, FL.v_thN, FL.v_thR, FL.v_thB, FL.v_thC, FL.v_ifS, FL.v_asg, FL.v_ret, FL.v_retN, FL.v_drop, FL.v_nx, FL.v_bk, FL.v_ct, FL.v_name, FL.v_pN, FL.v_pV, FL.v_var, FL.v_at, FL.v_trV, FL.v_trP, FL.v_wV, FL.v_wP, FL.v_C, FL.v_ER, FL.v_Fz, FL.v_fO, FL.v_fS, FL.v_fV, FL.v_fP, FL.v_fL, FL.v_vS, FL.v_vO, FL.v_op, FL.v_un, FL.v_bOf, FL.v_test, FL.v_and, FL.v_or, FL.v_not, FL.v_tru, FL.v_trB, FL.v_andV, FL.v_orV, FL.v_notV, FL.v_if, FL.v_chain, FL.v_arN, FL.v_arC, FL.v_faN, FL.v_faC, FL.v_tup, FL.v_lst, FL.v_tdN, FL.v_tdC, FL.v_tdI, FL.v_tdL, FL.toDs_imms, FL.imms_imms, FL.v_cb, FL.v_vsN, FL.v_vsC, FL.v_bm, FL.v_tyS, FL.v_tyL, FL.v_sl, FL.v_moN, FL.v_moS, FL.v_iOf, FL.v_call, FL.v_osO, FL.v_osS, FL.v_isI, FL.v_isL, FL.v_isD, FL.v_gN, FL.v_gO, FL.v_gS, FL.v_for, FL.v_lc, FL.v_sub, FL.v_sub2, FL.v_iAt, FL.v_iC, FL.v_aug, FL.v_par, FL.v_mut, FL.v_rng1, FL.v_rng2, FL.v_seqI, FL.v_enumE, FL.v_enumT, FL.v_enumL, FL.v_isi, FL.v_addI, FL.v_addS, FL.v_addT, FL.v_addL, FL.v_subI, FL.v_neg, FL.v_lt, FL.v_le, FL.v_gt, FL.v_ge, FL.v_eqI, FL.v_neI, FL.v_eqS, FL.v_neS, FL.v_ixT, FL.v_ixD, FL.v_ixL, FL.v_ixS, FL.v_len, FL.v_lnT, FL.v_lnD, FL.v_lnL, FL.v_lnS, FL.v_abs, FL.v_max, FL.v_min, FL.v_int, FL.v_intB, FL.v_tuple, FL.v_list, FL.v_sqT, FL.v_sqD, FL.v_sqL, FL.v_itT, FL.v_itL, FL.v_itS, FL.v_isN, FL.v_notN, FL.v_setL, FL.v_setD, FL.v_kS, FL.v_kI, FL.v_mp, FL.v_mpn, FL.v_pO, FL.v_tupG, FL.v_gsC, FL.v_gsN, FL.v_slD, FL.v_at0, FL.v_at1, FL.v_at2, FL.v_i30, FL.v_i31, FL.v_i32, FL.v_Mv, FL.v_mvV, FL.v_pr, FL.v_wpN, FL.v_wpC, FL.v_wsN, FL.v_wsV, FL.v_wsO, FL.v_bkN, FL.v_bkC, FL.v_bsN, FL.v_bsI, FL.v_sf, FL.v_yes, FL.v_tupA, FL.v_imm, FL.v_aftN, FL.v_aftC, FL.v_aftB, FL.v_aftR, FL.v_iOp, FL.v_iLen, FL.v_dnin, FL.v_dninI, FL.v_disp1, FL.v_dispI, FL.v_mut0, FL.v_mulB, FL.v_lrg1, FL.v_trg1, FL.v_lrg2, FL.v_trg2, FL.v_fT, FL.v_rS, FL.v_rO, FL.v_plI, FL.v_plL, FL.v_plD, FL.v_plT, FL.v_vrN, FL.v_vrC, FL.v_isT, FL.callD, Option.bind_some, Option.bind_none, List.getElem?_cons_zero, List.getElem?_cons_succ, List.getElem?_nil, List.set_cons_zero, List.set_cons_succ, List.length_cons, List.length_nil, List.filterMap_cons, List.filterMap_nil, decide_eq_true_eq, if_true, if_false, true_and, and_true, Nat.reduceAdd, Nat.reduceLeDiff, Nat.reduceEqDiff, ↓reduceIte, Bool.false_eq_true, FL.startE, FL.backs, List.map_cons, List.map_nil, List.cons_append, List.nil_append, Nat.reduceSub, List.replicate_succ, List.replicate_zero, List.nodup_nil, List.nodup_cons, List.not_mem_nil, not_false_eq_true, and_self, reduceCtorEq, Option.map_some, Option.map_none]
      · unfold B__law_hand_2 tS
        simp -implicitDefEqProofs only [FL.v_seq, FL.v_thN, FL.v_thR, FL.v_thB, FL.v_thC, FL.v_ifS, FL.v_asg, FL.v_ret, FL.v_retN, FL.v_drop, FL.v_nx, FL.v_bk, FL.v_ct, FL.v_name, FL.v_pN, FL.v_pV, FL.v_var, FL.v_at, FL.v_trV, FL.v_trP, FL.v_wV, FL.v_wP, FL.v_C, FL.v_ER, FL.v_Fz, FL.v_fO, FL.v_fS, FL.v_fV, FL.v_fP, FL.v_fL, FL.v_vS, FL.v_vO, FL.v_op, FL.v_un, FL.v_bOf, FL.v_test, FL.v_and, FL.v_or, FL.v_not, FL.v_tru, FL.v_trB, FL.v_andV, FL.v_orV, FL.v_notV, FL.v_if, FL.v_chain, FL.v_arN, FL.v_arC, FL.v_faN, FL.v_faC, FL.v_tup, FL.v_lst, FL.v_tdN, FL.v_tdC, FL.v_tdI, FL.v_tdL, FL.toDs_imms, FL.imms_imms, FL.v_cb, FL.v_vsN, FL.v_vsC, FL.v_bm, FL.v_tyS, FL.v_tyL, FL.v_sl, FL.v_moN, FL.v_moS, FL.v_iOf, FL.v_call, FL.v_osO, FL.v_osS, FL.v_isI, FL.v_isL, FL.v_isD, FL.v_gN, FL.v_gO, FL.v_gS, FL.v_for, FL.v_lc, FL.v_sub, FL.v_sub2, FL.v_iAt, FL.v_iC, FL.v_aug, FL.v_par, FL.v_mut, FL.v_rng1, FL.v_rng2, FL.v_seqI, FL.v_enumE, FL.v_enumT, FL.v_enumL, FL.v_isi, FL.v_addI, FL.v_addS, FL.v_addT, FL.v_addL, FL.v_subI, FL.v_neg, FL.v_lt, FL.v_le, FL.v_gt, FL.v_ge, FL.v_eqI, FL.v_neI, FL.v_eqS, FL.v_neS, FL.v_ixT, FL.v_ixD, FL.v_ixL, FL.v_ixS, FL.v_len, FL.v_lnT, FL.v_lnD, FL.v_lnL, FL.v_lnS, FL.v_abs, FL.v_max, FL.v_min, FL.v_int, FL.v_intB, FL.v_tuple, FL.v_list, FL.v_sqT, FL.v_sqD, FL.v_sqL, FL.v_itT, FL.v_itL, FL.v_itS, FL.v_isN, FL.v_notN, FL.v_setL, FL.v_setD, FL.v_kS, FL.v_kI, FL.v_mp, FL.v_mpn, FL.v_pO, FL.v_tupG, FL.v_gsC, FL.v_gsN, FL.v_slD, FL.v_at0, FL.v_at1, FL.v_at2, FL.v_i30, FL.v_i31, FL.v_i32, FL.v_Mv, FL.v_mvV, FL.v_pr, FL.v_wpN, FL.v_wpC, FL.v_wsN, FL.v_wsV, FL.v_wsO, FL.v_bkN, FL.v_bkC, FL.v_bsN, FL.v_bsI, FL.v_sf, FL.v_yes, FL.v_tupA, FL.v_imm, FL.v_aftN, FL.v_aftC, FL.v_aftB, FL.v_aftR, FL.v_iOp, FL.v_iLen, FL.v_dnin, FL.v_dninI, FL.v_disp1, FL.v_dispI, FL.v_mut0, FL.v_mulB, FL.v_lrg1, FL.v_trg1, FL.v_lrg2, FL.v_trg2, FL.v_fT, FL.v_rS, FL.v_rO, FL.v_plI, FL.v_plL, FL.v_plD, FL.v_plT, FL.v_vrN, FL.v_vrC, FL.v_isT, FL.callD, Option.bind_some, Option.bind_none, List.getElem?_cons_zero, List.getElem?_cons_succ, List.getElem?_nil, List.set_cons_zero, List.set_cons_succ, List.length_cons, List.length_nil, List.filterMap_cons, List.filterMap_nil, decide_eq_true_eq, if_true, if_false, true_and, and_true, Nat.reduceAdd, Nat.reduceLeDiff, Nat.reduceEqDiff, ↓reduceIte, Bool.false_eq_true, FL.startE, FL.backs, List.map_cons, List.map_nil, List.cons_append, List.nil_append, Nat.reduceSub, List.replicate_succ, List.replicate_zero, List.nodup_nil, List.nodup_cons, List.not_mem_nil, not_false_eq_true, and_self, reduceCtorEq, Option.map_some, Option.map_none, p1, p2, p3, p4, hm]
      · exact Int.emod_nonneg _ (by decide)
      · have := Int.emod_lt_of_pos (b * 48271 + m) (b := 2305843009213693951) (by decide)
        omega)
    [.val (.imm sc), .val (tS a 0 0), ov s2, ov s3, .no, .no] ⟨0, s3, none, none, rfl, by decide, by decide⟩
  exact ⟨b, s3', s4, s5, e, h0, h1⟩
theorem hand_one (ns : List Int) (h63 : ns.length ≤ 63) : ∃ a b, mFn 6 m__law_hand [scriptT ns] = some (tS a b 0, [scriptT ns]) ∧ 0 ≤ a ∧ 0 ≤ b ∧ b < 2 ^ 61 := by
  have hm : ∀ d ∈ ns.map PyData.int, ∃ k : Int, d = PyData.int k := fun d hd => by
    obtain ⟨k, -, rfl⟩ := List.mem_map.mp hd
    exact ⟨k, rfl⟩
  have hc : ∀ i d, (cutL (ns.map PyData.int) none (some 63))[i]? = some d → ∃ k : Int, d = PyData.int k := fun i d h => hm d (cutL_mem h)
  have hl : (cutL (ns.map PyData.int) none (some 63)).length ≤ 63 := Nat.le_trans (cutL_len _ _ _) (by simpa using h63)
  obtain ⟨a1, f, t3, e1, ha1⟩ := hand_loop1 (.list (ns.map PyData.int)) _ hc hl
  have p1 := v_powI (a := 10) (b := 18) (by decide)
  have hL : ns = [] ∨ ∃ n, atI (ns.map PyData.int) 0 = some (PyData.int n) ∧ (0 : Int) < (ns.length : Int) := by
    cases ns with
    | nil => exact .inl rfl
    | cons n r => exact .inr ⟨n, v_at0, by simp only [List.length_cons]; omega⟩
  unfold tS at e1
  have key := fun (a : Int) (s2 s3 : Option Tr) => hand_loop2 (.list (ns.map PyData.int)) _ hc hl a s2 s3
  unfold tS at key
  rcases hL with hL | ⟨n, hn, hp⟩
  · obtain ⟨b, s3', s4, s5, e2, hb0, hb1⟩ := key 0 none none
    refine ⟨0, b, ?_, by decide, hb0, hb1⟩
    simp only [show ov none = SL.no from rfl] at e2
    have hz : ¬ (0 : Int) < (ns.length : Int) := by rw [hL]; decide
    rw [v_fn]; unfold m__law_hand scriptT tS
    simp -implicitDefEqProofs only [FL.v_seq, FL.v_thN, FL.v_thR, FL.v_thB, FL.v_thC, FL.v_ifS, FL.v_asg, FL.v_ret, FL.v_retN, FL.v_drop, FL.v_nx, FL.v_bk, FL.v_ct, FL.v_name, FL.v_pN, FL.v_pV, FL.v_var, FL.v_at, FL.v_trV, FL.v_trP, FL.v_wV, FL.v_wP, FL.v_C, FL.v_ER, FL.v_Fz, FL.v_fO, FL.v_fS, FL.v_fV, FL.v_fP, FL.v_fL, FL.v_vS, FL.v_vO, FL.v_op, FL.v_un, FL.v_bOf, FL.v_test, FL.v_and, FL.v_or, FL.v_not, FL.v_tru, FL.v_trB, FL.v_andV, FL.v_orV, FL.v_notV, FL.v_if, FL.v_chain, FL.v_arN, FL.v_arC, FL.v_faN, FL.v_faC, FL.v_tup, FL.v_lst, FL.v_tdN, FL.v_tdC, FL.v_tdI, FL.v_tdL, FL.toDs_imms, FL.imms_imms, FL.v_cb, FL.v_vsN, FL.v_vsC, FL.v_bm, FL.v_tyS, FL.v_tyL, FL.v_sl, FL.v_moN, FL.v_moS, FL.v_iOf, FL.v_call, FL.v_osO, FL.v_osS, FL.v_isI, FL.v_isL, FL.v_isD, FL.v_gN, FL.v_gO, FL.v_gS, FL.v_for, FL.v_lc, FL.v_sub, FL.v_sub2, FL.v_iAt, FL.v_iC, FL.v_aug, FL.v_par, FL.v_mut, FL.v_rng1, FL.v_rng2, FL.v_seqI, FL.v_enumE, FL.v_enumT, FL.v_enumL, FL.v_isi, FL.v_addI, FL.v_addS, FL.v_addT, FL.v_addL, FL.v_subI, FL.v_neg, FL.v_lt, FL.v_le, FL.v_gt, FL.v_ge, FL.v_eqI, FL.v_neI, FL.v_eqS, FL.v_neS, FL.v_ixT, FL.v_ixD, FL.v_ixL, FL.v_ixS, FL.v_len, FL.v_lnT, FL.v_lnD, FL.v_lnL, FL.v_lnS, FL.v_abs, FL.v_max, FL.v_min, FL.v_int, FL.v_intB, FL.v_tuple, FL.v_list, FL.v_sqT, FL.v_sqD, FL.v_sqL, FL.v_itT, FL.v_itL, FL.v_itS, FL.v_isN, FL.v_notN, FL.v_setL, FL.v_setD, FL.v_kS, FL.v_kI, FL.v_mp, FL.v_mpn, FL.v_pO, FL.v_tupG, FL.v_gsC, FL.v_gsN, FL.v_slD, FL.v_at0, FL.v_at1, FL.v_at2, FL.v_i30, FL.v_i31, FL.v_i32, FL.v_Mv, FL.v_mvV, FL.v_pr, FL.v_wpN, FL.v_wpC, FL.v_wsN, FL.v_wsV, FL.v_wsO, FL.v_bkN, FL.v_bkC, FL.v_bsN, FL.v_bsI, FL.v_sf, FL.v_yes, FL.v_tupA, FL.v_imm, FL.v_aftN, FL.v_aftC, FL.v_aftB, FL.v_aftR, FL.v_iOp, FL.v_iLen, FL.v_dnin, FL.v_dninI, FL.v_disp1, FL.v_dispI, FL.v_mut0, FL.v_mulB, FL.v_lrg1, FL.v_trg1, FL.v_lrg2, FL.v_trg2, FL.v_fT, FL.v_rS, FL.v_rO, FL.v_plI, FL.v_plL, FL.v_plD, FL.v_plT, FL.v_vrN, FL.v_vrC, FL.v_isT, FL.callD, Option.bind_some, Option.bind_none, List.getElem?_cons_zero, List.getElem?_cons_succ, List.getElem?_nil, List.set_cons_zero, List.set_cons_succ, List.length_cons, List.length_nil, List.filterMap_cons, List.filterMap_nil, decide_eq_true_eq, if_true, if_false, true_and, and_true, Nat.reduceAdd, Nat.reduceLeDiff, Nat.reduceEqDiff, ↓reduceIte, Bool.false_eq_true, FL.startE, FL.backs, List.map_cons, List.map_nil, List.cons_append, List.nil_append, Nat.reduceSub, List.replicate_succ, List.replicate_zero, List.nodup_nil, List.nodup_cons, List.not_mem_nil, not_false_eq_true, and_self, reduceCtorEq, Option.map_some, Option.map_none, hz, List.length_map, e2]
  · by_cases hb : (10 : Int) ^ Int.toNat 18 ≤ n
    · obtain ⟨b, s3', s4, s5, e2, hb0, hb1⟩ := key a1 (some (.imm (.int f))) t3
      refine ⟨a1, b, ?_, ha1, hb0, hb1⟩
      rw [show ov (some (.imm (.int f))) = SL.val (.imm (.int f)) from rfl] at e2
      rw [v_fn]; unfold m__law_hand scriptT tS
      simp -implicitDefEqProofs only [FL.v_seq, FL.v_thN, FL.v_thR, FL.v_thB, FL.v_thC, FL.v_ifS, FL.v_asg, FL.v_ret, FL.v_retN, FL.v_drop, FL.v_nx, FL.v_bk, FL.v_ct, FL.v_name, FL.v_pN, FL.v_pV, FL.v_var, FL.v_at, FL.v_trV, FL.v_trP, FL.v_wV, FL.v_wP, FL.v_C, FL.v_ER, FL.v_Fz, FL.v_fO, FL.v_fS, FL.v_fV, FL.v_fP, FL.v_fL, FL.v_vS, FL.v_vO, FL.v_op, FL.v_un, FL.v_bOf, FL.v_test, FL.v_and, FL.v_or, FL.v_not, FL.v_tru, FL.v_trB, FL.v_andV, FL.v_orV, FL.v_notV, FL.v_if, FL.v_chain, FL.v_arN, FL.v_arC, FL.v_faN, FL.v_faC, FL.v_tup, FL.v_lst, FL.v_tdN, FL.v_tdC, FL.v_tdI, FL.v_tdL, FL.toDs_imms, FL.imms_imms, FL.v_cb, FL.v_vsN, FL.v_vsC, FL.v_bm, FL.v_tyS, FL.v_tyL, FL.v_sl, FL.v_moN, FL.v_moS, FL.v_iOf, FL.v_call, FL.v_osO, FL.v_osS, FL.v_isI, FL.v_isL, FL.v_isD, FL.v_gN, FL.v_gO, FL.v_gS, FL.v_for, FL.v_lc, FL.v_sub, FL.v_sub2, FL.v_iAt, FL.v_iC, FL.v_aug, FL.v_par, FL.v_mut, FL.v_rng1, FL.v_rng2, FL.v_seqI, FL.v_enumE, FL.v_enumT, FL.v_enumL, FL.v_isi, FL.v_addI, FL.v_addS, FL.v_addT, FL.v_addL, FL.v_subI, FL.v_neg, FL.v_lt, FL.v_le, FL.v_gt, FL.v_ge, FL.v_eqI, FL.v_neI, FL.v_eqS, FL.v_neS, FL.v_ixT, FL.v_ixD, FL.v_ixL, FL.v_ixS, FL.v_len, FL.v_lnT, FL.v_lnD, FL.v_lnL, FL.v_lnS, FL.v_abs, FL.v_max, FL.v_min, FL.v_int, FL.v_intB, FL.v_tuple, FL.v_list, FL.v_sqT, FL.v_sqD, FL.v_sqL, FL.v_itT, FL.v_itL, FL.v_itS, FL.v_isN, FL.v_notN, FL.v_setL, FL.v_setD, FL.v_kS, FL.v_kI, FL.v_mp, FL.v_mpn, FL.v_pO, FL.v_tupG, FL.v_gsC, FL.v_gsN, FL.v_slD, FL.v_at0, FL.v_at1, FL.v_at2, FL.v_i30, FL.v_i31, FL.v_i32, FL.v_Mv, FL.v_mvV, FL.v_pr, FL.v_wpN, FL.v_wpC, FL.v_wsN, FL.v_wsV, FL.v_wsO, FL.v_bkN, FL.v_bkC, FL.v_bsN, FL.v_bsI, FL.v_sf, FL.v_yes, FL.v_tupA, FL.v_imm, FL.v_aftN, FL.v_aftC, FL.v_aftB, FL.v_aftR, FL.v_iOp, FL.v_iLen, FL.v_dnin, FL.v_dninI, FL.v_disp1, FL.v_dispI, FL.v_mut0, FL.v_mulB, FL.v_lrg1, FL.v_trg1, FL.v_lrg2, FL.v_trg2, FL.v_fT, FL.v_rS, FL.v_rO, FL.v_plI, FL.v_plL, FL.v_plD, FL.v_plT, FL.v_vrN, FL.v_vrC, FL.v_isT, FL.callD, Option.bind_some, Option.bind_none, List.getElem?_cons_zero, List.getElem?_cons_succ, List.getElem?_nil, List.set_cons_zero, List.set_cons_succ, List.length_cons, List.length_nil, List.filterMap_cons, List.filterMap_nil, decide_eq_true_eq, if_true, if_false, true_and, and_true, Nat.reduceAdd, Nat.reduceLeDiff, Nat.reduceEqDiff, ↓reduceIte, Bool.false_eq_true, FL.startE, FL.backs, List.map_cons, List.map_nil, List.cons_append, List.nil_append, Nat.reduceSub, List.replicate_succ, List.replicate_zero, List.nodup_nil, List.nodup_cons, List.not_mem_nil, not_false_eq_true, and_self, reduceCtorEq, Option.map_some, Option.map_none, hp, hn, hb, p1, List.length_map, e1, e2]
    · obtain ⟨b, s3', s4, s5, e2, hb0, hb1⟩ := key 0 none none
      simp only [show ov none = SL.no from rfl] at e2
      refine ⟨0, b, ?_, by decide, hb0, hb1⟩
      rw [v_fn]; unfold m__law_hand scriptT tS
      simp -implicitDefEqProofs only [FL.v_seq, FL.v_thN, FL.v_thR, FL.v_thB, FL.v_thC, FL.v_ifS, FL.v_asg, FL.v_ret, FL.v_retN, FL.v_drop, FL.v_nx, FL.v_bk, FL.v_ct, FL.v_name, FL.v_pN, FL.v_pV, FL.v_var, FL.v_at, FL.v_trV, FL.v_trP, FL.v_wV, FL.v_wP, FL.v_C, FL.v_ER, FL.v_Fz, FL.v_fO, FL.v_fS, FL.v_fV, FL.v_fP, FL.v_fL, FL.v_vS, FL.v_vO, FL.v_op, FL.v_un, FL.v_bOf, FL.v_test, FL.v_and, FL.v_or, FL.v_not, FL.v_tru, FL.v_trB, FL.v_andV, FL.v_orV, FL.v_notV, FL.v_if, FL.v_chain, FL.v_arN, FL.v_arC, FL.v_faN, FL.v_faC, FL.v_tup, FL.v_lst, FL.v_tdN, FL.v_tdC, FL.v_tdI, FL.v_tdL, FL.toDs_imms, FL.imms_imms, FL.v_cb, FL.v_vsN, FL.v_vsC, FL.v_bm, FL.v_tyS, FL.v_tyL, FL.v_sl, FL.v_moN, FL.v_moS, FL.v_iOf, FL.v_call, FL.v_osO, FL.v_osS, FL.v_isI, FL.v_isL, FL.v_isD, FL.v_gN, FL.v_gO, FL.v_gS, FL.v_for, FL.v_lc, FL.v_sub, FL.v_sub2, FL.v_iAt, FL.v_iC, FL.v_aug, FL.v_par, FL.v_mut, FL.v_rng1, FL.v_rng2, FL.v_seqI, FL.v_enumE, FL.v_enumT, FL.v_enumL, FL.v_isi, FL.v_addI, FL.v_addS, FL.v_addT, FL.v_addL, FL.v_subI, FL.v_neg, FL.v_lt, FL.v_le, FL.v_gt, FL.v_ge, FL.v_eqI, FL.v_neI, FL.v_eqS, FL.v_neS, FL.v_ixT, FL.v_ixD, FL.v_ixL, FL.v_ixS, FL.v_len, FL.v_lnT, FL.v_lnD, FL.v_lnL, FL.v_lnS, FL.v_abs, FL.v_max, FL.v_min, FL.v_int, FL.v_intB, FL.v_tuple, FL.v_list, FL.v_sqT, FL.v_sqD, FL.v_sqL, FL.v_itT, FL.v_itL, FL.v_itS, FL.v_isN, FL.v_notN, FL.v_setL, FL.v_setD, FL.v_kS, FL.v_kI, FL.v_mp, FL.v_mpn, FL.v_pO, FL.v_tupG, FL.v_gsC, FL.v_gsN, FL.v_slD, FL.v_at0, FL.v_at1, FL.v_at2, FL.v_i30, FL.v_i31, FL.v_i32, FL.v_Mv, FL.v_mvV, FL.v_pr, FL.v_wpN, FL.v_wpC, FL.v_wsN, FL.v_wsV, FL.v_wsO, FL.v_bkN, FL.v_bkC, FL.v_bsN, FL.v_bsI, FL.v_sf, FL.v_yes, FL.v_tupA, FL.v_imm, FL.v_aftN, FL.v_aftC, FL.v_aftB, FL.v_aftR, FL.v_iOp, FL.v_iLen, FL.v_dnin, FL.v_dninI, FL.v_disp1, FL.v_dispI, FL.v_mut0, FL.v_mulB, FL.v_lrg1, FL.v_trg1, FL.v_lrg2, FL.v_trg2, FL.v_fT, FL.v_rS, FL.v_rO, FL.v_plI, FL.v_plL, FL.v_plD, FL.v_plT, FL.v_vrN, FL.v_vrC, FL.v_isT, FL.callD, Option.bind_some, Option.bind_none, List.getElem?_cons_zero, List.getElem?_cons_succ, List.getElem?_nil, List.set_cons_zero, List.set_cons_succ, List.length_cons, List.length_nil, List.filterMap_cons, List.filterMap_nil, decide_eq_true_eq, if_true, if_false, true_and, and_true, Nat.reduceAdd, Nat.reduceLeDiff, Nat.reduceEqDiff, ↓reduceIte, Bool.false_eq_true, FL.startE, FL.backs, List.map_cons, List.map_nil, List.cons_append, List.nil_append, Nat.reduceSub, List.replicate_succ, List.replicate_zero, List.nodup_nil, List.nodup_cons, List.not_mem_nil, not_false_eq_true, and_self, reduceCtorEq, Option.map_some, Option.map_none, hp, hn, hb, p1, List.length_map, e2]
/-- the hand's state, within so many steps -/
def Hd (t : Tr) (N : Int) : Prop := ∃ a b c : Int, t = tS a b c ∧ 0 ≤ a ∧ 0 ≤ b ∧ b < 2 ^ 61 ∧ 0 ≤ c ∧ c ≤ N
theorem Hd.le {t : Tr} {N M : Int} (h : Hd t N) (k : N ≤ M) : Hd t M := by
  obtain ⟨a, b, c, e, h1, h2, h3, h4, h5⟩ := h
  exact ⟨a, b, c, e, h1, h2, h3, h4, by omega⟩
theorem Hd.lst {t : Tr} {N : Int} (h : Hd t N) : ∃ x y z, t = .lst [x, y, z] := by
  obtain ⟨a, b, c, e, _⟩ := h
  exact ⟨_, _, _, e⟩
theorem take_hd {t : Tr} {N : Int} (h : Hd t N) (hN : N < 2 ^ 60) (n : Int) (hn : 0 < n) (hn2 : n < 2 ^ 80) : ∃ r t', mFn 4 m__law_take [t, .imm (.int n)] = some (.imm (.int r), [t', .imm (.int n)]) ∧ 0 ≤ r ∧ r < n ∧ Hd t' (N + 1) := by
  obtain ⟨a, b, c, rfl, h1, h2, h3, h4, h5⟩ := h
  obtain ⟨r, a', c', e, k1, k2, k3, k4, k5⟩ := take_one a b c n h1 h2 h4 h3 (by omega) hn hn2
  exact ⟨r, _, e, k1, k2, a', b, c', rfl, k3, h2, h3, by omega, by omega⟩

end WK

namespace WK
open PySem L2 FL
/-- a comprehension over the pictures of things -/
theorem lcD_over {α : Type} {g : Tr → En → Option En} {m : MF} {vs : List Nat} {E : En} (emb : α → PyData) (f : α → Tr) : ∀ (l : List α) (_ : ∀ x ∈ l, ∃ E1 E2, g (.imm (emb x)) E = some E1 ∧ m E1 = some (f x, E2) ∧ wipeE E2 vs = some E) (acc : List Tr), acc.length + l.length ≤ 16777216 → lcD g mYes m vs (l.map emb) acc E = some (acc ++ l.map f, E)
  | [], _, acc, _ => by simp [lcD]
  | x :: l, h, acc, hl => by
    simp only [List.length_cons] at hl
    obtain ⟨E1, E2, e1, e2, e3⟩ := h x List.mem_cons_self
    rw [List.map_cons, lcD, e1, Option.bind_some]
    simp only [Option.bind_some, mYes, if_true, e2]
    rw [if_pos (by omega), e3, Option.bind_some, lcD_over emb f l (fun y hy => h y (List.mem_cons_of_mem _ hy)) (acc ++ [f x]) (by simp; omega)]
    simp
theorem lcD_imm {α : Type} {g : Tr → En → Option En} {m : MF} {vs : List Nat} {E : En} (emb f : α → PyData) (l : List α) (h : ∀ x ∈ l, ∃ E1 E2, g (.imm (emb x)) E = some E1 ∧ m E1 = some (.imm (f x), E2) ∧ wipeE E2 vs = some E) (hl : l.length ≤ 16777216) : lcD g mYes m vs (l.map emb) [] E = some ((l.map f).map Tr.imm, E) := by
  have := lcD_over (g := g) (m := m) (vs := vs) (E := E) emb (fun x => .imm (f x)) l h [] (by simpa using hl)
  rw [this, List.nil_append, List.map_map]; rfl
theorem lcD_if {α : Type} {g : Tr → En → Option En} {mt : MT} {m : MF} {vs : List Nat} {E : En} (emb f : α → PyData) (P : α → Bool) : ∀ (l : List α) (_ : ∀ x ∈ l, ∃ E1 E2, g (.imm (emb x)) E = some E1 ∧ mt E1 = some (P x, E2) ∧ (P x = true → ∃ E3, m E2 = some (.imm (f x), E3) ∧ wipeE E3 vs = some E) ∧ (P x = false → wipeE E2 vs = some E)) (acc : List Tr), acc.length + l.length ≤ 16777216 → lcD g mt m vs (l.map emb) acc E = some (acc ++ ((l.filter P).map f).map Tr.imm, E)
  | [], _, acc, _ => by simp [lcD]
  | x :: l, h, acc, hl => by
    simp only [List.length_cons] at hl
    obtain ⟨E1, E2, e1, e2, e3, e4⟩ := h x List.mem_cons_self
    rw [List.map_cons, lcD, e1, Option.bind_some, e2, Option.bind_some]
    cases hp : P x with
    | true =>
      obtain ⟨E3, e5, e6⟩ := e3 hp
      rw [if_pos rfl, e5, Option.bind_some, if_pos (by omega), e6, Option.bind_some]
      show lcD g mt m vs (l.map emb) (acc ++ [.imm (f x)]) E = _
      rw [lcD_if emb f P l (fun y hy => h y (List.mem_cons_of_mem _ hy)) (acc ++ [Tr.imm (f x)]) (by simp; omega), List.filter_cons_of_pos hp]
      simp
    | false =>
      rw [if_neg (fun z => Bool.noConfusion z), e4 hp, Option.bind_some, lcD_if emb f P l (fun y hy => h y (List.mem_cons_of_mem _ hy)) acc (by omega), List.filter_cons_of_neg (by rw [hp]; decide)]
/-- a loop over the pictures of things, with a state of its own -/
theorem forD_over {α σ : Type} {g : Tr → En → Option En} {ms : MS} (emb : α → PyData) (st : σ → α → σ) (I : σ → En → Prop) : ∀ (l : List α) (_ : ∀ x ∈ l, ∀ s E, I s E → ∃ E1 E2, g (.imm (emb x)) E = some E1 ∧ ms E1 = some (.nx E2) ∧ I (st s x) E2) (s : σ) (E : En), I s E → ∃ E', forD g ms (l.map emb) E = some (.nx E') ∧ I (l.foldl st s) E'
  | [], _, s, E, h => ⟨E, rfl, h⟩
  | x :: l, h, s, E, hI => by
    obtain ⟨E1, E2, e1, e2, h2⟩ := h x List.mem_cons_self s E hI
    obtain ⟨E', e3, h3⟩ := forD_over emb st I l (fun y hy => h y (List.mem_cons_of_mem _ hy)) (st s x) E2 h2
    exact ⟨E', by rw [List.map_cons, forD, e1, Option.bind_some, e2]; exact e3, h3⟩
abbrev iE (i : Nat) : PyData := .int (i : Nat)
theorem range_iE (n : Nat) : rangeD 0 n = (List.range n).map iE := range_wL n
theorem wL_iE (l : List Nat) : wL l = l.map iE := rfl
theorem enum_iE (l : List PyData) : enumD l = (List.range l.length).map fun i => PyData.tuple [.int (i : Nat), l.getD i .none] := by
  refine List.ext_getElem? fun i => ?_
  by_cases h : i < l.length
  · rw [range_get h]
    unfold enumD
    rw [List.getElem?_map, List.getElem?_zipIdx, List.getElem?_eq_getElem h, List.getD_eq_getElem?_getD, List.getElem?_eq_getElem h]
    simp
  · rw [List.getElem?_eq_none (by simp [enumD]; omega), List.getElem?_eq_none (by simp; omega)]
theorem enum_rows (n : Nat) (G : Nat → Nat → Int) : enumD ((List.range n).map (rowD n G)) = (List.range n).map fun i => PyData.tuple [.int (i : Nat), rowD n G i] := enum_tab n G
theorem enum_row (n : Nat) (G : Nat → Nat → Int) (i : Nat) : enumD ((List.range n).map fun j => PyData.int (G i j)) = (List.range n).map fun j => PyData.tuple [.int (j : Nat), .int (G i j)] := by
  rw [enum_iE, List.length_map, List.length_range]
  refine List.map_congr_left fun j hj => ?_
  rw [List.mem_range] at hj
  rw [List.getD_eq_getElem?_getD, range_get hj]; rfl
theorem canLay_ttab (n : Nat) (G : Nat → Nat → Int) : ∀ l : List Nat, PyData.canLayAll0 (l.map (rowD n G)) = true
  | [] => by rw [List.map_nil, PyData.canLayAll0]
  | i :: l => by rw [List.map_cons, PyData.canLayAll0, canLay_ttab n G l, rowD, PyData.canLay0, range_ints, canLay_ints]; rfl
theorem depth_ttab (n : Nat) (G : Nat → Nat → Int) : ∀ l : List Nat, PyData.depthAll (l.map (rowD n G)) ≤ 1
  | [] => by rw [List.map_nil, PyData.depthAll]; decide
  | i :: l => by
    have := depth_ttab n G l
    rw [List.map_cons, PyData.depthAll, rowD, PyData.depth, range_ints, depth_ints]; omega
theorem shaped_tab (n : Nat) (G : Nat → Nat → Int) : SeqAt.shaped (tabD n G) = true := by
  have := depth_ttab n G (List.range n)
  rw [tab_is]
  unfold SeqAt.shaped
  rw [PyData.canLay0, canLay_ttab, PyData.depth, Bool.true_and, decide_eq_true_eq]
  omega
theorem canLay_tab (n : Nat) (G : Nat → Nat → Int) : (tabD n G).canLay0 = true := by rw [tab_is, PyData.canLay0, canLay_ttab]
theorem fEq_tab (n : Nat) (G : Nat → Nat → Int) : fEq (.imm (tabD n G)) (.imm (tabD n G)) = some (.imm (.bool true)) := by
  have h1 := shaped_tab n G
  have h2 := SeqAt.eqv_refl _ (canLay_tab n G)
  rw [tab_is] at h1 h2 ⊢
  unfold fEq eqT
  simp only [v_tdI, Option.bind_some, h1, and_self, if_true, h2, Option.map_some]
theorem fNe_tab (n : Nat) (G : Nat → Nat → Int) : fNe (.imm (tabD n G)) (.imm (tabD n G)) = some (.imm (.bool false)) := by
  have h1 := shaped_tab n G
  have h2 := SeqAt.eqv_refl _ (canLay_tab n G)
  rw [tab_is] at h1 h2 ⊢
  unfold fNe eqT
  simp only [v_tdI, Option.bind_some, h1, and_self, if_true, h2, Option.map_some, Bool.not_true]
theorem tab_ext {n m : Nat} {F G : Nat → Nat → Int} (e : n = m) (h : ∀ i j, i < n → j < n → F i j = G i j) : tabD n F = tabD m G := by
  subst e
  unfold tabD
  congr 1
  refine List.map_congr_left fun i hi => ?_
  congr 1
  refine List.map_congr_left fun j hj => ?_
  rw [List.mem_range] at hi hj
  rw [h i j hi hj]
theorem fNe_ttups (ps qs : List (List Nat)) : fNe (.imm (.tuple (ps.map pT))) (.imm (.tuple (qs.map pT))) = some (.imm (.bool !(decide (ps = qs)))) := by
  have sh : ∀ zs : List (List Nat), SeqAt.shaped (.tuple (zs.map pT)) = true := fun zs => by
    have := depth_tups zs
    unfold SeqAt.shaped
    rw [PyData.canLay0, canLay_tups, PyData.depth, Bool.true_and, decide_eq_true_eq]
    omega
  unfold fNe eqT
  simp only [v_tdI, Option.bind_some, Option.map_some, sh, and_self, if_true, PyData.eqv, eqv_tups]
/-- small numbers -/
def Sm (n : Nat) (G : Nat → Nat → Int) : Prop := ∀ i j, i < n → j < n → ∃ w : Nat, w < 13 ∧ G i j = (w : Nat)
theorem ints_show : ∀ xs : List Int, (∀ x ∈ xs, ∃ w : Nat, w < 13 ∧ x = (w : Nat)) → PyData.showableAll (xs.map PyData.int) = true ∧ PyData.leavesShortAll 8 (xs.map PyData.int) = true ∧ PyData.bulkAll (xs.map PyData.int) = xs.length ∧ PyData.hasDictAll (xs.map PyData.int) = false ∧ PyData.depthAll (xs.map PyData.int) = 0
  | [], _ => ⟨by rw [List.map_nil, PyData.showableAll], by rw [List.map_nil, PyData.leavesShortAll], by rw [List.map_nil, PyData.bulkAll]; rfl, by rw [List.map_nil, PyData.hasDictAll], by rw [List.map_nil, PyData.depthAll]⟩
  | x :: xs, h => by
    obtain ⟨h1, h2, h3, h4, h5⟩ := ints_show xs fun y hy => h y (List.mem_cons_of_mem _ hy)
    obtain ⟨w, hw, rfl⟩ := h x List.mem_cons_self
    have small : ∀ w : Fin 13, PyData.showable (.int (w.val : Nat)) = true ∧ PyData.leavesShort 8 (.int (w.val : Nat)) = true := by decide +kernel
    have := small ⟨w, hw⟩
    refine ⟨?_, ?_, ?_, ?_, ?_⟩
    · rw [List.map_cons, PyData.showableAll, h1, this.1]; rfl
    · rw [List.map_cons, PyData.leavesShortAll, h2, this.2]; rfl
    · rw [List.map_cons, PyData.bulkAll, h3, PyData.bulk, List.length_cons]; omega
    · rw [List.map_cons, PyData.hasDictAll, h4, PyData.hasDict]; rfl
    · rw [List.map_cons, PyData.depthAll, h5, PyData.depth]; rfl
theorem rows_show (n : Nat) (G : Nat → Nat → Int) (hG : Sm n G) : ∀ l : List Nat, (∀ i ∈ l, i < n) → PyData.showableAll (l.map (rowD n G)) = true ∧ PyData.leavesShortAll 8 (l.map (rowD n G)) = true ∧ PyData.bulkAll (l.map (rowD n G)) = (n + 1) * l.length ∧ PyData.hasDictAll (l.map (rowD n G)) = false
  | [], _ => ⟨by rw [List.map_nil, PyData.showableAll], by rw [List.map_nil, PyData.leavesShortAll], by rw [List.map_nil, PyData.bulkAll]; rfl, by rw [List.map_nil, PyData.hasDictAll]⟩
  | i :: l, h => by
    obtain ⟨h1, h2, h3, h4⟩ := rows_show n G hG l fun y hy => h y (List.mem_cons_of_mem _ hy)
    have hi := h i List.mem_cons_self
    obtain ⟨k1, k2, k3, k4, k5⟩ := ints_show ((List.range n).map (G i)) (fun x hx => by
      obtain ⟨j, hj, rfl⟩ := List.mem_map.mp hx
      exact hG i j hi (List.mem_range.mp hj))
    rw [← range_ints] at k1 k2 k3 k4 k5
    rw [List.length_map, List.length_range] at k3
    refine ⟨?_, ?_, ?_, ?_⟩
    · rw [List.map_cons, PyData.showableAll, h1, rowD, PyData.showable, k1]; rfl
    · rw [List.map_cons, PyData.leavesShortAll, h2, rowD, PyData.leavesShort, k2]; rfl
    · rw [List.map_cons, PyData.bulkAll, rowD, PyData.bulk, k3, h3, List.length_cons, Nat.mul_succ]; omega
    · rw [List.map_cons, PyData.hasDictAll, h4, rowD, PyData.hasDict, k4]; rfl
theorem repr_tab (n : Nat) (hn : n ≤ 20) (G : Nat → Nat → Int) (hG : Sm n G) : fRepr [.imm (tabD n G)] = some (.imm (.str (PyData.shown (tabD n G)))) := by
  obtain ⟨h1, h2, h3, h4⟩ := rows_show n G hG (List.range n) fun i hi => List.mem_range.mp hi
  have h5 := depth_ttab n G (List.range n)
  have h6 : (n + 1) * n ≤ 21 * 20 := Nat.mul_le_mul (by omega) hn
  rw [List.length_range] at h3
  rw [tab_is]
  generalize (List.range n).map (rowD n G) = ds at h1 h2 h3 h4 h5 ⊢
  have k1 : PyData.showable (.tuple ds) = true := by rw [PyData.showable]; exact h1
  have k2 : PyData.leavesShort 8 (.tuple ds) = true := by rw [PyData.leavesShort]; exact h2
  have k3 : PyData.bulk (.tuple ds) ≤ 21 * 20 := by rw [PyData.bulk, h3]; exact h6
  have k4 : PyData.hasDict (.tuple ds) = false := by rw [PyData.hasDict]; exact h4
  have k5 : PyData.depth (.tuple ds) ≤ 2 := by rw [PyData.depth]; omega
  have k6 := PyData.shown_le_bulk 8 (by decide) _ k2
  unfold fRepr
  show (Tr.toD _).bind _ = _
  rw [v_tdI, Option.bind_some, if_pos ⟨k1, by omega, by omega, k4⟩]
theorem tabF_at {n : Nat} {G : Nat → Nat → Int} {i : Nat} (h : i < n) : fIx (.imm (tabD n G)) (.imm (.int (i : Nat))) = some (.imm (rowD n G i)) := tabD_at h
theorem items_row (n : Nat) (G : Nat → Nat → Int) (i : Nat) : itemsD (rowD n G i) = some ((List.range n).map fun j => PyData.int (G i j)) := rfl
theorem len_row (n : Nat) (G : Nat → Nat → Int) (i : Nat) : fLen [.imm (rowD n G i)] = some (.imm (.int (n : Nat))) := by
  unfold rowD
  show some (Tr.imm (.int _)) = _
  rw [List.length_map, List.length_range]
theorem enumE_tab {n : Nat} {G : Nat → Nat → Int} {E : En} : enumE (tabD n G) E = some ((List.range n).map fun i => PyData.tuple [.int (i : Nat), rowD n G i], E) := by
  rw [← enum_rows n G]; rfl
theorem enumE_row {n : Nat} {G : Nat → Nat → Int} {i : Nat} {E : En} : enumE (rowD n G i) E = some ((List.range n).map fun j => PyData.tuple [.int (j : Nat), .int (G i j)], E) := by
  rw [← enum_row n G]; rfl
theorem lenT_tab {n : Nat} {G : Nat → Nat → Int} : lenT (.imm (tabD n G)) = some n := by
  rw [tab_is]
  show some (List.length _) = _
  rw [List.length_map, List.length_range]
theorem lenT_row {n : Nat} {G : Nat → Nat → Int} {i : Nat} : lenT (.imm (rowD n G i)) = some n := by
  unfold rowD
  show some (List.length _) = _
  rw [List.length_map, List.length_range]

end WK

namespace WK
open PySem L2 FL
def stkN : List (List Int) := [[2, 3], [2, 3, 0], [2, 2, 3, 4], [2, 2, 3, 5], [2, 3, 4, 6, 12, 0], [2, 3, 4, 5], [2, 7, 0], [2, 4, 8], [2, 9, 5], [2, 5, 10], [2, 2, 11], [2, 3, 4, 5, 6, 10, 12, 0], [2, 7, 8], [2, 2, 2, 3, 8], [2, 0], [2, 2, 2, 2, 3]]
def stkT (l : List Int) : Tr := .imm (.tuple (l.map PyData.int))
theorem stk_ok : ∀ l ∈ stkN, (decide (2 ≤ l.length) && decide (l.length ≤ 8) && l.all goodB) = true := by decide
theorem stk_at {r : Int} (h0 : 0 ≤ r) (h1 : r < 16) : ∃ l : List Int, atI (stkN.map stkT) r = some (stkT l) ∧ 2 ≤ l.length ∧ l.length ≤ 8 ∧ l ∈ stkN := by
  obtain ⟨x, e1, e2⟩ := atI_ofint (xs := stkN.map stkT) h0 h1
  rw [List.getElem?_map] at e2
  obtain ⟨l, e3, rfl⟩ := Option.map_eq_some_iff.mp e2
  have := stk_ok l (List.mem_of_getElem? e3)
  simp only [Bool.and_eq_true, decide_eq_true_eq, List.all_eq_true] at this
  exact ⟨l, e1, this.1.1, this.1.2, List.mem_of_getElem? e3⟩
/-- a square as the hand makes it -/
structure Sl (l : List Int) (n : Nat) (G : Nat → Nat → Int) : Prop where
  one : ∀ a, G a a = 1
  sym : ∀ a b, G a b = G b a
  mem : ∀ a b, a ≠ b → a < n → b < n → G a b ∈ l
structure Sq (n : Nat) (G : Nat → Nat → Int) : Prop where
  one : ∀ a, G a a = 1
  sym : ∀ a b, G a b = G b a
  stk : ∃ l ∈ stkN, ∀ a b, a ≠ b → a < n → b < n → G a b ∈ l
theorem stk_good : ∀ l ∈ stkN, l.all goodB = true := by decide
theorem Sq.good {n : Nat} {G : Nat → Nat → Int} (h : Sq n G) (a b : Nat) (hab : a ≠ b) (ha : a < n) (hb : b < n) : goodB (G a b) = true := by
  obtain ⟨l, hl, hm⟩ := h.stk
  exact List.all_eq_true.mp (stk_good l hl) _ (hm a b hab ha hb)
theorem table_inner (n : Nat) (l : List Int) (hl1 : 2 ≤ l.length) (hl2 : l.length ≤ 8) (sk : Tr) (j : Nat) (hj : j < n) (hn : n ≤ 8) (N : Int) (hN : N < 2 ^ 40) (t : Tr) (ht : Hd t N) (G : Nat → Nat → Int) (hG : Sl l j G) (s6 : Option Tr) :
    ∃ t' G' s6', forD (mName 6) B__law_table_1 (rangeD 0 j) [.par t, .val (.imm (.int n)), .val sk, .val (stkT l), .val (rowsT n G), .val (.imm (.int j)), ov s6, .no] = some (.nx [.par t', .val (.imm (.int n)), .val sk, .val (stkT l), .val (rowsT n G'), .val (.imm (.int j)), ov s6', .no]) ∧ Hd t' (N + 10) ∧ Sl l (j + 1) G' := by
  obtain ⟨E', e, t', G', s6', rfl, h0, h1, h2, h3, h4⟩ := forD_inv (g := mName 6) (ms := B__law_table_1)
    (fun i E => ∃ t' G' s6', E = [.par t', .val (.imm (.int n)), .val sk, .val (stkT l), .val (rowsT n G'), .val (.imm (.int j)), ov s6', .no] ∧ Hd t' (N + i) ∧ (∀ a, G' a a = 1) ∧ (∀ a b, G' a b = G' b a) ∧ (∀ a b, a ≠ b → a < j → b < j → G' a b ∈ l) ∧ (∀ a, a < i → G' a j ∈ l)) (rangeD 0 j)
    (fun i d E hi ⟨t1, G1, s1, hE, h0, h1, h2, h3, h4⟩ => by
      obtain ⟨hij, rfl⟩ := rangeD_at hi
      rw [Int.zero_add]
      have hlen : ((l.map PyData.int).length : Int) = (l.length : Int) := by simp
      obtain ⟨r, t2, e1, r0, r1, ht2⟩ := take_hd h0 (by omega) (l.length : Int) (by omega) (by omega)
      obtain ⟨x, e2, e3⟩ := atI_ofint (xs := l.map PyData.int) r0 (by simpa using r1)
      rw [List.getElem?_map] at e3
      obtain ⟨k, e4, rfl⟩ := Option.map_eq_some_iff.mp e3
      have hk := List.mem_of_getElem? e4
      obtain ⟨x1, x2, x3, rfl⟩ := h0.lst
      have s1' := sub2_rows (G := G1) (k := k) (show i < n by omega) (show j < n by omega)
      have s2' := sub2_rows (G := updG G1 i j k) (k := k) (show j < n by omega) (show i < n by omega)
      have s3' := ix2_rows (i := 4) (fa := iAt 6) (fb := iAt 5) (E := [.par t2, .val (.imm (.int n)), .val sk, .val (stkT l), .val (rowsT n (updG G1 i j k)), .val (.imm (.int j)), .val (.imm (.int i)), .no]) (G := updG G1 i j k) (n := n) (a := i) (b := j) (by omega) (by omega) rfl rfl rfl
      have s4' : updG G1 i j k i j = k := if_pos ⟨rfl, rfl⟩
      rw [s4'] at s3'
      refine ⟨[.par (.lst [x1, x2, x3]), .val (.imm (.int n)), .val sk, .val (stkT l), .val (rowsT n G1), .val (.imm (.int j)), .val (.imm (.int i)), .no], [.par t2, .val (.imm (.int n)), .val sk, .val (stkT l), .val (rowsT n (updG (updG G1 i j k) j i k)), .val (.imm (.int j)), .val (.imm (.int i)), .no], ?_, .inl ?_, t2, updG (updG G1 i j k) j i k, some (.imm (.int i)), rfl, ht2.le (by omega), ?_, ?_, ?_, ?_⟩
      · rw [hE]; simp -implicitDefEqProofs only [FL.v_seq, FL.v_thN, FL.v_thR, FL.v_thB, FL.v_thC, FL.v_ifS, FL.v_asg, FL.v_ret, FL.v_retN, FL.v_drop, FL.v_nx, FL.v_bk, FL.v_ct, FL.v_name, FL.v_pN, FL.v_pV, FL.v_var, FL.v_at, FL.v_trV, FL.v_trP, FL.v_wV, FL.v_wP, FL.v_C, FL.v_ER, FL.v_Fz, FL.v_fO, FL.v_fS, FL.v_fV, FL.v_fP, FL.v_fL, FL.v_vS, FL.v_vO, FL.v_op, FL.v_un, FL.v_bOf, FL.v_test, FL.v_and, FL.v_or, FL.v_not, FL.v_tru, FL.v_trB, FL.v_andV, FL.v_orV, FL.v_notV, FL.v_if, FL.v_chain, FL.v_arN, FL.v_arC, FL.v_faN, FL.v_faC, FL.v_tup, FL.v_lst, FL.v_tdN, FL.v_tdC, FL.v_tdI, FL.v_tdL, FL.toDs_imms, FL.imms_imms, FL.v_cb, FL.v_vsN, FL.v_vsC, FL.v_bm, FL.v_tyS, FL.v_tyL, FL.v_sl, FL.v_moN, FL.v_moS, FL.v_iOf, FL.v_call, FL.v_osO, FL.v_osS, FL.v_isI, FL.v_isL, FL.v_isD, FL.v_gN, FL.v_gO, FL.v_gS, FL.v_for, FL.v_lc, FL.v_sub, FL.v_sub2, FL.v_iAt, FL.v_iC, FL.v_aug, FL.v_par, FL.v_mut, FL.v_rng1, FL.v_rng2, FL.v_seqI, FL.v_enumE, FL.v_enumT, FL.v_enumL, FL.v_isi, FL.v_addI, FL.v_addS, FL.v_addT, FL.v_addL, FL.v_subI, FL.v_neg, FL.v_lt, FL.v_le, FL.v_gt, FL.v_ge, FL.v_eqI, FL.v_neI, FL.v_eqS, FL.v_neS, FL.v_ixT, FL.v_ixD, FL.v_ixL, FL.v_ixS, FL.v_len, FL.v_lnT, FL.v_lnD, FL.v_lnL, FL.v_lnS, FL.v_abs, FL.v_max, FL.v_min, FL.v_int, FL.v_intB, FL.v_tuple, FL.v_list, FL.v_sqT, FL.v_sqD, FL.v_sqL, FL.v_itT, FL.v_itL, FL.v_itS, FL.v_isN, FL.v_notN, FL.v_setL, FL.v_setD, FL.v_kS, FL.v_kI, FL.v_mp, FL.v_mpn, FL.v_pO, FL.v_tupG, FL.v_gsC, FL.v_gsN, FL.v_slD, FL.v_at0, FL.v_at1, FL.v_at2, FL.v_i30, FL.v_i31, FL.v_i32, FL.v_Mv, FL.v_mvV, FL.v_pr, FL.v_wpN, FL.v_wpC, FL.v_wsN, FL.v_wsV, FL.v_wsO, FL.v_bkN, FL.v_bkC, FL.v_bsN, FL.v_bsI, FL.v_sf, FL.v_yes, FL.v_tupA, FL.v_imm, FL.v_aftN, FL.v_aftC, FL.v_aftB, FL.v_aftR, FL.v_iOp, FL.v_iLen, FL.v_dnin, FL.v_dninI, FL.v_disp1, FL.v_dispI, FL.v_mut0, FL.v_mulB, FL.v_lrg1, FL.v_trg1, FL.v_lrg2, FL.v_trg2, FL.v_fT, FL.v_rS, FL.v_rO, FL.v_plI, FL.v_plL, FL.v_plD, FL.v_plT, FL.v_vrN, FL.v_vrC, FL.v_isT, FL.callD, Option.bind_some, Option.bind_none, List.getElem?_cons_zero, List.getElem?_cons_succ, List.getElem?_nil, List.set_cons_zero, List.set_cons_succ, List.length_cons, List.length_nil, List.filterMap_cons, List.filterMap_nil, decide_eq_true_eq, if_true, if_false, true_and, and_true, Nat.reduceAdd, Nat.reduceLeDiff, Nat.reduceEqDiff, ↓reduceIte, Bool.false_eq_true, FL.startE, FL.backs, List.map_cons, List.map_nil, List.cons_append, List.nil_append, Nat.reduceSub, List.replicate_succ, List.replicate_zero, List.nodup_nil, List.nodup_cons, List.not_mem_nil, not_false_eq_true, and_self, reduceCtorEq, Option.map_some, Option.map_none, lenT_tab, lenT_row]
      · unfold B__law_table_1
        unfold stkT at *
        simp -implicitDefEqProofs only [FL.v_seq, FL.v_thN, FL.v_thR, FL.v_thB, FL.v_thC, FL.v_ifS, FL.v_asg, FL.v_ret, FL.v_retN, FL.v_drop, FL.v_nx, FL.v_bk, FL.v_ct, FL.v_name, FL.v_pN, FL.v_pV, FL.v_var, FL.v_at, FL.v_trV, FL.v_trP, FL.v_wV, FL.v_wP, FL.v_C, FL.v_ER, FL.v_Fz, FL.v_fO, FL.v_fS, FL.v_fV, FL.v_fP, FL.v_fL, FL.v_vS, FL.v_vO, FL.v_op, FL.v_un, FL.v_bOf, FL.v_test, FL.v_and, FL.v_or, FL.v_not, FL.v_tru, FL.v_trB, FL.v_andV, FL.v_orV, FL.v_notV, FL.v_if, FL.v_chain, FL.v_arN, FL.v_arC, FL.v_faN, FL.v_faC, FL.v_tup, FL.v_lst, FL.v_tdN, FL.v_tdC, FL.v_tdI, FL.v_tdL, FL.toDs_imms, FL.imms_imms, FL.v_cb, FL.v_vsN, FL.v_vsC, FL.v_bm, FL.v_tyS, FL.v_tyL, FL.v_sl, FL.v_moN, FL.v_moS, FL.v_iOf, FL.v_call, FL.v_osO, FL.v_osS, FL.v_isI, FL.v_isL, FL.v_isD, FL.v_gN, FL.v_gO, FL.v_gS, FL.v_for, FL.v_lc, FL.v_sub, FL.v_sub2, FL.v_iAt, FL.v_iC, FL.v_aug, FL.v_par, FL.v_mut, FL.v_rng1, FL.v_rng2, FL.v_seqI, FL.v_enumE, FL.v_enumT, FL.v_enumL, FL.v_isi, FL.v_addI, FL.v_addS, FL.v_addT, FL.v_addL, FL.v_subI, FL.v_neg, FL.v_lt, FL.v_le, FL.v_gt, FL.v_ge, FL.v_eqI, FL.v_neI, FL.v_eqS, FL.v_neS, FL.v_ixT, FL.v_ixD, FL.v_ixL, FL.v_ixS, FL.v_len, FL.v_lnT, FL.v_lnD, FL.v_lnL, FL.v_lnS, FL.v_abs, FL.v_max, FL.v_min, FL.v_int, FL.v_intB, FL.v_tuple, FL.v_list, FL.v_sqT, FL.v_sqD, FL.v_sqL, FL.v_itT, FL.v_itL, FL.v_itS, FL.v_isN, FL.v_notN, FL.v_setL, FL.v_setD, FL.v_kS, FL.v_kI, FL.v_mp, FL.v_mpn, FL.v_pO, FL.v_tupG, FL.v_gsC, FL.v_gsN, FL.v_slD, FL.v_at0, FL.v_at1, FL.v_at2, FL.v_i30, FL.v_i31, FL.v_i32, FL.v_Mv, FL.v_mvV, FL.v_pr, FL.v_wpN, FL.v_wpC, FL.v_wsN, FL.v_wsV, FL.v_wsO, FL.v_bkN, FL.v_bkC, FL.v_bsN, FL.v_bsI, FL.v_sf, FL.v_yes, FL.v_tupA, FL.v_imm, FL.v_aftN, FL.v_aftC, FL.v_aftB, FL.v_aftR, FL.v_iOp, FL.v_iLen, FL.v_dnin, FL.v_dninI, FL.v_disp1, FL.v_dispI, FL.v_mut0, FL.v_mulB, FL.v_lrg1, FL.v_trg1, FL.v_lrg2, FL.v_trg2, FL.v_fT, FL.v_rS, FL.v_rO, FL.v_plI, FL.v_plL, FL.v_plD, FL.v_plT, FL.v_vrN, FL.v_vrC, FL.v_isT, FL.callD, Option.bind_some, Option.bind_none, List.getElem?_cons_zero, List.getElem?_cons_succ, List.getElem?_nil, List.set_cons_zero, List.set_cons_succ, List.length_cons, List.length_nil, List.filterMap_cons, List.filterMap_nil, decide_eq_true_eq, if_true, if_false, true_and, and_true, Nat.reduceAdd, Nat.reduceLeDiff, Nat.reduceEqDiff, ↓reduceIte, Bool.false_eq_true, FL.startE, FL.backs, List.map_cons, List.map_nil, List.cons_append, List.nil_append, Nat.reduceSub, List.replicate_succ, List.replicate_zero, List.nodup_nil, List.nodup_cons, List.not_mem_nil, not_false_eq_true, and_self, reduceCtorEq, Option.map_some, Option.map_none, lenT_tab, lenT_row, List.length_map, e1, e2, s1', s2', s3']
      · intro a
        unfold updG
        have := h1 a
        repeat' split <;> try omega
      · intro a b
        unfold updG
        have := h2 a b
        repeat' split <;> try omega
      · intro a b hab ha hb
        unfold updG
        rw [if_neg (by omega), if_neg (by omega)]
        exact h3 a b hab ha hb
      · intro a ha
        unfold updG
        by_cases e : a = i
        · subst e
          rw [if_neg (by omega), if_pos ⟨rfl, rfl⟩]
          exact hk
        · rw [if_neg (by omega), if_neg (by omega)]
          exact h4 a (by omega))
    [.par t, .val (.imm (.int n)), .val sk, .val (stkT l), .val (rowsT n G), .val (.imm (.int j)), ov s6, .no] ⟨t, G, s6, rfl, ht.le (by omega), hG.one, hG.sym, hG.mem, fun a h => absurd h (Nat.not_lt_zero _)⟩
  rw [rangeD_len] at h0 h4
  refine ⟨t', G', s6', e, h0.le (by omega), ⟨h1, h2, fun a b hab ha hb => ?_⟩⟩
  by_cases ea : a = j
  · subst ea
    rw [h2]
    exact h4 b (by omega)
  · by_cases eb : b = j
    · subst eb
      exact h4 a (by omega)
    · exact h3 a b hab (by omega) (by omega)
theorem table_outer (n : Nat) (l : List Int) (hl1 : 2 ≤ l.length) (hl2 : l.length ≤ 8) (sk : Tr) (hn : n ≤ 8) (N : Int) (hN : N < 2 ^ 39) (t : Tr) (ht : Hd t N) :
    ∃ t' G' s5' s6', forD (mName 5) B__law_table_2 (rangeD 0 n) [.par t, .val (.imm (.int n)), .val sk, .val (stkT l), .val (rowsT n fun _ _ => 1), .no, .no, .no] = some (.nx [.par t', .val (.imm (.int n)), .val sk, .val (stkT l), .val (rowsT n G'), ov s5', ov s6', .no]) ∧ Hd t' (N + 80) ∧ Sl l n G' := by
  obtain ⟨E', e, t', G', s5', s6', rfl, h0, h1⟩ := forD_inv (g := mName 5) (ms := B__law_table_2)
    (fun j E => ∃ t' G' s5' s6', E = [.par t', .val (.imm (.int n)), .val sk, .val (stkT l), .val (rowsT n G'), ov s5', ov s6', .no] ∧ Hd t' (N + 10 * j) ∧ Sl l j G') (rangeD 0 n)
    (fun j d E hi ⟨t1, G1, s5, s6, hE, h0, h1⟩ => by
      obtain ⟨hij, rfl⟩ := rangeD_at hi
      rw [Int.zero_add]
      obtain ⟨t2, G2, s6', e1, ht2, h2⟩ := table_inner n l hl1 hl2 sk j hij hn (N + 10 * j) (by omega) t1 h0 G1 h1 s6
      have hr := fun E => v_rgN (n := j) (by omega) (E := E)
      refine ⟨[.par t1, .val (.imm (.int n)), .val sk, .val (stkT l), .val (rowsT n G1), .val (.imm (.int j)), ov s6, .no], [.par t2, .val (.imm (.int n)), .val sk, .val (stkT l), .val (rowsT n G2), .val (.imm (.int j)), ov s6', .no], ?_, .inl ?_, t2, G2, some (.imm (.int j)), s6', rfl, ht2.le (by omega), h2⟩
      · rw [hE]; simp -implicitDefEqProofs only [FL.v_seq, FL.v_thN, FL.v_thR, FL.v_thB, FL.v_thC, FL.v_ifS, FL.v_asg, FL.v_ret, FL.v_retN, FL.v_drop, FL.v_nx, FL.v_bk, FL.v_ct, FL.v_name, FL.v_pN, FL.v_pV, FL.v_var, FL.v_at, FL.v_trV, FL.v_trP, FL.v_wV, FL.v_wP, FL.v_C, FL.v_ER, FL.v_Fz, FL.v_fO, FL.v_fS, FL.v_fV, FL.v_fP, FL.v_fL, FL.v_vS, FL.v_vO, FL.v_op, FL.v_un, FL.v_bOf, FL.v_test, FL.v_and, FL.v_or, FL.v_not, FL.v_tru, FL.v_trB, FL.v_andV, FL.v_orV, FL.v_notV, FL.v_if, FL.v_chain, FL.v_arN, FL.v_arC, FL.v_faN, FL.v_faC, FL.v_tup, FL.v_lst, FL.v_tdN, FL.v_tdC, FL.v_tdI, FL.v_tdL, FL.toDs_imms, FL.imms_imms, FL.v_cb, FL.v_vsN, FL.v_vsC, FL.v_bm, FL.v_tyS, FL.v_tyL, FL.v_sl, FL.v_moN, FL.v_moS, FL.v_iOf, FL.v_call, FL.v_osO, FL.v_osS, FL.v_isI, FL.v_isL, FL.v_isD, FL.v_gN, FL.v_gO, FL.v_gS, FL.v_for, FL.v_lc, FL.v_sub, FL.v_sub2, FL.v_iAt, FL.v_iC, FL.v_aug, FL.v_par, FL.v_mut, FL.v_rng1, FL.v_rng2, FL.v_seqI, FL.v_enumE, FL.v_enumT, FL.v_enumL, FL.v_isi, FL.v_addI, FL.v_addS, FL.v_addT, FL.v_addL, FL.v_subI, FL.v_neg, FL.v_lt, FL.v_le, FL.v_gt, FL.v_ge, FL.v_eqI, FL.v_neI, FL.v_eqS, FL.v_neS, FL.v_ixT, FL.v_ixD, FL.v_ixL, FL.v_ixS, FL.v_len, FL.v_lnT, FL.v_lnD, FL.v_lnL, FL.v_lnS, FL.v_abs, FL.v_max, FL.v_min, FL.v_int, FL.v_intB, FL.v_tuple, FL.v_list, FL.v_sqT, FL.v_sqD, FL.v_sqL, FL.v_itT, FL.v_itL, FL.v_itS, FL.v_isN, FL.v_notN, FL.v_setL, FL.v_setD, FL.v_kS, FL.v_kI, FL.v_mp, FL.v_mpn, FL.v_pO, FL.v_tupG, FL.v_gsC, FL.v_gsN, FL.v_slD, FL.v_at0, FL.v_at1, FL.v_at2, FL.v_i30, FL.v_i31, FL.v_i32, FL.v_Mv, FL.v_mvV, FL.v_pr, FL.v_wpN, FL.v_wpC, FL.v_wsN, FL.v_wsV, FL.v_wsO, FL.v_bkN, FL.v_bkC, FL.v_bsN, FL.v_bsI, FL.v_sf, FL.v_yes, FL.v_tupA, FL.v_imm, FL.v_aftN, FL.v_aftC, FL.v_aftB, FL.v_aftR, FL.v_iOp, FL.v_iLen, FL.v_dnin, FL.v_dninI, FL.v_disp1, FL.v_dispI, FL.v_mut0, FL.v_mulB, FL.v_lrg1, FL.v_trg1, FL.v_lrg2, FL.v_trg2, FL.v_fT, FL.v_rS, FL.v_rO, FL.v_plI, FL.v_plL, FL.v_plD, FL.v_plT, FL.v_vrN, FL.v_vrC, FL.v_isT, FL.callD, Option.bind_some, Option.bind_none, List.getElem?_cons_zero, List.getElem?_cons_succ, List.getElem?_nil, List.set_cons_zero, List.set_cons_succ, List.length_cons, List.length_nil, List.filterMap_cons, List.filterMap_nil, decide_eq_true_eq, if_true, if_false, true_and, and_true, Nat.reduceAdd, Nat.reduceLeDiff, Nat.reduceEqDiff, ↓reduceIte, Bool.false_eq_true, FL.startE, FL.backs, List.map_cons, List.map_nil, List.cons_append, List.nil_append, Nat.reduceSub, List.replicate_succ, List.replicate_zero, List.nodup_nil, List.nodup_cons, List.not_mem_nil, not_false_eq_true, and_self, reduceCtorEq, Option.map_some, Option.map_none, lenT_tab, lenT_row]
      · unfold B__law_table_2
        simp -implicitDefEqProofs only [FL.v_seq, FL.v_thN, FL.v_thR, FL.v_thB, FL.v_thC, FL.v_ifS, FL.v_asg, FL.v_ret, FL.v_retN, FL.v_drop, FL.v_nx, FL.v_bk, FL.v_ct, FL.v_name, FL.v_pN, FL.v_pV, FL.v_var, FL.v_at, FL.v_trV, FL.v_trP, FL.v_wV, FL.v_wP, FL.v_C, FL.v_ER, FL.v_Fz, FL.v_fO, FL.v_fS, FL.v_fV, FL.v_fP, FL.v_fL, FL.v_vS, FL.v_vO, FL.v_op, FL.v_un, FL.v_bOf, FL.v_test, FL.v_and, FL.v_or, FL.v_not, FL.v_tru, FL.v_trB, FL.v_andV, FL.v_orV, FL.v_notV, FL.v_if, FL.v_chain, FL.v_arN, FL.v_arC, FL.v_faN, FL.v_faC, FL.v_tup, FL.v_lst, FL.v_tdN, FL.v_tdC, FL.v_tdI, FL.v_tdL, FL.toDs_imms, FL.imms_imms, FL.v_cb, FL.v_vsN, FL.v_vsC, FL.v_bm, FL.v_tyS, FL.v_tyL, FL.v_sl, FL.v_moN, FL.v_moS, FL.v_iOf, FL.v_call, FL.v_osO, FL.v_osS, FL.v_isI, FL.v_isL, FL.v_isD, FL.v_gN, FL.v_gO, FL.v_gS, FL.v_for, FL.v_lc, FL.v_sub, FL.v_sub2, FL.v_iAt, FL.v_iC, FL.v_aug, FL.v_par, FL.v_mut, FL.v_rng1, FL.v_rng2, FL.v_seqI, FL.v_enumE, FL.v_enumT, FL.v_enumL, FL.v_isi, FL.v_addI, FL.v_addS, FL.v_addT, FL.v_addL, FL.v_subI, FL.v_neg, FL.v_lt, FL.v_le, FL.v_gt, FL.v_ge, FL.v_eqI, FL.v_neI, FL.v_eqS, FL.v_neS, FL.v_ixT, FL.v_ixD, FL.v_ixL, FL.v_ixS, FL.v_len, FL.v_lnT, FL.v_lnD, FL.v_lnL, FL.v_lnS, FL.v_abs, FL.v_max, FL.v_min, FL.v_int, FL.v_intB, FL.v_tuple, FL.v_list, FL.v_sqT, FL.v_sqD, FL.v_sqL, FL.v_itT, FL.v_itL, FL.v_itS, FL.v_isN, FL.v_notN, FL.v_setL, FL.v_setD, FL.v_kS, FL.v_kI, FL.v_mp, FL.v_mpn, FL.v_pO, FL.v_tupG, FL.v_gsC, FL.v_gsN, FL.v_slD, FL.v_at0, FL.v_at1, FL.v_at2, FL.v_i30, FL.v_i31, FL.v_i32, FL.v_Mv, FL.v_mvV, FL.v_pr, FL.v_wpN, FL.v_wpC, FL.v_wsN, FL.v_wsV, FL.v_wsO, FL.v_bkN, FL.v_bkC, FL.v_bsN, FL.v_bsI, FL.v_sf, FL.v_yes, FL.v_tupA, FL.v_imm, FL.v_aftN, FL.v_aftC, FL.v_aftB, FL.v_aftR, FL.v_iOp, FL.v_iLen, FL.v_dnin, FL.v_dninI, FL.v_disp1, FL.v_dispI, FL.v_mut0, FL.v_mulB, FL.v_lrg1, FL.v_trg1, FL.v_lrg2, FL.v_trg2, FL.v_fT, FL.v_rS, FL.v_rO, FL.v_plI, FL.v_plL, FL.v_plD, FL.v_plT, FL.v_vrN, FL.v_vrC, FL.v_isT, FL.callD, Option.bind_some, Option.bind_none, List.getElem?_cons_zero, List.getElem?_cons_succ, List.getElem?_nil, List.set_cons_zero, List.set_cons_succ, List.length_cons, List.length_nil, List.filterMap_cons, List.filterMap_nil, decide_eq_true_eq, if_true, if_false, true_and, and_true, Nat.reduceAdd, Nat.reduceLeDiff, Nat.reduceEqDiff, ↓reduceIte, Bool.false_eq_true, FL.startE, FL.backs, List.map_cons, List.map_nil, List.cons_append, List.nil_append, Nat.reduceSub, List.replicate_succ, List.replicate_zero, List.nodup_nil, List.nodup_cons, List.not_mem_nil, not_false_eq_true, and_self, reduceCtorEq, Option.map_some, Option.map_none, lenT_tab, lenT_row, hr, Int.toNat_natCast, e1])
    [.par t, .val (.imm (.int n)), .val sk, .val (stkT l), .val (rowsT n fun _ _ => 1), .no, .no, .no] ⟨t, _, none, none, rfl, ht.le (by omega), ⟨fun _ => rfl, fun _ _ => rfl, fun a b _ ha => absurd ha (Nat.not_lt_zero _)⟩⟩
  rw [rangeD_len] at h0 h1
  exact ⟨t', G', s5', s6', e, h0.le (by omega), h1⟩
theorem table_one (n : Nat) (hn : n ≤ 8) (t : Tr) (N : Int) (hN : N < 2 ^ 38) (ht : Hd t N) :
    ∃ t' G, mFn 8 m__law_table [t, .imm (.int n)] = some (.imm (tabD n G), [t', .imm (.int n)]) ∧ Hd t' (N + 81) ∧ Sq n G := by
  obtain ⟨r, t1, e1, r0, r1, ht1⟩ := take_hd ht (by omega) 16 (by decide) (by decide)
  obtain ⟨l, e2, hl1, hl2, hg⟩ := stk_at r0 r1
  obtain ⟨t2, G, s5, s6, e3, ht2, hG⟩ := table_outer n l hl1 hl2 (.lst [.imm (.tuple [.int 2, .int 3]), .imm (.tuple [.int 2, .int 3, .int 0]), .imm (.tuple [.int 2, .int 2, .int 3, .int 4]), .imm (.tuple [.int 2, .int 2, .int 3, .int 5]), .imm (.tuple [.int 2, .int 3, .int 4, .int 6, .int 12, .int 0]), .imm (.tuple [.int 2, .int 3, .int 4, .int 5]), .imm (.tuple [.int 2, .int 7, .int 0]), .imm (.tuple [.int 2, .int 4, .int 8]), .imm (.tuple [.int 2, .int 9, .int 5]), .imm (.tuple [.int 2, .int 5, .int 10]), .imm (.tuple [.int 2, .int 2, .int 11]), .imm (.tuple [.int 2, .int 3, .int 4, .int 5, .int 6, .int 10, .int 12, .int 0]), .imm (.tuple [.int 2, .int 7, .int 8]), .imm (.tuple [.int 2, .int 2, .int 2, .int 3, .int 8])]) hn (N + 1) (by omega) t1 ht1
  have hr := fun E => v_rgN (n := n) (by omega) (E := E)
  have hm := v_mul1 (d := .int 1) (k := (n : Int)) (by omega) (by omega)
  rw [Int.toNat_natCast] at hm
  have e4 := lcD_map (g := mName 6) (m := X__law_table_1) (vs := [6]) (E := [.par t1, .val (.imm (.int n)), .val (.lst [.imm (.tuple [.int 2, .int 3]), .imm (.tuple [.int 2, .int 3, .int 0]), .imm (.tuple [.int 2, .int 2, .int 3, .int 4]), .imm (.tuple [.int 2, .int 2, .int 3, .int 5]), .imm (.tuple [.int 2, .int 3, .int 4, .int 6, .int 12, .int 0]), .imm (.tuple [.int 2, .int 3, .int 4, .int 5]), .imm (.tuple [.int 2, .int 7, .int 0]), .imm (.tuple [.int 2, .int 4, .int 8]), .imm (.tuple [.int 2, .int 9, .int 5]), .imm (.tuple [.int 2, .int 5, .int 10]), .imm (.tuple [.int 2, .int 2, .int 11]), .imm (.tuple [.int 2, .int 3, .int 4, .int 5, .int 6, .int 10, .int 12, .int 0]), .imm (.tuple [.int 2, .int 7, .int 8]), .imm (.tuple [.int 2, .int 2, .int 2, .int 3, .int 8])]), .val (stkT l), .no, .no, .no, .no]) (fun _ => Tr.lst ((List.replicate n (PyData.int 1)).map Tr.imm)) (rangeD 0 n) (fun d _ => ⟨[.par t1, .val (.imm (.int n)), .val (.lst [.imm (.tuple [.int 2, .int 3]), .imm (.tuple [.int 2, .int 3, .int 0]), .imm (.tuple [.int 2, .int 2, .int 3, .int 4]), .imm (.tuple [.int 2, .int 2, .int 3, .int 5]), .imm (.tuple [.int 2, .int 3, .int 4, .int 6, .int 12, .int 0]), .imm (.tuple [.int 2, .int 3, .int 4, .int 5]), .imm (.tuple [.int 2, .int 7, .int 0]), .imm (.tuple [.int 2, .int 4, .int 8]), .imm (.tuple [.int 2, .int 9, .int 5]), .imm (.tuple [.int 2, .int 5, .int 10]), .imm (.tuple [.int 2, .int 2, .int 11]), .imm (.tuple [.int 2, .int 3, .int 4, .int 5, .int 6, .int 10, .int 12, .int 0]), .imm (.tuple [.int 2, .int 7, .int 8]), .imm (.tuple [.int 2, .int 2, .int 2, .int 3, .int 8])]), .val (stkT l), .no, .no, .val (.imm d), .no], [.par t1, .val (.imm (.int n)), .val (.lst [.imm (.tuple [.int 2, .int 3]), .imm (.tuple [.int 2, .int 3, .int 0]), .imm (.tuple [.int 2, .int 2, .int 3, .int 4]), .imm (.tuple [.int 2, .int 2, .int 3, .int 5]), .imm (.tuple [.int 2, .int 3, .int 4, .int 6, .int 12, .int 0]), .imm (.tuple [.int 2, .int 3, .int 4, .int 5]), .imm (.tuple [.int 2, .int 7, .int 0]), .imm (.tuple [.int 2, .int 4, .int 8]), .imm (.tuple [.int 2, .int 9, .int 5]), .imm (.tuple [.int 2, .int 5, .int 10]), .imm (.tuple [.int 2, .int 2, .int 11]), .imm (.tuple [.int 2, .int 3, .int 4, .int 5, .int 6, .int 10, .int 12, .int 0]), .imm (.tuple [.int 2, .int 7, .int 8]), .imm (.tuple [.int 2, .int 2, .int 2, .int 3, .int 8])]), .val (stkT l), .no, .no, .val (.imm d), .no], by simp -implicitDefEqProofs only [FL.v_seq, FL.v_thN, FL.v_thR, FL.v_thB, FL.v_thC, FL.v_ifS, FL.v_asg, FL.v_ret, FL.v_retN, FL.v_drop, FL.v_nx, FL.v_bk, FL.v_ct, FL.v_name, FL.v_pN, FL.v_pV, FL.v_var, FL.v_at, FL.v_trV, FL.v_trP, FL.v_wV, FL.v_wP, FL.v_C, FL.v_ER, FL.v_Fz, FL.v_fO, FL.v_fS, FL.v_fV, FL.v_fP, FL.v_fL, FL.v_vS, FL.v_vO, FL.v_op, FL.v_un, FL.v_bOf, FL.v_test, FL.v_and, FL.v_or, FL.v_not, FL.v_tru, FL.v_trB, FL.v_andV, FL.v_orV, FL.v_notV, FL.v_if, FL.v_chain, FL.v_arN, FL.v_arC, FL.v_faN, FL.v_faC, FL.v_tup, FL.v_lst, FL.v_tdN, FL.v_tdC, FL.v_tdI, FL.v_tdL, FL.toDs_imms, FL.imms_imms, FL.v_cb, FL.v_vsN, FL.v_vsC, FL.v_bm, FL.v_tyS, FL.v_tyL, FL.v_sl, FL.v_moN, FL.v_moS, FL.v_iOf, FL.v_call, FL.v_osO, FL.v_osS, FL.v_isI, FL.v_isL, FL.v_isD, FL.v_gN, FL.v_gO, FL.v_gS, FL.v_for, FL.v_lc, FL.v_sub, FL.v_sub2, FL.v_iAt, FL.v_iC, FL.v_aug, FL.v_par, FL.v_mut, FL.v_rng1, FL.v_rng2, FL.v_seqI, FL.v_enumE, FL.v_enumT, FL.v_enumL, FL.v_isi, FL.v_addI, FL.v_addS, FL.v_addT, FL.v_addL, FL.v_subI, FL.v_neg, FL.v_lt, FL.v_le, FL.v_gt, FL.v_ge, FL.v_eqI, FL.v_neI, FL.v_eqS, FL.v_neS, FL.v_ixT, FL.v_ixD, FL.v_ixL, FL.v_ixS, FL.v_len, FL.v_lnT, FL.v_lnD, FL.v_lnL, FL.v_lnS, FL.v_abs, FL.v_max, FL.v_min, FL.v_int, FL.v_intB, FL.v_tuple, FL.v_list, FL.v_sqT, FL.v_sqD, FL.v_sqL, FL.v_itT, FL.v_itL, FL.v_itS, FL.v_isN, FL.v_notN, FL.v_setL, FL.v_setD, FL.v_kS, FL.v_kI, FL.v_mp, FL.v_mpn, FL.v_pO, FL.v_tupG, FL.v_gsC, FL.v_gsN, FL.v_slD, FL.v_at0, FL.v_at1, FL.v_at2, FL.v_i30, FL.v_i31, FL.v_i32, FL.v_Mv, FL.v_mvV, FL.v_pr, FL.v_wpN, FL.v_wpC, FL.v_wsN, FL.v_wsV, FL.v_wsO, FL.v_bkN, FL.v_bkC, FL.v_bsN, FL.v_bsI, FL.v_sf, FL.v_yes, FL.v_tupA, FL.v_imm, FL.v_aftN, FL.v_aftC, FL.v_aftB, FL.v_aftR, FL.v_iOp, FL.v_iLen, FL.v_dnin, FL.v_dninI, FL.v_disp1, FL.v_dispI, FL.v_mut0, FL.v_mulB, FL.v_lrg1, FL.v_trg1, FL.v_lrg2, FL.v_trg2, FL.v_fT, FL.v_rS, FL.v_rO, FL.v_plI, FL.v_plL, FL.v_plD, FL.v_plT, FL.v_vrN, FL.v_vrC, FL.v_isT, FL.callD, Option.bind_some, Option.bind_none, List.getElem?_cons_zero, List.getElem?_cons_succ, List.getElem?_nil, List.set_cons_zero, List.set_cons_succ, List.length_cons, List.length_nil, List.filterMap_cons, List.filterMap_nil, decide_eq_true_eq, if_true, if_false, true_and, and_true, Nat.reduceAdd, Nat.reduceLeDiff, Nat.reduceEqDiff, ↓reduceIte, Bool.false_eq_true, FL.startE, FL.backs, List.map_cons, List.map_nil, List.cons_append, List.nil_append, Nat.reduceSub, List.replicate_succ, List.replicate_zero, List.nodup_nil, List.nodup_cons, List.not_mem_nil, not_false_eq_true, and_self, reduceCtorEq, Option.map_some, Option.map_none, lenT_tab, lenT_row], by unfold X__law_table_1; simp -implicitDefEqProofs only [FL.v_seq, FL.v_thN, FL.v_thR, FL.v_thB, FL.v_thC, FL.v_ifS, FL.v_asg, FL.v_ret, FL.v_retN, FL.v_drop, FL.v_nx, FL.v_bk, FL.v_ct, FL.v_name, FL.v_pN, FL.v_pV, FL.v_var, FL.v_at, FL.v_trV, FL.v_trP, FL.v_wV, FL.v_wP, FL.v_C, FL.v_ER, FL.v_Fz, FL.v_fO, FL.v_fS, FL.v_fV, FL.v_fP, FL.v_fL, FL.v_vS, FL.v_vO, FL.v_op, FL.v_un, FL.v_bOf, FL.v_test, FL.v_and, FL.v_or, FL.v_not, FL.v_tru, FL.v_trB, FL.v_andV, FL.v_orV, FL.v_notV, FL.v_if, FL.v_chain, FL.v_arN, FL.v_arC, FL.v_faN, FL.v_faC, FL.v_tup, FL.v_lst, FL.v_tdN, FL.v_tdC, FL.v_tdI, FL.v_tdL, FL.toDs_imms, FL.imms_imms, FL.v_cb, FL.v_vsN, FL.v_vsC, FL.v_bm, FL.v_tyS, FL.v_tyL, FL.v_sl, FL.v_moN, FL.v_moS, FL.v_iOf, FL.v_call, FL.v_osO, FL.v_osS, FL.v_isI, FL.v_isL, FL.v_isD, FL.v_gN, FL.v_gO, FL.v_gS, FL.v_for, FL.v_lc, FL.v_sub, FL.v_sub2, FL.v_iAt, FL.v_iC, FL.v_aug, FL.v_par, FL.v_mut, FL.v_rng1, FL.v_rng2, FL.v_seqI, FL.v_enumE, FL.v_enumT, FL.v_enumL, FL.v_isi, FL.v_addI, FL.v_addS, FL.v_addT, FL.v_addL, FL.v_subI, FL.v_neg, FL.v_lt, FL.v_le, FL.v_gt, FL.v_ge, FL.v_eqI, FL.v_neI, FL.v_eqS, FL.v_neS, FL.v_ixT, FL.v_ixD, FL.v_ixL, FL.v_ixS, FL.v_len, FL.v_lnT, FL.v_lnD, FL.v_lnL, FL.v_lnS, FL.v_abs, FL.v_max, FL.v_min, FL.v_int, FL.v_intB, FL.v_tuple, FL.v_list, FL.v_sqT, FL.v_sqD, FL.v_sqL, FL.v_itT, FL.v_itL, FL.v_itS, FL.v_isN, FL.v_notN, FL.v_setL, FL.v_setD, FL.v_kS, FL.v_kI, FL.v_mp, FL.v_mpn, FL.v_pO, FL.v_tupG, FL.v_gsC, FL.v_gsN, FL.v_slD, FL.v_at0, FL.v_at1, FL.v_at2, FL.v_i30, FL.v_i31, FL.v_i32, FL.v_Mv, FL.v_mvV, FL.v_pr, FL.v_wpN, FL.v_wpC, FL.v_wsN, FL.v_wsV, FL.v_wsO, FL.v_bkN, FL.v_bkC, FL.v_bsN, FL.v_bsI, FL.v_sf, FL.v_yes, FL.v_tupA, FL.v_imm, FL.v_aftN, FL.v_aftC, FL.v_aftB, FL.v_aftR, FL.v_iOp, FL.v_iLen, FL.v_dnin, FL.v_dninI, FL.v_disp1, FL.v_dispI, FL.v_mut0, FL.v_mulB, FL.v_lrg1, FL.v_trg1, FL.v_lrg2, FL.v_trg2, FL.v_fT, FL.v_rS, FL.v_rO, FL.v_plI, FL.v_plL, FL.v_plD, FL.v_plT, FL.v_vrN, FL.v_vrC, FL.v_isT, FL.callD, Option.bind_some, Option.bind_none, List.getElem?_cons_zero, List.getElem?_cons_succ, List.getElem?_nil, List.set_cons_zero, List.set_cons_succ, List.length_cons, List.length_nil, List.filterMap_cons, List.filterMap_nil, decide_eq_true_eq, if_true, if_false, true_and, and_true, Nat.reduceAdd, Nat.reduceLeDiff, Nat.reduceEqDiff, ↓reduceIte, Bool.false_eq_true, FL.startE, FL.backs, List.map_cons, List.map_nil, List.cons_append, List.nil_append, Nat.reduceSub, List.replicate_succ, List.replicate_zero, List.nodup_nil, List.nodup_cons, List.not_mem_nil, not_false_eq_true, and_self, reduceCtorEq, Option.map_some, Option.map_none, lenT_tab, lenT_row, hm, show (1 ≤ 16777216) = True from eq_true (by decide)], rfl⟩) [] (by rw [rangeD_len]; simp; omega)
  rw [rows_start, List.nil_append] at e4
  have e5 := lcD_map (g := mName 7) (m := X__law_table_2) (vs := [7]) (E := [.par t2, .val (.imm (.int n)), .val (.lst [.imm (.tuple [.int 2, .int 3]), .imm (.tuple [.int 2, .int 3, .int 0]), .imm (.tuple [.int 2, .int 2, .int 3, .int 4]), .imm (.tuple [.int 2, .int 2, .int 3, .int 5]), .imm (.tuple [.int 2, .int 3, .int 4, .int 6, .int 12, .int 0]), .imm (.tuple [.int 2, .int 3, .int 4, .int 5]), .imm (.tuple [.int 2, .int 7, .int 0]), .imm (.tuple [.int 2, .int 4, .int 8]), .imm (.tuple [.int 2, .int 9, .int 5]), .imm (.tuple [.int 2, .int 5, .int 10]), .imm (.tuple [.int 2, .int 2, .int 11]), .imm (.tuple [.int 2, .int 3, .int 4, .int 5, .int 6, .int 10, .int 12, .int 0]), .imm (.tuple [.int 2, .int 7, .int 8]), .imm (.tuple [.int 2, .int 2, .int 2, .int 3, .int 8])]), .val (stkT l), .val (.imm (.list ((List.range n).map fun i => PyData.list ((List.range n).map fun j => PyData.int (G i j))))), ov s5, ov s6, .no]) tupOf ((List.range n).map fun i => PyData.list ((List.range n).map fun j => PyData.int (G i j))) (fun d hd => by
      obtain ⟨i, -, rfl⟩ := List.mem_map.mp hd
      exact ⟨_, _, by simp -implicitDefEqProofs only [FL.v_seq, FL.v_thN, FL.v_thR, FL.v_thB, FL.v_thC, FL.v_ifS, FL.v_asg, FL.v_ret, FL.v_retN, FL.v_drop, FL.v_nx, FL.v_bk, FL.v_ct, FL.v_name, FL.v_pN, FL.v_pV, FL.v_var, FL.v_at, FL.v_trV, FL.v_trP, FL.v_wV, FL.v_wP, FL.v_C, FL.v_ER, FL.v_Fz, FL.v_fO, FL.v_fS, FL.v_fV, FL.v_fP, FL.v_fL, FL.v_vS, FL.v_vO, FL.v_op, FL.v_un, FL.v_bOf, FL.v_test, FL.v_and, FL.v_or, FL.v_not, FL.v_tru, FL.v_trB, FL.v_andV, FL.v_orV, FL.v_notV, FL.v_if, FL.v_chain, FL.v_arN, FL.v_arC, FL.v_faN, FL.v_faC, FL.v_tup, FL.v_lst, FL.v_tdN, FL.v_tdC, FL.v_tdI, FL.v_tdL, FL.toDs_imms, FL.imms_imms, FL.v_cb, FL.v_vsN, FL.v_vsC, FL.v_bm, FL.v_tyS, FL.v_tyL, FL.v_sl, FL.v_moN, FL.v_moS, FL.v_iOf, FL.v_call, FL.v_osO, FL.v_osS, FL.v_isI, FL.v_isL, FL.v_isD, FL.v_gN, FL.v_gO, FL.v_gS, FL.v_for, FL.v_lc, FL.v_sub, FL.v_sub2, FL.v_iAt, FL.v_iC, FL.v_aug, FL.v_par, FL.v_mut, FL.v_rng1, FL.v_rng2, FL.v_seqI, FL.v_enumE, FL.v_enumT, FL.v_enumL, FL.v_isi, FL.v_addI, FL.v_addS, FL.v_addT, FL.v_addL, FL.v_subI, FL.v_neg, FL.v_lt, FL.v_le, FL.v_gt, FL.v_ge, FL.v_eqI, FL.v_neI, FL.v_eqS, FL.v_neS, FL.v_ixT, FL.v_ixD, FL.v_ixL, FL.v_ixS, FL.v_len, FL.v_lnT, FL.v_lnD, FL.v_lnL, FL.v_lnS, FL.v_abs, FL.v_max, FL.v_min, FL.v_int, FL.v_intB, FL.v_tuple, FL.v_list, FL.v_sqT, FL.v_sqD, FL.v_sqL, FL.v_itT, FL.v_itL, FL.v_itS, FL.v_isN, FL.v_notN, FL.v_setL, FL.v_setD, FL.v_kS, FL.v_kI, FL.v_mp, FL.v_mpn, FL.v_pO, FL.v_tupG, FL.v_gsC, FL.v_gsN, FL.v_slD, FL.v_at0, FL.v_at1, FL.v_at2, FL.v_i30, FL.v_i31, FL.v_i32, FL.v_Mv, FL.v_mvV, FL.v_pr, FL.v_wpN, FL.v_wpC, FL.v_wsN, FL.v_wsV, FL.v_wsO, FL.v_bkN, FL.v_bkC, FL.v_bsN, FL.v_bsI, FL.v_sf, FL.v_yes, FL.v_tupA, FL.v_imm, FL.v_aftN, FL.v_aftC, FL.v_aftB, FL.v_aftR, FL.v_iOp, FL.v_iLen, FL.v_dnin, FL.v_dninI, FL.v_disp1, FL.v_dispI, FL.v_mut0, FL.v_mulB, FL.v_lrg1, FL.v_trg1, FL.v_lrg2, FL.v_trg2, FL.v_fT, FL.v_rS, FL.v_rO, FL.v_plI, FL.v_plL, FL.v_plD, FL.v_plT, FL.v_vrN, FL.v_vrC, FL.v_isT, FL.callD, Option.bind_some, Option.bind_none, List.getElem?_cons_zero, List.getElem?_cons_succ, List.getElem?_nil, List.set_cons_zero, List.set_cons_succ, List.length_cons, List.length_nil, List.filterMap_cons, List.filterMap_nil, decide_eq_true_eq, if_true, if_false, true_and, and_true, Nat.reduceAdd, Nat.reduceLeDiff, Nat.reduceEqDiff, ↓reduceIte, Bool.false_eq_true, FL.startE, FL.backs, List.map_cons, List.map_nil, List.cons_append, List.nil_append, Nat.reduceSub, List.replicate_succ, List.replicate_zero, List.nodup_nil, List.nodup_cons, List.not_mem_nil, not_false_eq_true, and_self, reduceCtorEq, Option.map_some, Option.map_none, lenT_tab, lenT_row]; rfl, by unfold X__law_table_2; simp -implicitDefEqProofs only [FL.v_seq, FL.v_thN, FL.v_thR, FL.v_thB, FL.v_thC, FL.v_ifS, FL.v_asg, FL.v_ret, FL.v_retN, FL.v_drop, FL.v_nx, FL.v_bk, FL.v_ct, FL.v_name, FL.v_pN, FL.v_pV, FL.v_var, FL.v_at, FL.v_trV, FL.v_trP, FL.v_wV, FL.v_wP, FL.v_C, FL.v_ER, FL.v_Fz, FL.v_fO, FL.v_fS, FL.v_fV, FL.v_fP, FL.v_fL, FL.v_vS, FL.v_vO, FL.v_op, FL.v_un, FL.v_bOf, FL.v_test, FL.v_and, FL.v_or, FL.v_not, FL.v_tru, FL.v_trB, FL.v_andV, FL.v_orV, FL.v_notV, FL.v_if, FL.v_chain, FL.v_arN, FL.v_arC, FL.v_faN, FL.v_faC, FL.v_tup, FL.v_lst, FL.v_tdN, FL.v_tdC, FL.v_tdI, FL.v_tdL, FL.toDs_imms, FL.imms_imms, FL.v_cb, FL.v_vsN, FL.v_vsC, FL.v_bm, FL.v_tyS, FL.v_tyL, FL.v_sl, FL.v_moN, FL.v_moS, FL.v_iOf, FL.v_call, FL.v_osO, FL.v_osS, FL.v_isI, FL.v_isL, FL.v_isD, FL.v_gN, FL.v_gO, FL.v_gS, FL.v_for, FL.v_lc, FL.v_sub, FL.v_sub2, FL.v_iAt, FL.v_iC, FL.v_aug, FL.v_par, FL.v_mut, FL.v_rng1, FL.v_rng2, FL.v_seqI, FL.v_enumE, FL.v_enumT, FL.v_enumL, FL.v_isi, FL.v_addI, FL.v_addS, FL.v_addT, FL.v_addL, FL.v_subI, FL.v_neg, FL.v_lt, FL.v_le, FL.v_gt, FL.v_ge, FL.v_eqI, FL.v_neI, FL.v_eqS, FL.v_neS, FL.v_ixT, FL.v_ixD, FL.v_ixL, FL.v_ixS, FL.v_len, FL.v_lnT, FL.v_lnD, FL.v_lnL, FL.v_lnS, FL.v_abs, FL.v_max, FL.v_min, FL.v_int, FL.v_intB, FL.v_tuple, FL.v_list, FL.v_sqT, FL.v_sqD, FL.v_sqL, FL.v_itT, FL.v_itL, FL.v_itS, FL.v_isN, FL.v_notN, FL.v_setL, FL.v_setD, FL.v_kS, FL.v_kI, FL.v_mp, FL.v_mpn, FL.v_pO, FL.v_tupG, FL.v_gsC, FL.v_gsN, FL.v_slD, FL.v_at0, FL.v_at1, FL.v_at2, FL.v_i30, FL.v_i31, FL.v_i32, FL.v_Mv, FL.v_mvV, FL.v_pr, FL.v_wpN, FL.v_wpC, FL.v_wsN, FL.v_wsV, FL.v_wsO, FL.v_bkN, FL.v_bkC, FL.v_bsN, FL.v_bsI, FL.v_sf, FL.v_yes, FL.v_tupA, FL.v_imm, FL.v_aftN, FL.v_aftC, FL.v_aftB, FL.v_aftR, FL.v_iOp, FL.v_iLen, FL.v_dnin, FL.v_dninI, FL.v_disp1, FL.v_dispI, FL.v_mut0, FL.v_mulB, FL.v_lrg1, FL.v_trg1, FL.v_lrg2, FL.v_trg2, FL.v_fT, FL.v_rS, FL.v_rO, FL.v_plI, FL.v_plL, FL.v_plD, FL.v_plT, FL.v_vrN, FL.v_vrC, FL.v_isT, FL.callD, Option.bind_some, Option.bind_none, List.getElem?_cons_zero, List.getElem?_cons_succ, List.getElem?_nil, List.set_cons_zero, List.set_cons_succ, List.length_cons, List.length_nil, List.filterMap_cons, List.filterMap_nil, decide_eq_true_eq, if_true, if_false, true_and, and_true, Nat.reduceAdd, Nat.reduceLeDiff, Nat.reduceEqDiff, ↓reduceIte, Bool.false_eq_true, FL.startE, FL.backs, List.map_cons, List.map_nil, List.cons_append, List.nil_append, Nat.reduceSub, List.replicate_succ, List.replicate_zero, List.nodup_nil, List.nodup_cons, List.not_mem_nil, not_false_eq_true, and_self, reduceCtorEq, Option.map_some, Option.map_none, lenT_tab, lenT_row]; rfl, rfl⟩) [] (by simp; omega)
  obtain ⟨x1, x2, x3, rfl⟩ := ht.lst
  obtain ⟨y1, y2, y3, rfl⟩ := ht2.lst
  have e6 : Tr.toDs ((List.range n).map fun i => Tr.lst ((List.range n).map fun j => Tr.imm (.int (G i j)))) = some ((List.range n).map fun i => PyData.list ((List.range n).map fun j => PyData.int (G i j))) := rows_toDs n n G
  have e7 : (((List.range n).map fun i => PyData.list ((List.range n).map fun j => PyData.int (G i j))).map tupOf) = ((List.range n).map fun i => PyData.tuple ((List.range n).map fun j => PyData.int (G i j))).map Tr.imm := by
    rw [List.map_map, List.map_map]; rfl
  rw [e7, List.nil_append] at e5
  refine ⟨_, G, ?_, ht2.le (by omega), ⟨hG.one, hG.sym, l, hg, hG.mem⟩⟩
  unfold rowsT at e3
  rw [v_fn]
  unfold m__law_table
  unfold tabD
  have k1 : atI (stkN.map stkT) r = some (stkT l) := e2
  simp only [stkN, stkT, List.map_cons, List.map_nil] at k1
  unfold stkT at e3 e4 e5
  simp -implicitDefEqProofs only [FL.v_seq, FL.v_thN, FL.v_thR, FL.v_thB, FL.v_thC, FL.v_ifS, FL.v_asg, FL.v_ret, FL.v_retN, FL.v_drop, FL.v_nx, FL.v_bk, FL.v_ct, FL.v_name, FL.v_pN, FL.v_pV, FL.v_var, FL.v_at, FL.v_trV, FL.v_trP, FL.v_wV, FL.v_wP, FL.v_C, FL.v_ER, FL.v_Fz, FL.v_fO, FL.v_fS, FL.v_fV, FL.v_fP, FL.v_fL, FL.v_vS, FL.v_vO, FL.v_op, FL.v_un, FL.v_bOf, FL.v_test, FL.v_and, FL.v_or, FL.v_not, FL.v_tru, FL.v_trB, FL.v_andV, FL.v_orV, FL.v_notV, FL.v_if, FL.v_chain, FL.v_arN, FL.v_arC, FL.v_faN, FL.v_faC, FL.v_tup, FL.v_lst, FL.v_tdN, FL.v_tdC, FL.v_tdI, FL.v_tdL, FL.toDs_imms, FL.imms_imms, FL.v_cb, FL.v_vsN, FL.v_vsC, FL.v_bm, FL.v_tyS, FL.v_tyL, FL.v_sl, FL.v_moN, FL.v_moS, FL.v_iOf, FL.v_call, FL.v_osO, FL.v_osS, FL.v_isI, FL.v_isL, FL.v_isD, FL.v_gN, FL.v_gO, FL.v_gS, FL.v_for, FL.v_lc, FL.v_sub, FL.v_sub2, FL.v_iAt, FL.v_iC, FL.v_aug, FL.v_par, FL.v_mut, FL.v_rng1, FL.v_rng2, FL.v_seqI, FL.v_enumE, FL.v_enumT, FL.v_enumL, FL.v_isi, FL.v_addI, FL.v_addS, FL.v_addT, FL.v_addL, FL.v_subI, FL.v_neg, FL.v_lt, FL.v_le, FL.v_gt, FL.v_ge, FL.v_eqI, FL.v_neI, FL.v_eqS, FL.v_neS, FL.v_ixT, FL.v_ixD, FL.v_ixL, FL.v_ixS, FL.v_len, FL.v_lnT, FL.v_lnD, FL.v_lnL, FL.v_lnS, FL.v_abs, FL.v_max, FL.v_min, FL.v_int, FL.v_intB, FL.v_tuple, FL.v_list, FL.v_sqT, FL.v_sqD, FL.v_sqL, FL.v_itT, FL.v_itL, FL.v_itS, FL.v_isN, FL.v_notN, FL.v_setL, FL.v_setD, FL.v_kS, FL.v_kI, FL.v_mp, FL.v_mpn, FL.v_pO, FL.v_tupG, FL.v_gsC, FL.v_gsN, FL.v_slD, FL.v_at0, FL.v_at1, FL.v_at2, FL.v_i30, FL.v_i31, FL.v_i32, FL.v_Mv, FL.v_mvV, FL.v_pr, FL.v_wpN, FL.v_wpC, FL.v_wsN, FL.v_wsV, FL.v_wsO, FL.v_bkN, FL.v_bkC, FL.v_bsN, FL.v_bsI, FL.v_sf, FL.v_yes, FL.v_tupA, FL.v_imm, FL.v_aftN, FL.v_aftC, FL.v_aftB, FL.v_aftR, FL.v_iOp, FL.v_iLen, FL.v_dnin, FL.v_dninI, FL.v_disp1, FL.v_dispI, FL.v_mut0, FL.v_mulB, FL.v_lrg1, FL.v_trg1, FL.v_lrg2, FL.v_trg2, FL.v_fT, FL.v_rS, FL.v_rO, FL.v_plI, FL.v_plL, FL.v_plD, FL.v_plT, FL.v_vrN, FL.v_vrC, FL.v_isT, FL.callD, Option.bind_some, Option.bind_none, List.getElem?_cons_zero, List.getElem?_cons_succ, List.getElem?_nil, List.set_cons_zero, List.set_cons_succ, List.length_cons, List.length_nil, List.filterMap_cons, List.filterMap_nil, decide_eq_true_eq, if_true, if_false, true_and, and_true, Nat.reduceAdd, Nat.reduceLeDiff, Nat.reduceEqDiff, ↓reduceIte, Bool.false_eq_true, FL.startE, FL.backs, List.map_cons, List.map_nil, List.cons_append, List.nil_append, Nat.reduceSub, List.replicate_succ, List.replicate_zero, List.nodup_nil, List.nodup_cons, List.not_mem_nil, not_false_eq_true, and_self, reduceCtorEq, Option.map_some, Option.map_none, lenT_tab, lenT_row, e1, imms, k1, hr, e4, e3, e6, e5]

end WK

namespace WK
open PySem L2 FL
/-! ### the table of two numbers -/
/-- rows of ones and of small numbers, alike both ways -/
structure Se (G : Nat → Nat → Int) : Prop extends Sy G where
  sml : ∀ a b, ∃ w : Nat, w < 13 ∧ G a b = (w : Nat)
theorem Se.sm {n : Nat} {G : Nat → Nat → Int} (h : Se G) : Sm n G := fun i j _ _ => h.sml i j
theorem Se.upd2 {G : Nat → Nat → Int} (h : Se G) {i j : Nat} (hij : i ≠ j) {k : Int} (hk : ∃ w : Nat, w < 13 ∧ k = (w : Nat)) : Se (updG (updG G i j k) j i k) := by
  refine ⟨⟨fun a => ?_, fun a b => ?_⟩, fun a b => ?_⟩
  · have := h.one a
    unfold updG
    repeat' split <;> try omega
  · have := h.sym a b
    unfold updG
    repeat' split <;> try omega
  · have := h.sml a b
    unfold updG
    repeat' split
    all_goals first | exact hk | exact this
theorem even_inner (n : Nat) (l : List Int) (hl1 : l.length = 2) (hl2 : ∀ k ∈ l, ∃ w : Nat, w < 13 ∧ k = (w : Nat)) (j : Nat) (hj : j < n) (hn : n ≤ 8) (N : Int) (hN : N < 2 ^ 40) (t : Tr) (ht : Hd t N) (G : Nat → Nat → Int) (hG : Se G) (s6 : Option Tr)  :
    ∃ t' G' s6', forD (mName 5) B__law_even_1 (rangeD 0 j) [.par t, .val (.imm (.int n)), .val (stkT l), .val (rowsT n G), .val (.imm (.int j)), ov s6, .no] = some (.nx [.par t', .val (.imm (.int n)), .val (stkT l), .val (rowsT n G'), .val (.imm (.int j)), ov s6', .no]) ∧ Hd t' (N + 10) ∧ Se G' := by
  obtain ⟨E', e, t', G', s6', rfl, h0, h1⟩ := forD_inv (g := mName 5) (ms := B__law_even_1)
    (fun i E => ∃ t' G' s6', E = [.par t', .val (.imm (.int n)), .val (stkT l), .val (rowsT n G'), .val (.imm (.int j)), ov s6', .no] ∧ Hd t' (N + i) ∧ Se G') (rangeD 0 j)
    (fun i d E hi ⟨t1, G1, s1, hE, h0, h1⟩ => by
      obtain ⟨hij, rfl⟩ := rangeD_at hi
      rw [Int.zero_add]
      obtain ⟨r, t2, e1, r0, r1, ht2⟩ := take_hd h0 (by omega) 2 (by omega) (by omega)
      obtain ⟨x, e2, e3⟩ := atI_ofint (xs := l.map PyData.int) r0 (by rw [List.length_map, hl1]; omega)
      rw [List.getElem?_map] at e3
      obtain ⟨k, e4, rfl⟩ := Option.map_eq_some_iff.mp e3
      obtain ⟨x1, x2, x3, rfl⟩ := h0.lst
      have s1' := sub2_rows (G := G1) (k := k) (show i < n by omega) (show j < n by omega)
      have s2' := sub2_rows (G := updG G1 i j k) (k := k) (show j < n by omega) (show i < n by omega)
      have s3' := ix2_rows (i := 3) (fa := iAt 5) (fb := iAt 4) (E := [.par t2, .val (.imm (.int n)), .val (stkT l), .val (rowsT n (updG G1 i j k)), .val (.imm (.int j)), .val (.imm (.int i)), .no]) (G := updG G1 i j k) (n := n) (a := i) (b := j) (by omega) (by omega) rfl rfl rfl
      have s4' : updG G1 i j k i j = k := if_pos ⟨rfl, rfl⟩
      rw [s4'] at s3'
      refine ⟨[.par (.lst [x1, x2, x3]), .val (.imm (.int n)), .val (stkT l), .val (rowsT n G1), .val (.imm (.int j)), .val (.imm (.int i)), .no], [.par t2, .val (.imm (.int n)), .val (stkT l), .val (rowsT n (updG (updG G1 i j k) j i k)), .val (.imm (.int j)), .val (.imm (.int i)), .no], ?_, .inl ?_, t2, updG (updG G1 i j k) j i k, some (.imm (.int i)), rfl, ht2.le (by omega), h1.upd2 (by omega) (hl2 k (List.mem_of_getElem? e4))⟩
      · rw [hE]; simp -implicitDefEqProofs only [FL.v_seq, FL.v_thN, FL.v_thR, FL.v_thB, FL.v_thC, FL.v_ifS, FL.v_asg, FL.v_ret, FL.v_retN, FL.v_drop, FL.v_nx, FL.v_bk, FL.v_ct, FL.v_name, FL.v_pN, FL.v_pV, FL.v_var, FL.v_at, FL.v_trV, FL.v_trP, FL.v_wV, FL.v_wP, FL.v_C, FL.v_ER, FL.v_Fz, FL.v_fO, FL.v_fS, FL.v_fV, FL.v_fP, FL.v_fL, FL.v_vS, FL.v_vO, FL.v_op, FL.v_un, FL.v_bOf, FL.v_test, FL.v_and, FL.v_or, FL.v_not, FL.v_tru, FL.v_trB, FL.v_andV, FL.v_orV, FL.v_notV, FL.v_if, FL.v_chain, FL.v_arN, FL.v_arC, FL.v_faN, FL.v_faC, FL.v_tup, FL.v_lst, FL.v_tdN, FL.v_tdC, FL.v_tdI, FL.v_tdL, FL.toDs_imms, FL.imms_imms, FL.v_cb, FL.v_vsN, FL.v_vsC, FL.v_bm, FL.v_tyS, FL.v_tyL, FL.v_sl, FL.v_moN, FL.v_moS, FL.v_iOf, FL.v_call, FL.v_osO, FL.v_osS, FL.v_isI, FL.v_isL, FL.v_isD, FL.v_gN, FL.v_gO, FL.v_gS, FL.v_for, FL.v_lc, FL.v_sub, FL.v_sub2, FL.v_iAt, FL.v_iC, FL.v_aug, FL.v_par, FL.v_mut, FL.v_rng1, FL.v_rng2, FL.v_seqI, FL.v_enumE, FL.v_enumT, FL.v_enumL, FL.v_isi, FL.v_addI, FL.v_addS, FL.v_addT, FL.v_addL, FL.v_subI, FL.v_neg, FL.v_lt, FL.v_le, FL.v_gt, FL.v_ge, FL.v_eqI, FL.v_neI, FL.v_eqS, FL.v_neS, FL.v_ixT, FL.v_ixD, FL.v_ixL, FL.v_ixS, FL.v_len, FL.v_lnT, FL.v_lnD, FL.v_lnL, FL.v_lnS, FL.v_abs, FL.v_max, FL.v_min, FL.v_int, FL.v_intB, FL.v_tuple, FL.v_list, FL.v_sqT, FL.v_sqD, FL.v_sqL, FL.v_itT, FL.v_itL, FL.v_itS, FL.v_isN, FL.v_notN, FL.v_setL, FL.v_setD, FL.v_kS, FL.v_kI, FL.v_mp, FL.v_mpn, FL.v_pO, FL.v_tupG, FL.v_gsC, FL.v_gsN, FL.v_slD, FL.v_at0, FL.v_at1, FL.v_at2, FL.v_i30, FL.v_i31, FL.v_i32, FL.v_Mv, FL.v_mvV, FL.v_pr, FL.v_wpN, FL.v_wpC, FL.v_wsN, FL.v_wsV, FL.v_wsO, FL.v_bkN, FL.v_bkC, FL.v_bsN, FL.v_bsI, FL.v_sf, FL.v_yes, FL.v_tupA, FL.v_imm, FL.v_aftN, FL.v_aftC, FL.v_aftB, FL.v_aftR, FL.v_iOp, FL.v_iLen, FL.v_dnin, FL.v_dninI, FL.v_disp1, FL.v_dispI, FL.v_mut0, FL.v_mulB, FL.v_lrg1, FL.v_trg1, FL.v_lrg2, FL.v_trg2, FL.v_fT, FL.v_rS, FL.v_rO, FL.v_plI, FL.v_plL, FL.v_plD, FL.v_plT, FL.v_vrN, FL.v_vrC, FL.v_isT, FL.callD, Option.bind_some, Option.bind_none, List.getElem?_cons_zero, List.getElem?_cons_succ, List.getElem?_nil, List.set_cons_zero, List.set_cons_succ, List.length_cons, List.length_nil, List.filterMap_cons, List.filterMap_nil, decide_eq_true_eq, if_true, if_false, true_and, and_true, Nat.reduceAdd, Nat.reduceLeDiff, Nat.reduceEqDiff, ↓reduceIte, Bool.false_eq_true, FL.startE, FL.backs, List.map_cons, List.map_nil, List.cons_append, List.nil_append, Nat.reduceSub, List.replicate_succ, List.replicate_zero, List.nodup_nil, List.nodup_cons, List.not_mem_nil, not_false_eq_true, and_self, reduceCtorEq, Option.map_some, Option.map_none, lenT_tab, lenT_row]
      · unfold B__law_even_1
        unfold stkT at *
        simp -implicitDefEqProofs only [FL.v_seq, FL.v_thN, FL.v_thR, FL.v_thB, FL.v_thC, FL.v_ifS, FL.v_asg, FL.v_ret, FL.v_retN, FL.v_drop, FL.v_nx, FL.v_bk, FL.v_ct, FL.v_name, FL.v_pN, FL.v_pV, FL.v_var, FL.v_at, FL.v_trV, FL.v_trP, FL.v_wV, FL.v_wP, FL.v_C, FL.v_ER, FL.v_Fz, FL.v_fO, FL.v_fS, FL.v_fV, FL.v_fP, FL.v_fL, FL.v_vS, FL.v_vO, FL.v_op, FL.v_un, FL.v_bOf, FL.v_test, FL.v_and, FL.v_or, FL.v_not, FL.v_tru, FL.v_trB, FL.v_andV, FL.v_orV, FL.v_notV, FL.v_if, FL.v_chain, FL.v_arN, FL.v_arC, FL.v_faN, FL.v_faC, FL.v_tup, FL.v_lst, FL.v_tdN, FL.v_tdC, FL.v_tdI, FL.v_tdL, FL.toDs_imms, FL.imms_imms, FL.v_cb, FL.v_vsN, FL.v_vsC, FL.v_bm, FL.v_tyS, FL.v_tyL, FL.v_sl, FL.v_moN, FL.v_moS, FL.v_iOf, FL.v_call, FL.v_osO, FL.v_osS, FL.v_isI, FL.v_isL, FL.v_isD, FL.v_gN, FL.v_gO, FL.v_gS, FL.v_for, FL.v_lc, FL.v_sub, FL.v_sub2, FL.v_iAt, FL.v_iC, FL.v_aug, FL.v_par, FL.v_mut, FL.v_rng1, FL.v_rng2, FL.v_seqI, FL.v_enumE, FL.v_enumT, FL.v_enumL, FL.v_isi, FL.v_addI, FL.v_addS, FL.v_addT, FL.v_addL, FL.v_subI, FL.v_neg, FL.v_lt, FL.v_le, FL.v_gt, FL.v_ge, FL.v_eqI, FL.v_neI, FL.v_eqS, FL.v_neS, FL.v_ixT, FL.v_ixD, FL.v_ixL, FL.v_ixS, FL.v_len, FL.v_lnT, FL.v_lnD, FL.v_lnL, FL.v_lnS, FL.v_abs, FL.v_max, FL.v_min, FL.v_int, FL.v_intB, FL.v_tuple, FL.v_list, FL.v_sqT, FL.v_sqD, FL.v_sqL, FL.v_itT, FL.v_itL, FL.v_itS, FL.v_isN, FL.v_notN, FL.v_setL, FL.v_setD, FL.v_kS, FL.v_kI, FL.v_mp, FL.v_mpn, FL.v_pO, FL.v_tupG, FL.v_gsC, FL.v_gsN, FL.v_slD, FL.v_at0, FL.v_at1, FL.v_at2, FL.v_i30, FL.v_i31, FL.v_i32, FL.v_Mv, FL.v_mvV, FL.v_pr, FL.v_wpN, FL.v_wpC, FL.v_wsN, FL.v_wsV, FL.v_wsO, FL.v_bkN, FL.v_bkC, FL.v_bsN, FL.v_bsI, FL.v_sf, FL.v_yes, FL.v_tupA, FL.v_imm, FL.v_aftN, FL.v_aftC, FL.v_aftB, FL.v_aftR, FL.v_iOp, FL.v_iLen, FL.v_dnin, FL.v_dninI, FL.v_disp1, FL.v_dispI, FL.v_mut0, FL.v_mulB, FL.v_lrg1, FL.v_trg1, FL.v_lrg2, FL.v_trg2, FL.v_fT, FL.v_rS, FL.v_rO, FL.v_plI, FL.v_plL, FL.v_plD, FL.v_plT, FL.v_vrN, FL.v_vrC, FL.v_isT, FL.callD, Option.bind_some, Option.bind_none, List.getElem?_cons_zero, List.getElem?_cons_succ, List.getElem?_nil, List.set_cons_zero, List.set_cons_succ, List.length_cons, List.length_nil, List.filterMap_cons, List.filterMap_nil, decide_eq_true_eq, if_true, if_false, true_and, and_true, Nat.reduceAdd, Nat.reduceLeDiff, Nat.reduceEqDiff, ↓reduceIte, Bool.false_eq_true, FL.startE, FL.backs, List.map_cons, List.map_nil, List.cons_append, List.nil_append, Nat.reduceSub, List.replicate_succ, List.replicate_zero, List.nodup_nil, List.nodup_cons, List.not_mem_nil, not_false_eq_true, and_self, reduceCtorEq, Option.map_some, Option.map_none, lenT_tab, lenT_row, List.length_map, e1, e2, s1', s2', s3'])
    [.par t, .val (.imm (.int n)), .val (stkT l), .val (rowsT n G), .val (.imm (.int j)), ov s6, .no] ⟨t, G, s6, rfl, ht.le (by omega), hG⟩
  rw [rangeD_len] at h0
  exact ⟨t', G', s6', e, h0.le (by omega), h1⟩
theorem even_outer (n : Nat) (l : List Int) (hl1 : l.length = 2) (hl2 : ∀ k ∈ l, ∃ w : Nat, w < 13 ∧ k = (w : Nat)) (hn : n ≤ 8) (N : Int) (hN : N < 2 ^ 39) (t : Tr) (ht : Hd t N)  :
    ∃ t' G' s5' s6', forD (mName 4) B__law_even_2 (rangeD 0 n) [.par t, .val (.imm (.int n)), .val (stkT l), .val (rowsT n fun _ _ => 1), .no, .no, .no] = some (.nx [.par t', .val (.imm (.int n)), .val (stkT l), .val (rowsT n G'), ov s5', ov s6', .no]) ∧ Hd t' (N + 80) ∧ Se G' := by
  obtain ⟨E', e, t', G', s5', s6', rfl, h0, h1⟩ := forD_inv (g := mName 4) (ms := B__law_even_2)
    (fun j E => ∃ t' G' s5' s6', E = [.par t', .val (.imm (.int n)), .val (stkT l), .val (rowsT n G'), ov s5', ov s6', .no] ∧ Hd t' (N + 10 * j) ∧ Se G') (rangeD 0 n)
    (fun j d E hi ⟨t1, G1, s5, s6, hE, h0, h1⟩ => by
      obtain ⟨hij, rfl⟩ := rangeD_at hi
      rw [Int.zero_add]
      obtain ⟨t2, G2, s6', e1, ht2, h2⟩ := even_inner n l hl1 hl2 j hij hn (N + 10 * j) (by omega) t1 h0 G1 h1 s6
      have hr := fun E => v_rgN (n := j) (by omega) (E := E)
      refine ⟨[.par t1, .val (.imm (.int n)), .val (stkT l), .val (rowsT n G1), .val (.imm (.int j)), ov s6, .no], [.par t2, .val (.imm (.int n)), .val (stkT l), .val (rowsT n G2), .val (.imm (.int j)), ov s6', .no], ?_, .inl ?_, t2, G2, some (.imm (.int j)), s6', rfl, ht2.le (by omega), h2⟩
      · rw [hE]; simp -implicitDefEqProofs only [FL.v_seq, FL.v_thN, FL.v_thR, FL.v_thB, FL.v_thC, FL.v_ifS, FL.v_asg, FL.v_ret, FL.v_retN, FL.v_drop, FL.v_nx, FL.v_bk, FL.v_ct, FL.v_name, FL.v_pN, FL.v_pV, FL.v_var, FL.v_at, FL.v_trV, FL.v_trP, FL.v_wV, FL.v_wP, FL.v_C, FL.v_ER, FL.v_Fz, FL.v_fO, FL.v_fS, FL.v_fV, FL.v_fP, FL.v_fL, FL.v_vS, FL.v_vO, FL.v_op, FL.v_un, FL.v_bOf, FL.v_test, FL.v_and, FL.v_or, FL.v_not, FL.v_tru, FL.v_trB, FL.v_andV, FL.v_orV, FL.v_notV, FL.v_if, FL.v_chain, FL.v_arN, FL.v_arC, FL.v_faN, FL.v_faC, FL.v_tup, FL.v_lst, FL.v_tdN, FL.v_tdC, FL.v_tdI, FL.v_tdL, FL.toDs_imms, FL.imms_imms, FL.v_cb, FL.v_vsN, FL.v_vsC, FL.v_bm, FL.v_tyS, FL.v_tyL, FL.v_sl, FL.v_moN, FL.v_moS, FL.v_iOf, FL.v_call, FL.v_osO, FL.v_osS, FL.v_isI, FL.v_isL, FL.v_isD, FL.v_gN, FL.v_gO, FL.v_gS, FL.v_for, FL.v_lc, FL.v_sub, FL.v_sub2, FL.v_iAt, FL.v_iC, FL.v_aug, FL.v_par, FL.v_mut, FL.v_rng1, FL.v_rng2, FL.v_seqI, FL.v_enumE, FL.v_enumT, FL.v_enumL, FL.v_isi, FL.v_addI, FL.v_addS, FL.v_addT, FL.v_addL, FL.v_subI, FL.v_neg, FL.v_lt, FL.v_le, FL.v_gt, FL.v_ge, FL.v_eqI, FL.v_neI, FL.v_eqS, FL.v_neS, FL.v_ixT, FL.v_ixD, FL.v_ixL, FL.v_ixS, FL.v_len, FL.v_lnT, FL.v_lnD, FL.v_lnL, FL.v_lnS, FL.v_abs, FL.v_max, FL.v_min, FL.v_int, FL.v_intB, FL.v_tuple, FL.v_list, FL.v_sqT, FL.v_sqD, FL.v_sqL, FL.v_itT, FL.v_itL, FL.v_itS, FL.v_isN, FL.v_notN, FL.v_setL, FL.v_setD, FL.v_kS, FL.v_kI, FL.v_mp, FL.v_mpn, FL.v_pO, FL.v_tupG, FL.v_gsC, FL.v_gsN, FL.v_slD, FL.v_at0, FL.v_at1, FL.v_at2, FL.v_i30, FL.v_i31, FL.v_i32, FL.v_Mv, FL.v_mvV, FL.v_pr, FL.v_wpN, FL.v_wpC, FL.v_wsN, FL.v_wsV, FL.v_wsO, FL.v_bkN, FL.v_bkC, FL.v_bsN, FL.v_bsI, FL.v_sf, FL.v_yes, FL.v_tupA, FL.v_imm, FL.v_aftN, FL.v_aftC, FL.v_aftB, FL.v_aftR, FL.v_iOp, FL.v_iLen, FL.v_dnin, FL.v_dninI, FL.v_disp1, FL.v_dispI, FL.v_mut0, FL.v_mulB, FL.v_lrg1, FL.v_trg1, FL.v_lrg2, FL.v_trg2, FL.v_fT, FL.v_rS, FL.v_rO, FL.v_plI, FL.v_plL, FL.v_plD, FL.v_plT, FL.v_vrN, FL.v_vrC, FL.v_isT, FL.callD, Option.bind_some, Option.bind_none, List.getElem?_cons_zero, List.getElem?_cons_succ, List.getElem?_nil, List.set_cons_zero, List.set_cons_succ, List.length_cons, List.length_nil, List.filterMap_cons, List.filterMap_nil, decide_eq_true_eq, if_true, if_false, true_and, and_true, Nat.reduceAdd, Nat.reduceLeDiff, Nat.reduceEqDiff, ↓reduceIte, Bool.false_eq_true, FL.startE, FL.backs, List.map_cons, List.map_nil, List.cons_append, List.nil_append, Nat.reduceSub, List.replicate_succ, List.replicate_zero, List.nodup_nil, List.nodup_cons, List.not_mem_nil, not_false_eq_true, and_self, reduceCtorEq, Option.map_some, Option.map_none, lenT_tab, lenT_row]
      · unfold B__law_even_2
        simp -implicitDefEqProofs only [FL.v_seq, FL.v_thN, FL.v_thR, FL.v_thB, FL.v_thC, FL.v_ifS, FL.v_asg, FL.v_ret, FL.v_retN, FL.v_drop, FL.v_nx, FL.v_bk, FL.v_ct, FL.v_name, FL.v_pN, FL.v_pV, FL.v_var, FL.v_at, FL.v_trV, FL.v_trP, FL.v_wV, FL.v_wP, FL.v_C, FL.v_ER, FL.v_Fz, FL.v_fO, FL.v_fS, FL.v_fV, FL.v_fP, FL.v_fL, FL.v_vS, FL.v_vO, FL.v_op, FL.v_un, FL.v_bOf, FL.v_test, FL.v_and, FL.v_or, FL.v_not, FL.v_tru, FL.v_trB, FL.v_andV, FL.v_orV, FL.v_notV, FL.v_if, FL.v_chain, FL.v_arN, FL.v_arC, FL.v_faN, FL.v_faC, FL.v_tup, FL.v_lst, FL.v_tdN, FL.v_tdC, FL.v_tdI, FL.v_tdL, FL.toDs_imms, FL.imms_imms, FL.v_cb, FL.v_vsN, FL.v_vsC, FL.v_bm, FL.v_tyS, FL.v_tyL, FL.v_sl, FL.v_moN, FL.v_moS, FL.v_iOf, FL.v_call, FL.v_osO, FL.v_osS, FL.v_isI, FL.v_isL, FL.v_isD, FL.v_gN, FL.v_gO, FL.v_gS, FL.v_for, FL.v_lc, FL.v_sub, FL.v_sub2, FL.v_iAt, FL.v_iC, FL.v_aug, FL.v_par, FL.v_mut, FL.v_rng1, FL.v_rng2, FL.v_seqI, FL.v_enumE, FL.v_enumT, FL.v_enumL, FL.v_isi, FL.v_addI, FL.v_addS, FL.v_addT, FL.v_addL, FL.v_subI, FL.v_neg, FL.v_lt, FL.v_le, FL.v_gt, FL.v_ge, FL.v_eqI, FL.v_neI, FL.v_eqS, FL.v_neS, FL.v_ixT, FL.v_ixD, FL.v_ixL, FL.v_ixS, FL.v_len, FL.v_lnT, FL.v_lnD, FL.v_lnL, FL.v_lnS, FL.v_abs, FL.v_max, FL.v_min, FL.v_int, FL.v_intB, FL.v_tuple, FL.v_list, FL.v_sqT, FL.v_sqD, FL.v_sqL, FL.v_itT, FL.v_itL, FL.v_itS, FL.v_isN, FL.v_notN, FL.v_setL, FL.v_setD, FL.v_kS, FL.v_kI, FL.v_mp, FL.v_mpn, FL.v_pO, FL.v_tupG, FL.v_gsC, FL.v_gsN, FL.v_slD, FL.v_at0, FL.v_at1, FL.v_at2, FL.v_i30, FL.v_i31, FL.v_i32, FL.v_Mv, FL.v_mvV, FL.v_pr, FL.v_wpN, FL.v_wpC, FL.v_wsN, FL.v_wsV, FL.v_wsO, FL.v_bkN, FL.v_bkC, FL.v_bsN, FL.v_bsI, FL.v_sf, FL.v_yes, FL.v_tupA, FL.v_imm, FL.v_aftN, FL.v_aftC, FL.v_aftB, FL.v_aftR, FL.v_iOp, FL.v_iLen, FL.v_dnin, FL.v_dninI, FL.v_disp1, FL.v_dispI, FL.v_mut0, FL.v_mulB, FL.v_lrg1, FL.v_trg1, FL.v_lrg2, FL.v_trg2, FL.v_fT, FL.v_rS, FL.v_rO, FL.v_plI, FL.v_plL, FL.v_plD, FL.v_plT, FL.v_vrN, FL.v_vrC, FL.v_isT, FL.callD, Option.bind_some, Option.bind_none, List.getElem?_cons_zero, List.getElem?_cons_succ, List.getElem?_nil, List.set_cons_zero, List.set_cons_succ, List.length_cons, List.length_nil, List.filterMap_cons, List.filterMap_nil, decide_eq_true_eq, if_true, if_false, true_and, and_true, Nat.reduceAdd, Nat.reduceLeDiff, Nat.reduceEqDiff, ↓reduceIte, Bool.false_eq_true, FL.startE, FL.backs, List.map_cons, List.map_nil, List.cons_append, List.nil_append, Nat.reduceSub, List.replicate_succ, List.replicate_zero, List.nodup_nil, List.nodup_cons, List.not_mem_nil, not_false_eq_true, and_self, reduceCtorEq, Option.map_some, Option.map_none, lenT_tab, lenT_row, hr, Int.toNat_natCast, e1])
    [.par t, .val (.imm (.int n)), .val (stkT l), .val (rowsT n fun _ _ => 1), .no, .no, .no] ⟨t, _, none, none, rfl, ht.le (by omega), ⟨⟨fun _ => rfl, fun _ _ => rfl⟩, fun _ _ => ⟨1, by decide, rfl⟩⟩⟩
  rw [rangeD_len] at h0
  exact ⟨t', G', s5', s6', e, h0.le (by omega), h1⟩
def pairN : List (List Int) := [[2, 3], [3, 0], [2, 4], [3, 3], [2, 0], [5, 5]]
theorem pair_ok : ∀ l ∈ pairN, l.length = 2 ∧ ∀ k ∈ l, 0 ≤ k ∧ k < 13 := by decide
theorem pair_at {r : Int} (h0 : 0 ≤ r) (h1 : r < 6) : ∃ l : List Int, atI (pairN.map stkT) r = some (stkT l) ∧ l.length = 2 ∧ ∀ k ∈ l, ∃ w : Nat, w < 13 ∧ k = (w : Nat) := by
  obtain ⟨x, e1, e2⟩ := atI_ofint (xs := pairN.map stkT) h0 h1
  rw [List.getElem?_map] at e2
  obtain ⟨l, e3, rfl⟩ := Option.map_eq_some_iff.mp e2
  obtain ⟨p1, p2⟩ := pair_ok l (List.mem_of_getElem? e3)
  exact ⟨l, e1, p1, fun k hk => ⟨k.toNat, by have := p2 k hk; omega, by have := p2 k hk; omega⟩⟩
theorem even_one (n : Nat) (hn : n ≤ 8) (t : Tr) (N : Int) (hN : N < 2 ^ 38) (ht : Hd t N) :
    ∃ t' G, mFn 7 m__law_even [t, .imm (.int n)] = some (.imm (tabD n G), [t', .imm (.int n)]) ∧ Hd t' (N + 81) ∧ Se G := by
  obtain ⟨r, t1, e1, r0, r1, ht1⟩ := take_hd ht (by omega) 6 (by decide) (by decide)
  obtain ⟨l, e2, hl1, hl2⟩ := pair_at r0 r1
  obtain ⟨t2, G, s5, s6, e3, ht2, hG⟩ := even_outer n l hl1 hl2 hn (N + 1) (by omega) t1 ht1
  have hr := fun E => v_rgN (n := n) (by omega) (E := E)
  have hm := v_mul1 (d := .int 1) (k := (n : Int)) (by omega) (by omega)
  rw [Int.toNat_natCast] at hm
  have e4 := lcD_map (g := mName 5) (m := X__law_even_1) (vs := [5]) (E := [.par t1, .val (.imm (.int n)), .val (stkT l), .no, .no, .no, .no]) (fun _ => Tr.lst ((List.replicate n (PyData.int 1)).map Tr.imm)) (rangeD 0 n) (fun d _ => ⟨[.par t1, .val (.imm (.int n)), .val (stkT l), .no, .no, .val (.imm d), .no], [.par t1, .val (.imm (.int n)), .val (stkT l), .no, .no, .val (.imm d), .no], by simp -implicitDefEqProofs only [FL.v_seq, FL.v_thN, FL.v_thR, FL.v_thB, FL.v_thC, FL.v_ifS, FL.v_asg, FL.v_ret, FL.v_retN, FL.v_drop, FL.v_nx, FL.v_bk, FL.v_ct, FL.v_name, FL.v_pN, FL.v_pV, FL.v_var, FL.v_at, FL.v_trV, FL.v_trP, FL.v_wV, FL.v_wP, FL.v_C, FL.v_ER, FL.v_Fz, FL.v_fO, FL.v_fS, FL.v_fV, FL.v_fP, FL.v_fL, FL.v_vS, FL.v_vO, FL.v_op, FL.v_un, FL.v_bOf, FL.v_test, FL.v_and, FL.v_or, FL.v_not, FL.v_tru, FL.v_trB, FL.v_andV, FL.v_orV, FL.v_notV, FL.v_if, FL.v_chain, FL.v_arN, FL.v_arC, FL.v_faN, FL.v_faC, FL.v_tup, FL.v_lst, FL.v_tdN, FL.v_tdC, FL.v_tdI, FL.v_tdL, FL.toDs_imms, FL.imms_imms, FL.v_cb, FL.v_vsN, FL.v_vsC, FL.v_bm, FL.v_tyS, FL.v_tyL, FL.v_sl, FL.v_moN, FL.v_moS, FL.v_iOf, FL.v_call, FL.v_osO, FL.v_osS, FL.v_isI, FL.v_isL, FL.v_isD, FL.v_gN, FL.v_gO, FL.v_gS, FL.v_for, FL.v_lc, FL.v_sub, FL.v_sub2, FL.v_iAt, FL.v_iC, FL.v_aug, FL.v_par, FL.v_mut, FL.v_rng1, FL.v_rng2, FL.v_seqI, FL.v_enumE, FL.v_enumT, FL.v_enumL, FL.v_isi, FL.v_addI, FL.v_addS, FL.v_addT, FL.v_addL, FL.v_subI, FL.v_neg, FL.v_lt, FL.v_le, FL.v_gt, FL.v_ge, FL.v_eqI, FL.v_neI, FL.v_eqS, FL.v_neS, FL.v_ixT, FL.v_ixD, FL.v_ixL, FL.v_ixS, FL.v_len, FL.v_lnT, FL.v_lnD, FL.v_lnL, FL.v_lnS, FL.v_abs, FL.v_max, FL.v_min, FL.v_int, FL.v_intB, FL.v_tuple, FL.v_list, FL.v_sqT, FL.v_sqD, FL.v_sqL, FL.v_itT, FL.v_itL, FL.v_itS, FL.v_isN, FL.v_notN, FL.v_setL, FL.v_setD, FL.v_kS, FL.v_kI, FL.v_mp, FL.v_mpn, FL.v_pO, FL.v_tupG, FL.v_gsC, FL.v_gsN, FL.v_slD, FL.v_at0, FL.v_at1, FL.v_at2, FL.v_i30, FL.v_i31, FL.v_i32, FL.v_Mv, FL.v_mvV, FL.v_pr, FL.v_wpN, FL.v_wpC, FL.v_wsN, FL.v_wsV, FL.v_wsO, FL.v_bkN, FL.v_bkC, FL.v_bsN, FL.v_bsI, FL.v_sf, FL.v_yes, FL.v_tupA, FL.v_imm, FL.v_aftN, FL.v_aftC, FL.v_aftB, FL.v_aftR, FL.v_iOp, FL.v_iLen, FL.v_dnin, FL.v_dninI, FL.v_disp1, FL.v_dispI, FL.v_mut0, FL.v_mulB, FL.v_lrg1, FL.v_trg1, FL.v_lrg2, FL.v_trg2, FL.v_fT, FL.v_rS, FL.v_rO, FL.v_plI, FL.v_plL, FL.v_plD, FL.v_plT, FL.v_vrN, FL.v_vrC, FL.v_isT, FL.callD, Option.bind_some, Option.bind_none, List.getElem?_cons_zero, List.getElem?_cons_succ, List.getElem?_nil, List.set_cons_zero, List.set_cons_succ, List.length_cons, List.length_nil, List.filterMap_cons, List.filterMap_nil, decide_eq_true_eq, if_true, if_false, true_and, and_true, Nat.reduceAdd, Nat.reduceLeDiff, Nat.reduceEqDiff, ↓reduceIte, Bool.false_eq_true, FL.startE, FL.backs, List.map_cons, List.map_nil, List.cons_append, List.nil_append, Nat.reduceSub, List.replicate_succ, List.replicate_zero, List.nodup_nil, List.nodup_cons, List.not_mem_nil, not_false_eq_true, and_self, reduceCtorEq, Option.map_some, Option.map_none, lenT_tab, lenT_row], by unfold X__law_even_1; simp -implicitDefEqProofs only [FL.v_seq, FL.v_thN, FL.v_thR, FL.v_thB, FL.v_thC, FL.v_ifS, FL.v_asg, FL.v_ret, FL.v_retN, FL.v_drop, FL.v_nx, FL.v_bk, FL.v_ct, FL.v_name, FL.v_pN, FL.v_pV, FL.v_var, FL.v_at, FL.v_trV, FL.v_trP, FL.v_wV, FL.v_wP, FL.v_C, FL.v_ER, FL.v_Fz, FL.v_fO, FL.v_fS, FL.v_fV, FL.v_fP, FL.v_fL, FL.v_vS, FL.v_vO, FL.v_op, FL.v_un, FL.v_bOf, FL.v_test, FL.v_and, FL.v_or, FL.v_not, FL.v_tru, FL.v_trB, FL.v_andV, FL.v_orV, FL.v_notV, FL.v_if, FL.v_chain, FL.v_arN, FL.v_arC, FL.v_faN, FL.v_faC, FL.v_tup, FL.v_lst, FL.v_tdN, FL.v_tdC, FL.v_tdI, FL.v_tdL, FL.toDs_imms, FL.imms_imms, FL.v_cb, FL.v_vsN, FL.v_vsC, FL.v_bm, FL.v_tyS, FL.v_tyL, FL.v_sl, FL.v_moN, FL.v_moS, FL.v_iOf, FL.v_call, FL.v_osO, FL.v_osS, FL.v_isI, FL.v_isL, FL.v_isD, FL.v_gN, FL.v_gO, FL.v_gS, FL.v_for, FL.v_lc, FL.v_sub, FL.v_sub2, FL.v_iAt, FL.v_iC, FL.v_aug, FL.v_par, FL.v_mut, FL.v_rng1, FL.v_rng2, FL.v_seqI, FL.v_enumE, FL.v_enumT, FL.v_enumL, FL.v_isi, FL.v_addI, FL.v_addS, FL.v_addT, FL.v_addL, FL.v_subI, FL.v_neg, FL.v_lt, FL.v_le, FL.v_gt, FL.v_ge, FL.v_eqI, FL.v_neI, FL.v_eqS, FL.v_neS, FL.v_ixT, FL.v_ixD, FL.v_ixL, FL.v_ixS, FL.v_len, FL.v_lnT, FL.v_lnD, FL.v_lnL, FL.v_lnS, FL.v_abs, FL.v_max, FL.v_min, FL.v_int, FL.v_intB, FL.v_tuple, FL.v_list, FL.v_sqT, FL.v_sqD, FL.v_sqL, FL.v_itT, FL.v_itL, FL.v_itS, FL.v_isN, FL.v_notN, FL.v_setL, FL.v_setD, FL.v_kS, FL.v_kI, FL.v_mp, FL.v_mpn, FL.v_pO, FL.v_tupG, FL.v_gsC, FL.v_gsN, FL.v_slD, FL.v_at0, FL.v_at1, FL.v_at2, FL.v_i30, FL.v_i31, FL.v_i32, FL.v_Mv, FL.v_mvV, FL.v_pr, FL.v_wpN, FL.v_wpC, FL.v_wsN, FL.v_wsV, FL.v_wsO, FL.v_bkN, FL.v_bkC, FL.v_bsN, FL.v_bsI, FL.v_sf, FL.v_yes, FL.v_tupA, FL.v_imm, FL.v_aftN, FL.v_aftC, FL.v_aftB, FL.v_aftR, FL.v_iOp, FL.v_iLen, FL.v_dnin, FL.v_dninI, FL.v_disp1, FL.v_dispI, FL.v_mut0, FL.v_mulB, FL.v_lrg1, FL.v_trg1, FL.v_lrg2, FL.v_trg2, FL.v_fT, FL.v_rS, FL.v_rO, FL.v_plI, FL.v_plL, FL.v_plD, FL.v_plT, FL.v_vrN, FL.v_vrC, FL.v_isT, FL.callD, Option.bind_some, Option.bind_none, List.getElem?_cons_zero, List.getElem?_cons_succ, List.getElem?_nil, List.set_cons_zero, List.set_cons_succ, List.length_cons, List.length_nil, List.filterMap_cons, List.filterMap_nil, decide_eq_true_eq, if_true, if_false, true_and, and_true, Nat.reduceAdd, Nat.reduceLeDiff, Nat.reduceEqDiff, ↓reduceIte, Bool.false_eq_true, FL.startE, FL.backs, List.map_cons, List.map_nil, List.cons_append, List.nil_append, Nat.reduceSub, List.replicate_succ, List.replicate_zero, List.nodup_nil, List.nodup_cons, List.not_mem_nil, not_false_eq_true, and_self, reduceCtorEq, Option.map_some, Option.map_none, lenT_tab, lenT_row, hm, show (1 ≤ 16777216) = True from eq_true (by decide)], rfl⟩) [] (by rw [rangeD_len]; simp; omega)
  rw [rows_start, List.nil_append] at e4
  have e5 := lcD_map (g := mName 6) (m := X__law_even_2) (vs := [6]) (E := [.par t2, .val (.imm (.int n)), .val (stkT l), .val (.imm (.list ((List.range n).map fun i => PyData.list ((List.range n).map fun j => PyData.int (G i j))))), ov s5, ov s6, .no]) tupOf ((List.range n).map fun i => PyData.list ((List.range n).map fun j => PyData.int (G i j))) (fun d hd => by
      obtain ⟨i, -, rfl⟩ := List.mem_map.mp hd
      exact ⟨_, _, by simp -implicitDefEqProofs only [FL.v_seq, FL.v_thN, FL.v_thR, FL.v_thB, FL.v_thC, FL.v_ifS, FL.v_asg, FL.v_ret, FL.v_retN, FL.v_drop, FL.v_nx, FL.v_bk, FL.v_ct, FL.v_name, FL.v_pN, FL.v_pV, FL.v_var, FL.v_at, FL.v_trV, FL.v_trP, FL.v_wV, FL.v_wP, FL.v_C, FL.v_ER, FL.v_Fz, FL.v_fO, FL.v_fS, FL.v_fV, FL.v_fP, FL.v_fL, FL.v_vS, FL.v_vO, FL.v_op, FL.v_un, FL.v_bOf, FL.v_test, FL.v_and, FL.v_or, FL.v_not, FL.v_tru, FL.v_trB, FL.v_andV, FL.v_orV, FL.v_notV, FL.v_if, FL.v_chain, FL.v_arN, FL.v_arC, FL.v_faN, FL.v_faC, FL.v_tup, FL.v_lst, FL.v_tdN, FL.v_tdC, FL.v_tdI, FL.v_tdL, FL.toDs_imms, FL.imms_imms, FL.v_cb, FL.v_vsN, FL.v_vsC, FL.v_bm, FL.v_tyS, FL.v_tyL, FL.v_sl, FL.v_moN, FL.v_moS, FL.v_iOf, FL.v_call, FL.v_osO, FL.v_osS, FL.v_isI, FL.v_isL, FL.v_isD, FL.v_gN, FL.v_gO, FL.v_gS, FL.v_for, FL.v_lc, FL.v_sub, FL.v_sub2, FL.v_iAt, FL.v_iC, FL.v_aug, FL.v_par, FL.v_mut, FL.v_rng1, FL.v_rng2, FL.v_seqI, FL.v_enumE, FL.v_enumT, FL.v_enumL, FL.v_isi, FL.v_addI, FL.v_addS, FL.v_addT, FL.v_addL, FL.v_subI, FL.v_neg, FL.v_lt, FL.v_le, FL.v_gt, FL.v_ge, FL.v_eqI, FL.v_neI, FL.v_eqS, FL.v_neS, FL.v_ixT, FL.v_ixD, FL.v_ixL, FL.v_ixS, FL.v_len, FL.v_lnT, FL.v_lnD, FL.v_lnL, FL.v_lnS, FL.v_abs, FL.v_max, FL.v_min, FL.v_int, FL.v_intB, FL.v_tuple, FL.v_list, FL.v_sqT, FL.v_sqD, FL.v_sqL, FL.v_itT, FL.v_itL, FL.v_itS, FL.v_isN, FL.v_notN, FL.v_setL, FL.v_setD, FL.v_kS, FL.v_kI, FL.v_mp, FL.v_mpn, FL.v_pO, FL.v_tupG, FL.v_gsC, FL.v_gsN, FL.v_slD, FL.v_at0, FL.v_at1, FL.v_at2, FL.v_i30, FL.v_i31, FL.v_i32, FL.v_Mv, FL.v_mvV, FL.v_pr, FL.v_wpN, FL.v_wpC, FL.v_wsN, FL.v_wsV, FL.v_wsO, FL.v_bkN, FL.v_bkC, FL.v_bsN, FL.v_bsI, FL.v_sf, FL.v_yes, FL.v_tupA, FL.v_imm, FL.v_aftN, FL.v_aftC, FL.v_aftB, FL.v_aftR, FL.v_iOp, FL.v_iLen, FL.v_dnin, FL.v_dninI, FL.v_disp1, FL.v_dispI, FL.v_mut0, FL.v_mulB, FL.v_lrg1, FL.v_trg1, FL.v_lrg2, FL.v_trg2, FL.v_fT, FL.v_rS, FL.v_rO, FL.v_plI, FL.v_plL, FL.v_plD, FL.v_plT, FL.v_vrN, FL.v_vrC, FL.v_isT, FL.callD, Option.bind_some, Option.bind_none, List.getElem?_cons_zero, List.getElem?_cons_succ, List.getElem?_nil, List.set_cons_zero, List.set_cons_succ, List.length_cons, List.length_nil, List.filterMap_cons, List.filterMap_nil, decide_eq_true_eq, if_true, if_false, true_and, and_true, Nat.reduceAdd, Nat.reduceLeDiff, Nat.reduceEqDiff, ↓reduceIte, Bool.false_eq_true, FL.startE, FL.backs, List.map_cons, List.map_nil, List.cons_append, List.nil_append, Nat.reduceSub, List.replicate_succ, List.replicate_zero, List.nodup_nil, List.nodup_cons, List.not_mem_nil, not_false_eq_true, and_self, reduceCtorEq, Option.map_some, Option.map_none, lenT_tab, lenT_row]; rfl, by unfold X__law_even_2; simp -implicitDefEqProofs only [FL.v_seq, FL.v_thN, FL.v_thR, FL.v_thB, FL.v_thC, FL.v_ifS, FL.v_asg, FL.v_ret, FL.v_retN, FL.v_drop, FL.v_nx, FL.v_bk, FL.v_ct, FL.v_name, FL.v_pN, FL.v_pV, FL.v_var, FL.v_at, FL.v_trV, FL.v_trP, FL.v_wV, FL.v_wP, FL.v_C, FL.v_ER, FL.v_Fz, FL.v_fO, FL.v_fS, FL.v_fV, FL.v_fP, FL.v_fL, FL.v_vS, FL.v_vO, FL.v_op, FL.v_un, FL.v_bOf, FL.v_test, FL.v_and, FL.v_or, FL.v_not, FL.v_tru, FL.v_trB, FL.v_andV, FL.v_orV, FL.v_notV, FL.v_if, FL.v_chain, FL.v_arN, FL.v_arC, FL.v_faN, FL.v_faC, FL.v_tup, FL.v_lst, FL.v_tdN, FL.v_tdC, FL.v_tdI, FL.v_tdL, FL.toDs_imms, FL.imms_imms, FL.v_cb, FL.v_vsN, FL.v_vsC, FL.v_bm, FL.v_tyS, FL.v_tyL, FL.v_sl, FL.v_moN, FL.v_moS, FL.v_iOf, FL.v_call, FL.v_osO, FL.v_osS, FL.v_isI, FL.v_isL, FL.v_isD, FL.v_gN, FL.v_gO, FL.v_gS, FL.v_for, FL.v_lc, FL.v_sub, FL.v_sub2, FL.v_iAt, FL.v_iC, FL.v_aug, FL.v_par, FL.v_mut, FL.v_rng1, FL.v_rng2, FL.v_seqI, FL.v_enumE, FL.v_enumT, FL.v_enumL, FL.v_isi, FL.v_addI, FL.v_addS, FL.v_addT, FL.v_addL, FL.v_subI, FL.v_neg, FL.v_lt, FL.v_le, FL.v_gt, FL.v_ge, FL.v_eqI, FL.v_neI, FL.v_eqS, FL.v_neS, FL.v_ixT, FL.v_ixD, FL.v_ixL, FL.v_ixS, FL.v_len, FL.v_lnT, FL.v_lnD, FL.v_lnL, FL.v_lnS, FL.v_abs, FL.v_max, FL.v_min, FL.v_int, FL.v_intB, FL.v_tuple, FL.v_list, FL.v_sqT, FL.v_sqD, FL.v_sqL, FL.v_itT, FL.v_itL, FL.v_itS, FL.v_isN, FL.v_notN, FL.v_setL, FL.v_setD, FL.v_kS, FL.v_kI, FL.v_mp, FL.v_mpn, FL.v_pO, FL.v_tupG, FL.v_gsC, FL.v_gsN, FL.v_slD, FL.v_at0, FL.v_at1, FL.v_at2, FL.v_i30, FL.v_i31, FL.v_i32, FL.v_Mv, FL.v_mvV, FL.v_pr, FL.v_wpN, FL.v_wpC, FL.v_wsN, FL.v_wsV, FL.v_wsO, FL.v_bkN, FL.v_bkC, FL.v_bsN, FL.v_bsI, FL.v_sf, FL.v_yes, FL.v_tupA, FL.v_imm, FL.v_aftN, FL.v_aftC, FL.v_aftB, FL.v_aftR, FL.v_iOp, FL.v_iLen, FL.v_dnin, FL.v_dninI, FL.v_disp1, FL.v_dispI, FL.v_mut0, FL.v_mulB, FL.v_lrg1, FL.v_trg1, FL.v_lrg2, FL.v_trg2, FL.v_fT, FL.v_rS, FL.v_rO, FL.v_plI, FL.v_plL, FL.v_plD, FL.v_plT, FL.v_vrN, FL.v_vrC, FL.v_isT, FL.callD, Option.bind_some, Option.bind_none, List.getElem?_cons_zero, List.getElem?_cons_succ, List.getElem?_nil, List.set_cons_zero, List.set_cons_succ, List.length_cons, List.length_nil, List.filterMap_cons, List.filterMap_nil, decide_eq_true_eq, if_true, if_false, true_and, and_true, Nat.reduceAdd, Nat.reduceLeDiff, Nat.reduceEqDiff, ↓reduceIte, Bool.false_eq_true, FL.startE, FL.backs, List.map_cons, List.map_nil, List.cons_append, List.nil_append, Nat.reduceSub, List.replicate_succ, List.replicate_zero, List.nodup_nil, List.nodup_cons, List.not_mem_nil, not_false_eq_true, and_self, reduceCtorEq, Option.map_some, Option.map_none, lenT_tab, lenT_row]; rfl, rfl⟩) [] (by simp; omega)
  obtain ⟨x1, x2, x3, rfl⟩ := ht.lst
  obtain ⟨y1, y2, y3, rfl⟩ := ht2.lst
  have e6 : Tr.toDs ((List.range n).map fun i => Tr.lst ((List.range n).map fun j => Tr.imm (.int (G i j)))) = some ((List.range n).map fun i => PyData.list ((List.range n).map fun j => PyData.int (G i j))) := rows_toDs n n G
  have e7 : (((List.range n).map fun i => PyData.list ((List.range n).map fun j => PyData.int (G i j))).map tupOf) = ((List.range n).map fun i => PyData.tuple ((List.range n).map fun j => PyData.int (G i j))).map Tr.imm := by
    rw [List.map_map, List.map_map]; rfl
  rw [e7, List.nil_append] at e5
  refine ⟨_, G, ?_, ht2.le (by omega), hG⟩
  unfold rowsT at e3
  rw [v_fn]
  unfold m__law_even
  unfold tabD
  have k1 : atI (pairN.map stkT) r = some (stkT l) := e2
  simp only [pairN, stkT, List.map_cons, List.map_nil] at k1
  unfold stkT at e3 e4 e5
  simp -implicitDefEqProofs only [FL.v_seq, FL.v_thN, FL.v_thR, FL.v_thB, FL.v_thC, FL.v_ifS, FL.v_asg, FL.v_ret, FL.v_retN, FL.v_drop, FL.v_nx, FL.v_bk, FL.v_ct, FL.v_name, FL.v_pN, FL.v_pV, FL.v_var, FL.v_at, FL.v_trV, FL.v_trP, FL.v_wV, FL.v_wP, FL.v_C, FL.v_ER, FL.v_Fz, FL.v_fO, FL.v_fS, FL.v_fV, FL.v_fP, FL.v_fL, FL.v_vS, FL.v_vO, FL.v_op, FL.v_un, FL.v_bOf, FL.v_test, FL.v_and, FL.v_or, FL.v_not, FL.v_tru, FL.v_trB, FL.v_andV, FL.v_orV, FL.v_notV, FL.v_if, FL.v_chain, FL.v_arN, FL.v_arC, FL.v_faN, FL.v_faC, FL.v_tup, FL.v_lst, FL.v_tdN, FL.v_tdC, FL.v_tdI, FL.v_tdL, FL.toDs_imms, FL.imms_imms, FL.v_cb, FL.v_vsN, FL.v_vsC, FL.v_bm, FL.v_tyS, FL.v_tyL, FL.v_sl, FL.v_moN, FL.v_moS, FL.v_iOf, FL.v_call, FL.v_osO, FL.v_osS, FL.v_isI, FL.v_isL, FL.v_isD, FL.v_gN, FL.v_gO, FL.v_gS, FL.v_for, FL.v_lc, FL.v_sub, FL.v_sub2, FL.v_iAt, FL.v_iC, FL.v_aug, FL.v_par, FL.v_mut, FL.v_rng1, FL.v_rng2, FL.v_seqI, FL.v_enumE, FL.v_enumT, FL.v_enumL, FL.v_isi, FL.v_addI, FL.v_addS, FL.v_addT, FL.v_addL, FL.v_subI, FL.v_neg, FL.v_lt, FL.v_le, FL.v_gt, FL.v_ge, FL.v_eqI, FL.v_neI, FL.v_eqS, FL.v_neS, FL.v_ixT, FL.v_ixD, FL.v_ixL, FL.v_ixS, FL.v_len, FL.v_lnT, FL.v_lnD, FL.v_lnL, FL.v_lnS, FL.v_abs, FL.v_max, FL.v_min, FL.v_int, FL.v_intB, FL.v_tuple, FL.v_list, FL.v_sqT, FL.v_sqD, FL.v_sqL, FL.v_itT, FL.v_itL, FL.v_itS, FL.v_isN, FL.v_notN, FL.v_setL, FL.v_setD, FL.v_kS, FL.v_kI, FL.v_mp, FL.v_mpn, FL.v_pO, FL.v_tupG, FL.v_gsC, FL.v_gsN, FL.v_slD, FL.v_at0, FL.v_at1, FL.v_at2, FL.v_i30, FL.v_i31, FL.v_i32, FL.v_Mv, FL.v_mvV, FL.v_pr, FL.v_wpN, FL.v_wpC, FL.v_wsN, FL.v_wsV, FL.v_wsO, FL.v_bkN, FL.v_bkC, FL.v_bsN, FL.v_bsI, FL.v_sf, FL.v_yes, FL.v_tupA, FL.v_imm, FL.v_aftN, FL.v_aftC, FL.v_aftB, FL.v_aftR, FL.v_iOp, FL.v_iLen, FL.v_dnin, FL.v_dninI, FL.v_disp1, FL.v_dispI, FL.v_mut0, FL.v_mulB, FL.v_lrg1, FL.v_trg1, FL.v_lrg2, FL.v_trg2, FL.v_fT, FL.v_rS, FL.v_rO, FL.v_plI, FL.v_plL, FL.v_plD, FL.v_plT, FL.v_vrN, FL.v_vrC, FL.v_isT, FL.callD, Option.bind_some, Option.bind_none, List.getElem?_cons_zero, List.getElem?_cons_succ, List.getElem?_nil, List.set_cons_zero, List.set_cons_succ, List.length_cons, List.length_nil, List.filterMap_cons, List.filterMap_nil, decide_eq_true_eq, if_true, if_false, true_and, and_true, Nat.reduceAdd, Nat.reduceLeDiff, Nat.reduceEqDiff, ↓reduceIte, Bool.false_eq_true, FL.startE, FL.backs, List.map_cons, List.map_nil, List.cons_append, List.nil_append, Nat.reduceSub, List.replicate_succ, List.replicate_zero, List.nodup_nil, List.nodup_cons, List.not_mem_nil, not_false_eq_true, and_self, reduceCtorEq, Option.map_some, Option.map_none, lenT_tab, lenT_row, e1, imms, k1, hr, e4, e3, e6, e5]

end WK

namespace WK
open PySem L2 FL
/-! ### unlike numbers below k are at most k -/
theorem nodup_mid {s t : List Nat} {k : Nat} : (s ++ k :: t).Nodup ↔ (s ++ t).Nodup ∧ k ∉ s ++ t := by
  have hp : (s ++ k :: t).Perm (k :: (s ++ t)) := List.perm_middle
  rw [hp.nodup_iff, List.nodup_cons]
  exact ⟨fun h => ⟨h.2, h.1⟩, fun h => ⟨h.2, h.1⟩⟩
theorem pigeon : ∀ (k : Nat) (p : List Nat), p.Nodup → (∀ x ∈ p, x < k) → p.length ≤ k
  | 0, p, _, h => by
    cases p with
    | nil => exact Nat.le_refl _
    | cons x p => exact absurd (h x List.mem_cons_self) (Nat.not_lt_zero _)
  | k + 1, p, hn, h => by
    by_cases hk : k ∈ p
    · obtain ⟨s, t, rfl⟩ := List.append_of_mem hk
      obtain ⟨h1, h2⟩ := nodup_mid.mp hn
      have := pigeon k (s ++ t) h1 fun x hx => by
        have hlt := h x (by
          rcases List.mem_append.mp hx with z | z
          · exact List.mem_append_left _ z
          · exact List.mem_append_right _ (List.mem_cons_of_mem _ z))
        have hne : x ≠ k := fun e => h2 (e ▸ hx)
        omega
      simp only [List.length_append, List.length_cons] at this ⊢
      omega
    · have := pigeon k p hn fun x hx => by
        have hlt := h x hx
        have hne : x ≠ k := fun e => hk (e ▸ hx)
        omega
      omega

end WK

namespace WK
open PySem L2 FL
/-! ### the least of alike data -/
theorem dlt_irr (a : PyData) : PySem.W.dataLt a a = false := PyProof.Rows.lex_irrefl _
theorem dlt_trans {a b c : PyData} (h : PySem.W.dataLt a b = true) (k : PySem.W.dataLt b c = true) : PySem.W.dataLt a c = true := PyProof.Rows.lex_trans _ _ _ h k
theorem dlt_neg {a c : PyData} (b : PyData) (h : PySem.W.dataLt a c = true) : PySem.W.dataLt a b = true ∨ PySem.W.dataLt b c = true := PyProof.Rows.lex_negTrans _ _ _ h
theorem minD_least : ∀ (r : List PyData) (x : PyData), ∀ z ∈ x :: r, PySem.W.dataLt z (PySem.W.minD x r) = false
  | [], x, z, hz => by
    rw [List.mem_singleton.mp hz]
    exact dlt_irr x
  | y :: r, x, z, hz => by
    have ih := minD_least r (if PySem.W.dataLt y x then y else x)
    change ∀ z ∈ _ :: r, PySem.W.dataLt z (PySem.W.minD x (y :: r)) = false at ih
    generalize PySem.W.minD x (y :: r) = m at *
    have hd := ih _ List.mem_cons_self
    rcases List.mem_cons.mp hz with rfl | hz
    · cases c : PySem.W.dataLt y z with
      | false =>
        rw [c] at hd
        exact hd
      | true =>
        rw [c] at hd
        rw [Bool.eq_false_iff]
        intro w
        have := dlt_trans c w
        have hd' : PySem.W.dataLt y m = false := hd
        rw [hd'] at this
        cases this
    · rcases List.mem_cons.mp hz with rfl | hz
      · cases c : PySem.W.dataLt z x with
        | true =>
          rw [c] at hd
          exact hd
        | false =>
          rw [c] at hd
          rw [Bool.eq_false_iff]
          intro w
          have hd' : PySem.W.dataLt x m = false := hd
          rcases dlt_neg x w with h | h
          · rw [c] at h; cases h
          · rw [hd'] at h; cases h
      · exact ih z (List.mem_cons_of_mem _ hz)
/-- data of one shape that neither is less than the other are one -/
def Sep (l : List PyData) : Prop := ∀ a ∈ l, ∀ b ∈ l, PySem.W.dataLt a b = false → PySem.W.dataLt b a = false → a = b
theorem minD_one {x y : PyData} {r s : List PyData} (h : ∀ z, z ∈ x :: r ↔ z ∈ y :: s) (k : Sep (x :: r)) : PySem.W.minD x r = PySem.W.minD y s := by
  have m1 := FL.minX_mem r x
  have m2 := (h _).mpr (FL.minX_mem s y)
  exact k _ m1 _ m2 (minD_least s y _ ((h _).mp m1)) (minD_least r x _ m2)

end WK

namespace WK
open PySem L2 FL
/-! ### data of one shape, ints at the ends -/
structure Sp (x y : PyData) : Prop where
  al : PySem.W.alike x y = true
  la : PySem.W.alike y x = true
  eq : PyData.eqv x y = true ↔ x = y
  qe : PyData.eqv y x = true ↔ x = y
  lt : PySem.W.dataLt x y = false → PySem.W.dataLt y x = false → x = y
inductive Sps : List PyData → List PyData → Prop
  | nil : Sps [] []
  | cons {x y : PyData} {xs ys : List PyData} : Sp x y → Sps xs ys → Sps (x :: xs) (y :: ys)
theorem sp_int (a b : Int) : Sp (.int a) (.int b) := by
  refine ⟨by rw [PySem.W.alike], by rw [PySem.W.alike], ?_, ?_, fun h k => ?_⟩
  · rw [PyData.eqv]
    exact ⟨fun h => by rw [beq_iff_eq.mp h], fun h => by cases h; exact beq_self_eq_true a⟩
  · rw [PyData.eqv]
    exact ⟨fun h => by rw [beq_iff_eq.mp h], fun h => by cases h; exact beq_self_eq_true a⟩
  · rw [PySem.W.dataLt_int, decide_eq_false_iff_not] at h k
    have : a = b := by omega
    rw [this]
theorem cons_lt {x y : PyData} (h : PySem.W.alike x y = true) (xs ys : List PyData) : PyProof.Rows.lexLt PyProof.Rows.itemOrd (PySem.W.keyToksAll (x :: xs)) (PySem.W.keyToksAll (y :: ys)) = if PyData.eqv x y = true then PyProof.Rows.lexLt PyProof.Rows.itemOrd (PySem.W.keyToksAll xs) (PySem.W.keyToksAll ys) else PySem.W.dataLt x y := by
  cases e : PyData.eqv x y with
  | true => rw [if_pos rfl]; exact PySem.W.dataLt_all_yes h e
  | false => rw [if_neg Bool.false_ne_true]; exact PySem.W.dataLt_all_no h e
theorem sps_all : ∀ {xs ys : List PyData}, Sps xs ys → PySem.W.alikeAll xs ys = true ∧ PySem.W.alikeAll ys xs = true ∧ (PyData.eqvAll xs ys = true ↔ xs = ys) ∧ (PyData.eqvAll ys xs = true ↔ xs = ys) ∧
    (PyProof.Rows.lexLt PyProof.Rows.itemOrd (PySem.W.keyToksAll xs) (PySem.W.keyToksAll ys) = false → PyProof.Rows.lexLt PyProof.Rows.itemOrd (PySem.W.keyToksAll ys) (PySem.W.keyToksAll xs) = false → xs = ys)
  | _, _, .nil => ⟨by rw [PySem.W.alikeAll], by rw [PySem.W.alikeAll], by rw [PyData.eqvAll]; simp, by rw [PyData.eqvAll]; simp, fun _ _ => rfl⟩
  | _, _, .cons (x := x) (y := y) (xs := xs) (ys := ys) h t => by
    obtain ⟨a1, a2, a3, a4, a5⟩ := sps_all t
    refine ⟨by rw [PySem.W.alikeAll, h.al, a1]; rfl, by rw [PySem.W.alikeAll, h.la, a2]; rfl, ?_, ?_, fun p q => ?_⟩
    · rw [PyData.eqvAll, Bool.and_eq_true, h.eq, a3, List.cons.injEq]
    · rw [PyData.eqvAll, Bool.and_eq_true, h.qe, a4, List.cons.injEq]
    · rw [cons_lt h.al] at p
      rw [cons_lt h.la] at q
      by_cases e : x = y
      · rw [if_pos (h.eq.mpr e)] at p
        rw [if_pos (h.qe.mpr e)] at q
        rw [e, a5 p q]
      · rw [if_neg (fun z => e (h.eq.mp z))] at p
        rw [if_neg (fun z => e (h.qe.mp z))] at q
        exact absurd (h.lt p q) e
theorem sp_tup {xs ys : List PyData} (h : Sps xs ys) : Sp (.tuple xs) (.tuple ys) := by
  obtain ⟨a1, a2, a3, a4, a5⟩ := sps_all h
  refine ⟨by rw [PySem.W.alike]; exact a1, by rw [PySem.W.alike]; exact a2, ?_, ?_, fun p q => ?_⟩
  · rw [PyData.eqv, a3, PyData.tuple.injEq]
  · rw [PyData.eqv, a4, PyData.tuple.injEq]
  · rw [PySem.W.dataLt_tuple] at p q
    rw [a5 p q]
theorem sps_map {α : Type} {f g : α → PyData} : ∀ l : List α, (∀ a ∈ l, Sp (f a) (g a)) → Sps (l.map f) (l.map g)
  | [], _ => .nil
  | a :: l, h => .cons (h a List.mem_cons_self) (sps_map l fun b hb => h b (List.mem_cons_of_mem _ hb))
theorem sp_tab (n : Nat) (F G : Nat → Nat → Int) : Sp (tabD n F) (tabD n G) := sp_tup (sps_map _ fun _ _ => sp_tup (sps_map _ fun _ _ => sp_int _ _))
theorem sps_words : ∀ {p q : List Nat}, p.length = q.length → Sps (wL p) (wL q)
  | [], [], _ => .nil
  | [], _ :: _, h => by cases h
  | _ :: _, [], h => by cases h
  | x :: p, y :: q, h => .cons (sp_int _ _) (sps_words (Nat.succ.inj h))
/-- a turned table and its order -/
def pairD (n : Nat) (F : Nat → Nat → Int) (p : List Nat) : PyData := .tuple [tabD n F, .tuple (wL p)]
theorem sp_pair (n : Nat) (F G : Nat → Nat → Int) {p q : List Nat} (h : p.length = q.length) : Sp (pairD n F p) (pairD n G q) := sp_tup (.cons (sp_tab n F G) (.cons (sp_tup (sps_words h)) .nil))

end WK

namespace WK
open PySem L2 FL
def putAt (o : List Nat) (k i : Nat) : List Nat := o.take i ++ [k] ++ o.drop i
def ordP : Nat → List (List Nat)
  | 0 => [[]]
  | k + 1 => (ordP k).flatMap fun o => (List.range (o.length + 1)).map (putAt o k)
structure Ord (k : Nat) (p : List Nat) : Prop where
  len : p.length = k
  nd : p.Nodup
  lt : ∀ x ∈ p, x < k
theorem put_mid {s t : List Nat} {k : Nat} : putAt (s ++ t) k s.length = s ++ k :: t := by
  unfold putAt
  rw [List.take_left, List.drop_left, List.append_assoc]; rfl
theorem put_split (o : List Nat) (k i : Nat) : ∃ s t, o = s ++ t ∧ putAt o k i = s ++ k :: t := ⟨o.take i, o.drop i, (List.take_append_drop i o).symm, by unfold putAt; rw [List.append_assoc]; rfl⟩
theorem ord_mem : ∀ (k : Nat) (p : List Nat), p ∈ ordP k ↔ Ord k p
  | 0, p => by
    unfold ordP
    rw [List.mem_singleton]
    exact ⟨fun h => by rw [h]; exact ⟨rfl, List.nodup_nil, fun _ z => nomatch z⟩, fun h => List.eq_nil_of_length_eq_zero h.len⟩
  | k + 1, p => by
    unfold ordP
    rw [List.mem_flatMap]
    constructor
    · rintro ⟨o, ho, hp⟩
      have h := (ord_mem k o).mp ho
      obtain ⟨i, hi, rfl⟩ := List.mem_map.mp hp
      obtain ⟨s, t, e1, e2⟩ := put_split o k i
      rw [e2]
      have hk : k ∉ s ++ t := fun z => Nat.lt_irrefl _ (h.lt k (e1 ▸ z))
      refine ⟨?_, nodup_mid.mpr ⟨e1 ▸ h.nd, hk⟩, fun x hx => ?_⟩
      · have := h.len
        rw [e1, List.length_append] at this
        rw [List.length_append, List.length_cons]
        omega
      · rcases List.mem_append.mp hx with z | z
        · have := h.lt x (by rw [e1]; exact List.mem_append_left _ z)
          omega
        · rcases List.mem_cons.mp z with z | z
          · omega
          · have := h.lt x (by rw [e1]; exact List.mem_append_right _ z)
            omega
    · intro h
      have hk : k ∈ p := Classical.byContradiction fun hk => by
        have := pigeon k p h.nd fun x hx => by
          have hlt := h.lt x hx
          have hne : x ≠ k := fun e => hk (e ▸ hx)
          omega
        have := h.len
        omega
      obtain ⟨s, t, rfl⟩ := List.append_of_mem hk
      obtain ⟨h1, h2⟩ := nodup_mid.mp h.nd
      have hl := h.len
      rw [List.length_append, List.length_cons] at hl
      refine ⟨s ++ t, (ord_mem k _).mpr ⟨by rw [List.length_append]; omega, h1, fun x hx => ?_⟩, List.mem_map.mpr ⟨s.length, List.mem_range.mpr (by rw [List.length_append]; omega), put_mid⟩⟩
      have hlt := h.lt x (by
        rcases List.mem_append.mp hx with z | z
        · exact List.mem_append_left _ z
        · exact List.mem_append_right _ (List.mem_cons_of_mem _ z))
      have hne : x ≠ k := fun e => h2 (e ▸ hx)
      omega
theorem put_at (o : List Nat) (k i : Nat) (hi : i ≤ o.length) : (putAt o k i)[i]? = some k := by
  unfold putAt
  have hl : (o.take i).length = i := by rw [List.length_take]; omega
  rw [List.append_assoc, List.getElem?_append_right (by omega), hl, Nat.sub_self]; rfl
theorem put_low (o : List Nat) (k i j : Nat) (hi : i < j) (hj : j ≤ o.length) : (putAt o k j)[i]? = o[i]? := by
  unfold putAt
  have hl : (o.take j).length = j := by rw [List.length_take]; omega
  rw [List.append_assoc, List.getElem?_append_left (by omega), List.getElem?_take, if_pos hi]
theorem put_back (o : List Nat) (k i : Nat) (hk : k ∉ o) : (putAt o k i).filter (fun x => decide (x ≠ k)) = o := by
  obtain ⟨s, t, e1, e2⟩ := put_split o k i
  rw [e2, List.filter_append, List.filter_cons_of_neg (by simp), ← List.filter_append, ← e1]
  refine List.filter_eq_self.mpr fun x hx => ?_
  simp only [decide_eq_true_eq]
  exact fun e => hk (e ▸ hx)
theorem ord_nodup : ∀ k, (ordP k).Nodup
  | 0 => List.nodup_cons.mpr ⟨by simp, List.nodup_nil⟩
  | k + 1 => by
    unfold ordP List.Nodup
    rw [List.pairwise_flatMap]
    have hno : ∀ o ∈ ordP k, k ∉ o := fun o ho z => Nat.lt_irrefl _ (((ord_mem k o).mp ho).lt k z)
    refine ⟨fun o ho => ?_, (ord_nodup k).imp_of_mem fun {o q} ho hq hne => ?_⟩
    · rw [List.pairwise_map]
      refine List.pairwise_lt_range.imp_of_mem fun {i j} hi hj hij e => ?_
      rw [List.mem_range] at hi hj
      have h1 := put_at o k i (by omega)
      rw [e, put_low o k i j hij (by omega)] at h1
      exact hno o ho (List.mem_of_getElem? h1)
    · intro x hx y hy e
      obtain ⟨i, _, rfl⟩ := List.mem_map.mp hx
      obtain ⟨j, _, rfl⟩ := List.mem_map.mp hy
      have := congrArg (List.filter fun x => decide (x ≠ k)) e
      rw [put_back o k i (hno o ho), put_back q k j (hno q hq)] at this
      exact hne this

end WK

namespace WK
open PySem L2 FL
/-! ### orders by putting in, as made tuples -/
theorem forT_inv {g : Tr → En → Option En} {ms : MS} (I : Nat → En → Prop) (ts : List Tr) (h : ∀ i t E, ts[i]? = some t → I i E → ∃ E1 E2, g t E = some E1 ∧ ms E1 = some (.nx E2) ∧ I (i + 1) E2) : ∀ E, I 0 E → ∃ E', forT g ms ts E = some (.nx E') ∧ I ts.length E' := by
  induction ts generalizing I with
  | nil => exact fun E h0 => ⟨E, rfl, h0⟩
  | cons t ts ih =>
    intro E h0
    obtain ⟨E1, E2, e1, e2, h1⟩ := h 0 t E rfl h0
    obtain ⟨E', e3, h2⟩ := ih (fun i => I (i + 1)) (fun i t E e k => h (i + 1) t E (by simpa using e) k) E2 h1
    refine ⟨E', ?_, h2⟩
    rw [forT, e1, Option.bind_some, e2, Option.bind_some]
    exact e3
theorem v_forT {m : MF} {g : Tr → En → Option En} {b : MS} {E : En} : mForT m g b E = (m E).bind fun p => forL g b p.1 p.2 := rfl
theorem v_forL {g : Tr → En → Option En} {b : MS} {ts : List Tr} {E : En} : forL g b (.lst ts) E = forT g b ts E := rfl
theorem v_tupM {ms : MFs} {E : En} : mTupM ms E = (ms E).bind fun p => (imms p.1).bind fun ds => if ds.length ≤ 16777216 then some (.tpl ds, p.2) else none := rfl
theorem v_slR {f : Tr → Option Int → Option Int → Option Tr} {ma : MR} {ml mh : MO} {E : En} : mSlR f ma ml mh E = (ma E).bind fun p => (ml p.2).bind fun l => (mh l.2).bind fun u => (viewR u.2 p.1).bind fun t => (f t l.1 u.1).bind fun w => some (w, u.2) := rfl
theorem v_opR {f : Tr → Tr → Option Tr} {ma mb : MR} {E : En} : mOpR f ma mb E = (ma E).bind fun p => (mb p.2).bind fun q => (viewR q.2 p.1).bind fun t => (viewR q.2 q.1).bind fun u => (f t u).bind fun w => some (w, q.2) := rfl
theorem v_slM {ds : List PyData} {lo hi : Option Int} : fSlM (.tpl ds) lo hi = some (.tpl (cutL ds lo hi)) := rfl
theorem v_addM {ds es : List PyData} : fAddM (.tpl ds) (.tpl es) = if ds.length + es.length ≤ 16777216 then some (.tpl (ds ++ es)) else none := rfl
theorem v_imm1 {d : PyData} : imms [.imm d] = some [d] := rfl
def tplT (ps : List (List Nat)) : Tr := .lst (ps.map fun p => Tr.tpl (wL p))
theorem orders_inner (k : Nat) (o : List Nat) (ho : o.length ≤ 100) (P : List (List Nat)) (hP : P.length ≤ 1000000) (a0 a1 : SL) :
    B__law_orders_1 [a0, a1, .val (.imm (.int (k : Nat))), .val (tplT P), .val (.tpl (wL o)), .no] = some (.nx [a0, a1, .val (.imm (.int (k : Nat))), .val (tplT (P ++ (List.range (o.length + 1)).map (putAt o k))), .val (.tpl (wL o)), .no]) := by
  have hr := fun E => v_rgN (n := o.length + 1) (by omega) (E := E)
  rw [Int.natCast_add, show ((1 : Nat) : Int) = 1 from rfl] at hr
  have e1 := lcD_over (g := mName 5) (m := X__law_orders_1) (vs := [5]) (E := [a0, a1, .val (.imm (.int (k : Nat))), .val (tplT P), .val (.tpl (wL o)), .no]) (fun i : Nat => PyData.int (i : Nat)) (fun i => Tr.tpl (wL (putAt o k i))) (List.range (o.length + 1)) (fun i hi => by
      have hi2 := List.mem_range.mp hi
      have c1 := cut_lo (wL o) i (by rw [wL_len]; omega)
      have c2 := cut_hi (wL o) i (by rw [wL_len]; omega)
      rw [wL_take] at c1
      rw [wL_drop] at c2
      have l1 : (wL (o.take i)).length + 1 ≤ 16777216 := by rw [wL_len, List.length_take]; omega
      have l2 : (wL (o.take i ++ [k])).length + (wL (o.drop i)).length ≤ 16777216 := by rw [wL_len, wL_len, List.length_append, List.length_take, List.length_drop, List.length_singleton]; omega
      refine ⟨[a0, a1, .val (.imm (.int (k : Nat))), .val (tplT P), .val (.tpl (wL o)), .val (.imm (.int (i : Nat)))], [a0, a1, .val (.imm (.int (k : Nat))), .val (tplT P), .val (.tpl (wL o)), .val (.imm (.int (i : Nat)))], by simp -implicitDefEqProofs only [FL.v_seq, FL.v_thN, FL.v_thR, FL.v_thB, FL.v_thC, FL.v_ifS, FL.v_asg, FL.v_ret, FL.v_retN, FL.v_drop, FL.v_nx, FL.v_bk, FL.v_ct, FL.v_name, FL.v_pN, FL.v_pV, FL.v_var, FL.v_at, FL.v_trV, FL.v_trP, FL.v_wV, FL.v_wP, FL.v_C, FL.v_ER, FL.v_Fz, FL.v_fO, FL.v_fS, FL.v_fV, FL.v_fP, FL.v_fL, FL.v_vS, FL.v_vO, FL.v_op, FL.v_un, FL.v_bOf, FL.v_test, FL.v_and, FL.v_or, FL.v_not, FL.v_tru, FL.v_trB, FL.v_andV, FL.v_orV, FL.v_notV, FL.v_if, FL.v_chain, FL.v_arN, FL.v_arC, FL.v_faN, FL.v_faC, FL.v_tup, FL.v_lst, FL.v_tdN, FL.v_tdC, FL.v_tdI, FL.v_tdL, FL.toDs_imms, FL.imms_imms, FL.v_cb, FL.v_vsN, FL.v_vsC, FL.v_bm, FL.v_tyS, FL.v_tyL, FL.v_sl, FL.v_moN, FL.v_moS, FL.v_iOf, FL.v_call, FL.v_osO, FL.v_osS, FL.v_isI, FL.v_isL, FL.v_isD, FL.v_gN, FL.v_gO, FL.v_gS, FL.v_for, FL.v_lc, FL.v_sub, FL.v_sub2, FL.v_iAt, FL.v_iC, FL.v_aug, FL.v_par, FL.v_mut, FL.v_rng1, FL.v_rng2, FL.v_seqI, FL.v_enumE, FL.v_enumT, FL.v_enumL, FL.v_isi, FL.v_addI, FL.v_addS, FL.v_addT, FL.v_addL, FL.v_subI, FL.v_neg, FL.v_lt, FL.v_le, FL.v_gt, FL.v_ge, FL.v_eqI, FL.v_neI, FL.v_eqS, FL.v_neS, FL.v_ixT, FL.v_ixD, FL.v_ixL, FL.v_ixS, FL.v_len, FL.v_lnT, FL.v_lnD, FL.v_lnL, FL.v_lnS, FL.v_abs, FL.v_max, FL.v_min, FL.v_int, FL.v_intB, FL.v_tuple, FL.v_list, FL.v_sqT, FL.v_sqD, FL.v_sqL, FL.v_itT, FL.v_itL, FL.v_itS, FL.v_isN, FL.v_notN, FL.v_setL, FL.v_setD, FL.v_kS, FL.v_kI, FL.v_mp, FL.v_mpn, FL.v_pO, FL.v_tupG, FL.v_gsC, FL.v_gsN, FL.v_slD, FL.v_at0, FL.v_at1, FL.v_at2, FL.v_i30, FL.v_i31, FL.v_i32, FL.v_Mv, FL.v_mvV, FL.v_pr, FL.v_wpN, FL.v_wpC, FL.v_wsN, FL.v_wsV, FL.v_wsO, FL.v_bkN, FL.v_bkC, FL.v_bsN, FL.v_bsI, FL.v_sf, FL.v_yes, FL.v_tupA, FL.v_imm, FL.v_aftN, FL.v_aftC, FL.v_aftB, FL.v_aftR, FL.v_iOp, FL.v_iLen, FL.v_dnin, FL.v_dninI, FL.v_disp1, FL.v_dispI, FL.v_mut0, FL.v_mulB, FL.v_lrg1, FL.v_trg1, FL.v_lrg2, FL.v_trg2, FL.v_fT, FL.v_rS, FL.v_rO, FL.v_plI, FL.v_plL, FL.v_plD, FL.v_plT, FL.v_vrN, FL.v_vrC, FL.v_isT, FL.callD, Option.bind_some, Option.bind_none, List.getElem?_cons_zero, List.getElem?_cons_succ, List.getElem?_nil, List.set_cons_zero, List.set_cons_succ, List.length_cons, List.length_nil, List.filterMap_cons, List.filterMap_nil, decide_eq_true_eq, if_true, if_false, true_and, and_true, Nat.reduceAdd, Nat.reduceLeDiff, Nat.reduceEqDiff, ↓reduceIte, Bool.false_eq_true, FL.startE, FL.backs, List.map_cons, List.map_nil, List.cons_append, List.nil_append, Nat.reduceSub, List.replicate_succ, List.replicate_zero, List.nodup_nil, List.nodup_cons, List.not_mem_nil, not_false_eq_true, and_self, reduceCtorEq, Option.map_some, Option.map_none, lenT_tab, lenT_row], ?_, by simp -implicitDefEqProofs only [FL.v_seq, FL.v_thN, FL.v_thR, FL.v_thB, FL.v_thC, FL.v_ifS, FL.v_asg, FL.v_ret, FL.v_retN, FL.v_drop, FL.v_nx, FL.v_bk, FL.v_ct, FL.v_name, FL.v_pN, FL.v_pV, FL.v_var, FL.v_at, FL.v_trV, FL.v_trP, FL.v_wV, FL.v_wP, FL.v_C, FL.v_ER, FL.v_Fz, FL.v_fO, FL.v_fS, FL.v_fV, FL.v_fP, FL.v_fL, FL.v_vS, FL.v_vO, FL.v_op, FL.v_un, FL.v_bOf, FL.v_test, FL.v_and, FL.v_or, FL.v_not, FL.v_tru, FL.v_trB, FL.v_andV, FL.v_orV, FL.v_notV, FL.v_if, FL.v_chain, FL.v_arN, FL.v_arC, FL.v_faN, FL.v_faC, FL.v_tup, FL.v_lst, FL.v_tdN, FL.v_tdC, FL.v_tdI, FL.v_tdL, FL.toDs_imms, FL.imms_imms, FL.v_cb, FL.v_vsN, FL.v_vsC, FL.v_bm, FL.v_tyS, FL.v_tyL, FL.v_sl, FL.v_moN, FL.v_moS, FL.v_iOf, FL.v_call, FL.v_osO, FL.v_osS, FL.v_isI, FL.v_isL, FL.v_isD, FL.v_gN, FL.v_gO, FL.v_gS, FL.v_for, FL.v_lc, FL.v_sub, FL.v_sub2, FL.v_iAt, FL.v_iC, FL.v_aug, FL.v_par, FL.v_mut, FL.v_rng1, FL.v_rng2, FL.v_seqI, FL.v_enumE, FL.v_enumT, FL.v_enumL, FL.v_isi, FL.v_addI, FL.v_addS, FL.v_addT, FL.v_addL, FL.v_subI, FL.v_neg, FL.v_lt, FL.v_le, FL.v_gt, FL.v_ge, FL.v_eqI, FL.v_neI, FL.v_eqS, FL.v_neS, FL.v_ixT, FL.v_ixD, FL.v_ixL, FL.v_ixS, FL.v_len, FL.v_lnT, FL.v_lnD, FL.v_lnL, FL.v_lnS, FL.v_abs, FL.v_max, FL.v_min, FL.v_int, FL.v_intB, FL.v_tuple, FL.v_list, FL.v_sqT, FL.v_sqD, FL.v_sqL, FL.v_itT, FL.v_itL, FL.v_itS, FL.v_isN, FL.v_notN, FL.v_setL, FL.v_setD, FL.v_kS, FL.v_kI, FL.v_mp, FL.v_mpn, FL.v_pO, FL.v_tupG, FL.v_gsC, FL.v_gsN, FL.v_slD, FL.v_at0, FL.v_at1, FL.v_at2, FL.v_i30, FL.v_i31, FL.v_i32, FL.v_Mv, FL.v_mvV, FL.v_pr, FL.v_wpN, FL.v_wpC, FL.v_wsN, FL.v_wsV, FL.v_wsO, FL.v_bkN, FL.v_bkC, FL.v_bsN, FL.v_bsI, FL.v_sf, FL.v_yes, FL.v_tupA, FL.v_imm, FL.v_aftN, FL.v_aftC, FL.v_aftB, FL.v_aftR, FL.v_iOp, FL.v_iLen, FL.v_dnin, FL.v_dninI, FL.v_disp1, FL.v_dispI, FL.v_mut0, FL.v_mulB, FL.v_lrg1, FL.v_trg1, FL.v_lrg2, FL.v_trg2, FL.v_fT, FL.v_rS, FL.v_rO, FL.v_plI, FL.v_plL, FL.v_plD, FL.v_plT, FL.v_vrN, FL.v_vrC, FL.v_isT, FL.callD, Option.bind_some, Option.bind_none, List.getElem?_cons_zero, List.getElem?_cons_succ, List.getElem?_nil, List.set_cons_zero, List.set_cons_succ, List.length_cons, List.length_nil, List.filterMap_cons, List.filterMap_nil, decide_eq_true_eq, if_true, if_false, true_and, and_true, Nat.reduceAdd, Nat.reduceLeDiff, Nat.reduceEqDiff, ↓reduceIte, Bool.false_eq_true, FL.startE, FL.backs, List.map_cons, List.map_nil, List.cons_append, List.nil_append, Nat.reduceSub, List.replicate_succ, List.replicate_zero, List.nodup_nil, List.nodup_cons, List.not_mem_nil, not_false_eq_true, and_self, reduceCtorEq, Option.map_some, Option.map_none, lenT_tab, lenT_row]⟩
      unfold X__law_orders_1 putAt
      simp -implicitDefEqProofs only [FL.v_seq, FL.v_thN, FL.v_thR, FL.v_thB, FL.v_thC, FL.v_ifS, FL.v_asg, FL.v_ret, FL.v_retN, FL.v_drop, FL.v_nx, FL.v_bk, FL.v_ct, FL.v_name, FL.v_pN, FL.v_pV, FL.v_var, FL.v_at, FL.v_trV, FL.v_trP, FL.v_wV, FL.v_wP, FL.v_C, FL.v_ER, FL.v_Fz, FL.v_fO, FL.v_fS, FL.v_fV, FL.v_fP, FL.v_fL, FL.v_vS, FL.v_vO, FL.v_op, FL.v_un, FL.v_bOf, FL.v_test, FL.v_and, FL.v_or, FL.v_not, FL.v_tru, FL.v_trB, FL.v_andV, FL.v_orV, FL.v_notV, FL.v_if, FL.v_chain, FL.v_arN, FL.v_arC, FL.v_faN, FL.v_faC, FL.v_tup, FL.v_lst, FL.v_tdN, FL.v_tdC, FL.v_tdI, FL.v_tdL, FL.toDs_imms, FL.imms_imms, FL.v_cb, FL.v_vsN, FL.v_vsC, FL.v_bm, FL.v_tyS, FL.v_tyL, FL.v_sl, FL.v_moN, FL.v_moS, FL.v_iOf, FL.v_call, FL.v_osO, FL.v_osS, FL.v_isI, FL.v_isL, FL.v_isD, FL.v_gN, FL.v_gO, FL.v_gS, FL.v_for, FL.v_lc, FL.v_sub, FL.v_sub2, FL.v_iAt, FL.v_iC, FL.v_aug, FL.v_par, FL.v_mut, FL.v_rng1, FL.v_rng2, FL.v_seqI, FL.v_enumE, FL.v_enumT, FL.v_enumL, FL.v_isi, FL.v_addI, FL.v_addS, FL.v_addT, FL.v_addL, FL.v_subI, FL.v_neg, FL.v_lt, FL.v_le, FL.v_gt, FL.v_ge, FL.v_eqI, FL.v_neI, FL.v_eqS, FL.v_neS, FL.v_ixT, FL.v_ixD, FL.v_ixL, FL.v_ixS, FL.v_len, FL.v_lnT, FL.v_lnD, FL.v_lnL, FL.v_lnS, FL.v_abs, FL.v_max, FL.v_min, FL.v_int, FL.v_intB, FL.v_tuple, FL.v_list, FL.v_sqT, FL.v_sqD, FL.v_sqL, FL.v_itT, FL.v_itL, FL.v_itS, FL.v_isN, FL.v_notN, FL.v_setL, FL.v_setD, FL.v_kS, FL.v_kI, FL.v_mp, FL.v_mpn, FL.v_pO, FL.v_tupG, FL.v_gsC, FL.v_gsN, FL.v_slD, FL.v_at0, FL.v_at1, FL.v_at2, FL.v_i30, FL.v_i31, FL.v_i32, FL.v_Mv, FL.v_mvV, FL.v_pr, FL.v_wpN, FL.v_wpC, FL.v_wsN, FL.v_wsV, FL.v_wsO, FL.v_bkN, FL.v_bkC, FL.v_bsN, FL.v_bsI, FL.v_sf, FL.v_yes, FL.v_tupA, FL.v_imm, FL.v_aftN, FL.v_aftC, FL.v_aftB, FL.v_aftR, FL.v_iOp, FL.v_iLen, FL.v_dnin, FL.v_dninI, FL.v_disp1, FL.v_dispI, FL.v_mut0, FL.v_mulB, FL.v_lrg1, FL.v_trg1, FL.v_lrg2, FL.v_trg2, FL.v_fT, FL.v_rS, FL.v_rO, FL.v_plI, FL.v_plL, FL.v_plD, FL.v_plT, FL.v_vrN, FL.v_vrC, FL.v_isT, FL.callD, Option.bind_some, Option.bind_none, List.getElem?_cons_zero, List.getElem?_cons_succ, List.getElem?_nil, List.set_cons_zero, List.set_cons_succ, List.length_cons, List.length_nil, List.filterMap_cons, List.filterMap_nil, decide_eq_true_eq, if_true, if_false, true_and, and_true, Nat.reduceAdd, Nat.reduceLeDiff, Nat.reduceEqDiff, ↓reduceIte, Bool.false_eq_true, FL.startE, FL.backs, List.map_cons, List.map_nil, List.cons_append, List.nil_append, Nat.reduceSub, List.replicate_succ, List.replicate_zero, List.nodup_nil, List.nodup_cons, List.not_mem_nil, not_false_eq_true, and_self, reduceCtorEq, Option.map_some, Option.map_none, lenT_tab, lenT_row, v_opR, v_slR, v_slM, v_tupM, v_imm1, v_addM, c1, c2, l1, l2, wL_snoc, wL_app, show (1 ≤ 16777216) = True from eq_true (by decide)]) [] (by rw [List.length_range]; simp; omega)
  have hrg : rangeD 0 (o.length + 1) = (List.range (o.length + 1)).map fun i : Nat => PyData.int (i : Nat) := range_iE _
  rw [← hrg, List.nil_append] at e1
  have ex : fExtend (tplT P) [.lst ((List.range (o.length + 1)).map fun i => Tr.tpl (wL (putAt o k i)))] = some (.imm .none, tplT (P ++ (List.range (o.length + 1)).map (putAt o k))) := by
    unfold tplT
    rw [v_extend, if_pos (by rw [List.length_map, List.length_map, List.length_range]; omega), List.map_append, List.map_map]
    rfl
  have ty : tyB "list" (tplT P) = true := rfl
  have lo : lenT (.imm (.tuple (wL o))) = some o.length := by rw [v_lnT, wL_len]
  unfold B__law_orders_1
  simp -implicitDefEqProofs only [FL.v_seq, FL.v_thN, FL.v_thR, FL.v_thB, FL.v_thC, FL.v_ifS, FL.v_asg, FL.v_ret, FL.v_retN, FL.v_drop, FL.v_nx, FL.v_bk, FL.v_ct, FL.v_name, FL.v_pN, FL.v_pV, FL.v_var, FL.v_at, FL.v_trV, FL.v_trP, FL.v_wV, FL.v_wP, FL.v_C, FL.v_ER, FL.v_Fz, FL.v_fO, FL.v_fS, FL.v_fV, FL.v_fP, FL.v_fL, FL.v_vS, FL.v_vO, FL.v_op, FL.v_un, FL.v_bOf, FL.v_test, FL.v_and, FL.v_or, FL.v_not, FL.v_tru, FL.v_trB, FL.v_andV, FL.v_orV, FL.v_notV, FL.v_if, FL.v_chain, FL.v_arN, FL.v_arC, FL.v_faN, FL.v_faC, FL.v_tup, FL.v_lst, FL.v_tdN, FL.v_tdC, FL.v_tdI, FL.v_tdL, FL.toDs_imms, FL.imms_imms, FL.v_cb, FL.v_vsN, FL.v_vsC, FL.v_bm, FL.v_tyS, FL.v_tyL, FL.v_sl, FL.v_moN, FL.v_moS, FL.v_iOf, FL.v_call, FL.v_osO, FL.v_osS, FL.v_isI, FL.v_isL, FL.v_isD, FL.v_gN, FL.v_gO, FL.v_gS, FL.v_for, FL.v_lc, FL.v_sub, FL.v_sub2, FL.v_iAt, FL.v_iC, FL.v_aug, FL.v_par, FL.v_mut, FL.v_rng1, FL.v_rng2, FL.v_seqI, FL.v_enumE, FL.v_enumT, FL.v_enumL, FL.v_isi, FL.v_addI, FL.v_addS, FL.v_addT, FL.v_addL, FL.v_subI, FL.v_neg, FL.v_lt, FL.v_le, FL.v_gt, FL.v_ge, FL.v_eqI, FL.v_neI, FL.v_eqS, FL.v_neS, FL.v_ixT, FL.v_ixD, FL.v_ixL, FL.v_ixS, FL.v_len, FL.v_lnT, FL.v_lnD, FL.v_lnL, FL.v_lnS, FL.v_abs, FL.v_max, FL.v_min, FL.v_int, FL.v_intB, FL.v_tuple, FL.v_list, FL.v_sqT, FL.v_sqD, FL.v_sqL, FL.v_itT, FL.v_itL, FL.v_itS, FL.v_isN, FL.v_notN, FL.v_setL, FL.v_setD, FL.v_kS, FL.v_kI, FL.v_mp, FL.v_mpn, FL.v_pO, FL.v_tupG, FL.v_gsC, FL.v_gsN, FL.v_slD, FL.v_at0, FL.v_at1, FL.v_at2, FL.v_i30, FL.v_i31, FL.v_i32, FL.v_Mv, FL.v_mvV, FL.v_pr, FL.v_wpN, FL.v_wpC, FL.v_wsN, FL.v_wsV, FL.v_wsO, FL.v_bkN, FL.v_bkC, FL.v_bsN, FL.v_bsI, FL.v_sf, FL.v_yes, FL.v_tupA, FL.v_imm, FL.v_aftN, FL.v_aftC, FL.v_aftB, FL.v_aftR, FL.v_iOp, FL.v_iLen, FL.v_dnin, FL.v_dninI, FL.v_disp1, FL.v_dispI, FL.v_mut0, FL.v_mulB, FL.v_lrg1, FL.v_trg1, FL.v_lrg2, FL.v_trg2, FL.v_fT, FL.v_rS, FL.v_rO, FL.v_plI, FL.v_plL, FL.v_plD, FL.v_plT, FL.v_vrN, FL.v_vrC, FL.v_isT, FL.callD, Option.bind_some, Option.bind_none, List.getElem?_cons_zero, List.getElem?_cons_succ, List.getElem?_nil, List.set_cons_zero, List.set_cons_succ, List.length_cons, List.length_nil, List.filterMap_cons, List.filterMap_nil, decide_eq_true_eq, if_true, if_false, true_and, and_true, Nat.reduceAdd, Nat.reduceLeDiff, Nat.reduceEqDiff, ↓reduceIte, Bool.false_eq_true, FL.startE, FL.backs, List.map_cons, List.map_nil, List.cons_append, List.nil_append, Nat.reduceSub, List.replicate_succ, List.replicate_zero, List.nodup_nil, List.nodup_cons, List.not_mem_nil, not_false_eq_true, and_self, reduceCtorEq, Option.map_some, Option.map_none, lenT_tab, lenT_row, lo, hr, e1, ex, ty]

end WK

namespace WK
open PySem L2 FL
theorem flat_len {α β : Type} (f : α → List β) (c : Nat) : ∀ l : List α, (∀ x ∈ l, (f x).length ≤ c) → (l.flatMap f).length ≤ l.length * c
  | [], _ => Nat.zero_le _
  | x :: l, h => by
    have h1 := flat_len f c l fun y hy => h y (List.mem_cons_of_mem _ hy)
    have h2 := h x List.mem_cons_self
    rw [List.flatMap_cons, List.length_append, List.length_cons, Nat.succ_mul]
    omega
theorem ord_len : ∀ k, k ≤ 6 → (ordP k).length ≤ 7 ^ k
  | 0, _ => Nat.le_refl _
  | k + 1, h => by
    have h1 := ord_len k (by omega)
    unfold ordP
    refine Nat.le_trans (flat_len _ 7 _ fun o ho => ?_) (by rw [Nat.pow_succ]; exact Nat.mul_le_mul_right _ h1)
    have := ((ord_mem k o).mp ho).len
    rw [List.length_map, List.length_range]
    omega
theorem orders_mid (k : Nat) (hk : k ≤ 5) (a0 a1 : SL) (s4 : Option Tr) :
    ∃ s4' : Option Tr, forT (mName 4) B__law_orders_1 ((ordP k).map fun p => Tr.tpl (wL p)) [a0, a1, .val (.imm (.int (k : Nat))), .val (tplT []), ov s4, .no] = some (.nx [a0, a1, .val (.imm (.int (k : Nat))), .val (tplT (ordP (k + 1))), ov s4', .no]) := by
  have h7 : (ordP k).length ≤ 16807 := Nat.le_trans (ord_len k (by omega)) (Nat.le_trans (Nat.pow_le_pow_right (by decide) hk) (by decide))
  obtain ⟨E', e, s4', rfl⟩ := forT_inv (g := mName 4) (ms := B__law_orders_1)
    (fun t E => ∃ s4 : Option Tr, E = [a0, a1, .val (.imm (.int (k : Nat))), .val (tplT (((ordP k).take t).flatMap fun o => (List.range (o.length + 1)).map (putAt o k))), ov s4, .no]) ((ordP k).map fun p => Tr.tpl (wL p))
    (fun t d E ht ⟨s4, hE⟩ => by
      rw [List.getElem?_map] at ht
      obtain ⟨o, ho, rfl⟩ := Option.map_eq_some_iff.mp ht
      have hol := ((ord_mem k o).mp (List.mem_of_getElem? ho)).len
      have hP : (((ordP k).take t).flatMap fun o => (List.range (o.length + 1)).map (putAt o k)).length ≤ 1000000 := by
        have := flat_len (fun o => (List.range (o.length + 1)).map (putAt o k)) 7 ((ordP k).take t) fun o ho => by
          have := ((ord_mem k o).mp (List.mem_of_mem_take ho)).len
          rw [List.length_map, List.length_range]; omega
        have h2 : ((ordP k).take t).length ≤ 16807 := by rw [List.length_take]; omega
        omega
      have e1 := orders_inner k o (by omega) _ hP a0 a1
      have hs : (((ordP k).take (t + 1)).flatMap fun o => (List.range (o.length + 1)).map (putAt o k)) = (((ordP k).take t).flatMap fun o => (List.range (o.length + 1)).map (putAt o k)) ++ (List.range (o.length + 1)).map (putAt o k) := by
        rw [List.take_add_one, ho, List.flatMap_append]; simp
      rw [← hs] at e1
      refine ⟨[a0, a1, .val (.imm (.int (k : Nat))), .val (tplT (((ordP k).take t).flatMap fun o => (List.range (o.length + 1)).map (putAt o k))), .val (.tpl (wL o)), .no], [a0, a1, .val (.imm (.int (k : Nat))), .val (tplT (((ordP k).take (t + 1)).flatMap fun o => (List.range (o.length + 1)).map (putAt o k))), .val (.tpl (wL o)), .no], ?_, e1, some (.tpl (wL o)), rfl⟩
      rw [hE]
      simp -implicitDefEqProofs only [FL.v_seq, FL.v_thN, FL.v_thR, FL.v_thB, FL.v_thC, FL.v_ifS, FL.v_asg, FL.v_ret, FL.v_retN, FL.v_drop, FL.v_nx, FL.v_bk, FL.v_ct, FL.v_name, FL.v_pN, FL.v_pV, FL.v_var, FL.v_at, FL.v_trV, FL.v_trP, FL.v_wV, FL.v_wP, FL.v_C, FL.v_ER, FL.v_Fz, FL.v_fO, FL.v_fS, FL.v_fV, FL.v_fP, FL.v_fL, FL.v_vS, FL.v_vO, FL.v_op, FL.v_un, FL.v_bOf, FL.v_test, FL.v_and, FL.v_or, FL.v_not, FL.v_tru, FL.v_trB, FL.v_andV, FL.v_orV, FL.v_notV, FL.v_if, FL.v_chain, FL.v_arN, FL.v_arC, FL.v_faN, FL.v_faC, FL.v_tup, FL.v_lst, FL.v_tdN, FL.v_tdC, FL.v_tdI, FL.v_tdL, FL.toDs_imms, FL.imms_imms, FL.v_cb, FL.v_vsN, FL.v_vsC, FL.v_bm, FL.v_tyS, FL.v_tyL, FL.v_sl, FL.v_moN, FL.v_moS, FL.v_iOf, FL.v_call, FL.v_osO, FL.v_osS, FL.v_isI, FL.v_isL, FL.v_isD, FL.v_gN, FL.v_gO, FL.v_gS, FL.v_for, FL.v_lc, FL.v_sub, FL.v_sub2, FL.v_iAt, FL.v_iC, FL.v_aug, FL.v_par, FL.v_mut, FL.v_rng1, FL.v_rng2, FL.v_seqI, FL.v_enumE, FL.v_enumT, FL.v_enumL, FL.v_isi, FL.v_addI, FL.v_addS, FL.v_addT, FL.v_addL, FL.v_subI, FL.v_neg, FL.v_lt, FL.v_le, FL.v_gt, FL.v_ge, FL.v_eqI, FL.v_neI, FL.v_eqS, FL.v_neS, FL.v_ixT, FL.v_ixD, FL.v_ixL, FL.v_ixS, FL.v_len, FL.v_lnT, FL.v_lnD, FL.v_lnL, FL.v_lnS, FL.v_abs, FL.v_max, FL.v_min, FL.v_int, FL.v_intB, FL.v_tuple, FL.v_list, FL.v_sqT, FL.v_sqD, FL.v_sqL, FL.v_itT, FL.v_itL, FL.v_itS, FL.v_isN, FL.v_notN, FL.v_setL, FL.v_setD, FL.v_kS, FL.v_kI, FL.v_mp, FL.v_mpn, FL.v_pO, FL.v_tupG, FL.v_gsC, FL.v_gsN, FL.v_slD, FL.v_at0, FL.v_at1, FL.v_at2, FL.v_i30, FL.v_i31, FL.v_i32, FL.v_Mv, FL.v_mvV, FL.v_pr, FL.v_wpN, FL.v_wpC, FL.v_wsN, FL.v_wsV, FL.v_wsO, FL.v_bkN, FL.v_bkC, FL.v_bsN, FL.v_bsI, FL.v_sf, FL.v_yes, FL.v_tupA, FL.v_imm, FL.v_aftN, FL.v_aftC, FL.v_aftB, FL.v_aftR, FL.v_iOp, FL.v_iLen, FL.v_dnin, FL.v_dninI, FL.v_disp1, FL.v_dispI, FL.v_mut0, FL.v_mulB, FL.v_lrg1, FL.v_trg1, FL.v_lrg2, FL.v_trg2, FL.v_fT, FL.v_rS, FL.v_rO, FL.v_plI, FL.v_plL, FL.v_plD, FL.v_plT, FL.v_vrN, FL.v_vrC, FL.v_isT, FL.callD, Option.bind_some, Option.bind_none, List.getElem?_cons_zero, List.getElem?_cons_succ, List.getElem?_nil, List.set_cons_zero, List.set_cons_succ, List.length_cons, List.length_nil, List.filterMap_cons, List.filterMap_nil, decide_eq_true_eq, if_true, if_false, true_and, and_true, Nat.reduceAdd, Nat.reduceLeDiff, Nat.reduceEqDiff, ↓reduceIte, Bool.false_eq_true, FL.startE, FL.backs, List.map_cons, List.map_nil, List.cons_append, List.nil_append, Nat.reduceSub, List.replicate_succ, List.replicate_zero, List.nodup_nil, List.nodup_cons, List.not_mem_nil, not_false_eq_true, and_self, reduceCtorEq, Option.map_some, Option.map_none, lenT_tab, lenT_row])
    [a0, a1, .val (.imm (.int (k : Nat))), .val (tplT []), ov s4, .no] ⟨s4, rfl⟩
  rw [List.length_map, List.take_length] at e
  exact ⟨s4', e⟩
theorem orders_one (n : Nat) (hn : n ≤ 6) : mFn 6 m__law_orders [.imm (.int (n : Nat))] = some (tplT (ordP n), [.imm (.int (n : Nat))]) := by
  have hr := fun E => v_rgN (n := n) (by omega) (E := E)
  obtain ⟨E', e, s2, s4, rfl⟩ := forD_inv (g := mName 2) (ms := B__law_orders_2)
    (fun k E => ∃ s2 s4 : Option Tr, E = [.val (.imm (.int (n : Nat))), .val (tplT (ordP k)), ov s2, .no, ov s4, .no]) (rangeD 0 n)
    (fun k d E hk ⟨s2, s4, hE⟩ => by
      obtain ⟨hkn, rfl⟩ := rangeD_at hk
      rw [Int.zero_add]
      obtain ⟨s4', e1⟩ := orders_mid k (by omega) (.val (.imm (.int (n : Nat)))) .no s4
      have mv1 : ∀ S4 : SL, mMv 1 [.val (.imm (.int (n : Nat))), .val (tplT (ordP k)), .val (.imm (.int (k : Nat))), .val (tplT []), S4, .no] = some (tplT (ordP k), [.val (.imm (.int (n : Nat))), .no, .val (.imm (.int (k : Nat))), .val (tplT []), S4, .no]) := fun _ => rfl
      have mv3 : ∀ S4 : SL, mMv 3 [.val (.imm (.int (n : Nat))), .no, .val (.imm (.int (k : Nat))), .val (tplT (ordP (k + 1))), S4, .no] = some (tplT (ordP (k + 1)), [.val (.imm (.int (n : Nat))), .no, .val (.imm (.int (k : Nat))), .no, S4, .no]) := fun _ => rfl
      have fl : ∀ E : En, forL (mName 4) B__law_orders_1 (tplT (ordP k)) E = forT (mName 4) B__law_orders_1 ((ordP k).map fun p => Tr.tpl (wL p)) E := fun _ => rfl
      have t0 : Tr.lst [] = tplT [] := rfl
      refine ⟨[.val (.imm (.int (n : Nat))), .val (tplT (ordP k)), .val (.imm (.int (k : Nat))), .no, ov s4, .no], [.val (.imm (.int (n : Nat))), .val (tplT (ordP (k + 1))), .val (.imm (.int (k : Nat))), .no, ov s4', .no], by rw [hE]; simp -implicitDefEqProofs only [FL.v_seq, FL.v_thN, FL.v_thR, FL.v_thB, FL.v_thC, FL.v_ifS, FL.v_asg, FL.v_ret, FL.v_retN, FL.v_drop, FL.v_nx, FL.v_bk, FL.v_ct, FL.v_name, FL.v_pN, FL.v_pV, FL.v_var, FL.v_at, FL.v_trV, FL.v_trP, FL.v_wV, FL.v_wP, FL.v_C, FL.v_ER, FL.v_Fz, FL.v_fO, FL.v_fS, FL.v_fV, FL.v_fP, FL.v_fL, FL.v_vS, FL.v_vO, FL.v_op, FL.v_un, FL.v_bOf, FL.v_test, FL.v_and, FL.v_or, FL.v_not, FL.v_tru, FL.v_trB, FL.v_andV, FL.v_orV, FL.v_notV, FL.v_if, FL.v_chain, FL.v_arN, FL.v_arC, FL.v_faN, FL.v_faC, FL.v_tup, FL.v_lst, FL.v_tdN, FL.v_tdC, FL.v_tdI, FL.v_tdL, FL.toDs_imms, FL.imms_imms, FL.v_cb, FL.v_vsN, FL.v_vsC, FL.v_bm, FL.v_tyS, FL.v_tyL, FL.v_sl, FL.v_moN, FL.v_moS, FL.v_iOf, FL.v_call, FL.v_osO, FL.v_osS, FL.v_isI, FL.v_isL, FL.v_isD, FL.v_gN, FL.v_gO, FL.v_gS, FL.v_for, FL.v_lc, FL.v_sub, FL.v_sub2, FL.v_iAt, FL.v_iC, FL.v_aug, FL.v_par, FL.v_mut, FL.v_rng1, FL.v_rng2, FL.v_seqI, FL.v_enumE, FL.v_enumT, FL.v_enumL, FL.v_isi, FL.v_addI, FL.v_addS, FL.v_addT, FL.v_addL, FL.v_subI, FL.v_neg, FL.v_lt, FL.v_le, FL.v_gt, FL.v_ge, FL.v_eqI, FL.v_neI, FL.v_eqS, FL.v_neS, FL.v_ixT, FL.v_ixD, FL.v_ixL, FL.v_ixS, FL.v_len, FL.v_lnT, FL.v_lnD, FL.v_lnL, FL.v_lnS, FL.v_abs, FL.v_max, FL.v_min, FL.v_int, FL.v_intB, FL.v_tuple, FL.v_list, FL.v_sqT, FL.v_sqD, FL.v_sqL, FL.v_itT, FL.v_itL, FL.v_itS, FL.v_isN, FL.v_notN, FL.v_setL, FL.v_setD, FL.v_kS, FL.v_kI, FL.v_mp, FL.v_mpn, FL.v_pO, FL.v_tupG, FL.v_gsC, FL.v_gsN, FL.v_slD, FL.v_at0, FL.v_at1, FL.v_at2, FL.v_i30, FL.v_i31, FL.v_i32, FL.v_Mv, FL.v_mvV, FL.v_pr, FL.v_wpN, FL.v_wpC, FL.v_wsN, FL.v_wsV, FL.v_wsO, FL.v_bkN, FL.v_bkC, FL.v_bsN, FL.v_bsI, FL.v_sf, FL.v_yes, FL.v_tupA, FL.v_imm, FL.v_aftN, FL.v_aftC, FL.v_aftB, FL.v_aftR, FL.v_iOp, FL.v_iLen, FL.v_dnin, FL.v_dninI, FL.v_disp1, FL.v_dispI, FL.v_mut0, FL.v_mulB, FL.v_lrg1, FL.v_trg1, FL.v_lrg2, FL.v_trg2, FL.v_fT, FL.v_rS, FL.v_rO, FL.v_plI, FL.v_plL, FL.v_plD, FL.v_plT, FL.v_vrN, FL.v_vrC, FL.v_isT, FL.callD, Option.bind_some, Option.bind_none, List.getElem?_cons_zero, List.getElem?_cons_succ, List.getElem?_nil, List.set_cons_zero, List.set_cons_succ, List.length_cons, List.length_nil, List.filterMap_cons, List.filterMap_nil, decide_eq_true_eq, if_true, if_false, true_and, and_true, Nat.reduceAdd, Nat.reduceLeDiff, Nat.reduceEqDiff, ↓reduceIte, Bool.false_eq_true, FL.startE, FL.backs, List.map_cons, List.map_nil, List.cons_append, List.nil_append, Nat.reduceSub, List.replicate_succ, List.replicate_zero, List.nodup_nil, List.nodup_cons, List.not_mem_nil, not_false_eq_true, and_self, reduceCtorEq, Option.map_some, Option.map_none, lenT_tab, lenT_row], .inl ?_, some (.imm (.int (k : Nat))), s4', rfl⟩
      unfold B__law_orders_2
      simp -implicitDefEqProofs only [FL.v_seq, FL.v_thN, FL.v_thR, FL.v_thB, FL.v_thC, FL.v_ifS, FL.v_asg, FL.v_ret, FL.v_retN, FL.v_drop, FL.v_nx, FL.v_bk, FL.v_ct, FL.v_name, FL.v_pN, FL.v_pV, FL.v_var, FL.v_at, FL.v_trV, FL.v_trP, FL.v_wV, FL.v_wP, FL.v_C, FL.v_ER, FL.v_Fz, FL.v_fO, FL.v_fS, FL.v_fV, FL.v_fP, FL.v_fL, FL.v_vS, FL.v_vO, FL.v_op, FL.v_un, FL.v_bOf, FL.v_test, FL.v_and, FL.v_or, FL.v_not, FL.v_tru, FL.v_trB, FL.v_andV, FL.v_orV, FL.v_notV, FL.v_if, FL.v_chain, FL.v_arN, FL.v_arC, FL.v_faN, FL.v_faC, FL.v_tup, FL.v_lst, FL.v_tdN, FL.v_tdC, FL.v_tdI, FL.v_tdL, FL.toDs_imms, FL.imms_imms, FL.v_cb, FL.v_vsN, FL.v_vsC, FL.v_bm, FL.v_tyS, FL.v_tyL, FL.v_sl, FL.v_moN, FL.v_moS, FL.v_iOf, FL.v_call, FL.v_osO, FL.v_osS, FL.v_isI, FL.v_isL, FL.v_isD, FL.v_gN, FL.v_gO, FL.v_gS, FL.v_for, FL.v_lc, FL.v_sub, FL.v_sub2, FL.v_iAt, FL.v_iC, FL.v_aug, FL.v_par, FL.v_mut, FL.v_rng1, FL.v_rng2, FL.v_seqI, FL.v_enumE, FL.v_enumT, FL.v_enumL, FL.v_isi, FL.v_addI, FL.v_addS, FL.v_addT, FL.v_addL, FL.v_subI, FL.v_neg, FL.v_lt, FL.v_le, FL.v_gt, FL.v_ge, FL.v_eqI, FL.v_neI, FL.v_eqS, FL.v_neS, FL.v_ixT, FL.v_ixD, FL.v_ixL, FL.v_ixS, FL.v_len, FL.v_lnT, FL.v_lnD, FL.v_lnL, FL.v_lnS, FL.v_abs, FL.v_max, FL.v_min, FL.v_int, FL.v_intB, FL.v_tuple, FL.v_list, FL.v_sqT, FL.v_sqD, FL.v_sqL, FL.v_itT, FL.v_itL, FL.v_itS, FL.v_isN, FL.v_notN, FL.v_setL, FL.v_setD, FL.v_kS, FL.v_kI, FL.v_mp, FL.v_mpn, FL.v_pO, FL.v_tupG, FL.v_gsC, FL.v_gsN, FL.v_slD, FL.v_at0, FL.v_at1, FL.v_at2, FL.v_i30, FL.v_i31, FL.v_i32, FL.v_Mv, FL.v_mvV, FL.v_pr, FL.v_wpN, FL.v_wpC, FL.v_wsN, FL.v_wsV, FL.v_wsO, FL.v_bkN, FL.v_bkC, FL.v_bsN, FL.v_bsI, FL.v_sf, FL.v_yes, FL.v_tupA, FL.v_imm, FL.v_aftN, FL.v_aftC, FL.v_aftB, FL.v_aftR, FL.v_iOp, FL.v_iLen, FL.v_dnin, FL.v_dninI, FL.v_disp1, FL.v_dispI, FL.v_mut0, FL.v_mulB, FL.v_lrg1, FL.v_trg1, FL.v_lrg2, FL.v_trg2, FL.v_fT, FL.v_rS, FL.v_rO, FL.v_plI, FL.v_plL, FL.v_plD, FL.v_plT, FL.v_vrN, FL.v_vrC, FL.v_isT, FL.callD, Option.bind_some, Option.bind_none, List.getElem?_cons_zero, List.getElem?_cons_succ, List.getElem?_nil, List.set_cons_zero, List.set_cons_succ, List.length_cons, List.length_nil, List.filterMap_cons, List.filterMap_nil, decide_eq_true_eq, if_true, if_false, true_and, and_true, Nat.reduceAdd, Nat.reduceLeDiff, Nat.reduceEqDiff, ↓reduceIte, Bool.false_eq_true, FL.startE, FL.backs, List.map_cons, List.map_nil, List.cons_append, List.nil_append, Nat.reduceSub, List.replicate_succ, List.replicate_zero, List.nodup_nil, List.nodup_cons, List.not_mem_nil, not_false_eq_true, and_self, reduceCtorEq, Option.map_some, Option.map_none, lenT_tab, lenT_row, Nat.zero_le, t0, v_forT, mv1, fl, e1, mv3])
    [.val (.imm (.int (n : Nat))), .val (tplT (ordP 0)), .no, .no, .no, .no] ⟨none, none, rfl⟩
  rw [rangeD_len] at e
  have t1 : Tr.lst [.tpl []] = tplT (ordP 0) := rfl
  have mv : ∀ S2 S4 : SL, mMv 1 [.val (.imm (.int (n : Nat))), .val (tplT (ordP n)), S2, .no, S4, .no] = some (tplT (ordP n), [.val (.imm (.int (n : Nat))), .no, S2, .no, S4, .no]) := fun _ _ => rfl
  have im : imms [] = some [] := rfl
  rw [v_fn]
  unfold m__law_orders
  simp -implicitDefEqProofs only [FL.v_seq, FL.v_thN, FL.v_thR, FL.v_thB, FL.v_thC, FL.v_ifS, FL.v_asg, FL.v_ret, FL.v_retN, FL.v_drop, FL.v_nx, FL.v_bk, FL.v_ct, FL.v_name, FL.v_pN, FL.v_pV, FL.v_var, FL.v_at, FL.v_trV, FL.v_trP, FL.v_wV, FL.v_wP, FL.v_C, FL.v_ER, FL.v_Fz, FL.v_fO, FL.v_fS, FL.v_fV, FL.v_fP, FL.v_fL, FL.v_vS, FL.v_vO, FL.v_op, FL.v_un, FL.v_bOf, FL.v_test, FL.v_and, FL.v_or, FL.v_not, FL.v_tru, FL.v_trB, FL.v_andV, FL.v_orV, FL.v_notV, FL.v_if, FL.v_chain, FL.v_arN, FL.v_arC, FL.v_faN, FL.v_faC, FL.v_tup, FL.v_lst, FL.v_tdN, FL.v_tdC, FL.v_tdI, FL.v_tdL, FL.toDs_imms, FL.imms_imms, FL.v_cb, FL.v_vsN, FL.v_vsC, FL.v_bm, FL.v_tyS, FL.v_tyL, FL.v_sl, FL.v_moN, FL.v_moS, FL.v_iOf, FL.v_call, FL.v_osO, FL.v_osS, FL.v_isI, FL.v_isL, FL.v_isD, FL.v_gN, FL.v_gO, FL.v_gS, FL.v_for, FL.v_lc, FL.v_sub, FL.v_sub2, FL.v_iAt, FL.v_iC, FL.v_aug, FL.v_par, FL.v_mut, FL.v_rng1, FL.v_rng2, FL.v_seqI, FL.v_enumE, FL.v_enumT, FL.v_enumL, FL.v_isi, FL.v_addI, FL.v_addS, FL.v_addT, FL.v_addL, FL.v_subI, FL.v_neg, FL.v_lt, FL.v_le, FL.v_gt, FL.v_ge, FL.v_eqI, FL.v_neI, FL.v_eqS, FL.v_neS, FL.v_ixT, FL.v_ixD, FL.v_ixL, FL.v_ixS, FL.v_len, FL.v_lnT, FL.v_lnD, FL.v_lnL, FL.v_lnS, FL.v_abs, FL.v_max, FL.v_min, FL.v_int, FL.v_intB, FL.v_tuple, FL.v_list, FL.v_sqT, FL.v_sqD, FL.v_sqL, FL.v_itT, FL.v_itL, FL.v_itS, FL.v_isN, FL.v_notN, FL.v_setL, FL.v_setD, FL.v_kS, FL.v_kI, FL.v_mp, FL.v_mpn, FL.v_pO, FL.v_tupG, FL.v_gsC, FL.v_gsN, FL.v_slD, FL.v_at0, FL.v_at1, FL.v_at2, FL.v_i30, FL.v_i31, FL.v_i32, FL.v_Mv, FL.v_mvV, FL.v_pr, FL.v_wpN, FL.v_wpC, FL.v_wsN, FL.v_wsV, FL.v_wsO, FL.v_bkN, FL.v_bkC, FL.v_bsN, FL.v_bsI, FL.v_sf, FL.v_yes, FL.v_tupA, FL.v_imm, FL.v_aftN, FL.v_aftC, FL.v_aftB, FL.v_aftR, FL.v_iOp, FL.v_iLen, FL.v_dnin, FL.v_dninI, FL.v_disp1, FL.v_dispI, FL.v_mut0, FL.v_mulB, FL.v_lrg1, FL.v_trg1, FL.v_lrg2, FL.v_trg2, FL.v_fT, FL.v_rS, FL.v_rO, FL.v_plI, FL.v_plL, FL.v_plD, FL.v_plT, FL.v_vrN, FL.v_vrC, FL.v_isT, FL.callD, Option.bind_some, Option.bind_none, List.getElem?_cons_zero, List.getElem?_cons_succ, List.getElem?_nil, List.set_cons_zero, List.set_cons_succ, List.length_cons, List.length_nil, List.filterMap_cons, List.filterMap_nil, decide_eq_true_eq, if_true, if_false, true_and, and_true, Nat.reduceAdd, Nat.reduceLeDiff, Nat.reduceEqDiff, ↓reduceIte, Bool.false_eq_true, FL.startE, FL.backs, List.map_cons, List.map_nil, List.cons_append, List.nil_append, Nat.reduceSub, List.replicate_succ, List.replicate_zero, List.nodup_nil, List.nodup_cons, List.not_mem_nil, not_false_eq_true, and_self, reduceCtorEq, Option.map_some, Option.map_none, lenT_tab, lenT_row, v_tupM, im, Nat.zero_le, show (1 ≤ 16777216) = True from eq_true (by decide), t1, hr, e, mv]

end WK

namespace WK
open PySem L2 FL
/-! ### orders and places -/
theorem Ord.has {n : Nat} {p : List Nat} (h : Ord n p) {a : Nat} (ha : a < n) : a ∈ p := by
  refine Classical.byContradiction fun z => ?_
  have nd : (a :: p).Nodup := List.nodup_cons.mpr ⟨z, h.nd⟩
  have := pigeon n (a :: p) nd fun x hx => (List.mem_cons.mp hx).elim (fun e => e ▸ ha) (h.lt x)
  rw [List.length_cons, h.len] at this
  omega
theorem Ord.ix {n : Nat} {p : List Nat} (h : Ord n p) {a : Nat} (ha : a < n) : p.idxOf a < n ∧ p.getD (p.idxOf a) 0 = a := by
  have hm := h.has ha
  have hl := List.idxOf_lt_length_of_mem hm
  refine ⟨by rw [h.len] at hl; exact hl, ?_⟩
  rw [List.getD_eq_getElem?_getD, List.getElem?_eq_getElem hl]
  exact List.getElem_idxOf hl
theorem Ord.at {n : Nat} {p : List Nat} (h : Ord n p) {i : Nat} (hi : i < n) : p.getD i 0 < n ∧ p.idxOf (p.getD i 0) = i := by
  have hl : i < p.length := by rw [h.len]; exact hi
  have e : p.getD i 0 = p[i] := by rw [List.getD_eq_getElem?_getD, List.getElem?_eq_getElem hl]; rfl
  rw [e]
  exact ⟨h.lt _ (List.getElem_mem hl), h.nd.idxOf_getElem i hl⟩
theorem idx_cast (a : Nat) : ∀ p : List Nat, (p.map fun x : Nat => (x : Int)).idxOf (a : Int) = p.idxOf a
  | [] => rfl
  | x :: p => by
    rw [List.map_cons, List.idxOf_cons, List.idxOf_cons, idx_cast a p]
    by_cases e : x = a
    · subst e; simp
    · have h1 : ((x : Int) == (a : Int)) = false := beq_eq_false_iff_ne.mpr (by omega)
      have h2 : (x == a) = false := beq_eq_false_iff_ne.mpr e
      rw [h1, h2]
def homeN (n : Nat) (p : List Nat) : List Nat := (List.range n).map fun i => p.idxOf i
theorem nodup_inj {n : Nat} {f : Nat → Nat} (h : ∀ a b, a < n → b < n → f a = f b → a = b) : ((List.range n).map f).Nodup := by
  unfold List.Nodup
  rw [List.pairwise_map]
  refine List.Pairwise.imp_of_mem (fun {a b} ha hb hab e => hab (h a b (List.mem_range.mp ha) (List.mem_range.mp hb) e)) (List.nodup_range (n := n))
theorem range_getD {n : Nat} {f : Nat → Nat} {i : Nat} (hi : i < n) : ((List.range n).map f).getD i 0 = f i := by
  rw [List.getD_eq_getElem?_getD, range_get hi]
  rfl
theorem home_ord {n : Nat} {p : List Nat} (h : Ord n p) : Ord n (homeN n p) :=
  ⟨by unfold homeN; simp, nodup_inj fun a b ha hb e => by
    have e1 := (h.ix ha).2
    have e2 := (h.ix hb).2
    rw [← e1, ← e2, e], fun x hx => by
    obtain ⟨i, hi, rfl⟩ := List.mem_map.mp hx
    exact (h.ix (List.mem_range.mp hi)).1⟩
theorem home_ix {n : Nat} {p : List Nat} (h : Ord n p) {a : Nat} (ha : a < n) : p.idxOf ((homeN n p).idxOf a) = a := by
  obtain ⟨h1, h2⟩ := h.at ha
  have e : (homeN n p).getD (p.getD a 0) 0 = a := by
    unfold homeN
    rw [range_getD h1, h2]
  have := ((home_ord h).at h1).2
  rw [e] at this
  rw [this, h2]
theorem wL_ints (w : List Nat) : wL w = (w.map fun x : Nat => (x : Int)).map PyData.int := by
  unfold wL
  rw [List.map_map]
  rfl

end WK

namespace WK
open PySem L2 FL
/-! ### what the law reckons -/
def duD (G : Nat → Nat → Int) (n : Nat) (o : List Nat) : PyData := pairD n (sub G o) (homeN n o)
theorem depth_pair (n : Nat) (F : Nat → Nat → Int) (p : List Nat) : (pairD n F p).depth ≤ 8 := by
  have h5 := depth_ttab n F (List.range n)
  have e : (tabD n F).depth ≤ 2 := by
    rw [tab_is, PyData.depth]
    omega
  unfold pairD
  rw [PyData.depth, PyData.depthAll, PyData.depthAll, PyData.depthAll, PyData.depth, depth_wL]
  omega
theorem pair_ne (n : Nat) (F : Nat → Nat → Int) (p : List Nat) : pairD n F p ≠ .none := fun z => by cases z
theorem home_len (n : Nat) (p : List Nat) : (homeN n p).length = n := by unfold homeN; simp
theorem sp_du (G H : Nat → Nat → Int) (n : Nat) (o q : List Nat) : Sp (duD G n o) (duD H n q) := sp_pair n _ _ (by rw [home_len, home_len])
theorem lt_du (G : Nat → Nat → Int) (n : Nat) (o q : List Nat) : fLtX (.imm (duD G n o)) (.imm (duD G n q)) = some (.imm (.bool (PySem.W.dataLt (duD G n o) (duD G n q)))) := by
  unfold fLtX
  simp only [v_tdI, Option.bind_some]
  rw [if_pos ⟨(sp_du G G n o q).al, pair_ne _ _ _, depth_pair _ _ _⟩]
theorem tidx2 {n : Nat} {p : List Nat} (hp : Ord n p) (S0 S1 S3 S4 S6 : SL) {i : Nat} (hi : i < n) : mTIdx 2 (mFz (mVar 5)) [S0, S1, .val (.tpl (wL p)), S3, S4, .val (.imm (.int (i : Nat))), S6] = some (.imm (.int ((p.idxOf i : Nat) : Int)), [S0, S1, .val (.tpl (wL p)), S3, S4, .val (.imm (.int (i : Nat))), S6]) := by
  have e1 : intsOf (wL p) = some (p.map fun x : Nat => (x : Int)) := by rw [wL_ints, intsOf_map]
  have hm : ((i : Nat) : Int) ∈ p.map fun x : Nat => (x : Int) := List.mem_map.mpr ⟨i, hp.has hi, rfl⟩
  show (intsOf (wL p)).bind _ = _
  rw [e1, Option.bind_some]
  show (if ((i : Nat) : Int) ∈ p.map (fun x : Nat => (x : Int)) then _ else _) = _
  rw [if_pos hm, idx_cast]
/-- the best so far -/
def bestN (G : Nat → Nat → Int) (n : Nat) : Option (List Nat) → List Nat → Option (List Nat)
  | none, o => some o
  | some q, o => if PySem.W.dataLt (duD G n o) (duD G n q) = true then some o else some q
def beD (G : Nat → Nat → Int) (n : Nat) : Option (List Nat) → PyData
  | none => .none
  | some q => duD G n q
theorem due_turn {n : Nat} (hn : n ≤ 8) (G : Nat → Nat → Int) {o : List Nat} (ho : Ord n o) (b : Option (List Nat)) (S3 S4 : Option Tr) :
    ∃ s3 s4 : Option Tr, B__law_due_1 [.val (.imm (tabD n G)), .val (.imm (beD G n b)), .val (.tpl (wL o)), ov S3, ov S4, .no, .no] = some (.nx [.val (.imm (tabD n G)), .val (.imm (beD G n (bestN G n b o))), .val (.tpl (wL o)), ov s3, ov s4, .no, .no]) := by
  have lo : lenT (.imm (.tuple (wL o))) = some n := by rw [v_lnT, wL_len, ho.len]
  have hr1 := fun E => v_rgN (n := n) (by omega) (E := E)
  have hx : ∀ (S1 S3 S4 : SL) (i : Nat) (_ : i < n), X__law_due_2 [.val (.imm (tabD n G)), S1, .val (.tpl (wL o)), S3, S4, .val (.imm (.int (i : Nat))), .no] = some (.imm (.tuple (o.map fun j => PyData.int (G i j))), [.val (.imm (tabD n G)), S1, .val (.tpl (wL o)), S3, S4, .val (.imm (.int (i : Nat))), .no]) := fun S1 S3 S4 i hi => by
    have lc := lcD_imm (g := mName 6) (m := X__law_due_1) (vs := [6]) (E := [.val (.imm (tabD n G)), S1, .val (.tpl (wL o)), S3, S4, .val (.imm (.int (i : Nat))), .no]) (fun j : Nat => PyData.int (j : Nat)) (fun j => PyData.int (G i j)) o (fun j hj => by
      have k1 := tabF_at (G := G) hi
      have k2 := rowD_at (G := G) (i := i) (ho.lt j hj)
      exact ⟨[.val (.imm (tabD n G)), S1, .val (.tpl (wL o)), S3, S4, .val (.imm (.int (i : Nat))), .val (.imm (.int (j : Nat)))], [.val (.imm (tabD n G)), S1, .val (.tpl (wL o)), S3, S4, .val (.imm (.int (i : Nat))), .val (.imm (.int (j : Nat)))], by simp -implicitDefEqProofs only [FL.v_seq, FL.v_thN, FL.v_thR, FL.v_thB, FL.v_thC, FL.v_ifS, FL.v_asg, FL.v_ret, FL.v_retN, FL.v_drop, FL.v_nx, FL.v_bk, FL.v_ct, FL.v_name, FL.v_pN, FL.v_pV, FL.v_var, FL.v_at, FL.v_trV, FL.v_trP, FL.v_wV, FL.v_wP, FL.v_C, FL.v_ER, FL.v_Fz, FL.v_fO, FL.v_fS, FL.v_fV, FL.v_fP, FL.v_fL, FL.v_vS, FL.v_vO, FL.v_op, FL.v_un, FL.v_bOf, FL.v_test, FL.v_and, FL.v_or, FL.v_not, FL.v_tru, FL.v_trB, FL.v_andV, FL.v_orV, FL.v_notV, FL.v_if, FL.v_chain, FL.v_arN, FL.v_arC, FL.v_faN, FL.v_faC, FL.v_tup, FL.v_lst, FL.v_tdN, FL.v_tdC, FL.v_tdI, FL.v_tdL, FL.toDs_imms, FL.imms_imms, FL.v_cb, FL.v_vsN, FL.v_vsC, FL.v_bm, FL.v_tyS, FL.v_tyL, FL.v_sl, FL.v_moN, FL.v_moS, FL.v_iOf, FL.v_call, FL.v_osO, FL.v_osS, FL.v_isI, FL.v_isL, FL.v_isD, FL.v_gN, FL.v_gO, FL.v_gS, FL.v_for, FL.v_lc, FL.v_sub, FL.v_sub2, FL.v_iAt, FL.v_iC, FL.v_aug, FL.v_par, FL.v_mut, FL.v_rng1, FL.v_rng2, FL.v_seqI, FL.v_enumE, FL.v_enumT, FL.v_enumL, FL.v_isi, FL.v_addI, FL.v_addS, FL.v_addT, FL.v_addL, FL.v_subI, FL.v_neg, FL.v_lt, FL.v_le, FL.v_gt, FL.v_ge, FL.v_eqI, FL.v_neI, FL.v_eqS, FL.v_neS, FL.v_ixT, FL.v_ixD, FL.v_ixL, FL.v_ixS, FL.v_len, FL.v_lnT, FL.v_lnD, FL.v_lnL, FL.v_lnS, FL.v_abs, FL.v_max, FL.v_min, FL.v_int, FL.v_intB, FL.v_tuple, FL.v_list, FL.v_sqT, FL.v_sqD, FL.v_sqL, FL.v_itT, FL.v_itL, FL.v_itS, FL.v_isN, FL.v_notN, FL.v_setL, FL.v_setD, FL.v_kS, FL.v_kI, FL.v_mp, FL.v_mpn, FL.v_pO, FL.v_tupG, FL.v_gsC, FL.v_gsN, FL.v_slD, FL.v_at0, FL.v_at1, FL.v_at2, FL.v_i30, FL.v_i31, FL.v_i32, FL.v_Mv, FL.v_mvV, FL.v_pr, FL.v_wpN, FL.v_wpC, FL.v_wsN, FL.v_wsV, FL.v_wsO, FL.v_bkN, FL.v_bkC, FL.v_bsN, FL.v_bsI, FL.v_sf, FL.v_yes, FL.v_tupA, FL.v_imm, FL.v_aftN, FL.v_aftC, FL.v_aftB, FL.v_aftR, FL.v_iOp, FL.v_iLen, FL.v_dnin, FL.v_dninI, FL.v_disp1, FL.v_dispI, FL.v_mut0, FL.v_mulB, FL.v_lrg1, FL.v_trg1, FL.v_lrg2, FL.v_trg2, FL.v_fT, FL.v_rS, FL.v_rO, FL.v_plI, FL.v_plL, FL.v_plD, FL.v_plT, FL.v_vrN, FL.v_vrC, FL.v_isT, FL.callD, Option.bind_some, Option.bind_none, List.getElem?_cons_zero, List.getElem?_cons_succ, List.getElem?_nil, List.set_cons_zero, List.set_cons_succ, List.length_cons, List.length_nil, List.filterMap_cons, List.filterMap_nil, decide_eq_true_eq, if_true, if_false, true_and, and_true, Nat.reduceAdd, Nat.reduceLeDiff, Nat.reduceEqDiff, ↓reduceIte, Bool.false_eq_true, FL.startE, FL.backs, List.map_cons, List.map_nil, List.cons_append, List.nil_append, Nat.reduceSub, List.replicate_succ, List.replicate_zero, List.nodup_nil, List.nodup_cons, List.not_mem_nil, not_false_eq_true, and_self, reduceCtorEq, Option.map_some, Option.map_none, lenT_tab, lenT_row], by unfold X__law_due_1; simp -implicitDefEqProofs only [FL.v_seq, FL.v_thN, FL.v_thR, FL.v_thB, FL.v_thC, FL.v_ifS, FL.v_asg, FL.v_ret, FL.v_retN, FL.v_drop, FL.v_nx, FL.v_bk, FL.v_ct, FL.v_name, FL.v_pN, FL.v_pV, FL.v_var, FL.v_at, FL.v_trV, FL.v_trP, FL.v_wV, FL.v_wP, FL.v_C, FL.v_ER, FL.v_Fz, FL.v_fO, FL.v_fS, FL.v_fV, FL.v_fP, FL.v_fL, FL.v_vS, FL.v_vO, FL.v_op, FL.v_un, FL.v_bOf, FL.v_test, FL.v_and, FL.v_or, FL.v_not, FL.v_tru, FL.v_trB, FL.v_andV, FL.v_orV, FL.v_notV, FL.v_if, FL.v_chain, FL.v_arN, FL.v_arC, FL.v_faN, FL.v_faC, FL.v_tup, FL.v_lst, FL.v_tdN, FL.v_tdC, FL.v_tdI, FL.v_tdL, FL.toDs_imms, FL.imms_imms, FL.v_cb, FL.v_vsN, FL.v_vsC, FL.v_bm, FL.v_tyS, FL.v_tyL, FL.v_sl, FL.v_moN, FL.v_moS, FL.v_iOf, FL.v_call, FL.v_osO, FL.v_osS, FL.v_isI, FL.v_isL, FL.v_isD, FL.v_gN, FL.v_gO, FL.v_gS, FL.v_for, FL.v_lc, FL.v_sub, FL.v_sub2, FL.v_iAt, FL.v_iC, FL.v_aug, FL.v_par, FL.v_mut, FL.v_rng1, FL.v_rng2, FL.v_seqI, FL.v_enumE, FL.v_enumT, FL.v_enumL, FL.v_isi, FL.v_addI, FL.v_addS, FL.v_addT, FL.v_addL, FL.v_subI, FL.v_neg, FL.v_lt, FL.v_le, FL.v_gt, FL.v_ge, FL.v_eqI, FL.v_neI, FL.v_eqS, FL.v_neS, FL.v_ixT, FL.v_ixD, FL.v_ixL, FL.v_ixS, FL.v_len, FL.v_lnT, FL.v_lnD, FL.v_lnL, FL.v_lnS, FL.v_abs, FL.v_max, FL.v_min, FL.v_int, FL.v_intB, FL.v_tuple, FL.v_list, FL.v_sqT, FL.v_sqD, FL.v_sqL, FL.v_itT, FL.v_itL, FL.v_itS, FL.v_isN, FL.v_notN, FL.v_setL, FL.v_setD, FL.v_kS, FL.v_kI, FL.v_mp, FL.v_mpn, FL.v_pO, FL.v_tupG, FL.v_gsC, FL.v_gsN, FL.v_slD, FL.v_at0, FL.v_at1, FL.v_at2, FL.v_i30, FL.v_i31, FL.v_i32, FL.v_Mv, FL.v_mvV, FL.v_pr, FL.v_wpN, FL.v_wpC, FL.v_wsN, FL.v_wsV, FL.v_wsO, FL.v_bkN, FL.v_bkC, FL.v_bsN, FL.v_bsI, FL.v_sf, FL.v_yes, FL.v_tupA, FL.v_imm, FL.v_aftN, FL.v_aftC, FL.v_aftB, FL.v_aftR, FL.v_iOp, FL.v_iLen, FL.v_dnin, FL.v_dninI, FL.v_disp1, FL.v_dispI, FL.v_mut0, FL.v_mulB, FL.v_lrg1, FL.v_trg1, FL.v_lrg2, FL.v_trg2, FL.v_fT, FL.v_rS, FL.v_rO, FL.v_plI, FL.v_plL, FL.v_plD, FL.v_plT, FL.v_vrN, FL.v_vrC, FL.v_isT, FL.callD, Option.bind_some, Option.bind_none, List.getElem?_cons_zero, List.getElem?_cons_succ, List.getElem?_nil, List.set_cons_zero, List.set_cons_succ, List.length_cons, List.length_nil, List.filterMap_cons, List.filterMap_nil, decide_eq_true_eq, if_true, if_false, true_and, and_true, Nat.reduceAdd, Nat.reduceLeDiff, Nat.reduceEqDiff, ↓reduceIte, Bool.false_eq_true, FL.startE, FL.backs, List.map_cons, List.map_nil, List.cons_append, List.nil_append, Nat.reduceSub, List.replicate_succ, List.replicate_zero, List.nodup_nil, List.nodup_cons, List.not_mem_nil, not_false_eq_true, and_self, reduceCtorEq, Option.map_some, Option.map_none, lenT_tab, lenT_row, k1, k2], by simp -implicitDefEqProofs only [FL.v_seq, FL.v_thN, FL.v_thR, FL.v_thB, FL.v_thC, FL.v_ifS, FL.v_asg, FL.v_ret, FL.v_retN, FL.v_drop, FL.v_nx, FL.v_bk, FL.v_ct, FL.v_name, FL.v_pN, FL.v_pV, FL.v_var, FL.v_at, FL.v_trV, FL.v_trP, FL.v_wV, FL.v_wP, FL.v_C, FL.v_ER, FL.v_Fz, FL.v_fO, FL.v_fS, FL.v_fV, FL.v_fP, FL.v_fL, FL.v_vS, FL.v_vO, FL.v_op, FL.v_un, FL.v_bOf, FL.v_test, FL.v_and, FL.v_or, FL.v_not, FL.v_tru, FL.v_trB, FL.v_andV, FL.v_orV, FL.v_notV, FL.v_if, FL.v_chain, FL.v_arN, FL.v_arC, FL.v_faN, FL.v_faC, FL.v_tup, FL.v_lst, FL.v_tdN, FL.v_tdC, FL.v_tdI, FL.v_tdL, FL.toDs_imms, FL.imms_imms, FL.v_cb, FL.v_vsN, FL.v_vsC, FL.v_bm, FL.v_tyS, FL.v_tyL, FL.v_sl, FL.v_moN, FL.v_moS, FL.v_iOf, FL.v_call, FL.v_osO, FL.v_osS, FL.v_isI, FL.v_isL, FL.v_isD, FL.v_gN, FL.v_gO, FL.v_gS, FL.v_for, FL.v_lc, FL.v_sub, FL.v_sub2, FL.v_iAt, FL.v_iC, FL.v_aug, FL.v_par, FL.v_mut, FL.v_rng1, FL.v_rng2, FL.v_seqI, FL.v_enumE, FL.v_enumT, FL.v_enumL, FL.v_isi, FL.v_addI, FL.v_addS, FL.v_addT, FL.v_addL, FL.v_subI, FL.v_neg, FL.v_lt, FL.v_le, FL.v_gt, FL.v_ge, FL.v_eqI, FL.v_neI, FL.v_eqS, FL.v_neS, FL.v_ixT, FL.v_ixD, FL.v_ixL, FL.v_ixS, FL.v_len, FL.v_lnT, FL.v_lnD, FL.v_lnL, FL.v_lnS, FL.v_abs, FL.v_max, FL.v_min, FL.v_int, FL.v_intB, FL.v_tuple, FL.v_list, FL.v_sqT, FL.v_sqD, FL.v_sqL, FL.v_itT, FL.v_itL, FL.v_itS, FL.v_isN, FL.v_notN, FL.v_setL, FL.v_setD, FL.v_kS, FL.v_kI, FL.v_mp, FL.v_mpn, FL.v_pO, FL.v_tupG, FL.v_gsC, FL.v_gsN, FL.v_slD, FL.v_at0, FL.v_at1, FL.v_at2, FL.v_i30, FL.v_i31, FL.v_i32, FL.v_Mv, FL.v_mvV, FL.v_pr, FL.v_wpN, FL.v_wpC, FL.v_wsN, FL.v_wsV, FL.v_wsO, FL.v_bkN, FL.v_bkC, FL.v_bsN, FL.v_bsI, FL.v_sf, FL.v_yes, FL.v_tupA, FL.v_imm, FL.v_aftN, FL.v_aftC, FL.v_aftB, FL.v_aftR, FL.v_iOp, FL.v_iLen, FL.v_dnin, FL.v_dninI, FL.v_disp1, FL.v_dispI, FL.v_mut0, FL.v_mulB, FL.v_lrg1, FL.v_trg1, FL.v_lrg2, FL.v_trg2, FL.v_fT, FL.v_rS, FL.v_rO, FL.v_plI, FL.v_plL, FL.v_plD, FL.v_plT, FL.v_vrN, FL.v_vrC, FL.v_isT, FL.callD, Option.bind_some, Option.bind_none, List.getElem?_cons_zero, List.getElem?_cons_succ, List.getElem?_nil, List.set_cons_zero, List.set_cons_succ, List.length_cons, List.length_nil, List.filterMap_cons, List.filterMap_nil, decide_eq_true_eq, if_true, if_false, true_and, and_true, Nat.reduceAdd, Nat.reduceLeDiff, Nat.reduceEqDiff, ↓reduceIte, Bool.false_eq_true, FL.startE, FL.backs, List.map_cons, List.map_nil, List.cons_append, List.nil_append, Nat.reduceSub, List.replicate_succ, List.replicate_zero, List.nodup_nil, List.nodup_cons, List.not_mem_nil, not_false_eq_true, and_self, reduceCtorEq, Option.map_some, Option.map_none, lenT_tab, lenT_row]⟩) (by rw [ho.len]; omega)
    change lcD _ _ _ _ (wL o) _ _ = _ at lc
    unfold X__law_due_2
    simp -implicitDefEqProofs only [FL.v_seq, FL.v_thN, FL.v_thR, FL.v_thB, FL.v_thC, FL.v_ifS, FL.v_asg, FL.v_ret, FL.v_retN, FL.v_drop, FL.v_nx, FL.v_bk, FL.v_ct, FL.v_name, FL.v_pN, FL.v_pV, FL.v_var, FL.v_at, FL.v_trV, FL.v_trP, FL.v_wV, FL.v_wP, FL.v_C, FL.v_ER, FL.v_Fz, FL.v_fO, FL.v_fS, FL.v_fV, FL.v_fP, FL.v_fL, FL.v_vS, FL.v_vO, FL.v_op, FL.v_un, FL.v_bOf, FL.v_test, FL.v_and, FL.v_or, FL.v_not, FL.v_tru, FL.v_trB, FL.v_andV, FL.v_orV, FL.v_notV, FL.v_if, FL.v_chain, FL.v_arN, FL.v_arC, FL.v_faN, FL.v_faC, FL.v_tup, FL.v_lst, FL.v_tdN, FL.v_tdC, FL.v_tdI, FL.v_tdL, FL.toDs_imms, FL.imms_imms, FL.v_cb, FL.v_vsN, FL.v_vsC, FL.v_bm, FL.v_tyS, FL.v_tyL, FL.v_sl, FL.v_moN, FL.v_moS, FL.v_iOf, FL.v_call, FL.v_osO, FL.v_osS, FL.v_isI, FL.v_isL, FL.v_isD, FL.v_gN, FL.v_gO, FL.v_gS, FL.v_for, FL.v_lc, FL.v_sub, FL.v_sub2, FL.v_iAt, FL.v_iC, FL.v_aug, FL.v_par, FL.v_mut, FL.v_rng1, FL.v_rng2, FL.v_seqI, FL.v_enumE, FL.v_enumT, FL.v_enumL, FL.v_isi, FL.v_addI, FL.v_addS, FL.v_addT, FL.v_addL, FL.v_subI, FL.v_neg, FL.v_lt, FL.v_le, FL.v_gt, FL.v_ge, FL.v_eqI, FL.v_neI, FL.v_eqS, FL.v_neS, FL.v_ixT, FL.v_ixD, FL.v_ixL, FL.v_ixS, FL.v_len, FL.v_lnT, FL.v_lnD, FL.v_lnL, FL.v_lnS, FL.v_abs, FL.v_max, FL.v_min, FL.v_int, FL.v_intB, FL.v_tuple, FL.v_list, FL.v_sqT, FL.v_sqD, FL.v_sqL, FL.v_itT, FL.v_itL, FL.v_itS, FL.v_isN, FL.v_notN, FL.v_setL, FL.v_setD, FL.v_kS, FL.v_kI, FL.v_mp, FL.v_mpn, FL.v_pO, FL.v_tupG, FL.v_gsC, FL.v_gsN, FL.v_slD, FL.v_at0, FL.v_at1, FL.v_at2, FL.v_i30, FL.v_i31, FL.v_i32, FL.v_Mv, FL.v_mvV, FL.v_pr, FL.v_wpN, FL.v_wpC, FL.v_wsN, FL.v_wsV, FL.v_wsO, FL.v_bkN, FL.v_bkC, FL.v_bsN, FL.v_bsI, FL.v_sf, FL.v_yes, FL.v_tupA, FL.v_imm, FL.v_aftN, FL.v_aftC, FL.v_aftB, FL.v_aftR, FL.v_iOp, FL.v_iLen, FL.v_dnin, FL.v_dninI, FL.v_disp1, FL.v_dispI, FL.v_mut0, FL.v_mulB, FL.v_lrg1, FL.v_trg1, FL.v_lrg2, FL.v_trg2, FL.v_fT, FL.v_rS, FL.v_rO, FL.v_plI, FL.v_plL, FL.v_plD, FL.v_plT, FL.v_vrN, FL.v_vrC, FL.v_isT, FL.callD, Option.bind_some, Option.bind_none, List.getElem?_cons_zero, List.getElem?_cons_succ, List.getElem?_nil, List.set_cons_zero, List.set_cons_succ, List.length_cons, List.length_nil, List.filterMap_cons, List.filterMap_nil, decide_eq_true_eq, if_true, if_false, true_and, and_true, Nat.reduceAdd, Nat.reduceLeDiff, Nat.reduceEqDiff, ↓reduceIte, Bool.false_eq_true, FL.startE, FL.backs, List.map_cons, List.map_nil, List.cons_append, List.nil_append, Nat.reduceSub, List.replicate_succ, List.replicate_zero, List.nodup_nil, List.nodup_cons, List.not_mem_nil, not_false_eq_true, and_self, reduceCtorEq, Option.map_some, Option.map_none, lenT_tab, lenT_row, lc]
  have lc1 := fun S1 S3 S4 : SL => lcD_imm (g := mName 5) (m := X__law_due_2) (vs := [5]) (E := [.val (.imm (tabD n G)), S1, .val (.tpl (wL o)), S3, S4, .no, .no]) (fun i : Nat => PyData.int (i : Nat)) (fun i => PyData.tuple (o.map fun j => PyData.int (G i j))) o (fun i hi =>
    ⟨[.val (.imm (tabD n G)), S1, .val (.tpl (wL o)), S3, S4, .val (.imm (.int (i : Nat))), .no], [.val (.imm (tabD n G)), S1, .val (.tpl (wL o)), S3, S4, .val (.imm (.int (i : Nat))), .no], by simp -implicitDefEqProofs only [FL.v_seq, FL.v_thN, FL.v_thR, FL.v_thB, FL.v_thC, FL.v_ifS, FL.v_asg, FL.v_ret, FL.v_retN, FL.v_drop, FL.v_nx, FL.v_bk, FL.v_ct, FL.v_name, FL.v_pN, FL.v_pV, FL.v_var, FL.v_at, FL.v_trV, FL.v_trP, FL.v_wV, FL.v_wP, FL.v_C, FL.v_ER, FL.v_Fz, FL.v_fO, FL.v_fS, FL.v_fV, FL.v_fP, FL.v_fL, FL.v_vS, FL.v_vO, FL.v_op, FL.v_un, FL.v_bOf, FL.v_test, FL.v_and, FL.v_or, FL.v_not, FL.v_tru, FL.v_trB, FL.v_andV, FL.v_orV, FL.v_notV, FL.v_if, FL.v_chain, FL.v_arN, FL.v_arC, FL.v_faN, FL.v_faC, FL.v_tup, FL.v_lst, FL.v_tdN, FL.v_tdC, FL.v_tdI, FL.v_tdL, FL.toDs_imms, FL.imms_imms, FL.v_cb, FL.v_vsN, FL.v_vsC, FL.v_bm, FL.v_tyS, FL.v_tyL, FL.v_sl, FL.v_moN, FL.v_moS, FL.v_iOf, FL.v_call, FL.v_osO, FL.v_osS, FL.v_isI, FL.v_isL, FL.v_isD, FL.v_gN, FL.v_gO, FL.v_gS, FL.v_for, FL.v_lc, FL.v_sub, FL.v_sub2, FL.v_iAt, FL.v_iC, FL.v_aug, FL.v_par, FL.v_mut, FL.v_rng1, FL.v_rng2, FL.v_seqI, FL.v_enumE, FL.v_enumT, FL.v_enumL, FL.v_isi, FL.v_addI, FL.v_addS, FL.v_addT, FL.v_addL, FL.v_subI, FL.v_neg, FL.v_lt, FL.v_le, FL.v_gt, FL.v_ge, FL.v_eqI, FL.v_neI, FL.v_eqS, FL.v_neS, FL.v_ixT, FL.v_ixD, FL.v_ixL, FL.v_ixS, FL.v_len, FL.v_lnT, FL.v_lnD, FL.v_lnL, FL.v_lnS, FL.v_abs, FL.v_max, FL.v_min, FL.v_int, FL.v_intB, FL.v_tuple, FL.v_list, FL.v_sqT, FL.v_sqD, FL.v_sqL, FL.v_itT, FL.v_itL, FL.v_itS, FL.v_isN, FL.v_notN, FL.v_setL, FL.v_setD, FL.v_kS, FL.v_kI, FL.v_mp, FL.v_mpn, FL.v_pO, FL.v_tupG, FL.v_gsC, FL.v_gsN, FL.v_slD, FL.v_at0, FL.v_at1, FL.v_at2, FL.v_i30, FL.v_i31, FL.v_i32, FL.v_Mv, FL.v_mvV, FL.v_pr, FL.v_wpN, FL.v_wpC, FL.v_wsN, FL.v_wsV, FL.v_wsO, FL.v_bkN, FL.v_bkC, FL.v_bsN, FL.v_bsI, FL.v_sf, FL.v_yes, FL.v_tupA, FL.v_imm, FL.v_aftN, FL.v_aftC, FL.v_aftB, FL.v_aftR, FL.v_iOp, FL.v_iLen, FL.v_dnin, FL.v_dninI, FL.v_disp1, FL.v_dispI, FL.v_mut0, FL.v_mulB, FL.v_lrg1, FL.v_trg1, FL.v_lrg2, FL.v_trg2, FL.v_fT, FL.v_rS, FL.v_rO, FL.v_plI, FL.v_plL, FL.v_plD, FL.v_plT, FL.v_vrN, FL.v_vrC, FL.v_isT, FL.callD, Option.bind_some, Option.bind_none, List.getElem?_cons_zero, List.getElem?_cons_succ, List.getElem?_nil, List.set_cons_zero, List.set_cons_succ, List.length_cons, List.length_nil, List.filterMap_cons, List.filterMap_nil, decide_eq_true_eq, if_true, if_false, true_and, and_true, Nat.reduceAdd, Nat.reduceLeDiff, Nat.reduceEqDiff, ↓reduceIte, Bool.false_eq_true, FL.startE, FL.backs, List.map_cons, List.map_nil, List.cons_append, List.nil_append, Nat.reduceSub, List.replicate_succ, List.replicate_zero, List.nodup_nil, List.nodup_cons, List.not_mem_nil, not_false_eq_true, and_self, reduceCtorEq, Option.map_some, Option.map_none, lenT_tab, lenT_row], hx S1 S3 S4 i (ho.lt i hi), by simp -implicitDefEqProofs only [FL.v_seq, FL.v_thN, FL.v_thR, FL.v_thB, FL.v_thC, FL.v_ifS, FL.v_asg, FL.v_ret, FL.v_retN, FL.v_drop, FL.v_nx, FL.v_bk, FL.v_ct, FL.v_name, FL.v_pN, FL.v_pV, FL.v_var, FL.v_at, FL.v_trV, FL.v_trP, FL.v_wV, FL.v_wP, FL.v_C, FL.v_ER, FL.v_Fz, FL.v_fO, FL.v_fS, FL.v_fV, FL.v_fP, FL.v_fL, FL.v_vS, FL.v_vO, FL.v_op, FL.v_un, FL.v_bOf, FL.v_test, FL.v_and, FL.v_or, FL.v_not, FL.v_tru, FL.v_trB, FL.v_andV, FL.v_orV, FL.v_notV, FL.v_if, FL.v_chain, FL.v_arN, FL.v_arC, FL.v_faN, FL.v_faC, FL.v_tup, FL.v_lst, FL.v_tdN, FL.v_tdC, FL.v_tdI, FL.v_tdL, FL.toDs_imms, FL.imms_imms, FL.v_cb, FL.v_vsN, FL.v_vsC, FL.v_bm, FL.v_tyS, FL.v_tyL, FL.v_sl, FL.v_moN, FL.v_moS, FL.v_iOf, FL.v_call, FL.v_osO, FL.v_osS, FL.v_isI, FL.v_isL, FL.v_isD, FL.v_gN, FL.v_gO, FL.v_gS, FL.v_for, FL.v_lc, FL.v_sub, FL.v_sub2, FL.v_iAt, FL.v_iC, FL.v_aug, FL.v_par, FL.v_mut, FL.v_rng1, FL.v_rng2, FL.v_seqI, FL.v_enumE, FL.v_enumT, FL.v_enumL, FL.v_isi, FL.v_addI, FL.v_addS, FL.v_addT, FL.v_addL, FL.v_subI, FL.v_neg, FL.v_lt, FL.v_le, FL.v_gt, FL.v_ge, FL.v_eqI, FL.v_neI, FL.v_eqS, FL.v_neS, FL.v_ixT, FL.v_ixD, FL.v_ixL, FL.v_ixS, FL.v_len, FL.v_lnT, FL.v_lnD, FL.v_lnL, FL.v_lnS, FL.v_abs, FL.v_max, FL.v_min, FL.v_int, FL.v_intB, FL.v_tuple, FL.v_list, FL.v_sqT, FL.v_sqD, FL.v_sqL, FL.v_itT, FL.v_itL, FL.v_itS, FL.v_isN, FL.v_notN, FL.v_setL, FL.v_setD, FL.v_kS, FL.v_kI, FL.v_mp, FL.v_mpn, FL.v_pO, FL.v_tupG, FL.v_gsC, FL.v_gsN, FL.v_slD, FL.v_at0, FL.v_at1, FL.v_at2, FL.v_i30, FL.v_i31, FL.v_i32, FL.v_Mv, FL.v_mvV, FL.v_pr, FL.v_wpN, FL.v_wpC, FL.v_wsN, FL.v_wsV, FL.v_wsO, FL.v_bkN, FL.v_bkC, FL.v_bsN, FL.v_bsI, FL.v_sf, FL.v_yes, FL.v_tupA, FL.v_imm, FL.v_aftN, FL.v_aftC, FL.v_aftB, FL.v_aftR, FL.v_iOp, FL.v_iLen, FL.v_dnin, FL.v_dninI, FL.v_disp1, FL.v_dispI, FL.v_mut0, FL.v_mulB, FL.v_lrg1, FL.v_trg1, FL.v_lrg2, FL.v_trg2, FL.v_fT, FL.v_rS, FL.v_rO, FL.v_plI, FL.v_plL, FL.v_plD, FL.v_plT, FL.v_vrN, FL.v_vrC, FL.v_isT, FL.callD, Option.bind_some, Option.bind_none, List.getElem?_cons_zero, List.getElem?_cons_succ, List.getElem?_nil, List.set_cons_zero, List.set_cons_succ, List.length_cons, List.length_nil, List.filterMap_cons, List.filterMap_nil, decide_eq_true_eq, if_true, if_false, true_and, and_true, Nat.reduceAdd, Nat.reduceLeDiff, Nat.reduceEqDiff, ↓reduceIte, Bool.false_eq_true, FL.startE, FL.backs, List.map_cons, List.map_nil, List.cons_append, List.nil_append, Nat.reduceSub, List.replicate_succ, List.replicate_zero, List.nodup_nil, List.nodup_cons, List.not_mem_nil, not_false_eq_true, and_self, reduceCtorEq, Option.map_some, Option.map_none, lenT_tab, lenT_row]⟩) (by rw [ho.len]; omega)
  change ∀ S1 S3 S4 : SL, lcD _ _ _ _ (wL o) _ _ = _ at lc1
  have et : PyData.tuple (o.map fun i => PyData.tuple (o.map fun j => PyData.int (G i j))) = tabD n (sub G o) := by
    have := sub_tab G o
    rw [ho.len] at this
    exact this.symm
  have lc2 := fun S1 S3 S4 : SL => lcD_imm (g := mName 5) (m := X__law_due_3) (vs := [5]) (E := [.val (.imm (tabD n G)), S1, .val (.tpl (wL o)), S3, S4, .no, .no]) (fun i : Nat => PyData.int (i : Nat)) (fun i => PyData.int ((o.idxOf i : Nat) : Int)) (List.range n) (fun i hi =>
    ⟨[.val (.imm (tabD n G)), S1, .val (.tpl (wL o)), S3, S4, .val (.imm (.int (i : Nat))), .no], [.val (.imm (tabD n G)), S1, .val (.tpl (wL o)), S3, S4, .val (.imm (.int (i : Nat))), .no], by simp -implicitDefEqProofs only [FL.v_seq, FL.v_thN, FL.v_thR, FL.v_thB, FL.v_thC, FL.v_ifS, FL.v_asg, FL.v_ret, FL.v_retN, FL.v_drop, FL.v_nx, FL.v_bk, FL.v_ct, FL.v_name, FL.v_pN, FL.v_pV, FL.v_var, FL.v_at, FL.v_trV, FL.v_trP, FL.v_wV, FL.v_wP, FL.v_C, FL.v_ER, FL.v_Fz, FL.v_fO, FL.v_fS, FL.v_fV, FL.v_fP, FL.v_fL, FL.v_vS, FL.v_vO, FL.v_op, FL.v_un, FL.v_bOf, FL.v_test, FL.v_and, FL.v_or, FL.v_not, FL.v_tru, FL.v_trB, FL.v_andV, FL.v_orV, FL.v_notV, FL.v_if, FL.v_chain, FL.v_arN, FL.v_arC, FL.v_faN, FL.v_faC, FL.v_tup, FL.v_lst, FL.v_tdN, FL.v_tdC, FL.v_tdI, FL.v_tdL, FL.toDs_imms, FL.imms_imms, FL.v_cb, FL.v_vsN, FL.v_vsC, FL.v_bm, FL.v_tyS, FL.v_tyL, FL.v_sl, FL.v_moN, FL.v_moS, FL.v_iOf, FL.v_call, FL.v_osO, FL.v_osS, FL.v_isI, FL.v_isL, FL.v_isD, FL.v_gN, FL.v_gO, FL.v_gS, FL.v_for, FL.v_lc, FL.v_sub, FL.v_sub2, FL.v_iAt, FL.v_iC, FL.v_aug, FL.v_par, FL.v_mut, FL.v_rng1, FL.v_rng2, FL.v_seqI, FL.v_enumE, FL.v_enumT, FL.v_enumL, FL.v_isi, FL.v_addI, FL.v_addS, FL.v_addT, FL.v_addL, FL.v_subI, FL.v_neg, FL.v_lt, FL.v_le, FL.v_gt, FL.v_ge, FL.v_eqI, FL.v_neI, FL.v_eqS, FL.v_neS, FL.v_ixT, FL.v_ixD, FL.v_ixL, FL.v_ixS, FL.v_len, FL.v_lnT, FL.v_lnD, FL.v_lnL, FL.v_lnS, FL.v_abs, FL.v_max, FL.v_min, FL.v_int, FL.v_intB, FL.v_tuple, FL.v_list, FL.v_sqT, FL.v_sqD, FL.v_sqL, FL.v_itT, FL.v_itL, FL.v_itS, FL.v_isN, FL.v_notN, FL.v_setL, FL.v_setD, FL.v_kS, FL.v_kI, FL.v_mp, FL.v_mpn, FL.v_pO, FL.v_tupG, FL.v_gsC, FL.v_gsN, FL.v_slD, FL.v_at0, FL.v_at1, FL.v_at2, FL.v_i30, FL.v_i31, FL.v_i32, FL.v_Mv, FL.v_mvV, FL.v_pr, FL.v_wpN, FL.v_wpC, FL.v_wsN, FL.v_wsV, FL.v_wsO, FL.v_bkN, FL.v_bkC, FL.v_bsN, FL.v_bsI, FL.v_sf, FL.v_yes, FL.v_tupA, FL.v_imm, FL.v_aftN, FL.v_aftC, FL.v_aftB, FL.v_aftR, FL.v_iOp, FL.v_iLen, FL.v_dnin, FL.v_dninI, FL.v_disp1, FL.v_dispI, FL.v_mut0, FL.v_mulB, FL.v_lrg1, FL.v_trg1, FL.v_lrg2, FL.v_trg2, FL.v_fT, FL.v_rS, FL.v_rO, FL.v_plI, FL.v_plL, FL.v_plD, FL.v_plT, FL.v_vrN, FL.v_vrC, FL.v_isT, FL.callD, Option.bind_some, Option.bind_none, List.getElem?_cons_zero, List.getElem?_cons_succ, List.getElem?_nil, List.set_cons_zero, List.set_cons_succ, List.length_cons, List.length_nil, List.filterMap_cons, List.filterMap_nil, decide_eq_true_eq, if_true, if_false, true_and, and_true, Nat.reduceAdd, Nat.reduceLeDiff, Nat.reduceEqDiff, ↓reduceIte, Bool.false_eq_true, FL.startE, FL.backs, List.map_cons, List.map_nil, List.cons_append, List.nil_append, Nat.reduceSub, List.replicate_succ, List.replicate_zero, List.nodup_nil, List.nodup_cons, List.not_mem_nil, not_false_eq_true, and_self, reduceCtorEq, Option.map_some, Option.map_none, lenT_tab, lenT_row], tidx2 ho _ _ _ _ _ (List.mem_range.mp hi), by simp -implicitDefEqProofs only [FL.v_seq, FL.v_thN, FL.v_thR, FL.v_thB, FL.v_thC, FL.v_ifS, FL.v_asg, FL.v_ret, FL.v_retN, FL.v_drop, FL.v_nx, FL.v_bk, FL.v_ct, FL.v_name, FL.v_pN, FL.v_pV, FL.v_var, FL.v_at, FL.v_trV, FL.v_trP, FL.v_wV, FL.v_wP, FL.v_C, FL.v_ER, FL.v_Fz, FL.v_fO, FL.v_fS, FL.v_fV, FL.v_fP, FL.v_fL, FL.v_vS, FL.v_vO, FL.v_op, FL.v_un, FL.v_bOf, FL.v_test, FL.v_and, FL.v_or, FL.v_not, FL.v_tru, FL.v_trB, FL.v_andV, FL.v_orV, FL.v_notV, FL.v_if, FL.v_chain, FL.v_arN, FL.v_arC, FL.v_faN, FL.v_faC, FL.v_tup, FL.v_lst, FL.v_tdN, FL.v_tdC, FL.v_tdI, FL.v_tdL, FL.toDs_imms, FL.imms_imms, FL.v_cb, FL.v_vsN, FL.v_vsC, FL.v_bm, FL.v_tyS, FL.v_tyL, FL.v_sl, FL.v_moN, FL.v_moS, FL.v_iOf, FL.v_call, FL.v_osO, FL.v_osS, FL.v_isI, FL.v_isL, FL.v_isD, FL.v_gN, FL.v_gO, FL.v_gS, FL.v_for, FL.v_lc, FL.v_sub, FL.v_sub2, FL.v_iAt, FL.v_iC, FL.v_aug, FL.v_par, FL.v_mut, FL.v_rng1, FL.v_rng2, FL.v_seqI, FL.v_enumE, FL.v_enumT, FL.v_enumL, FL.v_isi, FL.v_addI, FL.v_addS, FL.v_addT, FL.v_addL, FL.v_subI, FL.v_neg, FL.v_lt, FL.v_le, FL.v_gt, FL.v_ge, FL.v_eqI, FL.v_neI, FL.v_eqS, FL.v_neS, FL.v_ixT, FL.v_ixD, FL.v_ixL, FL.v_ixS, FL.v_len, FL.v_lnT, FL.v_lnD, FL.v_lnL, FL.v_lnS, FL.v_abs, FL.v_max, FL.v_min, FL.v_int, FL.v_intB, FL.v_tuple, FL.v_list, FL.v_sqT, FL.v_sqD, FL.v_sqL, FL.v_itT, FL.v_itL, FL.v_itS, FL.v_isN, FL.v_notN, FL.v_setL, FL.v_setD, FL.v_kS, FL.v_kI, FL.v_mp, FL.v_mpn, FL.v_pO, FL.v_tupG, FL.v_gsC, FL.v_gsN, FL.v_slD, FL.v_at0, FL.v_at1, FL.v_at2, FL.v_i30, FL.v_i31, FL.v_i32, FL.v_Mv, FL.v_mvV, FL.v_pr, FL.v_wpN, FL.v_wpC, FL.v_wsN, FL.v_wsV, FL.v_wsO, FL.v_bkN, FL.v_bkC, FL.v_bsN, FL.v_bsI, FL.v_sf, FL.v_yes, FL.v_tupA, FL.v_imm, FL.v_aftN, FL.v_aftC, FL.v_aftB, FL.v_aftR, FL.v_iOp, FL.v_iLen, FL.v_dnin, FL.v_dninI, FL.v_disp1, FL.v_dispI, FL.v_mut0, FL.v_mulB, FL.v_lrg1, FL.v_trg1, FL.v_lrg2, FL.v_trg2, FL.v_fT, FL.v_rS, FL.v_rO, FL.v_plI, FL.v_plL, FL.v_plD, FL.v_plT, FL.v_vrN, FL.v_vrC, FL.v_isT, FL.callD, Option.bind_some, Option.bind_none, List.getElem?_cons_zero, List.getElem?_cons_succ, List.getElem?_nil, List.set_cons_zero, List.set_cons_succ, List.length_cons, List.length_nil, List.filterMap_cons, List.filterMap_nil, decide_eq_true_eq, if_true, if_false, true_and, and_true, Nat.reduceAdd, Nat.reduceLeDiff, Nat.reduceEqDiff, ↓reduceIte, Bool.false_eq_true, FL.startE, FL.backs, List.map_cons, List.map_nil, List.cons_append, List.nil_append, Nat.reduceSub, List.replicate_succ, List.replicate_zero, List.nodup_nil, List.nodup_cons, List.not_mem_nil, not_false_eq_true, and_self, reduceCtorEq, Option.map_some, Option.map_none, lenT_tab, lenT_row]⟩) (by rw [List.length_range]; omega)
  have hrg : rangeD 0 n = (List.range n).map fun i : Nat => PyData.int (i : Nat) := range_iE n
  have eh : (List.range n).map (fun i => PyData.int ((o.idxOf i : Nat) : Int)) = wL (homeN n o) := by
    unfold homeN wL
    rw [List.map_map]
    rfl
  rw [eh, ← hrg] at lc2
  have nn : ∀ t : Tr, fIsN t (.imm .none) = some (.imm (.bool (isN t))) := fun _ => rfl
  have l2 : (2 ≤ 16777216) = True := eq_true (by decide)
  have pd : PyData.tuple [tabD n (sub G o), .tuple (wL (homeN n o))] = duD G n o := rfl
  refine ⟨some (.imm (tabD n (sub G o))), some (.imm (.tuple (wL (homeN n o)))), ?_⟩
  unfold B__law_due_1
  cases b with
  | none =>
    simp -implicitDefEqProofs only [FL.v_seq, FL.v_thN, FL.v_thR, FL.v_thB, FL.v_thC, FL.v_ifS, FL.v_asg, FL.v_ret, FL.v_retN, FL.v_drop, FL.v_nx, FL.v_bk, FL.v_ct, FL.v_name, FL.v_pN, FL.v_pV, FL.v_var, FL.v_at, FL.v_trV, FL.v_trP, FL.v_wV, FL.v_wP, FL.v_C, FL.v_ER, FL.v_Fz, FL.v_fO, FL.v_fS, FL.v_fV, FL.v_fP, FL.v_fL, FL.v_vS, FL.v_vO, FL.v_op, FL.v_un, FL.v_bOf, FL.v_test, FL.v_and, FL.v_or, FL.v_not, FL.v_tru, FL.v_trB, FL.v_andV, FL.v_orV, FL.v_notV, FL.v_if, FL.v_chain, FL.v_arN, FL.v_arC, FL.v_faN, FL.v_faC, FL.v_tup, FL.v_lst, FL.v_tdN, FL.v_tdC, FL.v_tdI, FL.v_tdL, FL.toDs_imms, FL.imms_imms, FL.v_cb, FL.v_vsN, FL.v_vsC, FL.v_bm, FL.v_tyS, FL.v_tyL, FL.v_sl, FL.v_moN, FL.v_moS, FL.v_iOf, FL.v_call, FL.v_osO, FL.v_osS, FL.v_isI, FL.v_isL, FL.v_isD, FL.v_gN, FL.v_gO, FL.v_gS, FL.v_for, FL.v_lc, FL.v_sub, FL.v_sub2, FL.v_iAt, FL.v_iC, FL.v_aug, FL.v_par, FL.v_mut, FL.v_rng1, FL.v_rng2, FL.v_seqI, FL.v_enumE, FL.v_enumT, FL.v_enumL, FL.v_isi, FL.v_addI, FL.v_addS, FL.v_addT, FL.v_addL, FL.v_subI, FL.v_neg, FL.v_lt, FL.v_le, FL.v_gt, FL.v_ge, FL.v_eqI, FL.v_neI, FL.v_eqS, FL.v_neS, FL.v_ixT, FL.v_ixD, FL.v_ixL, FL.v_ixS, FL.v_len, FL.v_lnT, FL.v_lnD, FL.v_lnL, FL.v_lnS, FL.v_abs, FL.v_max, FL.v_min, FL.v_int, FL.v_intB, FL.v_tuple, FL.v_list, FL.v_sqT, FL.v_sqD, FL.v_sqL, FL.v_itT, FL.v_itL, FL.v_itS, FL.v_isN, FL.v_notN, FL.v_setL, FL.v_setD, FL.v_kS, FL.v_kI, FL.v_mp, FL.v_mpn, FL.v_pO, FL.v_tupG, FL.v_gsC, FL.v_gsN, FL.v_slD, FL.v_at0, FL.v_at1, FL.v_at2, FL.v_i30, FL.v_i31, FL.v_i32, FL.v_Mv, FL.v_mvV, FL.v_pr, FL.v_wpN, FL.v_wpC, FL.v_wsN, FL.v_wsV, FL.v_wsO, FL.v_bkN, FL.v_bkC, FL.v_bsN, FL.v_bsI, FL.v_sf, FL.v_yes, FL.v_tupA, FL.v_imm, FL.v_aftN, FL.v_aftC, FL.v_aftB, FL.v_aftR, FL.v_iOp, FL.v_iLen, FL.v_dnin, FL.v_dninI, FL.v_disp1, FL.v_dispI, FL.v_mut0, FL.v_mulB, FL.v_lrg1, FL.v_trg1, FL.v_lrg2, FL.v_trg2, FL.v_fT, FL.v_rS, FL.v_rO, FL.v_plI, FL.v_plL, FL.v_plD, FL.v_plT, FL.v_vrN, FL.v_vrC, FL.v_isT, FL.callD, Option.bind_some, Option.bind_none, List.getElem?_cons_zero, List.getElem?_cons_succ, List.getElem?_nil, List.set_cons_zero, List.set_cons_succ, List.length_cons, List.length_nil, List.filterMap_cons, List.filterMap_nil, decide_eq_true_eq, if_true, if_false, true_and, and_true, Nat.reduceAdd, Nat.reduceLeDiff, Nat.reduceEqDiff, ↓reduceIte, Bool.false_eq_true, FL.startE, FL.backs, List.map_cons, List.map_nil, List.cons_append, List.nil_append, Nat.reduceSub, List.replicate_succ, List.replicate_zero, List.nodup_nil, List.nodup_cons, List.not_mem_nil, not_false_eq_true, and_self, reduceCtorEq, Option.map_some, Option.map_none, lenT_tab, lenT_row, lc1, et, lo, hr1, lc2, beD, nn, isN, l2, pd, bestN]
    rfl
  | some q =>
    have il : isN (.imm (duD G n q)) = false := rfl
    have lt := lt_du G n o q
    cases c : PySem.W.dataLt (duD G n o) (duD G n q) with
    | true =>
      rw [c] at lt
      simp -implicitDefEqProofs only [FL.v_seq, FL.v_thN, FL.v_thR, FL.v_thB, FL.v_thC, FL.v_ifS, FL.v_asg, FL.v_ret, FL.v_retN, FL.v_drop, FL.v_nx, FL.v_bk, FL.v_ct, FL.v_name, FL.v_pN, FL.v_pV, FL.v_var, FL.v_at, FL.v_trV, FL.v_trP, FL.v_wV, FL.v_wP, FL.v_C, FL.v_ER, FL.v_Fz, FL.v_fO, FL.v_fS, FL.v_fV, FL.v_fP, FL.v_fL, FL.v_vS, FL.v_vO, FL.v_op, FL.v_un, FL.v_bOf, FL.v_test, FL.v_and, FL.v_or, FL.v_not, FL.v_tru, FL.v_trB, FL.v_andV, FL.v_orV, FL.v_notV, FL.v_if, FL.v_chain, FL.v_arN, FL.v_arC, FL.v_faN, FL.v_faC, FL.v_tup, FL.v_lst, FL.v_tdN, FL.v_tdC, FL.v_tdI, FL.v_tdL, FL.toDs_imms, FL.imms_imms, FL.v_cb, FL.v_vsN, FL.v_vsC, FL.v_bm, FL.v_tyS, FL.v_tyL, FL.v_sl, FL.v_moN, FL.v_moS, FL.v_iOf, FL.v_call, FL.v_osO, FL.v_osS, FL.v_isI, FL.v_isL, FL.v_isD, FL.v_gN, FL.v_gO, FL.v_gS, FL.v_for, FL.v_lc, FL.v_sub, FL.v_sub2, FL.v_iAt, FL.v_iC, FL.v_aug, FL.v_par, FL.v_mut, FL.v_rng1, FL.v_rng2, FL.v_seqI, FL.v_enumE, FL.v_enumT, FL.v_enumL, FL.v_isi, FL.v_addI, FL.v_addS, FL.v_addT, FL.v_addL, FL.v_subI, FL.v_neg, FL.v_lt, FL.v_le, FL.v_gt, FL.v_ge, FL.v_eqI, FL.v_neI, FL.v_eqS, FL.v_neS, FL.v_ixT, FL.v_ixD, FL.v_ixL, FL.v_ixS, FL.v_len, FL.v_lnT, FL.v_lnD, FL.v_lnL, FL.v_lnS, FL.v_abs, FL.v_max, FL.v_min, FL.v_int, FL.v_intB, FL.v_tuple, FL.v_list, FL.v_sqT, FL.v_sqD, FL.v_sqL, FL.v_itT, FL.v_itL, FL.v_itS, FL.v_isN, FL.v_notN, FL.v_setL, FL.v_setD, FL.v_kS, FL.v_kI, FL.v_mp, FL.v_mpn, FL.v_pO, FL.v_tupG, FL.v_gsC, FL.v_gsN, FL.v_slD, FL.v_at0, FL.v_at1, FL.v_at2, FL.v_i30, FL.v_i31, FL.v_i32, FL.v_Mv, FL.v_mvV, FL.v_pr, FL.v_wpN, FL.v_wpC, FL.v_wsN, FL.v_wsV, FL.v_wsO, FL.v_bkN, FL.v_bkC, FL.v_bsN, FL.v_bsI, FL.v_sf, FL.v_yes, FL.v_tupA, FL.v_imm, FL.v_aftN, FL.v_aftC, FL.v_aftB, FL.v_aftR, FL.v_iOp, FL.v_iLen, FL.v_dnin, FL.v_dninI, FL.v_disp1, FL.v_dispI, FL.v_mut0, FL.v_mulB, FL.v_lrg1, FL.v_trg1, FL.v_lrg2, FL.v_trg2, FL.v_fT, FL.v_rS, FL.v_rO, FL.v_plI, FL.v_plL, FL.v_plD, FL.v_plT, FL.v_vrN, FL.v_vrC, FL.v_isT, FL.callD, Option.bind_some, Option.bind_none, List.getElem?_cons_zero, List.getElem?_cons_succ, List.getElem?_nil, List.set_cons_zero, List.set_cons_succ, List.length_cons, List.length_nil, List.filterMap_cons, List.filterMap_nil, decide_eq_true_eq, if_true, if_false, true_and, and_true, Nat.reduceAdd, Nat.reduceLeDiff, Nat.reduceEqDiff, ↓reduceIte, Bool.false_eq_true, FL.startE, FL.backs, List.map_cons, List.map_nil, List.cons_append, List.nil_append, Nat.reduceSub, List.replicate_succ, List.replicate_zero, List.nodup_nil, List.nodup_cons, List.not_mem_nil, not_false_eq_true, and_self, reduceCtorEq, Option.map_some, Option.map_none, lenT_tab, lenT_row, lc1, et, lo, hr1, lc2, beD, nn, il, l2, pd, bestN, lt, c]
      rfl
    | false =>
      rw [c] at lt
      simp -implicitDefEqProofs only [FL.v_seq, FL.v_thN, FL.v_thR, FL.v_thB, FL.v_thC, FL.v_ifS, FL.v_asg, FL.v_ret, FL.v_retN, FL.v_drop, FL.v_nx, FL.v_bk, FL.v_ct, FL.v_name, FL.v_pN, FL.v_pV, FL.v_var, FL.v_at, FL.v_trV, FL.v_trP, FL.v_wV, FL.v_wP, FL.v_C, FL.v_ER, FL.v_Fz, FL.v_fO, FL.v_fS, FL.v_fV, FL.v_fP, FL.v_fL, FL.v_vS, FL.v_vO, FL.v_op, FL.v_un, FL.v_bOf, FL.v_test, FL.v_and, FL.v_or, FL.v_not, FL.v_tru, FL.v_trB, FL.v_andV, FL.v_orV, FL.v_notV, FL.v_if, FL.v_chain, FL.v_arN, FL.v_arC, FL.v_faN, FL.v_faC, FL.v_tup, FL.v_lst, FL.v_tdN, FL.v_tdC, FL.v_tdI, FL.v_tdL, FL.toDs_imms, FL.imms_imms, FL.v_cb, FL.v_vsN, FL.v_vsC, FL.v_bm, FL.v_tyS, FL.v_tyL, FL.v_sl, FL.v_moN, FL.v_moS, FL.v_iOf, FL.v_call, FL.v_osO, FL.v_osS, FL.v_isI, FL.v_isL, FL.v_isD, FL.v_gN, FL.v_gO, FL.v_gS, FL.v_for, FL.v_lc, FL.v_sub, FL.v_sub2, FL.v_iAt, FL.v_iC, FL.v_aug, FL.v_par, FL.v_mut, FL.v_rng1, FL.v_rng2, FL.v_seqI, FL.v_enumE, FL.v_enumT, FL.v_enumL, FL.v_isi, FL.v_addI, FL.v_addS, FL.v_addT, FL.v_addL, FL.v_subI, FL.v_neg, FL.v_lt, FL.v_le, FL.v_gt, FL.v_ge, FL.v_eqI, FL.v_neI, FL.v_eqS, FL.v_neS, FL.v_ixT, FL.v_ixD, FL.v_ixL, FL.v_ixS, FL.v_len, FL.v_lnT, FL.v_lnD, FL.v_lnL, FL.v_lnS, FL.v_abs, FL.v_max, FL.v_min, FL.v_int, FL.v_intB, FL.v_tuple, FL.v_list, FL.v_sqT, FL.v_sqD, FL.v_sqL, FL.v_itT, FL.v_itL, FL.v_itS, FL.v_isN, FL.v_notN, FL.v_setL, FL.v_setD, FL.v_kS, FL.v_kI, FL.v_mp, FL.v_mpn, FL.v_pO, FL.v_tupG, FL.v_gsC, FL.v_gsN, FL.v_slD, FL.v_at0, FL.v_at1, FL.v_at2, FL.v_i30, FL.v_i31, FL.v_i32, FL.v_Mv, FL.v_mvV, FL.v_pr, FL.v_wpN, FL.v_wpC, FL.v_wsN, FL.v_wsV, FL.v_wsO, FL.v_bkN, FL.v_bkC, FL.v_bsN, FL.v_bsI, FL.v_sf, FL.v_yes, FL.v_tupA, FL.v_imm, FL.v_aftN, FL.v_aftC, FL.v_aftB, FL.v_aftR, FL.v_iOp, FL.v_iLen, FL.v_dnin, FL.v_dninI, FL.v_disp1, FL.v_dispI, FL.v_mut0, FL.v_mulB, FL.v_lrg1, FL.v_trg1, FL.v_lrg2, FL.v_trg2, FL.v_fT, FL.v_rS, FL.v_rO, FL.v_plI, FL.v_plL, FL.v_plD, FL.v_plT, FL.v_vrN, FL.v_vrC, FL.v_isT, FL.callD, Option.bind_some, Option.bind_none, List.getElem?_cons_zero, List.getElem?_cons_succ, List.getElem?_nil, List.set_cons_zero, List.set_cons_succ, List.length_cons, List.length_nil, List.filterMap_cons, List.filterMap_nil, decide_eq_true_eq, if_true, if_false, true_and, and_true, Nat.reduceAdd, Nat.reduceLeDiff, Nat.reduceEqDiff, ↓reduceIte, Bool.false_eq_true, FL.startE, FL.backs, List.map_cons, List.map_nil, List.cons_append, List.nil_append, Nat.reduceSub, List.replicate_succ, List.replicate_zero, List.nodup_nil, List.nodup_cons, List.not_mem_nil, not_false_eq_true, and_self, reduceCtorEq, Option.map_some, Option.map_none, lenT_tab, lenT_row, lc1, et, lo, hr1, lc2, beD, nn, il, l2, pd, bestN, lt, c]
      rfl

theorem due_one {n : Nat} (hn : n ≤ 6) (G : Nat → Nat → Int) : mFn 7 m__law_due [.imm (tabD n G)] = some (.imm (beD G n ((ordP n).foldl (bestN G n) none)), [.imm (tabD n G)]) := by
  have key : ∀ (l : List (List Nat)) (_ : ∀ o ∈ l, Ord n o) (b : Option (List Nat)) (s2 s3 s4 : Option Tr), ∃ s2' s3' s4' : Option Tr, forT (mName 2) B__law_due_1 (l.map fun p => Tr.tpl (wL p)) [.val (.imm (tabD n G)), .val (.imm (beD G n b)), ov s2, ov s3, ov s4, .no, .no] = some (.nx [.val (.imm (tabD n G)), .val (.imm (beD G n (l.foldl (bestN G n) b))), ov s2', ov s3', ov s4', .no, .no]) := by
    intro l
    induction l with
    | nil => exact fun _ b s2 s3 s4 => ⟨s2, s3, s4, rfl⟩
    | cons o l ih =>
      intro hl b s2 s3 s4
      obtain ⟨s3a, s4a, e1⟩ := due_turn (by omega) G (hl o List.mem_cons_self) b s3 s4
      obtain ⟨s2', s3', s4', e2⟩ := ih (fun q hq => hl q (List.mem_cons_of_mem _ hq)) (bestN G n b o) (some (.tpl (wL o))) s3a s4a
      refine ⟨s2', s3', s4', ?_⟩
      have e0 : mName 2 (.tpl (wL o)) [.val (.imm (tabD n G)), .val (.imm (beD G n b)), ov s2, ov s3, ov s4, .no, .no] = some [.val (.imm (tabD n G)), .val (.imm (beD G n b)), .val (.tpl (wL o)), ov s3, ov s4, .no, .no] := by simp -implicitDefEqProofs only [FL.v_seq, FL.v_thN, FL.v_thR, FL.v_thB, FL.v_thC, FL.v_ifS, FL.v_asg, FL.v_ret, FL.v_retN, FL.v_drop, FL.v_nx, FL.v_bk, FL.v_ct, FL.v_name, FL.v_pN, FL.v_pV, FL.v_var, FL.v_at, FL.v_trV, FL.v_trP, FL.v_wV, FL.v_wP, FL.v_C, FL.v_ER, FL.v_Fz, FL.v_fO, FL.v_fS, FL.v_fV, FL.v_fP, FL.v_fL, FL.v_vS, FL.v_vO, FL.v_op, FL.v_un, FL.v_bOf, FL.v_test, FL.v_and, FL.v_or, FL.v_not, FL.v_tru, FL.v_trB, FL.v_andV, FL.v_orV, FL.v_notV, FL.v_if, FL.v_chain, FL.v_arN, FL.v_arC, FL.v_faN, FL.v_faC, FL.v_tup, FL.v_lst, FL.v_tdN, FL.v_tdC, FL.v_tdI, FL.v_tdL, FL.toDs_imms, FL.imms_imms, FL.v_cb, FL.v_vsN, FL.v_vsC, FL.v_bm, FL.v_tyS, FL.v_tyL, FL.v_sl, FL.v_moN, FL.v_moS, FL.v_iOf, FL.v_call, FL.v_osO, FL.v_osS, FL.v_isI, FL.v_isL, FL.v_isD, FL.v_gN, FL.v_gO, FL.v_gS, FL.v_for, FL.v_lc, FL.v_sub, FL.v_sub2, FL.v_iAt, FL.v_iC, FL.v_aug, FL.v_par, FL.v_mut, FL.v_rng1, FL.v_rng2, FL.v_seqI, FL.v_enumE, FL.v_enumT, FL.v_enumL, FL.v_isi, FL.v_addI, FL.v_addS, FL.v_addT, FL.v_addL, FL.v_subI, FL.v_neg, FL.v_lt, FL.v_le, FL.v_gt, FL.v_ge, FL.v_eqI, FL.v_neI, FL.v_eqS, FL.v_neS, FL.v_ixT, FL.v_ixD, FL.v_ixL, FL.v_ixS, FL.v_len, FL.v_lnT, FL.v_lnD, FL.v_lnL, FL.v_lnS, FL.v_abs, FL.v_max, FL.v_min, FL.v_int, FL.v_intB, FL.v_tuple, FL.v_list, FL.v_sqT, FL.v_sqD, FL.v_sqL, FL.v_itT, FL.v_itL, FL.v_itS, FL.v_isN, FL.v_notN, FL.v_setL, FL.v_setD, FL.v_kS, FL.v_kI, FL.v_mp, FL.v_mpn, FL.v_pO, FL.v_tupG, FL.v_gsC, FL.v_gsN, FL.v_slD, FL.v_at0, FL.v_at1, FL.v_at2, FL.v_i30, FL.v_i31, FL.v_i32, FL.v_Mv, FL.v_mvV, FL.v_pr, FL.v_wpN, FL.v_wpC, FL.v_wsN, FL.v_wsV, FL.v_wsO, FL.v_bkN, FL.v_bkC, FL.v_bsN, FL.v_bsI, FL.v_sf, FL.v_yes, FL.v_tupA, FL.v_imm, FL.v_aftN, FL.v_aftC, FL.v_aftB, FL.v_aftR, FL.v_iOp, FL.v_iLen, FL.v_dnin, FL.v_dninI, FL.v_disp1, FL.v_dispI, FL.v_mut0, FL.v_mulB, FL.v_lrg1, FL.v_trg1, FL.v_lrg2, FL.v_trg2, FL.v_fT, FL.v_rS, FL.v_rO, FL.v_plI, FL.v_plL, FL.v_plD, FL.v_plT, FL.v_vrN, FL.v_vrC, FL.v_isT, FL.callD, Option.bind_some, Option.bind_none, List.getElem?_cons_zero, List.getElem?_cons_succ, List.getElem?_nil, List.set_cons_zero, List.set_cons_succ, List.length_cons, List.length_nil, List.filterMap_cons, List.filterMap_nil, decide_eq_true_eq, if_true, if_false, true_and, and_true, Nat.reduceAdd, Nat.reduceLeDiff, Nat.reduceEqDiff, ↓reduceIte, Bool.false_eq_true, FL.startE, FL.backs, List.map_cons, List.map_nil, List.cons_append, List.nil_append, Nat.reduceSub, List.replicate_succ, List.replicate_zero, List.nodup_nil, List.nodup_cons, List.not_mem_nil, not_false_eq_true, and_self, reduceCtorEq, Option.map_some, Option.map_none, lenT_tab, lenT_row]
      rw [List.map_cons, forT, e0, Option.bind_some, e1, Option.bind_some]
      exact e2
  obtain ⟨s2, s3, s4, e⟩ := key (ordP n) (fun o ho => (ord_mem n o).mp ho) none none none none
  simp only [show ov (none : Option Tr) = SL.no from rfl, show beD G n none = PyData.none from rfl] at e
  have e1 := orders_one n hn
  have e2 := len_tab n G
  have fl : ∀ E : En, forL (mName 2) B__law_due_1 (tplT (ordP n)) E = forT (mName 2) B__law_due_1 ((ordP n).map fun p => Tr.tpl (wL p)) E := fun _ => rfl
  rw [v_fn]
  unfold m__law_due
  simp -implicitDefEqProofs only [FL.v_seq, FL.v_thN, FL.v_thR, FL.v_thB, FL.v_thC, FL.v_ifS, FL.v_asg, FL.v_ret, FL.v_retN, FL.v_drop, FL.v_nx, FL.v_bk, FL.v_ct, FL.v_name, FL.v_pN, FL.v_pV, FL.v_var, FL.v_at, FL.v_trV, FL.v_trP, FL.v_wV, FL.v_wP, FL.v_C, FL.v_ER, FL.v_Fz, FL.v_fO, FL.v_fS, FL.v_fV, FL.v_fP, FL.v_fL, FL.v_vS, FL.v_vO, FL.v_op, FL.v_un, FL.v_bOf, FL.v_test, FL.v_and, FL.v_or, FL.v_not, FL.v_tru, FL.v_trB, FL.v_andV, FL.v_orV, FL.v_notV, FL.v_if, FL.v_chain, FL.v_arN, FL.v_arC, FL.v_faN, FL.v_faC, FL.v_tup, FL.v_lst, FL.v_tdN, FL.v_tdC, FL.v_tdI, FL.v_tdL, FL.toDs_imms, FL.imms_imms, FL.v_cb, FL.v_vsN, FL.v_vsC, FL.v_bm, FL.v_tyS, FL.v_tyL, FL.v_sl, FL.v_moN, FL.v_moS, FL.v_iOf, FL.v_call, FL.v_osO, FL.v_osS, FL.v_isI, FL.v_isL, FL.v_isD, FL.v_gN, FL.v_gO, FL.v_gS, FL.v_for, FL.v_lc, FL.v_sub, FL.v_sub2, FL.v_iAt, FL.v_iC, FL.v_aug, FL.v_par, FL.v_mut, FL.v_rng1, FL.v_rng2, FL.v_seqI, FL.v_enumE, FL.v_enumT, FL.v_enumL, FL.v_isi, FL.v_addI, FL.v_addS, FL.v_addT, FL.v_addL, FL.v_subI, FL.v_neg, FL.v_lt, FL.v_le, FL.v_gt, FL.v_ge, FL.v_eqI, FL.v_neI, FL.v_eqS, FL.v_neS, FL.v_ixT, FL.v_ixD, FL.v_ixL, FL.v_ixS, FL.v_len, FL.v_lnT, FL.v_lnD, FL.v_lnL, FL.v_lnS, FL.v_abs, FL.v_max, FL.v_min, FL.v_int, FL.v_intB, FL.v_tuple, FL.v_list, FL.v_sqT, FL.v_sqD, FL.v_sqL, FL.v_itT, FL.v_itL, FL.v_itS, FL.v_isN, FL.v_notN, FL.v_setL, FL.v_setD, FL.v_kS, FL.v_kI, FL.v_mp, FL.v_mpn, FL.v_pO, FL.v_tupG, FL.v_gsC, FL.v_gsN, FL.v_slD, FL.v_at0, FL.v_at1, FL.v_at2, FL.v_i30, FL.v_i31, FL.v_i32, FL.v_Mv, FL.v_mvV, FL.v_pr, FL.v_wpN, FL.v_wpC, FL.v_wsN, FL.v_wsV, FL.v_wsO, FL.v_bkN, FL.v_bkC, FL.v_bsN, FL.v_bsI, FL.v_sf, FL.v_yes, FL.v_tupA, FL.v_imm, FL.v_aftN, FL.v_aftC, FL.v_aftB, FL.v_aftR, FL.v_iOp, FL.v_iLen, FL.v_dnin, FL.v_dninI, FL.v_disp1, FL.v_dispI, FL.v_mut0, FL.v_mulB, FL.v_lrg1, FL.v_trg1, FL.v_lrg2, FL.v_trg2, FL.v_fT, FL.v_rS, FL.v_rO, FL.v_plI, FL.v_plL, FL.v_plD, FL.v_plT, FL.v_vrN, FL.v_vrC, FL.v_isT, FL.callD, Option.bind_some, Option.bind_none, List.getElem?_cons_zero, List.getElem?_cons_succ, List.getElem?_nil, List.set_cons_zero, List.set_cons_succ, List.length_cons, List.length_nil, List.filterMap_cons, List.filterMap_nil, decide_eq_true_eq, if_true, if_false, true_and, and_true, Nat.reduceAdd, Nat.reduceLeDiff, Nat.reduceEqDiff, ↓reduceIte, Bool.false_eq_true, FL.startE, FL.backs, List.map_cons, List.map_nil, List.cons_append, List.nil_append, Nat.reduceSub, List.replicate_succ, List.replicate_zero, List.nodup_nil, List.nodup_cons, List.not_mem_nil, not_false_eq_true, and_self, reduceCtorEq, Option.map_some, Option.map_none, lenT_tab, lenT_row, v_forT, e1, fl, e]

end WK

namespace WK
open PySem L2 FL
/-! ### all orders of what is left -/
def allP : Nat → List Nat → List (List Nat)
  | 0, _ => []
  | f + 1, left => if left = [] then [[]] else left.flatMap fun i => (allP f (left.filter fun j => !decide (j = i))).map (i :: ·)
theorem left_len (i : Nat) (left : List Nat) (h : i ∈ left) : (left.filter fun j => !decide (j = i)).length < left.length :=
  List.length_filter_lt_length_iff_exists.mpr ⟨i, h, by simp⟩
theorem all_len : ∀ (f : Nat) (left : List Nat) (k : Nat), left.length ≤ k → k ≤ 6 → (allP f left).length ≤ 7 ^ k
  | 0, _, _, _, _ => Nat.zero_le _
  | f + 1, left, k, h, hk => by
    unfold allP
    by_cases e : left = []
    · rw [if_pos e]
      exact Nat.pow_pos (by decide)
    · rw [if_neg e]
      have pos := List.length_pos_iff.mpr e
      obtain ⟨k, rfl⟩ : ∃ j, k = j + 1 := ⟨k - 1, by omega⟩
      have := flat_len (fun i => (allP f (left.filter fun j => !decide (j = i))).map (i :: ·)) (7 ^ k) left fun i hi => by
        rw [List.length_map]
        exact all_len f _ k (by have := left_len i left hi; omega) (by omega)
      refine Nat.le_trans this ?_
      rw [Nat.pow_succ, Nat.mul_comm]
      exact Nat.mul_le_mul_left _ (by omega)
theorem all_short : ∀ (f : Nat) (left p : List Nat), p ∈ allP f left → p.length ≤ f
  | 0, _, _, h => nomatch h
  | f + 1, left, p, h => by
    unfold allP at h
    split at h
    · rw [List.mem_singleton.mp h]
      exact Nat.zero_le _
    · obtain ⟨i, _, h⟩ := List.mem_flatMap.mp h
      obtain ⟨q, hq, rfl⟩ := List.mem_map.mp h
      have := all_short f _ q hq
      rw [List.length_cons]
      omega
theorem all_one : ∀ (f : Nat) (left : List Nat) (_ : left.length ≤ 6) (_ : left.length < f) (_ : f ≤ 100), mFn 6 (m_all_orders f) [.imm (.tuple (wL left))] = some (tupsT (allP f left), [.imm (.tuple (wL left))])
  | 0, _, _, h, _ => absurd h (Nat.not_lt_zero _)
  | f + 1, left, h6, hf, hf2 => by
    have q := fEq_wL left []
    rw [wL_nil] at q
    have l1 : (1 ≤ 16777216) = True := eq_true (by decide)
    rw [v_fn]
    unfold m_all_orders allP
    by_cases e : left = []
    · subst e
      rw [wL_nil] at q ⊢
      rw [decide_eq_true rfl] at q
      rw [if_pos rfl]
      simp -implicitDefEqProofs only [FL.v_seq, FL.v_thN, FL.v_thR, FL.v_thB, FL.v_thC, FL.v_ifS, FL.v_asg, FL.v_ret, FL.v_retN, FL.v_drop, FL.v_nx, FL.v_bk, FL.v_ct, FL.v_name, FL.v_pN, FL.v_pV, FL.v_var, FL.v_at, FL.v_trV, FL.v_trP, FL.v_wV, FL.v_wP, FL.v_C, FL.v_ER, FL.v_Fz, FL.v_fO, FL.v_fS, FL.v_fV, FL.v_fP, FL.v_fL, FL.v_vS, FL.v_vO, FL.v_op, FL.v_un, FL.v_bOf, FL.v_test, FL.v_and, FL.v_or, FL.v_not, FL.v_tru, FL.v_trB, FL.v_andV, FL.v_orV, FL.v_notV, FL.v_if, FL.v_chain, FL.v_arN, FL.v_arC, FL.v_faN, FL.v_faC, FL.v_tup, FL.v_lst, FL.v_tdN, FL.v_tdC, FL.v_tdI, FL.v_tdL, FL.toDs_imms, FL.imms_imms, FL.v_cb, FL.v_vsN, FL.v_vsC, FL.v_bm, FL.v_tyS, FL.v_tyL, FL.v_sl, FL.v_moN, FL.v_moS, FL.v_iOf, FL.v_call, FL.v_osO, FL.v_osS, FL.v_isI, FL.v_isL, FL.v_isD, FL.v_gN, FL.v_gO, FL.v_gS, FL.v_for, FL.v_lc, FL.v_sub, FL.v_sub2, FL.v_iAt, FL.v_iC, FL.v_aug, FL.v_par, FL.v_mut, FL.v_rng1, FL.v_rng2, FL.v_seqI, FL.v_enumE, FL.v_enumT, FL.v_enumL, FL.v_isi, FL.v_addI, FL.v_addS, FL.v_addT, FL.v_addL, FL.v_subI, FL.v_neg, FL.v_lt, FL.v_le, FL.v_gt, FL.v_ge, FL.v_eqI, FL.v_neI, FL.v_eqS, FL.v_neS, FL.v_ixT, FL.v_ixD, FL.v_ixL, FL.v_ixS, FL.v_len, FL.v_lnT, FL.v_lnD, FL.v_lnL, FL.v_lnS, FL.v_abs, FL.v_max, FL.v_min, FL.v_int, FL.v_intB, FL.v_tuple, FL.v_list, FL.v_sqT, FL.v_sqD, FL.v_sqL, FL.v_itT, FL.v_itL, FL.v_itS, FL.v_isN, FL.v_notN, FL.v_setL, FL.v_setD, FL.v_kS, FL.v_kI, FL.v_mp, FL.v_mpn, FL.v_pO, FL.v_tupG, FL.v_gsC, FL.v_gsN, FL.v_slD, FL.v_at0, FL.v_at1, FL.v_at2, FL.v_i30, FL.v_i31, FL.v_i32, FL.v_Mv, FL.v_mvV, FL.v_pr, FL.v_wpN, FL.v_wpC, FL.v_wsN, FL.v_wsV, FL.v_wsO, FL.v_bkN, FL.v_bkC, FL.v_bsN, FL.v_bsI, FL.v_sf, FL.v_yes, FL.v_tupA, FL.v_imm, FL.v_aftN, FL.v_aftC, FL.v_aftB, FL.v_aftR, FL.v_iOp, FL.v_iLen, FL.v_dnin, FL.v_dninI, FL.v_disp1, FL.v_dispI, FL.v_mut0, FL.v_mulB, FL.v_lrg1, FL.v_trg1, FL.v_lrg2, FL.v_trg2, FL.v_fT, FL.v_rS, FL.v_rO, FL.v_plI, FL.v_plL, FL.v_plD, FL.v_plT, FL.v_vrN, FL.v_vrC, FL.v_isT, FL.callD, Option.bind_some, Option.bind_none, List.getElem?_cons_zero, List.getElem?_cons_succ, List.getElem?_nil, List.set_cons_zero, List.set_cons_succ, List.length_cons, List.length_nil, List.filterMap_cons, List.filterMap_nil, decide_eq_true_eq, if_true, if_false, true_and, and_true, Nat.reduceAdd, Nat.reduceLeDiff, Nat.reduceEqDiff, ↓reduceIte, Bool.false_eq_true, FL.startE, FL.backs, List.map_cons, List.map_nil, List.cons_append, List.nil_append, Nat.reduceSub, List.replicate_succ, List.replicate_zero, List.nodup_nil, List.nodup_cons, List.not_mem_nil, not_false_eq_true, and_self, reduceCtorEq, Option.map_some, Option.map_none, lenT_tab, lenT_row, q, l1, Nat.zero_le]
      rfl
    · rw [decide_eq_false e] at q
      rw [if_neg e]
      have key : ∀ (l : List Nat) (_ : ∀ i ∈ l, i ∈ left) (P : List (List Nat)) (_ : P.length + l.length * 46656 ≤ 1000000) (s2 s3 : Option Tr), ∃ s2' s3' : Option Tr,
          forD (mName 2) (mSeq (mAsg (mCB fTuple (arCons (mER (mLc (mSeqI (mFz (mVar 0))) (mName 4) (mTest (mOp fNe (mVar 4) (mVar 2))) (mFz (mVar 4)) [4])) arNil)) (mName 3))
    (mDrop (mMut 1 "list" fExtend (faCons (mLc (mSeqI (mCall 1 (mFn 6 (m_all_orders f)) (arCons (mVar 3) arNil))) (mName 5) mYes (mOp fAdd (mER (mTup (faCons (mFz (mVar 2)) faNil))) (mVar 5)) [5]) faNil)))) (l.map fun i : Nat => PyData.int (i : Nat)) [.val (.imm (.tuple (wL left))), .val (tupsT P), ov s2, ov s3, .no, .no] = some (.nx [.val (.imm (.tuple (wL left))), .val (tupsT (P ++ l.flatMap fun i => (allP f (left.filter fun j => !decide (j = i))).map (i :: ·))), ov s2', ov s3', .no, .no]) := by
        intro l
        induction l with
        | nil => exact fun _ P _ s2 s3 => ⟨s2, s3, by simp only [List.flatMap_nil, List.append_nil, List.map_nil]; rfl⟩
        | cons i l ih =>
          intro hl P hP s2 s3
          rw [List.length_cons] at hP
          have hlt := left_len i left (hl i List.mem_cons_self)
          have e2 := all_one f (left.filter fun j => !decide (j = i)) (by omega) (by omega) (by omega)
          have sh := all_short f (left.filter fun j => !decide (j = i))
          have ln := all_len f (left.filter fun j => !decide (j = i)) 5 (by omega) (by decide)
          have ln2 : (allP f (left.filter fun j => !decide (j = i))).length ≤ 46656 := Nat.le_trans ln (by decide)
          generalize hrest : left.filter (fun j => !decide (j = i)) = rest at *
          generalize hap : allP f rest = ap at *
          have lc1 := lcD_if (g := mName 4) (mt := mTest (mOp fNe (mVar 4) (mVar 2))) (m := mFz (mVar 4)) (vs := [4]) (E := [.val (.imm (.tuple (wL left))), .val (tupsT P), .val (.imm (.int (i : Nat))), ov s3, .no, .no]) (fun j : Nat => PyData.int (j : Nat)) (fun j : Nat => PyData.int (j : Nat)) (fun j => !decide (j = i)) left (fun j _ => by
            have d : decide (((j : Nat) : Int) = (i : Nat)) = decide (j = i) := decide_eq_decide.mpr (by omega)
            exact ⟨[.val (.imm (.tuple (wL left))), .val (tupsT P), .val (.imm (.int (i : Nat))), ov s3, .val (.imm (.int (j : Nat))), .no], [.val (.imm (.tuple (wL left))), .val (tupsT P), .val (.imm (.int (i : Nat))), ov s3, .val (.imm (.int (j : Nat))), .no], by simp -implicitDefEqProofs only [FL.v_seq, FL.v_thN, FL.v_thR, FL.v_thB, FL.v_thC, FL.v_ifS, FL.v_asg, FL.v_ret, FL.v_retN, FL.v_drop, FL.v_nx, FL.v_bk, FL.v_ct, FL.v_name, FL.v_pN, FL.v_pV, FL.v_var, FL.v_at, FL.v_trV, FL.v_trP, FL.v_wV, FL.v_wP, FL.v_C, FL.v_ER, FL.v_Fz, FL.v_fO, FL.v_fS, FL.v_fV, FL.v_fP, FL.v_fL, FL.v_vS, FL.v_vO, FL.v_op, FL.v_un, FL.v_bOf, FL.v_test, FL.v_and, FL.v_or, FL.v_not, FL.v_tru, FL.v_trB, FL.v_andV, FL.v_orV, FL.v_notV, FL.v_if, FL.v_chain, FL.v_arN, FL.v_arC, FL.v_faN, FL.v_faC, FL.v_tup, FL.v_lst, FL.v_tdN, FL.v_tdC, FL.v_tdI, FL.v_tdL, FL.toDs_imms, FL.imms_imms, FL.v_cb, FL.v_vsN, FL.v_vsC, FL.v_bm, FL.v_tyS, FL.v_tyL, FL.v_sl, FL.v_moN, FL.v_moS, FL.v_iOf, FL.v_call, FL.v_osO, FL.v_osS, FL.v_isI, FL.v_isL, FL.v_isD, FL.v_gN, FL.v_gO, FL.v_gS, FL.v_for, FL.v_lc, FL.v_sub, FL.v_sub2, FL.v_iAt, FL.v_iC, FL.v_aug, FL.v_par, FL.v_mut, FL.v_rng1, FL.v_rng2, FL.v_seqI, FL.v_enumE, FL.v_enumT, FL.v_enumL, FL.v_isi, FL.v_addI, FL.v_addS, FL.v_addT, FL.v_addL, FL.v_subI, FL.v_neg, FL.v_lt, FL.v_le, FL.v_gt, FL.v_ge, FL.v_eqI, FL.v_neI, FL.v_eqS, FL.v_neS, FL.v_ixT, FL.v_ixD, FL.v_ixL, FL.v_ixS, FL.v_len, FL.v_lnT, FL.v_lnD, FL.v_lnL, FL.v_lnS, FL.v_abs, FL.v_max, FL.v_min, FL.v_int, FL.v_intB, FL.v_tuple, FL.v_list, FL.v_sqT, FL.v_sqD, FL.v_sqL, FL.v_itT, FL.v_itL, FL.v_itS, FL.v_isN, FL.v_notN, FL.v_setL, FL.v_setD, FL.v_kS, FL.v_kI, FL.v_mp, FL.v_mpn, FL.v_pO, FL.v_tupG, FL.v_gsC, FL.v_gsN, FL.v_slD, FL.v_at0, FL.v_at1, FL.v_at2, FL.v_i30, FL.v_i31, FL.v_i32, FL.v_Mv, FL.v_mvV, FL.v_pr, FL.v_wpN, FL.v_wpC, FL.v_wsN, FL.v_wsV, FL.v_wsO, FL.v_bkN, FL.v_bkC, FL.v_bsN, FL.v_bsI, FL.v_sf, FL.v_yes, FL.v_tupA, FL.v_imm, FL.v_aftN, FL.v_aftC, FL.v_aftB, FL.v_aftR, FL.v_iOp, FL.v_iLen, FL.v_dnin, FL.v_dninI, FL.v_disp1, FL.v_dispI, FL.v_mut0, FL.v_mulB, FL.v_lrg1, FL.v_trg1, FL.v_lrg2, FL.v_trg2, FL.v_fT, FL.v_rS, FL.v_rO, FL.v_plI, FL.v_plL, FL.v_plD, FL.v_plT, FL.v_vrN, FL.v_vrC, FL.v_isT, FL.callD, Option.bind_some, Option.bind_none, List.getElem?_cons_zero, List.getElem?_cons_succ, List.getElem?_nil, List.set_cons_zero, List.set_cons_succ, List.length_cons, List.length_nil, List.filterMap_cons, List.filterMap_nil, decide_eq_true_eq, if_true, if_false, true_and, and_true, Nat.reduceAdd, Nat.reduceLeDiff, Nat.reduceEqDiff, ↓reduceIte, Bool.false_eq_true, FL.startE, FL.backs, List.map_cons, List.map_nil, List.cons_append, List.nil_append, Nat.reduceSub, List.replicate_succ, List.replicate_zero, List.nodup_nil, List.nodup_cons, List.not_mem_nil, not_false_eq_true, and_self, reduceCtorEq, Option.map_some, Option.map_none, lenT_tab, lenT_row], by simp -implicitDefEqProofs only [FL.v_seq, FL.v_thN, FL.v_thR, FL.v_thB, FL.v_thC, FL.v_ifS, FL.v_asg, FL.v_ret, FL.v_retN, FL.v_drop, FL.v_nx, FL.v_bk, FL.v_ct, FL.v_name, FL.v_pN, FL.v_pV, FL.v_var, FL.v_at, FL.v_trV, FL.v_trP, FL.v_wV, FL.v_wP, FL.v_C, FL.v_ER, FL.v_Fz, FL.v_fO, FL.v_fS, FL.v_fV, FL.v_fP, FL.v_fL, FL.v_vS, FL.v_vO, FL.v_op, FL.v_un, FL.v_bOf, FL.v_test, FL.v_and, FL.v_or, FL.v_not, FL.v_tru, FL.v_trB, FL.v_andV, FL.v_orV, FL.v_notV, FL.v_if, FL.v_chain, FL.v_arN, FL.v_arC, FL.v_faN, FL.v_faC, FL.v_tup, FL.v_lst, FL.v_tdN, FL.v_tdC, FL.v_tdI, FL.v_tdL, FL.toDs_imms, FL.imms_imms, FL.v_cb, FL.v_vsN, FL.v_vsC, FL.v_bm, FL.v_tyS, FL.v_tyL, FL.v_sl, FL.v_moN, FL.v_moS, FL.v_iOf, FL.v_call, FL.v_osO, FL.v_osS, FL.v_isI, FL.v_isL, FL.v_isD, FL.v_gN, FL.v_gO, FL.v_gS, FL.v_for, FL.v_lc, FL.v_sub, FL.v_sub2, FL.v_iAt, FL.v_iC, FL.v_aug, FL.v_par, FL.v_mut, FL.v_rng1, FL.v_rng2, FL.v_seqI, FL.v_enumE, FL.v_enumT, FL.v_enumL, FL.v_isi, FL.v_addI, FL.v_addS, FL.v_addT, FL.v_addL, FL.v_subI, FL.v_neg, FL.v_lt, FL.v_le, FL.v_gt, FL.v_ge, FL.v_eqI, FL.v_neI, FL.v_eqS, FL.v_neS, FL.v_ixT, FL.v_ixD, FL.v_ixL, FL.v_ixS, FL.v_len, FL.v_lnT, FL.v_lnD, FL.v_lnL, FL.v_lnS, FL.v_abs, FL.v_max, FL.v_min, FL.v_int, FL.v_intB, FL.v_tuple, FL.v_list, FL.v_sqT, FL.v_sqD, FL.v_sqL, FL.v_itT, FL.v_itL, FL.v_itS, FL.v_isN, FL.v_notN, FL.v_setL, FL.v_setD, FL.v_kS, FL.v_kI, FL.v_mp, FL.v_mpn, FL.v_pO, FL.v_tupG, FL.v_gsC, FL.v_gsN, FL.v_slD, FL.v_at0, FL.v_at1, FL.v_at2, FL.v_i30, FL.v_i31, FL.v_i32, FL.v_Mv, FL.v_mvV, FL.v_pr, FL.v_wpN, FL.v_wpC, FL.v_wsN, FL.v_wsV, FL.v_wsO, FL.v_bkN, FL.v_bkC, FL.v_bsN, FL.v_bsI, FL.v_sf, FL.v_yes, FL.v_tupA, FL.v_imm, FL.v_aftN, FL.v_aftC, FL.v_aftB, FL.v_aftR, FL.v_iOp, FL.v_iLen, FL.v_dnin, FL.v_dninI, FL.v_disp1, FL.v_dispI, FL.v_mut0, FL.v_mulB, FL.v_lrg1, FL.v_trg1, FL.v_lrg2, FL.v_trg2, FL.v_fT, FL.v_rS, FL.v_rO, FL.v_plI, FL.v_plL, FL.v_plD, FL.v_plT, FL.v_vrN, FL.v_vrC, FL.v_isT, FL.callD, Option.bind_some, Option.bind_none, List.getElem?_cons_zero, List.getElem?_cons_succ, List.getElem?_nil, List.set_cons_zero, List.set_cons_succ, List.length_cons, List.length_nil, List.filterMap_cons, List.filterMap_nil, decide_eq_true_eq, if_true, if_false, true_and, and_true, Nat.reduceAdd, Nat.reduceLeDiff, Nat.reduceEqDiff, ↓reduceIte, Bool.false_eq_true, FL.startE, FL.backs, List.map_cons, List.map_nil, List.cons_append, List.nil_append, Nat.reduceSub, List.replicate_succ, List.replicate_zero, List.nodup_nil, List.nodup_cons, List.not_mem_nil, not_false_eq_true, and_self, reduceCtorEq, Option.map_some, Option.map_none, lenT_tab, lenT_row, d], fun _ => ⟨[.val (.imm (.tuple (wL left))), .val (tupsT P), .val (.imm (.int (i : Nat))), ov s3, .val (.imm (.int (j : Nat))), .no], by simp -implicitDefEqProofs only [FL.v_seq, FL.v_thN, FL.v_thR, FL.v_thB, FL.v_thC, FL.v_ifS, FL.v_asg, FL.v_ret, FL.v_retN, FL.v_drop, FL.v_nx, FL.v_bk, FL.v_ct, FL.v_name, FL.v_pN, FL.v_pV, FL.v_var, FL.v_at, FL.v_trV, FL.v_trP, FL.v_wV, FL.v_wP, FL.v_C, FL.v_ER, FL.v_Fz, FL.v_fO, FL.v_fS, FL.v_fV, FL.v_fP, FL.v_fL, FL.v_vS, FL.v_vO, FL.v_op, FL.v_un, FL.v_bOf, FL.v_test, FL.v_and, FL.v_or, FL.v_not, FL.v_tru, FL.v_trB, FL.v_andV, FL.v_orV, FL.v_notV, FL.v_if, FL.v_chain, FL.v_arN, FL.v_arC, FL.v_faN, FL.v_faC, FL.v_tup, FL.v_lst, FL.v_tdN, FL.v_tdC, FL.v_tdI, FL.v_tdL, FL.toDs_imms, FL.imms_imms, FL.v_cb, FL.v_vsN, FL.v_vsC, FL.v_bm, FL.v_tyS, FL.v_tyL, FL.v_sl, FL.v_moN, FL.v_moS, FL.v_iOf, FL.v_call, FL.v_osO, FL.v_osS, FL.v_isI, FL.v_isL, FL.v_isD, FL.v_gN, FL.v_gO, FL.v_gS, FL.v_for, FL.v_lc, FL.v_sub, FL.v_sub2, FL.v_iAt, FL.v_iC, FL.v_aug, FL.v_par, FL.v_mut, FL.v_rng1, FL.v_rng2, FL.v_seqI, FL.v_enumE, FL.v_enumT, FL.v_enumL, FL.v_isi, FL.v_addI, FL.v_addS, FL.v_addT, FL.v_addL, FL.v_subI, FL.v_neg, FL.v_lt, FL.v_le, FL.v_gt, FL.v_ge, FL.v_eqI, FL.v_neI, FL.v_eqS, FL.v_neS, FL.v_ixT, FL.v_ixD, FL.v_ixL, FL.v_ixS, FL.v_len, FL.v_lnT, FL.v_lnD, FL.v_lnL, FL.v_lnS, FL.v_abs, FL.v_max, FL.v_min, FL.v_int, FL.v_intB, FL.v_tuple, FL.v_list, FL.v_sqT, FL.v_sqD, FL.v_sqL, FL.v_itT, FL.v_itL, FL.v_itS, FL.v_isN, FL.v_notN, FL.v_setL, FL.v_setD, FL.v_kS, FL.v_kI, FL.v_mp, FL.v_mpn, FL.v_pO, FL.v_tupG, FL.v_gsC, FL.v_gsN, FL.v_slD, FL.v_at0, FL.v_at1, FL.v_at2, FL.v_i30, FL.v_i31, FL.v_i32, FL.v_Mv, FL.v_mvV, FL.v_pr, FL.v_wpN, FL.v_wpC, FL.v_wsN, FL.v_wsV, FL.v_wsO, FL.v_bkN, FL.v_bkC, FL.v_bsN, FL.v_bsI, FL.v_sf, FL.v_yes, FL.v_tupA, FL.v_imm, FL.v_aftN, FL.v_aftC, FL.v_aftB, FL.v_aftR, FL.v_iOp, FL.v_iLen, FL.v_dnin, FL.v_dninI, FL.v_disp1, FL.v_dispI, FL.v_mut0, FL.v_mulB, FL.v_lrg1, FL.v_trg1, FL.v_lrg2, FL.v_trg2, FL.v_fT, FL.v_rS, FL.v_rO, FL.v_plI, FL.v_plL, FL.v_plD, FL.v_plT, FL.v_vrN, FL.v_vrC, FL.v_isT, FL.callD, Option.bind_some, Option.bind_none, List.getElem?_cons_zero, List.getElem?_cons_succ, List.getElem?_nil, List.set_cons_zero, List.set_cons_succ, List.length_cons, List.length_nil, List.filterMap_cons, List.filterMap_nil, decide_eq_true_eq, if_true, if_false, true_and, and_true, Nat.reduceAdd, Nat.reduceLeDiff, Nat.reduceEqDiff, ↓reduceIte, Bool.false_eq_true, FL.startE, FL.backs, List.map_cons, List.map_nil, List.cons_append, List.nil_append, Nat.reduceSub, List.replicate_succ, List.replicate_zero, List.nodup_nil, List.nodup_cons, List.not_mem_nil, not_false_eq_true, and_self, reduceCtorEq, Option.map_some, Option.map_none, lenT_tab, lenT_row], by simp -implicitDefEqProofs only [FL.v_seq, FL.v_thN, FL.v_thR, FL.v_thB, FL.v_thC, FL.v_ifS, FL.v_asg, FL.v_ret, FL.v_retN, FL.v_drop, FL.v_nx, FL.v_bk, FL.v_ct, FL.v_name, FL.v_pN, FL.v_pV, FL.v_var, FL.v_at, FL.v_trV, FL.v_trP, FL.v_wV, FL.v_wP, FL.v_C, FL.v_ER, FL.v_Fz, FL.v_fO, FL.v_fS, FL.v_fV, FL.v_fP, FL.v_fL, FL.v_vS, FL.v_vO, FL.v_op, FL.v_un, FL.v_bOf, FL.v_test, FL.v_and, FL.v_or, FL.v_not, FL.v_tru, FL.v_trB, FL.v_andV, FL.v_orV, FL.v_notV, FL.v_if, FL.v_chain, FL.v_arN, FL.v_arC, FL.v_faN, FL.v_faC, FL.v_tup, FL.v_lst, FL.v_tdN, FL.v_tdC, FL.v_tdI, FL.v_tdL, FL.toDs_imms, FL.imms_imms, FL.v_cb, FL.v_vsN, FL.v_vsC, FL.v_bm, FL.v_tyS, FL.v_tyL, FL.v_sl, FL.v_moN, FL.v_moS, FL.v_iOf, FL.v_call, FL.v_osO, FL.v_osS, FL.v_isI, FL.v_isL, FL.v_isD, FL.v_gN, FL.v_gO, FL.v_gS, FL.v_for, FL.v_lc, FL.v_sub, FL.v_sub2, FL.v_iAt, FL.v_iC, FL.v_aug, FL.v_par, FL.v_mut, FL.v_rng1, FL.v_rng2, FL.v_seqI, FL.v_enumE, FL.v_enumT, FL.v_enumL, FL.v_isi, FL.v_addI, FL.v_addS, FL.v_addT, FL.v_addL, FL.v_subI, FL.v_neg, FL.v_lt, FL.v_le, FL.v_gt, FL.v_ge, FL.v_eqI, FL.v_neI, FL.v_eqS, FL.v_neS, FL.v_ixT, FL.v_ixD, FL.v_ixL, FL.v_ixS, FL.v_len, FL.v_lnT, FL.v_lnD, FL.v_lnL, FL.v_lnS, FL.v_abs, FL.v_max, FL.v_min, FL.v_int, FL.v_intB, FL.v_tuple, FL.v_list, FL.v_sqT, FL.v_sqD, FL.v_sqL, FL.v_itT, FL.v_itL, FL.v_itS, FL.v_isN, FL.v_notN, FL.v_setL, FL.v_setD, FL.v_kS, FL.v_kI, FL.v_mp, FL.v_mpn, FL.v_pO, FL.v_tupG, FL.v_gsC, FL.v_gsN, FL.v_slD, FL.v_at0, FL.v_at1, FL.v_at2, FL.v_i30, FL.v_i31, FL.v_i32, FL.v_Mv, FL.v_mvV, FL.v_pr, FL.v_wpN, FL.v_wpC, FL.v_wsN, FL.v_wsV, FL.v_wsO, FL.v_bkN, FL.v_bkC, FL.v_bsN, FL.v_bsI, FL.v_sf, FL.v_yes, FL.v_tupA, FL.v_imm, FL.v_aftN, FL.v_aftC, FL.v_aftB, FL.v_aftR, FL.v_iOp, FL.v_iLen, FL.v_dnin, FL.v_dninI, FL.v_disp1, FL.v_dispI, FL.v_mut0, FL.v_mulB, FL.v_lrg1, FL.v_trg1, FL.v_lrg2, FL.v_trg2, FL.v_fT, FL.v_rS, FL.v_rO, FL.v_plI, FL.v_plL, FL.v_plD, FL.v_plT, FL.v_vrN, FL.v_vrC, FL.v_isT, FL.callD, Option.bind_some, Option.bind_none, List.getElem?_cons_zero, List.getElem?_cons_succ, List.getElem?_nil, List.set_cons_zero, List.set_cons_succ, List.length_cons, List.length_nil, List.filterMap_cons, List.filterMap_nil, decide_eq_true_eq, if_true, if_false, true_and, and_true, Nat.reduceAdd, Nat.reduceLeDiff, Nat.reduceEqDiff, ↓reduceIte, Bool.false_eq_true, FL.startE, FL.backs, List.map_cons, List.map_nil, List.cons_append, List.nil_append, Nat.reduceSub, List.replicate_succ, List.replicate_zero, List.nodup_nil, List.nodup_cons, List.not_mem_nil, not_false_eq_true, and_self, reduceCtorEq, Option.map_some, Option.map_none, lenT_tab, lenT_row]⟩, fun _ => by simp -implicitDefEqProofs only [FL.v_seq, FL.v_thN, FL.v_thR, FL.v_thB, FL.v_thC, FL.v_ifS, FL.v_asg, FL.v_ret, FL.v_retN, FL.v_drop, FL.v_nx, FL.v_bk, FL.v_ct, FL.v_name, FL.v_pN, FL.v_pV, FL.v_var, FL.v_at, FL.v_trV, FL.v_trP, FL.v_wV, FL.v_wP, FL.v_C, FL.v_ER, FL.v_Fz, FL.v_fO, FL.v_fS, FL.v_fV, FL.v_fP, FL.v_fL, FL.v_vS, FL.v_vO, FL.v_op, FL.v_un, FL.v_bOf, FL.v_test, FL.v_and, FL.v_or, FL.v_not, FL.v_tru, FL.v_trB, FL.v_andV, FL.v_orV, FL.v_notV, FL.v_if, FL.v_chain, FL.v_arN, FL.v_arC, FL.v_faN, FL.v_faC, FL.v_tup, FL.v_lst, FL.v_tdN, FL.v_tdC, FL.v_tdI, FL.v_tdL, FL.toDs_imms, FL.imms_imms, FL.v_cb, FL.v_vsN, FL.v_vsC, FL.v_bm, FL.v_tyS, FL.v_tyL, FL.v_sl, FL.v_moN, FL.v_moS, FL.v_iOf, FL.v_call, FL.v_osO, FL.v_osS, FL.v_isI, FL.v_isL, FL.v_isD, FL.v_gN, FL.v_gO, FL.v_gS, FL.v_for, FL.v_lc, FL.v_sub, FL.v_sub2, FL.v_iAt, FL.v_iC, FL.v_aug, FL.v_par, FL.v_mut, FL.v_rng1, FL.v_rng2, FL.v_seqI, FL.v_enumE, FL.v_enumT, FL.v_enumL, FL.v_isi, FL.v_addI, FL.v_addS, FL.v_addT, FL.v_addL, FL.v_subI, FL.v_neg, FL.v_lt, FL.v_le, FL.v_gt, FL.v_ge, FL.v_eqI, FL.v_neI, FL.v_eqS, FL.v_neS, FL.v_ixT, FL.v_ixD, FL.v_ixL, FL.v_ixS, FL.v_len, FL.v_lnT, FL.v_lnD, FL.v_lnL, FL.v_lnS, FL.v_abs, FL.v_max, FL.v_min, FL.v_int, FL.v_intB, FL.v_tuple, FL.v_list, FL.v_sqT, FL.v_sqD, FL.v_sqL, FL.v_itT, FL.v_itL, FL.v_itS, FL.v_isN, FL.v_notN, FL.v_setL, FL.v_setD, FL.v_kS, FL.v_kI, FL.v_mp, FL.v_mpn, FL.v_pO, FL.v_tupG, FL.v_gsC, FL.v_gsN, FL.v_slD, FL.v_at0, FL.v_at1, FL.v_at2, FL.v_i30, FL.v_i31, FL.v_i32, FL.v_Mv, FL.v_mvV, FL.v_pr, FL.v_wpN, FL.v_wpC, FL.v_wsN, FL.v_wsV, FL.v_wsO, FL.v_bkN, FL.v_bkC, FL.v_bsN, FL.v_bsI, FL.v_sf, FL.v_yes, FL.v_tupA, FL.v_imm, FL.v_aftN, FL.v_aftC, FL.v_aftB, FL.v_aftR, FL.v_iOp, FL.v_iLen, FL.v_dnin, FL.v_dninI, FL.v_disp1, FL.v_dispI, FL.v_mut0, FL.v_mulB, FL.v_lrg1, FL.v_trg1, FL.v_lrg2, FL.v_trg2, FL.v_fT, FL.v_rS, FL.v_rO, FL.v_plI, FL.v_plL, FL.v_plD, FL.v_plT, FL.v_vrN, FL.v_vrC, FL.v_isT, FL.callD, Option.bind_some, Option.bind_none, List.getElem?_cons_zero, List.getElem?_cons_succ, List.getElem?_nil, List.set_cons_zero, List.set_cons_succ, List.length_cons, List.length_nil, List.filterMap_cons, List.filterMap_nil, decide_eq_true_eq, if_true, if_false, true_and, and_true, Nat.reduceAdd, Nat.reduceLeDiff, Nat.reduceEqDiff, ↓reduceIte, Bool.false_eq_true, FL.startE, FL.backs, List.map_cons, List.map_nil, List.cons_append, List.nil_append, Nat.reduceSub, List.replicate_succ, List.replicate_zero, List.nodup_nil, List.nodup_cons, List.not_mem_nil, not_false_eq_true, and_self, reduceCtorEq, Option.map_some, Option.map_none, lenT_tab, lenT_row]⟩) [] (by simp; omega)
          rw [List.nil_append, hrest] at lc1
          change lcD _ _ _ _ (wL left) _ _ = some ((wL rest).map Tr.imm, _) at lc1
          have lc2 := lcD_imm (g := mName 5) (m := mOp fAdd (mER (mTup (faCons (mFz (mVar 2)) faNil))) (mVar 5)) (vs := [5]) (E := [.val (.imm (.tuple (wL left))), .val (tupsT P), .val (.imm (.int (i : Nat))), .val (.imm (.tuple (wL rest))), .no, .no]) pT (fun p => pT (i :: p)) ap (fun p hp => by
            have hs := sh p hp
            have l2 : (1 + (wL p).length ≤ 16777216) = True := eq_true (by rw [wL_len]; omega)
            refine ⟨[.val (.imm (.tuple (wL left))), .val (tupsT P), .val (.imm (.int (i : Nat))), .val (.imm (.tuple (wL rest))), .no, .val (.imm (pT p))], [.val (.imm (.tuple (wL left))), .val (tupsT P), .val (.imm (.int (i : Nat))), .val (.imm (.tuple (wL rest))), .no, .val (.imm (pT p))], by simp -implicitDefEqProofs only [FL.v_seq, FL.v_thN, FL.v_thR, FL.v_thB, FL.v_thC, FL.v_ifS, FL.v_asg, FL.v_ret, FL.v_retN, FL.v_drop, FL.v_nx, FL.v_bk, FL.v_ct, FL.v_name, FL.v_pN, FL.v_pV, FL.v_var, FL.v_at, FL.v_trV, FL.v_trP, FL.v_wV, FL.v_wP, FL.v_C, FL.v_ER, FL.v_Fz, FL.v_fO, FL.v_fS, FL.v_fV, FL.v_fP, FL.v_fL, FL.v_vS, FL.v_vO, FL.v_op, FL.v_un, FL.v_bOf, FL.v_test, FL.v_and, FL.v_or, FL.v_not, FL.v_tru, FL.v_trB, FL.v_andV, FL.v_orV, FL.v_notV, FL.v_if, FL.v_chain, FL.v_arN, FL.v_arC, FL.v_faN, FL.v_faC, FL.v_tup, FL.v_lst, FL.v_tdN, FL.v_tdC, FL.v_tdI, FL.v_tdL, FL.toDs_imms, FL.imms_imms, FL.v_cb, FL.v_vsN, FL.v_vsC, FL.v_bm, FL.v_tyS, FL.v_tyL, FL.v_sl, FL.v_moN, FL.v_moS, FL.v_iOf, FL.v_call, FL.v_osO, FL.v_osS, FL.v_isI, FL.v_isL, FL.v_isD, FL.v_gN, FL.v_gO, FL.v_gS, FL.v_for, FL.v_lc, FL.v_sub, FL.v_sub2, FL.v_iAt, FL.v_iC, FL.v_aug, FL.v_par, FL.v_mut, FL.v_rng1, FL.v_rng2, FL.v_seqI, FL.v_enumE, FL.v_enumT, FL.v_enumL, FL.v_isi, FL.v_addI, FL.v_addS, FL.v_addT, FL.v_addL, FL.v_subI, FL.v_neg, FL.v_lt, FL.v_le, FL.v_gt, FL.v_ge, FL.v_eqI, FL.v_neI, FL.v_eqS, FL.v_neS, FL.v_ixT, FL.v_ixD, FL.v_ixL, FL.v_ixS, FL.v_len, FL.v_lnT, FL.v_lnD, FL.v_lnL, FL.v_lnS, FL.v_abs, FL.v_max, FL.v_min, FL.v_int, FL.v_intB, FL.v_tuple, FL.v_list, FL.v_sqT, FL.v_sqD, FL.v_sqL, FL.v_itT, FL.v_itL, FL.v_itS, FL.v_isN, FL.v_notN, FL.v_setL, FL.v_setD, FL.v_kS, FL.v_kI, FL.v_mp, FL.v_mpn, FL.v_pO, FL.v_tupG, FL.v_gsC, FL.v_gsN, FL.v_slD, FL.v_at0, FL.v_at1, FL.v_at2, FL.v_i30, FL.v_i31, FL.v_i32, FL.v_Mv, FL.v_mvV, FL.v_pr, FL.v_wpN, FL.v_wpC, FL.v_wsN, FL.v_wsV, FL.v_wsO, FL.v_bkN, FL.v_bkC, FL.v_bsN, FL.v_bsI, FL.v_sf, FL.v_yes, FL.v_tupA, FL.v_imm, FL.v_aftN, FL.v_aftC, FL.v_aftB, FL.v_aftR, FL.v_iOp, FL.v_iLen, FL.v_dnin, FL.v_dninI, FL.v_disp1, FL.v_dispI, FL.v_mut0, FL.v_mulB, FL.v_lrg1, FL.v_trg1, FL.v_lrg2, FL.v_trg2, FL.v_fT, FL.v_rS, FL.v_rO, FL.v_plI, FL.v_plL, FL.v_plD, FL.v_plT, FL.v_vrN, FL.v_vrC, FL.v_isT, FL.callD, Option.bind_some, Option.bind_none, List.getElem?_cons_zero, List.getElem?_cons_succ, List.getElem?_nil, List.set_cons_zero, List.set_cons_succ, List.length_cons, List.length_nil, List.filterMap_cons, List.filterMap_nil, decide_eq_true_eq, if_true, if_false, true_and, and_true, Nat.reduceAdd, Nat.reduceLeDiff, Nat.reduceEqDiff, ↓reduceIte, Bool.false_eq_true, FL.startE, FL.backs, List.map_cons, List.map_nil, List.cons_append, List.nil_append, Nat.reduceSub, List.replicate_succ, List.replicate_zero, List.nodup_nil, List.nodup_cons, List.not_mem_nil, not_false_eq_true, and_self, reduceCtorEq, Option.map_some, Option.map_none, lenT_tab, lenT_row], ?_, by simp -implicitDefEqProofs only [FL.v_seq, FL.v_thN, FL.v_thR, FL.v_thB, FL.v_thC, FL.v_ifS, FL.v_asg, FL.v_ret, FL.v_retN, FL.v_drop, FL.v_nx, FL.v_bk, FL.v_ct, FL.v_name, FL.v_pN, FL.v_pV, FL.v_var, FL.v_at, FL.v_trV, FL.v_trP, FL.v_wV, FL.v_wP, FL.v_C, FL.v_ER, FL.v_Fz, FL.v_fO, FL.v_fS, FL.v_fV, FL.v_fP, FL.v_fL, FL.v_vS, FL.v_vO, FL.v_op, FL.v_un, FL.v_bOf, FL.v_test, FL.v_and, FL.v_or, FL.v_not, FL.v_tru, FL.v_trB, FL.v_andV, FL.v_orV, FL.v_notV, FL.v_if, FL.v_chain, FL.v_arN, FL.v_arC, FL.v_faN, FL.v_faC, FL.v_tup, FL.v_lst, FL.v_tdN, FL.v_tdC, FL.v_tdI, FL.v_tdL, FL.toDs_imms, FL.imms_imms, FL.v_cb, FL.v_vsN, FL.v_vsC, FL.v_bm, FL.v_tyS, FL.v_tyL, FL.v_sl, FL.v_moN, FL.v_moS, FL.v_iOf, FL.v_call, FL.v_osO, FL.v_osS, FL.v_isI, FL.v_isL, FL.v_isD, FL.v_gN, FL.v_gO, FL.v_gS, FL.v_for, FL.v_lc, FL.v_sub, FL.v_sub2, FL.v_iAt, FL.v_iC, FL.v_aug, FL.v_par, FL.v_mut, FL.v_rng1, FL.v_rng2, FL.v_seqI, FL.v_enumE, FL.v_enumT, FL.v_enumL, FL.v_isi, FL.v_addI, FL.v_addS, FL.v_addT, FL.v_addL, FL.v_subI, FL.v_neg, FL.v_lt, FL.v_le, FL.v_gt, FL.v_ge, FL.v_eqI, FL.v_neI, FL.v_eqS, FL.v_neS, FL.v_ixT, FL.v_ixD, FL.v_ixL, FL.v_ixS, FL.v_len, FL.v_lnT, FL.v_lnD, FL.v_lnL, FL.v_lnS, FL.v_abs, FL.v_max, FL.v_min, FL.v_int, FL.v_intB, FL.v_tuple, FL.v_list, FL.v_sqT, FL.v_sqD, FL.v_sqL, FL.v_itT, FL.v_itL, FL.v_itS, FL.v_isN, FL.v_notN, FL.v_setL, FL.v_setD, FL.v_kS, FL.v_kI, FL.v_mp, FL.v_mpn, FL.v_pO, FL.v_tupG, FL.v_gsC, FL.v_gsN, FL.v_slD, FL.v_at0, FL.v_at1, FL.v_at2, FL.v_i30, FL.v_i31, FL.v_i32, FL.v_Mv, FL.v_mvV, FL.v_pr, FL.v_wpN, FL.v_wpC, FL.v_wsN, FL.v_wsV, FL.v_wsO, FL.v_bkN, FL.v_bkC, FL.v_bsN, FL.v_bsI, FL.v_sf, FL.v_yes, FL.v_tupA, FL.v_imm, FL.v_aftN, FL.v_aftC, FL.v_aftB, FL.v_aftR, FL.v_iOp, FL.v_iLen, FL.v_dnin, FL.v_dninI, FL.v_disp1, FL.v_dispI, FL.v_mut0, FL.v_mulB, FL.v_lrg1, FL.v_trg1, FL.v_lrg2, FL.v_trg2, FL.v_fT, FL.v_rS, FL.v_rO, FL.v_plI, FL.v_plL, FL.v_plD, FL.v_plT, FL.v_vrN, FL.v_vrC, FL.v_isT, FL.callD, Option.bind_some, Option.bind_none, List.getElem?_cons_zero, List.getElem?_cons_succ, List.getElem?_nil, List.set_cons_zero, List.set_cons_succ, List.length_cons, List.length_nil, List.filterMap_cons, List.filterMap_nil, decide_eq_true_eq, if_true, if_false, true_and, and_true, Nat.reduceAdd, Nat.reduceLeDiff, Nat.reduceEqDiff, ↓reduceIte, Bool.false_eq_true, FL.startE, FL.backs, List.map_cons, List.map_nil, List.cons_append, List.nil_append, Nat.reduceSub, List.replicate_succ, List.replicate_zero, List.nodup_nil, List.nodup_cons, List.not_mem_nil, not_false_eq_true, and_self, reduceCtorEq, Option.map_some, Option.map_none, lenT_tab, lenT_row]⟩
            unfold pT
            simp -implicitDefEqProofs only [FL.v_seq, FL.v_thN, FL.v_thR, FL.v_thB, FL.v_thC, FL.v_ifS, FL.v_asg, FL.v_ret, FL.v_retN, FL.v_drop, FL.v_nx, FL.v_bk, FL.v_ct, FL.v_name, FL.v_pN, FL.v_pV, FL.v_var, FL.v_at, FL.v_trV, FL.v_trP, FL.v_wV, FL.v_wP, FL.v_C, FL.v_ER, FL.v_Fz, FL.v_fO, FL.v_fS, FL.v_fV, FL.v_fP, FL.v_fL, FL.v_vS, FL.v_vO, FL.v_op, FL.v_un, FL.v_bOf, FL.v_test, FL.v_and, FL.v_or, FL.v_not, FL.v_tru, FL.v_trB, FL.v_andV, FL.v_orV, FL.v_notV, FL.v_if, FL.v_chain, FL.v_arN, FL.v_arC, FL.v_faN, FL.v_faC, FL.v_tup, FL.v_lst, FL.v_tdN, FL.v_tdC, FL.v_tdI, FL.v_tdL, FL.toDs_imms, FL.imms_imms, FL.v_cb, FL.v_vsN, FL.v_vsC, FL.v_bm, FL.v_tyS, FL.v_tyL, FL.v_sl, FL.v_moN, FL.v_moS, FL.v_iOf, FL.v_call, FL.v_osO, FL.v_osS, FL.v_isI, FL.v_isL, FL.v_isD, FL.v_gN, FL.v_gO, FL.v_gS, FL.v_for, FL.v_lc, FL.v_sub, FL.v_sub2, FL.v_iAt, FL.v_iC, FL.v_aug, FL.v_par, FL.v_mut, FL.v_rng1, FL.v_rng2, FL.v_seqI, FL.v_enumE, FL.v_enumT, FL.v_enumL, FL.v_isi, FL.v_addI, FL.v_addS, FL.v_addT, FL.v_addL, FL.v_subI, FL.v_neg, FL.v_lt, FL.v_le, FL.v_gt, FL.v_ge, FL.v_eqI, FL.v_neI, FL.v_eqS, FL.v_neS, FL.v_ixT, FL.v_ixD, FL.v_ixL, FL.v_ixS, FL.v_len, FL.v_lnT, FL.v_lnD, FL.v_lnL, FL.v_lnS, FL.v_abs, FL.v_max, FL.v_min, FL.v_int, FL.v_intB, FL.v_tuple, FL.v_list, FL.v_sqT, FL.v_sqD, FL.v_sqL, FL.v_itT, FL.v_itL, FL.v_itS, FL.v_isN, FL.v_notN, FL.v_setL, FL.v_setD, FL.v_kS, FL.v_kI, FL.v_mp, FL.v_mpn, FL.v_pO, FL.v_tupG, FL.v_gsC, FL.v_gsN, FL.v_slD, FL.v_at0, FL.v_at1, FL.v_at2, FL.v_i30, FL.v_i31, FL.v_i32, FL.v_Mv, FL.v_mvV, FL.v_pr, FL.v_wpN, FL.v_wpC, FL.v_wsN, FL.v_wsV, FL.v_wsO, FL.v_bkN, FL.v_bkC, FL.v_bsN, FL.v_bsI, FL.v_sf, FL.v_yes, FL.v_tupA, FL.v_imm, FL.v_aftN, FL.v_aftC, FL.v_aftB, FL.v_aftR, FL.v_iOp, FL.v_iLen, FL.v_dnin, FL.v_dninI, FL.v_disp1, FL.v_dispI, FL.v_mut0, FL.v_mulB, FL.v_lrg1, FL.v_trg1, FL.v_lrg2, FL.v_trg2, FL.v_fT, FL.v_rS, FL.v_rO, FL.v_plI, FL.v_plL, FL.v_plD, FL.v_plT, FL.v_vrN, FL.v_vrC, FL.v_isT, FL.callD, Option.bind_some, Option.bind_none, List.getElem?_cons_zero, List.getElem?_cons_succ, List.getElem?_nil, List.set_cons_zero, List.set_cons_succ, List.length_cons, List.length_nil, List.filterMap_cons, List.filterMap_nil, decide_eq_true_eq, if_true, if_false, true_and, and_true, Nat.reduceAdd, Nat.reduceLeDiff, Nat.reduceEqDiff, ↓reduceIte, Bool.false_eq_true, FL.startE, FL.backs, List.map_cons, List.map_nil, List.cons_append, List.nil_append, Nat.reduceSub, List.replicate_succ, List.replicate_zero, List.nodup_nil, List.nodup_cons, List.not_mem_nil, not_false_eq_true, and_self, reduceCtorEq, Option.map_some, Option.map_none, lenT_tab, lenT_row, l1, l2]
            rfl) (by omega)
          have em : ap.map (fun p => pT (i :: p)) = (ap.map (i :: ·)).map pT := by rw [List.map_map]; rfl
          rw [em] at lc2
          have td : (tupsT ap).toD = some (.list (ap.map pT)) := by
            show (Tr.lst ((ap.map pT).map Tr.imm)).toD = _
            rw [v_tdL, toDs_imms]
            rfl
          have ex : fExtend (tupsT P) [.lst (((ap.map (i :: ·)).map pT).map Tr.imm)] = some (.imm .none, tupsT (P ++ ap.map (i :: ·))) := by
            show fExtend (.lst ((P.map pT).map Tr.imm)) _ = some (_, .lst (((P ++ ap.map (i :: ·)).map pT).map Tr.imm))
            rw [v_extend, if_pos (by rw [List.length_map, List.length_map, List.length_map, List.length_map, List.length_map]; omega), List.map_append, List.map_append]
          have ty : tyB "list" (tupsT P) = true := rfl
          obtain ⟨s2', s3', e3⟩ := ih (fun k hk => hl k (List.mem_cons_of_mem _ hk)) (P ++ ap.map (i :: ·)) (by rw [List.length_append, List.length_map]; omega) (some (.imm (.int (i : Nat)))) (some (.imm (.tuple (wL rest))))
          refine ⟨s2', s3', ?_⟩
          rw [List.flatMap_cons, hrest, hap, ← List.append_assoc, List.map_cons, forD]
          have e0 : mName 2 (.imm (.int (i : Nat))) [.val (.imm (.tuple (wL left))), .val (tupsT P), ov s2, ov s3, .no, .no] = some [.val (.imm (.tuple (wL left))), .val (tupsT P), .val (.imm (.int (i : Nat))), ov s3, .no, .no] := by simp -implicitDefEqProofs only [FL.v_seq, FL.v_thN, FL.v_thR, FL.v_thB, FL.v_thC, FL.v_ifS, FL.v_asg, FL.v_ret, FL.v_retN, FL.v_drop, FL.v_nx, FL.v_bk, FL.v_ct, FL.v_name, FL.v_pN, FL.v_pV, FL.v_var, FL.v_at, FL.v_trV, FL.v_trP, FL.v_wV, FL.v_wP, FL.v_C, FL.v_ER, FL.v_Fz, FL.v_fO, FL.v_fS, FL.v_fV, FL.v_fP, FL.v_fL, FL.v_vS, FL.v_vO, FL.v_op, FL.v_un, FL.v_bOf, FL.v_test, FL.v_and, FL.v_or, FL.v_not, FL.v_tru, FL.v_trB, FL.v_andV, FL.v_orV, FL.v_notV, FL.v_if, FL.v_chain, FL.v_arN, FL.v_arC, FL.v_faN, FL.v_faC, FL.v_tup, FL.v_lst, FL.v_tdN, FL.v_tdC, FL.v_tdI, FL.v_tdL, FL.toDs_imms, FL.imms_imms, FL.v_cb, FL.v_vsN, FL.v_vsC, FL.v_bm, FL.v_tyS, FL.v_tyL, FL.v_sl, FL.v_moN, FL.v_moS, FL.v_iOf, FL.v_call, FL.v_osO, FL.v_osS, FL.v_isI, FL.v_isL, FL.v_isD, FL.v_gN, FL.v_gO, FL.v_gS, FL.v_for, FL.v_lc, FL.v_sub, FL.v_sub2, FL.v_iAt, FL.v_iC, FL.v_aug, FL.v_par, FL.v_mut, FL.v_rng1, FL.v_rng2, FL.v_seqI, FL.v_enumE, FL.v_enumT, FL.v_enumL, FL.v_isi, FL.v_addI, FL.v_addS, FL.v_addT, FL.v_addL, FL.v_subI, FL.v_neg, FL.v_lt, FL.v_le, FL.v_gt, FL.v_ge, FL.v_eqI, FL.v_neI, FL.v_eqS, FL.v_neS, FL.v_ixT, FL.v_ixD, FL.v_ixL, FL.v_ixS, FL.v_len, FL.v_lnT, FL.v_lnD, FL.v_lnL, FL.v_lnS, FL.v_abs, FL.v_max, FL.v_min, FL.v_int, FL.v_intB, FL.v_tuple, FL.v_list, FL.v_sqT, FL.v_sqD, FL.v_sqL, FL.v_itT, FL.v_itL, FL.v_itS, FL.v_isN, FL.v_notN, FL.v_setL, FL.v_setD, FL.v_kS, FL.v_kI, FL.v_mp, FL.v_mpn, FL.v_pO, FL.v_tupG, FL.v_gsC, FL.v_gsN, FL.v_slD, FL.v_at0, FL.v_at1, FL.v_at2, FL.v_i30, FL.v_i31, FL.v_i32, FL.v_Mv, FL.v_mvV, FL.v_pr, FL.v_wpN, FL.v_wpC, FL.v_wsN, FL.v_wsV, FL.v_wsO, FL.v_bkN, FL.v_bkC, FL.v_bsN, FL.v_bsI, FL.v_sf, FL.v_yes, FL.v_tupA, FL.v_imm, FL.v_aftN, FL.v_aftC, FL.v_aftB, FL.v_aftR, FL.v_iOp, FL.v_iLen, FL.v_dnin, FL.v_dninI, FL.v_disp1, FL.v_dispI, FL.v_mut0, FL.v_mulB, FL.v_lrg1, FL.v_trg1, FL.v_lrg2, FL.v_trg2, FL.v_fT, FL.v_rS, FL.v_rO, FL.v_plI, FL.v_plL, FL.v_plD, FL.v_plT, FL.v_vrN, FL.v_vrC, FL.v_isT, FL.callD, Option.bind_some, Option.bind_none, List.getElem?_cons_zero, List.getElem?_cons_succ, List.getElem?_nil, List.set_cons_zero, List.set_cons_succ, List.length_cons, List.length_nil, List.filterMap_cons, List.filterMap_nil, decide_eq_true_eq, if_true, if_false, true_and, and_true, Nat.reduceAdd, Nat.reduceLeDiff, Nat.reduceEqDiff, ↓reduceIte, Bool.false_eq_true, FL.startE, FL.backs, List.map_cons, List.map_nil, List.cons_append, List.nil_append, Nat.reduceSub, List.replicate_succ, List.replicate_zero, List.nodup_nil, List.nodup_cons, List.not_mem_nil, not_false_eq_true, and_self, reduceCtorEq, Option.map_some, Option.map_none, lenT_tab, lenT_row]
          rw [e0, Option.bind_some]
          rw [show ov (some (Tr.imm (.int (i : Nat)))) = SL.val (Tr.imm (.int (i : Nat))) from rfl, show ov (some (Tr.imm (.tuple (wL rest)))) = SL.val (Tr.imm (.tuple (wL rest))) from rfl] at e3
          simp -implicitDefEqProofs only [FL.v_seq, FL.v_thN, FL.v_thR, FL.v_thB, FL.v_thC, FL.v_ifS, FL.v_asg, FL.v_ret, FL.v_retN, FL.v_drop, FL.v_nx, FL.v_bk, FL.v_ct, FL.v_name, FL.v_pN, FL.v_pV, FL.v_var, FL.v_at, FL.v_trV, FL.v_trP, FL.v_wV, FL.v_wP, FL.v_C, FL.v_ER, FL.v_Fz, FL.v_fO, FL.v_fS, FL.v_fV, FL.v_fP, FL.v_fL, FL.v_vS, FL.v_vO, FL.v_op, FL.v_un, FL.v_bOf, FL.v_test, FL.v_and, FL.v_or, FL.v_not, FL.v_tru, FL.v_trB, FL.v_andV, FL.v_orV, FL.v_notV, FL.v_if, FL.v_chain, FL.v_arN, FL.v_arC, FL.v_faN, FL.v_faC, FL.v_tup, FL.v_lst, FL.v_tdN, FL.v_tdC, FL.v_tdI, FL.v_tdL, FL.toDs_imms, FL.imms_imms, FL.v_cb, FL.v_vsN, FL.v_vsC, FL.v_bm, FL.v_tyS, FL.v_tyL, FL.v_sl, FL.v_moN, FL.v_moS, FL.v_iOf, FL.v_call, FL.v_osO, FL.v_osS, FL.v_isI, FL.v_isL, FL.v_isD, FL.v_gN, FL.v_gO, FL.v_gS, FL.v_for, FL.v_lc, FL.v_sub, FL.v_sub2, FL.v_iAt, FL.v_iC, FL.v_aug, FL.v_par, FL.v_mut, FL.v_rng1, FL.v_rng2, FL.v_seqI, FL.v_enumE, FL.v_enumT, FL.v_enumL, FL.v_isi, FL.v_addI, FL.v_addS, FL.v_addT, FL.v_addL, FL.v_subI, FL.v_neg, FL.v_lt, FL.v_le, FL.v_gt, FL.v_ge, FL.v_eqI, FL.v_neI, FL.v_eqS, FL.v_neS, FL.v_ixT, FL.v_ixD, FL.v_ixL, FL.v_ixS, FL.v_len, FL.v_lnT, FL.v_lnD, FL.v_lnL, FL.v_lnS, FL.v_abs, FL.v_max, FL.v_min, FL.v_int, FL.v_intB, FL.v_tuple, FL.v_list, FL.v_sqT, FL.v_sqD, FL.v_sqL, FL.v_itT, FL.v_itL, FL.v_itS, FL.v_isN, FL.v_notN, FL.v_setL, FL.v_setD, FL.v_kS, FL.v_kI, FL.v_mp, FL.v_mpn, FL.v_pO, FL.v_tupG, FL.v_gsC, FL.v_gsN, FL.v_slD, FL.v_at0, FL.v_at1, FL.v_at2, FL.v_i30, FL.v_i31, FL.v_i32, FL.v_Mv, FL.v_mvV, FL.v_pr, FL.v_wpN, FL.v_wpC, FL.v_wsN, FL.v_wsV, FL.v_wsO, FL.v_bkN, FL.v_bkC, FL.v_bsN, FL.v_bsI, FL.v_sf, FL.v_yes, FL.v_tupA, FL.v_imm, FL.v_aftN, FL.v_aftC, FL.v_aftB, FL.v_aftR, FL.v_iOp, FL.v_iLen, FL.v_dnin, FL.v_dninI, FL.v_disp1, FL.v_dispI, FL.v_mut0, FL.v_mulB, FL.v_lrg1, FL.v_trg1, FL.v_lrg2, FL.v_trg2, FL.v_fT, FL.v_rS, FL.v_rO, FL.v_plI, FL.v_plL, FL.v_plD, FL.v_plT, FL.v_vrN, FL.v_vrC, FL.v_isT, FL.callD, Option.bind_some, Option.bind_none, List.getElem?_cons_zero, List.getElem?_cons_succ, List.getElem?_nil, List.set_cons_zero, List.set_cons_succ, List.length_cons, List.length_nil, List.filterMap_cons, List.filterMap_nil, decide_eq_true_eq, if_true, if_false, true_and, and_true, Nat.reduceAdd, Nat.reduceLeDiff, Nat.reduceEqDiff, ↓reduceIte, Bool.false_eq_true, FL.startE, FL.backs, List.map_cons, List.map_nil, List.cons_append, List.nil_append, Nat.reduceSub, List.replicate_succ, List.replicate_zero, List.nodup_nil, List.nodup_cons, List.not_mem_nil, not_false_eq_true, and_self, reduceCtorEq, Option.map_some, Option.map_none, lenT_tab, lenT_row, lc1, e2, td, lc2, ex, ty]
          exact e3
      obtain ⟨s2, s3, e1⟩ := key left (fun _ z => z) [] (by simp; omega) none none
      rw [List.nil_append] at e1
      change forD _ _ (wL left) _ = _ at e1
      simp only [show ov (none : Option Tr) = SL.no from rfl] at e1
      have t0 : Tr.lst [] = tupsT [] := rfl
      have mv : ∀ (X : List (List Nat)) (S2 S3 : SL), mMv 1 [.val (.imm (.tuple (wL left))), .val (tupsT X), S2, S3, .no, .no] = some (tupsT X, [.val (.imm (.tuple (wL left))), .no, S2, S3, .no, .no]) := fun _ _ _ => rfl
      simp -implicitDefEqProofs only [FL.v_seq, FL.v_thN, FL.v_thR, FL.v_thB, FL.v_thC, FL.v_ifS, FL.v_asg, FL.v_ret, FL.v_retN, FL.v_drop, FL.v_nx, FL.v_bk, FL.v_ct, FL.v_name, FL.v_pN, FL.v_pV, FL.v_var, FL.v_at, FL.v_trV, FL.v_trP, FL.v_wV, FL.v_wP, FL.v_C, FL.v_ER, FL.v_Fz, FL.v_fO, FL.v_fS, FL.v_fV, FL.v_fP, FL.v_fL, FL.v_vS, FL.v_vO, FL.v_op, FL.v_un, FL.v_bOf, FL.v_test, FL.v_and, FL.v_or, FL.v_not, FL.v_tru, FL.v_trB, FL.v_andV, FL.v_orV, FL.v_notV, FL.v_if, FL.v_chain, FL.v_arN, FL.v_arC, FL.v_faN, FL.v_faC, FL.v_tup, FL.v_lst, FL.v_tdN, FL.v_tdC, FL.v_tdI, FL.v_tdL, FL.toDs_imms, FL.imms_imms, FL.v_cb, FL.v_vsN, FL.v_vsC, FL.v_bm, FL.v_tyS, FL.v_tyL, FL.v_sl, FL.v_moN, FL.v_moS, FL.v_iOf, FL.v_call, FL.v_osO, FL.v_osS, FL.v_isI, FL.v_isL, FL.v_isD, FL.v_gN, FL.v_gO, FL.v_gS, FL.v_for, FL.v_lc, FL.v_sub, FL.v_sub2, FL.v_iAt, FL.v_iC, FL.v_aug, FL.v_par, FL.v_mut, FL.v_rng1, FL.v_rng2, FL.v_seqI, FL.v_enumE, FL.v_enumT, FL.v_enumL, FL.v_isi, FL.v_addI, FL.v_addS, FL.v_addT, FL.v_addL, FL.v_subI, FL.v_neg, FL.v_lt, FL.v_le, FL.v_gt, FL.v_ge, FL.v_eqI, FL.v_neI, FL.v_eqS, FL.v_neS, FL.v_ixT, FL.v_ixD, FL.v_ixL, FL.v_ixS, FL.v_len, FL.v_lnT, FL.v_lnD, FL.v_lnL, FL.v_lnS, FL.v_abs, FL.v_max, FL.v_min, FL.v_int, FL.v_intB, FL.v_tuple, FL.v_list, FL.v_sqT, FL.v_sqD, FL.v_sqL, FL.v_itT, FL.v_itL, FL.v_itS, FL.v_isN, FL.v_notN, FL.v_setL, FL.v_setD, FL.v_kS, FL.v_kI, FL.v_mp, FL.v_mpn, FL.v_pO, FL.v_tupG, FL.v_gsC, FL.v_gsN, FL.v_slD, FL.v_at0, FL.v_at1, FL.v_at2, FL.v_i30, FL.v_i31, FL.v_i32, FL.v_Mv, FL.v_mvV, FL.v_pr, FL.v_wpN, FL.v_wpC, FL.v_wsN, FL.v_wsV, FL.v_wsO, FL.v_bkN, FL.v_bkC, FL.v_bsN, FL.v_bsI, FL.v_sf, FL.v_yes, FL.v_tupA, FL.v_imm, FL.v_aftN, FL.v_aftC, FL.v_aftB, FL.v_aftR, FL.v_iOp, FL.v_iLen, FL.v_dnin, FL.v_dninI, FL.v_disp1, FL.v_dispI, FL.v_mut0, FL.v_mulB, FL.v_lrg1, FL.v_trg1, FL.v_lrg2, FL.v_trg2, FL.v_fT, FL.v_rS, FL.v_rO, FL.v_plI, FL.v_plL, FL.v_plD, FL.v_plT, FL.v_vrN, FL.v_vrC, FL.v_isT, FL.callD, Option.bind_some, Option.bind_none, List.getElem?_cons_zero, List.getElem?_cons_succ, List.getElem?_nil, List.set_cons_zero, List.set_cons_succ, List.length_cons, List.length_nil, List.filterMap_cons, List.filterMap_nil, decide_eq_true_eq, if_true, if_false, true_and, and_true, Nat.reduceAdd, Nat.reduceLeDiff, Nat.reduceEqDiff, ↓reduceIte, Bool.false_eq_true, FL.startE, FL.backs, List.map_cons, List.map_nil, List.cons_append, List.nil_append, Nat.reduceSub, List.replicate_succ, List.replicate_zero, List.nodup_nil, List.nodup_cons, List.not_mem_nil, not_false_eq_true, and_self, reduceCtorEq, Option.map_some, Option.map_none, lenT_tab, lenT_row, q, Nat.zero_le, t0, e1, mv]

end WK

namespace WK
open PySem L2 FL
/-- the table turned -/
def trn (G : Nat → Nat → Int) (p : List Nat) : Nat → Nat → Int := fun a b => G (p.idxOf a) (p.idxOf b)
/-- a list of numbers, by a function -/
def fnT (n : Nat) (f : Nat → Nat) : Tr := .lst (((List.range n).map fun i => PyData.int ((f i : Nat) : Int)).map Tr.imm)
theorem fn_at {n : Nat} {f : Nat → Nat} {i : Nat} (hi : i < n) : fIx (fnT n f) (.imm (.int (i : Nat))) = some (.imm (.int ((f i : Nat) : Int))) := by
  unfold fnT
  rw [v_ixL, FL.atI_nat (x := Tr.imm (.int ((f i : Nat) : Int))) (by rw [List.getElem?_map, range_get hi]; rfl)]
  rfl
theorem fn_set {n : Nat} {f : Nat → Nat} {i v : Nat} (hi : i < n) : fSetA (fnT n f) (.imm (.int (i : Nat))) (.imm (.int (v : Nat))) = some (fnT n fun k => if k = i then v else f k) := by
  unfold fnT
  rw [v_setL, ixN_nat (by rw [List.length_map, List.length_map, List.length_range]; exact hi), Option.map_some]
  congr 2
  rw [List.map_map, List.map_map, range_set]
  refine List.map_congr_left fun j _ => ?_
  show _ = Tr.imm (.int ((if j = i then v else f j : Nat) : Int))
  split <;> rfl
/-- a tuple, made or told -/
def TupW (T : Tr) (w : List Nat) : Prop := T = .imm (.tuple (wL w)) ∨ T = .tpl (wL w)
theorem whence_loop (n : Nat) (S0 : SL) (T : SL) : ∀ (l : List (Nat × Nat)) (_ : ∀ x ∈ l, x.2 < n) (f : Nat → Nat) (s3 s4 : Option Tr), ∃ s3' s4' : Option Tr,
    forD (mTupG 2 (gsCons (mName 3) (gsCons (mName 4) gsNil))) B_turned_table_1 (l.map fun x => PyData.tuple [.int (x.1 : Nat), .int (x.2 : Nat)]) [S0, T, .val (fnT n f), ov s3, ov s4, .no] = some (.nx [S0, T, .val (fnT n (l.foldl (fun f x => fun k => if k = x.2 then x.1 else f k) f)), ov s3', ov s4', .no]) := by
  intro l
  induction l with
  | nil => exact fun _ f s3 s4 => ⟨s3, s4, rfl⟩
  | cons x l ih =>
    intro hl f s3 s4
    obtain ⟨s3', s4', e⟩ := ih (fun y hy => hl y (List.mem_cons_of_mem _ hy)) (fun k => if k = x.2 then x.1 else f k) (some (.imm (.int (x.1 : Nat)))) (some (.imm (.int (x.2 : Nat))))
    refine ⟨s3', s4', ?_⟩
    have st := fn_set (f := f) (v := x.1) (hl x List.mem_cons_self)
    have e0 : mTupG 2 (gsCons (mName 3) (gsCons (mName 4) gsNil)) (.imm (.tuple [.int (x.1 : Nat), .int (x.2 : Nat)])) [S0, T, .val (fnT n f), ov s3, ov s4, .no] = some [S0, T, .val (fnT n f), .val (.imm (.int (x.1 : Nat))), .val (.imm (.int (x.2 : Nat))), .no] := by simp -implicitDefEqProofs only [FL.v_seq, FL.v_thN, FL.v_thR, FL.v_thB, FL.v_thC, FL.v_ifS, FL.v_asg, FL.v_ret, FL.v_retN, FL.v_drop, FL.v_nx, FL.v_bk, FL.v_ct, FL.v_name, FL.v_pN, FL.v_pV, FL.v_var, FL.v_at, FL.v_trV, FL.v_trP, FL.v_wV, FL.v_wP, FL.v_C, FL.v_ER, FL.v_Fz, FL.v_fO, FL.v_fS, FL.v_fV, FL.v_fP, FL.v_fL, FL.v_vS, FL.v_vO, FL.v_op, FL.v_un, FL.v_bOf, FL.v_test, FL.v_and, FL.v_or, FL.v_not, FL.v_tru, FL.v_trB, FL.v_andV, FL.v_orV, FL.v_notV, FL.v_if, FL.v_chain, FL.v_arN, FL.v_arC, FL.v_faN, FL.v_faC, FL.v_tup, FL.v_lst, FL.v_tdN, FL.v_tdC, FL.v_tdI, FL.v_tdL, FL.toDs_imms, FL.imms_imms, FL.v_cb, FL.v_vsN, FL.v_vsC, FL.v_bm, FL.v_tyS, FL.v_tyL, FL.v_sl, FL.v_moN, FL.v_moS, FL.v_iOf, FL.v_call, FL.v_osO, FL.v_osS, FL.v_isI, FL.v_isL, FL.v_isD, FL.v_gN, FL.v_gO, FL.v_gS, FL.v_for, FL.v_lc, FL.v_sub, FL.v_sub2, FL.v_iAt, FL.v_iC, FL.v_aug, FL.v_par, FL.v_mut, FL.v_rng1, FL.v_rng2, FL.v_seqI, FL.v_enumE, FL.v_enumT, FL.v_enumL, FL.v_isi, FL.v_addI, FL.v_addS, FL.v_addT, FL.v_addL, FL.v_subI, FL.v_neg, FL.v_lt, FL.v_le, FL.v_gt, FL.v_ge, FL.v_eqI, FL.v_neI, FL.v_eqS, FL.v_neS, FL.v_ixT, FL.v_ixD, FL.v_ixL, FL.v_ixS, FL.v_len, FL.v_lnT, FL.v_lnD, FL.v_lnL, FL.v_lnS, FL.v_abs, FL.v_max, FL.v_min, FL.v_int, FL.v_intB, FL.v_tuple, FL.v_list, FL.v_sqT, FL.v_sqD, FL.v_sqL, FL.v_itT, FL.v_itL, FL.v_itS, FL.v_isN, FL.v_notN, FL.v_setL, FL.v_setD, FL.v_kS, FL.v_kI, FL.v_mp, FL.v_mpn, FL.v_pO, FL.v_tupG, FL.v_gsC, FL.v_gsN, FL.v_slD, FL.v_at0, FL.v_at1, FL.v_at2, FL.v_i30, FL.v_i31, FL.v_i32, FL.v_Mv, FL.v_mvV, FL.v_pr, FL.v_wpN, FL.v_wpC, FL.v_wsN, FL.v_wsV, FL.v_wsO, FL.v_bkN, FL.v_bkC, FL.v_bsN, FL.v_bsI, FL.v_sf, FL.v_yes, FL.v_tupA, FL.v_imm, FL.v_aftN, FL.v_aftC, FL.v_aftB, FL.v_aftR, FL.v_iOp, FL.v_iLen, FL.v_dnin, FL.v_dninI, FL.v_disp1, FL.v_dispI, FL.v_mut0, FL.v_mulB, FL.v_lrg1, FL.v_trg1, FL.v_lrg2, FL.v_trg2, FL.v_fT, FL.v_rS, FL.v_rO, FL.v_plI, FL.v_plL, FL.v_plD, FL.v_plT, FL.v_vrN, FL.v_vrC, FL.v_isT, FL.callD, Option.bind_some, Option.bind_none, List.getElem?_cons_zero, List.getElem?_cons_succ, List.getElem?_nil, List.set_cons_zero, List.set_cons_succ, List.length_cons, List.length_nil, List.filterMap_cons, List.filterMap_nil, decide_eq_true_eq, if_true, if_false, true_and, and_true, Nat.reduceAdd, Nat.reduceLeDiff, Nat.reduceEqDiff, ↓reduceIte, Bool.false_eq_true, FL.startE, FL.backs, List.map_cons, List.map_nil, List.cons_append, List.nil_append, Nat.reduceSub, List.replicate_succ, List.replicate_zero, List.nodup_nil, List.nodup_cons, List.not_mem_nil, not_false_eq_true, and_self, reduceCtorEq, Option.map_some, Option.map_none, lenT_tab, lenT_row]
    have e1 : B_turned_table_1 [S0, T, .val (fnT n f), .val (.imm (.int (x.1 : Nat))), .val (.imm (.int (x.2 : Nat))), .no] = some (.nx [S0, T, .val (fnT n fun k => if k = x.2 then x.1 else f k), .val (.imm (.int (x.1 : Nat))), .val (.imm (.int (x.2 : Nat))), .no]) := by
      unfold B_turned_table_1
      simp -implicitDefEqProofs only [FL.v_seq, FL.v_thN, FL.v_thR, FL.v_thB, FL.v_thC, FL.v_ifS, FL.v_asg, FL.v_ret, FL.v_retN, FL.v_drop, FL.v_nx, FL.v_bk, FL.v_ct, FL.v_name, FL.v_pN, FL.v_pV, FL.v_var, FL.v_at, FL.v_trV, FL.v_trP, FL.v_wV, FL.v_wP, FL.v_C, FL.v_ER, FL.v_Fz, FL.v_fO, FL.v_fS, FL.v_fV, FL.v_fP, FL.v_fL, FL.v_vS, FL.v_vO, FL.v_op, FL.v_un, FL.v_bOf, FL.v_test, FL.v_and, FL.v_or, FL.v_not, FL.v_tru, FL.v_trB, FL.v_andV, FL.v_orV, FL.v_notV, FL.v_if, FL.v_chain, FL.v_arN, FL.v_arC, FL.v_faN, FL.v_faC, FL.v_tup, FL.v_lst, FL.v_tdN, FL.v_tdC, FL.v_tdI, FL.v_tdL, FL.toDs_imms, FL.imms_imms, FL.v_cb, FL.v_vsN, FL.v_vsC, FL.v_bm, FL.v_tyS, FL.v_tyL, FL.v_sl, FL.v_moN, FL.v_moS, FL.v_iOf, FL.v_call, FL.v_osO, FL.v_osS, FL.v_isI, FL.v_isL, FL.v_isD, FL.v_gN, FL.v_gO, FL.v_gS, FL.v_for, FL.v_lc, FL.v_sub, FL.v_sub2, FL.v_iAt, FL.v_iC, FL.v_aug, FL.v_par, FL.v_mut, FL.v_rng1, FL.v_rng2, FL.v_seqI, FL.v_enumE, FL.v_enumT, FL.v_enumL, FL.v_isi, FL.v_addI, FL.v_addS, FL.v_addT, FL.v_addL, FL.v_subI, FL.v_neg, FL.v_lt, FL.v_le, FL.v_gt, FL.v_ge, FL.v_eqI, FL.v_neI, FL.v_eqS, FL.v_neS, FL.v_ixT, FL.v_ixD, FL.v_ixL, FL.v_ixS, FL.v_len, FL.v_lnT, FL.v_lnD, FL.v_lnL, FL.v_lnS, FL.v_abs, FL.v_max, FL.v_min, FL.v_int, FL.v_intB, FL.v_tuple, FL.v_list, FL.v_sqT, FL.v_sqD, FL.v_sqL, FL.v_itT, FL.v_itL, FL.v_itS, FL.v_isN, FL.v_notN, FL.v_setL, FL.v_setD, FL.v_kS, FL.v_kI, FL.v_mp, FL.v_mpn, FL.v_pO, FL.v_tupG, FL.v_gsC, FL.v_gsN, FL.v_slD, FL.v_at0, FL.v_at1, FL.v_at2, FL.v_i30, FL.v_i31, FL.v_i32, FL.v_Mv, FL.v_mvV, FL.v_pr, FL.v_wpN, FL.v_wpC, FL.v_wsN, FL.v_wsV, FL.v_wsO, FL.v_bkN, FL.v_bkC, FL.v_bsN, FL.v_bsI, FL.v_sf, FL.v_yes, FL.v_tupA, FL.v_imm, FL.v_aftN, FL.v_aftC, FL.v_aftB, FL.v_aftR, FL.v_iOp, FL.v_iLen, FL.v_dnin, FL.v_dninI, FL.v_disp1, FL.v_dispI, FL.v_mut0, FL.v_mulB, FL.v_lrg1, FL.v_trg1, FL.v_lrg2, FL.v_trg2, FL.v_fT, FL.v_rS, FL.v_rO, FL.v_plI, FL.v_plL, FL.v_plD, FL.v_plT, FL.v_vrN, FL.v_vrC, FL.v_isT, FL.callD, Option.bind_some, Option.bind_none, List.getElem?_cons_zero, List.getElem?_cons_succ, List.getElem?_nil, List.set_cons_zero, List.set_cons_succ, List.length_cons, List.length_nil, List.filterMap_cons, List.filterMap_nil, decide_eq_true_eq, if_true, if_false, true_and, and_true, Nat.reduceAdd, Nat.reduceLeDiff, Nat.reduceEqDiff, ↓reduceIte, Bool.false_eq_true, FL.startE, FL.backs, List.map_cons, List.map_nil, List.cons_append, List.nil_append, Nat.reduceSub, List.replicate_succ, List.replicate_zero, List.nodup_nil, List.nodup_cons, List.not_mem_nil, not_false_eq_true, and_self, reduceCtorEq, Option.map_some, Option.map_none, lenT_tab, lenT_row, st]
    rw [List.map_cons, forD, e0, Option.bind_some, e1, Option.bind_some]
    exact e
theorem fold_whence (p : List Nat) (nd : p.Nodup) (f : Nat → Nat) : ∀ (k : Nat) (_ : k ≤ p.length) (a : Nat), ((List.range k).map fun i => (i, p.getD i 0)).foldl (fun f x => fun k => if k = x.2 then x.1 else f k) f a = if p.idxOf a < k then p.idxOf a else f a
  | 0, _, a => by rw [if_neg (Nat.not_lt_zero _)]; rfl
  | k + 1, hk, a => by
    have ih := fold_whence p nd f k (by omega) a
    have hl : k < p.length := by omega
    have e : p.getD k 0 = p[k] := by rw [List.getD_eq_getElem?_getD, List.getElem?_eq_getElem hl]; rfl
    rw [List.range_succ, List.map_append, List.foldl_append]
    show (if a = p.getD k 0 then k else _) = _
    by_cases h : a = p.getD k 0
    · rw [if_pos h]
      have : p.idxOf a = k := by rw [h, e]; exact nd.idxOf_getElem k hl
      rw [this, if_pos (by omega)]
    · rw [if_neg h, ih]
      have ne : p.idxOf a ≠ k := fun z => h (by
        rw [e]
        have hl2 : p.idxOf a < p.length := by omega
        have := List.getElem_idxOf hl2
        rw [← this]
        congr 1)
      by_cases c : p.idxOf a < k
      · rw [if_pos c, if_pos (by omega)]
      · rw [if_neg c, if_neg (by omega)]
theorem turned_one {n : Nat} (hn : n ≤ 8) (G : Nat → Nat → Int) {p : List Nat} (hp : Ord n p) {T : Tr} (hT : TupW T p) : mFn 6 m_turned_table [.imm (tabD n G), T] = some (.imm (tabD n (trn G p)), [.imm (tabD n G), T]) := by
  have ln : (wL p).length = n := by rw [wL_len, hp.len]
  obtain ⟨s3, s4, e1⟩ := whence_loop n (.val (.imm (tabD n G))) (.val T) ((List.range n).map fun i => (i, p.getD i 0)) (fun x hx => by
    obtain ⟨i, hi, rfl⟩ := List.mem_map.mp hx
    exact (hp.at (List.mem_range.mp hi)).1) (fun _ => 0) none none
  have ew : enumD (wL p) = ((List.range n).map fun i => (i, p.getD i 0)).map fun x => PyData.tuple [.int (x.1 : Nat), .int (x.2 : Nat)] := by
    rw [enum_wL, hp.len, List.map_map]
    rfl
  rw [← ew] at e1
  have ef : fnT n (((List.range n).map fun i => (i, p.getD i 0)).foldl (fun f x => fun k => if k = x.2 then x.1 else f k) fun _ => 0) = fnT n fun a => p.idxOf a := by
    unfold fnT
    rw [List.map_map, List.map_map]
    congr 1
    refine List.map_congr_left fun a ha => ?_
    have := fold_whence p hp.nd (fun _ => 0) n (by rw [hp.len]; exact Nat.le_refl _) a
    rw [if_pos (hp.ix (List.mem_range.mp ha)).1] at this
    show Tr.imm (.int ((_ : Nat) : Int)) = Tr.imm (.int ((_ : Nat) : Int))
    rw [this]
  rw [ef] at e1
  let ds := (List.range n).map fun a => PyData.int ((p.idxOf a : Nat) : Int)
  have hx : ∀ (S3 : SL) (a : Nat) (_ : a < n), X_turned_table_2 [.val (.imm (tabD n G)), .val T, .val (.imm (.list ds)), .val (.imm (.int ((p.idxOf a : Nat) : Int))), S3, .no] = some (.imm (rowD n (trn G p) a), [.val (.imm (tabD n G)), .val T, .val (.imm (.list ds)), .val (.imm (.int ((p.idxOf a : Nat) : Int))), S3, .no]) := fun S3 a ha => by
    obtain ⟨i1, i2⟩ := hp.ix ha
    have a1 := tabF_at (G := G) i1
    have lc := lcD_imm (g := mName 5) (m := X_turned_table_1) (vs := [5]) (E := [.val (.imm (tabD n G)), .val T, .val (.imm (.list ds)), .val (.imm (.int ((p.idxOf a : Nat) : Int))), S3, .no]) (fun b => PyData.int ((p.idxOf b : Nat) : Int)) (fun b => PyData.int (trn G p a b)) (List.range n) (fun b hb => by
      have a2 := rowD_at (G := G) (i := p.idxOf a) (hp.ix (List.mem_range.mp hb)).1
      exact ⟨[.val (.imm (tabD n G)), .val T, .val (.imm (.list ds)), .val (.imm (.int ((p.idxOf a : Nat) : Int))), S3, .val (.imm (.int ((p.idxOf b : Nat) : Int)))], [.val (.imm (tabD n G)), .val T, .val (.imm (.list ds)), .val (.imm (.int ((p.idxOf a : Nat) : Int))), S3, .val (.imm (.int ((p.idxOf b : Nat) : Int)))], by simp -implicitDefEqProofs only [FL.v_seq, FL.v_thN, FL.v_thR, FL.v_thB, FL.v_thC, FL.v_ifS, FL.v_asg, FL.v_ret, FL.v_retN, FL.v_drop, FL.v_nx, FL.v_bk, FL.v_ct, FL.v_name, FL.v_pN, FL.v_pV, FL.v_var, FL.v_at, FL.v_trV, FL.v_trP, FL.v_wV, FL.v_wP, FL.v_C, FL.v_ER, FL.v_Fz, FL.v_fO, FL.v_fS, FL.v_fV, FL.v_fP, FL.v_fL, FL.v_vS, FL.v_vO, FL.v_op, FL.v_un, FL.v_bOf, FL.v_test, FL.v_and, FL.v_or, FL.v_not, FL.v_tru, FL.v_trB, FL.v_andV, FL.v_orV, FL.v_notV, FL.v_if, FL.v_chain, FL.v_arN, FL.v_arC, FL.v_faN, FL.v_faC, FL.v_tup, FL.v_lst, FL.v_tdN, FL.v_tdC, FL.v_tdI, FL.v_tdL, FL.toDs_imms, FL.imms_imms, FL.v_cb, FL.v_vsN, FL.v_vsC, FL.v_bm, FL.v_tyS, FL.v_tyL, FL.v_sl, FL.v_moN, FL.v_moS, FL.v_iOf, FL.v_call, FL.v_osO, FL.v_osS, FL.v_isI, FL.v_isL, FL.v_isD, FL.v_gN, FL.v_gO, FL.v_gS, FL.v_for, FL.v_lc, FL.v_sub, FL.v_sub2, FL.v_iAt, FL.v_iC, FL.v_aug, FL.v_par, FL.v_mut, FL.v_rng1, FL.v_rng2, FL.v_seqI, FL.v_enumE, FL.v_enumT, FL.v_enumL, FL.v_isi, FL.v_addI, FL.v_addS, FL.v_addT, FL.v_addL, FL.v_subI, FL.v_neg, FL.v_lt, FL.v_le, FL.v_gt, FL.v_ge, FL.v_eqI, FL.v_neI, FL.v_eqS, FL.v_neS, FL.v_ixT, FL.v_ixD, FL.v_ixL, FL.v_ixS, FL.v_len, FL.v_lnT, FL.v_lnD, FL.v_lnL, FL.v_lnS, FL.v_abs, FL.v_max, FL.v_min, FL.v_int, FL.v_intB, FL.v_tuple, FL.v_list, FL.v_sqT, FL.v_sqD, FL.v_sqL, FL.v_itT, FL.v_itL, FL.v_itS, FL.v_isN, FL.v_notN, FL.v_setL, FL.v_setD, FL.v_kS, FL.v_kI, FL.v_mp, FL.v_mpn, FL.v_pO, FL.v_tupG, FL.v_gsC, FL.v_gsN, FL.v_slD, FL.v_at0, FL.v_at1, FL.v_at2, FL.v_i30, FL.v_i31, FL.v_i32, FL.v_Mv, FL.v_mvV, FL.v_pr, FL.v_wpN, FL.v_wpC, FL.v_wsN, FL.v_wsV, FL.v_wsO, FL.v_bkN, FL.v_bkC, FL.v_bsN, FL.v_bsI, FL.v_sf, FL.v_yes, FL.v_tupA, FL.v_imm, FL.v_aftN, FL.v_aftC, FL.v_aftB, FL.v_aftR, FL.v_iOp, FL.v_iLen, FL.v_dnin, FL.v_dninI, FL.v_disp1, FL.v_dispI, FL.v_mut0, FL.v_mulB, FL.v_lrg1, FL.v_trg1, FL.v_lrg2, FL.v_trg2, FL.v_fT, FL.v_rS, FL.v_rO, FL.v_plI, FL.v_plL, FL.v_plD, FL.v_plT, FL.v_vrN, FL.v_vrC, FL.v_isT, FL.callD, Option.bind_some, Option.bind_none, List.getElem?_cons_zero, List.getElem?_cons_succ, List.getElem?_nil, List.set_cons_zero, List.set_cons_succ, List.length_cons, List.length_nil, List.filterMap_cons, List.filterMap_nil, decide_eq_true_eq, if_true, if_false, true_and, and_true, Nat.reduceAdd, Nat.reduceLeDiff, Nat.reduceEqDiff, ↓reduceIte, Bool.false_eq_true, FL.startE, FL.backs, List.map_cons, List.map_nil, List.cons_append, List.nil_append, Nat.reduceSub, List.replicate_succ, List.replicate_zero, List.nodup_nil, List.nodup_cons, List.not_mem_nil, not_false_eq_true, and_self, reduceCtorEq, Option.map_some, Option.map_none, lenT_tab, lenT_row], by unfold X_turned_table_1; simp -implicitDefEqProofs only [FL.v_seq, FL.v_thN, FL.v_thR, FL.v_thB, FL.v_thC, FL.v_ifS, FL.v_asg, FL.v_ret, FL.v_retN, FL.v_drop, FL.v_nx, FL.v_bk, FL.v_ct, FL.v_name, FL.v_pN, FL.v_pV, FL.v_var, FL.v_at, FL.v_trV, FL.v_trP, FL.v_wV, FL.v_wP, FL.v_C, FL.v_ER, FL.v_Fz, FL.v_fO, FL.v_fS, FL.v_fV, FL.v_fP, FL.v_fL, FL.v_vS, FL.v_vO, FL.v_op, FL.v_un, FL.v_bOf, FL.v_test, FL.v_and, FL.v_or, FL.v_not, FL.v_tru, FL.v_trB, FL.v_andV, FL.v_orV, FL.v_notV, FL.v_if, FL.v_chain, FL.v_arN, FL.v_arC, FL.v_faN, FL.v_faC, FL.v_tup, FL.v_lst, FL.v_tdN, FL.v_tdC, FL.v_tdI, FL.v_tdL, FL.toDs_imms, FL.imms_imms, FL.v_cb, FL.v_vsN, FL.v_vsC, FL.v_bm, FL.v_tyS, FL.v_tyL, FL.v_sl, FL.v_moN, FL.v_moS, FL.v_iOf, FL.v_call, FL.v_osO, FL.v_osS, FL.v_isI, FL.v_isL, FL.v_isD, FL.v_gN, FL.v_gO, FL.v_gS, FL.v_for, FL.v_lc, FL.v_sub, FL.v_sub2, FL.v_iAt, FL.v_iC, FL.v_aug, FL.v_par, FL.v_mut, FL.v_rng1, FL.v_rng2, FL.v_seqI, FL.v_enumE, FL.v_enumT, FL.v_enumL, FL.v_isi, FL.v_addI, FL.v_addS, FL.v_addT, FL.v_addL, FL.v_subI, FL.v_neg, FL.v_lt, FL.v_le, FL.v_gt, FL.v_ge, FL.v_eqI, FL.v_neI, FL.v_eqS, FL.v_neS, FL.v_ixT, FL.v_ixD, FL.v_ixL, FL.v_ixS, FL.v_len, FL.v_lnT, FL.v_lnD, FL.v_lnL, FL.v_lnS, FL.v_abs, FL.v_max, FL.v_min, FL.v_int, FL.v_intB, FL.v_tuple, FL.v_list, FL.v_sqT, FL.v_sqD, FL.v_sqL, FL.v_itT, FL.v_itL, FL.v_itS, FL.v_isN, FL.v_notN, FL.v_setL, FL.v_setD, FL.v_kS, FL.v_kI, FL.v_mp, FL.v_mpn, FL.v_pO, FL.v_tupG, FL.v_gsC, FL.v_gsN, FL.v_slD, FL.v_at0, FL.v_at1, FL.v_at2, FL.v_i30, FL.v_i31, FL.v_i32, FL.v_Mv, FL.v_mvV, FL.v_pr, FL.v_wpN, FL.v_wpC, FL.v_wsN, FL.v_wsV, FL.v_wsO, FL.v_bkN, FL.v_bkC, FL.v_bsN, FL.v_bsI, FL.v_sf, FL.v_yes, FL.v_tupA, FL.v_imm, FL.v_aftN, FL.v_aftC, FL.v_aftB, FL.v_aftR, FL.v_iOp, FL.v_iLen, FL.v_dnin, FL.v_dninI, FL.v_disp1, FL.v_dispI, FL.v_mut0, FL.v_mulB, FL.v_lrg1, FL.v_trg1, FL.v_lrg2, FL.v_trg2, FL.v_fT, FL.v_rS, FL.v_rO, FL.v_plI, FL.v_plL, FL.v_plD, FL.v_plT, FL.v_vrN, FL.v_vrC, FL.v_isT, FL.callD, Option.bind_some, Option.bind_none, List.getElem?_cons_zero, List.getElem?_cons_succ, List.getElem?_nil, List.set_cons_zero, List.set_cons_succ, List.length_cons, List.length_nil, List.filterMap_cons, List.filterMap_nil, decide_eq_true_eq, if_true, if_false, true_and, and_true, Nat.reduceAdd, Nat.reduceLeDiff, Nat.reduceEqDiff, ↓reduceIte, Bool.false_eq_true, FL.startE, FL.backs, List.map_cons, List.map_nil, List.cons_append, List.nil_append, Nat.reduceSub, List.replicate_succ, List.replicate_zero, List.nodup_nil, List.nodup_cons, List.not_mem_nil, not_false_eq_true, and_self, reduceCtorEq, Option.map_some, Option.map_none, lenT_tab, lenT_row, a1, a2]; rfl, by simp -implicitDefEqProofs only [FL.v_seq, FL.v_thN, FL.v_thR, FL.v_thB, FL.v_thC, FL.v_ifS, FL.v_asg, FL.v_ret, FL.v_retN, FL.v_drop, FL.v_nx, FL.v_bk, FL.v_ct, FL.v_name, FL.v_pN, FL.v_pV, FL.v_var, FL.v_at, FL.v_trV, FL.v_trP, FL.v_wV, FL.v_wP, FL.v_C, FL.v_ER, FL.v_Fz, FL.v_fO, FL.v_fS, FL.v_fV, FL.v_fP, FL.v_fL, FL.v_vS, FL.v_vO, FL.v_op, FL.v_un, FL.v_bOf, FL.v_test, FL.v_and, FL.v_or, FL.v_not, FL.v_tru, FL.v_trB, FL.v_andV, FL.v_orV, FL.v_notV, FL.v_if, FL.v_chain, FL.v_arN, FL.v_arC, FL.v_faN, FL.v_faC, FL.v_tup, FL.v_lst, FL.v_tdN, FL.v_tdC, FL.v_tdI, FL.v_tdL, FL.toDs_imms, FL.imms_imms, FL.v_cb, FL.v_vsN, FL.v_vsC, FL.v_bm, FL.v_tyS, FL.v_tyL, FL.v_sl, FL.v_moN, FL.v_moS, FL.v_iOf, FL.v_call, FL.v_osO, FL.v_osS, FL.v_isI, FL.v_isL, FL.v_isD, FL.v_gN, FL.v_gO, FL.v_gS, FL.v_for, FL.v_lc, FL.v_sub, FL.v_sub2, FL.v_iAt, FL.v_iC, FL.v_aug, FL.v_par, FL.v_mut, FL.v_rng1, FL.v_rng2, FL.v_seqI, FL.v_enumE, FL.v_enumT, FL.v_enumL, FL.v_isi, FL.v_addI, FL.v_addS, FL.v_addT, FL.v_addL, FL.v_subI, FL.v_neg, FL.v_lt, FL.v_le, FL.v_gt, FL.v_ge, FL.v_eqI, FL.v_neI, FL.v_eqS, FL.v_neS, FL.v_ixT, FL.v_ixD, FL.v_ixL, FL.v_ixS, FL.v_len, FL.v_lnT, FL.v_lnD, FL.v_lnL, FL.v_lnS, FL.v_abs, FL.v_max, FL.v_min, FL.v_int, FL.v_intB, FL.v_tuple, FL.v_list, FL.v_sqT, FL.v_sqD, FL.v_sqL, FL.v_itT, FL.v_itL, FL.v_itS, FL.v_isN, FL.v_notN, FL.v_setL, FL.v_setD, FL.v_kS, FL.v_kI, FL.v_mp, FL.v_mpn, FL.v_pO, FL.v_tupG, FL.v_gsC, FL.v_gsN, FL.v_slD, FL.v_at0, FL.v_at1, FL.v_at2, FL.v_i30, FL.v_i31, FL.v_i32, FL.v_Mv, FL.v_mvV, FL.v_pr, FL.v_wpN, FL.v_wpC, FL.v_wsN, FL.v_wsV, FL.v_wsO, FL.v_bkN, FL.v_bkC, FL.v_bsN, FL.v_bsI, FL.v_sf, FL.v_yes, FL.v_tupA, FL.v_imm, FL.v_aftN, FL.v_aftC, FL.v_aftB, FL.v_aftR, FL.v_iOp, FL.v_iLen, FL.v_dnin, FL.v_dninI, FL.v_disp1, FL.v_dispI, FL.v_mut0, FL.v_mulB, FL.v_lrg1, FL.v_trg1, FL.v_lrg2, FL.v_trg2, FL.v_fT, FL.v_rS, FL.v_rO, FL.v_plI, FL.v_plL, FL.v_plD, FL.v_plT, FL.v_vrN, FL.v_vrC, FL.v_isT, FL.callD, Option.bind_some, Option.bind_none, List.getElem?_cons_zero, List.getElem?_cons_succ, List.getElem?_nil, List.set_cons_zero, List.set_cons_succ, List.length_cons, List.length_nil, List.filterMap_cons, List.filterMap_nil, decide_eq_true_eq, if_true, if_false, true_and, and_true, Nat.reduceAdd, Nat.reduceLeDiff, Nat.reduceEqDiff, ↓reduceIte, Bool.false_eq_true, FL.startE, FL.backs, List.map_cons, List.map_nil, List.cons_append, List.nil_append, Nat.reduceSub, List.replicate_succ, List.replicate_zero, List.nodup_nil, List.nodup_cons, List.not_mem_nil, not_false_eq_true, and_self, reduceCtorEq, Option.map_some, Option.map_none, lenT_tab, lenT_row]⟩) (by rw [List.length_range]; omega)
    change lcD _ _ _ _ ds _ _ = _ at lc
    unfold X_turned_table_2
    unfold rowD
    simp -implicitDefEqProofs only [FL.v_seq, FL.v_thN, FL.v_thR, FL.v_thB, FL.v_thC, FL.v_ifS, FL.v_asg, FL.v_ret, FL.v_retN, FL.v_drop, FL.v_nx, FL.v_bk, FL.v_ct, FL.v_name, FL.v_pN, FL.v_pV, FL.v_var, FL.v_at, FL.v_trV, FL.v_trP, FL.v_wV, FL.v_wP, FL.v_C, FL.v_ER, FL.v_Fz, FL.v_fO, FL.v_fS, FL.v_fV, FL.v_fP, FL.v_fL, FL.v_vS, FL.v_vO, FL.v_op, FL.v_un, FL.v_bOf, FL.v_test, FL.v_and, FL.v_or, FL.v_not, FL.v_tru, FL.v_trB, FL.v_andV, FL.v_orV, FL.v_notV, FL.v_if, FL.v_chain, FL.v_arN, FL.v_arC, FL.v_faN, FL.v_faC, FL.v_tup, FL.v_lst, FL.v_tdN, FL.v_tdC, FL.v_tdI, FL.v_tdL, FL.toDs_imms, FL.imms_imms, FL.v_cb, FL.v_vsN, FL.v_vsC, FL.v_bm, FL.v_tyS, FL.v_tyL, FL.v_sl, FL.v_moN, FL.v_moS, FL.v_iOf, FL.v_call, FL.v_osO, FL.v_osS, FL.v_isI, FL.v_isL, FL.v_isD, FL.v_gN, FL.v_gO, FL.v_gS, FL.v_for, FL.v_lc, FL.v_sub, FL.v_sub2, FL.v_iAt, FL.v_iC, FL.v_aug, FL.v_par, FL.v_mut, FL.v_rng1, FL.v_rng2, FL.v_seqI, FL.v_enumE, FL.v_enumT, FL.v_enumL, FL.v_isi, FL.v_addI, FL.v_addS, FL.v_addT, FL.v_addL, FL.v_subI, FL.v_neg, FL.v_lt, FL.v_le, FL.v_gt, FL.v_ge, FL.v_eqI, FL.v_neI, FL.v_eqS, FL.v_neS, FL.v_ixT, FL.v_ixD, FL.v_ixL, FL.v_ixS, FL.v_len, FL.v_lnT, FL.v_lnD, FL.v_lnL, FL.v_lnS, FL.v_abs, FL.v_max, FL.v_min, FL.v_int, FL.v_intB, FL.v_tuple, FL.v_list, FL.v_sqT, FL.v_sqD, FL.v_sqL, FL.v_itT, FL.v_itL, FL.v_itS, FL.v_isN, FL.v_notN, FL.v_setL, FL.v_setD, FL.v_kS, FL.v_kI, FL.v_mp, FL.v_mpn, FL.v_pO, FL.v_tupG, FL.v_gsC, FL.v_gsN, FL.v_slD, FL.v_at0, FL.v_at1, FL.v_at2, FL.v_i30, FL.v_i31, FL.v_i32, FL.v_Mv, FL.v_mvV, FL.v_pr, FL.v_wpN, FL.v_wpC, FL.v_wsN, FL.v_wsV, FL.v_wsO, FL.v_bkN, FL.v_bkC, FL.v_bsN, FL.v_bsI, FL.v_sf, FL.v_yes, FL.v_tupA, FL.v_imm, FL.v_aftN, FL.v_aftC, FL.v_aftB, FL.v_aftR, FL.v_iOp, FL.v_iLen, FL.v_dnin, FL.v_dninI, FL.v_disp1, FL.v_dispI, FL.v_mut0, FL.v_mulB, FL.v_lrg1, FL.v_trg1, FL.v_lrg2, FL.v_trg2, FL.v_fT, FL.v_rS, FL.v_rO, FL.v_plI, FL.v_plL, FL.v_plD, FL.v_plT, FL.v_vrN, FL.v_vrC, FL.v_isT, FL.callD, Option.bind_some, Option.bind_none, List.getElem?_cons_zero, List.getElem?_cons_succ, List.getElem?_nil, List.set_cons_zero, List.set_cons_succ, List.length_cons, List.length_nil, List.filterMap_cons, List.filterMap_nil, decide_eq_true_eq, if_true, if_false, true_and, and_true, Nat.reduceAdd, Nat.reduceLeDiff, Nat.reduceEqDiff, ↓reduceIte, Bool.false_eq_true, FL.startE, FL.backs, List.map_cons, List.map_nil, List.cons_append, List.nil_append, Nat.reduceSub, List.replicate_succ, List.replicate_zero, List.nodup_nil, List.nodup_cons, List.not_mem_nil, not_false_eq_true, and_self, reduceCtorEq, Option.map_some, Option.map_none, lenT_tab, lenT_row, lc]
  have lc2 := lcD_imm (g := mName 3) (m := X_turned_table_2) (vs := [3]) (E := [.val (.imm (tabD n G)), .val T, .val (.imm (.list ds)), .no, ov s4, .no]) (fun a => PyData.int ((p.idxOf a : Nat) : Int)) (fun a => rowD n (trn G p) a) (List.range n) (fun a ha =>
    ⟨[.val (.imm (tabD n G)), .val T, .val (.imm (.list ds)), .val (.imm (.int ((p.idxOf a : Nat) : Int))), ov s4, .no], [.val (.imm (tabD n G)), .val T, .val (.imm (.list ds)), .val (.imm (.int ((p.idxOf a : Nat) : Int))), ov s4, .no], by simp -implicitDefEqProofs only [FL.v_seq, FL.v_thN, FL.v_thR, FL.v_thB, FL.v_thC, FL.v_ifS, FL.v_asg, FL.v_ret, FL.v_retN, FL.v_drop, FL.v_nx, FL.v_bk, FL.v_ct, FL.v_name, FL.v_pN, FL.v_pV, FL.v_var, FL.v_at, FL.v_trV, FL.v_trP, FL.v_wV, FL.v_wP, FL.v_C, FL.v_ER, FL.v_Fz, FL.v_fO, FL.v_fS, FL.v_fV, FL.v_fP, FL.v_fL, FL.v_vS, FL.v_vO, FL.v_op, FL.v_un, FL.v_bOf, FL.v_test, FL.v_and, FL.v_or, FL.v_not, FL.v_tru, FL.v_trB, FL.v_andV, FL.v_orV, FL.v_notV, FL.v_if, FL.v_chain, FL.v_arN, FL.v_arC, FL.v_faN, FL.v_faC, FL.v_tup, FL.v_lst, FL.v_tdN, FL.v_tdC, FL.v_tdI, FL.v_tdL, FL.toDs_imms, FL.imms_imms, FL.v_cb, FL.v_vsN, FL.v_vsC, FL.v_bm, FL.v_tyS, FL.v_tyL, FL.v_sl, FL.v_moN, FL.v_moS, FL.v_iOf, FL.v_call, FL.v_osO, FL.v_osS, FL.v_isI, FL.v_isL, FL.v_isD, FL.v_gN, FL.v_gO, FL.v_gS, FL.v_for, FL.v_lc, FL.v_sub, FL.v_sub2, FL.v_iAt, FL.v_iC, FL.v_aug, FL.v_par, FL.v_mut, FL.v_rng1, FL.v_rng2, FL.v_seqI, FL.v_enumE, FL.v_enumT, FL.v_enumL, FL.v_isi, FL.v_addI, FL.v_addS, FL.v_addT, FL.v_addL, FL.v_subI, FL.v_neg, FL.v_lt, FL.v_le, FL.v_gt, FL.v_ge, FL.v_eqI, FL.v_neI, FL.v_eqS, FL.v_neS, FL.v_ixT, FL.v_ixD, FL.v_ixL, FL.v_ixS, FL.v_len, FL.v_lnT, FL.v_lnD, FL.v_lnL, FL.v_lnS, FL.v_abs, FL.v_max, FL.v_min, FL.v_int, FL.v_intB, FL.v_tuple, FL.v_list, FL.v_sqT, FL.v_sqD, FL.v_sqL, FL.v_itT, FL.v_itL, FL.v_itS, FL.v_isN, FL.v_notN, FL.v_setL, FL.v_setD, FL.v_kS, FL.v_kI, FL.v_mp, FL.v_mpn, FL.v_pO, FL.v_tupG, FL.v_gsC, FL.v_gsN, FL.v_slD, FL.v_at0, FL.v_at1, FL.v_at2, FL.v_i30, FL.v_i31, FL.v_i32, FL.v_Mv, FL.v_mvV, FL.v_pr, FL.v_wpN, FL.v_wpC, FL.v_wsN, FL.v_wsV, FL.v_wsO, FL.v_bkN, FL.v_bkC, FL.v_bsN, FL.v_bsI, FL.v_sf, FL.v_yes, FL.v_tupA, FL.v_imm, FL.v_aftN, FL.v_aftC, FL.v_aftB, FL.v_aftR, FL.v_iOp, FL.v_iLen, FL.v_dnin, FL.v_dninI, FL.v_disp1, FL.v_dispI, FL.v_mut0, FL.v_mulB, FL.v_lrg1, FL.v_trg1, FL.v_lrg2, FL.v_trg2, FL.v_fT, FL.v_rS, FL.v_rO, FL.v_plI, FL.v_plL, FL.v_plD, FL.v_plT, FL.v_vrN, FL.v_vrC, FL.v_isT, FL.callD, Option.bind_some, Option.bind_none, List.getElem?_cons_zero, List.getElem?_cons_succ, List.getElem?_nil, List.set_cons_zero, List.set_cons_succ, List.length_cons, List.length_nil, List.filterMap_cons, List.filterMap_nil, decide_eq_true_eq, if_true, if_false, true_and, and_true, Nat.reduceAdd, Nat.reduceLeDiff, Nat.reduceEqDiff, ↓reduceIte, Bool.false_eq_true, FL.startE, FL.backs, List.map_cons, List.map_nil, List.cons_append, List.nil_append, Nat.reduceSub, List.replicate_succ, List.replicate_zero, List.nodup_nil, List.nodup_cons, List.not_mem_nil, not_false_eq_true, and_self, reduceCtorEq, Option.map_some, Option.map_none, lenT_tab, lenT_row], hx (ov s4) a (List.mem_range.mp ha), by simp -implicitDefEqProofs only [FL.v_seq, FL.v_thN, FL.v_thR, FL.v_thB, FL.v_thC, FL.v_ifS, FL.v_asg, FL.v_ret, FL.v_retN, FL.v_drop, FL.v_nx, FL.v_bk, FL.v_ct, FL.v_name, FL.v_pN, FL.v_pV, FL.v_var, FL.v_at, FL.v_trV, FL.v_trP, FL.v_wV, FL.v_wP, FL.v_C, FL.v_ER, FL.v_Fz, FL.v_fO, FL.v_fS, FL.v_fV, FL.v_fP, FL.v_fL, FL.v_vS, FL.v_vO, FL.v_op, FL.v_un, FL.v_bOf, FL.v_test, FL.v_and, FL.v_or, FL.v_not, FL.v_tru, FL.v_trB, FL.v_andV, FL.v_orV, FL.v_notV, FL.v_if, FL.v_chain, FL.v_arN, FL.v_arC, FL.v_faN, FL.v_faC, FL.v_tup, FL.v_lst, FL.v_tdN, FL.v_tdC, FL.v_tdI, FL.v_tdL, FL.toDs_imms, FL.imms_imms, FL.v_cb, FL.v_vsN, FL.v_vsC, FL.v_bm, FL.v_tyS, FL.v_tyL, FL.v_sl, FL.v_moN, FL.v_moS, FL.v_iOf, FL.v_call, FL.v_osO, FL.v_osS, FL.v_isI, FL.v_isL, FL.v_isD, FL.v_gN, FL.v_gO, FL.v_gS, FL.v_for, FL.v_lc, FL.v_sub, FL.v_sub2, FL.v_iAt, FL.v_iC, FL.v_aug, FL.v_par, FL.v_mut, FL.v_rng1, FL.v_rng2, FL.v_seqI, FL.v_enumE, FL.v_enumT, FL.v_enumL, FL.v_isi, FL.v_addI, FL.v_addS, FL.v_addT, FL.v_addL, FL.v_subI, FL.v_neg, FL.v_lt, FL.v_le, FL.v_gt, FL.v_ge, FL.v_eqI, FL.v_neI, FL.v_eqS, FL.v_neS, FL.v_ixT, FL.v_ixD, FL.v_ixL, FL.v_ixS, FL.v_len, FL.v_lnT, FL.v_lnD, FL.v_lnL, FL.v_lnS, FL.v_abs, FL.v_max, FL.v_min, FL.v_int, FL.v_intB, FL.v_tuple, FL.v_list, FL.v_sqT, FL.v_sqD, FL.v_sqL, FL.v_itT, FL.v_itL, FL.v_itS, FL.v_isN, FL.v_notN, FL.v_setL, FL.v_setD, FL.v_kS, FL.v_kI, FL.v_mp, FL.v_mpn, FL.v_pO, FL.v_tupG, FL.v_gsC, FL.v_gsN, FL.v_slD, FL.v_at0, FL.v_at1, FL.v_at2, FL.v_i30, FL.v_i31, FL.v_i32, FL.v_Mv, FL.v_mvV, FL.v_pr, FL.v_wpN, FL.v_wpC, FL.v_wsN, FL.v_wsV, FL.v_wsO, FL.v_bkN, FL.v_bkC, FL.v_bsN, FL.v_bsI, FL.v_sf, FL.v_yes, FL.v_tupA, FL.v_imm, FL.v_aftN, FL.v_aftC, FL.v_aftB, FL.v_aftR, FL.v_iOp, FL.v_iLen, FL.v_dnin, FL.v_dninI, FL.v_disp1, FL.v_dispI, FL.v_mut0, FL.v_mulB, FL.v_lrg1, FL.v_trg1, FL.v_lrg2, FL.v_trg2, FL.v_fT, FL.v_rS, FL.v_rO, FL.v_plI, FL.v_plL, FL.v_plD, FL.v_plT, FL.v_vrN, FL.v_vrC, FL.v_isT, FL.callD, Option.bind_some, Option.bind_none, List.getElem?_cons_zero, List.getElem?_cons_succ, List.getElem?_nil, List.set_cons_zero, List.set_cons_succ, List.length_cons, List.length_nil, List.filterMap_cons, List.filterMap_nil, decide_eq_true_eq, if_true, if_false, true_and, and_true, Nat.reduceAdd, Nat.reduceLeDiff, Nat.reduceEqDiff, ↓reduceIte, Bool.false_eq_true, FL.startE, FL.backs, List.map_cons, List.map_nil, List.cons_append, List.nil_append, Nat.reduceSub, List.replicate_succ, List.replicate_zero, List.nodup_nil, List.nodup_cons, List.not_mem_nil, not_false_eq_true, and_self, reduceCtorEq, Option.map_some, Option.map_none, lenT_tab, lenT_row]⟩) (by rw [List.length_range]; omega)
  change lcD _ _ _ _ ds _ _ = some (((List.range n).map (rowD n (trn G p))).map Tr.imm, _) at lc2
  have fz : ∀ E : En, fzS E 2 (.val (fnT n fun a => p.idxOf a)) = some (.imm (.list ds), E.set 2 (.val (.imm (.list ds)))) := fun E => by
    unfold fnT
    rw [v_fL, toDs_imms]
    rfl
  have hm := v_mul1 (d := .int 0) (k := (n : Int)) (by omega) (by omega)
  rw [Int.toNat_natCast] at hm
  have rp : Tr.lst ((List.replicate n (PyData.int 0)).map Tr.imm) = fnT n fun _ => 0 := by
    unfold fnT
    congr 2
    exact (List.eq_replicate_iff.mpr ⟨by rw [List.length_map, List.length_range], fun b hb => by
      obtain ⟨_, _, e⟩ := List.mem_map.mp hb
      exact e.symm⟩).symm
  rw [rp] at hm
  simp only [show ov none = SL.no from rfl] at e1
  have l1 : (1 ≤ 16777216) = True := eq_true (by decide)
  have lt1 : lenT (.imm (.tuple (wL p))) = some n := by rw [v_lnT, ln]
  rw [tab_is n (trn G p)]
  clear_value ds
  rw [v_fn]
  unfold m_turned_table
  have s3c : ∃ o : Option Tr, s3 = o := ⟨s3, rfl⟩
  rcases hT with rfl | rfl
  · simp -implicitDefEqProofs only [FL.v_seq, FL.v_thN, FL.v_thR, FL.v_thB, FL.v_thC, FL.v_ifS, FL.v_asg, FL.v_ret, FL.v_retN, FL.v_drop, FL.v_nx, FL.v_bk, FL.v_ct, FL.v_name, FL.v_pN, FL.v_pV, FL.v_var, FL.v_at, FL.v_trV, FL.v_trP, FL.v_wV, FL.v_wP, FL.v_C, FL.v_ER, FL.v_Fz, FL.v_fO, FL.v_fS, FL.v_fV, FL.v_fP, FL.v_fL, FL.v_vS, FL.v_vO, FL.v_op, FL.v_un, FL.v_bOf, FL.v_test, FL.v_and, FL.v_or, FL.v_not, FL.v_tru, FL.v_trB, FL.v_andV, FL.v_orV, FL.v_notV, FL.v_if, FL.v_chain, FL.v_arN, FL.v_arC, FL.v_faN, FL.v_faC, FL.v_tup, FL.v_lst, FL.v_tdN, FL.v_tdC, FL.v_tdI, FL.v_tdL, FL.toDs_imms, FL.imms_imms, FL.v_cb, FL.v_vsN, FL.v_vsC, FL.v_bm, FL.v_tyS, FL.v_tyL, FL.v_sl, FL.v_moN, FL.v_moS, FL.v_iOf, FL.v_call, FL.v_osO, FL.v_osS, FL.v_isI, FL.v_isL, FL.v_isD, FL.v_gN, FL.v_gO, FL.v_gS, FL.v_for, FL.v_lc, FL.v_sub, FL.v_sub2, FL.v_iAt, FL.v_iC, FL.v_aug, FL.v_par, FL.v_mut, FL.v_rng1, FL.v_rng2, FL.v_seqI, FL.v_enumE, FL.v_enumT, FL.v_enumL, FL.v_isi, FL.v_addI, FL.v_addS, FL.v_addT, FL.v_addL, FL.v_subI, FL.v_neg, FL.v_lt, FL.v_le, FL.v_gt, FL.v_ge, FL.v_eqI, FL.v_neI, FL.v_eqS, FL.v_neS, FL.v_ixT, FL.v_ixD, FL.v_ixL, FL.v_ixS, FL.v_len, FL.v_lnT, FL.v_lnD, FL.v_lnL, FL.v_lnS, FL.v_abs, FL.v_max, FL.v_min, FL.v_int, FL.v_intB, FL.v_tuple, FL.v_list, FL.v_sqT, FL.v_sqD, FL.v_sqL, FL.v_itT, FL.v_itL, FL.v_itS, FL.v_isN, FL.v_notN, FL.v_setL, FL.v_setD, FL.v_kS, FL.v_kI, FL.v_mp, FL.v_mpn, FL.v_pO, FL.v_tupG, FL.v_gsC, FL.v_gsN, FL.v_slD, FL.v_at0, FL.v_at1, FL.v_at2, FL.v_i30, FL.v_i31, FL.v_i32, FL.v_Mv, FL.v_mvV, FL.v_pr, FL.v_wpN, FL.v_wpC, FL.v_wsN, FL.v_wsV, FL.v_wsO, FL.v_bkN, FL.v_bkC, FL.v_bsN, FL.v_bsI, FL.v_sf, FL.v_yes, FL.v_tupA, FL.v_imm, FL.v_aftN, FL.v_aftC, FL.v_aftB, FL.v_aftR, FL.v_iOp, FL.v_iLen, FL.v_dnin, FL.v_dninI, FL.v_disp1, FL.v_dispI, FL.v_mut0, FL.v_mulB, FL.v_lrg1, FL.v_trg1, FL.v_lrg2, FL.v_trg2, FL.v_fT, FL.v_rS, FL.v_rO, FL.v_plI, FL.v_plL, FL.v_plD, FL.v_plT, FL.v_vrN, FL.v_vrC, FL.v_isT, FL.callD, Option.bind_some, Option.bind_none, List.getElem?_cons_zero, List.getElem?_cons_succ, List.getElem?_nil, List.set_cons_zero, List.set_cons_succ, List.length_cons, List.length_nil, List.filterMap_cons, List.filterMap_nil, decide_eq_true_eq, if_true, if_false, true_and, and_true, Nat.reduceAdd, Nat.reduceLeDiff, Nat.reduceEqDiff, ↓reduceIte, Bool.false_eq_true, FL.startE, FL.backs, List.map_cons, List.map_nil, List.cons_append, List.nil_append, Nat.reduceSub, List.replicate_succ, List.replicate_zero, List.nodup_nil, List.nodup_cons, List.not_mem_nil, not_false_eq_true, and_self, reduceCtorEq, Option.map_some, Option.map_none, lenT_tab, lenT_row, l1, lt1, hm, e1, fz, lc2]
    cases s3 with
    | none => rfl
    | some t => cases t <;> rfl
  · simp -implicitDefEqProofs only [FL.v_seq, FL.v_thN, FL.v_thR, FL.v_thB, FL.v_thC, FL.v_ifS, FL.v_asg, FL.v_ret, FL.v_retN, FL.v_drop, FL.v_nx, FL.v_bk, FL.v_ct, FL.v_name, FL.v_pN, FL.v_pV, FL.v_var, FL.v_at, FL.v_trV, FL.v_trP, FL.v_wV, FL.v_wP, FL.v_C, FL.v_ER, FL.v_Fz, FL.v_fO, FL.v_fS, FL.v_fV, FL.v_fP, FL.v_fL, FL.v_vS, FL.v_vO, FL.v_op, FL.v_un, FL.v_bOf, FL.v_test, FL.v_and, FL.v_or, FL.v_not, FL.v_tru, FL.v_trB, FL.v_andV, FL.v_orV, FL.v_notV, FL.v_if, FL.v_chain, FL.v_arN, FL.v_arC, FL.v_faN, FL.v_faC, FL.v_tup, FL.v_lst, FL.v_tdN, FL.v_tdC, FL.v_tdI, FL.v_tdL, FL.toDs_imms, FL.imms_imms, FL.v_cb, FL.v_vsN, FL.v_vsC, FL.v_bm, FL.v_tyS, FL.v_tyL, FL.v_sl, FL.v_moN, FL.v_moS, FL.v_iOf, FL.v_call, FL.v_osO, FL.v_osS, FL.v_isI, FL.v_isL, FL.v_isD, FL.v_gN, FL.v_gO, FL.v_gS, FL.v_for, FL.v_lc, FL.v_sub, FL.v_sub2, FL.v_iAt, FL.v_iC, FL.v_aug, FL.v_par, FL.v_mut, FL.v_rng1, FL.v_rng2, FL.v_seqI, FL.v_enumE, FL.v_enumT, FL.v_enumL, FL.v_isi, FL.v_addI, FL.v_addS, FL.v_addT, FL.v_addL, FL.v_subI, FL.v_neg, FL.v_lt, FL.v_le, FL.v_gt, FL.v_ge, FL.v_eqI, FL.v_neI, FL.v_eqS, FL.v_neS, FL.v_ixT, FL.v_ixD, FL.v_ixL, FL.v_ixS, FL.v_len, FL.v_lnT, FL.v_lnD, FL.v_lnL, FL.v_lnS, FL.v_abs, FL.v_max, FL.v_min, FL.v_int, FL.v_intB, FL.v_tuple, FL.v_list, FL.v_sqT, FL.v_sqD, FL.v_sqL, FL.v_itT, FL.v_itL, FL.v_itS, FL.v_isN, FL.v_notN, FL.v_setL, FL.v_setD, FL.v_kS, FL.v_kI, FL.v_mp, FL.v_mpn, FL.v_pO, FL.v_tupG, FL.v_gsC, FL.v_gsN, FL.v_slD, FL.v_at0, FL.v_at1, FL.v_at2, FL.v_i30, FL.v_i31, FL.v_i32, FL.v_Mv, FL.v_mvV, FL.v_pr, FL.v_wpN, FL.v_wpC, FL.v_wsN, FL.v_wsV, FL.v_wsO, FL.v_bkN, FL.v_bkC, FL.v_bsN, FL.v_bsI, FL.v_sf, FL.v_yes, FL.v_tupA, FL.v_imm, FL.v_aftN, FL.v_aftC, FL.v_aftB, FL.v_aftR, FL.v_iOp, FL.v_iLen, FL.v_dnin, FL.v_dninI, FL.v_disp1, FL.v_dispI, FL.v_mut0, FL.v_mulB, FL.v_lrg1, FL.v_trg1, FL.v_lrg2, FL.v_trg2, FL.v_fT, FL.v_rS, FL.v_rO, FL.v_plI, FL.v_plL, FL.v_plD, FL.v_plT, FL.v_vrN, FL.v_vrC, FL.v_isT, FL.callD, Option.bind_some, Option.bind_none, List.getElem?_cons_zero, List.getElem?_cons_succ, List.getElem?_nil, List.set_cons_zero, List.set_cons_succ, List.length_cons, List.length_nil, List.filterMap_cons, List.filterMap_nil, decide_eq_true_eq, if_true, if_false, true_and, and_true, Nat.reduceAdd, Nat.reduceLeDiff, Nat.reduceEqDiff, ↓reduceIte, Bool.false_eq_true, FL.startE, FL.backs, List.map_cons, List.map_nil, List.cons_append, List.nil_append, Nat.reduceSub, List.replicate_succ, List.replicate_zero, List.nodup_nil, List.nodup_cons, List.not_mem_nil, not_false_eq_true, and_self, reduceCtorEq, Option.map_some, Option.map_none, lenT_tab, lenT_row, l1, lt1, hm, e1, fz, lc2]
    cases s3 with
    | none => rfl
    | some t => cases t <;> rfl

end WK

namespace WK
open PySem L2 FL
/-! ### the same pairs on both sides -/
theorem perm_out {i : Nat} {left : List Nat} (nd : left.Nodup) (h : i ∈ left) : left.Perm (i :: left.filter fun j => !decide (j = i)) := by
  refine (List.perm_ext_iff_of_nodup nd (List.nodup_cons.mpr ⟨fun z => ?_, nd.filter _⟩)).mpr fun x => ?_
  · have := (List.mem_filter.mp z).2
    simp at this
  · rw [List.mem_cons, List.mem_filter]
    by_cases e : x = i
    · subst e
      simp [h]
    · simp [e]
theorem all_mem : ∀ (f : Nat) (left p : List Nat), left.Nodup → left.length < f → (p ∈ allP f left ↔ p.Perm left)
  | 0, _, _, _, h => absurd h (Nat.not_lt_zero _)
  | f + 1, left, p, nd, h => by
    unfold allP
    by_cases e : left = []
    · rw [if_pos e, e, List.mem_singleton, List.perm_nil]
    · rw [if_neg e, List.mem_flatMap]
      constructor
      · rintro ⟨i, hi, hp⟩
        obtain ⟨q, hq, rfl⟩ := List.mem_map.mp hp
        have := left_len i left hi
        have := (all_mem f _ q (nd.filter _) (by omega)).mp hq
        exact (this.cons i).trans (perm_out nd hi).symm
      · intro hp
        cases p with
        | nil => exact absurd hp.nil_eq.symm e
        | cons i q =>
          have hi : i ∈ left := hp.mem_iff.mp List.mem_cons_self
          have := left_len i left hi
          refine ⟨i, hi, List.mem_map.mpr ⟨q, (all_mem f _ q (nd.filter _) (by omega)).mpr ?_, rfl⟩⟩
          exact (hp.trans (perm_out nd hi)).cons_inv
theorem all_ord {n : Nat} (hn : n ≤ 6) {p : List Nat} : p ∈ allP 10 (List.range n) ↔ Ord n p := by
  rw [all_mem 10 (List.range n) p List.nodup_range (by rw [List.length_range]; omega)]
  constructor
  · intro h
    exact ⟨by rw [h.length_eq, List.length_range], h.nodup_iff.mpr List.nodup_range, fun x hx => List.mem_range.mp (h.mem_iff.mp hx)⟩
  · intro h
    refine (List.perm_ext_iff_of_nodup h.nd List.nodup_range).mpr fun x => ?_
    rw [List.mem_range]
    exact ⟨h.lt x, h.has⟩
theorem home_at {n : Nat} {o : List Nat} (h : Ord n o) {a : Nat} (ha : a < n) : (homeN n o).idxOf a = o.getD a 0 := by
  obtain ⟨h1, h2⟩ := h.at ha
  have e : (homeN n o).getD (o.getD a 0) 0 = a := by
    unfold homeN
    rw [range_getD h1, h2]
  have := ((home_ord h).at h1).2
  rw [e] at this
  exact this
theorem home_home {n : Nat} {p : List Nat} (h : Ord n p) : homeN n (homeN n p) = p := by
  have e : homeN n (homeN n p) = (List.range n).map fun i => p.getD i 0 := List.map_congr_left fun i hi => home_at h (List.mem_range.mp hi)
  rw [e]
  have := by_places p
  rw [h.len] at this
  exact this.symm
theorem du_is {n : Nat} (G : Nat → Nat → Int) {o : List Nat} (h : Ord n o) : duD G n o = pairD n (trn G (homeN n o)) (homeN n o) := by
  have e : tabD n (sub G o) = tabD n (trn G (homeN n o)) := tab_ext rfl fun i j hi hj => by
    unfold sub trn
    rw [home_at h hi, home_at h hj]
  unfold duD pairD
  rw [e]
theorem pairs_one {n : Nat} (hn : n ≤ 6) (G : Nat → Nat → Int) (z : PyData) : z ∈ (ordP n).map (duD G n) ↔ z ∈ (allP 10 (List.range n)).map fun p => pairD n (trn G p) p := by
  rw [List.mem_map, List.mem_map]
  constructor
  · rintro ⟨o, ho, rfl⟩
    have h := (ord_mem n o).mp ho
    exact ⟨homeN n o, (all_ord hn).mpr (home_ord h), (du_is G h).symm⟩
  · rintro ⟨p, hp, rfl⟩
    have h := (all_ord hn).mp hp
    refine ⟨homeN n p, (ord_mem n _).mpr (home_ord h), ?_⟩
    rw [du_is G (home_ord h), home_home h]

end WK

namespace WK
open PySem L2 FL
/-! ### the least of all, on both sides -/
theorem foldl_best (G : Nat → Nat → Int) (n : Nat) : ∀ (l : List (List Nat)) (q : List Nat), ∃ r, r ∈ q :: l ∧ l.foldl (bestN G n) (some q) = some r ∧ duD G n r = PySem.W.minD (duD G n q) (l.map (duD G n))
  | [], q => ⟨q, List.mem_cons_self, rfl, rfl⟩
  | o :: l, q => by
    by_cases c : PySem.W.dataLt (duD G n o) (duD G n q) = true
    · obtain ⟨r, hr, e, m⟩ := foldl_best G n l o
      refine ⟨r, List.mem_cons_of_mem _ hr, ?_, ?_⟩
      · rw [List.foldl_cons, bestN, if_pos c, e]
      · rw [m, List.map_cons]
        show _ = PySem.W.minD (if PySem.W.dataLt (duD G n o) (duD G n q) = true then duD G n o else duD G n q) _
        rw [if_pos c]
    · obtain ⟨r, hr, e, m⟩ := foldl_best G n l q
      refine ⟨r, (List.mem_cons.mp hr).elim (fun z => z ▸ List.mem_cons_self) fun z => List.mem_cons_of_mem _ (List.mem_cons_of_mem _ z), ?_, ?_⟩
      · rw [List.foldl_cons, bestN, if_neg c, e]
      · rw [m, List.map_cons]
        show _ = PySem.W.minD (if PySem.W.dataLt (duD G n o) (duD G n q) = true then duD G n o else duD G n q) _
        rw [if_neg c]
theorem ordP_cons {n : Nat} (hn : n ≤ 6) : ∃ o l, ordP n = o :: l := by
  have h : List.range n ∈ ordP n := (ord_mem n _).mpr ((all_ord hn).mp ((all_mem 10 _ _ List.nodup_range (by rw [List.length_range]; omega)).mpr (List.Perm.refl _)))
  cases e : ordP n with
  | nil => rw [e] at h; cases h
  | cons o l => exact ⟨o, l, rfl⟩
theorem allP_cons {n : Nat} (hn : n ≤ 6) : ∃ o l, allP 10 (List.range n) = o :: l := by
  have h : List.range n ∈ allP 10 (List.range n) := (all_mem 10 _ _ List.nodup_range (by rw [List.length_range]; omega)).mpr (List.Perm.refl _)
  cases e : allP 10 (List.range n) with
  | nil => rw [e] at h; cases h
  | cons o l => exact ⟨o, l, rfl⟩
/-- the least turned table and its order -/
noncomputable def leastO (n : Nat) (G : Nat → Nat → Int) : List Nat := ((ordP n).foldl (bestN G n) none).getD []
theorem least_is {n : Nat} (hn : n ≤ 6) (G : Nat → Nat → Int) : (ordP n).foldl (bestN G n) none = some (leastO n G) ∧ leastO n G ∈ ordP n ∧ ∃ x r, (ordP n).map (duD G n) = x :: r ∧ duD G n (leastO n G) = PySem.W.minD x r := by
  obtain ⟨o, l, e⟩ := ordP_cons hn
  obtain ⟨r, hr, f, m⟩ := foldl_best G n l o
  have g : (ordP n).foldl (bestN G n) none = some r := by
    rw [e, List.foldl_cons]
    exact f
  have h : leastO n G = r := by unfold leastO; rw [g]; rfl
  rw [h]
  exact ⟨g, by rw [e]; exact hr, duD G n o, l.map (duD G n), by rw [e]; rfl, m⟩
theorem sep_pairs {n : Nat} (hn : n ≤ 6) (G : Nat → Nat → Int) : Sep ((ordP n).map (duD G n)) := fun a ha b hb h k => by
  obtain ⟨o, _, rfl⟩ := List.mem_map.mp ha
  obtain ⟨q, _, rfl⟩ := List.mem_map.mp hb
  exact (sp_du G G n o q).lt h k
theorem least_one {n : Nat} (hn : n ≤ 6) (G : Nat → Nat → Int) : mFn 2 m_least_table [.imm (tabD n G)] = some (.imm (duD G n (leastO n G)), [.imm (tabD n G)]) := by
  have e1 := len_tab n G
  have e2 : ∀ E : En, rgD rgT 0 (n : Int) E = some (.imm (.tuple (wL (List.range n))), E) := fun E => by
    have := rgD_nat (T := rgT) (a := 0) (b := n) (E := E) (Nat.zero_le _) (by omega)
    rw [Nat.sub_zero] at this
    rw [← range_wL]
    exact this
  have e3 := all_one 10 (List.range n) (by rw [List.length_range]; omega) (by rw [List.length_range]; omega) (by decide)
  have ln := all_len 10 (List.range n) 6 (by rw [List.length_range]; omega) (by decide)
  have td : (tupsT (allP 10 (List.range n))).toD = some (.list ((allP 10 (List.range n)).map pT)) := by
    show (Tr.lst (((allP 10 (List.range n)).map pT).map Tr.imm)).toD = _
    rw [v_tdL, toDs_imms]
    rfl
  have lc := lcD_imm (g := mName 1) (m := X_least_table_1) (vs := [1]) (E := [.val (.imm (tabD n G)), .no]) pT (fun p => pairD n (trn G p) p) (allP 10 (List.range n)) (fun p hp => by
    have ho := (all_ord hn).mp hp
    have t1 := turned_one (by omega) G ho (T := .imm (.tuple (wL p))) (.inl rfl)
    refine ⟨[.val (.imm (tabD n G)), .val (.imm (.tuple (wL p)))], [.val (.imm (tabD n G)), .val (.imm (.tuple (wL p)))], by unfold pT; simp -implicitDefEqProofs only [FL.v_seq, FL.v_thN, FL.v_thR, FL.v_thB, FL.v_thC, FL.v_ifS, FL.v_asg, FL.v_ret, FL.v_retN, FL.v_drop, FL.v_nx, FL.v_bk, FL.v_ct, FL.v_name, FL.v_pN, FL.v_pV, FL.v_var, FL.v_at, FL.v_trV, FL.v_trP, FL.v_wV, FL.v_wP, FL.v_C, FL.v_ER, FL.v_Fz, FL.v_fO, FL.v_fS, FL.v_fV, FL.v_fP, FL.v_fL, FL.v_vS, FL.v_vO, FL.v_op, FL.v_un, FL.v_bOf, FL.v_test, FL.v_and, FL.v_or, FL.v_not, FL.v_tru, FL.v_trB, FL.v_andV, FL.v_orV, FL.v_notV, FL.v_if, FL.v_chain, FL.v_arN, FL.v_arC, FL.v_faN, FL.v_faC, FL.v_tup, FL.v_lst, FL.v_tdN, FL.v_tdC, FL.v_tdI, FL.v_tdL, FL.toDs_imms, FL.imms_imms, FL.v_cb, FL.v_vsN, FL.v_vsC, FL.v_bm, FL.v_tyS, FL.v_tyL, FL.v_sl, FL.v_moN, FL.v_moS, FL.v_iOf, FL.v_call, FL.v_osO, FL.v_osS, FL.v_isI, FL.v_isL, FL.v_isD, FL.v_gN, FL.v_gO, FL.v_gS, FL.v_for, FL.v_lc, FL.v_sub, FL.v_sub2, FL.v_iAt, FL.v_iC, FL.v_aug, FL.v_par, FL.v_mut, FL.v_rng1, FL.v_rng2, FL.v_seqI, FL.v_enumE, FL.v_enumT, FL.v_enumL, FL.v_isi, FL.v_addI, FL.v_addS, FL.v_addT, FL.v_addL, FL.v_subI, FL.v_neg, FL.v_lt, FL.v_le, FL.v_gt, FL.v_ge, FL.v_eqI, FL.v_neI, FL.v_eqS, FL.v_neS, FL.v_ixT, FL.v_ixD, FL.v_ixL, FL.v_ixS, FL.v_len, FL.v_lnT, FL.v_lnD, FL.v_lnL, FL.v_lnS, FL.v_abs, FL.v_max, FL.v_min, FL.v_int, FL.v_intB, FL.v_tuple, FL.v_list, FL.v_sqT, FL.v_sqD, FL.v_sqL, FL.v_itT, FL.v_itL, FL.v_itS, FL.v_isN, FL.v_notN, FL.v_setL, FL.v_setD, FL.v_kS, FL.v_kI, FL.v_mp, FL.v_mpn, FL.v_pO, FL.v_tupG, FL.v_gsC, FL.v_gsN, FL.v_slD, FL.v_at0, FL.v_at1, FL.v_at2, FL.v_i30, FL.v_i31, FL.v_i32, FL.v_Mv, FL.v_mvV, FL.v_pr, FL.v_wpN, FL.v_wpC, FL.v_wsN, FL.v_wsV, FL.v_wsO, FL.v_bkN, FL.v_bkC, FL.v_bsN, FL.v_bsI, FL.v_sf, FL.v_yes, FL.v_tupA, FL.v_imm, FL.v_aftN, FL.v_aftC, FL.v_aftB, FL.v_aftR, FL.v_iOp, FL.v_iLen, FL.v_dnin, FL.v_dninI, FL.v_disp1, FL.v_dispI, FL.v_mut0, FL.v_mulB, FL.v_lrg1, FL.v_trg1, FL.v_lrg2, FL.v_trg2, FL.v_fT, FL.v_rS, FL.v_rO, FL.v_plI, FL.v_plL, FL.v_plD, FL.v_plT, FL.v_vrN, FL.v_vrC, FL.v_isT, FL.callD, Option.bind_some, Option.bind_none, List.getElem?_cons_zero, List.getElem?_cons_succ, List.getElem?_nil, List.set_cons_zero, List.set_cons_succ, List.length_cons, List.length_nil, List.filterMap_cons, List.filterMap_nil, decide_eq_true_eq, if_true, if_false, true_and, and_true, Nat.reduceAdd, Nat.reduceLeDiff, Nat.reduceEqDiff, ↓reduceIte, Bool.false_eq_true, FL.startE, FL.backs, List.map_cons, List.map_nil, List.cons_append, List.nil_append, Nat.reduceSub, List.replicate_succ, List.replicate_zero, List.nodup_nil, List.nodup_cons, List.not_mem_nil, not_false_eq_true, and_self, reduceCtorEq, Option.map_some, Option.map_none, lenT_tab, lenT_row], ?_, by simp -implicitDefEqProofs only [FL.v_seq, FL.v_thN, FL.v_thR, FL.v_thB, FL.v_thC, FL.v_ifS, FL.v_asg, FL.v_ret, FL.v_retN, FL.v_drop, FL.v_nx, FL.v_bk, FL.v_ct, FL.v_name, FL.v_pN, FL.v_pV, FL.v_var, FL.v_at, FL.v_trV, FL.v_trP, FL.v_wV, FL.v_wP, FL.v_C, FL.v_ER, FL.v_Fz, FL.v_fO, FL.v_fS, FL.v_fV, FL.v_fP, FL.v_fL, FL.v_vS, FL.v_vO, FL.v_op, FL.v_un, FL.v_bOf, FL.v_test, FL.v_and, FL.v_or, FL.v_not, FL.v_tru, FL.v_trB, FL.v_andV, FL.v_orV, FL.v_notV, FL.v_if, FL.v_chain, FL.v_arN, FL.v_arC, FL.v_faN, FL.v_faC, FL.v_tup, FL.v_lst, FL.v_tdN, FL.v_tdC, FL.v_tdI, FL.v_tdL, FL.toDs_imms, FL.imms_imms, FL.v_cb, FL.v_vsN, FL.v_vsC, FL.v_bm, FL.v_tyS, FL.v_tyL, FL.v_sl, FL.v_moN, FL.v_moS, FL.v_iOf, FL.v_call, FL.v_osO, FL.v_osS, FL.v_isI, FL.v_isL, FL.v_isD, FL.v_gN, FL.v_gO, FL.v_gS, FL.v_for, FL.v_lc, FL.v_sub, FL.v_sub2, FL.v_iAt, FL.v_iC, FL.v_aug, FL.v_par, FL.v_mut, FL.v_rng1, FL.v_rng2, FL.v_seqI, FL.v_enumE, FL.v_enumT, FL.v_enumL, FL.v_isi, FL.v_addI, FL.v_addS, FL.v_addT, FL.v_addL, FL.v_subI, FL.v_neg, FL.v_lt, FL.v_le, FL.v_gt, FL.v_ge, FL.v_eqI, FL.v_neI, FL.v_eqS, FL.v_neS, FL.v_ixT, FL.v_ixD, FL.v_ixL, FL.v_ixS, FL.v_len, FL.v_lnT, FL.v_lnD, FL.v_lnL, FL.v_lnS, FL.v_abs, FL.v_max, FL.v_min, FL.v_int, FL.v_intB, FL.v_tuple, FL.v_list, FL.v_sqT, FL.v_sqD, FL.v_sqL, FL.v_itT, FL.v_itL, FL.v_itS, FL.v_isN, FL.v_notN, FL.v_setL, FL.v_setD, FL.v_kS, FL.v_kI, FL.v_mp, FL.v_mpn, FL.v_pO, FL.v_tupG, FL.v_gsC, FL.v_gsN, FL.v_slD, FL.v_at0, FL.v_at1, FL.v_at2, FL.v_i30, FL.v_i31, FL.v_i32, FL.v_Mv, FL.v_mvV, FL.v_pr, FL.v_wpN, FL.v_wpC, FL.v_wsN, FL.v_wsV, FL.v_wsO, FL.v_bkN, FL.v_bkC, FL.v_bsN, FL.v_bsI, FL.v_sf, FL.v_yes, FL.v_tupA, FL.v_imm, FL.v_aftN, FL.v_aftC, FL.v_aftB, FL.v_aftR, FL.v_iOp, FL.v_iLen, FL.v_dnin, FL.v_dninI, FL.v_disp1, FL.v_dispI, FL.v_mut0, FL.v_mulB, FL.v_lrg1, FL.v_trg1, FL.v_lrg2, FL.v_trg2, FL.v_fT, FL.v_rS, FL.v_rO, FL.v_plI, FL.v_plL, FL.v_plD, FL.v_plT, FL.v_vrN, FL.v_vrC, FL.v_isT, FL.callD, Option.bind_some, Option.bind_none, List.getElem?_cons_zero, List.getElem?_cons_succ, List.getElem?_nil, List.set_cons_zero, List.set_cons_succ, List.length_cons, List.length_nil, List.filterMap_cons, List.filterMap_nil, decide_eq_true_eq, if_true, if_false, true_and, and_true, Nat.reduceAdd, Nat.reduceLeDiff, Nat.reduceEqDiff, ↓reduceIte, Bool.false_eq_true, FL.startE, FL.backs, List.map_cons, List.map_nil, List.cons_append, List.nil_append, Nat.reduceSub, List.replicate_succ, List.replicate_zero, List.nodup_nil, List.nodup_cons, List.not_mem_nil, not_false_eq_true, and_self, reduceCtorEq, Option.map_some, Option.map_none, lenT_tab, lenT_row]⟩
    unfold X_least_table_1
    simp -implicitDefEqProofs only [FL.v_seq, FL.v_thN, FL.v_thR, FL.v_thB, FL.v_thC, FL.v_ifS, FL.v_asg, FL.v_ret, FL.v_retN, FL.v_drop, FL.v_nx, FL.v_bk, FL.v_ct, FL.v_name, FL.v_pN, FL.v_pV, FL.v_var, FL.v_at, FL.v_trV, FL.v_trP, FL.v_wV, FL.v_wP, FL.v_C, FL.v_ER, FL.v_Fz, FL.v_fO, FL.v_fS, FL.v_fV, FL.v_fP, FL.v_fL, FL.v_vS, FL.v_vO, FL.v_op, FL.v_un, FL.v_bOf, FL.v_test, FL.v_and, FL.v_or, FL.v_not, FL.v_tru, FL.v_trB, FL.v_andV, FL.v_orV, FL.v_notV, FL.v_if, FL.v_chain, FL.v_arN, FL.v_arC, FL.v_faN, FL.v_faC, FL.v_tup, FL.v_lst, FL.v_tdN, FL.v_tdC, FL.v_tdI, FL.v_tdL, FL.toDs_imms, FL.imms_imms, FL.v_cb, FL.v_vsN, FL.v_vsC, FL.v_bm, FL.v_tyS, FL.v_tyL, FL.v_sl, FL.v_moN, FL.v_moS, FL.v_iOf, FL.v_call, FL.v_osO, FL.v_osS, FL.v_isI, FL.v_isL, FL.v_isD, FL.v_gN, FL.v_gO, FL.v_gS, FL.v_for, FL.v_lc, FL.v_sub, FL.v_sub2, FL.v_iAt, FL.v_iC, FL.v_aug, FL.v_par, FL.v_mut, FL.v_rng1, FL.v_rng2, FL.v_seqI, FL.v_enumE, FL.v_enumT, FL.v_enumL, FL.v_isi, FL.v_addI, FL.v_addS, FL.v_addT, FL.v_addL, FL.v_subI, FL.v_neg, FL.v_lt, FL.v_le, FL.v_gt, FL.v_ge, FL.v_eqI, FL.v_neI, FL.v_eqS, FL.v_neS, FL.v_ixT, FL.v_ixD, FL.v_ixL, FL.v_ixS, FL.v_len, FL.v_lnT, FL.v_lnD, FL.v_lnL, FL.v_lnS, FL.v_abs, FL.v_max, FL.v_min, FL.v_int, FL.v_intB, FL.v_tuple, FL.v_list, FL.v_sqT, FL.v_sqD, FL.v_sqL, FL.v_itT, FL.v_itL, FL.v_itS, FL.v_isN, FL.v_notN, FL.v_setL, FL.v_setD, FL.v_kS, FL.v_kI, FL.v_mp, FL.v_mpn, FL.v_pO, FL.v_tupG, FL.v_gsC, FL.v_gsN, FL.v_slD, FL.v_at0, FL.v_at1, FL.v_at2, FL.v_i30, FL.v_i31, FL.v_i32, FL.v_Mv, FL.v_mvV, FL.v_pr, FL.v_wpN, FL.v_wpC, FL.v_wsN, FL.v_wsV, FL.v_wsO, FL.v_bkN, FL.v_bkC, FL.v_bsN, FL.v_bsI, FL.v_sf, FL.v_yes, FL.v_tupA, FL.v_imm, FL.v_aftN, FL.v_aftC, FL.v_aftB, FL.v_aftR, FL.v_iOp, FL.v_iLen, FL.v_dnin, FL.v_dninI, FL.v_disp1, FL.v_dispI, FL.v_mut0, FL.v_mulB, FL.v_lrg1, FL.v_trg1, FL.v_lrg2, FL.v_trg2, FL.v_fT, FL.v_rS, FL.v_rO, FL.v_plI, FL.v_plL, FL.v_plD, FL.v_plT, FL.v_vrN, FL.v_vrC, FL.v_isT, FL.callD, Option.bind_some, Option.bind_none, List.getElem?_cons_zero, List.getElem?_cons_succ, List.getElem?_nil, List.set_cons_zero, List.set_cons_succ, List.length_cons, List.length_nil, List.filterMap_cons, List.filterMap_nil, decide_eq_true_eq, if_true, if_false, true_and, and_true, Nat.reduceAdd, Nat.reduceLeDiff, Nat.reduceEqDiff, ↓reduceIte, Bool.false_eq_true, FL.startE, FL.backs, List.map_cons, List.map_nil, List.cons_append, List.nil_append, Nat.reduceSub, List.replicate_succ, List.replicate_zero, List.nodup_nil, List.nodup_cons, List.not_mem_nil, not_false_eq_true, and_self, reduceCtorEq, Option.map_some, Option.map_none, lenT_tab, lenT_row, t1]
    rfl) (by have : (7 : Nat) ^ 6 ≤ 16777216 := by decide
             omega)
  obtain ⟨x, r, e5, e6⟩ : ∃ x r, (allP 10 (List.range n)).map (fun p => pairD n (trn G p) p) = x :: r ∧ duD G n (leastO n G) = PySem.W.minD x r := by
    obtain ⟨-, -, y, s, f1, f2⟩ := least_is hn G
    obtain ⟨o, l, e⟩ := allP_cons hn
    refine ⟨pairD n (trn G o) o, l.map (fun p => pairD n (trn G p) p), by rw [e]; rfl, ?_⟩
    rw [f2]
    refine minD_one (fun z => ?_) ?_
    · have := pairs_one hn G z
      rw [f1, e] at this
      exact this
    · have := sep_pairs hn G
      rw [f1] at this
      exact this
  have hm : ∀ z ∈ x :: r, ∃ p, Ord n p ∧ z = pairD n (trn G p) p := fun z hz => by
    rw [← e5] at hz
    obtain ⟨p, hp, rfl⟩ := List.mem_map.mp hz
    exact ⟨p, (all_ord hn).mp hp, rfl⟩
  have al : PySem.W.AlikeAll (x :: r) := by
    refine ⟨fun a ha b hb => ?_, fun a ha => ?_⟩
    · obtain ⟨p, h1, rfl⟩ := hm a ha
      obtain ⟨q, h2, rfl⟩ := hm b hb
      exact (sp_pair n _ _ (by rw [h1.len, h2.len])).al
    · obtain ⟨p, h1, rfl⟩ := hm a ha
      exact pair_ne _ _ _
  have da : ∀ l : List PyData, (∀ z ∈ l, z.depth ≤ 8) → PyData.depthAll l ≤ 8 := by
    intro l
    induction l with
    | nil => intro _; rw [PyData.depthAll]; omega
    | cons a l ih =>
      intro h
      rw [PyData.depthAll]
      have h1 := h a List.mem_cons_self
      have h2 := ih fun z hz => h z (List.mem_cons_of_mem _ hz)
      omega
  have dp := da (x :: r) fun z hz => by
    obtain ⟨p, _, rfl⟩ := hm z hz
    exact depth_pair _ _ _
  have mn : fMinX [.lst ((x :: r).map Tr.imm)] = some (.imm (duD G n (leastO n G))) := by
    show (lstD (.lst ((x :: r).map Tr.imm))).bind _ = _
    unfold lstD
    rw [v_sqL, e6]
    exact if_pos ⟨al, dp⟩
  rw [List.map_cons] at mn
  rw [e5] at lc
  rw [v_fn]
  unfold m_least_table
  simp -implicitDefEqProofs only [FL.v_seq, FL.v_thN, FL.v_thR, FL.v_thB, FL.v_thC, FL.v_ifS, FL.v_asg, FL.v_ret, FL.v_retN, FL.v_drop, FL.v_nx, FL.v_bk, FL.v_ct, FL.v_name, FL.v_pN, FL.v_pV, FL.v_var, FL.v_at, FL.v_trV, FL.v_trP, FL.v_wV, FL.v_wP, FL.v_C, FL.v_ER, FL.v_Fz, FL.v_fO, FL.v_fS, FL.v_fV, FL.v_fP, FL.v_fL, FL.v_vS, FL.v_vO, FL.v_op, FL.v_un, FL.v_bOf, FL.v_test, FL.v_and, FL.v_or, FL.v_not, FL.v_tru, FL.v_trB, FL.v_andV, FL.v_orV, FL.v_notV, FL.v_if, FL.v_chain, FL.v_arN, FL.v_arC, FL.v_faN, FL.v_faC, FL.v_tup, FL.v_lst, FL.v_tdN, FL.v_tdC, FL.v_tdI, FL.v_tdL, FL.toDs_imms, FL.imms_imms, FL.v_cb, FL.v_vsN, FL.v_vsC, FL.v_bm, FL.v_tyS, FL.v_tyL, FL.v_sl, FL.v_moN, FL.v_moS, FL.v_iOf, FL.v_call, FL.v_osO, FL.v_osS, FL.v_isI, FL.v_isL, FL.v_isD, FL.v_gN, FL.v_gO, FL.v_gS, FL.v_for, FL.v_lc, FL.v_sub, FL.v_sub2, FL.v_iAt, FL.v_iC, FL.v_aug, FL.v_par, FL.v_mut, FL.v_rng1, FL.v_rng2, FL.v_seqI, FL.v_enumE, FL.v_enumT, FL.v_enumL, FL.v_isi, FL.v_addI, FL.v_addS, FL.v_addT, FL.v_addL, FL.v_subI, FL.v_neg, FL.v_lt, FL.v_le, FL.v_gt, FL.v_ge, FL.v_eqI, FL.v_neI, FL.v_eqS, FL.v_neS, FL.v_ixT, FL.v_ixD, FL.v_ixL, FL.v_ixS, FL.v_len, FL.v_lnT, FL.v_lnD, FL.v_lnL, FL.v_lnS, FL.v_abs, FL.v_max, FL.v_min, FL.v_int, FL.v_intB, FL.v_tuple, FL.v_list, FL.v_sqT, FL.v_sqD, FL.v_sqL, FL.v_itT, FL.v_itL, FL.v_itS, FL.v_isN, FL.v_notN, FL.v_setL, FL.v_setD, FL.v_kS, FL.v_kI, FL.v_mp, FL.v_mpn, FL.v_pO, FL.v_tupG, FL.v_gsC, FL.v_gsN, FL.v_slD, FL.v_at0, FL.v_at1, FL.v_at2, FL.v_i30, FL.v_i31, FL.v_i32, FL.v_Mv, FL.v_mvV, FL.v_pr, FL.v_wpN, FL.v_wpC, FL.v_wsN, FL.v_wsV, FL.v_wsO, FL.v_bkN, FL.v_bkC, FL.v_bsN, FL.v_bsI, FL.v_sf, FL.v_yes, FL.v_tupA, FL.v_imm, FL.v_aftN, FL.v_aftC, FL.v_aftB, FL.v_aftR, FL.v_iOp, FL.v_iLen, FL.v_dnin, FL.v_dninI, FL.v_disp1, FL.v_dispI, FL.v_mut0, FL.v_mulB, FL.v_lrg1, FL.v_trg1, FL.v_lrg2, FL.v_trg2, FL.v_fT, FL.v_rS, FL.v_rO, FL.v_plI, FL.v_plL, FL.v_plD, FL.v_plT, FL.v_vrN, FL.v_vrC, FL.v_isT, FL.callD, Option.bind_some, Option.bind_none, List.getElem?_cons_zero, List.getElem?_cons_succ, List.getElem?_nil, List.set_cons_zero, List.set_cons_succ, List.length_cons, List.length_nil, List.filterMap_cons, List.filterMap_nil, decide_eq_true_eq, if_true, if_false, true_and, and_true, Nat.reduceAdd, Nat.reduceLeDiff, Nat.reduceEqDiff, ↓reduceIte, Bool.false_eq_true, FL.startE, FL.backs, List.map_cons, List.map_nil, List.cons_append, List.nil_append, Nat.reduceSub, List.replicate_succ, List.replicate_zero, List.nodup_nil, List.nodup_cons, List.not_mem_nil, not_false_eq_true, and_self, reduceCtorEq, Option.map_some, Option.map_none, lenT_tab, lenT_row, e1, e2, e3, td, lc, mn]

end WK

namespace WK
open PySem L2 FL
/-! ### the least table of a table turned is the same -/
theorem sub_sub {n : Nat} (G : Nat → Nat → Int) {p q : List Nat} (hq : Ord n q) : tabD n (sub (sub G p) q) = tabD n (sub G (q.map fun i => p.getD i 0)) := tab_ext rfl fun i j hi hj => by
  have e : ∀ i, i < n → (q.map fun i => p.getD i 0).getD i 0 = p.getD (q.getD i 0) 0 := fun i hi => by
    have hl : i < q.length := by rw [hq.len]; exact hi
    have e2 : q.getD i 0 = q[i] := by rw [List.getD_eq_getElem?_getD, List.getElem?_eq_getElem hl]; rfl
    rw [List.getD_eq_getElem?_getD, List.getElem?_map, List.getElem?_eq_getElem hl, e2]
    rfl
  unfold sub
  rw [e i hi, e j hj]
theorem comp_ord {n : Nat} {p q : List Nat} (hp : Ord n p) (hq : Ord n q) : Ord n (q.map fun i => p.getD i 0) := by
  refine ⟨by rw [List.length_map, hq.len], ?_, fun x hx => ?_⟩
  · unfold List.Nodup
    refine List.pairwise_map.mpr (List.Pairwise.imp_of_mem (fun {a b} ha hb ne e => ne ?_) hq.nd)
    have h1 := (hp.at (hq.lt a ha)).2
    have h2 := (hp.at (hq.lt b hb)).2
    have e' : p.getD a 0 = p.getD b 0 := e
    rw [e'] at h1
    omega
  · obtain ⟨i, hi, rfl⟩ := List.mem_map.mp hx
    exact (hp.at (hq.lt i hi)).1
theorem least_low {n : Nat} (hn : n ≤ 6) (G : Nat → Nat → Int) {o : List Nat} (ho : Ord n o) : PySem.W.dataLt (tabD n (sub G o)) (tabD n (sub G (leastO n G))) = false := by
  obtain ⟨-, h2, x, r, h3, h4⟩ := least_is hn G
  have hm : duD G n o ∈ x :: r := by rw [← h3]; exact List.mem_map.mpr ⟨o, (ord_mem n o).mpr ho, rfl⟩
  have := minD_least r x _ hm
  rw [← h4] at this
  rw [Bool.eq_false_iff]
  intro c
  have st := sp_tab n (sub G o) (sub G (leastO n G))
  have ne : ¬ PyData.eqv (tabD n (sub G o)) (tabD n (sub G (leastO n G))) = true := fun z => by
    rw [st.eq.mp z, dlt_irr] at c
    cases c
  have k := cons_lt st.al [PyData.tuple (wL (homeN n o))] [PyData.tuple (wL (homeN n (leastO n G)))]
  rw [if_neg ne, c] at k
  have k2 : PySem.W.dataLt (duD G n o) (duD G n (leastO n G)) = true := by
    unfold duD pairD
    rw [PySem.W.dataLt_tuple]
    exact k
  rw [k2] at this
  cases this
theorem least_ord {n : Nat} (hn : n ≤ 6) (G : Nat → Nat → Int) : Ord n (leastO n G) := (ord_mem n _).mp (least_is hn G).2.1
theorem least_same {n : Nat} (hn : n ≤ 6) (G : Nat → Nat → Int) {p : List Nat} (hp : Ord n p) : tabD n (sub (sub G p) (leastO n (sub G p))) = tabD n (sub G (leastO n G)) := by
  have h1 := least_ord hn (sub G p)
  have h2 := least_ord hn G
  refine (sp_tab n _ _).lt ?_ ?_
  · rw [Bool.eq_false_iff]
    intro c
    have k := least_low hn (sub G p) (comp_ord (home_ord hp) h2)
    rw [sub_sub G (comp_ord (home_ord hp) h2)] at k
    have e : ((leastO n G).map fun i => (homeN n p).getD i 0).map (fun i => p.getD i 0) = leastO n G := by
      rw [List.map_map]
      conv => rhs; rw [← List.map_id (leastO n G)]
      refine List.map_congr_left fun a ha => ?_
      have la := h2.lt a ha
      show p.getD ((homeN n p).getD a 0) 0 = a
      unfold homeN
      rw [range_getD la]
      exact (hp.ix la).2
    rw [e] at k
    have c2 := least_low hn G (comp_ord hp h1)
    rw [← sub_sub G h1] at c2
    rw [c2] at c
    cases c
  · have k := least_low hn (sub G p) (comp_ord (home_ord hp) h2)
    rw [sub_sub G (comp_ord (home_ord hp) h2)] at k
    have e : ((leastO n G).map fun i => (homeN n p).getD i 0).map (fun i => p.getD i 0) = leastO n G := by
      rw [List.map_map]
      conv => rhs; rw [← List.map_id (leastO n G)]
      refine List.map_congr_left fun a ha => ?_
      have la := h2.lt a ha
      show p.getD ((homeN n p).getD a 0) 0 = a
      unfold homeN
      rw [range_getD la]
      exact (hp.ix la).2
    rw [e] at k
    exact k
/-! ### how a pair is written -/
theorem words_show : ∀ ws : List Nat, (∀ x ∈ ws, x < 13) → PyData.showableAll (wL ws) = true ∧ PyData.leavesShortAll 8 (wL ws) = true ∧ PyData.bulkAll (wL ws) = ws.length ∧ PyData.hasDictAll (wL ws) = false ∧ PyData.depthAll (wL ws) = 0 := fun ws h => by
  have := ints_show (ws.map fun w : Nat => (w : Int)) fun x hx => by
    obtain ⟨w, hw, rfl⟩ := List.mem_map.mp hx
    exact ⟨w, h w hw, rfl⟩
  rw [List.length_map, List.map_map] at this
  exact this
theorem repr_pair {n : Nat} (hn : n ≤ 6) {G : Nat → Nat → Int} (hG : Sm n G) {p : List Nat} (hp : Ord n p) : fRepr [.imm (pairD n G p)] = some (.imm (.str (PyData.shown (pairD n G p)))) := by
  obtain ⟨h1, h2, h3, h4⟩ := rows_show n G hG (List.range n) fun i hi => List.mem_range.mp hi
  obtain ⟨w1, w2, w3, w4, w5⟩ := words_show p fun x hx => by have := hp.lt x hx; omega
  have h5 := depth_pair n G p
  have h6 : (n + 1) * n ≤ 7 * 6 := Nat.mul_le_mul (by omega) hn
  rw [List.length_range] at h3
  rw [hp.len] at w3
  have k1 : PyData.showable (pairD n G p) = true := by
    unfold pairD
    rw [tab_is, PyData.showable, PyData.showableAll, PyData.showableAll, PyData.showableAll, PyData.showable, PyData.showable, h1, w1]
    rfl
  have k2 : PyData.leavesShort 8 (pairD n G p) = true := by
    unfold pairD
    rw [tab_is, PyData.leavesShort, PyData.leavesShortAll, PyData.leavesShortAll, PyData.leavesShortAll, PyData.leavesShort, PyData.leavesShort, h2, w2]
    rfl
  have k3 : PyData.bulk (pairD n G p) ≤ 100 := by
    unfold pairD
    rw [tab_is, PyData.bulk, PyData.bulkAll, PyData.bulkAll, PyData.bulkAll, PyData.bulk, PyData.bulk, h3, w3]
    omega
  have k4 : PyData.hasDict (pairD n G p) = false := by
    unfold pairD
    rw [tab_is, PyData.hasDict, PyData.hasDictAll, PyData.hasDictAll, PyData.hasDictAll, PyData.hasDict, PyData.hasDict, h4, w4]
    rfl
  have k6 := PyData.shown_le_bulk 8 (by decide) _ k2
  generalize pairD n G p = d at *
  unfold fRepr
  show (Tr.toD _).bind _ = _
  rw [v_tdI, Option.bind_some, if_pos ⟨k1, by omega, by omega, k4⟩]
theorem sub_sm {n : Nat} {G : Nat → Nat → Int} (hG : Sm n G) {p : List Nat} (hp : Ord n p) : Sm n (sub G p) := fun i j hi hj => hG _ _ (hp.at hi).1 (hp.at hj).1
theorem repr_due {n : Nat} (hn : n ≤ 6) {G : Nat → Nat → Int} (hG : Sm n G) : fRepr [.imm (duD G n (leastO n G))] = some (.imm (.str (PyData.shown (duD G n (leastO n G))))) := repr_pair hn (sub_sm hG (least_ord hn G)) (home_ord (least_ord hn G))

end WK

namespace WK
open PySem L2 FL
/-! ### the mirrors in a drawn order -/
theorem pick_lc (S0 S2 S3 S4 S5 S7 S8 S9 S11 : SL) : ∀ (ds : List PyData) (L : List Nat) (t : Tr) (N : Int) (acc : List Tr), L.length = ds.length → L.length ≤ 1000 → N + ds.length < 2 ^ 40 → acc.length + ds.length ≤ 16777216 → Hd t N →
    ∃ o t', lcD (mName 10) mYes X_law_1 [10] ds acc [S0, .val t, S2, S3, S4, S5, .val (.lst ((wL L).map Tr.imm)), S7, S8, S9, .no, S11] = some (acc ++ (wL o).map Tr.imm, [S0, .val t', S2, S3, S4, S5, .val (.lst []), S7, S8, S9, .no, S11]) ∧ o.Perm L ∧ Hd t' (N + ds.length)
  | [], L, t, N, acc, hl, _, _, _, ht => by
    have hL : L = [] := List.eq_nil_of_length_eq_zero hl
    subst hL
    refine ⟨[], t, ?_, List.Perm.refl _, ht.le (by simp)⟩
    rw [lcD, wL_nil, List.map_nil, List.append_nil]
  | d :: ds, L, t, N, acc, hl, hk, hN, ha, ht => by
    rw [List.length_cons] at hl hN ha
    obtain ⟨r, t2, e1, r0, r1, ht2⟩ := take_hd ht (by omega) (L.length : Int) (by omega) (by omega)
    obtain ⟨i, rfl⟩ := Int.eq_ofNat_of_zero_le r0
    have hi : i < L.length := by omega
    have e2 := v_popAt hi hk
    obtain ⟨o, t3, e3, hp, ht3⟩ := pick_lc S0 S2 S3 S4 S5 S7 S8 S9 S11 ds (L.eraseIdx i) t2 (N + 1) (acc ++ [.imm (.int ((L.getD i 0 : Nat) : Int))]) (by rw [List.length_eraseIdx_of_lt hi]; omega) (by rw [List.length_eraseIdx_of_lt hi]; omega) (by omega) (by rw [List.length_append, List.length_singleton]; omega) ht2
    refine ⟨L.getD i 0 :: o, t3, ?_, (hp.cons _).trans (perm_put L i hi), ht3.le (by rw [List.length_cons]; omega)⟩
    obtain ⟨x1, x2, x3, rfl⟩ := ht.lst
    obtain ⟨y1, y2, y3, rfl⟩ := ht2.lst
    have e4 : (acc ++ [Tr.imm (.int ((L.getD i 0 : Nat) : Int))]) ++ (wL o).map Tr.imm = acc ++ (wL (L.getD i 0 :: o)).map Tr.imm := by
      rw [List.append_assoc]; rfl
    rw [e4] at e3
    rw [lcD]
    unfold X_law_1 at e3 ⊢
    simp -implicitDefEqProofs only [FL.v_seq, FL.v_thN, FL.v_thR, FL.v_thB, FL.v_thC, FL.v_ifS, FL.v_asg, FL.v_ret, FL.v_retN, FL.v_drop, FL.v_nx, FL.v_bk, FL.v_ct, FL.v_name, FL.v_pN, FL.v_pV, FL.v_var, FL.v_at, FL.v_trV, FL.v_trP, FL.v_wV, FL.v_wP, FL.v_C, FL.v_ER, FL.v_Fz, FL.v_fO, FL.v_fS, FL.v_fV, FL.v_fP, FL.v_fL, FL.v_vS, FL.v_vO, FL.v_op, FL.v_un, FL.v_bOf, FL.v_test, FL.v_and, FL.v_or, FL.v_not, FL.v_tru, FL.v_trB, FL.v_andV, FL.v_orV, FL.v_notV, FL.v_if, FL.v_chain, FL.v_arN, FL.v_arC, FL.v_faN, FL.v_faC, FL.v_tup, FL.v_lst, FL.v_tdN, FL.v_tdC, FL.v_tdI, FL.v_tdL, FL.toDs_imms, FL.imms_imms, FL.v_cb, FL.v_vsN, FL.v_vsC, FL.v_bm, FL.v_tyS, FL.v_tyL, FL.v_sl, FL.v_moN, FL.v_moS, FL.v_iOf, FL.v_call, FL.v_osO, FL.v_osS, FL.v_isI, FL.v_isL, FL.v_isD, FL.v_gN, FL.v_gO, FL.v_gS, FL.v_for, FL.v_lc, FL.v_sub, FL.v_sub2, FL.v_iAt, FL.v_iC, FL.v_aug, FL.v_par, FL.v_mut, FL.v_rng1, FL.v_rng2, FL.v_seqI, FL.v_enumE, FL.v_enumT, FL.v_enumL, FL.v_isi, FL.v_addI, FL.v_addS, FL.v_addT, FL.v_addL, FL.v_subI, FL.v_neg, FL.v_lt, FL.v_le, FL.v_gt, FL.v_ge, FL.v_eqI, FL.v_neI, FL.v_eqS, FL.v_neS, FL.v_ixT, FL.v_ixD, FL.v_ixL, FL.v_ixS, FL.v_len, FL.v_lnT, FL.v_lnD, FL.v_lnL, FL.v_lnS, FL.v_abs, FL.v_max, FL.v_min, FL.v_int, FL.v_intB, FL.v_tuple, FL.v_list, FL.v_sqT, FL.v_sqD, FL.v_sqL, FL.v_itT, FL.v_itL, FL.v_itS, FL.v_isN, FL.v_notN, FL.v_setL, FL.v_setD, FL.v_kS, FL.v_kI, FL.v_mp, FL.v_mpn, FL.v_pO, FL.v_tupG, FL.v_gsC, FL.v_gsN, FL.v_slD, FL.v_at0, FL.v_at1, FL.v_at2, FL.v_i30, FL.v_i31, FL.v_i32, FL.v_Mv, FL.v_mvV, FL.v_pr, FL.v_wpN, FL.v_wpC, FL.v_wsN, FL.v_wsV, FL.v_wsO, FL.v_bkN, FL.v_bkC, FL.v_bsN, FL.v_bsI, FL.v_sf, FL.v_yes, FL.v_tupA, FL.v_imm, FL.v_aftN, FL.v_aftC, FL.v_aftB, FL.v_aftR, FL.v_iOp, FL.v_iLen, FL.v_dnin, FL.v_dninI, FL.v_disp1, FL.v_dispI, FL.v_mut0, FL.v_mulB, FL.v_lrg1, FL.v_trg1, FL.v_lrg2, FL.v_trg2, FL.v_fT, FL.v_rS, FL.v_rO, FL.v_plI, FL.v_plL, FL.v_plD, FL.v_plT, FL.v_vrN, FL.v_vrC, FL.v_isT, FL.callD, Option.bind_some, Option.bind_none, List.getElem?_cons_zero, List.getElem?_cons_succ, List.getElem?_nil, List.set_cons_zero, List.set_cons_succ, List.length_cons, List.length_nil, List.filterMap_cons, List.filterMap_nil, decide_eq_true_eq, if_true, if_false, true_and, and_true, Nat.reduceAdd, Nat.reduceLeDiff, Nat.reduceEqDiff, ↓reduceIte, Bool.false_eq_true, FL.startE, FL.backs, List.map_cons, List.map_nil, List.cons_append, List.nil_append, Nat.reduceSub, List.replicate_succ, List.replicate_zero, List.nodup_nil, List.nodup_cons, List.not_mem_nil, not_false_eq_true, and_self, reduceCtorEq, Option.map_some, Option.map_none, lenT_tab, lenT_row, FL.v_yes, List.length_map, wL_len, e1, e2, show acc.length < 16777216 by omega, e3]
theorem due_at0 (G : Nat → Nat → Int) (n : Nat) (o : List Nat) : fIx (.imm (duD G n o)) (.imm (.int 0)) = some (.imm (tabD n (sub G o))) := rfl
theorem due_at1 (G : Nat → Nat → Int) (n : Nat) (o : List Nat) : fIx (.imm (duD G n o)) (.imm (.int 1)) = some (.imm (.tuple (wL (homeN n o)))) := rfl
theorem trn_home {n : Nat} (G : Nat → Nat → Int) {o : List Nat} (h : Ord n o) : tabD n (trn G (homeN n o)) = tabD n (sub G o) := tab_ext rfl fun i j hi hj => by
  unfold sub trn
  rw [home_at h hi, home_at h hj]
/-- the table with its mirrors in an order -/
theorem other_one {n : Nat} (hn : n ≤ 6) (G : Nat → Nat → Int) {o : List Nat} (ho : Ord n o) (S0 S1 S2 S3 S5 S6 S8 S9 : SL) :
    lcD (mName 11) mYes X_law_3 [11] (wL o) [] [S0, S1, S2, S3, .val (.imm (tabD n G)), S5, S6, .val (.imm (.list (wL o))), S8, S9, .no, .no] = some ((o.map fun i => PyData.tuple (o.map fun j => PyData.int (G i j))).map Tr.imm, [S0, S1, S2, S3, .val (.imm (tabD n G)), S5, S6, .val (.imm (.list (wL o))), S8, S9, .no, .no]) := by
  have hx : ∀ (i : Nat) (_ : i < n), X_law_3 [S0, S1, S2, S3, .val (.imm (tabD n G)), S5, S6, .val (.imm (.list (wL o))), S8, S9, .no, .val (.imm (.int (i : Nat)))] = some (.imm (.tuple (o.map fun j => PyData.int (G i j))), [S0, S1, S2, S3, .val (.imm (tabD n G)), S5, S6, .val (.imm (.list (wL o))), S8, S9, .no, .val (.imm (.int (i : Nat)))]) := fun i hi => by
    have lc := lcD_imm (g := mName 10) (m := X_law_2) (vs := [10]) (E := [S0, S1, S2, S3, .val (.imm (tabD n G)), S5, S6, .val (.imm (.list (wL o))), S8, S9, .no, .val (.imm (.int (i : Nat)))]) (fun j : Nat => PyData.int (j : Nat)) (fun j => PyData.int (G i j)) o (fun j hj => by
      have k1 := tabF_at (G := G) hi
      have k2 := rowD_at (G := G) (i := i) (ho.lt j hj)
      exact ⟨[S0, S1, S2, S3, .val (.imm (tabD n G)), S5, S6, .val (.imm (.list (wL o))), S8, S9, .val (.imm (.int (j : Nat))), .val (.imm (.int (i : Nat)))], [S0, S1, S2, S3, .val (.imm (tabD n G)), S5, S6, .val (.imm (.list (wL o))), S8, S9, .val (.imm (.int (j : Nat))), .val (.imm (.int (i : Nat)))], by simp -implicitDefEqProofs only [FL.v_seq, FL.v_thN, FL.v_thR, FL.v_thB, FL.v_thC, FL.v_ifS, FL.v_asg, FL.v_ret, FL.v_retN, FL.v_drop, FL.v_nx, FL.v_bk, FL.v_ct, FL.v_name, FL.v_pN, FL.v_pV, FL.v_var, FL.v_at, FL.v_trV, FL.v_trP, FL.v_wV, FL.v_wP, FL.v_C, FL.v_ER, FL.v_Fz, FL.v_fO, FL.v_fS, FL.v_fV, FL.v_fP, FL.v_fL, FL.v_vS, FL.v_vO, FL.v_op, FL.v_un, FL.v_bOf, FL.v_test, FL.v_and, FL.v_or, FL.v_not, FL.v_tru, FL.v_trB, FL.v_andV, FL.v_orV, FL.v_notV, FL.v_if, FL.v_chain, FL.v_arN, FL.v_arC, FL.v_faN, FL.v_faC, FL.v_tup, FL.v_lst, FL.v_tdN, FL.v_tdC, FL.v_tdI, FL.v_tdL, FL.toDs_imms, FL.imms_imms, FL.v_cb, FL.v_vsN, FL.v_vsC, FL.v_bm, FL.v_tyS, FL.v_tyL, FL.v_sl, FL.v_moN, FL.v_moS, FL.v_iOf, FL.v_call, FL.v_osO, FL.v_osS, FL.v_isI, FL.v_isL, FL.v_isD, FL.v_gN, FL.v_gO, FL.v_gS, FL.v_for, FL.v_lc, FL.v_sub, FL.v_sub2, FL.v_iAt, FL.v_iC, FL.v_aug, FL.v_par, FL.v_mut, FL.v_rng1, FL.v_rng2, FL.v_seqI, FL.v_enumE, FL.v_enumT, FL.v_enumL, FL.v_isi, FL.v_addI, FL.v_addS, FL.v_addT, FL.v_addL, FL.v_subI, FL.v_neg, FL.v_lt, FL.v_le, FL.v_gt, FL.v_ge, FL.v_eqI, FL.v_neI, FL.v_eqS, FL.v_neS, FL.v_ixT, FL.v_ixD, FL.v_ixL, FL.v_ixS, FL.v_len, FL.v_lnT, FL.v_lnD, FL.v_lnL, FL.v_lnS, FL.v_abs, FL.v_max, FL.v_min, FL.v_int, FL.v_intB, FL.v_tuple, FL.v_list, FL.v_sqT, FL.v_sqD, FL.v_sqL, FL.v_itT, FL.v_itL, FL.v_itS, FL.v_isN, FL.v_notN, FL.v_setL, FL.v_setD, FL.v_kS, FL.v_kI, FL.v_mp, FL.v_mpn, FL.v_pO, FL.v_tupG, FL.v_gsC, FL.v_gsN, FL.v_slD, FL.v_at0, FL.v_at1, FL.v_at2, FL.v_i30, FL.v_i31, FL.v_i32, FL.v_Mv, FL.v_mvV, FL.v_pr, FL.v_wpN, FL.v_wpC, FL.v_wsN, FL.v_wsV, FL.v_wsO, FL.v_bkN, FL.v_bkC, FL.v_bsN, FL.v_bsI, FL.v_sf, FL.v_yes, FL.v_tupA, FL.v_imm, FL.v_aftN, FL.v_aftC, FL.v_aftB, FL.v_aftR, FL.v_iOp, FL.v_iLen, FL.v_dnin, FL.v_dninI, FL.v_disp1, FL.v_dispI, FL.v_mut0, FL.v_mulB, FL.v_lrg1, FL.v_trg1, FL.v_lrg2, FL.v_trg2, FL.v_fT, FL.v_rS, FL.v_rO, FL.v_plI, FL.v_plL, FL.v_plD, FL.v_plT, FL.v_vrN, FL.v_vrC, FL.v_isT, FL.callD, Option.bind_some, Option.bind_none, List.getElem?_cons_zero, List.getElem?_cons_succ, List.getElem?_nil, List.set_cons_zero, List.set_cons_succ, List.length_cons, List.length_nil, List.filterMap_cons, List.filterMap_nil, decide_eq_true_eq, if_true, if_false, true_and, and_true, Nat.reduceAdd, Nat.reduceLeDiff, Nat.reduceEqDiff, ↓reduceIte, Bool.false_eq_true, FL.startE, FL.backs, List.map_cons, List.map_nil, List.cons_append, List.nil_append, Nat.reduceSub, List.replicate_succ, List.replicate_zero, List.nodup_nil, List.nodup_cons, List.not_mem_nil, not_false_eq_true, and_self, reduceCtorEq, Option.map_some, Option.map_none, lenT_tab, lenT_row], by unfold X_law_2; simp -implicitDefEqProofs only [FL.v_seq, FL.v_thN, FL.v_thR, FL.v_thB, FL.v_thC, FL.v_ifS, FL.v_asg, FL.v_ret, FL.v_retN, FL.v_drop, FL.v_nx, FL.v_bk, FL.v_ct, FL.v_name, FL.v_pN, FL.v_pV, FL.v_var, FL.v_at, FL.v_trV, FL.v_trP, FL.v_wV, FL.v_wP, FL.v_C, FL.v_ER, FL.v_Fz, FL.v_fO, FL.v_fS, FL.v_fV, FL.v_fP, FL.v_fL, FL.v_vS, FL.v_vO, FL.v_op, FL.v_un, FL.v_bOf, FL.v_test, FL.v_and, FL.v_or, FL.v_not, FL.v_tru, FL.v_trB, FL.v_andV, FL.v_orV, FL.v_notV, FL.v_if, FL.v_chain, FL.v_arN, FL.v_arC, FL.v_faN, FL.v_faC, FL.v_tup, FL.v_lst, FL.v_tdN, FL.v_tdC, FL.v_tdI, FL.v_tdL, FL.toDs_imms, FL.imms_imms, FL.v_cb, FL.v_vsN, FL.v_vsC, FL.v_bm, FL.v_tyS, FL.v_tyL, FL.v_sl, FL.v_moN, FL.v_moS, FL.v_iOf, FL.v_call, FL.v_osO, FL.v_osS, FL.v_isI, FL.v_isL, FL.v_isD, FL.v_gN, FL.v_gO, FL.v_gS, FL.v_for, FL.v_lc, FL.v_sub, FL.v_sub2, FL.v_iAt, FL.v_iC, FL.v_aug, FL.v_par, FL.v_mut, FL.v_rng1, FL.v_rng2, FL.v_seqI, FL.v_enumE, FL.v_enumT, FL.v_enumL, FL.v_isi, FL.v_addI, FL.v_addS, FL.v_addT, FL.v_addL, FL.v_subI, FL.v_neg, FL.v_lt, FL.v_le, FL.v_gt, FL.v_ge, FL.v_eqI, FL.v_neI, FL.v_eqS, FL.v_neS, FL.v_ixT, FL.v_ixD, FL.v_ixL, FL.v_ixS, FL.v_len, FL.v_lnT, FL.v_lnD, FL.v_lnL, FL.v_lnS, FL.v_abs, FL.v_max, FL.v_min, FL.v_int, FL.v_intB, FL.v_tuple, FL.v_list, FL.v_sqT, FL.v_sqD, FL.v_sqL, FL.v_itT, FL.v_itL, FL.v_itS, FL.v_isN, FL.v_notN, FL.v_setL, FL.v_setD, FL.v_kS, FL.v_kI, FL.v_mp, FL.v_mpn, FL.v_pO, FL.v_tupG, FL.v_gsC, FL.v_gsN, FL.v_slD, FL.v_at0, FL.v_at1, FL.v_at2, FL.v_i30, FL.v_i31, FL.v_i32, FL.v_Mv, FL.v_mvV, FL.v_pr, FL.v_wpN, FL.v_wpC, FL.v_wsN, FL.v_wsV, FL.v_wsO, FL.v_bkN, FL.v_bkC, FL.v_bsN, FL.v_bsI, FL.v_sf, FL.v_yes, FL.v_tupA, FL.v_imm, FL.v_aftN, FL.v_aftC, FL.v_aftB, FL.v_aftR, FL.v_iOp, FL.v_iLen, FL.v_dnin, FL.v_dninI, FL.v_disp1, FL.v_dispI, FL.v_mut0, FL.v_mulB, FL.v_lrg1, FL.v_trg1, FL.v_lrg2, FL.v_trg2, FL.v_fT, FL.v_rS, FL.v_rO, FL.v_plI, FL.v_plL, FL.v_plD, FL.v_plT, FL.v_vrN, FL.v_vrC, FL.v_isT, FL.callD, Option.bind_some, Option.bind_none, List.getElem?_cons_zero, List.getElem?_cons_succ, List.getElem?_nil, List.set_cons_zero, List.set_cons_succ, List.length_cons, List.length_nil, List.filterMap_cons, List.filterMap_nil, decide_eq_true_eq, if_true, if_false, true_and, and_true, Nat.reduceAdd, Nat.reduceLeDiff, Nat.reduceEqDiff, ↓reduceIte, Bool.false_eq_true, FL.startE, FL.backs, List.map_cons, List.map_nil, List.cons_append, List.nil_append, Nat.reduceSub, List.replicate_succ, List.replicate_zero, List.nodup_nil, List.nodup_cons, List.not_mem_nil, not_false_eq_true, and_self, reduceCtorEq, Option.map_some, Option.map_none, lenT_tab, lenT_row, k1, k2], by simp -implicitDefEqProofs only [FL.v_seq, FL.v_thN, FL.v_thR, FL.v_thB, FL.v_thC, FL.v_ifS, FL.v_asg, FL.v_ret, FL.v_retN, FL.v_drop, FL.v_nx, FL.v_bk, FL.v_ct, FL.v_name, FL.v_pN, FL.v_pV, FL.v_var, FL.v_at, FL.v_trV, FL.v_trP, FL.v_wV, FL.v_wP, FL.v_C, FL.v_ER, FL.v_Fz, FL.v_fO, FL.v_fS, FL.v_fV, FL.v_fP, FL.v_fL, FL.v_vS, FL.v_vO, FL.v_op, FL.v_un, FL.v_bOf, FL.v_test, FL.v_and, FL.v_or, FL.v_not, FL.v_tru, FL.v_trB, FL.v_andV, FL.v_orV, FL.v_notV, FL.v_if, FL.v_chain, FL.v_arN, FL.v_arC, FL.v_faN, FL.v_faC, FL.v_tup, FL.v_lst, FL.v_tdN, FL.v_tdC, FL.v_tdI, FL.v_tdL, FL.toDs_imms, FL.imms_imms, FL.v_cb, FL.v_vsN, FL.v_vsC, FL.v_bm, FL.v_tyS, FL.v_tyL, FL.v_sl, FL.v_moN, FL.v_moS, FL.v_iOf, FL.v_call, FL.v_osO, FL.v_osS, FL.v_isI, FL.v_isL, FL.v_isD, FL.v_gN, FL.v_gO, FL.v_gS, FL.v_for, FL.v_lc, FL.v_sub, FL.v_sub2, FL.v_iAt, FL.v_iC, FL.v_aug, FL.v_par, FL.v_mut, FL.v_rng1, FL.v_rng2, FL.v_seqI, FL.v_enumE, FL.v_enumT, FL.v_enumL, FL.v_isi, FL.v_addI, FL.v_addS, FL.v_addT, FL.v_addL, FL.v_subI, FL.v_neg, FL.v_lt, FL.v_le, FL.v_gt, FL.v_ge, FL.v_eqI, FL.v_neI, FL.v_eqS, FL.v_neS, FL.v_ixT, FL.v_ixD, FL.v_ixL, FL.v_ixS, FL.v_len, FL.v_lnT, FL.v_lnD, FL.v_lnL, FL.v_lnS, FL.v_abs, FL.v_max, FL.v_min, FL.v_int, FL.v_intB, FL.v_tuple, FL.v_list, FL.v_sqT, FL.v_sqD, FL.v_sqL, FL.v_itT, FL.v_itL, FL.v_itS, FL.v_isN, FL.v_notN, FL.v_setL, FL.v_setD, FL.v_kS, FL.v_kI, FL.v_mp, FL.v_mpn, FL.v_pO, FL.v_tupG, FL.v_gsC, FL.v_gsN, FL.v_slD, FL.v_at0, FL.v_at1, FL.v_at2, FL.v_i30, FL.v_i31, FL.v_i32, FL.v_Mv, FL.v_mvV, FL.v_pr, FL.v_wpN, FL.v_wpC, FL.v_wsN, FL.v_wsV, FL.v_wsO, FL.v_bkN, FL.v_bkC, FL.v_bsN, FL.v_bsI, FL.v_sf, FL.v_yes, FL.v_tupA, FL.v_imm, FL.v_aftN, FL.v_aftC, FL.v_aftB, FL.v_aftR, FL.v_iOp, FL.v_iLen, FL.v_dnin, FL.v_dninI, FL.v_disp1, FL.v_dispI, FL.v_mut0, FL.v_mulB, FL.v_lrg1, FL.v_trg1, FL.v_lrg2, FL.v_trg2, FL.v_fT, FL.v_rS, FL.v_rO, FL.v_plI, FL.v_plL, FL.v_plD, FL.v_plT, FL.v_vrN, FL.v_vrC, FL.v_isT, FL.callD, Option.bind_some, Option.bind_none, List.getElem?_cons_zero, List.getElem?_cons_succ, List.getElem?_nil, List.set_cons_zero, List.set_cons_succ, List.length_cons, List.length_nil, List.filterMap_cons, List.filterMap_nil, decide_eq_true_eq, if_true, if_false, true_and, and_true, Nat.reduceAdd, Nat.reduceLeDiff, Nat.reduceEqDiff, ↓reduceIte, Bool.false_eq_true, FL.startE, FL.backs, List.map_cons, List.map_nil, List.cons_append, List.nil_append, Nat.reduceSub, List.replicate_succ, List.replicate_zero, List.nodup_nil, List.nodup_cons, List.not_mem_nil, not_false_eq_true, and_self, reduceCtorEq, Option.map_some, Option.map_none, lenT_tab, lenT_row]⟩) (by rw [ho.len]; omega)
    change lcD _ _ _ _ (wL o) _ _ = _ at lc
    unfold X_law_3
    simp -implicitDefEqProofs only [FL.v_seq, FL.v_thN, FL.v_thR, FL.v_thB, FL.v_thC, FL.v_ifS, FL.v_asg, FL.v_ret, FL.v_retN, FL.v_drop, FL.v_nx, FL.v_bk, FL.v_ct, FL.v_name, FL.v_pN, FL.v_pV, FL.v_var, FL.v_at, FL.v_trV, FL.v_trP, FL.v_wV, FL.v_wP, FL.v_C, FL.v_ER, FL.v_Fz, FL.v_fO, FL.v_fS, FL.v_fV, FL.v_fP, FL.v_fL, FL.v_vS, FL.v_vO, FL.v_op, FL.v_un, FL.v_bOf, FL.v_test, FL.v_and, FL.v_or, FL.v_not, FL.v_tru, FL.v_trB, FL.v_andV, FL.v_orV, FL.v_notV, FL.v_if, FL.v_chain, FL.v_arN, FL.v_arC, FL.v_faN, FL.v_faC, FL.v_tup, FL.v_lst, FL.v_tdN, FL.v_tdC, FL.v_tdI, FL.v_tdL, FL.toDs_imms, FL.imms_imms, FL.v_cb, FL.v_vsN, FL.v_vsC, FL.v_bm, FL.v_tyS, FL.v_tyL, FL.v_sl, FL.v_moN, FL.v_moS, FL.v_iOf, FL.v_call, FL.v_osO, FL.v_osS, FL.v_isI, FL.v_isL, FL.v_isD, FL.v_gN, FL.v_gO, FL.v_gS, FL.v_for, FL.v_lc, FL.v_sub, FL.v_sub2, FL.v_iAt, FL.v_iC, FL.v_aug, FL.v_par, FL.v_mut, FL.v_rng1, FL.v_rng2, FL.v_seqI, FL.v_enumE, FL.v_enumT, FL.v_enumL, FL.v_isi, FL.v_addI, FL.v_addS, FL.v_addT, FL.v_addL, FL.v_subI, FL.v_neg, FL.v_lt, FL.v_le, FL.v_gt, FL.v_ge, FL.v_eqI, FL.v_neI, FL.v_eqS, FL.v_neS, FL.v_ixT, FL.v_ixD, FL.v_ixL, FL.v_ixS, FL.v_len, FL.v_lnT, FL.v_lnD, FL.v_lnL, FL.v_lnS, FL.v_abs, FL.v_max, FL.v_min, FL.v_int, FL.v_intB, FL.v_tuple, FL.v_list, FL.v_sqT, FL.v_sqD, FL.v_sqL, FL.v_itT, FL.v_itL, FL.v_itS, FL.v_isN, FL.v_notN, FL.v_setL, FL.v_setD, FL.v_kS, FL.v_kI, FL.v_mp, FL.v_mpn, FL.v_pO, FL.v_tupG, FL.v_gsC, FL.v_gsN, FL.v_slD, FL.v_at0, FL.v_at1, FL.v_at2, FL.v_i30, FL.v_i31, FL.v_i32, FL.v_Mv, FL.v_mvV, FL.v_pr, FL.v_wpN, FL.v_wpC, FL.v_wsN, FL.v_wsV, FL.v_wsO, FL.v_bkN, FL.v_bkC, FL.v_bsN, FL.v_bsI, FL.v_sf, FL.v_yes, FL.v_tupA, FL.v_imm, FL.v_aftN, FL.v_aftC, FL.v_aftB, FL.v_aftR, FL.v_iOp, FL.v_iLen, FL.v_dnin, FL.v_dninI, FL.v_disp1, FL.v_dispI, FL.v_mut0, FL.v_mulB, FL.v_lrg1, FL.v_trg1, FL.v_lrg2, FL.v_trg2, FL.v_fT, FL.v_rS, FL.v_rO, FL.v_plI, FL.v_plL, FL.v_plD, FL.v_plT, FL.v_vrN, FL.v_vrC, FL.v_isT, FL.callD, Option.bind_some, Option.bind_none, List.getElem?_cons_zero, List.getElem?_cons_succ, List.getElem?_nil, List.set_cons_zero, List.set_cons_succ, List.length_cons, List.length_nil, List.filterMap_cons, List.filterMap_nil, decide_eq_true_eq, if_true, if_false, true_and, and_true, Nat.reduceAdd, Nat.reduceLeDiff, Nat.reduceEqDiff, ↓reduceIte, Bool.false_eq_true, FL.startE, FL.backs, List.map_cons, List.map_nil, List.cons_append, List.nil_append, Nat.reduceSub, List.replicate_succ, List.replicate_zero, List.nodup_nil, List.nodup_cons, List.not_mem_nil, not_false_eq_true, and_self, reduceCtorEq, Option.map_some, Option.map_none, lenT_tab, lenT_row, lc]
  exact lcD_imm (g := mName 11) (m := X_law_3) (vs := [11]) (E := [S0, S1, S2, S3, .val (.imm (tabD n G)), S5, S6, .val (.imm (.list (wL o))), S8, S9, .no, .no]) (fun i : Nat => PyData.int (i : Nat)) (fun i => PyData.tuple (o.map fun j => PyData.int (G i j))) o (fun i hi =>
    ⟨[S0, S1, S2, S3, .val (.imm (tabD n G)), S5, S6, .val (.imm (.list (wL o))), S8, S9, .no, .val (.imm (.int (i : Nat)))], [S0, S1, S2, S3, .val (.imm (tabD n G)), S5, S6, .val (.imm (.list (wL o))), S8, S9, .no, .val (.imm (.int (i : Nat)))], by simp -implicitDefEqProofs only [FL.v_seq, FL.v_thN, FL.v_thR, FL.v_thB, FL.v_thC, FL.v_ifS, FL.v_asg, FL.v_ret, FL.v_retN, FL.v_drop, FL.v_nx, FL.v_bk, FL.v_ct, FL.v_name, FL.v_pN, FL.v_pV, FL.v_var, FL.v_at, FL.v_trV, FL.v_trP, FL.v_wV, FL.v_wP, FL.v_C, FL.v_ER, FL.v_Fz, FL.v_fO, FL.v_fS, FL.v_fV, FL.v_fP, FL.v_fL, FL.v_vS, FL.v_vO, FL.v_op, FL.v_un, FL.v_bOf, FL.v_test, FL.v_and, FL.v_or, FL.v_not, FL.v_tru, FL.v_trB, FL.v_andV, FL.v_orV, FL.v_notV, FL.v_if, FL.v_chain, FL.v_arN, FL.v_arC, FL.v_faN, FL.v_faC, FL.v_tup, FL.v_lst, FL.v_tdN, FL.v_tdC, FL.v_tdI, FL.v_tdL, FL.toDs_imms, FL.imms_imms, FL.v_cb, FL.v_vsN, FL.v_vsC, FL.v_bm, FL.v_tyS, FL.v_tyL, FL.v_sl, FL.v_moN, FL.v_moS, FL.v_iOf, FL.v_call, FL.v_osO, FL.v_osS, FL.v_isI, FL.v_isL, FL.v_isD, FL.v_gN, FL.v_gO, FL.v_gS, FL.v_for, FL.v_lc, FL.v_sub, FL.v_sub2, FL.v_iAt, FL.v_iC, FL.v_aug, FL.v_par, FL.v_mut, FL.v_rng1, FL.v_rng2, FL.v_seqI, FL.v_enumE, FL.v_enumT, FL.v_enumL, FL.v_isi, FL.v_addI, FL.v_addS, FL.v_addT, FL.v_addL, FL.v_subI, FL.v_neg, FL.v_lt, FL.v_le, FL.v_gt, FL.v_ge, FL.v_eqI, FL.v_neI, FL.v_eqS, FL.v_neS, FL.v_ixT, FL.v_ixD, FL.v_ixL, FL.v_ixS, FL.v_len, FL.v_lnT, FL.v_lnD, FL.v_lnL, FL.v_lnS, FL.v_abs, FL.v_max, FL.v_min, FL.v_int, FL.v_intB, FL.v_tuple, FL.v_list, FL.v_sqT, FL.v_sqD, FL.v_sqL, FL.v_itT, FL.v_itL, FL.v_itS, FL.v_isN, FL.v_notN, FL.v_setL, FL.v_setD, FL.v_kS, FL.v_kI, FL.v_mp, FL.v_mpn, FL.v_pO, FL.v_tupG, FL.v_gsC, FL.v_gsN, FL.v_slD, FL.v_at0, FL.v_at1, FL.v_at2, FL.v_i30, FL.v_i31, FL.v_i32, FL.v_Mv, FL.v_mvV, FL.v_pr, FL.v_wpN, FL.v_wpC, FL.v_wsN, FL.v_wsV, FL.v_wsO, FL.v_bkN, FL.v_bkC, FL.v_bsN, FL.v_bsI, FL.v_sf, FL.v_yes, FL.v_tupA, FL.v_imm, FL.v_aftN, FL.v_aftC, FL.v_aftB, FL.v_aftR, FL.v_iOp, FL.v_iLen, FL.v_dnin, FL.v_dninI, FL.v_disp1, FL.v_dispI, FL.v_mut0, FL.v_mulB, FL.v_lrg1, FL.v_trg1, FL.v_lrg2, FL.v_trg2, FL.v_fT, FL.v_rS, FL.v_rO, FL.v_plI, FL.v_plL, FL.v_plD, FL.v_plT, FL.v_vrN, FL.v_vrC, FL.v_isT, FL.callD, Option.bind_some, Option.bind_none, List.getElem?_cons_zero, List.getElem?_cons_succ, List.getElem?_nil, List.set_cons_zero, List.set_cons_succ, List.length_cons, List.length_nil, List.filterMap_cons, List.filterMap_nil, decide_eq_true_eq, if_true, if_false, true_and, and_true, Nat.reduceAdd, Nat.reduceLeDiff, Nat.reduceEqDiff, ↓reduceIte, Bool.false_eq_true, FL.startE, FL.backs, List.map_cons, List.map_nil, List.cons_append, List.nil_append, Nat.reduceSub, List.replicate_succ, List.replicate_zero, List.nodup_nil, List.nodup_cons, List.not_mem_nil, not_false_eq_true, and_self, reduceCtorEq, Option.map_some, Option.map_none, lenT_tab, lenT_row], hx i (ho.lt i hi), by simp -implicitDefEqProofs only [FL.v_seq, FL.v_thN, FL.v_thR, FL.v_thB, FL.v_thC, FL.v_ifS, FL.v_asg, FL.v_ret, FL.v_retN, FL.v_drop, FL.v_nx, FL.v_bk, FL.v_ct, FL.v_name, FL.v_pN, FL.v_pV, FL.v_var, FL.v_at, FL.v_trV, FL.v_trP, FL.v_wV, FL.v_wP, FL.v_C, FL.v_ER, FL.v_Fz, FL.v_fO, FL.v_fS, FL.v_fV, FL.v_fP, FL.v_fL, FL.v_vS, FL.v_vO, FL.v_op, FL.v_un, FL.v_bOf, FL.v_test, FL.v_and, FL.v_or, FL.v_not, FL.v_tru, FL.v_trB, FL.v_andV, FL.v_orV, FL.v_notV, FL.v_if, FL.v_chain, FL.v_arN, FL.v_arC, FL.v_faN, FL.v_faC, FL.v_tup, FL.v_lst, FL.v_tdN, FL.v_tdC, FL.v_tdI, FL.v_tdL, FL.toDs_imms, FL.imms_imms, FL.v_cb, FL.v_vsN, FL.v_vsC, FL.v_bm, FL.v_tyS, FL.v_tyL, FL.v_sl, FL.v_moN, FL.v_moS, FL.v_iOf, FL.v_call, FL.v_osO, FL.v_osS, FL.v_isI, FL.v_isL, FL.v_isD, FL.v_gN, FL.v_gO, FL.v_gS, FL.v_for, FL.v_lc, FL.v_sub, FL.v_sub2, FL.v_iAt, FL.v_iC, FL.v_aug, FL.v_par, FL.v_mut, FL.v_rng1, FL.v_rng2, FL.v_seqI, FL.v_enumE, FL.v_enumT, FL.v_enumL, FL.v_isi, FL.v_addI, FL.v_addS, FL.v_addT, FL.v_addL, FL.v_subI, FL.v_neg, FL.v_lt, FL.v_le, FL.v_gt, FL.v_ge, FL.v_eqI, FL.v_neI, FL.v_eqS, FL.v_neS, FL.v_ixT, FL.v_ixD, FL.v_ixL, FL.v_ixS, FL.v_len, FL.v_lnT, FL.v_lnD, FL.v_lnL, FL.v_lnS, FL.v_abs, FL.v_max, FL.v_min, FL.v_int, FL.v_intB, FL.v_tuple, FL.v_list, FL.v_sqT, FL.v_sqD, FL.v_sqL, FL.v_itT, FL.v_itL, FL.v_itS, FL.v_isN, FL.v_notN, FL.v_setL, FL.v_setD, FL.v_kS, FL.v_kI, FL.v_mp, FL.v_mpn, FL.v_pO, FL.v_tupG, FL.v_gsC, FL.v_gsN, FL.v_slD, FL.v_at0, FL.v_at1, FL.v_at2, FL.v_i30, FL.v_i31, FL.v_i32, FL.v_Mv, FL.v_mvV, FL.v_pr, FL.v_wpN, FL.v_wpC, FL.v_wsN, FL.v_wsV, FL.v_wsO, FL.v_bkN, FL.v_bkC, FL.v_bsN, FL.v_bsI, FL.v_sf, FL.v_yes, FL.v_tupA, FL.v_imm, FL.v_aftN, FL.v_aftC, FL.v_aftB, FL.v_aftR, FL.v_iOp, FL.v_iLen, FL.v_dnin, FL.v_dninI, FL.v_disp1, FL.v_dispI, FL.v_mut0, FL.v_mulB, FL.v_lrg1, FL.v_trg1, FL.v_lrg2, FL.v_trg2, FL.v_fT, FL.v_rS, FL.v_rO, FL.v_plI, FL.v_plL, FL.v_plD, FL.v_plT, FL.v_vrN, FL.v_vrC, FL.v_isT, FL.callD, Option.bind_some, Option.bind_none, List.getElem?_cons_zero, List.getElem?_cons_succ, List.getElem?_nil, List.set_cons_zero, List.set_cons_succ, List.length_cons, List.length_nil, List.filterMap_cons, List.filterMap_nil, decide_eq_true_eq, if_true, if_false, true_and, and_true, Nat.reduceAdd, Nat.reduceLeDiff, Nat.reduceEqDiff, ↓reduceIte, Bool.false_eq_true, FL.startE, FL.backs, List.map_cons, List.map_nil, List.cons_append, List.nil_append, Nat.reduceSub, List.replicate_succ, List.replicate_zero, List.nodup_nil, List.nodup_cons, List.not_mem_nil, not_false_eq_true, and_self, reduceCtorEq, Option.map_some, Option.map_none, lenT_tab, lenT_row]⟩) (by rw [ho.len]; omega)
theorem due_two {n : Nat} (hn : n ≤ 6) (G : Nat → Nat → Int) : mFn 7 m__law_due [.imm (tabD n G)] = some (.imm (duD G n (leastO n G)), [.imm (tabD n G)]) := by
  have := due_one hn G
  rw [(least_is hn G).1] at this
  exact this

end WK

namespace WK
open PySem L2 FL
/-! ### the law -/
theorem Sq.sm {n : Nat} {G : Nat → Nat → Int} (h : Sq n G) : Sm n G := fun i j hi hj => by
  by_cases e : i = j
  · subst e
    exact ⟨1, by decide, h.one i⟩
  · have := h.good i j e hi hj
    unfold goodB at this
    simp only [Bool.or_eq_true, Bool.and_eq_true, decide_eq_true_eq] at this
    exact ⟨(G i j).toNat, by omega, by omega⟩
theorem at_two {x y : Tr} {r : Int} (r0 : 0 ≤ r) (r1 : r < 2) : (r = 0 ∧ atI [x, y] r = some x) ∨ (r = 1 ∧ atI [x, y] r = some y) := by
  have : r = 0 ∨ r = 1 := by omega
  rcases this with rfl | rfl
  · exact .inl ⟨rfl, rfl⟩
  · exact .inr ⟨rfl, rfl⟩
theorem body_ok (S0 : Tr) (D2 : PyData) (s3 s4 s5 s6 s7 s8 s9 : Option Tr) (t : Tr) (N : Int) (hN : N < 2 ^ 37) (ht : Hd t N) :
    ∃ (t' : Tr) (s3' s4' s5' s6' s7' s8' s9' : Option Tr), B_law_1 [.val S0, .val t, .val (.imm D2), ov s3, ov s4, ov s5, ov s6, ov s7, ov s8, ov s9, .no, .no] = some (.nx [.val S0, .val t', .val (.imm D2), ov s3', ov s4', ov s5', ov s6', ov s7', ov s8', ov s9', .no, .no]) ∧ Hd t' (N + 400) := by
  obtain ⟨r, t1, e1, r0, r1, ht1⟩ := take_hd ht (by omega) 4 (by decide) (by decide)
  obtain ⟨q, t2, e2, q0, q1, ht2⟩ := take_hd ht1 (by omega) 3 (by decide) (by decide)
  obtain ⟨z, t3, e3, z0, z1, ht3⟩ := take_hd ht2 (by omega) 2 (by decide) (by decide)
  have ea : fAdd (.imm (.int 3)) (.imm (.int q)) = some (.imm (.int (3 + q))) := FL.v_addI
  obtain ⟨n, hn, hn0, w, ew, em⟩ : ∃ n : Nat, n ≤ 6 ∧ 0 < n ∧ ∃ c : Int, atI [Tr.imm (.int r), Tr.imm (.int (3 + q))] z = some (.imm (.int c)) ∧ fAdd (.imm (.int 1)) (.imm (.int c)) = some (.imm (.int (n : Nat))) := by
    rcases at_two (x := Tr.imm (.int r)) (y := Tr.imm (.int (3 + q))) z0 z1 with ⟨_, e⟩ | ⟨_, e⟩
    · refine ⟨(1 + r).toNat, by omega, by omega, r, e, ?_⟩
      rw [FL.v_addI, Int.toNat_of_nonneg (by omega)]
    · refine ⟨(1 + (3 + q)).toNat, by omega, by omega, 3 + q, e, ?_⟩
      rw [FL.v_addI, Int.toNat_of_nonneg (by omega)]
  obtain ⟨t4, G1, e4, ht4, hG1⟩ := even_one n (by omega) t3 (N + 3) (by omega) (ht3.le (by omega))
  obtain ⟨t5, G2, e5, ht5, hG2⟩ := table_one n (by omega) t4 (N + 3 + 81) (by omega) ht4
  obtain ⟨y, t6, e6, y0, y1, ht6⟩ := take_hd ht5 (by omega) 2 (by decide) (by decide)
  obtain ⟨G, hG, eG⟩ : ∃ G : Nat → Nat → Int, Sm n G ∧ atI [Tr.imm (tabD n G1), Tr.imm (tabD n G2)] y = some (.imm (tabD n G)) := by
    rcases at_two (x := Tr.imm (tabD n G1)) (y := Tr.imm (tabD n G2)) y0 y1 with ⟨_, e⟩ | ⟨_, e⟩
    · exact ⟨G1, hG1.sm, e⟩
    · exact ⟨G2, hG2.sm, e⟩
  have hL := least_ord hn G
  have d1 := due_two hn G
  have l1 := least_one hn G
  have p1 := repr_due hn hG
  have i0 := due_at0 G n (leastO n G)
  have i1 := due_at1 G n (leastO n G)
  have u1 := turned_one (n := n) (by omega) G (home_ord hL) (T := .imm (.tuple (wL (homeN n (leastO n G))))) (.inl rfl)
  rw [trn_home G hL] at u1
  have n1 := fNe_tab n (sub G (leastO n G))
  have g1 : ∀ E : En, rgD rgL 0 (n : Int) E = some (.lst ((wL (List.range n)).map Tr.imm), E) := fun E => by
    have := rgD_nat (T := rgL) (a := 0) (b := n) (E := E) (Nat.zero_le _) (by omega)
    rw [Nat.sub_zero] at this
    rw [← range_wL]
    exact this
  obtain ⟨o, t7, e7, hp, ht7⟩ := pick_lc (.val S0) (.val (.imm D2)) (.val (.imm (.int (n : Nat)))) (.val (.imm (tabD n G))) (.val (.imm (duD G n (leastO n G)))) (ov s7) (ov s8) (ov s9) .no (rangeD 0 n) (List.range n) t6 (N + 3 + 81 + 81 + 1) [] (by rw [rangeD_len, List.length_range]) (by rw [List.length_range]; omega) (by rw [rangeD_len]; omega) (by rw [rangeD_len]; show 0 + _ ≤ _; omega) ht6
  rw [List.nil_append] at e7
  rw [rangeD_len] at ht7
  have ho : Ord n o := ⟨by rw [hp.length_eq, List.length_range], hp.nodup_iff.mpr List.nodup_range, fun x hx => List.mem_range.mp (hp.mem_iff.mp hx)⟩
  have hr := fun E => v_rgN (n := n) (by omega) (E := E)
  have oc := fun (S0 S1 S2 S3 S5 S6 S8 S9 : SL) => other_one hn G ho S0 S1 S2 S3 S5 S6 S8 S9
  have et : PyData.tuple (o.map fun i => PyData.tuple (o.map fun j => PyData.int (G i j))) = tabD n (sub G o) := by
    have := sub_tab G o
    rw [ho.len] at this
    exact this.symm
  have d2 := due_two hn (sub G o)
  have l2 := least_one hn (sub G o)
  have p2 := repr_due hn (sub_sm hG ho)
  have j0 := due_at0 (sub G o) n (leastO n (sub G o))
  rw [least_same hn G ho] at j0
  have w2 : (2 ≤ 16777216) = True := eq_true (by decide)
  refine ⟨t7, some (.imm (.int (n : Nat))), some (.imm (tabD n G)), some (.imm (duD G n (leastO n G))), some (.lst []), some (.imm (.list (wL o))), some (.imm (tabD n (sub G o))), some (.imm (duD (sub G o) n (leastO n (sub G o)))), ?_, ht7.le (by omega)⟩
  obtain ⟨_, _, _, rfl⟩ := ht.lst
  obtain ⟨_, _, _, rfl⟩ := ht1.lst
  obtain ⟨_, _, _, rfl⟩ := ht2.lst
  obtain ⟨_, _, _, rfl⟩ := ht3.lst
  obtain ⟨_, _, _, rfl⟩ := ht4.lst
  obtain ⟨_, _, _, rfl⟩ := ht5.lst
  obtain ⟨_, _, _, rfl⟩ := ht6.lst
  obtain ⟨_, _, _, rfl⟩ := ht7.lst
  unfold B_law_1
  simp -implicitDefEqProofs only [FL.v_seq, FL.v_thN, FL.v_thR, FL.v_thB, FL.v_thC, FL.v_ifS, FL.v_asg, FL.v_ret, FL.v_retN, FL.v_drop, FL.v_nx, FL.v_bk, FL.v_ct, FL.v_name, FL.v_pN, FL.v_pV, FL.v_var, FL.v_at, FL.v_trV, FL.v_trP, FL.v_wV, FL.v_wP, FL.v_C, FL.v_ER, FL.v_Fz, FL.v_fO, FL.v_fS, FL.v_fV, FL.v_fP, FL.v_fL, FL.v_vS, FL.v_vO, FL.v_op, FL.v_un, FL.v_bOf, FL.v_test, FL.v_and, FL.v_or, FL.v_not, FL.v_tru, FL.v_trB, FL.v_andV, FL.v_orV, FL.v_notV, FL.v_if, FL.v_chain, FL.v_arN, FL.v_arC, FL.v_faN, FL.v_faC, FL.v_tup, FL.v_lst, FL.v_tdN, FL.v_tdC, FL.v_tdI, FL.v_tdL, FL.toDs_imms, FL.imms_imms, FL.v_cb, FL.v_vsN, FL.v_vsC, FL.v_bm, FL.v_tyS, FL.v_tyL, FL.v_sl, FL.v_moN, FL.v_moS, FL.v_iOf, FL.v_call, FL.v_osO, FL.v_osS, FL.v_isI, FL.v_isL, FL.v_isD, FL.v_gN, FL.v_gO, FL.v_gS, FL.v_for, FL.v_lc, FL.v_sub, FL.v_sub2, FL.v_iAt, FL.v_iC, FL.v_aug, FL.v_par, FL.v_mut, FL.v_rng1, FL.v_rng2, FL.v_seqI, FL.v_enumE, FL.v_enumT, FL.v_enumL, FL.v_isi, FL.v_addI, FL.v_addS, FL.v_addT, FL.v_addL, FL.v_subI, FL.v_neg, FL.v_lt, FL.v_le, FL.v_gt, FL.v_ge, FL.v_eqI, FL.v_neI, FL.v_eqS, FL.v_neS, FL.v_ixT, FL.v_ixD, FL.v_ixL, FL.v_ixS, FL.v_len, FL.v_lnT, FL.v_lnD, FL.v_lnL, FL.v_lnS, FL.v_abs, FL.v_max, FL.v_min, FL.v_int, FL.v_intB, FL.v_tuple, FL.v_list, FL.v_sqT, FL.v_sqD, FL.v_sqL, FL.v_itT, FL.v_itL, FL.v_itS, FL.v_isN, FL.v_notN, FL.v_setL, FL.v_setD, FL.v_kS, FL.v_kI, FL.v_mp, FL.v_mpn, FL.v_pO, FL.v_tupG, FL.v_gsC, FL.v_gsN, FL.v_slD, FL.v_at0, FL.v_at1, FL.v_at2, FL.v_i30, FL.v_i31, FL.v_i32, FL.v_Mv, FL.v_mvV, FL.v_pr, FL.v_wpN, FL.v_wpC, FL.v_wsN, FL.v_wsV, FL.v_wsO, FL.v_bkN, FL.v_bkC, FL.v_bsN, FL.v_bsI, FL.v_sf, FL.v_yes, FL.v_tupA, FL.v_imm, FL.v_aftN, FL.v_aftC, FL.v_aftB, FL.v_aftR, FL.v_iOp, FL.v_iLen, FL.v_dnin, FL.v_dninI, FL.v_disp1, FL.v_dispI, FL.v_mut0, FL.v_mulB, FL.v_lrg1, FL.v_trg1, FL.v_lrg2, FL.v_trg2, FL.v_fT, FL.v_rS, FL.v_rO, FL.v_plI, FL.v_plL, FL.v_plD, FL.v_plT, FL.v_vrN, FL.v_vrC, FL.v_isT, FL.callD, Option.bind_some, Option.bind_none, List.getElem?_cons_zero, List.getElem?_cons_succ, List.getElem?_nil, List.set_cons_zero, List.set_cons_succ, List.length_cons, List.length_nil, List.filterMap_cons, List.filterMap_nil, decide_eq_true_eq, if_true, if_false, true_and, and_true, Nat.reduceAdd, Nat.reduceLeDiff, Nat.reduceEqDiff, ↓reduceIte, Bool.false_eq_true, FL.startE, FL.backs, List.map_cons, List.map_nil, List.cons_append, List.nil_append, Nat.reduceSub, List.replicate_succ, List.replicate_zero, List.nodup_nil, List.nodup_cons, List.not_mem_nil, not_false_eq_true, and_self, reduceCtorEq, Option.map_some, Option.map_none, lenT_tab, lenT_row, e1, e2, ea, w2, e3, ew, em, e4, e5, e6, eG, d1, l1, p1, i0, i1, u1, n1, g1, hr, e7, oc, et, d2, l2, p2, j0, decide_true, Bool.not_true]
  rfl

end WK

namespace WK
open PySem L2 FL
theorem least_none (G : Nat → Nat → Int) : leastO 0 G = [] := rfl
theorem ordP_one : ordP 1 = [[0]] := by decide +kernel
theorem least_lone (G : Nat → Nat → Int) : leastO 1 G = [0] := by
  unfold leastO
  rw [ordP_one]
  rfl
theorem shown_none : PyData.shown (.tuple [.tuple [], .tuple []]) = "((), ())" := by decide +kernel
theorem shown_lone : PyData.shown (.tuple [.tuple [.tuple [.int 1]], .tuple [.int 0]]) = "(((1,),), (0,))" := by decide +kernel
theorem law_true : ∀ ns : List Int, ns.length ≤ 63 → ∃ ts', FL.mFn 12 WK.m_law [FL.scriptT ns] = some (.imm (.bool true), ts') := fun ns h63 => by
  obtain ⟨a, b, e1, ha, hb, hb2⟩ := hand_one ns h63
  have h0 : Hd (tS a b 0) 0 := ⟨a, b, 0, rfl, ha, hb, hb2, by decide, by decide⟩
  have hj : ∃ m : Nat, m ≤ 63 ∧ (if (if (6 : Int) < (ns.length : Nat) then (6 : Int) else (ns.length : Nat)) > 3 then (if (6 : Int) < (ns.length : Nat) then (6 : Int) else (ns.length : Nat)) else 3) = (m : Nat) := by
    by_cases h1 : (6 : Int) < (ns.length : Nat)
    · rw [if_pos h1]
      exact ⟨6, by decide, by rw [if_pos (by decide)]; rfl⟩
    · rw [if_neg h1]
      by_cases h2 : ((ns.length : Nat) : Int) > 3
      · exact ⟨ns.length, h63, by rw [if_pos h2]⟩
      · exact ⟨3, by decide, by rw [if_neg h2]; rfl⟩
  obtain ⟨m, hm, hj⟩ := hj
  have hr := fun E => v_rgN (n := m) (by omega) (E := E)
  obtain ⟨E', e2, t', s2, s3, s4, s5, s6, s7, s8, s9, rfl, -⟩ := forD_inv (g := mName 2) (ms := B_law_1)
    (fun i E => ∃ (t' : Tr) (s2 s3 s4 s5 s6 s7 s8 s9 : Option Tr), E = [.val (scriptT ns), .val t', ov s2, ov s3, ov s4, ov s5, ov s6, ov s7, ov s8, ov s9, .no, .no] ∧ Hd t' (400 * i)) (rangeD 0 m)
    (fun i d E hi ⟨t1, s2, s3, s4, s5, s6, s7, s8, s9, hE, h0⟩ => by
      obtain ⟨hi3, rfl⟩ := rangeD_at hi
      obtain ⟨t2, s3', s4', s5', s6', s7', s8', s9', e3, h2⟩ := body_ok (scriptT ns) (.int (0 + (i : Nat))) s3 s4 s5 s6 s7 s8 s9 t1 (400 * i) (by omega) h0
      refine ⟨[.val (scriptT ns), .val t1, .val (.imm (.int (0 + (i : Nat)))), ov s3, ov s4, ov s5, ov s6, ov s7, ov s8, ov s9, .no, .no], [.val (scriptT ns), .val t2, .val (.imm (.int (0 + (i : Nat)))), ov s3', ov s4', ov s5', ov s6', ov s7', ov s8', ov s9', .no, .no], ?_, .inl ?_, t2, some (.imm (.int (0 + (i : Nat)))), s3', s4', s5', s6', s7', s8', s9', rfl, h2.le (by omega)⟩
      · rw [hE]; simp -implicitDefEqProofs only [FL.v_seq, FL.v_thN, FL.v_thR, FL.v_thB, FL.v_thC, FL.v_ifS, FL.v_asg, FL.v_ret, FL.v_retN, FL.v_drop, FL.v_nx, FL.v_bk, FL.v_ct, FL.v_name, FL.v_pN, FL.v_pV, FL.v_var, FL.v_at, FL.v_trV, FL.v_trP, FL.v_wV, FL.v_wP, FL.v_C, FL.v_ER, FL.v_Fz, FL.v_fO, FL.v_fS, FL.v_fV, FL.v_fP, FL.v_fL, FL.v_vS, FL.v_vO, FL.v_op, FL.v_un, FL.v_bOf, FL.v_test, FL.v_and, FL.v_or, FL.v_not, FL.v_tru, FL.v_trB, FL.v_andV, FL.v_orV, FL.v_notV, FL.v_if, FL.v_chain, FL.v_arN, FL.v_arC, FL.v_faN, FL.v_faC, FL.v_tup, FL.v_lst, FL.v_tdN, FL.v_tdC, FL.v_tdI, FL.v_tdL, FL.toDs_imms, FL.imms_imms, FL.v_cb, FL.v_vsN, FL.v_vsC, FL.v_bm, FL.v_tyS, FL.v_tyL, FL.v_sl, FL.v_moN, FL.v_moS, FL.v_iOf, FL.v_call, FL.v_osO, FL.v_osS, FL.v_isI, FL.v_isL, FL.v_isD, FL.v_gN, FL.v_gO, FL.v_gS, FL.v_for, FL.v_lc, FL.v_sub, FL.v_sub2, FL.v_iAt, FL.v_iC, FL.v_aug, FL.v_par, FL.v_mut, FL.v_rng1, FL.v_rng2, FL.v_seqI, FL.v_enumE, FL.v_enumT, FL.v_enumL, FL.v_isi, FL.v_addI, FL.v_addS, FL.v_addT, FL.v_addL, FL.v_subI, FL.v_neg, FL.v_lt, FL.v_le, FL.v_gt, FL.v_ge, FL.v_eqI, FL.v_neI, FL.v_eqS, FL.v_neS, FL.v_ixT, FL.v_ixD, FL.v_ixL, FL.v_ixS, FL.v_len, FL.v_lnT, FL.v_lnD, FL.v_lnL, FL.v_lnS, FL.v_abs, FL.v_max, FL.v_min, FL.v_int, FL.v_intB, FL.v_tuple, FL.v_list, FL.v_sqT, FL.v_sqD, FL.v_sqL, FL.v_itT, FL.v_itL, FL.v_itS, FL.v_isN, FL.v_notN, FL.v_setL, FL.v_setD, FL.v_kS, FL.v_kI, FL.v_mp, FL.v_mpn, FL.v_pO, FL.v_tupG, FL.v_gsC, FL.v_gsN, FL.v_slD, FL.v_at0, FL.v_at1, FL.v_at2, FL.v_i30, FL.v_i31, FL.v_i32, FL.v_Mv, FL.v_mvV, FL.v_pr, FL.v_wpN, FL.v_wpC, FL.v_wsN, FL.v_wsV, FL.v_wsO, FL.v_bkN, FL.v_bkC, FL.v_bsN, FL.v_bsI, FL.v_sf, FL.v_yes, FL.v_tupA, FL.v_imm, FL.v_aftN, FL.v_aftC, FL.v_aftB, FL.v_aftR, FL.v_iOp, FL.v_iLen, FL.v_dnin, FL.v_dninI, FL.v_disp1, FL.v_dispI, FL.v_mut0, FL.v_mulB, FL.v_lrg1, FL.v_trg1, FL.v_lrg2, FL.v_trg2, FL.v_fT, FL.v_rS, FL.v_rO, FL.v_plI, FL.v_plL, FL.v_plD, FL.v_plT, FL.v_vrN, FL.v_vrC, FL.v_isT, FL.callD, Option.bind_some, Option.bind_none, List.getElem?_cons_zero, List.getElem?_cons_succ, List.getElem?_nil, List.set_cons_zero, List.set_cons_succ, List.length_cons, List.length_nil, List.filterMap_cons, List.filterMap_nil, decide_eq_true_eq, if_true, if_false, true_and, and_true, Nat.reduceAdd, Nat.reduceLeDiff, Nat.reduceEqDiff, ↓reduceIte, Bool.false_eq_true, FL.startE, FL.backs, List.map_cons, List.map_nil, List.cons_append, List.nil_append, Nat.reduceSub, List.replicate_succ, List.replicate_zero, List.nodup_nil, List.nodup_cons, List.not_mem_nil, not_false_eq_true, and_self, reduceCtorEq, Option.map_some, Option.map_none, lenT_tab, lenT_row]
      · exact e3)
    [.val (scriptT ns), .val (tS a b 0), ov none, ov none, ov none, ov none, ov none, ov none, ov none, ov none, .no, .no] ⟨_, none, none, none, none, none, none, none, none, rfl, h0.le (by omega)⟩
  simp only [show ov none = SL.no from rfl] at e2
  have q0 := least_one (n := 0) (by decide) (fun _ _ => 0)
  have r0 := repr_due (n := 0) (by decide) (G := fun _ _ => 0) fun _ _ z => absurd z (Nat.not_lt_zero _)
  have d0 : duD (fun _ _ => 0) 0 (leastO 0 fun _ _ => 0) = .tuple [.tuple [], .tuple []] := rfl
  have t0 : tabD 0 (fun _ _ => 0) = .tuple [] := rfl
  rw [d0, t0] at q0
  rw [d0, shown_none] at r0
  have q1 := least_one (n := 1) (by decide) (fun _ _ => 1)
  have r1 := repr_due (n := 1) (by decide) (G := fun _ _ => 1) fun _ _ _ _ => ⟨1, by decide, rfl⟩
  have d1 : duD (fun _ _ => 1) 1 (leastO 1 fun _ _ => 1) = .tuple [.tuple [.tuple [.int 1]], .tuple [.int 0]] := by
    rw [least_lone]
    rfl
  have t1 : tabD 1 (fun _ _ => 1) = .tuple [.tuple [.int 1]] := rfl
  rw [d1, t1] at q1
  rw [d1, shown_lone] at r1
  have l1 : (1 ≤ 16777216) = True := eq_true (by decide)
  refine ⟨[scriptT ns], ?_⟩
  rw [v_fn]
  unfold m_law
  unfold scriptT at e1 e2 ⊢
  simp -implicitDefEqProofs only [FL.v_seq, FL.v_thN, FL.v_thR, FL.v_thB, FL.v_thC, FL.v_ifS, FL.v_asg, FL.v_ret, FL.v_retN, FL.v_drop, FL.v_nx, FL.v_bk, FL.v_ct, FL.v_name, FL.v_pN, FL.v_pV, FL.v_var, FL.v_at, FL.v_trV, FL.v_trP, FL.v_wV, FL.v_wP, FL.v_C, FL.v_ER, FL.v_Fz, FL.v_fO, FL.v_fS, FL.v_fV, FL.v_fP, FL.v_fL, FL.v_vS, FL.v_vO, FL.v_op, FL.v_un, FL.v_bOf, FL.v_test, FL.v_and, FL.v_or, FL.v_not, FL.v_tru, FL.v_trB, FL.v_andV, FL.v_orV, FL.v_notV, FL.v_if, FL.v_chain, FL.v_arN, FL.v_arC, FL.v_faN, FL.v_faC, FL.v_tup, FL.v_lst, FL.v_tdN, FL.v_tdC, FL.v_tdI, FL.v_tdL, FL.toDs_imms, FL.imms_imms, FL.v_cb, FL.v_vsN, FL.v_vsC, FL.v_bm, FL.v_tyS, FL.v_tyL, FL.v_sl, FL.v_moN, FL.v_moS, FL.v_iOf, FL.v_call, FL.v_osO, FL.v_osS, FL.v_isI, FL.v_isL, FL.v_isD, FL.v_gN, FL.v_gO, FL.v_gS, FL.v_for, FL.v_lc, FL.v_sub, FL.v_sub2, FL.v_iAt, FL.v_iC, FL.v_aug, FL.v_par, FL.v_mut, FL.v_rng1, FL.v_rng2, FL.v_seqI, FL.v_enumE, FL.v_enumT, FL.v_enumL, FL.v_isi, FL.v_addI, FL.v_addS, FL.v_addT, FL.v_addL, FL.v_subI, FL.v_neg, FL.v_lt, FL.v_le, FL.v_gt, FL.v_ge, FL.v_eqI, FL.v_neI, FL.v_eqS, FL.v_neS, FL.v_ixT, FL.v_ixD, FL.v_ixL, FL.v_ixS, FL.v_len, FL.v_lnT, FL.v_lnD, FL.v_lnL, FL.v_lnS, FL.v_abs, FL.v_max, FL.v_min, FL.v_int, FL.v_intB, FL.v_tuple, FL.v_list, FL.v_sqT, FL.v_sqD, FL.v_sqL, FL.v_itT, FL.v_itL, FL.v_itS, FL.v_isN, FL.v_notN, FL.v_setL, FL.v_setD, FL.v_kS, FL.v_kI, FL.v_mp, FL.v_mpn, FL.v_pO, FL.v_tupG, FL.v_gsC, FL.v_gsN, FL.v_slD, FL.v_at0, FL.v_at1, FL.v_at2, FL.v_i30, FL.v_i31, FL.v_i32, FL.v_Mv, FL.v_mvV, FL.v_pr, FL.v_wpN, FL.v_wpC, FL.v_wsN, FL.v_wsV, FL.v_wsO, FL.v_bkN, FL.v_bkC, FL.v_bsN, FL.v_bsI, FL.v_sf, FL.v_yes, FL.v_tupA, FL.v_imm, FL.v_aftN, FL.v_aftC, FL.v_aftB, FL.v_aftR, FL.v_iOp, FL.v_iLen, FL.v_dnin, FL.v_dninI, FL.v_disp1, FL.v_dispI, FL.v_mut0, FL.v_mulB, FL.v_lrg1, FL.v_trg1, FL.v_lrg2, FL.v_trg2, FL.v_fT, FL.v_rS, FL.v_rO, FL.v_plI, FL.v_plL, FL.v_plD, FL.v_plT, FL.v_vrN, FL.v_vrC, FL.v_isT, FL.callD, Option.bind_some, Option.bind_none, List.getElem?_cons_zero, List.getElem?_cons_succ, List.getElem?_nil, List.set_cons_zero, List.set_cons_succ, List.length_cons, List.length_nil, List.filterMap_cons, List.filterMap_nil, decide_eq_true_eq, if_true, if_false, true_and, and_true, Nat.reduceAdd, Nat.reduceLeDiff, Nat.reduceEqDiff, ↓reduceIte, Bool.false_eq_true, FL.startE, FL.backs, List.map_cons, List.map_nil, List.cons_append, List.nil_append, Nat.reduceSub, List.replicate_succ, List.replicate_zero, List.nodup_nil, List.nodup_cons, List.not_mem_nil, not_false_eq_true, and_self, reduceCtorEq, Option.map_some, Option.map_none, lenT_tab, lenT_row, e1, q0, r0, q1, r1, l1, decide_true, Bool.not_true, List.length_map, hj, hr, e2]

end WK

open PySem PySem.W PyProof.Rows in
set_option maxRecDepth 100000 in
set_option maxHeartbeats 0 in
theorem PySem.Challenge.cw_mirrorkin_k82_least_tables_holds : PySem.Challenge.rw_mirrorkin_k82_least_tables.Holds := by
  w_on; o_law; k_head; (case hw => w_witness2)
  k_fill
  refine FL.walk_G (l := PySem.Challenge.rw_mirrorkin_k82_least_tables) (n := 63) (k := 13) (m := FL.mFn 12 WK.m_law) (x := "_law_script") rfl (by decide) rfl ⟨rfl, by decide, by decide⟩ (fun w h Y => PySem.W.kIn_of Y) ?F WK.law_true
  case F =>
    intro w mg fa h KX G hmg
    refine' WK.all_mk KX G hmg ?a0 ?l0 ?c0 ?k0 ?a1 ?l1 ?c1 ?k1 ?a2 ?l2 ?c2 ?k2 ?a3 ?l3 ?c3 ?k3 ?a4 ?l4 ?c4 ?k4 ?a5 ?l5 ?c5 ?k5 ?a6 ?l6 ?c6 ?k6 ?a7 ?l7 ?c7 ?k7 ?a8 ?l8 ?c8 ?k8 ?a9 ?l9 ?c9 ?k9 ?z_abs ?z_enumerate ?z_len ?z_list ?z_max ?z_min ?z_range ?z_repr ?z_tuple
    (case a0 => k_is)
    (case l0 => k_is)
    (case c0 => k_is)
    (case k0 => k_is)
    (case a1 => k_is)
    (case l1 => k_is)
    (case c1 => k_is)
    (case k1 => k_is)
    (case a2 => k_is)
    (case l2 => k_is)
    (case c2 => k_is)
    (case k2 => k_is)
    (case a3 => k_is)
    (case l3 => k_is)
    (case c3 => k_is)
    (case k3 => k_is)
    (case a4 => k_is)
    (case l4 => k_is)
    (case c4 => k_is)
    (case k4 => k_is)
    (case a5 => k_is)
    (case l5 => k_is)
    (case c5 => k_is)
    (case k5 => k_is)
    (case a6 => k_is)
    (case l6 => k_is)
    (case c6 => k_is)
    (case k6 => k_is)
    (case a7 => k_is)
    (case l7 => k_is)
    (case c7 => k_is)
    (case k7 => k_is)
    (case a8 => k_is)
    (case l8 => k_is)
    (case c8 => k_is)
    (case k8 => k_is)
    (case a9 => k_is)
    (case l9 => k_is)
    (case c9 => k_is)
    (case k9 => k_is)
    (case z_abs => k_is)
    (case z_enumerate => k_is)
    (case z_len => k_is)
    (case z_list => k_is)
    (case z_max => k_is)
    (case z_min => k_is)
    (case z_range => k_is)
    (case z_repr => k_is)
    (case z_tuple => k_is)

