import PyProof.Rows.All
import Wide.All
import OpenK.AllK
import Wide.FinOn
import HandS.ForMost
import HandS.Deep
import HandS.Wide
import HandS.Exc
import KE.KDictKeyed
import HandS.Small
import HandS.TupAny
import HandS.TupMul
import HandS.TupLe
import HandS.Conv
import HandS.IsInst
import HandS.SortInts
import KE.GoesEnum
import HandS.SortRule
import HandS.More
import KE.DataMinMax
import HandS.NoneIn
import HandS.ListItems
import KE.KDictList
import HandS.SetFor
import HandS.Strs
import KE.KIndexOf
import KE.DataCmp
import KE.SortData
import HandS.ExcOwn
import HandS.TryOnly
import KE.KExcIs
import PyProof.EqAt
import PyProof.EqKinds
import PyProof.TupleCall
import HandS.ExcField
import HandS.ExcIs
import HandS.Zip
import HandS.Rev
import KE.GoesMore
import KE.GoesZip
import KE.KRevSl
import KE.KDictZip
import HandS.RevTup
import HandS.WideBits
import HandS.Call
import KE.KDictDisplayH
import KE.KDictCopyH
import KE.KDictSum
import KE.LtSeq
import KE.KSortTup
import KE.KSortAsk
import PySem.Challenge.RW_mirrorkin_k08_least_polys
set_option Elab.async false
set_option linter.all false
set_option maxRecDepth 100000
set_option maxHeartbeats 4000000
namespace FL
open PySem L2
theorem seqT {K : PySem.W.Frag} {H H' : Hp} {a : Addr} {xs : List V} (e : Same H H') (h : SqT K H a xs) : SqT K H' a xs := by
  rcases h with (h | ⟨o, h⟩) | h
  · exact .inl (.inl (e _ _ h))
  · exact .inl (.inr ⟨o, e _ _ h⟩)
  · exact .inr h
mutual
theorem dpMono {K : PySem.W.Frag} {H H' : Hp} (e : Same H H') : ∀ (d : PyData) (v : V), Dp K H v d → Dp K H' v d
  | .none, _, h => by cases h; exact .non
  | .bool _, _, h => by cases h; exact .bl _
  | .int _, _, h => by cases h; exact .int _
  | .str _, _, h => by cases h; exact .str _
  | .list ds, _, h => by
    cases h with
    | lst hs ha => exact .lst (e.seq hs) (dpMonos e ds _ ha)
  | .tuple ds, _, h => by
    cases h with
    | tup hs ha => exact .tup (seqT e hs) (dpMonos e ds _ ha)
  | .dict _, _, h => by cases h
theorem dpMonos {K : PySem.W.Frag} {H H' : Hp} (e : Same H H') : ∀ (ds : List PyData) (vs : List V), DpAll K H vs ds → DpAll K H' vs ds
  | [], _, h => by cases h; exact .nil
  | d :: ds, _, h => by
    cases h with
    | cons h1 h2 => exact .cons (dpMono e d _ h1) (dpMonos e ds _ h2)
end
mutual
def hashN : NestedKey → Int
  | .none => reduceHash 0xFCA86420
  | .num i => hashInt i
  | .text _ => 0
  | .tup ks => reduceHash (Builtin.Tuple.tupleHashOf (hashsN ks))
def hashsN : List NestedKey → List Int
  | [] => []
  | k :: ks => hashN k :: hashsN ks
end
mutual
def noTx : NestedKey → Bool
  | .none => true
  | .num _ => true
  | .text _ => false
  | .tup ks => noTxs ks
def noTxs : List NestedKey → Bool
  | [] => true
  | k :: ks => noTx k && noTxs ks
end
mutual
theorem hashN_eq (w : World) : ∀ k : NestedKey, noTx k = true → k.hash w = hashN k
  | .none, _ => by rw [NestedKey.hash, hashN]
  | .num _, _ => by rw [NestedKey.hash, hashN]
  | .text _, h => by rw [noTx] at h; cases h
  | .tup ks, h => by rw [noTx] at h; rw [NestedKey.hash, hashN, hashsN_eq w ks h]
theorem hashsN_eq (w : World) : ∀ ks : List NestedKey, noTxs ks = true → NestedKey.hashes w ks = hashsN ks
  | [], _ => by rw [NestedKey.hashes, hashsN]
  | k :: ks, h => by
    rw [noTxs, Bool.and_eq_true] at h
    rw [NestedKey.hashes, hashsN, hashN_eq w k h.1, hashsN_eq w ks h.2]
end
def keyNB (k : NestedKey) : Bool := match k with
  | .tup ks => noTxs ks && decide (NestedKey.depth (.tup ks) ≤ 8)
  | _ => false
def entN (x : NestedKey × Addr × Value) : DictEntry := ⟨hashN x.1, .ref x.2.1, x.2.2⟩
def DitO (a : Addr) (ks : List (NestedKey × Addr × V)) : Heap → Prop := fun h => (a == sysModules) = false ∧ ks.length ≤ sizeLine ∧ ∃ xs : List (NestedKey × Addr × Value), Paired (fun (p : NestedKey × Addr × V) (q : NestedKey × Addr × Value) => p.1 = q.1 ∧ p.2.1 = q.2.1 ∧ RelV p.2.2 q.2.2) ks xs ∧
  ∃ (o : Obj) (es : Array DictEntry) (ep : Nat), h.get? a = some o ∧ o.ExactDict ∧ o.data = .dict es ep ∧ es.toList = xs.map entN ∧ (xs.map (·.1)).Nodup
abbrev DitA (K : PySem.W.Frag) (Hi : Hp) : List (NestedKey × Addr × V) → List (NestedKey × PyData) → Prop := Paired fun p q => p.1 = q.1 ∧ keyNB p.1 = true ∧ Dp K Hi (.ref p.2.1) (NestedKey.data p.1) ∧ Dp K Hi p.2.2 q.2
theorem DitA.mono {K : PySem.W.Frag} {Hi Hi' : Hp} (e : Same Hi Hi') {ks : List (NestedKey × Addr × V)} {ds : List (NestedKey × PyData)} (h : DitA K Hi ks ds) : DitA K Hi' ks ds := Paired.mapP h fun _ _ z => ⟨z.1, z.2.1, dpMono e _ _ z.2.2.1, dpMono e _ _ z.2.2.2⟩
inductive Tr where
  | imm (d : PyData)
  | lst (ts : List Tr)
  | dic (kvs : List (Key × PyData))
  | tpl (ds : List PyData)
  | obj (cn : Str) (φ : List (Str × PyData) → Prop) (ns : List Str) (ts : List Tr)
  | box (cn : Str) (ds : List (Str × PyData)) (f : Str) (t : Tr)
  | exc (cn : Str) (ds : List (Str × PyData))
  | dik (kvs : List (Key × PyData))
  | pr (t : Tr) (d : PyData)
  | dit (kvs : List (NestedKey × PyData))
mutual
def Tr.toD : Tr → Option PyData
  | .imm d => some d
  | .lst ts => (Tr.toDs ts).map PyData.list
  | .tpl ds => some (.tuple ds)
  | .dic _ => none
  | .obj _ _ _ _ => none
  | .box _ _ _ _ => none
  | .exc _ _ => none
  | .dik _ => none
  | .pr _ _ => none
  | .dit _ => none
def Tr.toDs : List Tr → Option (List PyData)
  | [] => some []
  | t :: ts => (Tr.toD t).bind fun d => (Tr.toDs ts).map (d :: ·)
end
def CnIs (K : PySem.W.Frag) (cn : Str) (C : Addr) : Prop := PySem.W.nsIn K mainGlobals cn = some (some (.ref C))
def KvA (K : PySem.W.Frag) (Hi : Hp) (fs : List (Str × V)) (ds : List (Str × PyData)) : Prop := ∀ n d, ds.lookup n = some d → ∃ v, fs.lookup n = some v ∧ Dp K Hi v d
theorem KvA.mono {K : PySem.W.Frag} {Hi Hi' : Hp} {fs : List (Str × V)} {ds : List (Str × PyData)} (e : Same Hi Hi') (h : KvA K Hi fs ds) : KvA K Hi' fs ds := fun n d q => let ⟨v, h1, h2⟩ := h n d q; ⟨v, h1, dpMono e _ _ h2⟩
def ExO (a C : Addr) (d : Option Addr) : Heap → Prop := fun h => ∃ (oe : Obj) (vs : Array Value), h.get? a = some oe ∧ oe.cls = .ref C ∧ oe.dict = d ∧ oe.data = .fields vs
def XdA (K : PySem.W.Frag) (Hi : Hp) (d : Option Addr) (ds : List (Str × PyData)) : Prop := (d = none ∧ ds = []) ∨ ∃ dd fs, d = some dd ∧ Hi dd = some (.xd fs) ∧ KvA K Hi fs ds
theorem XdA.mono {K : PySem.W.Frag} {Hi Hi' : Hp} {d : Option Addr} {ds : List (Str × PyData)} (e : Same Hi Hi') (h : XdA K Hi d ds) : XdA K Hi' d ds :=
  h.imp id fun ⟨dd, fs, h1, h2, h3⟩ => ⟨dd, fs, h1, e _ _ h2, h3.mono e⟩
mutual
inductive RepT (K : PySem.W.Frag) (Hi H : Hp) : V → Tr → List Addr → Prop
  | imm {v : V} {d : PyData} : Dp K Hi v d → RepT K Hi H v (.imm d) []
  | lst {a : Addr} {vs : List V} {ts : List Tr} {F : List Addr} : H a = some (.lst vs) → Hi a = none → RepTs K Hi H vs ts F → a ∉ F → RepT K Hi H (.ref a) (.lst ts) (a :: F)
  | dic {a : Addr} {kvs : List (Key × V)} {ds : List (Key × PyData)} : H a = some (.dK kvs) → Hi a = none → Paired (fun (p : Key × V) (q : Key × PyData) => p.1 = q.1 ∧ Dp K Hi p.2 q.2) kvs ds → RepT K Hi H (.ref a) (.dic ds) [a]
  | tpl {a : Addr} {o : Obj} {vs : List V} {ds : List PyData} : Hi a = some (.frz o (.tup vs)) → o.dict = none → DpAll K Hi vs ds → RepT K Hi H (.ref a) (.tpl ds) []
  | obj {a C dx : Addr} {fs : List (Str × V)} {ds : List (Str × PyData)} {ws : List V} {F : List Addr} {cn : Str} {φ : List (Str × PyData) → Prop} {ns : List Str} {ts : List Tr} : CnIs K cn C → H a = some (.ins C dx fs) → H dx = some (.own a) → Hi a = none → Hi dx = none → a ≠ dx → φ ds → KvA K Hi fs ds → (∀ n, ds.lookup n = none → n ∉ ns → fs.lookup n = none) → fs.length ≤ ds.length + ns.length → RepTs K Hi H ws ts F → (∀ (j : Nat) n, ns[j]? = some n → ∃ w, ws[j]? = some w ∧ fs.lookup n = some w) → a ∉ F → dx ∉ F → RepT K Hi H (.ref a) (.obj cn φ ns ts) (a :: dx :: F)
  | box {a C dx : Addr} {fs : List (Str × V)} {ds : List (Str × PyData)} {w : V} {F : List Addr} {cn f : Str} {t : Tr} : CnIs K cn C → Hi a = some (.ins C dx fs) → Hi dx = some (.own a) → KvA K Hi fs ds → (∀ n, ds.lookup n = none → n ≠ f → fs.lookup n = none) → fs.lookup f = some w → RepT K Hi H w t F → RepT K Hi H (.ref a) (.box cn ds f t) F
  | exc {a C : Addr} {d : Option Addr} {ds : List (Str × PyData)} {cn : Str} : CnIs K cn C → Hi a = some (.ext (ExO a C d)) → XdA K Hi d ds → RepT K Hi H (.ref a) (.exc cn ds) []
  | dik {a : Addr} {o : Obj} {kvs : List (Key × V)} {ds : List (Key × PyData)} : Hi a = some (.frz o (.dK kvs)) → Paired (fun (p : Key × V) (q : Key × PyData) => p.1 = q.1 ∧ Dp K Hi p.2 q.2) kvs ds → RepT K Hi H (.ref a) (.dik ds) []
  | pr {a : Addr} {v1 v2 : V} {t : Tr} {d : PyData} {F : List Addr} : SqT K Hi a [v1, v2] → RepT K Hi H v1 t F → Dp K Hi v2 d → RepT K Hi H (.ref a) (.pr t d) F
  | dit {a : Addr} {kvs : List (NestedKey × Addr × V)} {ds : List (NestedKey × PyData)} : H a = some (.ext (DitO a kvs)) → Hi a = none → DitA K Hi kvs ds → RepT K Hi H (.ref a) (.dit ds) [a]
inductive RepTs (K : PySem.W.Frag) (Hi H : Hp) : List V → List Tr → List Addr → Prop
  | nil : RepTs K Hi H [] [] []
  | cons {v : V} {vs : List V} {t : Tr} {ts : List Tr} {F G : List Addr} : RepT K Hi H v t F → RepTs K Hi H vs ts G → (∀ a ∈ F, a ∉ G) → RepTs K Hi H (v :: vs) (t :: ts) (F ++ G)
end
section
variable {K : PySem.W.Frag} {Hi H Hi' H' : Hp}
mutual
theorem RepT.own : ∀ (t : Tr) (v : V) (F : List Addr), RepT K Hi H v t F → ∀ a ∈ F, Hi a = none ∧ ∃ o, H a = some o
  | .imm _, _, _, h, a, ha => by cases h; cases ha
  | .tpl _, _, _, h, a, ha => by cases h; cases ha
  | .lst ts, _, _, h, b, hb => by
    cases h with
    | lst h1 h2 h3 h4 =>
      rcases List.mem_cons.mp hb with rfl | hb
      · exact ⟨h2, _, h1⟩
      · exact RepTs.own ts _ _ h3 b hb
  | .dic _, _, _, h, b, hb => by
    cases h with
    | dic h1 h2 _ =>
      rcases List.mem_cons.mp hb with rfl | hb
      · exact ⟨h2, _, h1⟩
      · cases hb
  | .obj _ _ _ ts, _, _, h, b, hb => by
    cases h with
    | obj h1 h2 h3 h4 h5 h6 h7 h8 h9 h10 h11 h12 h13 h14 =>
      rcases List.mem_cons.mp hb with rfl | hb
      · exact ⟨h4, _, h2⟩
      · rcases List.mem_cons.mp hb with rfl | hb
        · exact ⟨h5, _, h3⟩
        · exact RepTs.own ts _ _ h11 b hb
  | .box _ _ _ t, _, _, h, b, hb => by
    cases h with
    | box h1 h2 h3 h4 h5 h6 h7 => exact RepT.own t _ _ h7 b hb
  | .exc _ _, _, _, h, a, ha => by cases h; cases ha
  | .dik _, _, _, h, a, ha => by cases h; cases ha
  | .pr t _, _, _, h, b, hb => by
    cases h with
    | pr h1 h2 h3 => exact RepT.own t _ _ h2 b hb
  | .dit _, _, _, h, b, hb => by
    cases h with
    | dit h1 h2 _ =>
      rcases List.mem_cons.mp hb with rfl | hb
      · exact ⟨h2, _, h1⟩
      · cases hb
theorem RepTs.own : ∀ (ts : List Tr) (vs : List V) (F : List Addr), RepTs K Hi H vs ts F → ∀ a ∈ F, Hi a = none ∧ ∃ o, H a = some o
  | [], _, _, h, a, ha => by cases h; cases ha
  | t :: ts, _, _, h, a, ha => by
    cases h with
    | cons h1 h2 _ =>
      rcases List.mem_append.mp ha with ha | ha
      · exact RepT.own t _ _ h1 a ha
      · exact RepTs.own ts _ _ h2 a ha
end
mutual
theorem RepT.frame (e : Same Hi Hi') : ∀ (t : Tr) (v : V) (F : List Addr), RepT K Hi H v t F → (∀ a ∈ F, H' a = H a) → (∀ a ∈ F, Hi' a = none) → RepT K Hi' H' v t F
  | .imm d, _, _, h, _, _ => by
    cases h with
    | imm h => exact .imm (dpMono e d _ h)
  | .lst ts, _, _, h, k1, k2 => by
    cases h with
    | lst h1 h2 h3 h4 =>
      exact .lst ((k1 _ List.mem_cons_self).trans h1) (k2 _ List.mem_cons_self) (RepTs.frame e ts _ _ h3 (fun a ha => k1 a (List.mem_cons_of_mem _ ha)) (fun a ha => k2 a (List.mem_cons_of_mem _ ha))) h4
  | .tpl ds, _, _, h, _, _ => by
    cases h with
    | tpl h1 h2 h3 => exact .tpl (e _ _ h1) h2 (dpMonos e ds _ h3)
  | .dic _, _, _, h, k1, k2 => by
    cases h with
    | dic h1 h2 h3 => exact .dic ((k1 _ List.mem_cons_self).trans h1) (k2 _ List.mem_cons_self) (Paired.mapP h3 fun p q z => ⟨z.1, dpMono e _ _ z.2⟩)
  | .obj _ _ _ ts, _, _, h, k1, k2 => by
    cases h with
    | obj h1 h2 h3 h4 h5 h6 h7 h8 h9 h10 h11 h12 h13 h14 =>
      exact .obj h1 ((k1 _ List.mem_cons_self).trans h2) ((k1 _ (List.mem_cons_of_mem _ List.mem_cons_self)).trans h3) (k2 _ List.mem_cons_self) (k2 _ (List.mem_cons_of_mem _ List.mem_cons_self)) h6 h7 (h8.mono e) h9 h10
        (RepTs.frame e ts _ _ h11 (fun a ha => k1 a (List.mem_cons_of_mem _ (List.mem_cons_of_mem _ ha))) (fun a ha => k2 a (List.mem_cons_of_mem _ (List.mem_cons_of_mem _ ha)))) h12 h13 h14
  | .box _ _ _ t, _, _, h, k1, k2 => by
    cases h with
    | box h1 h2 h3 h4 h5 h6 h7 => exact .box h1 (e _ _ h2) (e _ _ h3) (h4.mono e) h5 h6 (RepT.frame e t _ _ h7 k1 k2)
  | .exc _ _, _, _, h, _, _ => by
    cases h with
    | exc h1 h2 h3 => exact .exc h1 (e _ _ h2) (h3.mono e)
  | .dik _, _, _, h, _, _ => by
    cases h with
    | dik h1 h3 => exact .dik (e _ _ h1) (Paired.mapP h3 fun p q z => ⟨z.1, dpMono e _ _ z.2⟩)
  | .pr t _, _, _, h, k1, k2 => by
    cases h with
    | pr h1 h2 h3 => exact .pr (seqT e h1) (RepT.frame e t _ _ h2 k1 k2) (dpMono e _ _ h3)
  | .dit _, _, _, h, k1, k2 => by
    cases h with
    | dit h1 h2 h3 => exact .dit ((k1 _ List.mem_cons_self).trans h1) (k2 _ List.mem_cons_self) (DitA.mono e h3)
theorem RepTs.frame (e : Same Hi Hi') : ∀ (ts : List Tr) (vs : List V) (F : List Addr), RepTs K Hi H vs ts F → (∀ a ∈ F, H' a = H a) → (∀ a ∈ F, Hi' a = none) → RepTs K Hi' H' vs ts F
  | [], _, _, h, _, _ => by cases h; exact .nil
  | t :: ts, _, _, h, k1, k2 => by
    cases h with
    | cons h1 h2 h3 =>
      exact .cons (RepT.frame e t _ _ h1 (fun a ha => k1 a (List.mem_append_left _ ha)) (fun a ha => k2 a (List.mem_append_left _ ha)))
        (RepTs.frame e ts _ _ h2 (fun a ha => k1 a (List.mem_append_right _ ha)) (fun a ha => k2 a (List.mem_append_right _ ha))) h3
end
mutual
theorem RepT.froz (e : Same Hi Hi') : ∀ (t : Tr) (v : V) (F : List Addr) (d : PyData), RepT K Hi H v t F → (∀ a ∈ F, Hi' a = H a) → t.toD = some d → Dp K Hi' v d
  | .imm d, _, _, d', h, _, q => by
    cases h with
    | imm h =>
      rw [Tr.toD] at q
      cases q
      exact dpMono e d _ h
  | .lst ts, _, _, d', h, k1, q => by
    cases h with
    | lst h1 h2 h3 h4 =>
      rw [Tr.toD, Option.map_eq_some_iff] at q
      obtain ⟨ds, q1, rfl⟩ := q
      exact .lst (.inl (.inl ((k1 _ List.mem_cons_self).trans h1))) (RepTs.froz e ts _ _ ds h3 (fun a ha => k1 a (List.mem_cons_of_mem _ ha)) q1)
  | .tpl ds, _, _, d', h, _, q => by
    cases h with
    | tpl h1 h2 h3 =>
      rw [Tr.toD] at q
      cases q
      exact .tup (.inl (.inr ⟨_, e _ _ h1⟩)) (dpMonos e ds _ h3)
  | .dic _, _, _, _, _, _, q => by rw [Tr.toD] at q; cases q
  | .obj _ _ _ _, _, _, _, _, _, q => by rw [Tr.toD] at q; cases q
  | .box _ _ _ _, _, _, _, _, _, q => by rw [Tr.toD] at q; cases q
  | .exc _ _, _, _, _, _, _, q => by rw [Tr.toD] at q; cases q
  | .dik _, _, _, _, _, _, q => by rw [Tr.toD] at q; cases q
  | .pr _ _, _, _, _, _, _, q => by rw [Tr.toD] at q; cases q
  | .dit _, _, _, _, _, _, q => by rw [Tr.toD] at q; cases q
theorem RepTs.froz (e : Same Hi Hi') : ∀ (ts : List Tr) (vs : List V) (F : List Addr) (ds : List PyData), RepTs K Hi H vs ts F → (∀ a ∈ F, Hi' a = H a) → Tr.toDs ts = some ds → DpAll K Hi' vs ds
  | [], _, _, _, h, _, q => by
    cases h
    rw [Tr.toDs] at q
    cases q
    exact .nil
  | t :: ts, _, _, _, h, k1, q => by
    cases h with
    | cons h1 h2 h3 =>
      rw [Tr.toDs, Option.bind_eq_some_iff] at q
      obtain ⟨d, q1, q2⟩ := q
      rw [Option.map_eq_some_iff] at q2
      obtain ⟨ds, q2, rfl⟩ := q2
      exact .cons (RepT.froz e t _ _ d h1 (fun a ha => k1 a (List.mem_append_left _ ha)) q1) (RepTs.froz e ts _ _ ds h2 (fun a ha => k1 a (List.mem_append_right _ ha)) q2)
end
theorem RepTs.imms : ∀ {ds : List PyData} {vs : List V}, DpAll K Hi vs ds → RepTs K Hi H vs (ds.map Tr.imm) []
  | [], _, h => by cases h; exact .nil
  | d :: ds, _, h => by
    cases h with
    | cons h1 h2 => exact RepTs.cons (F := []) (G := []) (.imm h1) (RepTs.imms h2) (fun a z => nomatch z)
theorem RepTs.length : ∀ {ts : List Tr} {vs : List V} {F : List Addr}, RepTs K Hi H vs ts F → vs.length = ts.length
  | [], _, _, h => by cases h; rfl
  | t :: ts, _, _, h => by
    cases h with
    | cons h1 h2 h3 =>
      have := RepTs.length h2
      simp [this]
end
inductive SL where
  | no
  | val (t : Tr)
  | par (t : Tr)
abbrev En := List SL
def SL.tree : SL → Option Tr
  | .no => none
  | .val t => some t
  | .par t => some t
def SL.with : SL → Tr → SL
  | .no, _ => .no
  | .val _, t => .val t
  | .par _, t => .par t
def at? (E : En) (i : Nat) : Option Tr := E[i]?.bind SL.tree
def InE (Fs : Nat → List Addr) : Addr → Prop := fun a => ∃ i, a ∈ Fs i
structure RepE (K : PySem.W.Frag) (A : List V) (Hi H : Hp) (σ : L2.St) (E : En) (Fs : Nat → List Addr) : Prop where
  sub : Same Hi H
  len : E.length = σ.length
  val : ∀ (i : Nat) t, at? E i = some t → ∃ v, σ[i]? = some (some v) ∧ RepT K Hi H v t (Fs i)
  par : ∀ (i : Nat) t, E[i]? = some (.par t) → ∃ v, σ[i]? = some (some v) ∧ A[i]? = some v
  no : ∀ i, at? E i = none → Fs i = []
  dis : ∀ i j a, a ∈ Fs i → a ∈ Fs j → i = j
structure Step (Hi H : Hp) (F : Addr → Prop) (Hi' H' : Hp) (F' : Addr → Prop) : Prop where
  ex : Same Hi Hi'
  fr : ∀ a o, H a = some o → ¬ F a → H' a = some o
  nw : ∀ a, F' a → F a ∨ H a = none
  nh : ∀ a o, Hi' a = some o → (∃ o', Hi a = some o') ∨ F a ∨ H a = none
section
variable {K : PySem.W.Frag} {A : List V} {Hi H Hi' H' Hi1 H1 Hi2 H2 : Hp} {F F' F1 F2 : Addr → Prop} {σ : L2.St} {E : En} {Fs : Nat → List Addr}
theorem Step.refl (Hi H : Hp) (F : Addr → Prop) : Step Hi H F Hi H F := ⟨Same.refl _, fun _ _ h _ => h, fun _ h => .inl h, fun _ o h => .inl ⟨o, h⟩⟩
theorem Step.trans (a : Step Hi H F Hi1 H1 F1) (b : Step Hi1 H1 F1 Hi2 H2 F2) : Step Hi H F Hi2 H2 F2 := by
  have k1 : ∀ x, F1 x ∨ H1 x = none → F x ∨ H x = none := fun x h => by
    rcases h with h | h
    · exact a.nw x h
    · cases q : H x with
      | none => exact .inr rfl
      | some o =>
        by_cases f : F x
        · exact .inl f
        · rw [a.fr x o q f] at h
          cases h
  refine ⟨a.ex.trans b.ex, fun x o h f => b.fr x o (a.fr x o h f) fun f1 => ?_, fun x h => k1 x (b.nw x h), fun x o h => ?_⟩
  · rcases a.nw x f1 with z | z
    · exact f z
    · rw [h] at z; cases z
  · rcases b.nh x o h with ⟨o', h'⟩ | h'
    · exact a.nh x o' h'
    · exact .inr (k1 x h')
theorem Step.weak (a : Step Hi H F Hi' H' F') (h : ∀ x, F2 x → F' x) : Step Hi H F Hi' H' F2 := ⟨a.ex, a.fr, fun x z => a.nw x (h x z), a.nh⟩
theorem Step.more (a : Step Hi H F Hi' H' F') (h : ∀ x, F x → F2 x) : Step Hi H F2 Hi' H' F' := ⟨a.ex, fun x o e z => a.fr x o e fun y => z (h x y), fun x z => (a.nw x z).imp (h x) id, fun x o e => (a.nh x o e).imp id (Or.imp (h x) id)⟩
theorem Step.keep {v : V} {t : Tr} {G : List Addr} (a : Step Hi H F Hi' H' F') (h : RepT K Hi H v t G) (d : ∀ x ∈ G, ¬ F x) : RepT K Hi' H' v t G :=
  h.frame a.ex _ _ _ (fun x hx => by
    obtain ⟨_, o, e⟩ := h.own _ _ _ x hx
    rw [a.fr x o e (d x hx), e]) fun x hx => by
    obtain ⟨e0, o, e⟩ := h.own _ _ _ x hx
    cases q : Hi' x with
    | none => rfl
    | some u =>
      rcases a.nh x u q with ⟨o', z⟩ | z | z
      · rw [e0] at z; cases z
      · exact absurd z (d x hx)
      · rw [e] at z; cases z
theorem Step.keeps {vs : List V} {ts : List Tr} {G : List Addr} (a : Step Hi H F Hi' H' F') (h : RepTs K Hi H vs ts G) (d : ∀ x ∈ G, ¬ F x) : RepTs K Hi' H' vs ts G :=
  h.frame a.ex _ _ _ (fun x hx => by
    obtain ⟨_, o, e⟩ := h.own _ _ _ x hx
    rw [a.fr x o e (d x hx), e]) fun x hx => by
    obtain ⟨e0, o, e⟩ := h.own _ _ _ x hx
    cases q : Hi' x with
    | none => rfl
    | some u =>
      rcases a.nh x u q with ⟨o', z⟩ | z | z
      · rw [e0] at z; cases z
      · exact absurd z (d x hx)
      · rw [e] at z; cases z
theorem Step.apart {G : List Addr} (a : Step Hi H F Hi' H' F') (h : ∀ x ∈ G, ∃ o, H x = some o) (d : ∀ x ∈ G, ¬ F x) : ∀ x ∈ G, ¬ F' x := fun x hx f => by
  rcases a.nw x f with z | z
  · exact d x hx z
  · obtain ⟨o, e⟩ := h x hx
    rw [e] at z; cases z
theorem RepE.own (h : RepE K A Hi H σ E Fs) {a : Addr} (ha : InE Fs a) : Hi a = none ∧ ∃ o, H a = some o := by
  obtain ⟨i, hi⟩ := ha
  cases q : at? E i with
  | none => rw [h.no i q] at hi; cases hi
  | some t =>
    obtain ⟨v, _, r⟩ := h.val i t q
    exact r.own _ _ _ a hi
theorem RepE.keep (h : RepE K A Hi H σ E Fs) (s : Step Hi H F Hi' H' F') (sub : Same Hi' H') (d : ∀ x, InE Fs x → ¬ F x) : RepE K A Hi' H' σ E Fs :=
  ⟨sub, h.len, fun i t q => let ⟨v, e, r⟩ := h.val i t q; ⟨v, e, s.keep r fun x hx => d x ⟨i, hx⟩⟩, h.par, h.no, h.dis⟩
end
end FL
namespace FL
open PySem L2
inductive Rf where
  | slot (i : Nat)
  | own (t : Tr)
def Tr.plain : Tr → Tr
  | .tpl ds => .imm (.tuple ds)
  | t => t
def viewR (E : En) : Rf → Option Tr
  | .slot i => at? E i
  | .own t => some t
def view (E : En) (o : Rf) : Option Tr := (viewR E o).map Tr.plain
theorem RepT.plain {K : PySem.W.Frag} {Hi H : Hp} {v : V} {t : Tr} {G : List Addr} (h : RepT K Hi H v t G) : RepT K Hi H v t.plain G := by
  cases h with
  | tpl h1 h2 h3 => exact .imm (.tup (.inl (.inr ⟨_, h1⟩)) h3)
  | imm h => exact .imm h
  | lst h1 h2 h3 h4 => exact .lst h1 h2 h3 h4
  | dic h1 h2 h3 => exact .dic h1 h2 h3
  | obj h1 h2 h3 h4 h5 h6 h7 h8 h9 h10 h11 h12 h13 h14 => exact .obj h1 h2 h3 h4 h5 h6 h7 h8 h9 h10 h11 h12 h13 h14
  | box h1 h2 h3 h4 h5 h6 h7 => exact .box h1 h2 h3 h4 h5 h6 h7
  | exc h1 h2 h3 => exact .exc h1 h2 h3
  | dik h1 h3 => exact .dik h1 h3
  | pr h1 h2 h3 => exact .pr h1 h2 h3
  | dit h1 h2 h3 => exact .dit h1 h2 h3
abbrev MR := En → Option (Rf × En)
abbrev MF := En → Option (Tr × En)
abbrev MT := En → Option (Bool × En)
abbrev MA := En → Option (List Rf × En)
abbrev MFs := En → Option (List Tr × En)
abbrev MI := En → Option (List PyData × En)
section
variable (K : PySem.W.Frag)
inductive RepR (Hi H : Hp) (σ : L2.St) : V → Rf → List Addr → Prop
  | slot {i : Nat} {v : V} : σ[i]? = some (some v) → RepR Hi H σ v (.slot i) []
  | own {v : V} {t : Tr} {G : List Addr} : RepT K Hi H v t G → RepR Hi H σ v (.own t) G
inductive RepRs (Hi H : Hp) (σ : L2.St) : List V → List Rf → List Addr → Prop
  | nil : RepRs Hi H σ [] [] []
  | cons {v : V} {vs : List V} {o : Rf} {os : List Rf} {F G : List Addr} : RepR K Hi H σ v o F → RepRs Hi H σ vs os G → (∀ a ∈ F, a ∉ G) → RepRs Hi H σ (v :: vs) (o :: os) (F ++ G)
def ER (te : TE) (m : MR) : Prop := ∀ E o E', m E = some (o, E') → ∀ A σ Hi H Fs, RepE K A Hi H σ E Fs → ∀ Q : VK,
  (∀ v Hi' H' Fs' G, RepR K Hi' H' σ v o G → RepE K A Hi' H' σ E' Fs' → (∀ a ∈ G, ¬ InE Fs' a) → Step Hi H (InE Fs) Hi' H' (fun a => InE Fs' a ∨ a ∈ G) → Q v H') → te σ H Q
def FR (te : TE) (m : MF) : Prop := ∀ E t E', m E = some (t, E') → ∀ A σ Hi H Fs, RepE K A Hi H σ E Fs → ∀ Q : VK,
  (∀ v Hi' H' Fs' G, RepT K Hi' H' v t G → RepE K A Hi' H' σ E' Fs' → (∀ a ∈ G, ¬ InE Fs' a) → Step Hi H (InE Fs) Hi' H' (fun a => InE Fs' a ∨ a ∈ G) → Q v H') → te σ H Q
def TR (tt : TT) (m : MT) : Prop := ∀ E b E', m E = some (b, E') → ∀ A σ Hi H Fs, RepE K A Hi H σ E Fs → ∀ Q : Bool → Hp → Prop,
  (∀ Hi' H' Fs', RepE K A Hi' H' σ E' Fs' → Step Hi H (InE Fs) Hi' H' (InE Fs') → Q b H') → tt σ H Q
def AR (ta : TA) (m : MA) : Prop := ∀ E os E', m E = some (os, E') → ∀ A σ Hi H Fs, RepE K A Hi H σ E Fs → ∀ Q : List V → Hp → Prop,
  (∀ vs Hi' H' Fs' G, RepRs K Hi' H' σ vs os G → RepE K A Hi' H' σ E' Fs' → (∀ a ∈ G, ¬ InE Fs' a) → Step Hi H (InE Fs) Hi' H' (fun a => InE Fs' a ∨ a ∈ G) → Q vs H') → ta σ H Q
def FA (ta : TA) (m : MFs) : Prop := ∀ E ts E', m E = some (ts, E') → ∀ A σ Hi H Fs, RepE K A Hi H σ E Fs → ∀ Q : List V → Hp → Prop,
  (∀ vs Hi' H' Fs' G, RepTs K Hi' H' vs ts G → RepE K A Hi' H' σ E' Fs' → (∀ a ∈ G, ¬ InE Fs' a) → Step Hi H (InE Fs) Hi' H' (fun a => InE Fs' a ∨ a ∈ G) → Q vs H') → ta σ H Q
end
section
variable {K : PySem.W.Frag} {A : List V} {Hi H Hi' H' : Hp} {σ : L2.St} {E : En} {Fs : Nat → List Addr}
theorem RepR.ownG {v : V} {o : Rf} {G : List Addr} (h : RepR K Hi H σ v o G) : ∀ a ∈ G, Hi a = none ∧ ∃ o, H a = some o := by
  cases h with
  | slot h => intro a z; cases z
  | own h => exact h.own _ _ _
theorem RepRs.ownG : ∀ {vs : List V} {os : List Rf} {G : List Addr}, RepRs K Hi H σ vs os G → ∀ a ∈ G, Hi a = none ∧ ∃ o, H a = some o
  | _, _, _, .nil, a, z => nomatch z
  | _, _, _, .cons h t _, a, z => (List.mem_append.mp z).elim (h.ownG a) (RepRs.ownG t a)
theorem RepTs.ownG {vs : List V} {ts : List Tr} {G : List Addr} (h : RepTs K Hi H vs ts G) : ∀ a ∈ G, Hi a = none ∧ ∃ o, H a = some o := h.own _ _ _
theorem RepT.ownG {v : V} {t : Tr} {G : List Addr} (h : RepT K Hi H v t G) : ∀ a ∈ G, Hi a = none ∧ ∃ o, H a = some o := h.own _ _ _
theorem Step.keepR {v : V} {o : Rf} {G : List Addr} {F F' : Addr → Prop} (a : Step Hi H F Hi' H' F') (h : RepR K Hi H σ v o G) (d : ∀ x ∈ G, ¬ F x) : RepR K Hi' H' σ v o G := by
  cases h with
  | slot h => exact .slot h
  | own h => exact .own (a.keep h d)
theorem RepE.view (h : RepE K A Hi H σ E Fs) {v : V} {o : Rf} {t : Tr} {G : List Addr} (r : RepR K Hi H σ v o G) (q : view E o = some t) : ∃ G, RepT K Hi H v t G := by
  obtain ⟨t0, q0, rfl⟩ := Option.map_eq_some_iff.mp q
  cases r with
  | slot e' =>
    obtain ⟨u, e, rt⟩ := h.val _ t0 q0
    rw [e'] at e
    cases e
    exact ⟨_, rt.plain⟩
  | own r =>
    have q' : some _ = some t0 := q0
    cases q'
    exact ⟨_, r.plain⟩
theorem looks {v : V} {t : Tr} {G : List Addr} {d : PyData} (s : Same Hi H) (r : RepT K Hi H v t G) (qd : t.toD = some d) : Dp K H v d := r.froz s _ _ _ d (fun _ _ => rfl) qd
structure Grow (Hi H Hi' H' : Hp) (W : List Addr) : Prop where
  ex : Same Hi Hi'
  all : Same H H'
  sub : Same Hi' H'
  new : ∀ a ∈ W, H a = none
  nh : ∀ a o, Hi' a = some o → (∃ o', Hi a = some o') ∨ H a = none
theorem Grow.refl (h : Same Hi H) : Grow Hi H Hi H [] := ⟨Same.refl _, Same.refl _, h, fun _ z => (nomatch z), fun _ o e => .inl ⟨o, e⟩⟩
theorem Grow.step {W : List Addr} (g : Grow Hi H Hi' H' W) (F : Addr → Prop) : Step Hi H F Hi' H' (fun a => F a ∨ a ∈ W) :=
  ⟨g.ex, fun a o e _ => g.all a o e, fun a z => z.imp id (g.new a), fun a o e => (g.nh a o e).imp id .inr⟩
theorem RepE.grow {W : List Addr} (h : RepE K A Hi H σ E Fs) (g : Grow Hi H Hi' H' W) : RepE K A Hi' H' σ E Fs := by
  have s0 : Step Hi H (fun _ => False) Hi' H' (fun a => False ∨ a ∈ W) := g.step _
  exact h.keep s0 g.sub fun _ _ z => z
theorem RepE.fresh {W : List Addr} (h : RepE K A Hi H σ E Fs) (g : Grow Hi H Hi' H' W) : ∀ a ∈ W, ¬ InE Fs a := fun a ha hf => by
  obtain ⟨_, o, e⟩ := h.own hf
  rw [g.new a ha] at e
  cases e
theorem same_new {p : Addr} {o : HO} (n : H p = none) : Same H (upd H p o) := fun b x e => by
  rw [upd_ne (ne_of_none e n)]
  exact e
theorem free_of (s : Same Hi H) {p : Addr} (n : H p = none) : Hi p = none := Same.free s n
theorem same_upd2 (s : Same Hi H) {p : Addr} {o : HO} : Same (upd Hi p o) (upd H p o) := fun b x e => by
  by_cases hb : b = p
  · subst hb; rw [upd_same] at e ⊢; exact e
  · rw [upd_ne hb] at e ⊢; exact s b x e
theorem Grow.imm (s : Same Hi H) {p : Addr} {o : HO} (n : H p = none) : Grow Hi H (upd Hi p o) (upd H p o) [] :=
  ⟨same_new (free_of s n), same_new n, same_upd2 s, fun _ z => (nomatch z), fun a u e => by
    by_cases hb : a = p
    · subst hb; exact .inr n
    · rw [upd_ne hb] at e; exact .inl ⟨u, e⟩⟩
theorem Grow.own (s : Same Hi H) {p : Addr} {o : HO} (n : H p = none) : Grow Hi H Hi (upd H p o) [p] :=
  ⟨Same.refl _, same_new n, s.trans (same_new n), fun a z => by
    have e : a = p := by simpa using z
    rw [e]
    exact n, fun a u e => .inl ⟨u, e⟩⟩
def OpT (K : PySem.W.Frag) (r : R2) (f : Tr → Tr → Option Tr) : Prop := ∀ t u w, f t u = some w → ∀ Hi H x y F G, Same Hi H → RepT K Hi H x t F → RepT K Hi H y u G → ∀ Q : VK,
  (∀ v Hi' H' W, RepT K Hi' H' v w W → Grow Hi H Hi' H' W → Q v H') → r x y H Q
def UnT (K : PySem.W.Frag) (r : V → Hp → VK → Prop) (f : Tr → Option Tr) : Prop := ∀ t w, f t = some w → ∀ Hi H x F, Same Hi H → RepT K Hi H x t F → ∀ Q : VK,
  (∀ v Hi' H' W, RepT K Hi' H' v w W → Grow Hi H Hi' H' W → Q v H') → r x H Q
inductive RepVs (K : PySem.W.Frag) (Hi H : Hp) : List V → List Tr → Prop
  | nil : RepVs K Hi H [] []
  | cons {v : V} {vs : List V} {t : Tr} {ts : List Tr} {F : List Addr} : RepT K Hi H v t F → RepVs K Hi H vs ts → RepVs K Hi H (v :: vs) (t :: ts)
def CallT (K : PySem.W.Frag) (r : List V → Hp → VK → Prop) (f : List Tr → Option Tr) : Prop := ∀ ts w, f ts = some w → ∀ Hi H xs, Same Hi H → RepVs K Hi H xs ts → ∀ Q : VK,
  (∀ v Hi' H' W, RepT K Hi' H' v w W → Grow Hi H Hi' H' W → Q v H') → r xs H Q
def viewsR (E : En) : List Rf → Option (List Tr)
  | [] => some []
  | o :: os => (viewR E o).bind fun t => (viewsR E os).map (t :: ·)
def views (E : En) : List Rf → Option (List Tr)
  | [] => some []
  | o :: os => (view E o).bind fun t => (views E os).map (t :: ·)
theorem RepE.views (h : RepE K A Hi H σ E Fs) : ∀ {vs : List V} {os : List Rf} {G : List Addr} {ts : List Tr}, RepRs K Hi H σ vs os G → views E os = some ts → RepVs K Hi H vs ts
  | _, _, _, _, .nil, q => by
    have q' : some [] = some _ := q
    cases q'
    exact .nil
  | _, _, _, _, .cons r rs _, q => by
    rw [FL.views, Option.bind_eq_some_iff] at q
    obtain ⟨t, q1, q2⟩ := q
    rw [Option.map_eq_some_iff] at q2
    obtain ⟨ts, q2, rfl⟩ := q2
    obtain ⟨G, rt⟩ := h.view r q1
    exact .cons rt (RepE.views h rs q2)
theorem stepN {F : Addr → Prop} : Step Hi H F Hi H (fun a => F a ∨ a ∈ ([] : List Addr)) := (Step.refl Hi H F).weak fun x z => z.elim id fun y => nomatch y
def mVar (i : Nat) : MR := fun E => (at? E i).bind fun _ => some (.slot i, E)
theorem er_var {i : Nat} : ER K (tVar i) (mVar i) := fun E o E' q A σ Hi H Fs h Q k => by
  unfold mVar at q
  rw [Option.bind_eq_some_iff] at q
  obtain ⟨t, q1, q2⟩ := q
  cases q2
  obtain ⟨v, e, _⟩ := h.val i t q1
  exact ⟨v, e, k v Hi H Fs [] (.slot e) h (fun a z => nomatch z) stepN⟩
def mC (d : PyData) : MF := fun E => some (.imm d, E)
theorem fr_d {v : V} {d : PyData} (hd : ∀ H, Dp K H v d) : FR K (tC v) (mC d) := fun E t E' q A σ Hi H Fs h Q k => by
  cases q
  exact k v Hi H Fs [] (.imm (hd Hi)) h (fun a z => nomatch z) stepN
theorem fr_int {i : Int} : FR K (tC (.int i)) (mC (.int i)) := fr_d fun _ => .int i
theorem fr_bl {b : Bool} : FR K (tC (.bl b)) (mC (.bool b)) := fr_d fun _ => .bl b
theorem RepT.imm_inv {v : V} {d : PyData} {F : List Addr} (h : RepT K Hi H v (.imm d) F) : Dp K Hi v d ∧ F = [] := by
  cases h with
  | imm h => exact ⟨h, rfl⟩
def fzH (Hi H : Hp) (G : List Addr) : Hp := fun a => if a ∈ G then H a else Hi a
theorem fz_same {G : List Addr} (o : ∀ a ∈ G, Hi a = none) : Same Hi (fzH Hi H G) := fun a u e => by
  have : a ∉ G := fun z => by rw [o a z] at e; cases e
  unfold fzH
  rw [if_neg this]
  exact e
theorem fz_in {G : List Addr} {a : Addr} (h : a ∈ G) : fzH Hi H G a = H a := if_pos h
theorem fz_sub {G : List Addr} (s : Same Hi H) : Same (fzH Hi H G) H := fun a u e => by
  unfold fzH at e
  split at e
  · exact e
  · exact s a u e
theorem fz_step {G : List Addr} {F : Addr → Prop} (o : ∀ a ∈ G, Hi a = none) : Step Hi H (fun a => F a ∨ a ∈ G) (fzH Hi H G) H F :=
  ⟨fz_same o, fun _ _ e _ => e, fun _ z => .inl (.inl z), fun a u e => by
    by_cases ha : a ∈ G
    · exact .inr (.inl (.inr ha))
    · unfold fzH at e
      rw [if_neg ha] at e
      exact .inl ⟨u, e⟩⟩
def mER (m : MF) : MR := fun E => (m E).bind fun p => some (.own p.1, p.2)
theorem er_of {te : TE} {m : MF} (hm : FR K te m) : ER K te (mER m) := fun E o E' q A σ Hi H Fs h Q k => by
  unfold mER at q
  rw [Option.bind_eq_some_iff] at q
  obtain ⟨⟨t, E1⟩, q1, q2⟩ := q
  cases q2
  exact hm E t E1 q1 A σ Hi H Fs h Q fun v Hi1 H1 Fs1 G rt h1 da st => k v Hi1 H1 Fs1 G (.own rt) h1 da st
def mFz (m : MR) : MF := fun E => (m E).bind fun p => match p.1 with
  | .own t => some (t, p.2)
  | .slot i => match p.2[i]? with
    | some (.val (.imm d)) => some (.imm d, p.2)
    | some (.val (.tpl ds)) => some (.imm (.tuple ds), p.2)
    | some (.val t) => t.toD.bind fun d => some (.imm d, p.2.set i (.val (.imm d)))
    | some (.par (.imm d)) => some (.imm d, p.2)
    | _ => none
theorem at_val {E : En} {i : Nat} {t : Tr} (h : E[i]? = some (.val t)) : at? E i = some t := by
  unfold at?
  rw [h]
  rfl
theorem at_par {E : En} {i : Nat} {t : Tr} (h : E[i]? = some (.par t)) : at? E i = some t := by
  unfold at?
  rw [h]
  rfl
theorem at_set {E : En} {i j : Nat} {s : SL} : at? (E.set i s) j = if i = j ∧ i < E.length then s.tree else at? E j := by
  unfold at?
  rw [List.getElem?_set]
  by_cases hi : i = j
  · subst hi
    by_cases hl : i < E.length
    · rw [if_pos rfl, if_pos hl, if_pos ⟨rfl, hl⟩] <;> rfl
    · have : E[i]? = none := List.getElem?_eq_none_iff.mpr (by omega)
      rw [if_pos rfl, if_neg hl, if_neg (fun z => hl z.2), this]
  · rw [if_neg hi, if_neg (fun z => hi z.1)]
theorem lt_of_at {E : En} {i : Nat} {s : SL} (h : E[i]? = some s) : i < E.length := (List.getElem?_eq_some_iff.mp h).1
def fset (Fs : Nat → List Addr) (i : Nat) (G : List Addr) : Nat → List Addr := fun j => if j = i then G else Fs j
theorem fset_same {Fs : Nat → List Addr} {i : Nat} {G : List Addr} : fset Fs i G i = G := if_pos rfl
theorem fset_ne {Fs : Nat → List Addr} {i j : Nat} {G : List Addr} (h : j ≠ i) : fset Fs i G j = Fs j := if_neg h
theorem inE_fset {Fs : Nat → List Addr} {i : Nat} {G : List Addr} {a : Addr} (h : InE (fset Fs i G) a) : InE Fs a ∨ a ∈ G := by
  obtain ⟨j, hj⟩ := h
  by_cases e : j = i
  · subst e
    rw [fset_same] at hj
    exact .inr hj
  · rw [fset_ne e] at hj
    exact .inl ⟨j, hj⟩
theorem RepE.put {i : Nat} {t' : Tr} {s s' : SL} {G : List Addr} {v : V} {σ' : L2.St} (h : RepE K A Hi H σ E Fs) (he : E[i]? = some s) (hs : s'.tree = some t') (hp : ∀ t, s' = .par t → ∃ v, σ'[i]? = some (some v) ∧ A[i]? = some v)
    (st : Step Hi H (fun a => a ∈ Fs i ∨ a ∈ G) Hi' H' (fun a => a ∈ G)) (dg : ∀ a ∈ G, ∀ j, j ≠ i → a ∉ Fs j) (sub : Same Hi' H')
    (hl : σ'.length = σ.length) (hv : σ'[i]? = some (some v)) (ho : ∀ j, j ≠ i → σ'[j]? = σ[j]?) (r : RepT K Hi' H' v t' G) : RepE K A Hi' H' σ' (E.set i s') (fset Fs i G) := by
  have hlt := lt_of_at he
  refine ⟨sub, by rw [List.length_set, h.len, hl], fun j t q => ?_, fun j t q => ?_, fun j q => ?_, fun j k a hj hk => ?_⟩
  · rw [at_set] at q
    by_cases e : i = j
    · subst e
      rw [if_pos ⟨rfl, hlt⟩, hs] at q
      cases q
      exact ⟨v, hv, by rw [fset_same]; exact r⟩
    · rw [if_neg (fun z => e z.1)] at q
      obtain ⟨u, e1, r1⟩ := h.val j t q
      refine ⟨u, by rw [ho j (Ne.symm e)]; exact e1, ?_⟩
      rw [fset_ne (Ne.symm e)]
      refine st.keep r1 fun x hx z => ?_
      rcases z with z | z
      · exact e (h.dis i j x z hx)
      · exact dg x z j (Ne.symm e) hx
  · rw [List.getElem?_set] at q
    by_cases e : i = j
    · subst e
      rw [if_pos rfl, if_pos hlt] at q
      exact hp t (Option.some.inj q)
    · rw [if_neg e] at q
      obtain ⟨u, e1, e2⟩ := h.par j t q
      exact ⟨u, by rw [ho j (Ne.symm e)]; exact e1, e2⟩
  · rw [at_set] at q
    by_cases e : i = j
    · subst e
      rw [if_pos ⟨rfl, hlt⟩, hs] at q
      cases q
    · rw [if_neg (fun z => e z.1)] at q
      rw [fset_ne (Ne.symm e)]
      exact h.no j q
  · by_cases e1 : j = i
    · subst e1
      rw [fset_same] at hj
      by_cases e2 : k = j
      · exact e2.symm
      · rw [fset_ne e2] at hk
        exact absurd hk (dg a hj k e2)
    · rw [fset_ne e1] at hj
      by_cases e2 : k = i
      · subst e2
        rw [fset_same] at hk
        exact absurd hj (dg a hk j e1)
      · rw [fset_ne e2] at hk
        exact h.dis j k a hj hk
theorem fr_of {te : TE} {m : MR} (hm : ER K te m) : FR K te (mFz m) := fun E t E' q A σ Hi H Fs h Q k => by
  unfold mFz at q
  rw [Option.bind_eq_some_iff] at q
  obtain ⟨⟨o, E1⟩, q1, q2⟩ := q
  refine hm E o E1 q1 A σ Hi H Fs h Q fun v Hi1 H1 Fs1 G r h1 dg st => ?_
  cases r with
  | own r =>
    cases q2
    exact k v Hi1 H1 Fs1 G r h1 dg st
  | @slot i _ r' =>
    have st : Step Hi H (InE Fs) Hi1 H1 (InE Fs1) := st.weak fun x z => .inl z
    have still : ∀ d, Dp K Hi1 v d → t = .imm d → E' = E1 → Q v H1 := fun d hd e1 e2 => by
      subst e1 e2
      exact k v Hi1 H1 Fs1 [] (.imm hd) h1 (fun a z => nomatch z) (st.weak fun x z => z.elim id fun y => nomatch y)
    have q2' : (match E1[i]? with
      | some (.val (.imm d)) => some (Tr.imm d, E1)
      | some (.val (.tpl ds)) => some (Tr.imm (.tuple ds), E1)
      | some (.val t) => t.toD.bind fun d => some (.imm d, E1.set i (.val (.imm d)))
      | some (.par (.imm d)) => some (.imm d, E1)
      | _ => none) = some (t, E') := q2
    have seen : ∀ t0, at? E1 i = some t0 → RepT K Hi1 H1 v t0 (Fs1 i) := fun t0 e => by
      obtain ⟨u, e1, r1⟩ := h1.val i t0 e
      rw [r'] at e1
      cases e1
      exact r1
    split at q2'
    · rename_i d e
      cases q2'
      have z := seen _ (at_val e)
      exact still d z.imm_inv.1 rfl rfl
    · rename_i ds e
      cases q2'
      have z := seen _ (at_val e)
      exact still _ z.plain.imm_inv.1 rfl rfl
    · rename_i t0 _ _ e
      rw [Option.bind_eq_some_iff] at q2'
      obtain ⟨d, e2, e3⟩ := q2'
      cases e3
      have rt := seen _ (at_val e)
      have og : ∀ a ∈ Fs1 i, Hi1 a = none := fun a ha => (rt.own _ _ _ a ha).1
      have hd := rt.froz (fz_same (H := H1) og) _ _ _ d (fun a ha => fz_in ha) e2
      have s1 : Step Hi1 H1 (fun a => a ∈ Fs1 i ∨ a ∈ ([] : List Addr)) (fzH Hi1 H1 (Fs1 i)) H1 (fun a => a ∈ ([] : List Addr)) :=
        ⟨fz_same og, fun _ _ e _ => e, fun _ z => (nomatch z), fun a u e => by
          by_cases ha : a ∈ Fs1 i
          · exact .inr (.inl (.inl ha))
          · unfold fzH at e
            rw [if_neg ha] at e
            exact .inl ⟨u, e⟩⟩
      refine k v (fzH Hi1 H1 (Fs1 i)) H1 (fset Fs1 i []) [] (.imm hd) (h1.put e rfl (fun t z => by cases z) s1 (fun a z => nomatch z) (fz_sub h1.sub) rfl r' (fun _ _ => rfl) (.imm hd)) (fun a z => nomatch z) ?_
      refine st.trans ⟨fz_same og, fun _ _ e _ => e, fun x z => ?_, fun a u e => ?_⟩
      · rcases z with z | z
        · rcases inE_fset z with z | z
          · exact .inl z
          · cases z
        · cases z
      · by_cases ha : a ∈ Fs1 i
        · exact .inr (.inl ⟨i, ha⟩)
        · unfold fzH at e
          rw [if_neg ha] at e
          exact .inl ⟨u, e⟩
    · rename_i d e
      cases q2'
      have z := seen _ (at_par e)
      exact still d z.imm_inv.1 rfl rfl
    · cases q2'
end
end FL
namespace FL
open PySem L2
section
variable {K : PySem.W.Frag} {A : List V} {Hi H Hi' H' : Hp} {σ : L2.St} {E : En} {Fs : Nat → List Addr} {ta tb te : TE} {ma mb : MR} {m m' : MF}
theorem Step.seq {Hi1 H1 Hi2 H2 : Hp} {F F1 F2 : Addr → Prop} {G : List Addr} (a : Step Hi H F Hi1 H1 (fun x => F1 x ∨ x ∈ G)) (b : Step Hi1 H1 F1 Hi2 H2 F2) : Step Hi H F Hi2 H2 F2 := (a.weak fun _ z => .inl z).trans b
def mOp (f : Tr → Tr → Option Tr) (ma mb : MR) : MF := fun E => (ma E).bind fun p => (mb p.2).bind fun q => (view q.2 p.1).bind fun t => (view q.2 q.1).bind fun u => (f t u).bind fun w => some (w, q.2)
theorem fr_op {r : R2} {f : Tr → Tr → Option Tr} (ha : ER K ta ma) (hb : ER K tb mb) (hr : OpT K r f) : FR K (tOp r ta tb) (mOp f ma mb) := fun E w E' q A σ Hi H Fs h Q k => by
  unfold mOp at q
  obtain ⟨⟨o1, E1⟩, q1, q⟩ := Option.bind_eq_some_iff.mp q
  obtain ⟨⟨o2, E2⟩, q2, q⟩ := Option.bind_eq_some_iff.mp q
  obtain ⟨t, q3, q⟩ := Option.bind_eq_some_iff.mp q
  obtain ⟨u, q4, q⟩ := Option.bind_eq_some_iff.mp q
  obtain ⟨w', q5, q⟩ := Option.bind_eq_some_iff.mp q
  cases q
  refine ha E o1 E1 q1 A σ Hi H Fs h _ fun v1 Hi1 H1 Fs1 G1 r1 h1 d1 s1 => ?_
  refine hb E1 o2 E2 q2 A σ Hi1 H1 Fs1 h1 _ fun v2 Hi2 H2 Fs2 G2 r2 h2 d2 s2 => ?_
  obtain ⟨F1, rt⟩ := h2.view (s2.keepR r1 d1) q3
  obtain ⟨F2, ru⟩ := h2.view r2 q4
  exact hr t u _ q5 Hi2 H2 v1 v2 F1 F2 h2.sub rt ru Q fun v Hi3 H3 W rw g => k v Hi3 H3 Fs2 W rw (h2.grow g) (h2.fresh g) (s1.seq (s2.seq (g.step _)))
def mUn (f : Tr → Option Tr) (ma : MR) : MF := fun E => (ma E).bind fun p => (view p.2 p.1).bind fun t => (f t).bind fun w => some (w, p.2)
theorem fr_un {r : V → Hp → VK → Prop} {f : Tr → Option Tr} (ha : ER K ta ma) (hr : UnT K r f) : FR K (tUn r ta) (mUn f ma) := fun E w E' q A σ Hi H Fs h Q k => by
  unfold mUn at q
  obtain ⟨⟨o1, E1⟩, q1, q⟩ := Option.bind_eq_some_iff.mp q
  obtain ⟨t, q3, q⟩ := Option.bind_eq_some_iff.mp q
  obtain ⟨w', q5, q⟩ := Option.bind_eq_some_iff.mp q
  cases q
  refine ha E o1 E1 q1 A σ Hi H Fs h _ fun v1 Hi1 H1 Fs1 G1 r1 h1 d1 s1 => ?_
  obtain ⟨F1, rt⟩ := h1.view r1 q3
  exact hr t _ q5 Hi1 H1 v1 F1 h1.sub rt Q fun v Hi3 H3 W rw g => k v Hi3 H3 Fs1 W rw (h1.grow g) (h1.fresh g) (s1.seq (g.step _))
def bOf : Tr → Option Bool
  | .imm (.bool b) => some b
  | _ => none
theorem bOf_inv {t : Tr} {b : Bool} (h : bOf t = some b) : t = .imm (.bool b) := by
  unfold bOf at h
  split at h
  · cases h; rfl
  · cases h
theorem RepT.bl_inv {v : V} {b : Bool} {F : List Addr} (h : RepT K Hi H v (.imm (.bool b)) F) : v = .bl b ∧ F = [] := by
  obtain ⟨d, e⟩ := h.imm_inv
  cases d
  exact ⟨rfl, e⟩
theorem RepT.int_inv {v : V} {i : Int} {F : List Addr} (h : RepT K Hi H v (.imm (.int i)) F) : v = .int i ∧ F = [] := by
  obtain ⟨d, e⟩ := h.imm_inv
  cases d
  exact ⟨rfl, e⟩
theorem RepT.str_inv {v : V} {i : Str} {F : List Addr} (h : RepT K Hi H v (.imm (.str i)) F) : v = .str i ∧ F = [] := by
  obtain ⟨d, e⟩ := h.imm_inv
  cases d
  exact ⟨rfl, e⟩
def mTest (m : MF) : MT := fun E => (m E).bind fun p => (bOf p.1).bind fun b => some (b, p.2)
theorem tr_val {tt : TT} (ht : tt = fun σ H Q => te σ H fun x H' => ∃ k, x = .bl k ∧ Q k H') (h : FR K te m) : TR K tt (mTest m) := fun E b E' q A σ Hi H Fs hE Q k => by
  unfold mTest at q
  obtain ⟨⟨t, E1⟩, q1, q⟩ := Option.bind_eq_some_iff.mp q
  obtain ⟨b', q2, q⟩ := Option.bind_eq_some_iff.mp q
  cases q
  rw [ht]
  refine h E t E1 q1 A σ Hi H Fs hE _ fun v Hi1 H1 Fs1 G r h1 d s => ?_
  have e := bOf_inv q2
  subst e
  obtain ⟨e, _⟩ := r.bl_inv
  exact ⟨_, e, k Hi1 H1 Fs1 h1 (s.weak fun x z => .inl z)⟩
theorem tr_test (h : FR K te m) : TR K (tTest te) (mTest m) := tr_val rfl h
section
variable {t u : TT} {mt mu : MT}
def mAnd (mt mu : MT) : MT := fun E => (mt E).bind fun p => if p.1 = true then mu p.2 else some (false, p.2)
theorem tr_and (ht : TR K t mt) (hu : TR K u mu) : TR K (tAnd t u) (mAnd mt mu) := fun E b E' q A σ Hi H Fs hE Q k => by
  unfold mAnd at q
  obtain ⟨⟨c, E1⟩, q1, q⟩ := Option.bind_eq_some_iff.mp q
  refine ht E c E1 q1 A σ Hi H Fs hE _ fun Hi1 H1 Fs1 h1 s1 => ?_
  cases c with
  | true =>
    rw [if_pos rfl] at q ⊢
    exact hu E1 b E' q A σ Hi1 H1 Fs1 h1 Q fun Hi2 H2 Fs2 h2 s2 => k Hi2 H2 Fs2 h2 (s1.trans s2)
  | false =>
    rw [if_neg Bool.false_ne_true] at q ⊢
    cases q
    exact k Hi1 H1 Fs1 h1 s1
def mOr (mt mu : MT) : MT := fun E => (mt E).bind fun p => if p.1 = true then some (true, p.2) else mu p.2
theorem tr_or (ht : TR K t mt) (hu : TR K u mu) : TR K (tOr t u) (mOr mt mu) := fun E b E' q A σ Hi H Fs hE Q k => by
  unfold mOr at q
  obtain ⟨⟨c, E1⟩, q1, q⟩ := Option.bind_eq_some_iff.mp q
  refine ht E c E1 q1 A σ Hi H Fs hE _ fun Hi1 H1 Fs1 h1 s1 => ?_
  cases c with
  | true =>
    rw [if_pos rfl] at q ⊢
    cases q
    exact k Hi1 H1 Fs1 h1 s1
  | false =>
    rw [if_neg Bool.false_ne_true] at q ⊢
    exact hu E1 b E' q A σ Hi1 H1 Fs1 h1 Q fun Hi2 H2 Fs2 h2 s2 => k Hi2 H2 Fs2 h2 (s1.trans s2)
def mNot (mt : MT) : MT := fun E => (mt E).bind fun p => some (!p.1, p.2)
theorem tr_not (ht : TR K t mt) : TR K (tNot t) (mNot mt) := fun E b E' q A σ Hi H Fs hE Q k => by
  unfold mNot at q
  obtain ⟨⟨c, E1⟩, q1, q⟩ := Option.bind_eq_some_iff.mp q
  cases q
  exact ht E c E1 q1 A σ Hi H Fs hE _ fun Hi1 H1 Fs1 h1 s1 => k Hi1 H1 Fs1 h1 s1
def truT : Tr → Option Bool
  | .imm .none => some false
  | .imm (.bool b) => some b
  | .imm (.int i) => some (i != 0)
  | .imm (.str z) => if z.length ≤ 16777216 then some ((z.length : Int) != 0) else none
  | .imm (.list ds) => some (!ds.isEmpty)
  | .imm (.tuple ds) => some (!ds.isEmpty)
  | .imm (.dict _) => none
  | .lst ts => some (!ts.isEmpty)
  | .dic kvs => some (!kvs.isEmpty)
  | .tpl _ => none
  | .obj _ _ _ _ => none
  | .box _ _ _ _ => none
  | .exc _ _ => none
  | .dik _ => none
  | .pr _ _ => none
  | .dit _ => none
theorem dpAll_len : ∀ {ds : List PyData} {vs : List V}, DpAll K H vs ds → vs.length = ds.length
  | _, _, .nil => rfl
  | _, _, .cons _ t => congrArg (· + 1) (dpAll_len t)
theorem emp_len {α β : Type} {xs : List α} {ys : List β} (h : xs.length = ys.length) : xs.isEmpty = ys.isEmpty := by
  cases xs <;> cases ys <;> first | rfl | cases h
theorem tru_ok {x : V} {t : Tr} {F : List Addr} {b : Bool} (s : Same Hi H) (r : RepT K Hi H x t F) (q : truT t = some b) : TruV K x H b := by
  cases r with
  | imm h =>
    cases h with
    | non => cases q; rfl
    | bl b => cases q; rfl
    | int i => cases q; rfl
    | str z =>
      rw [truT] at q
      split at q
      · rename_i hz
        cases q
        exact ⟨by rw [sizeLine_eq]; exact hz, rfl⟩
      · cases q
    | lst hs ha => cases q; exact .inl ⟨_, s.seq hs, by rw [emp_len (dpAll_len ha)]⟩
    | tup hs ha => cases q; exact .inr (.inl ⟨_, seqT s hs, by rw [emp_len (dpAll_len ha)]⟩)
  | lst h1 h2 h3 h4 => cases q; exact .inl ⟨_, .inl (.inl h1), by rw [emp_len h3.length]⟩
  | dic h1 h2 h3 => cases q; exact .inr (.inr ⟨_, h1, by rw [emp_len (Paired.length h3)]⟩)
  | tpl _ _ _ => cases q
  | obj => cases q
  | box => cases q
  | exc => cases q
  | dik => cases q
  | pr => cases q
  | dit => cases q
def mTru (ma : MR) : MT := fun E => (ma E).bind fun p => (view p.2 p.1).bind fun t => (truT t).bind fun b => some (b, p.2)
theorem tr_tru (h : ER K te ma) : TR K (fun σ H Q => te σ H fun x H' => ∃ k, TruV K x H' k ∧ Q k H') (mTru ma) := fun E b E' q A σ Hi H Fs hE Q k => by
  unfold mTru at q
  obtain ⟨⟨o, E1⟩, q1, q⟩ := Option.bind_eq_some_iff.mp q
  obtain ⟨t, q2, q⟩ := Option.bind_eq_some_iff.mp q
  obtain ⟨b', q3, q⟩ := Option.bind_eq_some_iff.mp q
  cases q
  refine h E o E1 q1 A σ Hi H Fs hE _ fun v Hi1 H1 Fs1 G r h1 d s => ?_
  obtain ⟨F, rt⟩ := h1.view r q2
  exact ⟨_, tru_ok h1.sub rt q3, k Hi1 H1 Fs1 h1 (s.weak fun x z => .inl z)⟩
def mAndV (m m' : MF) : MF := fun E => (m E).bind fun p => (bOf p.1).bind fun b => if b = true then m' p.2 else some (.imm (.bool false), p.2)
theorem fr_andV (h : FR K ta m) (h' : FR K tb m') : FR K (tAndV ta tb) (mAndV m m') := fun E w E' q A σ Hi H Fs hE Q k => by
  unfold mAndV at q
  obtain ⟨⟨t, E1⟩, q1, q⟩ := Option.bind_eq_some_iff.mp q
  obtain ⟨b, q2, q⟩ := Option.bind_eq_some_iff.mp q
  have e := bOf_inv q2
  subst e
  refine h E _ E1 q1 A σ Hi H Fs hE _ fun v Hi1 H1 Fs1 G r h1 d s => ?_
  obtain ⟨e, _⟩ := r.bl_inv
  refine ⟨b, e, ?_⟩
  cases b with
  | true =>
    rw [if_pos rfl] at q ⊢
    exact h' E1 w E' q A σ Hi1 H1 Fs1 h1 Q fun v2 Hi2 H2 Fs2 G2 r2 h2 d2 s2 => k v2 Hi2 H2 Fs2 G2 r2 h2 d2 (s.seq s2)
  | false =>
    rw [if_neg Bool.false_ne_true] at q ⊢
    cases q
    exact k _ Hi1 H1 Fs1 [] (.imm (.bl false)) h1 (fun a z => nomatch z) ((s.weak fun x z => .inl z).weak fun x z => z.elim id fun y => nomatch y)
def mOrV (m m' : MF) : MF := fun E => (m E).bind fun p => (bOf p.1).bind fun b => if b = true then some (.imm (.bool true), p.2) else m' p.2
def mNotV (m : MF) : MF := fun E => (m E).bind fun p => (bOf p.1).bind fun b => some (.imm (.bool (!b)), p.2)
theorem fr_notV (h : FR K ta m) : FR K (tNotV ta) (mNotV m) := fun E w E' q A σ Hi H Fs hE Q k => by
  unfold mNotV at q
  obtain ⟨⟨t, E1⟩, q1, q⟩ := Option.bind_eq_some_iff.mp q
  obtain ⟨b, q2, q⟩ := Option.bind_eq_some_iff.mp q
  have e := bOf_inv q2
  subst e
  cases q
  refine h E _ E1 q1 A σ Hi H Fs hE _ fun v Hi1 H1 Fs1 G r h1 d s => ?_
  obtain ⟨e, _⟩ := r.bl_inv
  exact ⟨b, e, k _ Hi1 H1 Fs1 [] (.imm (.bl (!b))) h1 (fun a z => nomatch z) ((s.weak fun x z => .inl z).weak fun x z => z.elim id fun y => nomatch y)⟩
def mIf (mt : MT) (m m' : MF) : MF := fun E => (mt E).bind fun p => if p.1 = true then m p.2 else m' p.2
end
def mChain (f f' : Tr → Tr → Option Tr) (ma mb mc : MR) : MF := fun E => (ma E).bind fun p => (mb p.2).bind fun q => (view q.2 p.1).bind fun t => (view q.2 q.1).bind fun u => (f t u).bind fun w => (bOf w).bind fun b =>
  if b = true then (mc q.2).bind fun r => (view r.2 q.1).bind fun u' => (view r.2 r.1).bind fun x => (f' u' x).bind fun w' => some (w', r.2) else some (.imm (.bool false), q.2)
def arNil : MA := fun E => some ([], E)
theorem ar_nil : AR K tNil arNil := fun E os E' q A σ Hi H Fs h Q k => by
  cases q
  exact k [] Hi H Fs [] .nil h (fun a z => nomatch z) stepN
def arCons (ma : MR) (ms : MA) : MA := fun E => (ma E).bind fun p => (ms p.2).bind fun q => some (p.1 :: q.1, q.2)
theorem ar_cons {tr : TA} {ms : MA} (ha : ER K ta ma) (hs : AR K tr ms) : AR K (tCons ta tr) (arCons ma ms) := fun E os E' q A σ Hi H Fs h Q k => by
  unfold arCons at q
  obtain ⟨⟨o, E1⟩, q1, q⟩ := Option.bind_eq_some_iff.mp q
  obtain ⟨⟨os', E2⟩, q2, q⟩ := Option.bind_eq_some_iff.mp q
  cases q
  refine ha E o E1 q1 A σ Hi H Fs h _ fun v1 Hi1 H1 Fs1 G1 r1 h1 d1 s1 => ?_
  refine hs E1 os' E2 q2 A σ Hi1 H1 Fs1 h1 _ fun vs Hi2 H2 Fs2 G2 r2 h2 d2 s2 => ?_
  have r1' := s2.keepR r1 d1
  have ap := s2.apart (fun x hx => (r1.ownG x hx).2) d1
  refine k (v1 :: vs) Hi2 H2 Fs2 (G1 ++ G2) (.cons r1' r2 fun a ha hb => ap a ha (.inr hb)) h2 (fun a ha hf => ?_) ?_
  · rcases List.mem_append.mp ha with z | z
    · exact ap a z (.inl hf)
    · exact d2 a z hf
  · refine ⟨s1.ex.trans s2.ex, (s1.seq s2).fr, fun x z => ?_, (s1.seq s2).nh⟩
    rcases z with z | z
    · exact (s1.seq s2).nw x (.inl z)
    · rcases List.mem_append.mp z with z | z
      · exact s1.nw x (.inr z)
      · exact (s1.seq s2).nw x (.inr z)
def faNil : MFs := fun E => some ([], E)
theorem fa_nil : FA K tNil faNil := fun E os E' q A σ Hi H Fs h Q k => by
  cases q
  exact k [] Hi H Fs [] .nil h (fun a z => nomatch z) stepN
def faCons (ma : MF) (ms : MFs) : MFs := fun E => (ma E).bind fun p => (ms p.2).bind fun q => some (p.1 :: q.1, q.2)
theorem fa_cons {tr : TA} {ms : MFs} (ha : FR K ta m) (hs : FA K tr ms) : FA K (tCons ta tr) (faCons m ms) := fun E os E' q A σ Hi H Fs h Q k => by
  unfold faCons at q
  obtain ⟨⟨o, E1⟩, q1, q⟩ := Option.bind_eq_some_iff.mp q
  obtain ⟨⟨os', E2⟩, q2, q⟩ := Option.bind_eq_some_iff.mp q
  cases q
  refine ha E o E1 q1 A σ Hi H Fs h _ fun v1 Hi1 H1 Fs1 G1 r1 h1 d1 s1 => ?_
  refine hs E1 os' E2 q2 A σ Hi1 H1 Fs1 h1 _ fun vs Hi2 H2 Fs2 G2 r2 h2 d2 s2 => ?_
  have r1' := s2.keep r1 d1
  have ap := s2.apart (fun x hx => (r1.ownG x hx).2) d1
  refine k (v1 :: vs) Hi2 H2 Fs2 (G1 ++ G2) (.cons r1' r2 fun a ha hb => ap a ha (.inr hb)) h2 (fun a ha hf => ?_) ?_
  · rcases List.mem_append.mp ha with z | z
    · exact ap a z (.inl hf)
    · exact d2 a z hf
  · refine ⟨s1.ex.trans s2.ex, (s1.seq s2).fr, fun x z => ?_, (s1.seq s2).nh⟩
    rcases z with z | z
    · exact (s1.seq s2).nw x (.inl z)
    · rcases List.mem_append.mp z with z | z
      · exact s1.nw x (.inr z)
      · exact (s1.seq s2).nw x (.inr z)
theorem RepE.fz {G : List Addr} (h : RepE K A Hi H σ E Fs) (og : ∀ a ∈ G, Hi a = none) (da : ∀ a ∈ G, ¬ InE Fs a) : RepE K A (fzH Hi H G) H σ E Fs := by
  refine h.keep (F := fun a => a ∈ G) (F' := fun _ => False) ⟨fz_same og, fun _ _ e _ => e, fun _ z => z.elim, fun a u e => ?_⟩ (fz_sub h.sub) fun x hx hg => da x hg hx
  by_cases ha : a ∈ G
  · exact .inr (.inl ha)
  · unfold fzH at e
    rw [if_neg ha] at e
    exact .inl ⟨u, e⟩
def mTup (ms : MFs) : MF := fun E => (ms E).bind fun p => (Tr.toDs p.1).bind fun ds => if p.1.length ≤ 16777216 then some (.imm (.tuple ds), p.2) else none
theorem fr_tup {tr : TA} {ms : MFs} (hs : FA K tr ms) : FR K (tTup tr) (mTup ms) := fun E w E' q A σ Hi H Fs h Q k => by
  unfold mTup at q
  obtain ⟨⟨ts, E1⟩, q1, q⟩ := Option.bind_eq_some_iff.mp q
  obtain ⟨ds, q2, q⟩ := Option.bind_eq_some_iff.mp q
  split at q
  · rename_i hl
    cases q
    refine hs E ts E1 q1 A σ Hi H Fs h _ fun vs Hi1 H1 Fs1 G r h1 d s => ?_
    refine ⟨by rw [sizeLine_eq, r.length]; exact hl, fun p hp => ?_⟩
    have og : ∀ a ∈ G, Hi1 a = none := fun a ha => (r.ownG a ha).1
    have hd : DpAll K (fzH Hi1 H1 G) vs ds := r.froz (fz_same og) _ _ _ ds (fun a ha => fz_in ha) q2
    have h2 := h1.fz og d
    have g : Grow (fzH Hi1 H1 G) H1 (upd (fzH Hi1 H1 G) p (.tup vs)) (upd H1 p (.tup vs)) [] := Grow.imm h2.sub hp
    have s2 : Step Hi1 H1 (fun a => InE Fs1 a ∨ a ∈ G) (fzH Hi1 H1 G) H1 (InE Fs1) := fz_step og
    exact k (.ref p) _ _ Fs1 [] (.imm (.tup (SqT.of upd_same) (dpMonos g.ex _ _ hd))) (h2.grow g) (fun a z => nomatch z) (s.trans (s2.trans (g.step _)))
  · cases q
def mLst (ms : MFs) : MF := fun E => (ms E).bind fun p => if p.1.length ≤ 16777216 then some (.lst p.1, p.2) else none
theorem fr_lst {tr : TA} {ms : MFs} (hs : FA K tr ms) : FR K (tLst tr) (mLst ms) := fun E w E' q A σ Hi H Fs h Q k => by
  unfold mLst at q
  obtain ⟨⟨ts, E1⟩, q1, q⟩ := Option.bind_eq_some_iff.mp q
  split at q
  · rename_i hl
    cases q
    refine hs E ts E1 q1 A σ Hi H Fs h _ fun vs Hi1 H1 Fs1 G r h1 d s => ?_
    refine ⟨by rw [sizeLine_eq, r.length]; exact hl, fun p hp => ?_⟩
    have g : Grow Hi1 H1 Hi1 (upd H1 p (.lst vs)) [p] := Grow.own h1.sub hp
    have pG : p ∉ G := fun z => by
      obtain ⟨_, o, e⟩ := r.ownG p z
      rw [hp] at e; cases e
    have r' := (g.step (fun _ => False)).keeps r fun _ _ z => z
    refine k (.ref p) _ _ Fs1 (p :: G) (.lst upd_same (free_of h1.sub hp) r' pG) (h1.grow g) (fun a ha => ?_) ?_
    · rcases List.mem_cons.mp ha with e | ha
      · subst e; exact h1.fresh g a (by simp)
      · exact d a ha
    · refine ⟨s.ex, fun x o e f => g.all x o (s.fr x o e f), fun x z => ?_, s.nh⟩
      rcases z with z | z
      · exact s.nw x (.inl z)
      · rcases List.mem_cons.mp z with e | z
        · subst e
          cases q : H x with
          | none => exact .inr rfl
          | some o =>
            by_cases f : InE Fs x
            · exact .inl f
            · have := s.fr x o q f
              rw [hp] at this; cases this
        · exact s.nw x (.inr z)
  · cases q
def mCB (f : List Tr → Option Tr) (ms : MA) : MF := fun E => (ms E).bind fun p => (views p.2 p.1).bind fun ts => (f ts).bind fun w => some (w, p.2)
theorem fr_cb {r : List V → Hp → VK → Prop} {f : List Tr → Option Tr} {tr : TA} {ms : MA} (hs : AR K tr ms) (hr : CallT K r f) : FR K (tCB r tr) (mCB f ms) := fun E w E' q A σ Hi H Fs h Q k => by
  unfold mCB at q
  obtain ⟨⟨os, E1⟩, q1, q⟩ := Option.bind_eq_some_iff.mp q
  obtain ⟨ts, q2, q⟩ := Option.bind_eq_some_iff.mp q
  obtain ⟨w', q3, q⟩ := Option.bind_eq_some_iff.mp q
  cases q
  refine hs E os E1 q1 A σ Hi H Fs h _ fun vs Hi1 H1 Fs1 G r1 h1 d s => ?_
  exact hr ts _ q3 Hi1 H1 vs h1.sub (h1.views r1 q2) Q fun v Hi3 H3 W rw g => k v Hi3 H3 Fs1 W rw (h1.grow g) (h1.fresh g) (s.seq (g.step _))
def tyB : String → Tr → Bool
  | "str", .imm (.str _) => true
  | "int", .imm (.int _) => true
  | "list", .imm (.list _) => true
  | "list", .lst _ => true
  | "dict", .dic _ => true
  | _, _ => false
theorem tyV_of {T : String} {v : V} {t : Tr} {F : List Addr} (s : Same Hi H) (r : RepT K Hi H v t F) (q : tyB T t = true) : tyV K T v H := by
  unfold tyB at q
  split at q
  · obtain ⟨e, _⟩ := r.str_inv; subst e; rfl
  · obtain ⟨e, _⟩ := r.int_inv; subst e; rfl
  · obtain ⟨d, _⟩ := r.imm_inv
    cases d with
    | lst hs ha => exact .inl ⟨rfl, _, s.seq hs⟩
  · cases r with
    | lst h1 h2 h3 h4 => exact .inl ⟨rfl, _, SqL.of h1⟩
  · cases r with
    | dic h1 h2 h3 => exact .inr (.inr (.inl ⟨rfl, .inl ⟨_, h1⟩⟩))
  · cases q
def mBM (T : String) (f : Tr → List Tr → Option Tr) (mo : MR) (ms : MA) : MF := fun E => (mo E).bind fun p => (view p.2 p.1).bind fun t0 => if tyB T t0 = true then (ms p.2).bind fun q => (view q.2 p.1).bind fun t => (views q.2 q.1).bind fun ts => (f t ts).bind fun w => some (w, q.2) else none
abbrev MO := En → Option (Option Int × En)
def OR (K : PySem.W.Frag) (to : TO) (m : MO) : Prop := ∀ E o E', m E = some (o, E') → ∀ A σ Hi H Fs, RepE K A Hi H σ E Fs → ∀ Q : Option Int → Hp → Prop,
  (∀ Hi' H' Fs', RepE K A Hi' H' σ E' Fs' → Step Hi H (InE Fs) Hi' H' (InE Fs') → Q o H') → to σ H Q
def iOf : Tr → Option Int
  | .imm (.int i) => some i
  | _ => none
theorem iOf_inv {t : Tr} {b : Int} (h : iOf t = some b) : t = .imm (.int b) := by
  unfold iOf at h
  split at h
  · cases h; rfl
  · cases h
def moNone : MO := fun E => some (none, E)
theorem or_none : OR K tNoPart moNone := fun E o E' q A σ Hi H Fs h Q k => by
  cases q
  exact k Hi H Fs h (Step.refl _ _ _)
def moSome (m : MF) : MO := fun E => (m E).bind fun p => (iOf p.1).bind fun i => some (some i, p.2)
theorem or_some (ha : FR K te m) : OR K (tPart te) (moSome m) := fun E o E' q A σ Hi H Fs h Q k => by
  unfold moSome at q
  obtain ⟨⟨t, E1⟩, q1, q⟩ := Option.bind_eq_some_iff.mp q
  obtain ⟨i, q2, q⟩ := Option.bind_eq_some_iff.mp q
  cases q
  have e := iOf_inv q2
  subst e
  refine ha E _ E1 q1 A σ Hi H Fs h _ fun v1 Hi1 H1 Fs1 G1 r1 h1 d1 s1 => ?_
  exact ⟨i, r1.int_inv.1, k Hi1 H1 Fs1 h1 (s1.weak fun _ z => .inl z)⟩
def SlT (K : PySem.W.Frag) (r : V → Option Int → Option Int → Hp → VK → Prop) (f : Tr → Option Int → Option Int → Option Tr) : Prop := ∀ t lo hi w, f t lo hi = some w → ∀ Hi H x F, Same Hi H → RepT K Hi H x t F → ∀ Q : VK,
  (∀ v Hi' H' W, RepT K Hi' H' v w W → Grow Hi H Hi' H' W → Q v H') → r x lo hi H Q
def mSl (f : Tr → Option Int → Option Int → Option Tr) (ma : MR) (ml mh : MO) : MF := fun E => (ma E).bind fun p => (ml p.2).bind fun l => (mh l.2).bind fun u => (view u.2 p.1).bind fun t => (f t l.1 u.1).bind fun w => some (w, u.2)
theorem fr_sl {r : V → Option Int → Option Int → Hp → VK → Prop} {f : Tr → Option Int → Option Int → Option Tr} {tl th : TO} {ml mh : MO} (ha : ER K te ma) (hl : OR K tl ml) (hh : OR K th mh) (hr : SlT K r f) : FR K (tSl r te tl th) (mSl f ma ml mh) := fun E w E' q A σ Hi H Fs h Q k => by
  unfold mSl at q
  obtain ⟨⟨o1, E1⟩, q1, q⟩ := Option.bind_eq_some_iff.mp q
  obtain ⟨⟨l, E2⟩, q2, q⟩ := Option.bind_eq_some_iff.mp q
  obtain ⟨⟨u, E3⟩, q3, q⟩ := Option.bind_eq_some_iff.mp q
  obtain ⟨t, q4, q⟩ := Option.bind_eq_some_iff.mp q
  obtain ⟨w', q5, q⟩ := Option.bind_eq_some_iff.mp q
  cases q
  refine ha E o1 E1 q1 A σ Hi H Fs h _ fun v1 Hi1 H1 Fs1 G1 r1 h1 d1 s1 => ?_
  refine hl E1 l E2 q2 A σ Hi1 H1 Fs1 h1 _ fun Hi2 H2 Fs2 h2 s2 => ?_
  refine hh E2 u E3 q3 A σ Hi2 H2 Fs2 h2 _ fun Hi3 H3 Fs3 h3 s3 => ?_
  have s23 := s2.trans s3
  obtain ⟨F1, rt⟩ := h3.view (s23.keepR r1 d1) q4
  exact hr t l u _ q5 Hi3 H3 v1 F1 h3.sub rt Q fun v Hi4 H4 W rw g => k v Hi4 H4 Fs3 W rw (h3.grow g) (h3.fresh g) (s1.seq (s23.trans (g.step _)))
end
end FL
namespace FL
open PySem L2
inductive Out where
  | nx (E : En)
  | rt (t : Tr) (E : En)
  | bk (E : En)
  | ct (E : En)
  | xc (cn : Str) (ds : List (Str × PyData)) (E : En)
abbrev MS := En → Option Out
def ExR (K : PySem.W.Frag) (Hi : Hp) (cls : Value) (d : Option Addr) (cn : Str) (ds : List (Str × PyData)) : Prop := ∃ C, CnIs K cn C ∧ cls = .ref C ∧ XdA K Hi d ds
section
variable (K : PySem.W.Frag) (Wx : L2.WX)
def Goal (A : List V) (Hi H : Hp) (F : Addr → Prop) : Out → Ends → Prop
  | .nx E', D => ∀ σ' Hi' H' Fs', RepE K A Hi' H' σ' E' Fs' → Step Hi H F Hi' H' (InE Fs') → D.nx σ' H'
  | .rt t E', D => ∀ v σ' Hi' H' Fs' G, RepT K Hi' H' v t G → RepE K A Hi' H' σ' E' Fs' → (∀ a ∈ G, ¬ InE Fs' a) → Step Hi H F Hi' H' (fun a => InE Fs' a ∨ a ∈ G) → D.rt v H'
  | .bk E', D => ∀ σ' Hi' H' Fs', RepE K A Hi' H' σ' E' Fs' → Step Hi H F Hi' H' (InE Fs') → D.bk σ' H'
  | .ct E', D => ∀ σ' Hi' H' Fs', RepE K A Hi' H' σ' E' Fs' → Step Hi H F Hi' H' (InE Fs') → D.ct σ' H'
  | .xc cn ds E', _ => ∀ cls d σ' Hi' H' Fs', ExR K Hi' cls d cn ds → RepE K A Hi' H' σ' E' Fs' → Step Hi H F Hi' H' (InE Fs') → Wx cls d σ' H'
def SR (ts : TS) (m : MS) : Prop := ∀ E out, m E = some out → ∀ A σ Hi H Fs D, RepE K A Hi H σ E Fs → Goal K Wx A Hi H (InE Fs) out D → ts D σ H
def Chg (ws : List Nat) (σ σ' : L2.St) : Prop := σ'.length = σ.length ∧ ∀ j, j ∉ ws → σ'[j]? = σ[j]?
def GR (g : TG) (m : Tr → En → Option En) (ws : List Nat) : Prop := ∀ t E E', m t E = some E' → ∀ A σ Hi H Fs v G, RepE K A Hi H σ E Fs → RepT K Hi H v t G → (∀ a ∈ G, ¬ InE Fs a) → ∀ Q : L2.St → Hp → Prop,
  (∀ σ' Hi' H' Fs', Chg ws σ σ' → RepE K A Hi' H' σ' E' Fs' → Step Hi H (fun a => InE Fs a ∨ a ∈ G) Hi' H' (InE Fs') → Q σ' H') → g v σ H Q
def GRs (g : TGs) (m : List PyData → En → Option En) (ws : List Nat) : Prop := ∀ ds E E', m ds E = some E' → ∀ A σ Hi H Fs vs, RepE K A Hi H σ E Fs → DpAll K Hi vs ds → ∀ Q : L2.St → Hp → Prop,
  (∀ σ' Hi' H' Fs', Chg ws σ σ' → RepE K A Hi' H' σ' E' Fs' → Step Hi H (InE Fs) Hi' H' (InE Fs') → Q σ' H') → g vs σ H Q
end
section
variable {K : PySem.W.Frag} {Wx : L2.WX} {A : List V} {Hi H Hi1 H1 Hi' H' : Hp} {σ : L2.St} {E : En} {Fs : Nat → List Addr} {te : TE} {m : MF} {ma : MR}
theorem Goal.from {F F1 : Addr → Prop} {out : Out} {D : Ends} (g : Goal K Wx A Hi H F out D) (s : Step Hi H F Hi1 H1 F1) : Goal K Wx A Hi1 H1 F1 out D := by
  cases out with
  | nx E' => exact fun σ' Hi' H' Fs' h s' => g σ' Hi' H' Fs' h (s.trans s')
  | rt t E' => exact fun v σ' Hi' H' Fs' G r h d s' => g v σ' Hi' H' Fs' G r h d (s.trans s')
  | bk E' => exact fun σ' Hi' H' Fs' h s' => g σ' Hi' H' Fs' h (s.trans s')
  | ct E' => exact fun σ' Hi' H' Fs' h s' => g σ' Hi' H' Fs' h (s.trans s')
  | xc cn ds E' => exact fun cls d σ' Hi' H' Fs' x h s' => g cls d σ' Hi' H' Fs' x h (s.trans s')
def mNext : MS := fun E => some (.nx E)
theorem sr_next : SR K Wx tNext mNext := fun E out q A σ Hi H Fs D h g => by
  cases q
  exact g σ Hi H Fs h (Step.refl _ _ _)
def mBreak : MS := fun E => some (.bk E)
def mCont : MS := fun E => some (.ct E)
def mThen (m' : MS) : Out → Option Out
  | .nx E => m' E
  | .rt t E => some (.rt t E)
  | .bk E => some (.bk E)
  | .ct E => some (.ct E)
  | .xc cn ds E => some (.xc cn ds E)
def mSeq (m m' : MS) : MS := fun E => (m E).bind (mThen m')
theorem sr_seq {t u : TS} {m m' : MS} (ht : SR K Wx t m) (hu : SR K Wx u m') : SR K Wx (tSeq t u) (mSeq m m') := fun E out q A σ Hi H Fs D h g => by
  obtain ⟨o1, q1, q⟩ := Option.bind_eq_some_iff.mp q
  refine ht E o1 q1 A σ Hi H Fs { D with nx := u D } h ?_
  cases o1 with
  | nx E1 => exact fun σ' Hi' H' Fs' h' s => hu E1 out q A σ' Hi' H' Fs' D h' (g.from s)
  | rt t E1 => cases q; exact g
  | bk E1 => cases q; exact g
  | ct E1 => cases q; exact g
  | xc cn ds E1 => cases q; exact g
def mDrop (m : MF) : MS := fun E => (m E).bind fun p => some (.nx p.2)
def mRet (m : MF) : MS := fun E => (m E).bind fun p => some (.rt p.1 p.2)
theorem sr_ret (h : FR K te m) : SR K Wx (tRet te) (mRet m) := fun E out q A σ Hi H Fs D hE g => by
  obtain ⟨⟨t, E1⟩, q1, q⟩ := Option.bind_eq_some_iff.mp q
  cases q
  exact h E t E1 q1 A σ Hi H Fs hE _ fun v Hi1 H1 Fs1 G r h1 d s => g v σ Hi1 H1 Fs1 G r h1 d s
def mRetN : MS := fun E => some (.rt (.imm .none) E)
def mIfS (mt : MT) (m m' : MS) : MS := fun E => (mt E).bind fun p => if p.1 = true then m p.2 else m' p.2
theorem sr_if {c : TT} {t u : TS} {mt : MT} {m m' : MS} (hc : TR K c mt) (ht : SR K Wx t m) (hu : SR K Wx u m') : SR K Wx (tIfS c t u) (mIfS mt m m') := fun E out q A σ Hi H Fs D h g => by
  obtain ⟨⟨b, E1⟩, q1, q⟩ := Option.bind_eq_some_iff.mp q
  refine hc E b E1 q1 A σ Hi H Fs h _ fun Hi1 H1 Fs1 h1 s => ?_
  cases b with
  | true => exact ht E1 out q A σ Hi1 H1 Fs1 D h1 (g.from s)
  | false => exact hu E1 out q A σ Hi1 H1 Fs1 D h1 (g.from s)
def mAsg (m : MF) (mg : Tr → En → Option En) : MS := fun E => (m E).bind fun p => (mg p.1 p.2).bind fun E' => some (.nx E')
theorem sr_asg {g : TG} {mg : Tr → En → Option En} {ws : List Nat} (h : FR K te m) (hg : GR K g mg ws) : SR K Wx (tAsg te g) (mAsg m mg) := fun E out q A σ Hi H Fs D hE go => by
  obtain ⟨⟨t, E1⟩, q1, q⟩ := Option.bind_eq_some_iff.mp q
  obtain ⟨E2, q2, q⟩ := Option.bind_eq_some_iff.mp q
  cases q
  refine h E t E1 q1 A σ Hi H Fs hE _ fun v Hi1 H1 Fs1 G r h1 d s => ?_
  exact hg t E1 E2 q2 A σ Hi1 H1 Fs1 v G h1 r d _ fun σ' Hi2 H2 Fs2 _ h2 s2 => go σ' Hi2 H2 Fs2 h2 (s.trans s2)
def mName (i : Nat) : Tr → En → Option En := fun t E => match E[i]? with
  | some .no => some (E.set i (.val t))
  | some (.val _) => some (E.set i (.val t))
  | _ => none
theorem RepE.name {i : Nat} {t : Tr} {s : SL} {v : V} {G : List Addr} (h : RepE K A Hi H σ E Fs) (he : E[i]? = some s) (r : RepT K Hi H v t G) (d : ∀ a ∈ G, ¬ InE Fs a) :
    RepE K A Hi H (σ.set i (some v)) (E.set i (.val t)) (fset Fs i G) ∧ Step Hi H (fun a => InE Fs a ∨ a ∈ G) Hi H (InE (fset Fs i G)) := by
  have hlt : i < σ.length := by rw [← h.len]; exact lt_of_at he
  refine ⟨h.put (s' := .val t) he rfl (fun t z => by cases z) ⟨Same.refl _, fun _ _ e _ => e, fun _ z => .inl (.inr z), fun _ o e => .inl ⟨o, e⟩⟩ (fun a ha j _ z => d a ha ⟨j, z⟩) h.sub (by simp) (by rw [List.getElem?_set_self hlt]) (fun j hj => List.getElem?_set_ne (Ne.symm hj)) r, ?_⟩
  exact (Step.refl Hi H (fun a => InE Fs a ∨ a ∈ G)).weak fun x z => inE_fset z
theorem chg_set {i : Nat} {x : Option V} : Chg [i] σ (σ.set i x) := ⟨by simp, fun j h => List.getElem?_set_ne fun e => h (by simp [e])⟩
theorem Chg.refl {ws : List Nat} : Chg ws σ σ := ⟨rfl, fun _ _ => rfl⟩
theorem gr_name {i : Nat} : GR K (gName i) (mName i) [i] := fun t E E' q A σ Hi H Fs v G h r d Q k => by
  unfold mName at q
  split at q
  · rename_i e
    cases q
    obtain ⟨h', s⟩ := h.name e r d
    exact k _ Hi H _ chg_set h' s
  · rename_i e
    cases q
    obtain ⟨h', s⟩ := h.name e r d
    exact k _ Hi H _ chg_set h' s
  · cases q
def gsNil : List PyData → En → Option En := fun ds E => match ds with
  | [] => some E
  | _ => none
theorem grs_nil : GRs K gNil gsNil [] := fun ds E E' q A σ Hi H Fs vs h r Q k => by
  cases r with
  | nil =>
    cases q
    exact ⟨rfl, k σ Hi H Fs Chg.refl h (Step.refl _ _ _)⟩
  | cons => cases q
def gsCons (mg : Tr → En → Option En) (ms : List PyData → En → Option En) : List PyData → En → Option En := fun ds E => match ds with
  | [] => none
  | d :: r => (mg (.imm d) E).bind (ms r)
theorem grs_cons {t : TG} {u : TGs} {mg : Tr → En → Option En} {ms : List PyData → En → Option En} {ws ws' : List Nat} (ht : GR K t mg ws) (hu : GRs K u ms ws') : GRs K (gCons t u) (gsCons mg ms) (ws ++ ws') := fun ds E E' q A σ Hi H Fs vs h r Q k => by
  cases r with
  | nil => cases q
  | @cons v vs d ds r1 r2 =>
    obtain ⟨E1, q1, q⟩ := Option.bind_eq_some_iff.mp q
    refine ⟨v, vs, rfl, ?_⟩
    refine ht (.imm d) E E1 q1 A σ Hi H Fs v [] h (.imm r1) (fun a z => nomatch z) _ fun σ1 Hi1 H1 Fs1 c1 h1 s1 => ?_
    exact hu ds E1 E' q A σ1 Hi1 H1 Fs1 vs h1 (dpMonos s1.ex _ _ r2) _ fun σ2 Hi2 H2 Fs2 c2 h2 s2 => k σ2 Hi2 H2 Fs2 ⟨c2.1.trans c1.1, fun j hj => (c2.2 j fun z => hj (List.mem_append_right _ z)).trans (c1.2 j fun z => hj (List.mem_append_left _ z))⟩ h2 ((s1.more (F2 := InE Fs) fun x z => z.elim id fun y => nomatch y).trans s2)
def mTupG (n : Nat) (ms : List PyData → En → Option En) : Tr → En → Option En := fun t E => match t with
  | .imm (.tuple ds) => if ds.length = n then ms ds E else none
  | _ => none
theorem gr_tup {n : Nat} {t : TGs} {ms : List PyData → En → Option En} {ws : List Nat} (ht : GRs K t ms ws) : GR K (gTup K n t) (mTupG n ms) ws := fun t E E' q A σ Hi H Fs v G h r d Q k => by
  unfold mTupG at q
  split at q
  · rename_i ds
    split at q
    · rename_i hn
      obtain ⟨hd, rfl⟩ := r.imm_inv
      cases hd with
      | @tup a vs _ hs ha =>
        refine ⟨a, vs, rfl, seqT h.sub hs, by rw [dpAll_len ha, hn], ?_⟩
        exact ht ds E E' q A σ Hi H Fs vs h ha _ fun σ1 Hi1 H1 Fs1 c1 h1 s1 => k σ1 Hi1 H1 Fs1 c1 h1 (s1.more fun x z => .inl z)
    · cases q
  · cases q
abbrev MFn := List Tr → Option (Tr × List Tr)
structure RepAs (K : PySem.W.Frag) (Hi H : Hp) (vs : List V) (ts : List Tr) (Fs : Nat → List Addr) : Prop where
  len : vs.length = ts.length
  val : ∀ (i : Nat) t, ts[i]? = some t → ∃ v, vs[i]? = some v ∧ RepT K Hi H v t (Fs i)
  no : ∀ i, ts[i]? = none → Fs i = []
  dis : ∀ i j a, a ∈ Fs i → a ∈ Fs j → i = j
def spM (K : PySem.W.Frag) (n : Nat) (m : MFn) : Sp := fun vs H Q _ => ∃ ts r ts' Hi Fs, m ts = some (r, ts') ∧ ts.length = n ∧ Same Hi H ∧ RepAs K Hi H vs ts Fs ∧
  ∀ v Hi' H' Fs' G, RepAs K Hi' H' vs ts' Fs' → Same Hi' H' → RepT K Hi' H' v r G → (∀ a ∈ G, ¬ InE Fs' a) → Step Hi H (InE Fs) Hi' H' (fun a => InE Fs' a ∨ a ∈ G) → Q v H'
def isOwn : Tr → Bool
  | .imm _ => false
  | .tpl _ => false
  | .exc _ _ => false
  | .dik _ => false
  | _ => true
def ownSlot (E : En) : Rf → Option Nat
  | .own _ => none
  | .slot i => match at? E i with
    | some t => if isOwn t = true then some i else none
    | none => none
def gives (E0 : En) : En → List Rf → List Tr → Option En
  | E, [], [] => some E
  | E, .own _ :: os, _ :: ts => gives E0 E os ts
  | E, .slot i :: os, t :: ts => match E0[i]? with
    | some s => if (s.tree.map isOwn) = some true then gives E0 (E.set i (s.with t)) os ts else gives E0 E os ts
    | none => none
  | _, _, _ => none
def mCall (n : Nat) (m : MFn) (ma : MA) : MF := fun E => (ma E).bind fun p => (viewsR p.2 p.1).bind fun ts => if ts.length = n ∧ (p.1.filterMap (ownSlot p.2)).Nodup then (m ts).bind fun r => (gives p.2 p.2 p.1 r.2).bind fun E' => some (r.1, E') else none
theorem own_nil {v : V} {t : Tr} {F : List Addr} (h : RepT K Hi H v t F) (o : isOwn t = false) : F = [] := by
  cases h with
  | imm _ => rfl
  | lst _ _ _ _ => cases o
  | dic _ _ _ => cases o
  | tpl _ _ _ => rfl
  | obj => cases o
  | box => cases o
  | exc => rfl
  | dik => rfl
  | pr => cases o
  | dit => cases o
theorem still {v : V} {t : Tr} {F : List Addr} (h : RepT K Hi H v t F) (o : isOwn t = false) (e : Same Hi Hi') : RepT K Hi' H' v t [] := by
  cases t with
  | imm d => exact .imm (dpMono e _ _ h.imm_inv.1)
  | lst _ => cases o
  | dic _ => cases o
  | tpl ds =>
    cases h with
    | tpl h1 h2 h3 => exact .tpl (e _ _ h1) h2 (dpMonos e ds _ h3)
  | obj _ _ _ _ => cases o
  | box _ _ _ _ => cases o
  | exc _ _ =>
    cases h with
    | exc h1 h2 h3 => exact .exc h1 (e _ _ h2) (h3.mono e)
  | dik _ =>
    cases h with
    | dik h1 h3 => exact .dik (e _ _ h1) (Paired.mapP h3 fun p q z => ⟨z.1, dpMono e _ _ z.2⟩)
  | pr _ _ => cases o
  | dit _ => cases o
theorem tree_with {s : SL} {t t' : Tr} (h : s.tree = some t) : (s.with t').tree = some t' := by
  cases s with
  | no => cases h
  | val _ => rfl
  | par _ => rfl
theorem ownSlot_eq {E : En} {o : Rf} {i : Nat} (h : ownSlot E o = some i) : o = .slot i ∧ ∃ t, at? E i = some t ∧ isOwn t = true := by
  cases o with
  | own t => cases h
  | slot k =>
    unfold ownSlot at h
    dsimp only at h
    cases q : at? E k with
    | none => rw [q] at h; cases h
    | some t =>
      rw [q] at h
      dsimp only at h
      split at h
      · rename_i ho
        cases h
        exact ⟨rfl, t, q, ho⟩
      · cases h
theorem args_ok : ∀ {os : List Rf} {vs : List V} {G : List Addr} {ts : List Tr}, RepE K A Hi H σ E Fs → RepRs K Hi H σ vs os G → viewsR E os = some ts → (os.filterMap (ownSlot E)).Nodup → (∀ a ∈ G, ¬ InE Fs a) →
    ∃ FA : Nat → List Addr, RepAs K Hi H vs ts FA ∧ ∀ j a, a ∈ FA j → (∃ i, i ∈ os.filterMap (ownSlot E) ∧ a ∈ Fs i) ∨ a ∈ G
  | [], _, _, _, h, r, q, _, _ => by
    cases r
    cases q
    exact ⟨fun _ => [], ⟨rfl, fun i t z => by simp at z, fun _ _ => rfl, fun _ _ _ z => nomatch z⟩, fun _ _ z => nomatch z⟩
  | o :: os, _, _, _, h, r, q, nd, d => by
    cases r with
    | @cons v vs _ _ F G r rs df =>
      rw [viewsR, Option.bind_eq_some_iff] at q
      obtain ⟨t, q1, q2⟩ := q
      rw [Option.map_eq_some_iff] at q2
      obtain ⟨ts, q2, rfl⟩ := q2
      have nd2 : (os.filterMap (ownSlot E)).Nodup := by
        rw [List.filterMap_cons] at nd
        split at nd
        · exact nd
        · exact (List.nodup_cons.mp nd).2
      obtain ⟨FA, ra, fa⟩ := args_ok h rs q2 nd2 fun a ha => d a (List.mem_append_right _ ha)
      have hd : ∃ F0, RepT K Hi H v t F0 ∧ (∀ a ∈ F0, (∃ i, ownSlot E o = some i ∧ a ∈ Fs i) ∨ a ∈ F) := by
        cases r with
        | @slot i _ e =>
          obtain ⟨u, e1, rt⟩ := h.val i t q1
          rw [e] at e1
          cases e1
          cases ho : isOwn t with
          | true =>
            refine ⟨Fs i, rt, fun a ha => .inl ⟨i, ?_, ha⟩⟩
            unfold ownSlot
            dsimp only
            have q1' : at? E i = some t := q1
            rw [q1']
            dsimp only
            rw [if_pos ho]
          | false => exact ⟨Fs i, rt, fun a ha => by rw [own_nil rt ho] at ha; cases ha⟩
        | own rt =>
          cases q1
          exact ⟨F, rt, fun a ha => .inr ha⟩
      obtain ⟨F0, rt, f0⟩ := hd
      have dj : ∀ j a, a ∈ F0 → a ∈ FA j → False := fun j a h0 hj => by
        rcases f0 a h0 with ⟨i, ei, hi⟩ | hF
        · rcases fa j a hj with ⟨k, hk, hk2⟩ | hG
          · have e := h.dis i k a hi hk2
            subst e
            rw [List.filterMap_cons, ei] at nd
            exact (List.nodup_cons.mp nd).1 hk
          · exact d a (List.mem_append_right _ hG) ⟨i, hi⟩
        · rcases fa j a hj with ⟨k, hk, hk2⟩ | hG
          · exact d a (List.mem_append_left _ hF) ⟨k, hk2⟩
          · exact df a hF hG
      refine ⟨fun j => match j with | 0 => F0 | j + 1 => FA j, ⟨by simp [ra.len], fun i t' z => ?_, fun i z => ?_, fun i j a hi hj => ?_⟩, fun j a hj => ?_⟩
      · cases i with
        | zero => simp at z; subst z; exact ⟨v, rfl, rt⟩
        | succ i => exact ra.val i t' (by simpa using z)
      · cases i with
        | zero => simp at z
        | succ i => exact ra.no i (by simpa using z)
      · cases i with
        | zero =>
          cases j with
          | zero => rfl
          | succ j => exact (dj j a hi hj).elim
        | succ i =>
          cases j with
          | zero => exact (dj i a hj hi).elim
          | succ j => rw [ra.dis i j a hi hj]
      · cases j with
        | zero =>
          rcases f0 a hj with ⟨i, ei, hi⟩ | hF
          · exact .inl ⟨i, List.mem_filterMap.mpr ⟨o, List.mem_cons_self, ei⟩, hi⟩
          · exact .inr (List.mem_append_left _ hF)
        | succ j =>
          rcases fa j a hj with ⟨i, hi, hi2⟩ | hG
          · refine .inl ⟨i, ?_, hi2⟩
            obtain ⟨o', ho, e⟩ := List.mem_filterMap.mp hi
            exact List.mem_filterMap.mpr ⟨o', List.mem_cons_of_mem _ ho, e⟩
          · exact .inr (List.mem_append_right _ hG)
structure RepP (K : PySem.W.Frag) (A : List V) (Hi H : Hp) (σ : L2.St) (E : En) (Fs : Nat → List Addr) (S : List Nat) : Prop where
  sub : Same Hi H
  len : E.length = σ.length
  val : ∀ (i : Nat) t, i ∉ S → at? E i = some t → ∃ v, σ[i]? = some (some v) ∧ RepT K Hi H v t (Fs i)
  par : ∀ (i : Nat) t, E[i]? = some (.par t) → ∃ v, σ[i]? = some (some v) ∧ A[i]? = some v
  no : ∀ i, at? E i = none → Fs i = []
  out : ∀ i, i ∈ S → Fs i = []
  dis : ∀ i j a, a ∈ Fs i → a ∈ Fs j → i = j
theorem gives_ok {E0 : En} : ∀ {os : List Rf} {vs : List V} {ts : List Tr} {FA : Nat → List Addr} {E E' : En} {Fs : Nat → List Addr}, RepP K A Hi H σ E Fs (os.filterMap (ownSlot E0)) → RepAs K Hi H vs ts FA → (∀ j a, a ∈ FA j → ¬ InE Fs a) →
    (∀ (j : Nat) i, os[j]? = some (.slot i) → ∃ v, σ[i]? = some (some v) ∧ vs[j]? = some v) → (os.filterMap (ownSlot E0)).Nodup → (∀ i, i ∈ os.filterMap (ownSlot E0) → E[i]? = E0[i]?) → gives E0 E os ts = some E' →
    ∃ Fs', RepE K A Hi H σ E' Fs' ∧ ∀ a, InE Fs' a → InE Fs a ∨ InE FA a
  | [], _, [], FA, E, E', Fs, h, ra, _, _, _, _, q => by
    cases q
    exact ⟨Fs, ⟨h.sub, h.len, fun i t => h.val i t (fun z => nomatch z), h.par, h.no, h.dis⟩, fun a => .inl⟩
  | [], _, _ :: _, _, _, _, _, _, _, _, _, _, _, q => by cases q
  | .own _ :: _, _, [], _, _, _, _, _, _, _, _, _, _, q => by cases q
  | .slot _ :: _, _, [], _, _, _, _, _, _, _, _, _, _, q => by cases q
  | o :: os, [], t :: ts, _, _, _, _, _, ra, _, _, _, _, _ => by
    have := ra.len
    cases this
  | .own t0 :: os, v :: vs, t :: ts, FA, E, E', Fs, h, ra, df, hv, nd, he, q => by
    have e0 : (Rf.own t0 :: os).filterMap (ownSlot E0) = os.filterMap (ownSlot E0) := rfl
    rw [e0] at h nd he
    have ra' : RepAs K Hi H vs ts (fun j => FA (j + 1)) := ⟨by have := ra.len; simpa using this, fun i t z => by simpa using ra.val (i + 1) t (by simpa using z), fun i z => ra.no (i + 1) (by simpa using z), fun i j a hi hj => by have := ra.dis _ _ a hi hj; omega⟩
    obtain ⟨Fs', h', hF⟩ := gives_ok h ra' (fun j a hj => df (j + 1) a hj) (fun j i z => by simpa using hv (j + 1) i (by simpa using z)) nd he q
    exact ⟨Fs', h', fun a ha => (hF a ha).imp id fun ⟨j, hj⟩ => ⟨j + 1, hj⟩⟩
  | .slot i :: os, v :: vs, t :: ts, FA, E, E', Fs, h, ra, df, hv, nd, he, q => by
    have ra' : RepAs K Hi H vs ts (fun j => FA (j + 1)) := ⟨by have := ra.len; simpa using this, fun i t z => by simpa using ra.val (i + 1) t (by simpa using z), fun i z => ra.no (i + 1) (by simpa using z), fun i j a hi hj => by have := ra.dis _ _ a hi hj; omega⟩
    have hv' : ∀ (j : Nat) k, os[j]? = some (.slot k) → ∃ v, σ[k]? = some (some v) ∧ vs[j]? = some v := fun j k z => by simpa using hv (j + 1) k (by simpa using z)
    rw [gives] at q
    cases q0 : E0[i]? with
    | none => rw [q0] at q; cases q
    | some s =>
      rw [q0] at q
      dsimp only at q
      by_cases ho : s.tree.map isOwn = some true
      · rw [if_pos ho] at q
        obtain ⟨t0, ht0, ho0⟩ := Option.map_eq_some_iff.mp ho
        have es : ownSlot E0 (.slot i) = some i := by
          unfold ownSlot at?
          dsimp only
          rw [q0]
          show (match s.tree with | some t => if isOwn t = true then some i else none | none => none) = some i
          rw [ht0]
          show (if isOwn t0 = true then some i else none) = some i
          rw [if_pos ho0]
        rw [List.filterMap_cons, es] at h nd he
        dsimp only at h nd he
        obtain ⟨ni, nd'⟩ := List.nodup_cons.mp nd
        have ei : E[i]? = some s := (he i List.mem_cons_self).trans q0
        have hlt := lt_of_at ei
        obtain ⟨v', ev', evv⟩ := hv 0 i rfl
        have evv' : v = v' := by simpa using evv
        subst evv'
        obtain ⟨v2, ev2, rt⟩ := ra.val 0 t rfl
        have ev2' : v = v2 := by simpa using ev2
        subst ev2'
        have tw := tree_with (t' := t) ht0
        have hnew : RepP K A Hi H σ (E.set i (s.with t)) (fset Fs i (FA 0)) (os.filterMap (ownSlot E0)) := by
          refine ⟨h.sub, by rw [List.length_set]; exact h.len, fun j t' nj z => ?_, fun j t' z => ?_, fun j z => ?_, fun j hj => ?_, fun j k a hj hk => ?_⟩
          · rw [at_set] at z
            by_cases e : i = j
            · subst e
              rw [if_pos ⟨rfl, hlt⟩, tw] at z
              cases z
              exact ⟨v, ev', by rw [fset_same]; exact rt⟩
            · rw [if_neg (fun y => e y.1)] at z
              obtain ⟨u, e1, r1⟩ := h.val j t' (fun y => (List.mem_cons.mp y).elim (fun x => e x.symm) nj) z
              exact ⟨u, e1, by rw [fset_ne (Ne.symm e)]; exact r1⟩
          · rw [List.getElem?_set] at z
            by_cases e : i = j
            · subst e
              rw [if_pos rfl, if_pos hlt] at z
              cases s with
              | no => cases ht0
              | val _ => cases z
              | par t1 => exact h.par i t1 ei
            · rw [if_neg e] at z
              exact h.par j t' z
          · rw [at_set] at z
            by_cases e : i = j
            · subst e
              rw [if_pos ⟨rfl, hlt⟩, tw] at z
              cases z
            · rw [if_neg (fun y => e y.1)] at z
              rw [fset_ne (Ne.symm e)]
              exact h.no j z
          · by_cases e : j = i
            · subst e
              exact absurd hj ni
            · rw [fset_ne e]
              exact h.out j (List.mem_cons_of_mem _ hj)
          · by_cases e1 : j = i
            · subst e1
              rw [fset_same] at hj
              by_cases e2 : k = j
              · exact e2.symm
              · rw [fset_ne e2] at hk
                exact absurd ⟨k, hk⟩ (df 0 a hj)
            · rw [fset_ne e1] at hj
              by_cases e2 : k = i
              · subst e2
                rw [fset_same] at hk
                exact absurd ⟨j, hj⟩ (df 0 a hk)
              · rw [fset_ne e2] at hk
                exact h.dis j k a hj hk
        obtain ⟨Fs', h', hF⟩ := gives_ok hnew ra' (fun j a hj hin => by
          rcases inE_fset hin with z | z
          · exact df (j + 1) a hj z
          · have := ra.dis _ _ a hj z
            omega) hv' nd' (fun k hk => by
          have hne : i ≠ k := fun e => ni (e ▸ hk)
          rw [List.getElem?_set_ne hne]
          exact he k (List.mem_cons_of_mem _ hk)) q
        refine ⟨Fs', h', fun a ha => ?_⟩
        rcases hF a ha with z | ⟨j, hj⟩
        · rcases inE_fset z with z | z
          · exact .inl z
          · exact .inr ⟨0, z⟩
        · exact .inr ⟨j + 1, hj⟩
      · rw [if_neg ho] at q
        have es : ownSlot E0 (.slot i) = none := by
          cases z : ownSlot E0 (.slot i) with
          | none => rfl
          | some k =>
            obtain ⟨e1, t1, e2, e3⟩ := ownSlot_eq z
            cases e1
            refine absurd ?_ ho
            unfold at? at e2
            rw [q0] at e2
            have e2' : s.tree = some t1 := e2
            rw [e2']
            show some (isOwn t1) = some true
            rw [e3]
        rw [List.filterMap_cons, es] at h nd he
        dsimp only at h nd he
        obtain ⟨Fs', h', hF⟩ := gives_ok h ra' (fun j a hj => df (j + 1) a hj) hv' nd he q
        exact ⟨Fs', h', fun a ha => (hF a ha).imp id fun ⟨j, hj⟩ => ⟨j + 1, hj⟩⟩
theorem repRs_slot : ∀ {vs : List V} {os : List Rf} {G : List Addr}, RepRs K Hi H σ vs os G → ∀ (j : Nat) i, os[j]? = some (.slot i) → ∃ v, σ[i]? = some (some v) ∧ vs[j]? = some v
  | _, _, _, .nil, j, i, z => by simp at z
  | _, _, _, .cons (o := o) r rs _, 0, i, z => by
    have e : o = Rf.slot i := by simpa using z
    subst e
    cases r with
    | slot e => exact ⟨_, e, rfl⟩
  | _, _, _, .cons r rs _, j + 1, i, z => by
    obtain ⟨v, a, b⟩ := repRs_slot rs j i (by simpa using z)
    exact ⟨v, a, by simpa using b⟩
theorem fr_call {n : Nat} {mf : MFn} {tr : TA} {ms : MA} {E0 : XK} (hs : AR K tr ms) : FR K (tCall (spM K n mf) [] E0 tr) (mCall n mf ms) := fun E w E' q A σ Hi H Fs h Q k => by
  unfold mCall at q
  obtain ⟨⟨os, E1⟩, q1, q⟩ := Option.bind_eq_some_iff.mp q
  obtain ⟨ts, q2, q⟩ := Option.bind_eq_some_iff.mp q
  dsimp only at q q2
  split at q
  · rename_i hc
    obtain ⟨hn, nd⟩ := hc
    obtain ⟨⟨r, ts'⟩, q3, q⟩ := Option.bind_eq_some_iff.mp q
    obtain ⟨E2, q4, q⟩ := Option.bind_eq_some_iff.mp q
    cases q
    refine hs E os E1 q1 A σ Hi H Fs h _ fun vs Hi1 H1 Fs1 G r1 h1 d1 s1 => ?_
    obtain ⟨FA, ra, fa⟩ := args_ok h1 r1 q2 nd d1
    have hsl := repRs_slot r1
    show spM K n mf (vs ++ []) H1 Q E0
    rw [List.append_nil]
    refine ⟨ts, _, ts', Hi1, FA, q3, hn, h1.sub, ra, fun v Hi2 H2 FA' W ra' sub rw dw s2 => ?_⟩
    have apart : ∀ i a, a ∈ Fs1 i → i ∉ os.filterMap (ownSlot E1) → ¬ InE FA a := fun i a ha ni ⟨j, hj⟩ => by
      rcases fa j a hj with ⟨k, hk, hk2⟩ | hG
      · have e := h1.dis i k a ha hk2
        subst e
        exact ni hk
      · exact d1 a hG ⟨i, ha⟩
    have hP : RepP K A Hi2 H2 σ E1 (fun i => if i ∈ os.filterMap (ownSlot E1) then [] else Fs1 i) (os.filterMap (ownSlot E1)) := by
      refine ⟨sub, h1.len, fun i t ni z => ?_, h1.par, fun i z => ?_, fun i hi => if_pos hi, fun i j a hi hj => ?_⟩
      · obtain ⟨u, e1, rt⟩ := h1.val i t z
        refine ⟨u, e1, ?_⟩
        rw [if_neg ni]
        exact s2.keep rt fun x hx => apart i x hx ni
      · rw [h1.no i z]
        split <;> rfl
      · split at hi
        · cases hi
        · split at hj
          · cases hj
          · exact h1.dis i j a hi hj
    have out : ∀ a, InE (fun i => if i ∈ os.filterMap (ownSlot E1) then [] else Fs1 i) a → InE Fs1 a ∧ ¬ InE FA a := fun a ⟨i, hi⟩ => by
      dsimp only at hi
      split at hi
      · cases hi
      · rename_i ni
        exact ⟨⟨i, hi⟩, apart i a hi ni⟩
    have away : ∀ a, InE Fs1 a → ¬ InE FA a → ¬ (InE FA' a ∨ a ∈ W) := fun a ha na hf => by
      obtain ⟨_, o, e⟩ := h1.own ha
      rcases s2.nw a hf with z | z
      · exact na z
      · rw [e] at z; cases z
    obtain ⟨Fs2, h2, hF⟩ := gives_ok hP ra' (fun j a hj hin => by
      obtain ⟨x1, x2⟩ := out a hin
      exact away a x1 x2 (.inl ⟨j, hj⟩)) hsl nd (fun _ _ => rfl) q4
    refine k v Hi2 H2 Fs2 W rw h2 (fun a ha hin => ?_) ?_
    · rcases hF a hin with z | z
      · obtain ⟨x1, x2⟩ := out a z
        exact away a x1 x2 (.inr ha)
      · exact dw a ha z
    · have s2' : Step Hi1 H1 (fun a => InE Fs1 a ∨ a ∈ G) Hi2 H2 (fun a => InE Fs2 a ∨ a ∈ W) := by
        refine ⟨s2.ex, fun a o e f => s2.fr a o e fun ⟨j, hj⟩ => ?_, fun a z => ?_, fun a o e => ?_⟩
        · rcases fa j a hj with ⟨i, _, hi⟩ | hG
          · exact f (.inl ⟨i, hi⟩)
          · exact f (.inr hG)
        · rcases z with z | z
          · rcases hF a z with z | z
            · exact .inl (.inl (out a z).1)
            · rcases s2.nw a (.inl z) with ⟨j, hj⟩ | z
              · rcases fa j a hj with ⟨i, _, hi⟩ | hG
                · exact .inl (.inl ⟨i, hi⟩)
                · exact .inl (.inr hG)
              · exact .inr z
          · rcases s2.nw a (.inr z) with ⟨j, hj⟩ | z
            · rcases fa j a hj with ⟨i, _, hi⟩ | hG
              · exact .inl (.inl ⟨i, hi⟩)
              · exact .inl (.inr hG)
            · exact .inr z
        · rcases s2.nh a o e with z | ⟨j, hj⟩ | z
          · exact .inl z
          · rcases fa j a hj with ⟨i, _, hi⟩ | hG
            · exact .inr (.inl (.inl ⟨i, hi⟩))
            · exact .inr (.inl (.inr hG))
          · exact .inr (.inr z)
      exact s1.trans s2'
  · cases q
def startE (n : Nat) (ts : List Tr) : En := ts.map (fun t => if isOwn t = true then SL.par t else SL.val t) ++ List.replicate (n - ts.length) .no
def backs : List Tr → En → Option (List Tr)
  | [], _ => some []
  | t :: ts, s :: E => if isOwn t = true then (match s with | .par t' => (backs ts E).map (t' :: ·) | _ => none) else (backs ts E).map (t :: ·)
  | _ :: _, [] => none
def mFn (n : Nat) (mb : MS) : MFn := fun ts => (mb (startE n ts)).bind fun o => match o with
  | .rt r E' => (backs ts E').map fun ts' => (r, ts')
  | .nx E' => (backs ts E').map fun ts' => (.imm .none, ts')
  | _ => none
theorem startE_at {n : Nat} {ts : List Tr} {i : Nat} : at? (startE n ts) i = ts[i]? := by
  unfold at? startE
  rw [List.getElem?_append]
  by_cases h : i < ts.length
  · rw [if_pos (by simpa using h), List.getElem?_map]
    cases q : ts[i]? with
    | none => rfl
    | some t =>
      show SL.tree (if isOwn t = true then SL.par t else SL.val t) = some t
      split <;> rfl
  · rw [if_neg (by simpa using h), List.getElem?_eq_none_iff.mpr (show ts.length ≤ i by omega)]
    rw [List.getElem?_replicate]
    split <;> rfl
theorem backs_get : ∀ {ts : List Tr} {E : En} {ts' : List Tr}, backs ts E = some ts' → ts'.length = ts.length ∧ ∀ (i : Nat) t', ts'[i]? = some t' → ∃ t, ts[i]? = some t ∧ ((isOwn t = true ∧ E[i]? = some (.par t')) ∨ (isOwn t = false ∧ t' = t))
  | [], _, _, q => by
    cases q
    exact ⟨rfl, fun i t' z => by simp at z⟩
  | _ :: _, [], _, q => by cases q
  | t :: ts, s :: E, ts', q => by
    unfold backs at q
    split at q
    · rename_i ho
      split at q
      · rename_i t1
        obtain ⟨r, q1, rfl⟩ := Option.map_eq_some_iff.mp q
        obtain ⟨l, g⟩ := backs_get q1
        refine ⟨by simp [l], fun i t' z => ?_⟩
        cases i with
        | zero => simp at z; subst z; exact ⟨t, rfl, .inl ⟨ho, rfl⟩⟩
        | succ i => simpa using g i t' (by simpa using z)
      · cases q
    · rename_i ho
      obtain ⟨r, q1, rfl⟩ := Option.map_eq_some_iff.mp q
      obtain ⟨l, g⟩ := backs_get q1
      refine ⟨by simp [l], fun i t' z => ?_⟩
      cases i with
      | zero => simp at z; subst z; exact ⟨t, rfl, .inr ⟨by simpa using ho, rfl⟩⟩
      | succ i => simpa using g i t' (by simpa using z)
theorem start_ok {N : List Str} {vs : List V} {ts : List Tr} (ra : RepAs K Hi H vs ts Fs) (sub : Same Hi H) (hl : vs.length ≤ N.length) : RepE K vs Hi H (L2.start N vs) (startE N.length ts) Fs := by
  have hvs : ∀ (i : Nat) v, vs[i]? = some v → (L2.start N vs)[i]? = some (some v) := fun i v z => by
    unfold L2.start
    have hi := (List.getElem?_eq_some_iff.mp z).1
    rw [List.getElem?_append, if_pos (by simpa using hi), List.getElem?_map, z]
    rfl
  refine ⟨sub, ?_, fun i t q => ?_, fun i t q => ?_, fun i q => ?_, ra.dis⟩
  · unfold startE L2.start
    simp [ra.len]
  · rw [startE_at] at q
    obtain ⟨v, e, r⟩ := ra.val i t q
    exact ⟨v, hvs i v e, r⟩
  · have q' : at? (startE N.length ts) i = some t := at_par q
    rw [startE_at] at q'
    obtain ⟨v, e, r⟩ := ra.val i t q'
    exact ⟨v, hvs i v e, e⟩
  · rw [startE_at] at q
    exact ra.no i q
theorem back_ok {vs : List V} {ts ts' : List Tr} {E' : En} {Fs' : Nat → List Addr} {σ' : L2.St} (ra : RepAs K Hi H vs ts Fs) (ex : Same Hi Hi') (h : RepE K vs Hi' H' σ' E' Fs') (q : backs ts E' = some ts') :
    RepAs K Hi' H' vs ts' (fun i => if (ts[i]?.map isOwn) = some true then Fs' i else []) := by
  obtain ⟨l, g⟩ := backs_get q
  refine ⟨by rw [l, ra.len], fun i t' z => ?_, fun i z => ?_, fun i j a hi hj => ?_⟩
  · obtain ⟨t, e, c⟩ := g i t' z
    obtain ⟨v, ev, rt⟩ := ra.val i t e
    rcases c with ⟨ho, ep⟩ | ⟨ho, rfl⟩
    · obtain ⟨u, e1, r1⟩ := h.val i t' (at_par ep)
      obtain ⟨u', e2, e3⟩ := h.par i t' ep
      rw [e1] at e2
      cases e2
      refine ⟨u, e3, ?_⟩
      rw [e]
      dsimp only [Option.map]
      rw [if_pos (by rw [ho])]
      exact r1
    · refine ⟨v, ev, ?_⟩
      rw [e]
      dsimp only [Option.map]
      rw [if_neg (by rw [ho]; decide)]
      exact still rt ho ex
  · have : ts[i]? = none := by
      rw [List.getElem?_eq_none_iff] at z ⊢
      omega
    rw [this]
    exact if_neg (by intro z; cases z)
  · split at hi
    · split at hj
      · exact h.dis i j a hi hj
      · cases hj
    · cases hi
theorem fn_run {N : List Str} {n : Nat} {t : TS} {m : MS} {vs : List V} {Q : VK} {E1 : XK} (hb : SR K Wx t m) (hn : n ≤ N.length) (h : spM K n (mFn N.length m) vs H Q E1) : t { nx := fun _ H' => Q .non H', rt := Q } (L2.start N vs) H := by
  obtain ⟨ts, r, ts', Hi, Fs, q, hl, sub, ra, k⟩ := h
  unfold mFn at q
  obtain ⟨o, q1, q⟩ := Option.bind_eq_some_iff.mp q
  refine hb _ o q1 vs _ Hi H Fs _ (start_ok ra sub (by rw [ra.len, hl]; exact hn)) ?_
  have fin : ∀ (v : V) (σ' : L2.St) (Hi' H' : Hp) (Fs' : Nat → List Addr) (G : List Addr) (E' : En) (tr : Tr), RepT K Hi' H' v tr G → RepE K vs Hi' H' σ' E' Fs' → (∀ a ∈ G, ¬ InE Fs' a) → Step Hi H (InE Fs) Hi' H' (fun a => InE Fs' a ∨ a ∈ G) →
      backs ts E' = some ts' → r = tr → Q v H' := fun v σ' Hi' H' Fs' G E' tr rt h' d s e er => by
    subst er
    have sb : ∀ a, InE (fun i => if (ts[i]?.map isOwn) = some true then Fs' i else []) a → InE Fs' a := fun a ⟨i, hi⟩ => by
      dsimp only at hi
      split at hi
      · exact ⟨i, hi⟩
      · cases hi
    exact k v Hi' H' _ G (back_ok ra s.ex h' e) h'.sub rt (fun a ha hf => d a ha (sb a hf)) (s.weak fun x z => z.imp (sb x) id)
  cases o with
  | rt tr E' =>
    obtain ⟨ts2, q2, e⟩ := Option.map_eq_some_iff.mp q
    cases e
    exact fun v σ' Hi' H' Fs' G rt h' d s => fin v σ' Hi' H' Fs' G E' _ rt h' d s q2 rfl
  | nx E' =>
    obtain ⟨ts2, q2, e⟩ := Option.map_eq_some_iff.mp q
    cases e
    exact fun σ' Hi' H' Fs' h' s => fin .non σ' Hi' H' Fs' [] E' (.imm .none) (.imm .non) h' (fun a z => nomatch z) (s.weak fun x z => z.elim id fun y => nomatch y) q2 rfl
  | bk E' => cases q
  | ct E' => cases q
  | xc cn ds E' => cases q
end
end FL
namespace FL
open PySem L2
structure ItOk (K : PySem.W.Frag) (J : It) (Hi1 : Hp) (ds : List PyData) : Prop where
  stop : ∀ Hi H, Same Hi1 Hi → Same Hi H → ∀ i, ds.length ≤ i → J.stop i H
  go : ∀ Hi H, Same Hi1 Hi → Same Hi H → ∀ i, i < ds.length → J.go i H
  yld : ∀ Hi H, Same Hi1 Hi → Same Hi H → ∀ (i : Nat) d x H', ds[i]? = some d → J.yld i H x H' → ∃ Hi', Grow Hi H Hi' H' [] ∧ Dp K Hi' x d
def IR (K : PySem.W.Frag) (wi : TI) (m : MI) : Prop := ∀ E ds E', m E = some (ds, E') → ∀ A σ Hi H Fs, RepE K A Hi H σ E Fs → ∀ R : It → Hp → Prop,
  (∀ J Hi' H' Fs', ItOk K J Hi' ds → RepE K A Hi' H' σ E' Fs' → Step Hi H (InE Fs) Hi' H' (InE Fs') → R J H') → wi σ H R
section
variable {K : PySem.W.Frag} {Wx : L2.WX} {A : List V} {Hi H Hi1 H1 Hi' H' : Hp} {σ : L2.St} {E : En} {Fs : Nat → List Addr} {te : TE} {m : MF} {ma : MR}
def afterTurn (go : En → Option Out) : Out → Option Out
  | .nx E => go E
  | .ct E => go E
  | .bk E => some (.nx E)
  | .rt t E => some (.rt t E)
  | .xc cn ds E => some (.xc cn ds E)
def forD (mg : Tr → En → Option En) (mb : MS) : List PyData → MS
  | [], E => some (.nx E)
  | d :: ds, E => (mg (.imm d) E).bind fun E1 => (mb E1).bind (afterTurn (forD mg mb ds))
def mFor (mi : MI) (mg : Tr → En → Option En) (mb : MS) : MS := fun E => (mi E).bind fun p => forD mg mb p.1 p.2
theorem sr_for {wi : TI} {g : TG} {tb : TS} {mi : MI} {mg : Tr → En → Option En} {mb : MS} {ws : List Nat} (hi : IR K wi mi) (hg : GR K g mg ws) (hb : SR K Wx tb mb) : SR K Wx (tFor wi g tb) (mFor mi mg mb) := fun E out q A σ Hi H Fs D h go => by
  obtain ⟨⟨ds, E1⟩, q1, q⟩ := Option.bind_eq_some_iff.mp q
  refine hi E ds E1 q1 A σ Hi H Fs h _ fun J Hi1 H1 Fs1 it h1 s1 => ?_
  refine ⟨fun i m σ' H' => i + m = ds.length ∧ ∃ E' Hi' Fs', RepE K A Hi' H' σ' E' Fs' ∧ Same Hi1 Hi' ∧ Step Hi H (InE Fs) Hi' H' (InE Fs') ∧ forD mg mb (ds.drop i) E' = some out,
    ⟨ds.length, by simp, E1, Hi1, Fs1, h1, Same.refl _, s1, q⟩, fun i m σ' H' hw => ?_⟩
  obtain ⟨hm, E', Hi', Fs', h', ex, s', qf⟩ := hw
  cases e : ds.drop i with
  | nil =>
    rw [e] at qf
    cases qf
    have hl : ds.length ≤ i := List.drop_eq_nil_iff.mp e
    exact .inl ⟨it.stop Hi' H' ex h'.sub i hl, go σ' Hi' H' Fs' h' s'⟩
  | cons d r =>
    have hlt : i < ds.length := by
      refine Nat.lt_of_not_le fun z => ?_
      rw [List.drop_eq_nil_iff.mpr z] at e
      cases e
    have hd : ds[i]? = some d := by
      have := List.getElem?_drop (xs := ds) (i := i) (j := 0)
      rw [e] at this
      simpa using this.symm
    have hr : ds.drop (i + 1) = r := by
      rw [← List.drop_drop, e]
      rfl
    rw [e] at qf
    obtain ⟨E2, q2, qf⟩ := Option.bind_eq_some_iff.mp qf
    obtain ⟨o, q3, qf⟩ := Option.bind_eq_some_iff.mp qf
    refine .inr ⟨it.go Hi' H' ex h'.sub i hlt, fun σ2 H2 => i + 1 + (m - 1) = ds.length ∧ ∃ E' Hi' Fs', RepE K A Hi' H2 σ2 E' Fs' ∧ Same Hi1 Hi' ∧ Step Hi H (InE Fs) Hi' H2 (InE Fs') ∧ forD mg mb (ds.drop (i + 1)) E' = some out,
      fun σ2 H2 hN => ⟨m - 1, by omega, hN⟩, fun x H2 hy => ?_⟩
    obtain ⟨Hi2, gr, hx⟩ := it.yld Hi' H' ex h'.sub i d x H2 hd hy
    refine hg (.imm d) E' E2 q2 A σ' Hi2 H2 Fs' x [] (h'.grow gr) (.imm hx) (fun a z => nomatch z) _ fun σ3 Hi3 H3 Fs3 _ h3 s3 => ?_
    have s03 : Step Hi H (InE Fs) Hi3 H3 (InE Fs3) := s'.trans ((gr.step _).trans s3)
    have ex3 : Same Hi1 Hi3 := ex.trans (gr.ex.trans s3.ex)
    refine hb E2 o q3 A σ3 Hi3 H3 Fs3 _ h3 ?_
    have again : ∀ E4, forD mg mb r E4 = some out → ∀ σ4 Hi4 H4 Fs4, RepE K A Hi4 H4 σ4 E4 Fs4 → Step Hi3 H3 (InE Fs3) Hi4 H4 (InE Fs4) → i + 1 + (m - 1) = ds.length ∧ ∃ E' Hi' Fs', RepE K A Hi' H4 σ4 E' Fs' ∧ Same Hi1 Hi' ∧ Step Hi H (InE Fs) Hi' H4 (InE Fs') ∧ forD mg mb (ds.drop (i + 1)) E' = some out :=
      fun E4 q4 σ4 Hi4 H4 Fs4 h4 s4 => ⟨by omega, E4, Hi4, Fs4, h4, ex3.trans s4.ex, s03.trans s4, by rw [hr]; exact q4⟩
    cases o with
    | nx E4 => exact again E4 qf
    | ct E4 => exact again E4 qf
    | bk E4 => cases qf; exact Goal.from (out := .nx E4) go s03
    | rt t E4 => cases qf; exact Goal.from (out := .rt t E4) go s03
    | xc cn ds E4 => cases qf; exact Goal.from (out := .xc cn ds E4) go s03
def whileF (mc : MT) (mb : MS) : Nat → MS
  | 0, _ => none
  | n + 1, E => (mc E).bind fun p => if p.1 = true then (mb p.2).bind (afterTurn (whileF mc mb n)) else some (.nx p.2)
theorem whileF_succ {mc : MT} {mb : MS} : ∀ {n : Nat} {E : En} {o : Out}, whileF mc mb n E = some o → whileF mc mb (n + 1) E = some o
  | 0, _, _, q => by cases q
  | n + 1, E, o, q => by
    obtain ⟨p, q1, q⟩ := Option.bind_eq_some_iff.mp q
    show (mc E).bind _ = some o
    rw [q1]
    show (if p.1 = true then (mb p.2).bind (afterTurn (whileF mc mb (n + 1))) else some (.nx p.2)) = some o
    split at q
    · rename_i hp
      rw [if_pos hp]
      obtain ⟨o1, q2, q⟩ := Option.bind_eq_some_iff.mp q
      rw [q2]
      cases o1 with
      | nx E1 => exact whileF_succ q
      | ct E1 => exact whileF_succ q
      | bk E1 => exact q
      | rt t E1 => exact q
      | xc cn ds E1 => exact q
    · rename_i hp
      rw [if_neg hp]
      exact q
theorem whileF_more {mc : MT} {mb : MS} {n : Nat} {E : En} {o : Out} (q : whileF mc mb n E = some o) : ∀ k, whileF mc mb (n + k) E = some o
  | 0 => q
  | k + 1 => whileF_succ (whileF_more q k)
open Classical in
noncomputable def mWhile (mc : MT) (mb : MS) : MS := fun E => if h : ∃ n o, whileF mc mb n E = some o then whileF mc mb (Classical.choose h) E else none
theorem mWhile_of {mc : MT} {mb : MS} {n : Nat} {E : En} {o : Out} (q : whileF mc mb n E = some o) : mWhile mc mb E = some o := by
  have h : ∃ n o, whileF mc mb n E = some o := ⟨n, o, q⟩
  unfold mWhile
  rw [dif_pos h]
  obtain ⟨o', q'⟩ := Classical.choose_spec h
  have a := whileF_more q (Classical.choose h)
  have b := whileF_more q' n
  rw [Nat.add_comm] at b
  rw [a] at b
  rw [q', b]
theorem mWhile_fuel {mc : MT} {mb : MS} {E : En} {o : Out} (q : mWhile mc mb E = some o) : ∃ n, whileF mc mb n E = some o := by
  unfold mWhile at q
  split at q
  · exact ⟨_, q⟩
  · cases q
theorem sr_while {c : TT} {tb : TS} {mc : MT} {mb : MS} (hc : TR K c mc) (hb : SR K Wx tb mb) : SR K Wx (tWhile c tb) (mWhile mc mb) := fun E out q A σ Hi H Fs D h go => by
  obtain ⟨n, q⟩ := mWhile_fuel q
  refine ⟨fun m σ' H' => ∃ E' Hi' Fs', RepE K A Hi' H' σ' E' Fs' ∧ Step Hi H (InE Fs) Hi' H' (InE Fs') ∧ whileF mc mb m E' = some out, ⟨n, E, Hi, Fs, h, Step.refl _ _ _, q⟩, fun m σ' H' hw => ?_⟩
  obtain ⟨E', Hi', Fs', h', s', qf⟩ := hw
  cases m with
  | zero => cases qf
  | succ m =>
    obtain ⟨⟨b, E1⟩, q1, qf⟩ := Option.bind_eq_some_iff.mp qf
    refine hc E' b E1 q1 A σ' Hi' H' Fs' h' _ fun Hi1 H1 Fs1 h1 s1 => ?_
    have s01 := s'.trans s1
    cases b with
    | false =>
      cases qf
      exact go σ' Hi1 H1 Fs1 h1 s01
    | true =>
      obtain ⟨o, q2, qf⟩ := Option.bind_eq_some_iff.mp (show (mb E1).bind (afterTurn (whileF mc mb m)) = some out from qf)
      refine ⟨fun σ2 H2 => ∃ E' Hi' Fs', RepE K A Hi' H2 σ2 E' Fs' ∧ Step Hi H (InE Fs) Hi' H2 (InE Fs') ∧ whileF mc mb m E' = some out, fun σ2 H2 hN => ⟨m, Nat.lt_succ_self _, hN⟩, ?_⟩
      refine hb E1 o q2 A σ' Hi1 H1 Fs1 _ h1 ?_
      cases o with
      | nx E4 => exact fun σ4 Hi4 H4 Fs4 h4 s4 => ⟨E4, Hi4, Fs4, h4, s01.trans s4, qf⟩
      | ct E4 => exact fun σ4 Hi4 H4 Fs4 h4 s4 => ⟨E4, Hi4, Fs4, h4, s01.trans s4, qf⟩
      | bk E4 => cases qf; exact Goal.from (out := .nx E4) go s01
      | rt t E4 => cases qf; exact Goal.from (out := .rt t E4) go s01
      | xc cn ds E4 => cases qf; exact Goal.from (out := .xc cn ds E4) go s01
def wipeE (E : En) : List Nat → Option En
  | [] => some E
  | v :: vs => (wipeE E vs).bind fun E' => match E'[v]? with
    | some (.par _) => none
    | _ => some (E'.set v .no)
def backE (E0 E : En) : List Nat → En
  | [] => E
  | v :: vs => match E0[v]? with
    | some (.val (.imm d)) => (backE E0 E vs).set v (.val (.imm d))
    | _ => backE E0 E vs
def lcD (mg : Tr → En → Option En) (mt : MT) (mf : MF) (vs : List Nat) : List PyData → List Tr → En → Option (List Tr × En)
  | [], acc, E => some (acc, E)
  | d :: ds, acc, E => (mg (.imm d) E).bind fun E1 => (mt E1).bind fun p => if p.1 = true then (mf p.2).bind fun r => if acc.length < 16777216 then (wipeE r.2 vs).bind fun E4 => lcD mg mt mf vs ds (acc ++ [r.1]) E4 else none
    else (wipeE p.2 vs).bind fun E4 => lcD mg mt mf vs ds acc E4
def mLc (mi : MI) (mg : Tr → En → Option En) (mt : MT) (mf : MF) (vs : List Nat) : MF := fun E => (mi E).bind fun p => (wipeE p.2 vs).bind fun E1 => (lcD mg mt mf vs p.1 [] E1).bind fun r => some (.lst r.1, backE p.2 r.2 vs)
theorem wipeE_ok : ∀ {vs : List Nat} {E E' : En}, RepE K A Hi H σ E Fs → wipeE E vs = some E' → ∃ Fs', RepE K A Hi H (wipe σ vs) E' Fs' ∧ (∀ a, InE Fs' a → InE Fs a) ∧ ∀ i ∈ vs, at? E' i = none
  | [], E, E', h, q => by
    cases q
    exact ⟨Fs, h, fun _ z => z, fun _ z => nomatch z⟩
  | v :: vs, E, E', h, q => by
    obtain ⟨E1, q1, q⟩ := Option.bind_eq_some_iff.mp q
    obtain ⟨Fs1, h1, f1, n1⟩ := wipeE_ok h q1
    have q' : E' = E1.set v .no ∧ ∀ t, E1[v]? ≠ some (.par t) := by
      split at q
      · cases q
      · rename_i e
        cases q
        exact ⟨rfl, fun t z => e t z⟩
    obtain ⟨rfl, np⟩ := q'
    have hat : ∀ j, at? (E1.set v .no) j = if v = j then none else at? E1 j := fun j => by
      rw [at_set]
      by_cases e : v = j
      · subst e
        by_cases hl : v < E1.length
        · rw [if_pos ⟨rfl, hl⟩, if_pos rfl]
          rfl
        · rw [if_neg (fun z => hl z.2), if_pos rfl]
          unfold at?
          rw [List.getElem?_eq_none_iff.mpr (by omega)]
          rfl
      · rw [if_neg (fun z => e z.1), if_neg e]
    refine ⟨fset Fs1 v [], ⟨h1.sub, by show (E1.set v .no).length = ((wipe σ vs).set v none).length; rw [List.length_set, List.length_set, h1.len], fun i t z => ?_, fun i t z => ?_, fun i z => ?_, fun i j a hi hj => ?_⟩, fun a ha => ?_, fun i hi => ?_⟩
    · rw [hat] at z
      by_cases e : v = i
      · rw [if_pos e] at z; cases z
      · rw [if_neg e] at z
        obtain ⟨u, e1, r⟩ := h1.val i t z
        refine ⟨u, ?_, by rw [fset_ne (Ne.symm e)]; exact r⟩
        show ((wipe σ vs).set v none)[i]? = _
        rw [List.getElem?_set_ne e]
        exact e1
    · rw [List.getElem?_set] at z
      by_cases e : v = i
      · rw [if_pos e] at z
        split at z <;> cases z
      · rw [if_neg e] at z
        obtain ⟨u, e1, r⟩ := h1.par i t z
        refine ⟨u, ?_, r⟩
        show ((wipe σ vs).set v none)[i]? = _
        rw [List.getElem?_set_ne e]
        exact e1
    · rw [hat] at z
      by_cases e : v = i
      · subst e; exact fset_same
      · rw [if_neg e] at z
        rw [fset_ne (Ne.symm e)]
        exact h1.no i z
    · by_cases e1 : i = v
      · subst e1; rw [fset_same] at hi; cases hi
      · by_cases e2 : j = v
        · subst e2; rw [fset_same] at hj; cases hj
        · rw [fset_ne e1] at hi
          rw [fset_ne e2] at hj
          exact h1.dis i j a hi hj
    · rcases inE_fset ha with z | z
      · exact f1 a z
      · cases z
    · rw [hat]
      rcases List.mem_cons.mp hi with e | hi
      · rw [if_pos e.symm]
      · split
        · rfl
        · exact n1 i hi
theorem backE_ok : ∀ {vs : List Nat} {E0 E : En} {Fs0 : Nat → List Addr}, RepE K A Hi H σ E0 Fs0 → Same Hi Hi' → RepE K A Hi' H' (wipe σ vs) E Fs → (∀ i ∈ vs, at? E i = none) → RepE K A Hi' H' σ (backE E0 E vs) Fs
  | vs, E0, E, Fs0, h0, ex, h, hn => by
    have hl : σ.length = (wipe σ vs).length := (wipe_length σ vs).symm
    have base : RepE K A Hi' H' σ E Fs := by
      refine ⟨h.sub, by rw [h.len, hl], fun i t z => ?_, fun i t z => ?_, h.no, h.dis⟩
      · obtain ⟨u, e, r⟩ := h.val i t z
        exact ⟨u, (wipe_some e).1, r⟩
      · obtain ⟨u, e, r⟩ := h.par i t z
        exact ⟨u, (wipe_some e).1, r⟩
    have step : ∀ (ws : List Nat), (∀ i ∈ ws, i ∈ vs) → RepE K A Hi' H' σ (backE E0 E ws) Fs := by
      intro ws
      induction ws with
      | nil => intro _; exact base
      | cons v ws ih =>
        intro hv
        have ih := ih fun i hi => hv i (List.mem_cons_of_mem _ hi)
        unfold backE
        split
        · rename_i d e
          obtain ⟨u, e1, r⟩ := h0.val v _ (at_val e)
          have hd := dpMono ex _ _ r.imm_inv.1
          have hlt : v < (backE E0 E ws).length := by rw [ih.len, ← h0.len]; exact lt_of_at e
          have hF : Fs v = [] := h.no v (hn v (hv v List.mem_cons_self))
          refine ⟨ih.sub, by rw [List.length_set]; exact ih.len, fun i t z => ?_, fun i t z => ?_, fun i z => ?_, ih.dis⟩
          · rw [at_set] at z
            by_cases ei : v = i
            · subst ei
              rw [if_pos ⟨rfl, hlt⟩] at z
              cases z
              exact ⟨u, e1, by rw [hF]; exact .imm hd⟩
            · rw [if_neg (fun y => ei y.1)] at z
              exact ih.val i t z
          · rw [List.getElem?_set] at z
            by_cases ei : v = i
            · rw [if_pos ei] at z
              split at z <;> cases z
            · rw [if_neg ei] at z
              exact ih.par i t z
          · rw [at_set] at z
            by_cases ei : v = i
            · subst ei; exact hF
            · rw [if_neg (fun y => ei y.1)] at z
              exact ih.no i z
        · exact ih
    exact step vs fun _ z => z
theorem wipe_chg {ws vs : List Nat} {σ0 σ2 : L2.St} (c : Chg ws (wipe σ0 vs) σ2) (hs : ∀ i ∈ ws, i ∈ vs) : wipe σ2 vs = wipe σ0 vs := by
  refine List.ext_getElem? fun i => ?_
  have hmem : ∀ (τ : L2.St), i ∈ vs → (wipe τ vs)[i]? = if i < τ.length then some none else none := fun τ hi => by
    by_cases hl : i < τ.length
    · rw [if_pos hl]
      have hl2 : i < (wipe τ vs).length := by rw [wipe_length]; exact hl
      cases q : (wipe τ vs)[i]? with
      | none => rw [List.getElem?_eq_none_iff] at q; omega
      | some o =>
        cases o with
        | none => rfl
        | some x => exact absurd hi (wipe_some q).2
    · rw [if_neg hl, List.getElem?_eq_none_iff, wipe_length]
      omega
  by_cases hi : i ∈ vs
  · rw [hmem _ hi, hmem _ hi, c.1, wipe_length]
  · rw [wipe_out hi, c.2 i fun z => hi (hs i z)]
theorem RepTs.snoc {vs : List V} {ts : List Tr} {F G : List Addr} {v : V} {t : Tr} : RepTs K Hi H vs ts F → RepT K Hi H v t G → (∀ a ∈ F, a ∉ G) → ∃ F', RepTs K Hi H (vs ++ [v]) (ts ++ [t]) F' ∧ ∀ a, a ∈ F' ↔ a ∈ F ∨ a ∈ G
  | .nil, r, _ => ⟨G ++ [], .cons r .nil (fun a _ z => nomatch z), fun a => by simp⟩
  | .cons (F := F1) (G := G1) r1 rs d1, r, d => by
    obtain ⟨F', r', hF⟩ := RepTs.snoc rs r fun a ha => d a (List.mem_append_right _ ha)
    refine ⟨F1 ++ F', .cons r1 r' fun a ha hb => ?_, fun a => by simp [hF, or_assoc]⟩
    rcases (hF a).mp hb with z | z
    · exact d1 a ha z
    · exact d a (List.mem_append_left _ ha) z
theorem fr_lc {wi : TI} {g : TG} {tt : TT} {mi : MI} {mg : Tr → En → Option En} {mt : MT} {mf : MF} {ws vs : List Nat} (hi : IR K wi mi) (hg : GR K g mg ws) (ht : TR K tt mt) (he : FR K te mf) (hws : ∀ i ∈ ws, i ∈ vs) : FR K (tLc wi g tt te vs) (mLc mi mg mt mf vs) := fun E w E' q A σ Hi H Fs h Q k => by
  unfold mLc at q
  obtain ⟨⟨ds, E1⟩, q1, q⟩ := Option.bind_eq_some_iff.mp q
  obtain ⟨E2, q2, q⟩ := Option.bind_eq_some_iff.mp q
  obtain ⟨⟨ts, E3⟩, q3, q⟩ := Option.bind_eq_some_iff.mp q
  cases q
  refine hi E ds E1 q1 A σ Hi H Fs h _ fun J Hi1 H1 Fs1 it h1 s1 => ?_
  intro Dl hD
  obtain ⟨Fs2, h2, f2, n2⟩ := wipeE_ok h1 q2
  have g0 : Grow Hi1 H1 Hi1 (upd H1 Dl (.lst [])) [Dl] := Grow.own h1.sub hD
  refine ⟨fun i m H' => i + m = ds.length ∧ ∃ E' Hi' Fs' G vsa acc, RepE K A Hi' H' (wipe σ vs) E' Fs' ∧ (∀ i ∈ vs, at? E' i = none) ∧ Same Hi1 Hi' ∧ H' Dl = some (.lst vsa) ∧ Hi' Dl = none ∧ ¬ InE Fs' Dl ∧ Dl ∉ G ∧ RepTs K Hi' H' vsa acc G ∧ (∀ a ∈ G, ¬ InE Fs' a) ∧
      Step Hi H (InE Fs) Hi' H' (fun a => InE Fs' a ∨ a ∈ Dl :: G) ∧ lcD mg mt mf vs (ds.drop i) acc E' = some (ts, E3),
    ⟨ds.length, by simp, E2, Hi1, Fs2, [], [], [], h2.grow g0, n2, Same.refl _, upd_same, free_of h1.sub hD, fun z => ?_, (fun z => nomatch z), .nil, (fun a z => nomatch z), ?_, q3⟩, fun i m H' hw => ?_⟩
  · obtain ⟨_, o, e⟩ := h2.own z
    rw [hD] at e; cases e
  · refine s1.trans ((g0.step _).weak fun a z => ?_)
    rcases z with z | z
    · exact .inl (f2 a z)
    · exact .inr z
  obtain ⟨hm, E', Hi', Fs', G, vsa, acc, h', n', ex, hDl, hDi, dF, dG, ra, rd, s', ql⟩ := hw
  cases e : ds.drop i with
  | nil =>
    rw [e] at ql
    cases ql
    have hl : ds.length ≤ i := List.drop_eq_nil_iff.mp e
    refine .inl ⟨it.stop Hi' H' ex h'.sub i hl, ?_⟩
    refine k (.ref Dl) Hi' H' Fs' (Dl :: G) (.lst hDl hDi ra dG) (backE_ok h1 ex h' n') (fun a ha => ?_) s'
    rcases List.mem_cons.mp ha with rfl | ha
    · exact dF
    · exact rd a ha
  | cons d r =>
    have hlt : i < ds.length := by
      refine Nat.lt_of_not_le fun z => ?_
      rw [List.drop_eq_nil_iff.mpr z] at e
      cases e
    have hd : ds[i]? = some d := by
      have := List.getElem?_drop (xs := ds) (i := i) (j := 0)
      rw [e] at this
      simpa using this.symm
    have hr : ds.drop (i + 1) = r := by
      rw [← List.drop_drop, e]
      rfl
    rw [e] at ql
    obtain ⟨E4, q4, ql⟩ := Option.bind_eq_some_iff.mp ql
    obtain ⟨⟨b, E5⟩, q5, ql⟩ := Option.bind_eq_some_iff.mp ql
    refine .inr ⟨it.go Hi' H' ex h'.sub i hlt, fun H' => i + 1 + (m - 1) = ds.length ∧ ∃ E' Hi' Fs' G vsa acc, RepE K A Hi' H' (wipe σ vs) E' Fs' ∧ (∀ i ∈ vs, at? E' i = none) ∧ Same Hi1 Hi' ∧ H' Dl = some (.lst vsa) ∧ Hi' Dl = none ∧ ¬ InE Fs' Dl ∧ Dl ∉ G ∧ RepTs K Hi' H' vsa acc G ∧ (∀ a ∈ G, ¬ InE Fs' a) ∧
      Step Hi H (InE Fs) Hi' H' (fun a => InE Fs' a ∨ a ∈ Dl :: G) ∧ lcD mg mt mf vs (ds.drop (i + 1)) acc E' = some (ts, E3), fun H' hN => ⟨m - 1, by omega, hN⟩, fun x H2 hy => ?_⟩
    obtain ⟨Hi2, gr, hx⟩ := it.yld Hi' H' ex h'.sub i d x H2 hd hy
    have sg : Step Hi' H' (fun _ => False) Hi2 H2 (fun a => False ∨ a ∈ ([] : List Addr)) := gr.step _
    have out0 : ∀ a ∈ Dl :: G, ¬ InE Fs' a := fun a ha => (List.mem_cons.mp ha).elim (fun z => by rw [z]; exact dF) (rd a)
    have there : ∀ a ∈ Dl :: G, ∃ o, H' a = some o := fun a ha => (List.mem_cons.mp ha).elim (fun z => by rw [z]; exact ⟨_, hDl⟩) fun z => (ra.ownG a z).2
    have held : RepT K Hi' H' (.ref Dl) (.lst acc) (Dl :: G) := .lst hDl hDi ra dG
    have held2 := sg.keep held fun _ _ z => z
    refine hg (.imm d) E' E4 q4 A (wipe σ vs) Hi2 H2 Fs' x [] (h'.grow gr) (.imm hx) (fun a z => nomatch z) _ fun σ3 Hi3 H3 Fs3 c3 h3 s3 => ?_
    have s3 : Step Hi2 H2 (InE Fs') Hi3 H3 (InE Fs3) := s3.more fun x z => z.elim id fun y => nomatch y
    have out3 := s3.apart (fun a ha => (held2.ownG a ha).2) out0
    have held3 := s3.keep held2 out0
    refine ⟨wipe_chg c3 hws, ?_⟩
    refine ht E4 b E5 q5 A σ3 Hi3 H3 Fs3 h3 _ fun Hi5 H5 Fs5 h5 s5 => ?_
    have out5 := s5.apart (fun a ha => (held3.ownG a ha).2) out3
    have held5 := s5.keep held3 out3
    have s05 : Step Hi H (InE Fs) Hi5 H5 (fun a => InE Fs5 a ∨ a ∈ Dl :: G) := by
      have st : Step Hi' H' (InE Fs') Hi5 H5 (InE Fs5) := ((gr.step (InE Fs')).weak fun x z => .inl z).trans (s3.trans s5)
      refine ⟨s'.ex.trans st.ex, fun a o ea fa => st.fr a o (s'.fr a o ea fa) fun z => ?_, fun a z => ?_, fun a o ea => ?_⟩
      · rcases s'.nw a (.inl z) with y | y
        · exact fa y
        · rw [ea] at y; cases y
      · rcases z with z | z
        · rcases st.nw a z with y | y
          · exact s'.nw a (.inl y)
          · cases qa : H a with
            | none => exact .inr rfl
            | some o =>
              by_cases fa : InE Fs a
              · exact .inl fa
              · rw [s'.fr a o qa fa] at y; cases y
        · exact s'.nw a (.inr z)
      · rcases st.nh a o ea with ⟨o', y⟩ | y | y
        · exact s'.nh a o' y
        · exact .inr (s'.nw a (.inl y))
        · cases qa : H a with
          | none => exact .inr (.inr rfl)
          | some o' =>
            by_cases fa : InE Fs a
            · exact .inr (.inl fa)
            · rw [s'.fr a o' qa fa] at y; cases y
    have ex5 : Same Hi1 Hi5 := ex.trans (gr.ex.trans (s3.ex.trans s5.ex))
    have hw5 : wipe σ3 vs = wipe σ vs := wipe_chg c3 hws
    cases b with
    | false =>
      obtain ⟨E6, q6, ql⟩ := Option.bind_eq_some_iff.mp (show (wipeE E5 vs).bind _ = _ from ql)
      obtain ⟨Fs6, h6, f6, n6⟩ := wipeE_ok h5 q6
      rw [hw5] at h6
      cases held5 with
      | lst a1 a2 a3 a4 =>
        exact ⟨by omega, E6, Hi5, Fs6, G, _, acc, h6, n6, ex5, a1, a2, fun z => out5 Dl List.mem_cons_self (f6 _ z), a4, a3, fun a ha z => out5 a (List.mem_cons_of_mem _ ha) (f6 _ z), s05.weak fun a z => z.imp (f6 a) id, by rw [hr]; exact ql⟩
    | true =>
      obtain ⟨⟨t, E6⟩, q6, ql⟩ := Option.bind_eq_some_iff.mp (show (mf E5).bind _ = _ from ql)
      dsimp only at ql
      split at ql
      · rename_i hz
        obtain ⟨E7, q7, ql⟩ := Option.bind_eq_some_iff.mp ql
        refine he E5 t E6 q6 A σ3 Hi5 H5 Fs5 h5 _ fun y Hi6 H6 Fs6 W ry h6 dW s6 => ?_
        have out6 := s6.apart (fun a ha => (held5.ownG a ha).2) out5
        have held6 := s6.keep held5 out5
        obtain ⟨Fs7, h7, f7, n7⟩ := wipeE_ok h6 q7
        rw [hw5] at h7
        cases held6 with
        | @lst _ vsb _ _ a1 a2 a3 a4 =>
          have nDW : Dl ∉ W := fun z => out6 Dl List.mem_cons_self (.inr z)
          refine ⟨vsb, a1, by rw [sizeLine_eq, a3.length]; exact hz, by omega, ?_⟩
          obtain ⟨G', rG, hG⟩ := a3.snoc ry fun a ha hb => out6 a (List.mem_cons_of_mem _ ha) (.inr hb)
          have su : Step Hi6 H6 (fun a => a = Dl) Hi6 (upd H6 Dl (.lst (vsb ++ [y]))) (fun a => a = Dl) :=
            ⟨Same.refl _, fun a o ea na => by rw [upd_ne na]; exact ea, fun a z => .inl z, fun a o ea => .inl ⟨o, ea⟩⟩
          have sub7 : Same Hi6 (upd H6 Dl (.lst (vsb ++ [y]))) := fun a o ea => by
            have : a ≠ Dl := fun z => by rw [z, a2] at ea; cases ea
            rw [upd_ne this]
            exact h6.sub a o ea
          have nD7 : ¬ InE Fs7 Dl := fun z => out6 Dl List.mem_cons_self (.inl (f7 _ z))
          have nDG : Dl ∉ G' := fun z => ((hG Dl).mp z).elim a4 nDW
          have h7' := h7.keep su sub7 fun a ha z => nD7 (z ▸ ha)
          have rG' := su.keeps rG fun a ha z => nDG (z ▸ ha)
          refine ⟨E7, Hi6, Fs7, G', _, acc ++ [t], h7', n7, ex5.trans s6.ex, upd_same, a2, nD7, nDG, rG', fun a ha z => ?_, ?_, by rw [hr]; exact ql⟩
          · rcases (hG a).mp ha with y | y
            · exact out6 a (List.mem_cons_of_mem _ y) (.inl (f7 _ z))
            · exact dW a y (f7 _ z)
          · refine ⟨s05.ex.trans s6.ex, fun a o ea fa => ?_, fun a z => ?_, fun a o ea => ?_⟩
            · have h5a := s05.fr a o ea fa
              have n5 : ¬ (InE Fs5 a ∨ a ∈ Dl :: G) := fun z => by
                rcases s05.nw a z with y | y
                · exact fa y
                · rw [ea] at y; cases y
              have h6a := s6.fr a o h5a fun z => n5 (.inl z)
              rw [upd_ne fun z => n5 (.inr (by rw [z]; exact List.mem_cons_self))]
              exact h6a
            · have back : ∀ b, InE Fs5 b ∨ H5 b = none → InE Fs b ∨ H b = none := fun b z => by
                rcases z with z | z
                · exact s05.nw b (.inl z)
                · cases qb : H b with
                  | none => exact .inr rfl
                  | some o =>
                    by_cases fb : InE Fs b
                    · exact .inl fb
                    · rw [s05.fr b o qb fb] at z; cases z
              rcases z with z | z
              · exact back a (s6.nw a (.inl (f7 a z)))
              · rcases List.mem_cons.mp z with rfl | z
                · exact s05.nw a (.inr List.mem_cons_self)
                · rcases (hG a).mp z with y | y
                  · exact s05.nw a (.inr (List.mem_cons_of_mem _ y))
                  · exact back a (s6.nw a (.inr y))
            · rcases s6.nh a o ea with ⟨o', y⟩ | y | y
              · exact s05.nh a o' y
              · exact .inr (s05.nw a (.inl y))
              · cases qa : H a with
                | none => exact .inr (.inr rfl)
                | some o' =>
                  by_cases fa : InE Fs a
                  · exact .inr (.inl fa)
                  · rw [s05.fr a o' qa fa] at y; cases y
      · cases ql
end
end FL
namespace FL
open PySem L2
section
variable {K : PySem.W.Frag} {A : List V} {Hi H Hi1 H1 Hi' H' : Hp} {σ : L2.St} {E : En} {Fs : Nat → List Addr} {te : TE} {m : MF} {ma : MR}
theorem RepTs.get : ∀ {vs : List V} {ts : List Tr} {F : List Addr} {j : Nat} {t : Tr}, RepTs K Hi H vs ts F → ts[j]? = some t → ∃ v G, vs[j]? = some v ∧ RepT K Hi H v t G ∧ ∀ a ∈ G, a ∈ F
  | _, _, _, j, _, .nil, e => by simp at e
  | _, _, _, 0, _, .cons r _ _, e => by
    simp at e
    subst e
    exact ⟨_, _, rfl, r, fun a ha => List.mem_append_left _ ha⟩
  | _, _, _, j + 1, _, .cons _ rs _, e => by
    obtain ⟨v, G, a, b, c⟩ := RepTs.get rs (by simpa using e)
    exact ⟨v, G, by simpa using a, b, fun x hx => List.mem_append_right _ (c x hx)⟩
theorem RepTs.set {v : V} {t : Tr} {G : List Addr} : ∀ {vs : List V} {ts : List Tr} {F : List Addr} (j : Nat), RepTs K Hi H vs ts F → RepT K Hi H v t G → (∀ a ∈ G, a ∉ F) → ∃ F', RepTs K Hi H (vs.set j v) (ts.set j t) F' ∧ ∀ a ∈ F', a ∈ F ∨ a ∈ G
  | _, _, _, _, .nil, _, _ => ⟨[], .nil, fun _ z => nomatch z⟩
  | _, _, _, 0, .cons r rs d, rt, dg => ⟨_, .cons rt rs fun a ha hb => dg a ha (List.mem_append_right _ hb), fun a ha => (List.mem_append.mp ha).elim .inr fun z => .inl (List.mem_append_right _ z)⟩
  | _, _, _, j + 1, .cons r rs d, rt, dg => by
    obtain ⟨F', r', hF⟩ := RepTs.set j rs rt fun a ha hb => dg a ha (List.mem_append_right _ hb)
    refine ⟨_, .cons r r' fun a ha hb => ?_, fun a ha => ?_⟩
    · rcases hF a hb with z | z
      · exact d a ha z
      · exact dg a z (List.mem_append_left _ ha)
    · rcases List.mem_append.mp ha with z | z
      · exact .inl (List.mem_append_left _ z)
      · exact (hF a z).imp (List.mem_append_right _) id
theorem lst_upd {a : Addr} {vs' : List V} {ts ts' : List Tr} {F F' : List Addr} (h : RepT K Hi H (.ref a) (.lst ts) (a :: F)) (n : a ∉ F') (r : RepTs K Hi H vs' ts' F') (sub : Same Hi H) :
    RepT K Hi (upd H a (.lst vs')) (.ref a) (.lst ts') (a :: F') ∧ Same Hi (upd H a (.lst vs')) := by
  obtain ⟨n0, _⟩ := h.ownG a List.mem_cons_self
  have s : Same Hi (upd H a (.lst vs')) := fun b o e => by
    have : b ≠ a := fun z => by rw [z, n0] at e; cases e
    rw [upd_ne this]
    exact sub b o e
  refine ⟨.lst upd_same n0 (r.frame (Same.refl _) _ _ _ (fun b hb => upd_ne fun z => n (z ▸ hb)) fun b hb => (r.ownG b hb).1) n, s⟩
def MutT (K : PySem.W.Frag) (r : V → List V → Hp → VK → Prop) (f : Tr → List Tr → Option (Tr × Tr)) : Prop := ∀ t us w t', f t us = some (w, t') → ∀ Hi H x xs F G, Same Hi H → RepT K Hi H x t F → RepTs K Hi H xs us G → (∀ a ∈ F, a ∉ G) → ∀ Q : VK,
  (∀ v H' F' W, RepT K Hi H' x t' F' → RepT K Hi H' v w W → (∀ a ∈ F', a ∉ W) → (∀ a, a ∈ F' ∨ a ∈ W → a ∈ F ∨ a ∈ G) → (∀ a o, H a = some o → a ∉ F → a ∉ G → H' a = some o) → Same Hi H' → Q v H') → r x xs H Q
theorem mut_done {i : Nat} {s : SL} {t t' w : Tr} {x v : V} {F' W G : List Addr} (h : RepE K A Hi H σ E Fs) (he : E[i]? = some s) (ht : s.tree = some t) (hx : σ[i]? = some (some x)) (dG : ∀ a ∈ G, ¬ InE Fs a) (gG : ∀ a ∈ G, ∃ o, H a = some o)
    (r : RepT K Hi H' x t' F') (rw_ : RepT K Hi H' v w W) (d : ∀ a ∈ F', a ∉ W) (sb : ∀ a, a ∈ F' ∨ a ∈ W → a ∈ Fs i ∨ a ∈ G) (fr : ∀ a o, H a = some o → a ∉ Fs i → a ∉ G → H' a = some o) (sub : Same Hi H') :
    RepE K A Hi H' σ (E.set i (s.with t')) (fset Fs i F') ∧ (∀ a ∈ W, ¬ InE (fset Fs i F') a) ∧ Step Hi H (fun a => InE Fs a ∨ a ∈ G) Hi H' (fun a => InE (fset Fs i F') a ∨ a ∈ W) := by
  have st : Step Hi H (fun a => (a ∈ Fs i ∨ a ∈ F') ∨ a ∈ G) Hi H' (fun a => a ∈ F') :=
    ⟨Same.refl _, fun a o e z => fr a o e (fun y => z (.inl (.inl y))) (fun y => z (.inr y)), fun a z => .inl (.inl (.inr z)), fun a o e => .inl ⟨o, e⟩⟩
  have away : ∀ a, a ∈ Fs i ∨ a ∈ G → ∀ j, j ≠ i → a ∉ Fs j := fun a ha j hj z => ha.elim (fun y => hj (h.dis j i a z y)) fun y => dG a y ⟨j, z⟩
  refine ⟨?_, fun a ha hin => ?_, ?_⟩
  ·
    have hlt := lt_of_at he
    have tw := tree_with (t' := t') ht
    refine ⟨sub, by rw [List.length_set]; exact h.len, fun j t2 z => ?_, fun j t2 z => ?_, fun j z => ?_, fun j k a hj hk => ?_⟩
    · rw [at_set] at z
      by_cases e : i = j
      · subst e
        rw [if_pos ⟨rfl, hlt⟩, tw] at z
        cases z
        exact ⟨x, hx, by rw [fset_same]; exact r⟩
      · rw [if_neg (fun y => e y.1)] at z
        obtain ⟨u, e1, r1⟩ := h.val j t2 z
        refine ⟨u, e1, ?_⟩
        rw [fset_ne (Ne.symm e)]
        refine st.keep r1 fun b hb y => ?_
        rcases y with (y | y) | y
        · exact e (h.dis i j b y hb)
        · exact away b (sb b (.inl y)) j (Ne.symm e) hb
        · exact dG b y ⟨j, hb⟩
    · rw [List.getElem?_set] at z
      by_cases e : i = j
      · subst e
        rw [if_pos rfl, if_pos hlt] at z
        cases s with
        | no => cases ht
        | val _ => cases z
        | par t1 => exact h.par i t1 he
      · rw [if_neg e] at z
        exact h.par j t2 z
    · rw [at_set] at z
      by_cases e : i = j
      · subst e
        rw [if_pos ⟨rfl, hlt⟩, tw] at z
        cases z
      · rw [if_neg (fun y => e y.1)] at z
        rw [fset_ne (Ne.symm e)]
        exact h.no j z
    · by_cases e1 : j = i
      · subst e1
        rw [fset_same] at hj
        by_cases e2 : k = j
        · exact e2.symm
        · rw [fset_ne e2] at hk
          exact absurd hk (away a (sb a (.inl hj)) k e2)
      · rw [fset_ne e1] at hj
        by_cases e2 : k = i
        · subst e2
          rw [fset_same] at hk
          exact absurd hj (away a (sb a (.inl hk)) j e1)
        · rw [fset_ne e2] at hk
          exact h.dis j k a hj hk
  · obtain ⟨j, hj⟩ := hin
    by_cases e : j = i
    · subst e
      rw [fset_same] at hj
      exact d a hj ha
    · rw [fset_ne e] at hj
      exact away a (sb a (.inr ha)) j e hj
  · refine ⟨Same.refl _, fun a o e z => fr a o e (fun y => z (.inl ⟨i, y⟩)) (fun y => z (.inr y)), fun a z => ?_, fun a o e => .inl ⟨o, e⟩⟩
    have : a ∈ F' ∨ a ∈ W → InE Fs a ∨ a ∈ G := fun y => (sb a y).imp (fun z => ⟨i, z⟩) id
    rcases z with z | z
    · rcases inE_fset z with y | y
      · exact .inl (.inl y)
      · exact .inl (this (.inl y))
    · exact .inl (this (.inr z))
def mMut (i : Nat) (T : String) (f : Tr → List Tr → Option (Tr × Tr)) (ms : MFs) : MF := fun E => (at? E i).bind fun t0 => if tyB T t0 = true then (ms E).bind fun p => (p.2[i]?).bind fun s => s.tree.bind fun t => (f t p.1).bind fun r => some (r.1, p.2.set i (s.with r.2)) else none
def mMut0 (i : Nat) (T : String) (f : Tr → List Tr → Option (Tr × Tr)) : MF := fun E => (E[i]?).bind fun s => s.tree.bind fun t => if tyB T t = true then (f t []).bind fun r => some (r.1, E.set i (s.with r.2)) else none
theorem fr_mut0 {i : Nat} {T : String} {r : V → List V → Hp → VK → Prop} {f : Tr → List Tr → Option (Tr × Tr)} (hr : MutT K r f) : FR K (tBM0 K T r (tVar i)) (mMut0 i T f) := fun E w E' q A σ Hi H Fs h Q k => by
  unfold mMut0 at q
  obtain ⟨s, q3, q⟩ := Option.bind_eq_some_iff.mp q
  obtain ⟨t, q4, q⟩ := Option.bind_eq_some_iff.mp q
  split at q
  · rename_i hT
    obtain ⟨⟨w', t'⟩, q5, q⟩ := Option.bind_eq_some_iff.mp q
    cases q
    have qa : at? E i = some t := by
      unfold at?
      rw [q3]
      exact q4
    obtain ⟨x, ex, rt⟩ := h.val i t qa
    refine ⟨x, ex, tyV_of h.sub rt hT, ?_⟩
    refine hr t [] _ t' q5 Hi H x [] (Fs i) [] h.sub rt .nil (fun a _ z => nomatch z) Q fun v H2 F' W r1 r2 d sb fr sub => ?_
    obtain ⟨h2, dW, s2⟩ := mut_done (H' := H2) (G := []) h q3 q4 ex (fun a z => nomatch z) (fun a z => nomatch z) r1 r2 d sb fr sub
    exact k v Hi H2 _ W r2 h2 dW (s2.more fun x z => z.elim id fun y => nomatch y)
  · cases q
def fExtend : Tr → List Tr → Option (Tr × Tr)
  | .lst ts, [.lst us] => if ts.length + us.length ≤ 16777216 then some (.imm .none, .lst (ts ++ us)) else none
  | _, _ => none
theorem RepTs.out : ∀ {vs : List V} {ts : List Tr} {F : List Addr} {j : Nat} {t : Tr}, RepTs K Hi H vs ts F → ts[j]? = some t → ∃ v G F', vs[j]? = some v ∧ RepT K Hi H v t G ∧ RepTs K Hi H (vs.eraseIdx j) (ts.eraseIdx j) F' ∧ (∀ a ∈ F', a ∉ G) ∧ ∀ a, a ∈ F' ∨ a ∈ G → a ∈ F
  | _, _, _, j, _, .nil, e => by simp at e
  | _, _, _, 0, _, .cons r rs d, e => by
    simp at e
    subst e
    exact ⟨_, _, _, rfl, r, rs, fun a ha hb => d a hb ha, fun a ha => ha.elim (List.mem_append_right _) (List.mem_append_left _)⟩
  | _, _, _, j + 1, _, .cons (F := F1) r rs d, e => by
    obtain ⟨v, G, F', e1, r1, rs1, d1, s1⟩ := RepTs.out (j := j) rs (by simpa using e)
    refine ⟨v, G, F1 ++ F', by simpa using e1, r1, .cons r rs1 fun a ha hb => d a ha (s1 a (.inl hb)), fun a ha hb => ?_, fun a ha => ?_⟩
    · rcases List.mem_append.mp ha with z | z
      · exact d a z (s1 a (.inr hb))
      · exact d1 a z hb
    · rcases ha with ha | ha
      · rcases List.mem_append.mp ha with z | z
        · exact List.mem_append_left _ z
        · exact List.mem_append_right _ (s1 a (.inl z))
      · exact List.mem_append_right _ (s1 a (.inr ha))
theorem pop_mut {j : Nat} {ts : List Tr} {t : Tr} {a : Addr} {vs : List V} {F1 G : List Addr} (sub : Same Hi H) (h1 : H a = some (.lst vs)) (h2 : Hi a = none) (h3 : RepTs K Hi H vs ts F1) (h4 : a ∉ F1) (e : ts[j]? = some t) :
    ∃ v, vs[j]? = some v ∧ ∀ Q : VK, (∀ v H' F' W, RepT K Hi H' (.ref a) (.lst (ts.eraseIdx j)) F' → RepT K Hi H' v t W → (∀ b ∈ F', b ∉ W) → (∀ b, b ∈ F' ∨ b ∈ W → b ∈ a :: F1 ∨ b ∈ G) → (∀ b o, H b = some o → b ∉ a :: F1 → b ∉ G → H' b = some o) → Same Hi H' → Q v H') →
      Q v (upd H a (.lst (vs.eraseIdx j))) := by
  obtain ⟨v, W, F', e1, r1, rs1, d1, s1⟩ := h3.out e
  refine ⟨v, e1, fun Q k => ?_⟩
  have n2 : a ∉ F' := fun z => h4 (s1 a (.inl z))
  have nW : a ∉ W := fun z => h4 (s1 a (.inr z))
  obtain ⟨r3, s3⟩ := lst_upd (RepT.lst h1 h2 h3 h4) n2 rs1 sub
  refine k v _ (a :: F') W r3 (r1.frame (Same.refl _) _ _ _ (fun b hb => upd_ne fun z => nW (z ▸ hb)) fun b hb => (r1.ownG b hb).1) (fun b hb hw => ?_) (fun b hb => ?_) (fun b o eb nb _ => ?_) s3
  · rcases List.mem_cons.mp hb with rfl | hb
    · exact nW hw
    · exact d1 b hb hw
  · rcases hb with hb | hb
    · rcases List.mem_cons.mp hb with rfl | hb
      · exact .inl List.mem_cons_self
      · exact .inl (List.mem_cons_of_mem _ (s1 b (.inl hb)))
    · exact .inl (List.mem_cons_of_mem _ (s1 b (.inr hb)))
  · rw [upd_ne fun z => nb (by rw [z]; exact List.mem_cons_self)]
    exact eb
def fPop : Tr → List Tr → Option (Tr × Tr)
  | .lst ts, [] => (ts[ts.length - 1]?).map fun t => (t, .lst (ts.eraseIdx (ts.length - 1)))
  | _, _ => none
theorem dropLast_erase {α : Type} : ∀ (xs : List α), xs.dropLast = xs.eraseIdx (xs.length - 1)
  | [] => rfl
  | [_] => rfl
  | x :: y :: r => by
    show x :: (y :: r).dropLast = (x :: y :: r).eraseIdx (r.length + 1)
    rw [dropLast_erase (y :: r)]
    rfl
theorem mu_pop : MutT K rPop fPop := fun t us w t' q Hi H x xs F G sub rt rs d Q k => by
  unfold fPop at q
  split at q
  · rename_i ts
    obtain ⟨t0, e, q⟩ := Option.map_eq_some_iff.mp q
    cases q
    cases rs
    cases rt with
    | @lst a vs _ F1 h1 h2 h3 h4 =>
      obtain ⟨v, ev, kk⟩ := pop_mut (G := []) sub h1 h2 h3 h4 e
      rw [← h3.length] at ev
      refine ⟨a, vs, v, rfl, rfl, h1, ev, ?_⟩
      rw [dropLast_erase, h3.length]
      exact kk Q k
  · cases q
end
end FL
namespace FL
open PySem L2
section
variable {K : PySem.W.Frag} {Wx : L2.WX} {A : List V} {Hi H Hi1 H1 Hi' H' : Hp} {σ : L2.St} {E : En} {Fs : Nat → List Addr} {te ti tj : TE} {m : MF} {ma : MR}
def rSetA : TSet := fun o i v H Q => rSetL o i v H Q ∨ rSetD o i v H Q
theorem set_any {X : Cx} (hu : X.A.units + 1 < cLine) : PSet X rSetA := by
  intro pins s σ H o i v ov iv u Q I ro ri rv h
  rcases h with h | h
  · exact set_list pins s σ H o i v ov iv u Q I ro ri rv h
  · exact set_dict hu pins s σ H o i v ov iv u Q I ro ri rv h
def SetT (K : PySem.W.Frag) (r : TSet) (f : Tr → Tr → Tr → Option Tr) : Prop := ∀ t ix u t', f t ix u = some t' → ∀ Hi H x xi xv F Fi G, Same Hi H → RepT K Hi H x t F → RepT K Hi H xi ix Fi → RepT K Hi H xv u G → (∀ a ∈ F, a ∉ G) → ∀ Q : Hp → Prop,
  (∀ H' F', RepT K Hi H' x t' F' → (∀ a, a ∈ F' → a ∈ F ∨ a ∈ G) → (∀ a o, H a = some o → a ∉ F → a ∉ G → H' a = some o) → Same Hi H' → Q H') → r x xi xv H Q
def keyD : PyData → Option Key
  | .int i => some (.inl i)
  | .str s => some (.inr s)
  | _ => none
def putD (kvs : List (Key × PyData)) (k : Key) (v : PyData) : List (Key × PyData) :=
  if (kvs.any fun kv => decide (kv.1 = k)) = true then kvs.map (fun kv => if kv.1 = k then (kv.1, v) else kv) else kvs ++ [(k, v)]
def getD (kvs : List (Key × PyData)) (k : Key) : Option PyData := (kvs.find? fun kv => decide (kv.1 = k)).map (·.2)
theorem keyD_kV {d : PyData} {k : Key} {v : V} (q : keyD d = some k) (h : Dp K H v d) : v = kV k := by
  cases h with
  | int i => cases q; rfl
  | str x => cases q; rfl
  | non => cases q
  | bl b => cases q
  | lst _ _ => cases q
  | tup _ _ => cases q
abbrev KvR (K : PySem.W.Frag) (Hi : Hp) : List (Key × V) → List (Key × PyData) → Prop := Paired (fun (p : Key × V) (q : Key × PyData) => p.1 = q.1 ∧ Dp K Hi p.2 q.2)
theorem kv_any {k : Key} : ∀ {xs : List (Key × V)} {ds : List (Key × PyData)}, KvR K Hi xs ds → (xs.any fun kv => decide (kv.1 = k)) = ds.any fun kv => decide (kv.1 = k)
  | _, _, .nil => rfl
  | _, _, .cons r t => by rw [List.any_cons, List.any_cons, kv_any t, r.1]
theorem kv_map {k : Key} {v : V} {d : PyData} : ∀ {xs : List (Key × V)} {ds : List (Key × PyData)}, KvR K Hi xs ds → Dp K Hi v d → KvR K Hi (xs.map fun kv => if kv.1 = k then (kv.1, v) else kv) (ds.map fun kv => if kv.1 = k then (kv.1, d) else kv)
  | _, _, .nil, _ => .nil
  | _, _, .cons r1 t, r => by
    refine .cons ?_ (kv_map t r)
    dsimp only
    rw [r1.1]
    split
    · exact ⟨rfl, r⟩
    · exact ⟨r1.1, r1.2⟩
theorem kv_snoc {k : Key} {v : V} {d : PyData} : ∀ {xs : List (Key × V)} {ds : List (Key × PyData)}, KvR K Hi xs ds → Dp K Hi v d → KvR K Hi (xs ++ [(k, v)]) (ds ++ [(k, d)])
  | _, _, .nil, r => .cons ⟨rfl, r⟩ .nil
  | _, _, .cons r1 t, r => .cons r1 (kv_snoc t r)
theorem kv_put {k : Key} {v : V} {d : PyData} {xs : List (Key × V)} {ds : List (Key × PyData)} (h : KvR K Hi xs ds) (r : Dp K Hi v d) : KvR K Hi (putK xs k v) (putD ds k d) := by
  unfold putK putD
  rw [kv_any h]
  split
  · exact kv_map h r
  · exact kv_snoc h r
theorem kv_get {k : Key} : ∀ {xs : List (Key × V)} {ds : List (Key × PyData)}, KvR K Hi xs ds → match getD ds k with
    | some d => ∃ v, valV xs k = some v ∧ Dp K Hi v d
    | none => valV xs k = none
  | _, _, .nil => rfl
  | _, _, .cons (a := p) (b := q) r t => by
    have ih := kv_get (k := k) t
    unfold getD at ih ⊢
    rw [List.find?_cons]
    by_cases e : q.1 = k
    · rw [decide_eq_true e]
      exact ⟨p.2, valV_pos (r.1.trans e), r.2⟩
    · rw [decide_eq_false e]
      have e' : ¬ p.1 = k := fun z => e (r.1 ▸ z)
      rw [valV_neg e']
      exact ih
def fSetA : Tr → Tr → Tr → Option Tr
  | .lst ts, .imm (.int k), u => (ixN ts.length k).map fun j => .lst (ts.set j u)
  | .dic kvs, .imm kd, .imm d => (keyD kd).bind fun k => if kvs.length < 16777216 then some (.dic (putD kvs k d)) else none
  | _, _, _ => none
theorem set_tree : SetT K rSetA fSetA := fun t ix u t' q Hi H x xi xv F Fi G sub rt ri ru d Q k => by
  unfold fSetA at q
  split at q
  · rename_i ts kk
    obtain ⟨j, ej, q⟩ := Option.map_eq_some_iff.mp q
    cases q
    obtain ⟨e1, _⟩ := ri.int_inv
    subst e1
    cases rt with
    | @lst a vs _ F1 h1 h2 h3 h4 =>
      obtain ⟨F2, r2, hF⟩ := h3.set j ru fun b hb hc => d b (List.mem_cons_of_mem _ hc) hb
      have n2 : a ∉ F2 := fun z => (hF a z).elim h4 fun y => d a List.mem_cons_self y
      obtain ⟨r3, s3⟩ := lst_upd (RepT.lst h1 h2 h3 h4) n2 r2 sub
      refine .inl ⟨a, vs, kk, j, rfl, rfl, h1, by rw [h3.length]; exact ej, ?_⟩
      refine k _ _ r3 (fun b hb => ?_) (fun b o e nb _ => ?_) s3
      · rcases List.mem_cons.mp hb with rfl | hb
        · exact .inl List.mem_cons_self
        · exact (hF b hb).imp (List.mem_cons_of_mem _) id
      · rw [upd_ne fun z => nb (by rw [z]; exact List.mem_cons_self)]
        exact e
  · rename_i kvs kd dd
    obtain ⟨key, e1, q⟩ := Option.bind_eq_some_iff.mp q
    split at q
    · rename_i hl
      cases q
      have ek := keyD_kV e1 ri.imm_inv.1
      subst ek
      cases rt with
      | @dic a xs _ h1 h2 h3 =>
        have hs : Same Hi (upd H a (.dK (putK xs key xv))) := fun b o e => by
          have : b ≠ a := fun z => by rw [z, h2] at e; cases e
          rw [upd_ne this]
          exact sub b o e
        refine .inr ⟨a, _, rfl, DPut.k h1 (by rw [sizeLine_eq, Paired.length h3]; exact hl), ?_⟩
        refine k _ [a] (.dic upd_same h2 (kv_put h3 ru.imm_inv.1)) (fun b hb => .inl hb) (fun b o e nb _ => ?_) hs
        rw [upd_ne fun z => nb (by rw [z]; exact List.mem_cons_self)]
        exact e
    · cases q
  · cases q
def mSub (i : Nat) (f : Tr → Tr → Tr → Option Tr) (mi : MF) : Tr → En → Option En := fun u E => (at? E i).bind fun _ => (mi E).bind fun p => (p.2[i]?).bind fun s => s.tree.bind fun t => (f t p.1 u).bind fun t' => some (p.2.set i (s.with t'))
theorem gr_sub {i : Nat} {r : TSet} {f : Tr → Tr → Tr → Option Tr} {mi : MF} (hi : FR K ti mi) (hr : SetT K r f) : GR K (gSub (tVar i) ti r) (mSub i f mi) [] := fun u E E' q A σ Hi H Fs v G h ru dG Q k => by
  unfold mSub at q
  obtain ⟨t0, q0, q⟩ := Option.bind_eq_some_iff.mp q
  obtain ⟨⟨ix, E1⟩, q1, q⟩ := Option.bind_eq_some_iff.mp q
  obtain ⟨s, q2, q⟩ := Option.bind_eq_some_iff.mp q
  obtain ⟨t, q3, q⟩ := Option.bind_eq_some_iff.mp q
  obtain ⟨t', q4, q⟩ := Option.bind_eq_some_iff.mp q
  cases q
  dsimp only at q2
  have key : ∀ Hi1 H1 Fs1 xi W, RepT K Hi1 H1 xi ix W → RepE K A Hi1 H1 σ E1 Fs1 → (∀ a ∈ W, ¬ InE Fs1 a) → Step Hi H (InE Fs) Hi1 H1 (fun a => InE Fs1 a ∨ a ∈ W) → ∀ x, σ[i]? = some (some x) → r x xi v H1 fun H3 => Q σ H3 := fun Hi1 H1 Fs1 xi W ri h1 dW s1 x ex => by
    have qa : at? E1 i = some t := by
      unfold at?
      rw [q2]
      exact q3
    obtain ⟨x', ex', rt⟩ := h1.val i t qa
    rw [ex] at ex'
    cases ex'
    have ru1 := s1.keep ru dG
    have out1 := s1.apart (fun a ha => (ru.ownG a ha).2) dG
    refine hr t ix u t' q4 Hi1 H1 x xi v (Fs1 i) W G h1.sub rt ri ru1 (fun a ha hb => out1 a hb (.inl ⟨i, ha⟩)) _ fun H2 F' r1 sb fr sub => ?_
    obtain ⟨h2, _, s2⟩ := mut_done (H' := H2) (w := .imm .none) (v := .non) (W := []) h1 q2 q3 ex (fun a ha z => out1 a ha (.inl z)) (fun a ha => (ru1.ownG a ha).2) r1 (.imm .non) (fun a _ z => nomatch z) (fun a ha => ha.elim (sb a) fun z => nomatch z) fr sub
    refine k σ Hi1 H2 _ Chg.refl h2 ?_
    have s1' : Step Hi H (fun a => InE Fs a ∨ a ∈ G) Hi1 H1 (fun a => InE Fs1 a ∨ a ∈ G) := by
      refine ⟨s1.ex, fun a o e f => s1.fr a o e fun z => f (.inl z), fun a z => ?_, fun a o e => (s1.nh a o e).imp id (Or.imp .inl id)⟩
      rcases z with z | z
      · exact (s1.nw a (.inl z)).imp .inl id
      · exact .inl (.inr z)
    exact s1'.trans (s2.weak fun a z => .inl z)
  obtain ⟨x, ex, _⟩ := h.val i t0 q0
  refine ⟨x, ex, ?_⟩
  exact hi E ix E1 q1 A σ Hi H Fs h _ fun xi Hi1 H1 Fs1 W ri h1 dW s1 => key Hi1 H1 Fs1 xi W ri h1 dW s1 x ex
def PR (K : PySem.W.Frag) (te : TE) (f : En → Option Int) : Prop := ∀ E k, f E = some k → ∀ A σ Hi H Fs, RepE K A Hi H σ E Fs → ∀ Q : VK, (∀ Hi' H', Grow Hi H Hi' H' [] → Q (.int k) H') → te σ H Q
def iAt (i : Nat) : En → Option Int := fun E => (at? E i).bind iOf
theorem pr_var {i : Nat} : PR K (tVar i) (iAt i) := fun E k q A σ Hi H Fs h Q kk => by
  obtain ⟨t, q1, q2⟩ := Option.bind_eq_some_iff.mp q
  have e := iOf_inv q2
  subst e
  obtain ⟨v, ev, r⟩ := h.val i _ q1
  obtain ⟨e1, _⟩ := r.int_inv
  subst e1
  exact ⟨_, ev, kk Hi H (Grow.refl h.sub)⟩
def iC (c : Int) : En → Option Int := fun _ => some c
theorem Grow.trans {Hi2 H2 : Hp} (a : Grow Hi H Hi1 H1 []) (b : Grow Hi1 H1 Hi2 H2 []) : Grow Hi H Hi2 H2 [] :=
  ⟨a.ex.trans b.ex, a.all.trans b.all, b.sub, fun _ z => (nomatch z), fun x o e => by
    rcases b.nh x o e with ⟨o', z⟩ | z
    · exact a.nh x o' z
    · exact .inr (Same.free a.all z)⟩
def iOp (f : Int → Int → Int) (fa fb : En → Option Int) : En → Option Int := fun E => (fa E).bind fun a => (fb E).bind fun b => some (f a b)
def ixAt : Tr → Int → Option Int
  | .imm (.tuple ds), i => (atI ds i).bind fun d => iOf (.imm d)
  | .imm (.list ds), i => (atI ds i).bind fun d => iOf (.imm d)
  | .lst ts, i => (atI ts i).bind iOf
  | _, _ => none
theorem dpAll_at {ds : List PyData} {vs : List V} {d : PyData} : ∀ {j : Nat}, DpAll K Hi vs ds → ds[j]? = some d → ∃ v, vs[j]? = some v ∧ Dp K Hi v d := by
  intro j h e
  induction h using DpAll.rec (motive_1 := fun _ _ _ => True) generalizing j with
  | nil => simp at e
  | cons h1 h2 _ ih =>
    cases j with
    | zero => simp at e; subst e; exact ⟨_, rfl, h1⟩
    | succ j => simpa using ih (by simpa using e)
  | _ => trivial
theorem atI_len {α β : Type} {xs : List α} {ys : List β} (e : xs.length = ys.length) {i : Int} {y : β} (h : atI ys i = some y) : ∃ j x, ixN ys.length i = some j ∧ ys[j]? = some y ∧ xs[j]? = some x ∧ atI xs i = some x := by
  unfold atI at h
  obtain ⟨j, e1, e2⟩ := Option.bind_eq_some_iff.mp h
  have hj : j < xs.length := by rw [e]; exact (List.getElem?_eq_some_iff.mp e2).1
  refine ⟨j, xs[j], e1, e2, List.getElem?_eq_getElem hj, ?_⟩
  unfold atI
  rw [e, e1]
  exact List.getElem?_eq_getElem hj
def sub2 (t : Tr) (a b : Int) (u : Tr) : Option Tr := match t with
  | .lst ts => (ixN ts.length a).bind fun j => (ts[j]?).bind fun row => (fSetA row (.imm (.int b)) u).bind fun row' => some (.lst (ts.set j row'))
  | _ => none
def mSub2 (i : Nat) (fa fb : En → Option Int) : Tr → En → Option En := fun u E => (fa E).bind fun a => (fb E).bind fun b => (E[i]?).bind fun s => s.tree.bind fun t => (sub2 t a b u).bind fun t' => some (E.set i (s.with t'))
def IpT (K : PySem.W.Frag) (ti : TIp) (f : Tr → Tr → Option Tr) : Prop := ∀ t u w, f t u = some w → ∀ Hi H x y F G, Same Hi H → RepT K Hi H x t F → RepT K Hi H y u G → ∀ Q : VK,
  (∀ v Hi' H' W, RepT K Hi' H' v w W → Grow Hi H Hi' H' W → Q v H') → ti x y H Q
def mAug (i : Nat) (f : Tr → Tr → Option Tr) (mb : MR) : MS := fun E => (at? E i).bind fun _ => (mb E).bind fun q => (view q.2 (.slot i)).bind fun t => (view q.2 q.1).bind fun u => (f t u).bind fun w => (mName i w q.2).bind fun E' => some (.nx E')
def mPar (i j : Nat) (ms : MFs) : MS := fun E => (ms E).bind fun p => match p.1 with
  | [t, u] => (mName i t p.2).bind fun E1 => (mName j u E1).bind fun E2 => some (.nx E2)
  | _ => none
theorem sr_par {i j : Nat} {ta : TA} {ms : MFs} (hs : FA K ta ms) : SR K Wx (tPar i j ta) (mPar i j ms) := fun E out q A σ Hi H Fs D h go => by
  unfold mPar at q
  obtain ⟨⟨ts, E1⟩, q1, q⟩ := Option.bind_eq_some_iff.mp q
  dsimp only at q
  split at q
  · rename_i t u
    obtain ⟨E2, q2, q⟩ := Option.bind_eq_some_iff.mp q
    obtain ⟨E3, q3, q⟩ := Option.bind_eq_some_iff.mp q
    cases q
    refine hs E _ E1 q1 A σ Hi H Fs h _ fun vs Hi1 H1 Fs1 G r h1 d s1 => ?_
    cases r with
    | @cons v _ _ _ F1 _ r1 rs dd =>
      cases rs with
      | @cons w _ _ _ F2 _ r2 rn d2 =>
        cases rn
        refine ⟨v, w, rfl, ?_⟩
        have e1 : ∃ s, E1[i]? = some s ∧ E2 = E1.set i (.val t) := by
          unfold mName at q2
          split at q2
          · rename_i e; cases q2; exact ⟨_, e, rfl⟩
          · rename_i e; cases q2; exact ⟨_, e, rfl⟩
          · cases q2
        obtain ⟨s, e1, rfl⟩ := e1
        obtain ⟨h2, s2⟩ := h1.name e1 r1 fun a ha => d a (List.mem_append_left _ ha)
        have e2 : ∃ s, (E1.set i (.val t))[j]? = some s ∧ E3 = (E1.set i (.val t)).set j (.val u) := by
          unfold mName at q3
          split at q3
          · rename_i e; cases q3; exact ⟨_, e, rfl⟩
          · rename_i e; cases q3; exact ⟨_, e, rfl⟩
          · cases q3
        obtain ⟨s', e2, rfl⟩ := e2
        have d2' : ∀ a ∈ F2, ¬ InE (fset Fs1 i F1) a := fun a ha z => by
          rcases inE_fset z with y | y
          · exact d a (List.mem_append_right _ (List.mem_append_left _ ha)) y
          · exact dd a y (List.mem_append_left _ ha)
        obtain ⟨h3, s3⟩ := h2.name e2 r2 d2'
        refine go _ Hi1 H1 _ h3 ⟨s1.ex, s1.fr, fun a z => ?_, s1.nh⟩
        rcases inE_fset z with y | y
        · rcases inE_fset y with y | y
          · exact s1.nw a (.inl y)
          · exact s1.nw a (.inr (List.mem_append_left _ y))
        · exact s1.nw a (.inr (List.mem_append_right _ (List.mem_append_left _ y)))
  · cases q
end
end FL
namespace FL
open PySem L2
structure FnG (P : Program) (w : World) (K : PySem.W.Frag) (mg : Str → Option Value) (base : Heap) (CX : CXT) (k : Nat) (f : Addr) (fd : FuncData) (ps : List Str) (sp : Sp) : Prop where
  arity : ∀ vs H Q E, sp vs H Q E → vs.length = ps.length
  go : ∀ (A : Around) (outer : List PySem.Env) (s : Shared) (H : Hp) (args : Args) (us : List Value) (vs : List V) (Q : VK) (E : XK), A.guards = some [] → Room k A → Env0 P w K mg base A outer s H →
    BindsTo s fd args (ps.zip us) → Vals vs us → sp vs H Q E → codeAny (model P w) A (.call (.ref f) args) (CR CX outer P w H s Q E) s
section
variable {P : Program} {w : World} {K : PySem.W.Frag} {mg : Str → Option Value} {base : Heap} {CX : CXT} {k j : Nat} {f : Addr} {fd : FuncData} {ps : List Str} {sp : Sp}
theorem FnG.mono (G : FnG P w K mg base CX j f fd ps sp) (h : j ≤ k) : FnG P w K mg base CX k f fd ps sp :=
  ⟨G.arity, fun A outer s H args us vs Q E g r => G.go A outer s H args us vs Q E g (r.mono h)⟩
theorem FnG.of (F : FnOk P w K mg base CX k f fd ps sp) : FnG P w K mg base CX k f fd ps sp :=
  ⟨F.len, fun A outer s H args us vs Q E _ r => F.run A outer s H args us vs Q E r⟩
theorem FnG.imp {sp' : Sp} (G : FnG P w K mg base CX k f fd ps sp) (h : ∀ vs H Q E, sp' vs H Q E → sp vs H Q E) : FnG P w K mg base CX k f fd ps sp' :=
  ⟨fun vs H Q E z => G.arity vs H Q E (h vs H Q E z), fun A outer s H args us vs Q E g r e b v z => G.go A outer s H args us vs Q E g r e b v (h vs H Q E z)⟩
end
structure RoomG (k : Nat) (A : Around) : Prop where
  room : Room k A
  free : A.guards = some []
theorem RoomG.mono {j k : Nat} {A : Around} (r : RoomG k A) (h : j ≤ k) : RoomG j A := ⟨r.room.mono h, r.free⟩
section
variable {X : Cx} {CX : CXT} {k : Nat} {f : Addr} {fd : FuncData} {ps : List Str} {sp : Sp} {E : XK} {x : Str} {p pos : Pos} {e : Expr} {es : List Expr} {t : TA}
theorem call_G {pins : List (Addr × Obj)} {σ : L2.St} {H : Hp} {s : Shared} {Q : VK} {us : List Value} {vs : List V} (G : FnG X.prog X.w X.K X.mg X.base CX k f fd ps sp) (r : RoomG k X.A) (b : Binds X.K fd ps []) (hx : Passes CX X E)
    (I : Inv X pins σ H s) (v : Vals vs us) (h : sp vs H Q E) : wpAny (model X.prog X.w) X.A (call (.ref f) us) (EP X pins σ Q) X.xe s := by
  have len : (us ++ []).length = ps.length := by
    rw [List.append_nil, ← v.length]
    exact G.arity vs H Q E h
  have bb := b s us I.kIn len
  rw [List.append_nil] at bb
  refine wpAny_call (codeAny_mono (G.go X.A X.stack s H ⟨us, []⟩ us vs Q E r.free r.room I.env0 bb v h) fun res s' z => ?_)
  match res, z with
  | .error err, z => exact hx pins σ H s err s' I z
  | .ok (.ret u), z => exact I.after z
  | .ok .next, z => exact z.elim
  | .ok .brk, z => exact z.elim
  | .ok .cont, z => exact z.elim
theorem pe_callG (G : FnG X.prog X.w X.K X.mg X.base CX k f fd ps sp) (r : RoomG k X.A) (hg : Gl X x) (hm : X.mg x = some (.ref f)) (hk : PySem.W.keepIn X.K (.ref f) = true) (b : Binds X.K fd ps []) (hx : Passes CX X E)
    (ha : PA X (e :: es) t) (hdb : (x == ("__debug__" : Str)) = false := by decide) (he : starEach (e :: es) X.env = (false, eval e X.env) :: starEach es X.env := by rfl) (hpl : (backTo pos (starEach es X.env)).any (·.1) = false := by rfl) :
    PE X (.Call (.Name x p) (e :: es) [] pos) (tCall sp [] E t) := ⟨fun pins s σ H Q I h =>
  wpAny_Call_Name_kw (ld_glob I hg hm (PySem.W.callWith_K (h₀ := X.base) I.ok.mod.kin hk (thn (ha.run pos pins s σ H _ I h) fun us s1 ⟨vs, H1, I1, v, z⟩ => ⟨I1.kIn, call_G G r b hx I1 v (by
    have z' : sp (vs ++ []) H1 Q E := z
    rw [List.append_nil] at z'
    exact z')⟩) he hpl) hdb)⟩
end
section
variable {P : Program} {w : World} {K : PySem.W.Frag} {mg : Str → Option Value} {base : Heap} {CX : CXT}
theorem fn_G {x qual : Str} {st : Stmt} {f : Addr} {fd : FuncData} {N ps : List Str} {k : Nat} {sp : Sp} (F : Fun K x qual st f fd) (S : FnScope N ps (defScope st)) (len : ∀ vs H Q E, sp vs H Q E → vs.length = ps.length)
    (body : ∀ (cdv : Value) (A : Around) (outer : List PySem.Env) (s : Shared) (H : Hp) (vs : List V) (Q : VK) (E : XK), RoomG k (A.deeper (PyProof.Rows.envOfC qual (defScope st) s.heap.objs.size f cdv)) → sp vs H Q E →
      ∃ t, PSs (cxOf CX P w K mg base N qual (defScope st) f cdv A outer s H E) (defBody st) t ∧ t { nx := fun _ H' => Q .non H', rt := Q } (L2.start N vs) H) : FnG P w K mg base CX (k + 1) f fd ps sp := by
  obtain ⟨oc, od, kV, doc, pm, an, cdv, ct, osl, rfl, lk, hcd⟩ := F.ex
  refine ⟨len, fun A outer s H args us vs Q E gd room e0 bind v hsp => ?_⟩
  have keep : ∀ b o, base.get? b = some o → s.heap.get? b = some o := fun b o z => (e0.bs b o z).1
  have kin := e0.mod.kin.keeps keep
  have lim := e0.mod.nolimit.keeps keep
  have kinds : ∀ y ∈ ps.zip us, (defScope st).names.lookup y.1 = some .local ∨ ((defScope st).names.lookup y.1 = some .cell ∧ ((PySem.cellsFrom (s.heap.objs.size + 1) (defScope st).names []).lookup y.1).isSome = true) := fun y hy => by
    refine (S.par y.1 (List.of_mem_zip (a := y.1) (b := y.2) hy).1).imp id fun c => ⟨c, PySem.W.cellsFrom_some _ _ _ (.inl c)⟩
  refine codeAny_call_function room.depth (kin _ _ lk) rfl S.co S.gen rfl (PySem.W.codeRec_of kin hcd) (bind _ _ _ _ ?_)
  refine wpAny_newFunctionEnv_cells S.kind kinds fun env he s1 ic => ?_
  subst he
  refine ⟨lim.keeps ic.toInCall.keep, codeAny_func ?_⟩
  obtain ⟨t, ht, q⟩ := body cdv A outer s H vs Q E ⟨room.deeper _, gd⟩ hsp
  have I0 := inv_start (CX := CX) (cd := cdv) (f := f) (qual := qual) (E := E) S room.hd e0 (len _ _ _ _ hsp) v ic
  refine wpAny_mono (ht.run [] s1 (L2.start N vs) H _ I0 q) (fun fl s' z => ?_) fun _ _ z => z
  match fl, z with
  | .ret u, ⟨v', σ', H', J, rv, z⟩ => exact ⟨v', H', J.os, J.bare, J.base, J.hok, rv, z⟩
  | .next, ⟨σ', H', J, z⟩ => exact ⟨.non, H', J.os, J.bare, J.base, J.hok, rfl, z⟩
  | .brk, ⟨_, _, _, z⟩ => exact z.elim
  | .cont, ⟨_, _, _, z⟩ => exact z.elim
theorem fn_ok {x qual : Str} {st : Stmt} {f : Addr} {fd : FuncData} {N ps : List Str} {k : Nat} {m : MS} (F : Fun K x qual st f fd) (S : FnScope N ps (defScope st)) (hn : ps.length ≤ N.length)
    (hb : ∀ (cdv : Value) (A : Around) (outer : List PySem.Env) (s : Shared) (H : Hp) (E : XK), RoomG k (A.deeper (PyProof.Rows.envOfC qual (defScope st) s.heap.objs.size f cdv)) →
      ∃ t, PSs (cxOf CX0 P w K mg base N qual (defScope st) f cdv A outer s H E).nox (defBody st) t ∧ SR K Wx t m) : FnG P w K mg base CX0 (k + 1) f fd ps (spM K ps.length (mFn N.length m)) :=
  fn_G F S (fun vs H Q E ⟨ts, r, ts', Hi, Fs, q, hl, sub, ra, _⟩ => by rw [ra.len, hl]) fun cdv A outer s H vs Q E hr h => by
    obtain ⟨t, h1, h2⟩ := hb cdv A outer s H E hr
    exact ⟨t, h1.nox, fn_run h2 hn h⟩
end
end FL
namespace FL
open PySem PySem.Spec PyProof.Rows L2
def scriptH (K : PySem.W.Frag) (a : Addr) (o : Obj) (xs : List V) : Hp := fun b => if b = a ∧ K.lookup a = none then some (.frz o (.lst xs)) else none
theorem law_go {P : Program} {w : World} {K : PySem.W.Frag} {mg mb : Str → Option Value} {k : Nat} {fa a : Addr} {fd : FuncData} {x : Str} {sp : Sp} {s1 : Shared} {vs : List Value} {ns : List Int}
    (KX : K.In s1.heap) (hns : s1.heap.Ns mainGlobals mg) (hb : s1.heap.Ns builtinsNs mb) (hbb : ∀ x : Str, x ≠ "__name__" → mb x = bootBuiltins x) (hlim : s1.heap.NoLimit) (gens : s1.gens = #[])
    (ha : s1.heap.get? a = some { cls := .type "list", data := .seq vs.toArray }) (hints : PyProof.Rows.IntsAre vs ns) (hl : ns.length ≤ sizeLine) (room : Room k callerA)
    (G : ∀ base : Heap, K.In base → base.Ns mainGlobals mg → FnG P w K mg base CX0 k fa fd [x] sp) (hbind : ∀ (s : Shared) (u : Value), BindsTo s fd ⟨[u], []⟩ [(x, u)])
    (hsp : ∀ H : Hp, SqL K H a (ns.map V.int) → sp [.ref a] H (fun v _ => v = .bl true) E0) :
    codeAny (model P w) callerA (.call (.ref fa) ⟨[.ref a], []⟩) (fun r s' => r = .ok (.ret (.bool true)) ∧ OldK s1.heap s'.heap ∧ s'.os = s1.os ∧ AllBare s'.gens) s1 := by
  let ob : Obj := { cls := .type "list", data := .seq vs.toArray }
  have rv : Vals (ns.map V.int) vs := vals_ints hints
  have lv : vs.length = ns.length := hints.length
  let H := scriptH K a ob (ns.map V.int)
  have only : ∀ b u, H b = some u → b = a ∧ K.lookup a = none ∧ u = .frz ob (.lst (ns.map V.int)) := fun b u z => by
    have z' : (if b = a ∧ K.lookup a = none then some (HO.frz ob (.lst (ns.map V.int))) else none) = some u := z
    split at z'
    · rename_i h
      exact ⟨h.1, h.2, (Option.some.inj z').symm⟩
    · cases z'
  have hok : HOk P w H s1.heap := fun b u z => by
    obtain ⟨rfl, _, rfl⟩ := only b u z
    exact ⟨ha, by rw [List.length_map]; exact hl, vs, _, rv, ha⟩
  have seen : SqL K H a (ns.map V.int) := by
    cases q : K.lookup a with
    | none => exact .inl (.inr ⟨ob, if_pos ⟨rfl, q⟩⟩)
    | some o =>
      have z := KX a o q
      rw [ha] at z
      cases z
      exact .inr ⟨_, vs.toArray, _, q, rfl, rfl, rfl, by rw [List.size_toArray, lv]; exact hl, by simpa using rv⟩
  have dicts : ∀ {b : Addr} {m : Str → Option Value}, s1.heap.Ns b m → (hidT s1.heap H).Ns b m := fun {b m} ⟨o, es, ep, z, dd, rest⟩ => by
    refine ⟨o, es, ep, hidT_get z ?_, dd, rest⟩
    cases q : H b with
    | none => rfl
    | some u =>
      obtain ⟨rfl, _, _⟩ := only b u q
      rw [ha] at z
      cases z
      cases (show Data.seq vs.toArray _ = Data.dict es ep from dd)
  have kin : K.In (hidT s1.heap H) := fun b o z => hidT_get (KX b o z) (by
    cases q : H b with
    | none => rfl
    | some u =>
      obtain ⟨rfl, n, _⟩ := only b u q
      exact absurd (n.symm.trans z) (fun y => by cases y))
  have md : Mod K mg (hidT s1.heap H) := ⟨kin, dicts hns, ⟨mb, dicts hb, hbb⟩, by obtain ⟨mc, h1, h2⟩ := hlim; exact ⟨mc, dicts h1, h2⟩⟩
  have en : Env0 P w K mg (hidT s1.heap H) callerA [] s1 H := ⟨rfl, md, fun b o z => of_hidT z, Nat.le_of_eq (hidT_size _ _), trivial, fun b z => (nomatch z), hok, .of_eq gens⟩
  refine codeAny_mono ((G _ kin (dicts hns)).go callerA [] s1 H ⟨[.ref a], []⟩ [.ref a] [.ref a] (fun v _ => v = .bl true) E0 rfl room en (hbind s1 (.ref a)) (.cons rfl .nil) (hsp H seen)) fun r s' z => ?_
  match r, z with
  | .error e, z => exact z.elim
  | .ok .next, z => exact z.elim
  | .ok .brk, z => exact z.elim
  | .ok .cont, z => exact z.elim
  | .ok (.ret u), ⟨v, H', os, bare, un, hok', rel, hv⟩ =>
    have hv' : v = .bl true := hv
    subst hv'
    have hu : u = Value.bool true := rel
    subst hu
    refine ⟨rfl, OldK.of_keep fun b o zz => ?_, os, bare⟩
    cases q : H b with
    | none => exact un.keep b o zz q (fun y => nomatch y) (fun y => nomatch y)
    | some u =>
      obtain ⟨rfl, _, rfl⟩ := only b u q
      obtain ⟨e1, _⟩ := hok b _ q
      obtain ⟨e2, _⟩ := hok' b _ (un.frzs b ob _ q)
      rw [zz] at e1
      cases e1
      exact e2
theorem ints_dp {K : PySem.W.Frag} {H : Hp} : ∀ ns : List Int, DpAll K H (ns.map V.int) (ns.map PyData.int)
  | [] => .nil
  | n :: ns => .cons (.int n) (ints_dp ns)
def scriptT (ns : List Int) : Tr := .imm (.list (ns.map PyData.int))
theorem walk_G {l : PySem.W.OpenLaw} {n k : Nat} {q : Program} {loose : List Str} {XP : (Str → Option Value) → Heap → Prop} {YP : World → Heap → Prop} {d : DefRec} {K : Params → PySem.W.Frag} {m : MFn} {x : Str}
    (hn : l.most = some n) (hn2 : n ≤ sizeLine) (hdf : d.params.defaults = []) (room : Room k callerA)
    (hY : ∀ (w : World) (h : Heap), YP w h → (K w.params).In h)
    (F : ∀ (w : World) (mg : Str → Option Value) (fa : Addr) (h : Heap), (K w.params).In h → h.Ns mainGlobals mg → mg d.name = some (.ref fa) →
      ∃ fd : FuncData, (∀ (s : Shared) (u : Value), BindsTo s fd ⟨[u], []⟩ [(x, u)]) ∧
        ∀ base : Heap, (K w.params).In base → base.Ns mainGlobals mg → FnG l.prog w (K w.params) mg base CX0 k fa fd [x] (spM (K w.params) 1 m))
    (law : ∀ ns : List Int, ns.length ≤ n → ∃ ts', m [scriptT ns] = some (.imm (.bool true), ts')) :
    PySem.W.WalkO q loose XP YP l.row.toRowW d [] (fun f vs => PySem.call f vs) := by
  refine Att.attach_call hn hdf fun w s₀ s₁ mg mb fa o pm cd doc a vs ns G Y ho hd hcd hmg hobj hints hlen hg => ?_
  obtain ⟨fd, hb, hF⟩ := F w mg fa _ (hY w _ Y) G.T.g hmg
  refine law_go (hY w _ Y) G.T.g G.T.b G.T.builtins G.T.nolimit hg hobj hints (Nat.le_trans hlen hn2) room hF hb fun H hS => ?_
  obtain ⟨ts', e⟩ := law ns hlen
  refine ⟨[scriptT ns], .imm (.bool true), ts', H, fun _ => [], e, rfl, Same.refl _, ⟨rfl, fun i t z => ?_, fun _ _ => rfl, fun _ _ _ z => nomatch z⟩, fun v Hi' H' Fs' G' _ _ r _ _ => r.bl_inv.1⟩
  cases i with
  | zero =>
    simp at z
    subst z
    exact ⟨_, rfl, .imm (.lst hS (ints_dp ns))⟩
  | succ i => simp at z
end FL
namespace FL
open PySem PySem.Spec PyProof.Rows L2
section
variable {X : Cx}
theorem CallR.or {f : Value} {r1 r2 : List V → Hp → VK → Prop} (h1 : CallR X f r1) (h2 : CallR X f r2) : CallR X f (fun x H Q => r1 x H Q ∨ r2 x H Q) := by
  intro pins s σ H xs us Q I r h
  rcases h with h | h
  · exact h1 pins s σ H xs us Q I r h
  · exact h2 pins s σ H xs us Q I r h
def CDivX (i j : Int) : Prop := 0 < j ∧ (j.natAbs.log2 < 9000 ∨ i.natAbs.log2 < j.natAbs.log2 + 4400)
theorem noPylong_near {x y : Int} (h : x.natAbs.log2 < y.natAbs.log2 + 4400) : Builtin.divisionGoesByPylong x y = false := by
  have key : ¬ (if x == 0 then 0 else x.natAbs.log2 / 30 + 1) > (if y == 0 then 0 else y.natAbs.log2 / 30 + 1) + 150 := by
    by_cases hx : (x == 0) = true
    · rw [if_pos hx]; omega
    · rw [if_neg hx]
      by_cases hy : (y == 0) = true
      · rw [if_pos hy]
        have : y = 0 := by simpa using hy
        subst this
        have e : (0 : Int).natAbs.log2 = 0 := by decide
        omega
      · rw [if_neg hy]; omega
  show (_ && decide ((if x == 0 then 0 else x.natAbs.log2 / 30 + 1) > (if y == 0 then 0 else y.natAbs.log2 / 30 + 1) + 150)) = false
  rw [decide_eq_false key, Bool.and_false]
theorem op_fdivX : OpR X (binaryOp .FloorDiv) (rI CDivX fun i j => .int (i / j)) := opI fun i j _ _ _ _ _ hc q => by
  have h1 : (0 : Int) < j := hc.1
  exact floordiv_int (by omega) (by rw [Int.fdiv_eq_ediv_of_nonneg i (by omega)]; exact q) (.inl (hc.2.elim PyProof.noPylong_of_log2 noPylong_near))
end
section
variable {K : PySem.W.Frag} {A : List V} {Hi H Hi1 H1 Hi' H' : Hp} {σ : L2.St} {E : En} {Fs : Nat → List Addr}
theorem give {Q : VK} {v : V} {d : PyData} (sub : Same Hi H) (hd : Dp K Hi v d) (k : ∀ v Hi' H' W, RepT K Hi' H' v (.imm d) W → Grow Hi H Hi' H' W → Q v H') : Q v H := k v Hi H [] (.imm hd) (Grow.refl sub)
theorem giveI {Q : VK} {i : Int} (sub : Same Hi H) (k : ∀ v Hi' H' W, RepT K Hi' H' v (.imm (.int i)) W → Grow Hi H Hi' H' W → Q v H') : Q (.int i) H := give sub (.int i) k
theorem giveB {Q : VK} {b : Bool} (sub : Same Hi H) (k : ∀ v Hi' H' W, RepT K Hi' H' v (.imm (.bool b)) W → Grow Hi H Hi' H' W → Q v H') : Q (.bl b) H := give sub (.bl b) k
theorem giveT {Q : VK} {vs : List V} {ds : List PyData} (sub : Same Hi H) (hd : DpAll K Hi vs ds) (k : ∀ v Hi' H' W, RepT K Hi' H' v (.imm (.tuple ds)) W → Grow Hi H Hi' H' W → Q v H') : ∀ p, H p = none → Q (.ref p) (upd H p (.tup vs)) := fun p hp => by
  have g : Grow Hi H (upd Hi p (.tup vs)) (upd H p (.tup vs)) [] := Grow.imm sub hp
  exact k _ _ _ [] (.imm (.tup (SqT.of upd_same) (dpMonos g.ex _ _ hd))) g
theorem giveL {Q : VK} {vs : List V} {ds : List PyData} (sub : Same Hi H) (hd : DpAll K Hi vs ds) (k : ∀ v Hi' H' W, RepT K Hi' H' v (.lst (ds.map Tr.imm)) W → Grow Hi H Hi' H' W → Q v H') : ∀ p, H p = none → Q (.ref p) (upd H p (.lst vs)) := fun p hp => by
  have g : Grow Hi H Hi (upd H p (.lst vs)) [p] := Grow.own sub hp
  exact k _ _ _ [p] (.lst upd_same (free_of sub hp) (RepTs.imms hd) (fun z => nomatch z)) g
def imms : List Tr → Option (List PyData)
  | [] => some []
  | .imm d :: ts => (imms ts).map (d :: ·)
  | _ :: _ => none
theorem imms_ok : ∀ {ts : List Tr} {vs : List V} {F : List Addr} {ds : List PyData}, RepTs K Hi H vs ts F → imms ts = some ds → DpAll K Hi vs ds
  | [], _, _, _, h, q => by
    cases h
    cases q
    exact .nil
  | .imm d :: ts, _, _, _, h, q => by
    cases h with
    | cons r rs _ =>
      obtain ⟨ds, q1, rfl⟩ := Option.map_eq_some_iff.mp q
      exact .cons r.imm_inv.1 (imms_ok rs q1)
  | .lst _ :: _, _, _, _, _, q => by cases q
  | .dic _ :: _, _, _, _, _, q => by cases q
def seqOf : Tr → Option (Bool × List PyData)
  | .imm (.tuple ds) => some (true, ds)
  | .imm (.list ds) => some (false, ds)
  | .lst ts => (imms ts).map fun ds => (false, ds)
  | _ => none
theorem seq_ok {x : V} {t : Tr} {F : List Addr} {b : Bool} {ds : List PyData} (sub : Same Hi H) (r : RepT K Hi H x t F) (q : seqOf t = some (b, ds)) : ∃ a vs, x = .ref a ∧ DpAll K Hi vs ds ∧ (b = true → SqT K H a vs) ∧ (b = false → SqL K H a vs) := by
  unfold seqOf at q
  split at q
  · cases q
    obtain ⟨h, _⟩ := r.imm_inv
    cases h with
    | tup hs ha => exact ⟨_, _, rfl, ha, fun _ => seqT sub hs, fun z => nomatch z⟩
  · cases q
    obtain ⟨h, _⟩ := r.imm_inv
    cases h with
    | lst hs ha => exact ⟨_, _, rfl, ha, fun z => (nomatch z), fun _ => sub.seq hs⟩
  · obtain ⟨ds', q1, q2⟩ := Option.map_eq_some_iff.mp q
    cases q2
    cases r with
    | lst h1 h2 h3 h4 => exact ⟨_, _, rfl, imms_ok h3 q1, fun z => (nomatch z), fun _ => SqL.of h1⟩
  · cases q
theorem dpAll_app : ∀ {vs ws : List V} {ds es : List PyData}, DpAll K H vs ds → DpAll K H ws es → DpAll K H (vs ++ ws) (ds ++ es)
  | _, _, _, _, .nil, h => h
  | _, _, _, _, .cons a t, h => .cons a (dpAll_app t h)
def rAddA (K : PySem.W.Frag) : R2 := fun x y H Q => rI0 (fun i j => .int (i + j)) x y H Q ∨ (∃ i j, x = .str i ∧ y = .str j ∧ i.length + j.length ≤ sizeLine ∧ Q (.str (i ++ j)) H) ∨ rCat x y H Q ∨ rCatA K x y H Q
theorem op_addA {X : Cx} : OpR X (binaryOp .Add) (rAddA X.K) := OpR.or op_add (OpR.or op_add_str (OpR.or op_cat op_catA))
def fAdd : Tr → Tr → Option Tr
  | .imm (.int i), .imm (.int j) => some (.imm (.int (i + j)))
  | .imm (.str a), .imm (.str b) => if a.length + b.length ≤ 16777216 then some (.imm (.str (a ++ b))) else none
  | .lst ts, .lst us => (imms ts).bind fun ds => (imms us).bind fun es => if ds.length + es.length ≤ 16777216 then some (.lst ((ds ++ es).map Tr.imm)) else none
  | .imm (.tuple ds), .imm (.tuple es) => if ds.length + es.length ≤ 16777216 then some (.imm (.tuple (ds ++ es))) else none
  | _, _ => none
theorem o_add : OpT K (rAddA K) fAdd := fun t u w q Hi H x y F G sub rt ru Q k => by
  unfold fAdd at q
  split at q
  · cases q
    obtain ⟨rfl, _⟩ := rt.int_inv
    obtain ⟨rfl, _⟩ := ru.int_inv
    exact .inl ⟨_, _, rfl, rfl, giveI sub k⟩
  · split at q
    · rename_i hl
      cases q
      obtain ⟨rfl, _⟩ := rt.str_inv
      obtain ⟨rfl, _⟩ := ru.str_inv
      exact .inr (.inl ⟨_, _, rfl, rfl, by rw [sizeLine_eq]; exact hl, give sub (.str _) k⟩)
    · cases q
  · obtain ⟨ds, q1, q⟩ := Option.bind_eq_some_iff.mp q
    obtain ⟨es, q2, q⟩ := Option.bind_eq_some_iff.mp q
    split at q
    · rename_i hl
      cases q
      cases rt with
      | lst h1 h2 h3 h4 =>
        cases ru with
        | lst g1 g2 g3 g4 =>
          have a := imms_ok h3 q1
          have b := imms_ok g3 q2
          exact .inr (.inr (.inl ⟨_, _, _, _, rfl, rfl, h1, g1, by rw [sizeLine_eq, dpAll_len a, dpAll_len b]; exact hl, giveL sub (dpAll_app a b) k⟩))
    · cases q
  · split at q
    · rename_i hl
      cases q
      obtain ⟨hd, _⟩ := rt.imm_inv
      obtain ⟨he, _⟩ := ru.imm_inv
      cases hd with
      | @tup a vs _ hs ha =>
        cases he with
        | @tup b ws _ hs2 hb =>
          refine .inr (.inr (.inr ⟨a, b, vs, ws, rfl, rfl, seqT sub hs, seqT sub hs2, by rw [sizeLine_eq, dpAll_len ha, dpAll_len hb]; exact hl, fun e => ?_, fun _ e => ?_, fun _ _ => giveT sub (dpAll_app ha hb) k⟩))
          · subst e
            cases ha
            exact give sub (.tup hs2 hb) k
          · subst e
            cases hb
            rw [List.append_nil] at k
            exact give sub (.tup hs ha) k
    · cases q
  · cases q
def fI (C : Int → Int → Bool) (g : Int → Int → Int) : Tr → Tr → Option Tr
  | .imm (.int i), .imm (.int j) => if C i j = true then some (.imm (.int (g i j))) else none
  | _, _ => none
theorem o_I {C : Int → Int → Bool} {D : Int → Int → Prop} {g : Int → Int → Int} (h : ∀ i j, C i j = true → D i j) : OpT K (rI D fun i j => .int (g i j)) (fI C g) := fun t u w q Hi H x y F G sub rt ru Q k => by
  unfold fI at q
  split at q
  · split at q
    · rename_i hc
      cases q
      obtain ⟨rfl, _⟩ := rt.int_inv
      obtain ⟨rfl, _⟩ := ru.int_inv
      exact ⟨_, _, rfl, rfl, h _ _ hc, giveI sub k⟩
    · cases q
  · cases q
def fI0 (g : Int → Int → Int) : Tr → Tr → Option Tr
  | .imm (.int i), .imm (.int j) => some (.imm (.int (g i j)))
  | _, _ => none
theorem o_I0 {g : Int → Int → Int} : OpT K (rI0 fun i j => .int (g i j)) (fI0 g) := fun t u w q Hi H x y F G sub rt ru Q k => by
  unfold fI0 at q
  split at q
  · cases q
    obtain ⟨rfl, _⟩ := rt.int_inv
    obtain ⟨rfl, _⟩ := ru.int_inv
    exact ⟨_, _, rfl, rfl, giveI sub k⟩
  · cases q
def fSub : Tr → Tr → Option Tr := fI0 fun i j => i - j
theorem o_sub : OpT K (rI0 fun i j => .int (i - j)) fSub := o_I0
def cDiv (i j : Int) : Bool := decide (0 < j) && (decide (j.natAbs.log2 < 9000) || decide (i.natAbs.log2 < j.natAbs.log2 + 4400))
def fDiv : Tr → Tr → Option Tr := fI cDiv fun i j => i / j
theorem o_div : OpT K (rI CDivX fun i j => .int (i / j)) fDiv := o_I fun i j h => by
  unfold cDiv at h
  rw [Bool.and_eq_true, Bool.or_eq_true, decide_eq_true_eq, decide_eq_true_eq, decide_eq_true_eq] at h
  exact h
def cMod (_ j : Int) : Bool := decide (0 < j)
def fMod : Tr → Tr → Option Tr := fI cMod fun i j => i % j
theorem o_mod : OpT K (rI (fun _ j => 0 < j) fun i j => .int (i % j)) fMod := o_I fun i j h => of_decide_eq_true h
def cPow (i j : Int) : Bool := decide (0 ≤ j) && decide (j ≤ 1000000) && decide (i.natAbs < 2 ^ 64)
def fPow : Tr → Tr → Option Tr := fI cPow fun i j => i ^ j.toNat
theorem o_pow : OpT K (rI CPow fun i j => .int (i ^ j.toNat)) fPow := o_I fun i j h => by
  unfold cPow at h
  rw [Bool.and_eq_true, Bool.and_eq_true, decide_eq_true_eq, decide_eq_true_eq, decide_eq_true_eq] at h
  exact ⟨h.1.1, h.1.2, h.2⟩
def rMulA : R2 := fun x y H Q => rI CMulW (fun i j => .int (i * j)) x y H Q ∨ rRep x y H Q
theorem op_mulA {X : Cx} : OpR X (binaryOp .Mult) rMulA := OpR.or op_mulW op_rep
def fMul : Tr → Tr → Option Tr
  | .imm (.int i), .imm (.int j) => if i.natAbs.log2 + j.natAbs.log2 < 1000000 then some (.imm (.int (i * j))) else none
  | .lst ts, .imm (.int k) => (imms ts).bind fun ds => if -1000000 ≤ k ∧ k ≤ 1000000 ∧ ds.length * k.toNat ≤ 16777216 then some (.lst ((List.replicate k.toNat ds).flatten.map Tr.imm)) else none
  | _, _ => none
theorem dpAll_rep {vs : List V} {ds : List PyData} (h : DpAll K H vs ds) : ∀ n, DpAll K H (List.replicate n vs).flatten (List.replicate n ds).flatten
  | 0 => .nil
  | n + 1 => dpAll_app h (dpAll_rep h n)
theorem o_mul : OpT K rMulA fMul := fun t u w q Hi H x y F G sub rt ru Q k => by
  unfold fMul at q
  split at q
  · split at q
    · rename_i hc
      cases q
      obtain ⟨rfl, _⟩ := rt.int_inv
      obtain ⟨rfl, _⟩ := ru.int_inv
      exact .inl ⟨_, _, rfl, rfl, hc, giveI sub k⟩
    · cases q
  · obtain ⟨ds, q1, q⟩ := Option.bind_eq_some_iff.mp q
    split at q
    · rename_i hl
      cases q
      obtain ⟨rfl, _⟩ := ru.int_inv
      cases rt with
      | lst h1 h2 h3 h4 =>
        have a := imms_ok h3 q1
        exact .inr ⟨_, _, _, rfl, rfl, h1, by omega, by omega, by rw [sizeLine_eq, dpAll_len a]; exact hl.2.2, giveL sub (dpAll_rep a _) k⟩
    · cases q
  · cases q
def fNeg : Tr → Option Tr
  | .imm (.int i) => some (.imm (.int (-i)))
  | _ => none
theorem o_neg : UnT K (rU fun i => .int (-i)) fNeg := fun t w q Hi H x F sub rt Q k => by
  unfold fNeg at q
  split at q
  · cases q
    obtain ⟨rfl, _⟩ := rt.int_inv
    exact ⟨_, rfl, giveI sub k⟩
  · cases q
def fC (g : Int → Int → Bool) : Tr → Tr → Option Tr
  | .imm (.int i), .imm (.int j) => some (.imm (.bool (g i j)))
  | _, _ => none
theorem o_C {g : Int → Int → Bool} : OpT K (rI0 fun i j => .bl (g i j)) (fC g) := fun t u w q Hi H x y F G sub rt ru Q k => by
  unfold fC at q
  split at q
  · cases q
    obtain ⟨rfl, _⟩ := rt.int_inv
    obtain ⟨rfl, _⟩ := ru.int_inv
    exact ⟨_, _, rfl, rfl, giveB sub k⟩
  · cases q
def fLt : Tr → Tr → Option Tr := fC fun i j => decide (i < j)
def fLe : Tr → Tr → Option Tr := fC fun i j => decide (i ≤ j)
theorem o_le : OpT K (rI0 fun i j => .bl (decide (i ≤ j))) fLe := o_C
def fGt : Tr → Tr → Option Tr := fC fun i j => decide (j < i)
theorem o_gt : OpT K (rI0 fun i j => .bl (decide (j < i))) fGt := o_C
def fGe : Tr → Tr → Option Tr := fC fun i j => decide (j ≤ i)
theorem o_ge : OpT K (rI0 fun i j => .bl (decide (j ≤ i))) fGe := o_C
def rEqA (K : PySem.W.Frag) : R2 := fun x y H Q => rEq x y H Q ∨ rEqD K x y H Q
def rNeA (K : PySem.W.Frag) : R2 := fun x y H Q => rNe x y H Q ∨ rNeD K x y H Q
theorem op_eqA {X : Cx} (hu : X.A.units + 64 < cLine) : OpR X (compareOp .Eq) (rEqA X.K) := OpR.or op_eq (op_eqD hu)
theorem op_neA {X : Cx} (hu : X.A.units + 64 < cLine) : OpR X (compareOp .NotEq) (rNeA X.K) := OpR.or op_ne (op_neD hu)
def eqT : Tr → Tr → Option Bool
  | .imm (.str a), .imm (.str b) => some (decide (a = b))
  | .imm (.int i), .imm (.int j) => some (decide (i = j))
  | t, u => t.toD.bind fun d => u.toD.bind fun e => if SeqAt.shaped d = true ∧ SeqAt.shaped e = true then some (PyData.eqv d e) else none
def fEq (t u : Tr) : Option Tr := (eqT t u).map fun b => .imm (.bool b)
def fNe (t u : Tr) : Option Tr := (eqT t u).map fun b => .imm (.bool !b)
theorem dec_V_str {a b : Str} : decide (V.str a = V.str b) = decide (a = b) := by
  by_cases h : a = b
  · subst h; simp
  · rw [decide_eq_false h, decide_eq_false fun z => h (V.str.inj z)]
theorem dec_V_int {a b : Int} : decide (V.int a = V.int b) = decide (a = b) := by
  by_cases h : a = b
  · subst h; simp
  · rw [decide_eq_false h, decide_eq_false fun z => h (V.int.inj z)]
theorem eq_core {t u : Tr} {b : Bool} (q : eqT t u = some b) {x y : V} {F G : List Addr} (sub : Same Hi H) (rt : RepT K Hi H x t F) (ru : RepT K Hi H y u G) :
    (scal x y = true ∧ decide (x = y) = b) ∨ ∃ d e, Dp K H x d ∧ Dp K H y e ∧ SeqAt.shaped d = true ∧ SeqAt.shaped e = true ∧ PyData.eqv d e = b := by
  unfold eqT at q
  split at q
  · cases q
    obtain ⟨rfl, _⟩ := rt.str_inv
    obtain ⟨rfl, _⟩ := ru.str_inv
    exact .inl ⟨rfl, dec_V_str⟩
  · cases q
    obtain ⟨rfl, _⟩ := rt.int_inv
    obtain ⟨rfl, _⟩ := ru.int_inv
    exact .inl ⟨rfl, dec_V_int⟩
  · obtain ⟨d, q1, q⟩ := Option.bind_eq_some_iff.mp q
    obtain ⟨e, q2, q⟩ := Option.bind_eq_some_iff.mp q
    split at q
    · rename_i hs
      cases q
      exact .inr ⟨d, e, looks sub rt q1, looks sub ru q2, hs.1, hs.2, rfl⟩
    · cases q
theorem o_eq : OpT K (rEqA K) fEq := fun t u w q Hi H x y F G sub rt ru Q k => by
  obtain ⟨b, q1, rfl⟩ := Option.map_eq_some_iff.mp q
  rcases eq_core q1 sub rt ru with ⟨h1, h2⟩ | ⟨d, e, h1, h2, h3, h4, h5⟩
  · refine .inl ⟨h1, ?_⟩
    rw [h2]
    exact giveB sub k
  · refine .inr ⟨d, e, h1, h2, h3, h4, ?_⟩
    rw [h5]
    exact giveB sub k
theorem o_ne : OpT K (rNeA K) fNe := fun t u w q Hi H x y F G sub rt ru Q k => by
  obtain ⟨b, q1, rfl⟩ := Option.map_eq_some_iff.mp q
  rcases eq_core q1 sub rt ru with ⟨h1, h2⟩ | ⟨d, e, h1, h2, h3, h4, h5⟩
  · refine .inl ⟨h1, ?_⟩
    rw [h2]
    exact giveB sub k
  · refine .inr ⟨d, e, h1, h2, h3, h4, ?_⟩
    rw [h5]
    exact giveB sub k
def isN : Tr → Bool
  | .imm .none => true
  | _ => false
def fIsN (t u : Tr) : Option Tr := if isN u = true then some (.imm (.bool (isN t))) else none
def fNotN (t u : Tr) : Option Tr := if isN u = true then some (.imm (.bool !(isN t))) else none
end
end FL
namespace FL
open PySem L2
section
variable {K : PySem.W.Frag} {A : List V} {Hi H Hi1 H1 Hi' H' : Hp} {σ : L2.St} {E : En} {Fs : Nat → List Addr}
def fIx : Tr → Tr → Option Tr
  | .imm (.tuple ds), .imm (.int i) => (atI ds i).map Tr.imm
  | .imm (.list ds), .imm (.int i) => (atI ds i).map Tr.imm
  | .lst ts, .imm (.int i) => (atI ts i).bind fun t => match t with
    | .imm d => some (.imm d)
    | _ => none
  | .imm (.str z), .imm (.int i) => if z.length ≤ 16777216 then (atI z.cps.toList i).map fun c => .imm (.str ⟨#[c]⟩) else none
  | _, _ => none
theorem o_ix : OpT K (rIx K) fIx := fun t u w q Hi H x y F G sub rt ru Q k => by
  unfold fIx at q
  split at q
  · obtain ⟨d, e1, rfl⟩ := Option.map_eq_some_iff.mp q
    obtain ⟨rfl, _⟩ := ru.int_inv
    obtain ⟨hd, _⟩ := rt.imm_inv
    cases hd with
    | @tup a vs _ hs ha =>
      obtain ⟨j, v, j1, j2, j3, j4⟩ := atI_len (xs := vs) (dpAll_len ha) e1
      obtain ⟨v', e4, hv⟩ := dpAll_at ha j2
      rw [j3] at e4
      cases e4
      exact .inr (.inl ⟨a, vs, _, _, rfl, rfl, seqT sub hs, j4, give sub hv k⟩)
  · obtain ⟨d, e1, rfl⟩ := Option.map_eq_some_iff.mp q
    obtain ⟨rfl, _⟩ := ru.int_inv
    obtain ⟨hd, _⟩ := rt.imm_inv
    cases hd with
    | @lst a vs _ hs ha =>
      obtain ⟨j, v, j1, j2, j3, j4⟩ := atI_len (xs := vs) (dpAll_len ha) e1
      obtain ⟨v', e4, hv⟩ := dpAll_at ha j2
      rw [j3] at e4
      cases e4
      exact .inl ⟨a, vs, _, _, rfl, rfl, sub.seq hs, j4, give sub hv k⟩
  · obtain ⟨t0, e1, q⟩ := Option.bind_eq_some_iff.mp q
    split at q
    · cases q
      obtain ⟨rfl, _⟩ := ru.int_inv
      cases rt with
      | @lst a vs _ F1 h1 h2 h3 h4 =>
        obtain ⟨j, v, j1, j2, j3, j4⟩ := atI_len (xs := vs) h3.length e1
        obtain ⟨v', G, e4, hv, _⟩ := h3.get j2
        rw [j3] at e4
        cases e4
        exact .inl ⟨a, vs, _, _, rfl, rfl, SqL.of h1, j4, give sub hv.imm_inv.1 k⟩
    · cases q
  · split at q
    · rename_i hz
      obtain ⟨c, e1, rfl⟩ := Option.map_eq_some_iff.mp q
      obtain ⟨rfl, _⟩ := ru.int_inv
      obtain ⟨rfl, _⟩ := rt.str_inv
      exact .inr (.inr ⟨_, _, c, rfl, rfl, by rw [sizeLine_eq]; exact hz, e1, give sub (.str _) k⟩)
    · cases q
  · cases q
def cutL {α : Type} (xs : List α) (lo hi : Option Int) : List α := (xs.drop (HT.sIx xs.length 0 lo)).take (HT.sIx xs.length xs.length hi - HT.sIx xs.length 0 lo)
theorem dpAll_drop : ∀ {vs : List V} {ds : List PyData} (n : Nat), DpAll K H vs ds → DpAll K H (vs.drop n) (ds.drop n)
  | _, _, 0, h => h
  | _, _, _ + 1, .nil => .nil
  | _, _, n + 1, .cons _ t => dpAll_drop n t
theorem dpAll_take : ∀ {vs : List V} {ds : List PyData} (n : Nat), DpAll K H vs ds → DpAll K H (vs.take n) (ds.take n)
  | _, _, 0, _ => .nil
  | _, _, _ + 1, .nil => .nil
  | _, _, n + 1, .cons a t => .cons a (dpAll_take n t)
theorem dpAll_cut {vs : List V} {ds : List PyData} (h : DpAll K H vs ds) (lo hi : Option Int) : DpAll K H (cutV vs lo hi) (cutL ds lo hi) := by
  unfold cutV cutL
  rw [dpAll_len h]
  exact dpAll_take _ (dpAll_drop _ h)
def rSlX (K : PySem.W.Frag) : V → Option Int → Option Int → Hp → VK → Prop := fun x lo hi H Q => rSlL K x lo hi H Q ∨ rSlA K x lo hi H Q ∨ rSlS x lo hi H Q
theorem sl_any {X : Cx} : SlR X (rSlX X.K) := by
  intro pins s σ H x v vl vu lo hi sl Q I rx hs pl pu h
  rcases h with h | h | h
  · exact sl_list pins s σ H x v vl vu lo hi sl Q I rx hs pl pu h
  · exact sl_tupA pins s σ H x v vl vu lo hi sl Q I rx hs pl pu h
  · exact sl_str pins s σ H x v vl vu lo hi sl Q I rx hs pl pu h
def fSl (t : Tr) (lo hi : Option Int) : Option Tr := match t with
  | .imm (.str z) => if z.length ≤ 16777216 then some (.imm (.str (cutS z lo hi))) else none
  | t => (seqOf t).map fun p => if p.1 = true then .imm (.tuple (cutL p.2 lo hi)) else .lst ((cutL p.2 lo hi).map Tr.imm)
theorem cut_whole {α : Type} {xs : List α} {lo hi : Option Int} (h : HT.sIx xs.length 0 lo = 0 ∧ HT.sIx xs.length xs.length hi = xs.length) : cutL xs lo hi = xs := by
  unfold cutL
  rw [h.1, h.2]
  simp
theorem o_sl : SlT K (rSlX K) fSl := fun t lo hi w q Hi H x F sub rt Q k => by
  unfold fSl at q
  split at q
  · split at q
    · rename_i hz
      cases q
      obtain ⟨rfl, _⟩ := rt.str_inv
      exact .inr (.inr ⟨_, rfl, by rw [sizeLine_eq]; exact hz, give sub (.str _) k⟩)
    · cases q
  · obtain ⟨⟨b, ds⟩, q1, rfl⟩ := Option.map_eq_some_iff.mp q
    obtain ⟨a, vs, rfl, ha, hT, hL⟩ := seq_ok sub rt q1
    cases b with
    | true =>
      have hc := dpAll_cut ha lo hi
      refine .inr (.inl ⟨a, vs, rfl, hT rfl, fun hw => ?_, fun _ => giveT sub hc k⟩)
      have e1 : cutL ds lo hi = ds := cut_whole (by rw [← dpAll_len ha]; exact hw)
      have e2 : cutV vs lo hi = vs := cut_whole hw
      rw [e1] at k
      have hd : Dp K Hi (.ref a) (.tuple ds) := by
        clear k hc
        unfold seqOf at q1
        split at q1
        · cases q1
          exact rt.imm_inv.1
        · cases q1
        · obtain ⟨_, _, z⟩ := Option.map_eq_some_iff.mp q1
          cases z
        · cases q1
      exact give sub hd k
    | false => exact .inl ⟨a, vs, rfl, hL rfl, giveL sub (dpAll_cut ha lo hi) k⟩
theorem RepVs.one_inv {xs : List V} {t : Tr} (h : RepVs K Hi H xs [t]) : ∃ x F, xs = [x] ∧ RepT K Hi H x t F := by
  cases h with
  | cons r rs =>
    cases rs
    exact ⟨_, _, rfl, r⟩
theorem RepVs.two_inv {xs : List V} {t u : Tr} (h : RepVs K Hi H xs [t, u]) : ∃ x y F G, xs = [x, y] ∧ RepT K Hi H x t F ∧ RepT K Hi H y u G := by
  cases h with
  | cons r rs =>
    obtain ⟨y, G, rfl, s⟩ := rs.one_inv
    exact ⟨_, _, _, _, rfl, r, s⟩
def rLenA (K : PySem.W.Frag) : List V → Hp → VK → Prop := fun xs H Q => (∃ p ys, xs = [.ref p] ∧ (SqL K H p ys ∨ SqT K H p ys) ∧ Q (.int ys.length) H) ∨ (∃ z, xs = [.str z] ∧ z.length ≤ sizeLine ∧ Q (.int z.length) H) ∨ (∃ a kvs, xs = [V.ref a] ∧ H a = some (.dK kvs) ∧ Q (.int kvs.length) H)
theorem call_lenA {X : Cx} : CallR X (.builtin "len") (rLenA X.K) := CallR.or call_len_seq (CallR.or call_len_str call_lenD)
def lenT : Tr → Option Nat
  | .imm (.tuple ds) => some ds.length
  | .imm (.list ds) => some ds.length
  | .lst ts => some ts.length
  | .dic kvs => some kvs.length
  | .imm (.str z) => if z.length ≤ 16777216 then some z.length else none
  | _ => none
def fLen : List Tr → Option Tr
  | [t] => (lenT t).map fun n => .imm (.int (n : Int))
  | _ => none
theorem c_len : CallT K (rLenA K) fLen := fun ts w q Hi H xs sub r Q k => by
  unfold fLen at q
  split at q
  · obtain ⟨n, q1, rfl⟩ := Option.map_eq_some_iff.mp q
    obtain ⟨x, F, rfl, rt⟩ := r.one_inv
    unfold lenT at q1
    split at q1
    · cases q1
      obtain ⟨hd, _⟩ := rt.imm_inv
      cases hd with
      | tup hs ha =>
        refine .inl ⟨_, _, rfl, .inr (seqT sub hs), ?_⟩
        rw [dpAll_len ha]
        exact giveI sub k
    · cases q1
      obtain ⟨hd, _⟩ := rt.imm_inv
      cases hd with
      | lst hs ha =>
        refine .inl ⟨_, _, rfl, .inl (sub.seq hs), ?_⟩
        rw [dpAll_len ha]
        exact giveI sub k
    · cases q1
      cases rt with
      | lst h1 h2 h3 h4 =>
        refine .inl ⟨_, _, rfl, .inl (SqL.of h1), ?_⟩
        rw [h3.length]
        exact giveI sub k
    · cases q1
      cases rt with
      | dic h1 h2 h3 =>
        refine .inr (.inr ⟨_, _, rfl, h1, ?_⟩)
        rw [Paired.length h3]
        exact giveI sub k
    · split at q1
      · rename_i hz
        cases q1
        obtain ⟨rfl, _⟩ := rt.str_inv
        exact .inr (.inl ⟨_, rfl, by rw [sizeLine_eq]; exact hz, giveI sub k⟩)
      · cases q1
    · cases q1
  · cases q
def fAbs : List Tr → Option Tr
  | [.imm (.int i)] => some (.imm (.int (if i < 0 then -i else i)))
  | _ => none
theorem c_abs : CallT K (fun xs H Q => ∃ i, xs = [.int i] ∧ Q (.int (if i < 0 then -i else i)) H) fAbs := fun ts w q Hi H xs sub r Q k => by
  unfold fAbs at q
  split at q
  · cases q
    obtain ⟨x, F, rfl, rt⟩ := r.one_inv
    obtain ⟨rfl, _⟩ := rt.int_inv
    exact ⟨_, rfl, giveI sub k⟩
  · cases q
def fMax2 : List Tr → Option Tr
  | [.imm (.int i), .imm (.int j)] => some (.imm (.int (if j > i then j else i)))
  | _ => none
def fMin2 : List Tr → Option Tr
  | [.imm (.int i), .imm (.int j)] => some (.imm (.int (if j < i then j else i)))
  | _ => none
def fInt1 : List Tr → Option Tr
  | [.imm (.int i)] => some (.imm (.int i))
  | [.imm (.bool b)] => some (.imm (.int (if b then 1 else 0)))
  | _ => none
theorem c_int1 : CallT K (fun xs H Q => (∃ i, xs = [.int i] ∧ Q (.int i) H) ∨ ∃ k, xs = [.bl k] ∧ Q (.int (if k then 1 else 0)) H) fInt1 := fun ts w q Hi H xs sub r Q k => by
  unfold fInt1 at q
  split at q
  · cases q
    obtain ⟨x, F, rfl, rt⟩ := r.one_inv
    obtain ⟨rfl, _⟩ := rt.int_inv
    exact .inl ⟨_, rfl, giveI sub k⟩
  · cases q
    obtain ⟨x, F, rfl, rt⟩ := r.one_inv
    obtain ⟨rfl, _⟩ := rt.bl_inv
    exact .inr ⟨_, rfl, giveI sub k⟩
  · cases q
def intsOf : List PyData → Option (List Int)
  | [] => some []
  | .int i :: ds => (intsOf ds).map (i :: ·)
  | _ :: _ => none
theorem intsOf_ok : ∀ {ds : List PyData} {vs : List V} {ns : List Int}, DpAll K H vs ds → intsOf ds = some ns → vs = ns.map V.int
  | [], _, _, h, q => by
    cases h
    cases q
    rfl
  | .int i :: ds, _, _, h, q => by
    obtain ⟨ns, q1, rfl⟩ := Option.map_eq_some_iff.mp q
    cases h with
    | cons h1 h2 =>
      cases h1
      rw [intsOf_ok h2 q1]
      rfl
  | .none :: _, _, _, _, q => by cases q
  | .bool _ :: _, _, _, _, q => by cases q
  | .str _ :: _, _, _, _, q => by cases q
  | .list _ :: _, _, _, _, q => by cases q
  | .tuple _ :: _, _, _, _, q => by cases q
  | .dict _ :: _, _, _, _, q => by cases q
theorem intsOf_map (ns : List Int) : intsOf (ns.map PyData.int) = some ns := by
  induction ns with
  | nil => rfl
  | cons n ns ih => rw [List.map_cons, intsOf, ih]; rfl
def boolsOf : List PyData → Option (List Bool)
  | [] => some []
  | .bool i :: ds => (boolsOf ds).map (i :: ·)
  | _ :: _ => none
theorem boolsOf_ok : ∀ {ds : List PyData} {vs : List V} {ns : List Bool}, DpAll K H vs ds → boolsOf ds = some ns → vs = ns.map V.bl
  | [], _, _, h, q => by
    cases h
    cases q
    rfl
  | .bool i :: ds, _, _, h, q => by
    obtain ⟨ns, q1, rfl⟩ := Option.map_eq_some_iff.mp q
    cases h with
    | cons h1 h2 =>
      cases h1
      rw [boolsOf_ok h2 q1]
      rfl
  | .none :: _, _, _, _, q => by cases q
  | .int _ :: _, _, _, _, q => by cases q
  | .str _ :: _, _, _, _, q => by cases q
  | .list _ :: _, _, _, _, q => by cases q
  | .tuple _ :: _, _, _, _, q => by cases q
  | .dict _ :: _, _, _, _, q => by cases q
def lstD (t : Tr) : Option (List PyData) := (seqOf t).bind fun p => if p.1 = true then none else some p.2
theorem lstD_ok {x : V} {t : Tr} {F : List Addr} {ds : List PyData} (sub : Same Hi H) (r : RepT K Hi H x t F) (q : lstD t = some ds) : ∃ a vs, x = .ref a ∧ DpAll K Hi vs ds ∧ SqL K H a vs := by
  unfold lstD at q
  obtain ⟨⟨b, es⟩, q1, q⟩ := Option.bind_eq_some_iff.mp q
  cases b with
  | true => cases q
  | false =>
    cases q
    obtain ⟨a, vs, e, ha, _, hL⟩ := seq_ok sub r q1
    exact ⟨a, vs, e, ha, hL rfl⟩
def fAll : List Tr → Option Tr
  | [t] => (lstD t).bind fun ds => (boolsOf ds).map fun ns => .imm (.bool (ns.all id))
  | _ => none
theorem c_all : CallT K (rAll K) fAll := fun ts w q Hi H xs sub r Q k => by
  unfold fAll at q
  split at q
  · obtain ⟨ds, q1, q⟩ := Option.bind_eq_some_iff.mp q
    obtain ⟨ns, q2, rfl⟩ := Option.map_eq_some_iff.mp q
    obtain ⟨x, F, rfl, rt⟩ := r.one_inv
    obtain ⟨a, vs, rfl, ha, hL⟩ := lstD_ok sub rt q1
    have e := boolsOf_ok ha q2
    subst e
    exact ⟨a, ns, rfl, hL, giveB sub k⟩
  · cases q
def fTuple : List Tr → Option Tr
  | [t] => (seqOf t).map fun p => .imm (.tuple p.2)
  | _ => none
theorem c_tuple : CallT K (fun xs H Q => ∃ p ys, xs = [.ref p] ∧ ((SqL K H p ys ∧ ∀ l, H l = none → Q (.ref l) (upd H l (.tup ys))) ∨ (SqT K H p ys ∧ Q (.ref p) H))) fTuple := fun ts w q Hi H xs sub r Q k => by
  unfold fTuple at q
  split at q
  · obtain ⟨⟨b, ds⟩, q1, rfl⟩ := Option.map_eq_some_iff.mp q
    obtain ⟨x, F, rfl, rt⟩ := r.one_inv
    obtain ⟨a, vs, rfl, ha, hT, hL⟩ := seq_ok sub rt q1
    cases b with
    | true =>
      have hd : Dp K Hi (.ref a) (.tuple ds) := by
        clear k
        unfold seqOf at q1
        split at q1
        · cases q1
          exact rt.imm_inv.1
        · cases q1
        · obtain ⟨_, _, z⟩ := Option.map_eq_some_iff.mp q1
          cases z
        · cases q1
      exact ⟨a, vs, rfl, .inr ⟨hT rfl, give sub hd k⟩⟩
    | false => exact ⟨a, vs, rfl, .inl ⟨hL rfl, giveT sub ha k⟩⟩
  · cases q
def fList : List Tr → Option Tr
  | [t] => (seqOf t).map fun p => .lst (p.2.map Tr.imm)
  | _ => none
theorem c_list : CallT K (fun xs H Q => ∃ p ys, xs = [.ref p] ∧ (SqL K H p ys ∨ SqT K H p ys) ∧ ∀ l, H l = none → Q (.ref l) (upd H l (.lst ys))) fList := fun ts w q Hi H xs sub r Q k => by
  unfold fList at q
  split at q
  · obtain ⟨⟨b, ds⟩, q1, rfl⟩ := Option.map_eq_some_iff.mp q
    obtain ⟨x, F, rfl, rt⟩ := r.one_inv
    obtain ⟨a, vs, rfl, ha, hT, hL⟩ := seq_ok sub rt q1
    refine ⟨a, vs, rfl, ?_, giveL sub ha k⟩
    cases b with
    | true => exact .inr (hT rfl)
    | false => exact .inl (hL rfl)
  · cases q
end
end FL
namespace FL
open PySem PySem.Spec PyProof.Rows L2
theorem meets_enum1 {v : Value} {o : Obj} {T : Heap → Prop} (B : Begins v o T) : Meets (Builtin.«enumerate.__new__» ⟨[.type "enumerate", v], []⟩) (fun _ R s => T s.heap ∧
      R (.ok (.ret (.ref (s.heap.push o).objs.size))) { s with heap := (s.heap.push o).push { cls := .type "enumerate", data := .fields #[.none, .bool false, .ref s.heap.objs.size, rawInt 0, .none, .none] } }) :=
  .of_wp fun prog w A R s h => by
    obtain ⟨hp, g, d, tk, os⟩ := s
    obtain ⟨h1, h⟩ := h
    have hsub := sub_enumerate
    have q1 : ∀ {A' : Around} {E : Value → Shared → Prop} {Q : Value → Shared → Prop}, Q (.ref hp.objs.size) ⟨hp.push o, g, d, tk, os⟩ → wpAny (model prog w) A' (pyIter v) Q E ⟨hp, g, d, tk, os⟩ :=
      fun q => B.iter prog w _ _ ⟨hp, g, d, tk, os⟩ _ h1 q
    wp_walk using q1
    refine wpAny_stack_any fun st => wpAny_pure ?_
    split
    · rename_i c _ _ _ _ _
      cases (c == Value.type "enumerate") <;> (wp_walk using q1; exact ⟨_, rfl, h⟩)
    · wp_walk using q1
      exact ⟨_, rfl, h⟩
section
variable {prog : Program} {w : World} {A : Around} {E : Value → Shared → Prop} {s : Shared}
theorem call_enum1 {v : Value} {o : Obj} {T : Heap → Prop} {Q : Value → Shared → Prop} (B : Begins v o T) (h1 : T s.heap)
    (h : ∀ h', IsEnum h' (s.heap.objs.size + 1) s.heap.objs.size 0 .none → h'.get? s.heap.objs.size = some o → (∀ b ob, s.heap.get? b = some ob → h'.get? b = some ob) → Q (.ref (s.heap.objs.size + 1)) { s with heap := h' }) :
    wpAny (model prog w) A (call (.type "enumerate") [v]) Q E s := by
  refine callType_new F.called_enumerate (by decide) (F.typeCall_enumerate_1 _) (F.newCall_enumerate_1 _) (fun obj => F.args_object_init_2 obj _) F.entry_enumerate_new (meets_enum1 B) ⟨h1, ?_⟩
  have hz : (s.heap.push o).objs.size = s.heap.objs.size + 1 := Heap.size_push ..
  have he := Heap.get?_push_size (s.heap.push o) (o := { cls := .type "enumerate", data := .fields #[.none, .bool false, .ref s.heap.objs.size, rawInt 0, .none, .none] }) rfl
  rw [hz] at he ⊢
  exact ⟨⟨_, he, rfl⟩, h _ he (Heap.get?_push_of_some _ (Heap.get?_push_size _ B.free)) fun b ob x => Heap.get?_push_of_some _ (Heap.get?_push_of_some _ x)⟩
end
def IteT (K : PySem.W.Frag) (a : Addr) : It :=
  ⟨fun i H => ∃ (xs : List V) (x : V), SqT K H a xs ∧ xs[i]? = some x, fun i H v H' => ∃ T x, v = .ref T ∧ H T = none ∧ H' = upd H T (.tup [.int (i : Nat), x]) ∧ ∀ xs, SqT K H a xs → xs[i]? = some x, fun i H => ∃ xs : List V, SqT K H a xs ∧ xs.length ≤ i⟩
theorem turn_enumT {P : Program} {w : World} {K : PySem.W.Frag} {elts : List Expr} {kk : Nat} {tpos : Pos} (a e it : Addr) :
    Turn P w K (.Tuple elts kk tpos) (IteT K a) [e, it] e (fun i h => (∃ old, IsEnum h e it ((i : Nat) : Int) old) ∧ h.IsTupleIter it a i ∧ e ≠ it ∧ a ≠ it ∧ e ≠ a) where
  mem := by simp
  obj := fun i h st b hb => by
    obtain ⟨⟨old, he⟩, ⟨o, ho, hc, hd⟩, _⟩ := st
    rcases (by simpa using hb : b = e ∨ b = it) with z | z
    · rw [z]; exact ⟨_, he, fun v q => nomatch q⟩
    · rw [z]; exact ⟨o, ho, fun v q => by rw [hd] at q; cases q⟩
  keep := fun i h h' st k => let ⟨⟨old, he⟩, hi, rest⟩ := st; ⟨⟨old, k e (by simp) _ he⟩, hi.at fun o q => k it (by simp) o q, rest⟩
  item := by
    intro X hP hw hK hc i pins s σ H E I hf st hg
    subst hP hw hK
    obtain ⟨⟨old, he⟩, hit, hne, hat, hae⟩ := st
    obtain ⟨xs, x, hq, hx⟩ := hg
    obtain ⟨its, rv, p, hz⟩ := I.tuple hq
    obtain ⟨u, hu, ru⟩ := rv.get hx
    have hel : e < s.heap.objs.size := Heap.lt_size he
    have hil : it < s.heap.objs.size := by obtain ⟨_, q, _⟩ := hit; exact Heap.lt_size q
    have hlt : i < its.toArray.size := by
      rw [List.size_toArray]
      exact (List.getElem?_eq_some_iff.mp hu).1
    have D := Draws.tuple (prog := X.prog) (w := X.w) (A := X.A.in1) (I.ok.hd hc) it a hat its.toArray
    refine wpAny_pyNext_enum_itemD D he ⟨hit, p⟩ hlt hne (by simp [hne, hae]) fun x' h' tk hP ho st' hT hsz hk => ?_
    have ex : x' = u := by
      have hP' : its.toArray[i]? = some x' := hP
      have : its[i]? = some x' := by simpa using hP'
      rw [hu] at this
      exact (Option.some.inj this).symm
    subst ex
    refine ⟨_, rfl, wpAny_letOwnedTupleGo_enum (s := { s with heap := h', toks := tk + 1 }) ho fun h'' he' sb => ?_⟩
    have hT2 : h''.get? s.heap.objs.size = some { cls := .type "tuple", data := .seq #[.int i tk, x'] } := (sb.2 _ (Nat.ne_of_gt hel)).trans hT
    have new : ObjOk X.prog X.w (upd H s.heap.objs.size (.tup [.int (i : Nat), x])) h'' s.heap.objs.size (.tup [.int (i : Nat), x]) :=
      ⟨by show 2 ≤ sizeLine; decide, [.int i tk, x'], .cons ⟨_, rfl⟩ (.cons ru .nil), ⟨_, hT2, rfl, _, rfl⟩⟩
    have I1 : Inv X pins σ (upd H s.heap.objs.size (.tup [.int (i : Nat), x])) { s with heap := h'', toks := tk + 1 } :=
      I.turnedNew (ch := [e, it]) (fun b ob hb q => (sb.2 b (fun z => hb (by simp [z]))).trans (hk b ob (fun z => hb (by simp [z])) (fun z => hb (by simp [z])) q)) hf (Nat.le_refl _) new
    refine ⟨.ref s.heap.objs.size, _, I1, rfl, ⟨_, x, rfl, I.hok.fresh (Nat.le_refl _), rfl, fun ys hy => by rw [I.tuple_inj hy hq]; exact hx⟩, ⟨⟨x', ?_⟩, st'.1.at fun o q => (sb.2 it (Ne.symm hne)).trans q, hne, hat, hae⟩, fun b hb => ?_⟩
    · rw [show ((i + 1 : Nat) : Int) = (i : Int) + 1 by omega]
      exact he'
    · have hb' : b < s.heap.objs.size := by
        rcases (by simpa using hb : b = e ∨ b = it) with z | z
        · rw [z]; exact hel
        · rw [z]; exact hil
      rw [upd_ne (Nat.ne_of_lt hb')]
      exact (hf b hb).1
  done := by
    intro X hP hw hK hc i pins s σ H E I hf st hg
    subst hP hw hK
    obtain ⟨⟨old, he⟩, hit, hne, hat, hae⟩ := st
    obtain ⟨xs, hq, hx⟩ := hg
    obtain ⟨its, rv, p, hz⟩ := I.tuple hq
    obtain ⟨f0, f1, f2, f3, f4, f5⟩ := hf it (by simp)
    have hl := rv.length
    have D := Draws.tuple (prog := X.prog) (w := X.w) (A := X.A.in1) (I.ok.hd hc) it a hat its.toArray
    have hit' : its.toArray[i]? = none := by simp; omega
    unfold pyNext
    have hT : s.TypeIs (.ref e) "enumerate" := ⟨_, he, rfl⟩
    refine wpAny_bind (wpAny_attempt (wpAny_callSpecial?_slot (name := Str.ofString "__next__") hT PySem.F.slot_enumerate_next (wpAny_call_entry PySem.F.slot_enumerate_next hT PySem.F.entry_enumerate_next ?_ (PySem.F.args_enumerate_next_1 _))))
    show wpAny _ _ (field (.ref e) 2 >>= _) _ _ _
    refine wpAny_bind (wpAny_field he rfl (x := .ref it) rfl ?_)
    refine wpAny_bind (wpAny_nextOf_tuple_end (I.ok.hd hc) hit (show s.heap.IsTuple a its.toArray from p) hit' fun h' y eb hy => ?_)
    obtain ⟨o, ho, hcl⟩ := hy
    exact wpAny_bind (wpAny_isInstance (T := "StopIteration") (b := true) ⟨o, ho, hcl⟩ isSubtype_stop (wpAny_pure ⟨rfl, I.turned (t' := s.toks) (fun b ob hb q => eb b ob hb q) f0 f1 f3 f4 f5⟩))
  self := fun A i s Q E st h => let ⟨⟨_, he⟩, _⟩ := st; wpAny_pyIter_enum he h
def iEnumA (K : PySem.W.Frag) (ta : TA) : TI := fun σ H R => ta σ H fun vs H1 => (∃ a xs, vs = [.ref a] ∧ SqL K H1 a xs ∧ R (Ite K a) H1) ∨ ∃ a xs, vs = [.ref a] ∧ SqT K H1 a xs ∧ R (IteT K a) H1
theorem pi_enumA {X : Cx} {e : Expr} {ta : TA} {p pos tpos : Pos} {elts : List Expr} {kk : Nat} (hg : Gl X "enumerate") (hm : X.mg "enumerate" = none) (ha : PA X [e] ta) (hs : starEach [e] X.env = [(false, eval e X.env)] := by rfl) :
    PI X (.Tuple elts kk tpos) (.Call (.Name "enumerate" p) [e] [] pos) (iEnumA X.K ta) := by
  refine ⟨fun pins s σ H R I h => ?_⟩
  refine Call_ (ld_blt I hg hm boot_enumerate (PyProof.Rows.callWith_type1 (thn (ha.run pos pins s σ H _ I h) fun us s1 ⟨vs, H1, I1, r1, q1⟩ => ?_) hs rfl))
  have fin : ∀ (h' : Heap), (∀ b ob, s1.heap.get? b = some ob → h'.get? b = some ob) → ∀ b ∈ [s1.heap.objs.size + 1, s1.heap.objs.size], FpOk X pins H1 b := fun h' hk b hb => by
    have hle : s1.heap.objs.size ≤ b := by
      rcases (by simpa using hb : b = s1.heap.objs.size + 1 ∨ b = s1.heap.objs.size) with z | z
      · rw [z]; exact Nat.le_add_right _ _
      · rw [z]; exact Nat.le_refl _
    exact I1.fpOk hle (I1.hok.fresh hle)
  rcases q1 with ⟨a, xs, ex, hq, q⟩ | ⟨a, xs, ex, hq, q⟩
  · subst ex
    cases r1 with
    | cons r rr =>
      cases rr
      cases r
      obtain ⟨its, rv, p', hz⟩ := I1.list hq
      refine call_enum1 (begins_list a its.toArray) p'.isList fun h' he hit hk => wpAny_pyIter_enum he ?_
      exact ⟨s1.heap.objs.size + 1, [s1.heap.objs.size + 1, s1.heap.objs.size], _, _, H1, rfl, I1.kept (t' := s1.toks) hk, turn_enum a (s1.heap.objs.size + 1) s1.heap.objs.size, ⟨⟨.none, he⟩, ⟨_, hit, rfl, rfl⟩, Nat.succ_ne_self _⟩, fin h' hk, q⟩
  · subst ex
    cases r1 with
    | cons r rr =>
      cases rr
      cases r
      obtain ⟨its, rv, p', hz⟩ := I1.tuple hq
      have hat : a < s1.heap.objs.size := by obtain ⟨o, ho, _⟩ := p'; exact Heap.lt_size ho
      refine call_enum1 (begins_tuple a its.toArray) (show s1.heap.IsTuple a its.toArray from p') fun h' he hit hk => wpAny_pyIter_enum he ?_
      refine ⟨s1.heap.objs.size + 1, [s1.heap.objs.size + 1, s1.heap.objs.size], _, _, H1, rfl, I1.kept (t' := s1.toks) hk, turn_enumT a (s1.heap.objs.size + 1) s1.heap.objs.size, ⟨⟨.none, he⟩, ⟨_, hit, rfl, rfl⟩, Nat.succ_ne_self _, Nat.ne_of_lt hat, ?_⟩, fin h' hk, q⟩
      exact Nat.ne_of_gt (Nat.lt_succ_of_lt hat)
def iSeq (K : PySem.W.Frag) (tl : TE) : TI := fun σ H R => tl σ H fun x H1 => (∃ a, x = .ref a ∧ (∃ xs, SqL K H1 a xs) ∧ R (Itl K a) H1) ∨ (∃ a, x = .ref a ∧ (∃ xs, SqT K H1 a xs) ∧ R (Itt K a) H1) ∨ ∃ z, x = .str z ∧ R (Its z) H1
theorem pi_seq {X : Cx} {tg l : Expr} {tl : TE} (hl : PE X l tl) : PI X tg l (iSeq X.K tl) := by
  refine ⟨fun pins s σ H R I h => thn (hl.run pins s σ H _ I h) fun v s1 ⟨x, H1, I1, r1, q1⟩ => ?_⟩
  rcases q1 with ⟨a, e, ⟨xs, hq⟩, q⟩ | ⟨a, e, ⟨xs, hq⟩, q⟩ | ⟨z, e, q⟩
  · subst e
    cases r1
    obtain ⟨its, _, p, _⟩ := I1.list hq
    exact wpAny_pyIter_list p.isList (pi_one (tk := s1.toks) I1 _ (turn_list a _) ⟨_, Heap.get?_push_size _ rfl, rfl, rfl⟩ q)
  · subst e
    cases r1
    obtain ⟨its, _, p, _⟩ := I1.tuple hq
    exact wpAny_pyIter_tuple (show s1.heap.IsTuple a its.toArray from p) (pi_one (tk := s1.toks) I1 _ (turn_tuple a _) ⟨_, Heap.get?_push_size _ rfl, rfl, rfl⟩ q)
  · subst e
    obtain ⟨t, rfl⟩ := r1
    cases ha : z.cps.all (· < 128)
    · exact wpAny_pyIter_wide ha (pi_one (tk := s1.toks) I1 _ (turn_str _ z t "str_iterator" (.inr rfl)) ⟨_, Heap.get?_push_size _ rfl, rfl, rfl⟩ q)
    · exact wpAny_pyIter_ascii ha (pi_one (tk := s1.toks) I1 _ (turn_str _ z t "str_ascii_iterator" (.inl rfl)) ⟨_, Heap.get?_push_size _ rfl, rfl, rfl⟩ q)
section
variable {K : PySem.W.Frag} {A : List V} {Hi H Hi1 H1 Hi' H' : Hp} {σ : L2.St} {E : En} {Fs : Nat → List Addr} {te : TE} {m : MF}
theorem itOk_l {a : Addr} {vs : List V} {ds : List PyData} (hs : SqL K Hi1 a vs) (ha : DpAll K Hi1 vs ds) : ItOk K (Itl K a) Hi1 ds :=
  ⟨fun Hi H e s i hi => ⟨vs, s.seq (e.seq hs), by rw [dpAll_len ha]; exact hi⟩, fun Hi H e s i hi => ⟨vs, vs[i]'(by rw [dpAll_len ha]; exact hi), s.seq (e.seq hs), List.getElem?_eq_getElem _⟩,
    fun Hi H e s i d x H' hd hy => by
      obtain ⟨rfl, hy⟩ := hy
      obtain ⟨v, e1, hv⟩ := dpAll_at ha hd
      have e2 := hy vs (s.seq (e.seq hs))
      rw [e1] at e2
      cases e2
      exact ⟨Hi, Grow.refl s, dpMono e _ _ hv⟩⟩
theorem itOk_t {a : Addr} {vs : List V} {ds : List PyData} (hs : SqT K Hi1 a vs) (ha : DpAll K Hi1 vs ds) : ItOk K (Itt K a) Hi1 ds :=
  ⟨fun Hi H e s i hi => ⟨vs, seqT s (seqT e hs), by rw [dpAll_len ha]; exact hi⟩, fun Hi H e s i hi => ⟨vs, vs[i]'(by rw [dpAll_len ha]; exact hi), seqT s (seqT e hs), List.getElem?_eq_getElem _⟩,
    fun Hi H e s i d x H' hd hy => by
      obtain ⟨rfl, hy⟩ := hy
      obtain ⟨v, e1, hv⟩ := dpAll_at ha hd
      have e2 := hy vs (seqT s (seqT e hs))
      rw [e1] at e2
      cases e2
      exact ⟨Hi, Grow.refl s, dpMono e _ _ hv⟩⟩
def charsD (z : Str) : List PyData := z.cps.toList.map fun c => .str ⟨#[c]⟩
theorem itOk_s {z : Str} : ItOk K (Its z) Hi1 (charsD z) :=
  ⟨fun Hi H e s i hi => by
      have : (charsD z).length = z.cps.size := by simp [charsD]
      show z.cps.size ≤ i
      omega, fun Hi H e s i hi => by
      have : (charsD z).length = z.cps.size := by simp [charsD]
      show i < z.cps.size
      omega,
    fun Hi H e s i d x H' hd hy => by
      obtain ⟨rfl, c, e1, rfl⟩ := hy
      unfold charsD at hd
      rw [List.getElem?_map, Array.getElem?_toList, e1] at hd
      cases hd
      exact ⟨Hi, Grow.refl s, .str _⟩⟩
def rangeD (lo : Int) (n : Nat) : List PyData := (List.range n).map fun i => PyData.int (lo + (i : Nat))
theorem itOk_r {lo : Int} {n : Nat} : ItOk K (Itr lo n) Hi1 (rangeD lo n) :=
  ⟨fun Hi H e s i hi => by
      have : (rangeD lo n).length = n := by simp [rangeD]
      show n ≤ i
      omega, fun Hi H e s i hi => by
      have : (rangeD lo n).length = n := by simp [rangeD]
      show i < n
      omega,
    fun Hi H e s i d x H' hd hy => by
      obtain ⟨rfl, rfl⟩ := hy
      unfold rangeD at hd
      rw [List.getElem?_map] at hd
      obtain ⟨j, e1, rfl⟩ := Option.map_eq_some_iff.mp hd
      obtain ⟨_, e2⟩ := List.getElem?_eq_some_iff.mp e1
      rw [List.getElem_range] at e2
      subst e2
      exact ⟨Hi, Grow.refl s, .int _⟩⟩
def enumD (ds : List PyData) : List PyData := ds.zipIdx.map fun p => .tuple [.int (p.2 : Nat), p.1]
theorem enumD_at {ds : List PyData} {i : Nat} {d : PyData} (h : (enumD ds)[i]? = some d) : ∃ e, ds[i]? = some e ∧ d = .tuple [.int (i : Nat), e] := by
  unfold enumD at h
  rw [List.getElem?_map, List.getElem?_zipIdx] at h
  obtain ⟨p, e1, rfl⟩ := Option.map_eq_some_iff.mp h
  obtain ⟨e, e2, rfl⟩ := Option.map_eq_some_iff.mp e1
  refine ⟨e, e2, ?_⟩
  simp
theorem enum_pair {H2 : Hp} {T : Addr} {i : Nat} {v : V} {e : PyData} (sub : Same Hi H) (hv : Dp K Hi v e) (hT : H T = none) : ∃ Hi', Grow Hi H Hi' (upd H T (.tup [.int (i : Nat), v])) [] ∧ Dp K Hi' (.ref T) (.tuple [.int (i : Nat), e]) := by
  have g : Grow Hi H (upd Hi T (.tup [.int (i : Nat), v])) (upd H T (.tup [.int (i : Nat), v])) [] := Grow.imm sub hT
  exact ⟨_, g, .tup (SqT.of upd_same) (.cons (.int _) (.cons (dpMono g.ex _ _ hv) .nil))⟩
theorem itOk_el {a : Addr} {vs : List V} {ds : List PyData} (hs : SqL K Hi1 a vs) (ha : DpAll K Hi1 vs ds) : ItOk K (Ite K a) Hi1 (enumD ds) := by
  have hl : (enumD ds).length = ds.length := by simp [enumD]
  refine ⟨fun Hi H e s i hi => ⟨vs, s.seq (e.seq hs), by rw [dpAll_len ha]; omega⟩, fun Hi H e s i hi => ⟨vs, vs[i]'(by rw [dpAll_len ha]; omega), s.seq (e.seq hs), List.getElem?_eq_getElem _⟩, fun Hi H e s i d x H' hd hy => ?_⟩
  obtain ⟨T, y, rfl, hT, rfl, hy⟩ := hy
  obtain ⟨d', e1, rfl⟩ := enumD_at hd
  obtain ⟨v, e2, hv⟩ := dpAll_at ha e1
  have e3 := hy vs (s.seq (e.seq hs))
  rw [e2] at e3
  cases e3
  exact enum_pair (H2 := H) s (dpMono e _ _ hv) hT
theorem itOk_et {a : Addr} {vs : List V} {ds : List PyData} (hs : SqT K Hi1 a vs) (ha : DpAll K Hi1 vs ds) : ItOk K (IteT K a) Hi1 (enumD ds) := by
  have hl : (enumD ds).length = ds.length := by simp [enumD]
  refine ⟨fun Hi H e s i hi => ⟨vs, seqT s (seqT e hs), by rw [dpAll_len ha]; omega⟩, fun Hi H e s i hi => ⟨vs, vs[i]'(by rw [dpAll_len ha]; omega), seqT s (seqT e hs), List.getElem?_eq_getElem _⟩, fun Hi H e s i d x H' hd hy => ?_⟩
  obtain ⟨T, y, rfl, hT, rfl, hy⟩ := hy
  obtain ⟨d', e1, rfl⟩ := enumD_at hd
  obtain ⟨v, e2, hv⟩ := dpAll_at ha e1
  have e3 := hy vs (seqT s (seqT e hs))
  rw [e2] at e3
  cases e3
  exact enum_pair (H2 := H) s (dpMono e _ _ hv) hT
def rngOk (j : Int) : Bool := decide (-(2 ^ 62) ≤ j) && decide (j < 2 ^ 62)
theorem rngOk_ok {j : Int} (h : rngOk j = true) : -(2 ^ 62) ≤ j ∧ j < 2 ^ 62 := by
  unfold rngOk at h
  rw [Bool.and_eq_true, decide_eq_true_eq, decide_eq_true_eq] at h
  exact h
def mRng1 (ms : MA) : MI := fun E => (ms E).bind fun p => (views p.2 p.1).bind fun ts => match ts with
  | [.imm (.int j)] => if rngOk j = true then some (rangeD 0 j.toNat, p.2) else none
  | _ => none
theorem ir_rng1 {ta : TA} {ms : MA} (hs : AR K ta ms) : IR K (iRng1 ta) (mRng1 ms) := fun E ds E' q A σ Hi H Fs h R k => by
  unfold mRng1 at q
  obtain ⟨⟨os, E1⟩, q1, q⟩ := Option.bind_eq_some_iff.mp q
  obtain ⟨ts, q2, q⟩ := Option.bind_eq_some_iff.mp q
  split at q
  · rename_i j
    split at q
    · rename_i hb
      cases q
      refine hs E os E1 q1 A σ Hi H Fs h _ fun vs Hi1 H1 Fs1 G r h1 d s => ?_
      obtain ⟨x, F, rfl, rt⟩ := (h1.views r q2).one_inv
      obtain ⟨rfl, _⟩ := rt.int_inv
      obtain ⟨b1, b2⟩ := rngOk_ok hb
      exact ⟨j, rfl, b1, b2, k _ Hi1 H1 Fs1 itOk_r h1 (s.weak fun _ z => .inl z)⟩
    · cases q
  · cases q
def mRng2 (ms : MA) : MI := fun E => (ms E).bind fun p => (views p.2 p.1).bind fun ts => match ts with
  | [.imm (.int i), .imm (.int j)] => if rngOk i = true ∧ rngOk j = true then some (rangeD i (j - i).toNat, p.2) else none
  | _ => none
theorem ir_rng2 {ta : TA} {ms : MA} (hs : AR K ta ms) : IR K (iRng2 ta) (mRng2 ms) := fun E ds E' q A σ Hi H Fs h R k => by
  unfold mRng2 at q
  obtain ⟨⟨os, E1⟩, q1, q⟩ := Option.bind_eq_some_iff.mp q
  obtain ⟨ts, q2, q⟩ := Option.bind_eq_some_iff.mp q
  split at q
  · rename_i i j
    split at q
    · rename_i hb
      cases q
      refine hs E os E1 q1 A σ Hi H Fs h _ fun vs Hi1 H1 Fs1 G r h1 d s => ?_
      obtain ⟨x, y, F, F', rfl, rt, ru⟩ := (h1.views r q2).two_inv
      obtain ⟨rfl, _⟩ := rt.int_inv
      obtain ⟨rfl, _⟩ := ru.int_inv
      obtain ⟨b1, b2⟩ := rngOk_ok hb.1
      obtain ⟨b3, b4⟩ := rngOk_ok hb.2
      exact ⟨i, j, rfl, ⟨b1, b2, b3, b4⟩, k _ Hi1 H1 Fs1 itOk_r h1 (s.weak fun _ z => .inl z)⟩
    · cases q
  · cases q
def itemsD : PyData → Option (List PyData)
  | .tuple ds => some ds
  | .list ds => some ds
  | .str z => some (charsD z)
  | _ => none
def mSeqI (m : MF) : MI := fun E => (m E).bind fun p => p.1.toD.bind fun d => (itemsD d).bind fun ds => some (ds, p.2)
theorem ir_seq (hm : FR K te m) : IR K (iSeq K te) (mSeqI m) := fun E ds E' q A σ Hi H Fs h R k => by
  unfold mSeqI at q
  obtain ⟨⟨t, E1⟩, q1, q⟩ := Option.bind_eq_some_iff.mp q
  obtain ⟨d, q2, q⟩ := Option.bind_eq_some_iff.mp q
  obtain ⟨ds', q3, q⟩ := Option.bind_eq_some_iff.mp q
  cases q
  refine hm E t E1 q1 A σ Hi H Fs h _ fun v Hi1 H1 Fs1 G r h1 dd s => ?_
  have og : ∀ a ∈ G, Hi1 a = none := fun a ha => (r.ownG a ha).1
  have hd : Dp K (fzH Hi1 H1 G) v d := r.froz (fz_same og) _ _ _ d (fun a ha => fz_in ha) q2
  have h2 := h1.fz og dd
  have st : Step Hi H (InE Fs) (fzH Hi1 H1 G) H1 (InE Fs1) := s.trans (fz_step og)
  unfold itemsD at q3
  split at q3
  · cases q3
    cases hd with
    | tup hs ha => exact .inr (.inl ⟨_, rfl, ⟨_, seqT h2.sub hs⟩, k _ _ H1 Fs1 (itOk_t hs ha) h2 st⟩)
  · cases q3
    cases hd with
    | lst hs ha => exact .inl ⟨_, rfl, ⟨_, h2.sub.seq hs⟩, k _ _ H1 Fs1 (itOk_l hs ha) h2 st⟩
  · cases q3
    cases hd with
    | str z => exact .inr (.inr ⟨_, rfl, k _ _ H1 Fs1 itOk_s h2 st⟩)
  · cases q3
def mEnum (m : MF) : MI := fun E => (m E).bind fun p => p.1.toD.bind fun d => match d with
  | .tuple ds => some (enumD ds, p.2)
  | .list ds => some (enumD ds, p.2)
  | _ => none
theorem ir_enum (hm : FR K te m) : IR K (iEnumA K (tCons te tNil)) (mEnum m) := fun E ds E' q A σ Hi H Fs h R k => by
  unfold mEnum at q
  obtain ⟨⟨t, E1⟩, q1, q⟩ := Option.bind_eq_some_iff.mp q
  obtain ⟨d, q2, q⟩ := Option.bind_eq_some_iff.mp q
  refine hm E t E1 q1 A σ Hi H Fs h _ fun v Hi1 H1 Fs1 G r h1 dd s => ?_
  have og : ∀ a ∈ G, Hi1 a = none := fun a ha => (r.ownG a ha).1
  have hd : Dp K (fzH Hi1 H1 G) v d := r.froz (fz_same og) _ _ _ d (fun a ha => fz_in ha) q2
  have h2 := h1.fz og dd
  have st : Step Hi H (InE Fs) (fzH Hi1 H1 G) H1 (InE Fs1) := s.trans (fz_step og)
  split at q
  · cases q
    cases hd with
    | tup hs ha => exact .inr ⟨_, _, rfl, seqT h2.sub hs, k _ _ H1 Fs1 (itOk_et hs ha) h2 st⟩
  · cases q
    cases hd with
    | lst hs ha => exact .inl ⟨_, _, rfl, h2.sub.seq hs, k _ _ H1 Fs1 (itOk_el hs ha) h2 st⟩
  · cases q
end
end FL
namespace FL
open PySem PySem.Spec PyProof.Rows L2
section
variable {K : PySem.W.Frag} {A : List V} {Hi H Hi1 H1 Hi' H' : Hp} {σ : L2.St} {E : En} {Fs : Nat → List Addr} {te td ty tx : TE} {m : MF} {ma md : MR}
def rgM1 (m : MF) : En → Option (Int × Int × En) := fun E => (m E).bind fun p => (iOf p.1).bind fun n => some (0, n, p.2)
def mLstRg (f : En → Option (Int × Int × En)) : MF := fun E => (f E).bind fun p => if rngOk p.1 = true ∧ rngOk p.2.1 = true ∧ (p.2.1 - p.1).toNat ≤ 2 ^ 24 then some (.lst ((rangeD p.1 (p.2.1 - p.1).toNat).map Tr.imm), p.2.2) else none
def mTupRg (f : En → Option (Int × Int × En)) : MF := fun E => (f E).bind fun p => if rngOk p.1 = true ∧ rngOk p.2.1 = true ∧ (p.2.1 - p.1).toNat ≤ 2 ^ 24 then some (.imm (.tuple (rangeD p.1 (p.2.1 - p.1).toNat)), p.2.2) else none
def tyName : Tr → Option String
  | .imm .none => some "NoneType"
  | .imm (.bool _) => some "bool"
  | .imm (.int _) => some "int"
  | .imm (.str _) => some "str"
  | .imm (.list _) => some "list"
  | .imm (.tuple _) => some "tuple"
  | .imm (.dict _) => none
  | .lst _ => some "list"
  | .dic _ => some "dict"
  | .tpl _ => none
  | .obj _ _ _ _ => none
  | .box _ _ _ _ => none
  | .exc _ _ => none
  | .dik _ => none
  | .pr _ _ => some "tuple"
  | .dit _ => none
theorem ty_ok {x : V} {t : Tr} {F : List Addr} {T : String} (sub : Same Hi H) (r : RepT K Hi H x t F) (q : tyName t = some T) : TyX K H x (.type T) := by
  cases r with
  | imm h =>
    cases h with
    | non => cases q; exact .base .non
    | bl b => cases q; exact .base (.bl b)
    | int i => cases q; exact .base (.int i)
    | str z => cases q; exact .base (.str z)
    | lst hs ha =>
      cases q
      rcases hs with (h | ⟨o, h⟩) | ⟨o, its, n, h1, h2, _⟩
      · exact .base (.lst (sub _ _ h))
      · exact .base (.frz (sub _ _ h))
      · exact .kList h1 h2
    | tup hs ha =>
      cases q
      rcases hs with (h | ⟨o, h⟩) | ⟨o, its, n, h1, h2, _⟩
      · exact .base (.tup (sub _ _ h))
      · exact .fTuple (sub _ _ h)
      · exact .kTuple h1 h2
  | lst h1 _ _ _ => cases q; exact .base (.lst h1)
  | dic h1 _ _ => cases q; exact .base (.dK h1)
  | tpl _ _ _ => cases q
  | obj => cases q
  | box => cases q
  | exc => cases q
  | dik => cases q
  | pr h1 _ _ =>
    cases q
    rcases h1 with (h | ⟨o, h⟩) | ⟨o, its, n, h1, h2, _⟩
    · exact .base (.tup (sub _ _ h))
    · exact .fTuple (sub _ _ h)
    · exact .kTuple h1 h2
  | dit h1 _ _ => cases q
def mIsi (T : String) (ma : MR) : MF := fun E => (ma E).bind fun p => (view p.2 p.1).bind fun t => (tyName t).bind fun S => (kitB S T).bind fun b => some (.imm (.bool b), p.2)
theorem fr_isi {T : String} (hT : (∃ u, ClsV (.ty T) u ∧ u = .type T) := by exact ⟨_, .ty _, rfl⟩) (h : ER K te ma) : FR K (tCB (rIsi K) (tCons te (tCons (tC (.ty T)) tNil))) (mIsi T ma) := fun E w E' q A σ Hi H Fs hE Q k => by
  unfold mIsi at q
  obtain ⟨⟨o, E1⟩, q1, q⟩ := Option.bind_eq_some_iff.mp q
  obtain ⟨t, q2, q⟩ := Option.bind_eq_some_iff.mp q
  obtain ⟨S, q3, q⟩ := Option.bind_eq_some_iff.mp q
  obtain ⟨b, q4, q⟩ := Option.bind_eq_some_iff.mp q
  cases q
  refine h E o _ q1 A σ Hi H Fs hE _ fun v Hi1 H1 Fs1 G r h1 d s => ?_
  obtain ⟨F, rt⟩ := h1.view r q2
  obtain ⟨u, hu, rfl⟩ := hT
  refine ⟨v, .ty T, .type S, .type T, b, rfl, hu, ty_ok h1.sub rt q3, kit_ty q4, giveB (K := K) h1.sub fun v Hi2 H2 W rr g => k v Hi2 H2 Fs1 W rr (h1.grow g) (h1.fresh g) (s.seq (g.step _))⟩
theorem fr_dnewK : FR K tDNewK (fun E => some (.dic [], E)) := fun E w E' q A σ Hi H Fs h Q k p hp => by
  cases q
  have g : Grow Hi H Hi (upd H p (.dK [])) [p] := Grow.own h.sub hp
  exact k (.ref p) Hi _ Fs [p] (.dic upd_same (free_of h.sub hp) .nil) (h.grow g) (h.fresh g) (g.step _)
theorem dget_ok {a : Addr} {xs : List (Key × V)} {ds : List (Key × PyData)} {y : V} {kd : PyData} {key : Key} (e : H a = some (.dK xs)) (h : KvR K Hi xs ds) (hk : Dp K Hi y kd) (q : keyD kd = some key) : DGet H a y (valV xs key) := by
  have := keyD_kV q hk
  subst this
  exact DGet.k e
def mDGet (md my : MR) : MF := fun E => (md E).bind fun p => (my p.2).bind fun q => (view q.2 p.1).bind fun td => (view q.2 q.1).bind fun ty => match ty, td with
  | .imm kd, .dic ds => (keyD kd).bind fun key => (getD ds key).bind fun d => some (.imm d, q.2)
  | _, _ => none
theorem fr_dget {my : MR} (hd : ER K td md) (hy : ER K ty my) : FR K (tDGet td ty) (mDGet md my) := fun E w E' q A σ Hi H Fs h Q k => by
  unfold mDGet at q
  obtain ⟨⟨o1, E1⟩, q1, q⟩ := Option.bind_eq_some_iff.mp q
  obtain ⟨⟨o2, E2⟩, q2, q⟩ := Option.bind_eq_some_iff.mp q
  obtain ⟨t1, q3, q⟩ := Option.bind_eq_some_iff.mp q
  obtain ⟨t2, q4, q⟩ := Option.bind_eq_some_iff.mp q
  split at q
  · rename_i kd ds
    obtain ⟨key, q5, q⟩ := Option.bind_eq_some_iff.mp q
    obtain ⟨d, q6, q⟩ := Option.bind_eq_some_iff.mp q
    cases q
    refine hd E o1 E1 q1 A σ Hi H Fs h _ fun v1 Hi1 H1 Fs1 G1 r1 h1 d1 s1 => ?_
    refine hy E1 o2 _ q2 A σ Hi1 H1 Fs1 h1 _ fun v2 Hi2 H2 Fs2 G2 r2 h2 d2 s2 => ?_
    obtain ⟨F1, rt⟩ := h2.view (s2.keepR r1 d1) q3
    obtain ⟨F2, ru⟩ := h2.view r2 q4
    cases rt with
    | @dic a xs _ e1 e2 e3 =>
      have hg := kv_get (k := key) e3
      rw [q6] at hg
      obtain ⟨v, ev, hv⟩ := hg
      refine ⟨a, v, rfl, ?_, give (K := K) h2.sub hv fun v Hi3 H3 W rr g => k v Hi3 H3 Fs2 W rr (h2.grow g) (h2.fresh g) (s1.seq (s2.seq (g.step _)))⟩
      have := dget_ok e1 e3 ru.imm_inv.1 q5
      rw [ev] at this
      exact this
  · cases q
end
end FL
namespace FL
open PySem L2
theorem u1_of {k : Nat} {A : Around} (r : RoomG k A) : A.units + 1 < cLine := by have := r.room.un; omega
theorem u64_of {k : Nat} {A : Around} (r : RoomG k A) : A.units + 64 < cLine := by have := r.room.un; omega
theorem RoomG.u1 {k : Nat} {A : Around} (r : RoomG k A) : A.units + 1 < cLine := u1_of r
theorem RoomG.u64 {k : Nat} {A : Around} (r : RoomG k A) : A.units + 64 < cLine := u64_of r
section
variable {K : PySem.W.Frag}
def mYes : MT := fun E => some (true, E)
theorem tr_yes : TR K tYes mYes := fun E b E' q A σ Hi H Fs h Q k => by
  cases q
  exact k Hi H Fs h (Step.refl _ _ _)
theorem tr_one {t : TT} {m : MT} (h : TR K t m) : TR K t m := h
def fSubI : Tr → Tr → Option Tr := fI0 fun i j => i - j
theorem i_I {g : Int → Int → Int} : IpT K (ipI g) (fI0 g) := fun t u w q Hi H x y F G sub rt ru Q k => by
  unfold fI0 at q
  split at q
  · cases q
    obtain ⟨rfl, _⟩ := rt.int_inv
    obtain ⟨rfl, _⟩ := ru.int_inv
    exact ⟨_, _, rfl, rfl, giveI sub k⟩
  · cases q
theorem i_sub : IpT K (ipI fun i j => i - j) fSubI := i_I
end
end FL
namespace FL
open PySem L2
section
variable {K : PySem.W.Frag} {A : List V} {Hi H : Hp} {σ : L2.St} {E : En} {Fs : Nat → List Addr}
def mMv (i : Nat) : MF := fun E => match E[i]? with
  | some (.val t) => some (t, E.set i .no)
  | _ => none
theorem fr_mv {i : Nat} : FR K (tVar i) (mMv i) := fun E t E' q A σ Hi H Fs h Q k => by
  unfold mMv at q
  split at q
  · rename_i t0 e
    cases q
    obtain ⟨v, e1, r1⟩ := h.val i t (at_val e)
    have hl : i < E.length := (List.getElem?_eq_some_iff.mp e).1
    have hat : ∀ j, at? (E.set i .no) j = if i = j then none else at? E j := fun j => by
      rw [at_set]
      by_cases e : i = j
      · rw [if_pos ⟨e, hl⟩, if_pos e]; rfl
      · rw [if_neg (fun z => e z.1), if_neg e]
    refine ⟨v, e1, k v Hi H (fset Fs i []) (Fs i) r1 ⟨h.sub, by rw [List.length_set, h.len], fun j t z => ?_, fun j t z => ?_, fun j z => ?_, fun j l a hj hk => ?_⟩ (fun a ha hb => ?_) ((Step.refl Hi H (InE Fs)).weak fun x z => ?_)⟩
    · rw [hat] at z
      by_cases e2 : i = j
      · rw [if_pos e2] at z; cases z
      · rw [if_neg e2] at z
        rw [fset_ne (fun z => e2 z.symm)]
        exact h.val j t z
    · by_cases e2 : i = j
      · subst e2
        rw [List.getElem?_set_self hl] at z
        cases z
      · rw [List.getElem?_set_ne e2] at z
        exact h.par j t z
    · rw [hat] at z
      by_cases e2 : i = j
      · subst e2; exact fset_same
      · rw [if_neg e2] at z
        rw [fset_ne (fun z => e2 z.symm)]
        exact h.no j z
    · have nf : ∀ j, a ∈ fset Fs i [] j → a ∈ Fs j := fun j z => by
        by_cases e2 : j = i
        · subst e2; rw [fset_same] at z; nomatch z
        · rw [fset_ne e2] at z; exact z
      exact h.dis j l a (nf j hj) (nf l hk)
    · obtain ⟨j, hj⟩ := hb
      by_cases e2 : j = i
      · subst e2; rw [fset_same] at hj; nomatch hj
      · rw [fset_ne e2] at hj
        exact e2 (h.dis j i a hj ha)
    · rcases z with ⟨j, hj⟩ | z
      · by_cases e2 : j = i
        · subst e2; rw [fset_same] at hj; nomatch hj
        · rw [fset_ne e2] at hj; exact ⟨j, hj⟩
      · exact ⟨i, z⟩
  · cases q
end
end FL
namespace FL
open PySem L2
section
variable {K : PySem.W.Frag} {A : List V} {Hi H : Hp} {σ : L2.St} {E : En} {Fs : Nat → List Addr} {te tj ti : TE}
def mPr (f : En → Option Int) : MF := fun E => (f E).bind fun k => some (.imm (.int k), E)
end
end FL
namespace FL
open PySem L2
section
variable {K : PySem.W.Frag} {Wx : L2.WX} {A : List V} {Hi H : Hp} {σ : L2.St} {E : En} {Fs : Nat → List Addr} {te ta tb : TE} {ma mb : MF}
def rgM2 (ma mb : MF) : En → Option (Int × Int × En) := fun E => (ma E).bind fun p => (iOf p.1).bind fun a => (mb p.2).bind fun q => (iOf q.1).bind fun b => some (a, b, q.2)
end
end FL
namespace FL
open PySem L2
section
variable {E E' : En} {m m' : MF} {ma mb mc : MR} {mt mu : MT} {ms ms' : MS} {as : MA} {fs : MFs} {t u : Tr} {i j : Nat}
def putS (t : Tr) (E : En) (i : Nat) : SL → Option En
  | .no => some (E.set i (.val t))
  | .val _ => some (E.set i (.val t))
  | .par _ => none
def fzS (E : En) (i : Nat) : SL → Option (Tr × En)
  | .val (.imm d) => some (.imm d, E)
  | .val (.tpl ds) => some (.imm (.tuple ds), E)
  | .val t => t.toD.bind fun d => some (.imm d, E.set i (.val (.imm d)))
  | .par (.imm d) => some (.imm d, E)
  | _ => none
def fzR (E : En) : Rf → Option (Tr × En)
  | .own t => some (t, E)
  | .slot i => (E[i]?).bind (fzS E i)
theorem q00 : mSeq ms ms' E = (ms E).bind (mThen ms') := rfl
theorem q01 : mThen ms (.nx E) = ms E := rfl
theorem q02 : mThen ms (.rt t E) = some (.rt t E) := rfl
theorem q03 : mThen ms (.bk E) = some (.bk E) := rfl
theorem q04 : mThen ms (.ct E) = some (.ct E) := rfl
theorem q05 : mIfS mt ms ms' E = (mt E).bind fun p => if p.1 = true then ms p.2 else ms' p.2 := rfl
theorem q06 {g : Tr → En → Option En} : mAsg m g E = (m E).bind fun p => (g p.1 p.2).bind fun E' => some (.nx E') := rfl
theorem q07 : mRet m E = (m E).bind fun p => some (.rt p.1 p.2) := rfl
theorem q08 : mRetN E = some (.rt (.imm .none) E) := rfl
theorem q09 : mDrop m E = (m E).bind fun p => some (.nx p.2) := rfl
theorem q0a : mNext E = some (.nx E) := rfl
theorem q0b : mBreak E = some (.bk E) := rfl
theorem q0c : mCont E = some (.ct E) := rfl
theorem q0d : mName i t E = (E[i]?).bind (putS t E i) := by
  unfold mName
  cases h : E[i]? with
  | none => rfl
  | some s => cases s <;> rfl
theorem q0e : putS t E i .no = some (E.set i (.val t)) := rfl
theorem q0f : putS t E i (.val u) = some (E.set i (.val t)) := rfl
theorem q0g : mVar i E = (at? E i).bind fun _ => some (.slot i, E) := rfl
theorem q0h : at? E i = E[i]?.bind SL.tree := rfl
theorem q0i : SL.tree (.val t) = some t := rfl
theorem q0j : SL.tree (.par t) = some t := rfl
theorem q0k : SL.with (.val u) t = .val t := rfl
theorem q0l : SL.with (.par u) t = .par t := rfl
theorem q0m {d : PyData} : mC d E = some (.imm d, E) := rfl
theorem q0n : mER m E = (m E).bind fun p => some (.own p.1, p.2) := rfl
theorem q0o : mFz ma E = (ma E).bind fun p => fzR p.2 p.1 := by
  unfold mFz
  cases ma E with
  | none => rfl
  | some p =>
    rcases p with ⟨r, E1⟩
    cases r with
    | own t => rfl
    | slot i =>
      simp only [Option.bind_some, fzR]
      cases E1[i]? with
      | none => rfl
      | some s =>
        cases s with
        | no => rfl
        | val t => cases t <;> rfl
        | par t => cases t <;> rfl
theorem q0p : fzR E (.own t) = some (t, E) := rfl
theorem q0q : fzR E (.slot i) = (E[i]?).bind (fzS E i) := rfl
theorem q0r {d : PyData} : fzS E i (.val (.imm d)) = some (.imm d, E) := rfl
theorem q0s {d : PyData} : fzS E i (.par (.imm d)) = some (.imm d, E) := rfl
theorem q0t {ts : List Tr} : fzS E i (.val (.lst ts)) = ((Tr.toDs ts).map PyData.list).bind fun d => some (.imm d, E.set i (.val (.imm d))) := rfl
theorem q2S {ds : List PyData} : fzS E i (.val (.tpl ds)) = some (.imm (.tuple ds), E) := rfl
theorem q0u : view E (.slot i) = (at? E i).map Tr.plain := rfl
theorem q0v : view E (.own t) = some t.plain := rfl
theorem q2T : viewR E (.slot i) = at? E i := rfl
theorem q2U : viewR E (.own t) = some t := rfl
theorem q2V {d : PyData} : Tr.plain (.imm d) = .imm d := rfl
theorem q2W {ts : List Tr} : Tr.plain (.lst ts) = .lst ts := rfl
theorem q2X {ds : List (Key × PyData)} : Tr.plain (.dic ds) = .dic ds := rfl
theorem q2Y {ds : List PyData} : Tr.plain (.tpl ds) = .imm (.tuple ds) := rfl
theorem q2Z : viewsR E [] = some [] := rfl
theorem q30 {o : Rf} {os : List Rf} : viewsR E (o :: os) = (viewR E o).bind fun t => (viewsR E os).map (t :: ·) := rfl
theorem q0w {f : Tr → Tr → Option Tr} : mOp f ma mb E = (ma E).bind fun p => (mb p.2).bind fun q => (view q.2 p.1).bind fun t => (view q.2 q.1).bind fun u => (f t u).bind fun w => some (w, q.2) := rfl
theorem q0x {f : Tr → Option Tr} : mUn f ma E = (ma E).bind fun p => (view p.2 p.1).bind fun t => (f t).bind fun w => some (w, p.2) := rfl
theorem q0y {b : Bool} : bOf (.imm (.bool b)) = some b := rfl
theorem q0z : mTest m E = (m E).bind fun p => (bOf p.1).bind fun b => some (b, p.2) := rfl
theorem q0A : mAnd mt mu E = (mt E).bind fun p => if p.1 = true then mu p.2 else some (false, p.2) := rfl
theorem q0B : mOr mt mu E = (mt E).bind fun p => if p.1 = true then some (true, p.2) else mu p.2 := rfl
theorem q0C : mNot mt E = (mt E).bind fun p => some (!p.1, p.2) := rfl
theorem q0D : mTru ma E = (ma E).bind fun p => (view p.2 p.1).bind fun t => (truT t).bind fun b => some (b, p.2) := rfl
theorem q0E {b : Bool} : truT (.imm (.bool b)) = some b := rfl
theorem q0F : mAndV m m' E = (m E).bind fun p => (bOf p.1).bind fun b => if b = true then m' p.2 else some (.imm (.bool false), p.2) := rfl
theorem q0G : mOrV m m' E = (m E).bind fun p => (bOf p.1).bind fun b => if b = true then some (.imm (.bool true), p.2) else m' p.2 := rfl
theorem q0H : mNotV m E = (m E).bind fun p => (bOf p.1).bind fun b => some (.imm (.bool (!b)), p.2) := rfl
theorem q0I : mIf mt m m' E = (mt E).bind fun p => if p.1 = true then m p.2 else m' p.2 := rfl
theorem q0J {f f' : Tr → Tr → Option Tr} : mChain f f' ma mb mc E = (ma E).bind fun p => (mb p.2).bind fun q => (view q.2 p.1).bind fun t => (view q.2 q.1).bind fun u => (f t u).bind fun w => (bOf w).bind fun b =>
  if b = true then (mc q.2).bind fun r => (view r.2 q.1).bind fun u' => (view r.2 r.1).bind fun x => (f' u' x).bind fun w' => some (w', r.2) else some (.imm (.bool false), q.2) := rfl
theorem q0K : arNil E = some ([], E) := rfl
theorem q0L : arCons ma as E = (ma E).bind fun p => (as p.2).bind fun q => some (p.1 :: q.1, q.2) := rfl
theorem q0M : faNil E = some ([], E) := rfl
theorem q0N : faCons m fs E = (m E).bind fun p => (fs p.2).bind fun q => some (p.1 :: q.1, q.2) := rfl
theorem q0O : mTup fs E = (fs E).bind fun p => (Tr.toDs p.1).bind fun ds => if p.1.length ≤ 16777216 then some (.imm (.tuple ds), p.2) else none := rfl
theorem q0P : mLst fs E = (fs E).bind fun p => if p.1.length ≤ 16777216 then some (.lst p.1, p.2) else none := rfl
theorem q0Q : Tr.toDs [] = some [] := by rw [Tr.toDs]
theorem q0R {ts : List Tr} : Tr.toDs (t :: ts) = (Tr.toD t).bind fun d => (Tr.toDs ts).map (d :: ·) := by rw [Tr.toDs]
theorem q0S {d : PyData} : Tr.toD (.imm d) = some d := by rw [Tr.toD]
theorem q0T {ts : List Tr} : Tr.toD (.lst ts) = (Tr.toDs ts).map PyData.list := by rw [Tr.toD]
theorem toDs_imms : ∀ ds : List PyData, Tr.toDs (ds.map Tr.imm) = some ds
  | [] => q0Q
  | d :: ds => by rw [List.map_cons, q0R, q0S, toDs_imms ds]; rfl
theorem imms_imms : ∀ ds : List PyData, imms (ds.map Tr.imm) = some ds
  | [] => rfl
  | d :: ds => by rw [List.map_cons, imms, imms_imms ds]; rfl
theorem q0U {f : List Tr → Option Tr} : mCB f as E = (as E).bind fun p => (views p.2 p.1).bind fun ts => (f ts).bind fun w => some (w, p.2) := rfl
theorem q0V : views E [] = some [] := rfl
theorem q0W {o : Rf} {os : List Rf} : views E (o :: os) = (view E o).bind fun t => (views E os).map (t :: ·) := rfl
theorem q0X {T : String} {f : Tr → List Tr → Option Tr} : mBM T f ma as E = (ma E).bind fun p => (view p.2 p.1).bind fun t0 => if tyB T t0 = true then (as p.2).bind fun q => (view q.2 p.1).bind fun t => (views q.2 q.1).bind fun ts => (f t ts).bind fun w => some (w, q.2) else none := rfl
theorem q0Y {z : Str} : tyB "str" (.imm (.str z)) = true := rfl
theorem q0Z {ts : List Tr} : tyB "list" (.lst ts) = true := rfl
theorem q10q {f : Tr → Option Int → Option Int → Option Tr} {ml mh : MO} : mSl f ma ml mh E = (ma E).bind fun p => (ml p.2).bind fun l => (mh l.2).bind fun u => (view u.2 p.1).bind fun t => (f t l.1 u.1).bind fun w => some (w, u.2) := rfl
theorem q11 : moNone E = some (none, E) := rfl
theorem q12 : moSome m E = (m E).bind fun p => (iOf p.1).bind fun i => some (some i, p.2) := rfl
theorem q13 {k : Int} : iOf (.imm (.int k)) = some k := rfl
def callD (n : Nat) (f : MFn) (os : List Rf) (E : En) (ts : List Tr) : Option (Tr × En) := if ts.length = n ∧ (os.filterMap (ownSlot E)).Nodup then (f ts).bind fun r => (gives E E os r.2).bind fun E' => some (r.1, E') else none
theorem q14 {n : Nat} {f : MFn} : mCall n f as E = (as E).bind fun p => (viewsR p.2 p.1).bind fun ts => callD n f p.1 p.2 ts := rfl
theorem q15 : ownSlot E (.own t) = none := rfl
theorem q16 : ownSlot E (.slot i) = (at? E i).bind fun t => if isOwn t = true then some i else none := by
  show (match at? E i with | some t => if isOwn t = true then some i else none | none => none) = _
  cases at? E i <;> rfl
theorem q17 {d : PyData} : isOwn (.imm d) = false := rfl
theorem q18 {ts : List Tr} : isOwn (.lst ts) = true := rfl
theorem q19 {ts : List (Key × PyData)} : isOwn (.dic ts) = true := rfl
theorem q1a {E0 : En} : gives E0 E [] [] = some E := rfl
theorem q1b {E0 : En} {os : List Rf} {ts : List Tr} : gives E0 E (.own t :: os) (u :: ts) = gives E0 E os ts := rfl
theorem q1c {E0 : En} {os : List Rf} {ts : List Tr} : gives E0 E (.slot i :: os) (t :: ts) = (E0[i]?).bind fun s => if (s.tree.map isOwn) = some true then gives E0 (E.set i (s.with t)) os ts else gives E0 E os ts := by
  rw [gives]
  cases E0[i]? <;> rfl
theorem v_fn {n : Nat} {ts : List Tr} : mFn n ms ts = (ms (startE n ts)).bind fun o => match o with
  | .rt r E' => (backs ts E').map fun ts' => (r, ts')
  | .nx E' => (backs ts E').map fun ts' => (.imm .none, ts')
  | _ => none := rfl
theorem q1d {mi : MI} {g : Tr → En → Option En} : mFor mi g ms E = (mi E).bind fun p => forD g ms p.1 p.2 := Eq.trans rfl rfl
theorem q1e {mi : MI} {g : Tr → En → Option En} {vs : List Nat} : mLc mi g mt m vs E = (mi E).bind fun p => (wipeE p.2 vs).bind fun E1 => (lcD g mt m vs p.1 [] E1).bind fun r => some (.lst r.1, backE p.2 r.2 vs) := rfl
theorem q2z : mYes E = some (true, E) := rfl
theorem q1f {f : Tr → Tr → Tr → Option Tr} : mSub i f m u E = (at? E i).bind fun _ => (m E).bind fun p => (p.2[i]?).bind fun s => s.tree.bind fun t => (f t p.1 u).bind fun t' => some (p.2.set i (s.with t')) := rfl
theorem q1g {fa fb : En → Option Int} : mSub2 i fa fb u E = (fa E).bind fun a => (fb E).bind fun b => (E[i]?).bind fun s => s.tree.bind fun t => (sub2 t a b u).bind fun t' => some (E.set i (s.with t')) := rfl
theorem q1h : iAt i E = (at? E i).bind iOf := rfl
theorem q1i {c : Int} : iC c E = some c := rfl
theorem q1j {f : Tr → Tr → Option Tr} : mAug i f mb E = (at? E i).bind fun _ => (mb E).bind fun q => (view q.2 (.slot i)).bind fun t => (view q.2 q.1).bind fun u => (f t u).bind fun w => (mName i w q.2).bind fun E' => some (.nx E') := rfl
theorem q1k : mPar i j fs E = (fs E).bind fun p => match p.1 with
  | [t, u] => (mName i t p.2).bind fun E1 => (mName j u E1).bind fun E2 => some (.nx E2)
  | _ => none := rfl
theorem q1l {T : String} {f : Tr → List Tr → Option (Tr × Tr)} : mMut i T f fs E = (at? E i).bind fun t0 => if tyB T t0 = true then (fs E).bind fun p => (p.2[i]?).bind fun s => s.tree.bind fun t => (f t p.1).bind fun r => some (r.1, p.2.set i (s.with r.2)) else none := rfl
def rng1D (ts : List Tr) (E : En) : Option (List PyData × En) := match ts with
  | [.imm (.int j)] => if rngOk j = true then some (rangeD 0 j.toNat, E) else none
  | _ => none
def rng2D (ts : List Tr) (E : En) : Option (List PyData × En) := match ts with
  | [.imm (.int i), .imm (.int j)] => if rngOk i = true ∧ rngOk j = true then some (rangeD i (j - i).toNat, E) else none
  | _ => none
theorem q1m : mRng1 as E = (as E).bind fun p => (views p.2 p.1).bind fun ts => rng1D ts p.2 := Eq.trans rfl rfl
theorem q1n : mRng2 as E = (as E).bind fun p => (views p.2 p.1).bind fun ts => rng2D ts p.2 := Eq.trans rfl rfl
theorem v_rg1 {j : Int} (h : rngOk j = true) : rng1D [.imm (.int j)] E = some (rangeD 0 j.toNat, E) := if_pos h
theorem v_rg2 {i j : Int} (h : rngOk i = true) (k : rngOk j = true) : rng2D [.imm (.int i), .imm (.int j)] E = some (rangeD i (j - i).toNat, E) := if_pos ⟨h, k⟩
theorem q1o : mSeqI m E = (m E).bind fun p => p.1.toD.bind fun d => (itemsD d).bind fun ds => some (ds, p.2) := Eq.trans rfl rfl
theorem q1s {T : String} : mIsi T ma E = (ma E).bind fun p => (view p.2 p.1).bind fun t => (tyName t).bind fun S => (kitB S T).bind fun b => some (.imm (.bool b), p.2) := Eq.trans rfl rfl
variable {a b : Int}
theorem q1t : fAdd (.imm (.int a)) (.imm (.int b)) = some (.imm (.int (a + b))) := rfl
theorem q1u {x y : Str} : fAdd (.imm (.str x)) (.imm (.str y)) = if x.length + y.length ≤ 16777216 then some (.imm (.str (x ++ y))) else none := rfl
theorem q1v {x y : List PyData} : fAdd (.imm (.tuple x)) (.imm (.tuple y)) = if x.length + y.length ≤ 16777216 then some (.imm (.tuple (x ++ y))) else none := rfl
theorem q1w {x y : List Tr} : fAdd (.lst x) (.lst y) = (imms x).bind fun ds => (imms y).bind fun es => if ds.length + es.length ≤ 16777216 then some (.lst ((ds ++ es).map Tr.imm)) else none := rfl
theorem q1x : fSub (.imm (.int a)) (.imm (.int b)) = some (.imm (.int (a - b))) := rfl
theorem v_mulI (h : a.natAbs.log2 + b.natAbs.log2 < 1000000) : fMul (.imm (.int a)) (.imm (.int b)) = some (.imm (.int (a * b))) := if_pos h
theorem v_divI (h : cDiv a b = true) : fDiv (.imm (.int a)) (.imm (.int b)) = some (.imm (.int (a / b))) := if_pos h
theorem v_modI (h : 0 < b) : fMod (.imm (.int a)) (.imm (.int b)) = some (.imm (.int (a % b))) := if_pos (decide_eq_true h)
theorem v_powI (h : cPow a b = true) : fPow (.imm (.int a)) (.imm (.int b)) = some (.imm (.int (a ^ b.toNat))) := if_pos h
theorem q1y : fNeg (.imm (.int a)) = some (.imm (.int (-a))) := rfl
theorem q1z : fLt (.imm (.int a)) (.imm (.int b)) = some (.imm (.bool (decide (a < b)))) := rfl
theorem q1A : fLe (.imm (.int a)) (.imm (.int b)) = some (.imm (.bool (decide (a ≤ b)))) := rfl
theorem q1B : fGt (.imm (.int a)) (.imm (.int b)) = some (.imm (.bool (decide (b < a)))) := rfl
theorem q1C : fGe (.imm (.int a)) (.imm (.int b)) = some (.imm (.bool (decide (b ≤ a)))) := rfl
theorem q1D : fEq (.imm (.int a)) (.imm (.int b)) = some (.imm (.bool (decide (a = b)))) := rfl
theorem q1E : fNe (.imm (.int a)) (.imm (.int b)) = some (.imm (.bool (!decide (a = b)))) := rfl
theorem q1F {x y : Str} : fEq (.imm (.str x)) (.imm (.str y)) = some (.imm (.bool (decide (x = y)))) := rfl
theorem q1G {x y : Str} : fNe (.imm (.str x)) (.imm (.str y)) = some (.imm (.bool (!decide (x = y)))) := rfl
theorem q1H {ds : List PyData} {k : Int} : fIx (.imm (.tuple ds)) (.imm (.int k)) = (atI ds k).map Tr.imm := rfl
theorem q1I {ds : List PyData} {k : Int} : fIx (.imm (.list ds)) (.imm (.int k)) = (atI ds k).map Tr.imm := rfl
theorem q1J {ts : List Tr} {k : Int} : fIx (.lst ts) (.imm (.int k)) = (atI ts k).bind fun t => match t with
    | .imm d => some (.imm d)
    | _ => none := rfl
theorem q1K {z : Str} {k : Int} : fIx (.imm (.str z)) (.imm (.int k)) = if z.length ≤ 16777216 then (atI z.cps.toList k).map fun c => .imm (.str ⟨#[c]⟩) else none := rfl
theorem q1L : fLen [t] = (lenT t).bind fun n => some (.imm (.int (n : Int))) := by
  unfold fLen
  cases h : lenT t <;> simp [h]
theorem q1M {ds : List PyData} : lenT (.imm (.tuple ds)) = some ds.length := rfl
theorem q1N {ds : List PyData} : lenT (.imm (.list ds)) = some ds.length := rfl
theorem q1O {ts : List Tr} : lenT (.lst ts) = some ts.length := rfl
theorem q1P {z : Str} : lenT (.imm (.str z)) = if z.length ≤ 16777216 then some z.length else none := rfl
theorem q1Q : fAbs [.imm (.int a)] = some (.imm (.int (if a < 0 then -a else a))) := rfl
theorem q1R : fMax2 [.imm (.int a), .imm (.int b)] = some (.imm (.int (if b > a then b else a))) := rfl
theorem q1S : fMin2 [.imm (.int a), .imm (.int b)] = some (.imm (.int (if b < a then b else a))) := rfl
theorem q1T : fInt1 [.imm (.int a)] = some (.imm (.int a)) := rfl
theorem q1U {c : Bool} : fInt1 [.imm (.bool c)] = some (.imm (.int (if c then 1 else 0))) := rfl
theorem q1V : fTuple [t] = (seqOf t).map fun p => .imm (.tuple p.2) := rfl
theorem q1W : fList [t] = (seqOf t).map fun p => .lst (p.2.map Tr.imm) := rfl
theorem q1X {ds : List PyData} : seqOf (.imm (.tuple ds)) = some (true, ds) := rfl
theorem q1Y {ds : List PyData} : seqOf (.imm (.list ds)) = some (false, ds) := rfl
theorem q1Z {ds : List PyData} : seqOf (.lst (ds.map Tr.imm)) = some (false, ds) := by
  show (imms _).map _ = _
  rw [imms_imms]; rfl
theorem q20 {ds : List PyData} : itemsD (.tuple ds) = some ds := rfl
theorem q21 {ds : List PyData} : itemsD (.list ds) = some ds := rfl
theorem q22 {z : Str} : itemsD (.str z) = some (charsD z) := rfl
theorem q23 {x : PyData} : fIsN t (.imm .none) = some (.imm (.bool (isN t))) := rfl
theorem q24 : fNotN t (.imm .none) = some (.imm (.bool !(isN t))) := rfl
theorem q25 {ts : List Tr} {k : Int} : fSetA (.lst ts) (.imm (.int k)) u = (ixN ts.length k).map fun j => .lst (ts.set j u) := rfl
theorem q26 {kvs : List (Key × PyData)} {kd d : PyData} : fSetA (.dic kvs) (.imm kd) (.imm d) = (keyD kd).bind fun k => if kvs.length < 16777216 then some (.dic (putD kvs k d)) else none := rfl
theorem q27 {z : Str} : keyD (.str z) = some (.inr z) := rfl
theorem q28 {k : Int} : keyD (.int k) = some (.inl k) := rfl
theorem q29 {α β : Type} {f : α → β} {x : α} : (some x).map f = some (f x) := rfl
theorem q2a {α β : Type} {f : α → β} : (none : Option α).map f = none := rfl
def mvS (E : En) (i : Nat) : SL → Option (Tr × En)
  | .val t => some (t, E.set i .no)
  | _ => none
theorem q2n {t : Tr} : mvS E i (.val t) = some (t, E.set i .no) := rfl
theorem forD_inv {g : Tr → En → Option En} (I : Nat → En → Prop) (ds : List PyData) (h : ∀ i d E, ds[i]? = some d → I i E → ∃ E1 E2, g (.imm d) E = some E1 ∧ (ms E1 = some (.nx E2) ∨ ms E1 = some (.ct E2)) ∧ I (i + 1) E2) :
    ∀ E, I 0 E → ∃ E', forD g ms ds E = some (.nx E') ∧ I ds.length E' := by
  induction ds generalizing I with
  | nil => exact fun E h0 => ⟨E, rfl, h0⟩
  | cons d ds ih =>
    intro E h0
    obtain ⟨E1, E2, e1, e2, h1⟩ := h 0 d E rfl h0
    obtain ⟨E', e3, h2⟩ := ih (fun i => I (i + 1)) (fun i d E e k => h (i + 1) d E (by simpa using e) k) E2 h1
    refine ⟨E', ?_, h2⟩
    rw [forD, e1]
    rcases e2 with e2 | e2 <;> (simp only [Option.bind_some, e2, afterTurn]; exact e3)
end
end FL
namespace FL
open PySem L2
theorem q2g {α : Type} {x : α} {xs : List α} : atI (x :: xs) 0 = some x := by
  unfold atI ixN
  rw [if_pos (by omega), if_pos (by simp only [List.length_cons]; omega)]
  rfl
theorem q2h {α : Type} {x y : α} {xs : List α} : atI (x :: y :: xs) 1 = some y := by
  unfold atI ixN
  rw [if_pos (by omega), if_pos (by simp only [List.length_cons]; omega)]
  rfl
theorem q2i {α : Type} {x y z : α} {xs : List α} : atI (x :: y :: z :: xs) 2 = some z := by
  unfold atI ixN
  rw [if_pos (by omega), if_pos (by simp only [List.length_cons]; omega)]
  rfl
theorem ixN_nat {n i : Nat} (h : i < n) : ixN n (i : Int) = some i := by
  unfold ixN
  rw [if_pos (by omega), if_pos (by omega)]
  rfl
theorem atI_nat {α : Type} {xs : List α} {i : Nat} {x : α} (h : xs[i]? = some x) : atI xs (i : Int) = some x := by
  unfold atI
  rw [ixN_nat (by have := List.getElem?_eq_some_iff.mp h; exact this.1)]
  exact h
theorem atI_ofint {α : Type} {xs : List α} {i : Int} (h0 : 0 ≤ i) (h : i < xs.length) : ∃ x, atI xs i = some x ∧ xs[i.toNat]? = some x := by
  obtain ⟨n, rfl⟩ := Int.eq_ofNat_of_zero_le h0
  have hn : n < xs.length := by omega
  exact ⟨xs[n], atI_nat (List.getElem?_eq_getElem hn), List.getElem?_eq_getElem hn⟩
theorem q2j : ixN 3 0 = some 0 := rfl
theorem q2k : ixN 3 1 = some 1 := rfl
theorem q2l : ixN 3 2 = some 2 := rfl
def Bd (n : Nat) (a : Int) : Prop := a.natAbs < 2 ^ n
instance {n : Nat} {a : Int} : Decidable (Bd n a) := inferInstanceAs (Decidable (a.natAbs < 2 ^ n))
theorem Bd.mul {m n : Nat} {a b : Int} (h : Bd m a) (k : Bd n b) : Bd (m + n) (a * b) := by
  unfold Bd at *
  rw [Int.natAbs_mul, Nat.pow_add]
  exact Nat.mul_lt_mul'' h k
theorem Bd.mono {m n : Nat} {a : Int} (h : Bd m a) (k : m ≤ n) : Bd n a := Nat.lt_of_lt_of_le h (Nat.pow_le_pow_right (by decide) k)
theorem Bd.add {m : Nat} {a b : Int} (h : Bd m a) (k : Bd m b) : Bd (m + 1) (a + b) := by
  unfold Bd at *
  rw [Nat.pow_succ]
  omega
theorem Bd.log {n : Nat} {a : Int} (h : Bd n a) : a.natAbs.log2 ≤ n := by
  rcases Nat.eq_zero_or_pos a.natAbs with h0 | h0
  · rw [h0]; exact Nat.zero_le _
  · exact Nat.le_of_lt ((Nat.log2_lt (by omega)).mpr h)
theorem Bd.fmul {m n : Nat} {a b : Int} (h : Bd m a) (k : Bd n b) (hs : m + n < 1000000) : fMul (.imm (.int a)) (.imm (.int b)) = some (.imm (.int (a * b))) := v_mulI (by have := h.log; have := k.log; omega)
theorem Bd.mod {n : Nat} {a b : Int} (h0 : 0 < b) (h : Bd n b) : Bd n (a % b) := by
  have h1 := Int.emod_nonneg a (b := b) (by omega)
  have h2 := Int.emod_lt_of_pos a h0
  unfold Bd at *
  omega
theorem Bd.of {n : Nat} {a : Int} (h0 : 0 ≤ a) (h : a < ((2 ^ n : Nat) : Int)) : Bd n a := by
  unfold Bd
  omega
theorem cdiv_ok {a b : Int} {n : Nat} (h0 : 0 < b) (h : Bd n b) (hn : n < 9000) : cDiv a b = true := by
  unfold cDiv
  have := h.log
  rw [decide_eq_true h0, decide_eq_true (show b.natAbs.log2 < 9000 by omega)]
  rfl
end FL
namespace FL
open PySem L2
def ov : Option Tr → SL
  | none => .no
  | some t => .val t
theorem q2bq {t : Tr} {E : En} {i : Nat} {o : Option Tr} : putS t E i (ov o) = some (E.set i (.val t)) := by cases o <;> rfl
theorem q2c {n : Nat} {f : List PyData → En → Option En} {ds : List PyData} {E : En} : mTupG n f (.imm (.tuple ds)) E = if ds.length = n then f ds E else none := rfl
theorem q2d {g : Tr → En → Option En} {f : List PyData → En → Option En} {d : PyData} {r : List PyData} {E : En} : gsCons g f (d :: r) E = (g (.imm d) E).bind (f r) := rfl
theorem q2e {E : En} : gsNil [] E = some E := rfl
theorem q2f {ds : List PyData} {lo hi : Option Int} : fSl (.imm (.list ds)) lo hi = some (.lst ((cutL ds lo hi).map Tr.imm)) := rfl
theorem cutL_mem {α : Type} {xs : List α} {lo hi : Option Int} {i : Nat} {x : α} (h : (cutL xs lo hi)[i]? = some x) : x ∈ xs := by
  have h1 := List.mem_of_getElem? h
  exact List.mem_of_mem_drop (List.mem_of_mem_take h1)
theorem cutL_len {α : Type} (xs : List α) (lo hi : Option Int) : (cutL xs lo hi).length ≤ xs.length := by
  unfold cutL
  rw [List.length_take, List.length_drop]
  omega
theorem enumD_item {ds : List PyData} {i : Nat} {d : PyData} (h : (enumD ds)[i]? = some d) : ∃ x, ds[i]? = some x ∧ d = .tuple [.int (i : Nat), x] := by
  unfold enumD at h
  rw [List.getElem?_map] at h
  cases hz : ds.zipIdx[i]? with
  | none => rw [hz] at h; cases h
  | some p =>
    rw [hz] at h
    rw [List.getElem?_zipIdx] at hz
    cases hd : ds[i]? with
    | none => rw [hd] at hz; cases hz
    | some x =>
      rw [hd] at hz
      cases hz
      cases h
      exact ⟨x, rfl, by simp⟩
theorem rangeD_at {lo : Int} {n i : Nat} {d : PyData} (h : (rangeD lo n)[i]? = some d) : i < n ∧ d = .int (lo + (i : Nat)) := by
  unfold rangeD at h
  rw [List.getElem?_map] at h
  by_cases hi : i < n
  · rw [List.getElem?_range hi] at h
    cases h
    exact ⟨hi, rfl⟩
  · rw [List.getElem?_eq_none (by simp; omega)] at h
    cases h
theorem rangeD_len {lo : Int} {n : Nat} : (rangeD lo n).length = n := by simp [rangeD]
end FL
namespace FL
theorem q2m {E : En} {i : Nat} : mMv i E = (E[i]?).bind (mvS E i) := by
  unfold mMv
  cases E[i]? with
  | none => rfl
  | some s => cases s <;> rfl
end FL
namespace FL
open PySem L2
theorem q2o {f : En → Option Int} {E : En} : mPr f E = (f E).bind fun k => some (.imm (.int k), E) := rfl
def tabD (n : Nat) (G : Nat → Nat → Int) : PyData := .tuple ((List.range n).map fun i => PyData.tuple ((List.range n).map fun j => PyData.int (G i j)))
theorem range_get {α : Type} {f : Nat → α} {n i : Nat} (h : i < n) : ((List.range n).map f)[i]? = some (f i) := by
  rw [List.getElem?_map, List.getElem?_range h]; rfl
end FL
namespace FL
theorem rng_nat {n : Nat} (h : n < 1000000) : rngOk (n : Int) = true := by
  simp only [rngOk, Bool.and_eq_true, decide_eq_true_eq]
  omega
theorem v_rgN {n : Nat} (h : n < 1000000) {E : En} : rng1D [.imm (.int (n : Nat))] E = some (rangeD 0 n, E) := by
  rw [v_rg1 (rng_nat h), Int.toNat_natCast]
end FL
namespace FL
open PySem L2
def wipeS (E : En) (v : Nat) : Option SL → Option En
  | some (.par _) => none
  | _ => some (E.set v .no)
def backS (v : Nat) (E : En) : Option SL → En
  | some (.val (.imm d)) => E.set v (.val (.imm d))
  | _ => E
theorem q2p {E : En} : wipeE E [] = some E := Eq.trans rfl rfl
theorem q2q {E : En} {v : Nat} {vs : List Nat} : wipeE E (v :: vs) = (wipeE E vs).bind fun E' => wipeS E' v E'[v]? := by
  rw [wipeE]
  cases wipeE E vs with
  | none => rfl
  | some E' =>
    simp only [Option.bind_some]
    cases E'[v]? with
    | none => rfl
    | some s => cases s <;> rfl
theorem q2r {E : En} {v : Nat} : wipeS E v (some .no) = some (E.set v .no) := rfl
theorem q2s {E : En} {v : Nat} {t : Tr} : wipeS E v (some (.val t)) = some (E.set v .no) := rfl
theorem q2t {E : En} {v : Nat} {t : Option Tr} : wipeS E v (some (ov t)) = some (E.set v .no) := by cases t <;> rfl
theorem q2u {E0 E : En} : backE E0 E [] = E := Eq.trans rfl rfl
theorem q2v {E0 E : En} {v : Nat} {vs : List Nat} : backE E0 E (v :: vs) = backS v (backE E0 E vs) E0[v]? := by
  rw [backE]
  cases E0[v]? with
  | none => rfl
  | some s =>
    cases s with
    | no => rfl
    | val t => cases t <;> rfl
    | par t => rfl
theorem q2w {E : En} {v : Nat} : backS v E (some .no) = E := rfl
theorem q2x {E : En} {v : Nat} {d : PyData} : backS v E (some (.val (.imm d))) = E.set v (.val (.imm d)) := rfl
end FL
namespace FL
theorem q2y : ((some false : Option Bool) = some true) = False := eq_false (by decide)
end FL
namespace FL
open PySem L2
section
variable {K : PySem.W.Frag} {A : List V} {Hi H Hi' H' : Hp} {σ : L2.St} {E : En} {Fs : Nat → List Addr} {te ta tb tk tv ty td : TE} {ma mb mv : MF}
def mDisp1 (fk : En → Option Int) (mv : MF) : MF := fun E => (fk E).bind fun i => (mv E).bind fun r => match r.1 with
  | .imm d => some (.dic [(.inl i, d)], r.2)
  | _ => none
def mDNotIn (my md : MR) : MF := fun E => (my E).bind fun p => (md p.2).bind fun q => (view q.2 p.1).bind fun ty => (view q.2 q.1).bind fun td => match ty, td with
  | .imm kd, .dic ds => (keyD kd).bind fun key => some (.imm (.bool !(getD ds key).isSome), q.2)
  | _, _ => none
def iLen (i : Nat) : En → Option Int := fun E => (at? E i).bind fun t => (fLen [t]).bind iOf
theorem pr_add {fa fb : En → Option Int} (ha : PR K ta fa) (hb : PR K tb fb) : PR K (tOp (rAddA K) ta tb) (iOp (· + ·) fa fb) := fun E k q A σ Hi H Fs h Q kk => by
  obtain ⟨a, q1, q⟩ := Option.bind_eq_some_iff.mp q
  obtain ⟨b, q2, q⟩ := Option.bind_eq_some_iff.mp q
  cases q
  refine ha E a q1 A σ Hi H Fs h _ fun Hi1 H1 g1 => ?_
  refine hb E b q2 A σ Hi1 H1 Fs (h.grow g1) _ fun Hi2 H2 g2 => ?_
  exact .inl ⟨a, b, rfl, rfl, kk Hi2 H2 (g1.trans g2)⟩
def fMulB : Tr → Tr → Option Tr
  | .imm (.tuple ds), .imm (.int k) => if ds ≠ [] ∧ 0 ≤ k ∧ k ≤ 1000 ∧ ds.length ≤ 1000 then some (.imm (.tuple (List.replicate k.toNat ds).flatten)) else none
  | t, u => fMul t u
end
end FL
namespace FL
open PySem L2
section
variable {E E' : En} {m m' ma mb : MF} {mx my md : MR} {t u : Tr} {i j : Nat} {k : MS}
def mImm (m : MF) : MF := fun E => (m E).bind fun p => p.1.toD.bind fun d => some (.imm d, p.2)
theorem q2B : mImm m E = (m E).bind fun p => p.1.toD.bind fun d => some (.imm d, p.2) := rfl
theorem fr_imm {K : PySem.W.Frag} {te : TE} (h : FR K te m) : FR K te (mImm m) := fun E w E' q A σ Hi H Fs hE Q kk => by
  obtain ⟨⟨t, E1⟩, q1, q⟩ := Option.bind_eq_some_iff.mp q
  obtain ⟨d, q2, q⟩ := Option.bind_eq_some_iff.mp q
  cases q
  refine h E t E1 q1 A σ Hi H Fs hE Q fun v Hi1 H1 Fs1 G r h1 dG s => ?_
  have og : ∀ a ∈ G, Hi1 a = none := fun a ha => (r.ownG a ha).1
  have hd : Dp K (fzH Hi1 H1 G) v d := r.froz (fz_same og) _ _ _ d (fun a ha => fz_in ha) q2
  exact kk v (fzH Hi1 H1 G) H1 Fs1 [] (.imm hd) (h1.fz og dG) (fun a z => nomatch z) ((s.trans (fz_step og)).weak fun x z => z.elim id fun y => nomatch y)
theorem q2C : afterTurn k (.nx E) = k E := rfl
theorem q2D : afterTurn k (.ct E) = k E := rfl
theorem q2E : afterTurn k (.bk E) = some (.nx E) := rfl
theorem q2F : afterTurn k (.rt t E) = some (.rt t E) := rfl
theorem q2G {f : Int → Int → Int} {fa fb : En → Option Int} : iOp f fa fb E = (fa E).bind fun a => (fb E).bind fun b => some (f a b) := rfl
theorem q2H : iLen i E = (at? E i).bind fun t => (fLen [t]).bind iOf := rfl
def dninD : Tr → Tr → En → Option (Tr × En)
  | .imm kd, .dic ds, E => (keyD kd).bind fun key => some (.imm (.bool !(getD ds key).isSome), E)
  | _, _, _ => none
theorem q2I : mDNotIn my md E = (my E).bind fun p => (md p.2).bind fun q => (view q.2 p.1).bind fun ty => (view q.2 q.1).bind fun td => dninD ty td q.2 := by
  unfold mDNotIn
  refine bind_cg' fun p => bind_cg' fun q => bind_cg' fun ty => bind_cg' fun td => ?_
  unfold dninD
  cases ty <;> cases td <;> rfl
where bind_cg' {α β : Type} {a : Option α} {f g : α → Option β} (h : ∀ x, f x = g x) : a.bind f = a.bind g := by rw [funext h]
theorem q2J {n : Int} {ds : List (Key × PyData)} : dninD (.imm (.int n)) (.dic ds) E = some (.imm (.bool !(getD ds (.inl n)).isSome), E) := rfl
def dispD : Int → Tr → En → Option (Tr × En)
  | i, .imm d, E => some (.dic [(.inl i, d)], E)
  | _, _, _ => none
theorem q2K {fk : En → Option Int} : mDisp1 fk m E = (fk E).bind fun i => (m E).bind fun r => dispD i r.1 r.2 := by
  unfold mDisp1
  cases fk E with
  | none => rfl
  | some i =>
    simp only [Option.bind_some]
    cases m E with
    | none => rfl
    | some r =>
      rcases r with ⟨t, E1⟩
      cases t <;> rfl
theorem q2L {n : Int} {d : PyData} : dispD n (.imm d) E = some (.dic [(.inl n, d)], E) := rfl
theorem q2M {T : String} {f : Tr → List Tr → Option (Tr × Tr)} : mMut0 i T f E = (E[i]?).bind fun s => s.tree.bind fun t => if tyB T t = true then (f t []).bind fun r => some (r.1, E.set i (s.with r.2)) else none := rfl
theorem q2N {ds : List PyData} {n : Int} : fMulB (.imm (.tuple ds)) (.imm (.int n)) = if ds ≠ [] ∧ 0 ≤ n ∧ n ≤ 1000 ∧ ds.length ≤ 1000 then some (.imm (.tuple (List.replicate n.toNat ds).flatten)) else none := rfl
def rgD (T : List PyData → Tr) (a b : Int) (E : En) : Option (Tr × En) := if rngOk a = true ∧ rngOk b = true ∧ (b - a).toNat ≤ 2 ^ 24 then some (T (rangeD a (b - a).toNat), E) else none
def rgL (ds : List PyData) : Tr := .lst (ds.map Tr.imm)
def rgT (ds : List PyData) : Tr := .imm (.tuple ds)
theorem q2O : mLstRg (rgM1 m) E = (m E).bind fun p => (iOf p.1).bind fun n => rgD rgL 0 n p.2 := by
  unfold mLstRg rgM1
  cases m E with
  | none => rfl
  | some p =>
    simp only [Option.bind_some]
    cases iOf p.1 <;> rfl
theorem q2P : mTupRg (rgM1 m) E = (m E).bind fun p => (iOf p.1).bind fun n => rgD rgT 0 n p.2 := by
  unfold mTupRg rgM1
  cases m E with
  | none => rfl
  | some p =>
    simp only [Option.bind_some]
    cases iOf p.1 <;> rfl
theorem q2Q : mLstRg (rgM2 ma mb) E = (ma E).bind fun p => (iOf p.1).bind fun a => (mb p.2).bind fun q => (iOf q.1).bind fun b => rgD rgL a b q.2 := by
  unfold mLstRg rgM2
  cases ma E with
  | none => rfl
  | some p =>
    simp only [Option.bind_some]
    cases iOf p.1 with
    | none => rfl
    | some a =>
      simp only [Option.bind_some]
      cases mb p.2 with
      | none => rfl
      | some q =>
        simp only [Option.bind_some]
        cases iOf q.1 <;> rfl
theorem q2R : mTupRg (rgM2 ma mb) E = (ma E).bind fun p => (iOf p.1).bind fun a => (mb p.2).bind fun q => (iOf q.1).bind fun b => rgD rgT a b q.2 := by
  unfold mTupRg rgM2
  cases ma E with
  | none => rfl
  | some p =>
    simp only [Option.bind_some]
    cases iOf p.1 with
    | none => rfl
    | some a =>
      simp only [Option.bind_some]
      cases mb p.2 with
      | none => rfl
      | some q =>
        simp only [Option.bind_some]
        cases iOf q.1 <;> rfl
def enumE : PyData → En → Option (List PyData × En)
  | .tuple ds, E => some (enumD ds, E)
  | .list ds, E => some (enumD ds, E)
  | _, _ => none
theorem q1p : mEnum m E = (m E).bind fun p => p.1.toD.bind fun d => enumE d p.2 := by
  unfold mEnum
  cases m E with
  | none => rfl
  | some p =>
    simp only [Option.bind_some]
    cases p.1.toD with
    | none => rfl
    | some d => cases d <;> rfl
theorem q1q {ds : List PyData} : enumE (.tuple ds) E = some (enumD ds, E) := rfl
theorem q1r {ds : List PyData} : enumE (.list ds) E = some (enumD ds, E) := rfl
end
end FL
namespace FL
open PySem PySem.SeqAt PyProof.Rows PySem.W L2
section
variable {K : PySem.W.Frag}
def gAny (K : PySem.W.Frag) (n : Nat) (t : TGs) : L2.TG := fun v σ H Q => gTup K n t v σ H Q ∨ gUnl K n t v σ H Q
theorem pg_any {X : Cx} {pos : Pos} {es : List Expr} {k : Nat} {t : TGs} {n : Nat} (hc : X.calm = true) (h : PGs X es t)
    (hn : (assignEach es X.env).length = n := by rfl) (hst : (assignEach es X.env).findIdx? (·.1) = none := by rfl) : PG X (.Tuple es k pos) (gAny X.K n t) :=
  ⟨fun pins s σ H v u Q I r hw => hw.elim (fun z => (pg_tup hc h hn hst).run pins s σ H v u Q I r z) fun z => (pg_unl hc h hn hst).run pins s σ H v u Q I r z⟩
def mTupA (n : Nat) (ms : List PyData → En → Option En) : Tr → En → Option En := fun t E => (seqOf t).bind fun p => if p.2.length = n then ms p.2 E else none
theorem gr_any {n : Nat} {t : TGs} {ms : List PyData → En → Option En} {ws : List Nat} (ht : GRs K t ms ws) : GR K (gAny K n t) (mTupA n ms) ws := fun t E E' q A σ Hi H Fs v G h r d Q k => by
  obtain ⟨⟨b, ds⟩, q1, q⟩ := Option.bind_eq_some_iff.mp q
  dsimp only at q
  split at q
  · rename_i hn
    obtain ⟨a, vs, rfl, ha, hT, hL⟩ := seq_ok h.sub r q1
    cases b with
    | true => exact .inl ⟨a, vs, rfl, hT rfl, by rw [dpAll_len ha, hn], ht ds E E' q A σ Hi H Fs vs h ha _ fun σ1 Hi1 H1 Fs1 c1 h1 s1 => k σ1 Hi1 H1 Fs1 c1 h1 (s1.more fun x z => .inl z)⟩
    | false => exact .inr ⟨a, vs, rfl, hL rfl, by rw [dpAll_len ha, hn], ht ds E E' q A σ Hi H Fs vs h ha _ fun σ1 Hi1 H1 Fs1 c1 h1 s1 => k σ1 Hi1 H1 Fs1 c1 h1 (s1.more fun x z => .inl z)⟩
  · cases q
theorem q2A {n : Nat} {f : List PyData → En → Option En} {t : Tr} {E : En} : mTupA n f t E = (seqOf t).bind fun p => if p.2.length = n then f p.2 E else none := rfl
end
end FL
namespace FL
open PySem L2 PySem.Spec PyProof.Rows
section
variable {K : PySem.W.Frag} {Wx : L2.WX} {A : List V} {Hi H Hi1 H1 Hi' H' : Hp} {σ : L2.St} {E E1 : En} {Fs Fs1 : Nat → List Addr} {te td : TE}
def keyDt : Key → PyData
  | .inl i => .int i
  | .inr z => .str z
theorem keyDt_ok : ∀ k : Key, Dp K Hi (kV k) (keyDt k)
  | .inl _ => .int _
  | .inr _ => .str _
end
end FL
namespace FL
open PySem L2 PySem.Spec PyProof.Rows
theorem q31 {ds : List PyData} : isOwn (.tpl ds) = false := rfl
end FL
namespace FL
open PySem PySem.SeqAt PyProof.Rows PySem.W L2
section
variable {K : PySem.W.Frag}
def fExtendI : Tr → List Tr → Option (Tr × Tr)
  | .lst ts, [.imm d] => (seqOf (.imm d)).bind fun p => if ts.length + p.2.length ≤ 16777216 then some (.imm .none, .lst (ts ++ p.2.map Tr.imm)) else none
  | _, _ => none
def fExtendB : Tr → List Tr → Option (Tr × Tr) := fun t us => match us with
  | [.lst vs] => fExtend t [.lst vs]
  | _ => fExtendI t us
theorem q32 {ts us : List Tr} : fExtendB (.lst ts) [.lst us] = if ts.length + us.length ≤ 16777216 then some (.imm .none, .lst (ts ++ us)) else none := rfl
theorem q33 {ts : List Tr} {ds : List PyData} : fExtendB (.lst ts) [.imm (.tuple ds)] = if ts.length + ds.length ≤ 16777216 then some (.imm .none, .lst (ts ++ ds.map Tr.imm)) else none := rfl
end
end FL
namespace FL
open PySem PySem.Spec PyProof.Rows L2
inductive OutX where
  | ok (r : Tr) (ts : List Tr)
  | xc (cn : Str) (ds : List (Str × PyData)) (ts : List Tr)
inductive OE where
  | ok (t : Tr) (E : En)
  | xc (cn : Str) (ds : List (Str × PyData)) (E : En)
end FL
namespace FL
open PySem PySem.Spec PySem.Calls PyProof.Rows PySem.HandSPX L2
section
open PySem.W
def inA (f : Str) (p1 p2 : Pos) : Arguments := { posonlyargs := [], args := [{ arg := "self", annotation := none, pos := p1 }, { arg := f, annotation := none, pos := p2 }], vararg := none, kwonlyargs := [], kw_defaults := [], kwarg := none, defaults := [] }
def inB (f : Str) (q1 q2 q3 q4 : Pos) : List Stmt := [.Assign [.Attribute (.Name "self" q1) f q2] (.Name f q3) q4]
def inS (f : Str) : Scope := { kind := .function, names := [(PySem.Str.ofString "self", .local), (f, .local)], isGenerator := false, isCoroutine := false, more := [] }
structure OwnTxt (K : Frag) (mg : Str → Option Value) (cn qn f : Str) (C fI : Addr) : Prop where
  fld : f = "row" ∨ f = "place"
  gC : mg cn = some (.ref C)
  cls : ∃ nm q N bs bm sn sub ab col dd k0 k1 k2 k3 k5, K.lookup C = some (excClassObj nm q C N bs bm true sn sub ab col dd k0 k1 k2 k3 k5 "ValueError.__new__") ∧ refsVE bm = true
  sa : findIn K (.ref C) "__setattr__" = some (some (.builtin "object.__setattr__"))
  noN : findIn K (.ref C) f = some none
  iC : findIn K (.ref C) "__init__" = some (some (.ref fI))
  tC : typeIn K (.ref fI) = some (.type "function")
  kC : keepIn K (.ref C) = true
  exC : subIn K (.ref C) (.type "BaseException") = some true
  tyC : typeIn K (.ref C) = some (.type "type")
  fn : ∃ (oc : Value) (od : Option Addr) (doc pm : Value) (an : Option Addr) (cdv ct : Value) (osl : Array (Option Value)) (p1 p2 q1 q2 q3 q4 : Pos),
    K.lookup fI = some ⟨oc, od, .func (fnOf "__init__" qn (inA f p1 p2) (inB f q1 q2 q3 q4) (inS f) .none .none doc pm an cdv ct), osl⟩ ∧ codeIn K cdv qn = true
structure InitTo (h h' : Heap) (x C dx t1 : Addr) (f : Str) (v : Value) : Prop where
  keep : ∀ b o, b ≠ x → h.get? b = some o → h'.get? b = some o
  obj : h'.get? x = some { cls := .ref C, dict := some dx, data := .fields #[.ref t1, .none, .none, .none, .bool false, .none] }
  dbig : h.objs.size ≤ dx
  dne : dx ≠ x
  ns : h'.Ns1 dx (fun y => if y = f then some v else none)
structure MadeOwn (h h' : Heap) (e C d : Addr) (f : Str) (v : Value) : Prop where
  keep : ∀ b o, h.get? b = some o → h'.get? b = some o
  new : h.objs.size ≤ e
  obj : ∃ oe vs, h'.get? e = some oe ∧ oe.cls = .ref C ∧ oe.dict = some d ∧ oe.data = .fields vs ∧ vs[1]? = some .none
  dbig : h.objs.size ≤ d
  dne : d ≠ e
  ns : h'.Ns1 d (fun y => if y = f then some v else none)
end
open PySem.W (Frag typeIn keepIn subIn)
end FL
namespace FL
open PySem PySem.Spec PyProof.Rows L2
structure EC (K : PySem.W.Frag) (C : Addr) : Prop where
  ga : PySem.W.findIn K (.ref C) "__getattribute__" = some (some (.builtin "BaseException.__getattribute__"))
  gg : PySem.W.findIn K (.ref C) "__getattr__" = some none
  ex : PySem.W.subIn K (.ref C) (.type "BaseException") = some true
  hd : PySem.W.hasDictIn K C = true
  ha : PySem.W.findIn K (.ref C) "__class__" = some (some (.builtin "object.__class__"))
  hm : PySem.W.mroIn K C (.type "object") = some true
structure EG (K : PySem.W.Frag) : Prop where
  hn : PySem.W.specialIn K (.builtin "object.__class__") "__get__" = some (some (.builtin "getset_descriptor.__get__"))
  ht : PySem.W.takesIn K (.builtin "object.__class__") = some true
end FL
namespace FL
open PySem L2
section
variable {K : PySem.W.Frag} {A : List V} {Hi H Hi1 H1 Hi' H' : Hp} {σ : L2.St} {E : En} {Fs : Nat → List Addr} {te ta : TE} {m : MF}
theorem RepTs.ins {v : V} {t : Tr} {G : List Addr} : ∀ (n : Nat) {vs : List V} {ts : List Tr} {F : List Addr}, RepTs K Hi H vs ts F → RepT K Hi H v t G → (∀ a ∈ F, a ∉ G) →
    ∃ F', RepTs K Hi H (vs.take n ++ [v] ++ vs.drop n) (ts.take n ++ [t] ++ ts.drop n) F' ∧ ∀ a, a ∈ F' ↔ a ∈ F ∨ a ∈ G
  | 0, _, _, F, rs, r, d => ⟨G ++ F, .cons r rs fun a ha hb => d a hb ha, fun a => by simp [or_comm]⟩
  | n + 1, _, _, _, .nil, r, _ => ⟨G ++ [], RepTs.cons r .nil (fun a _ z => nomatch z), fun a => by simp⟩
  | n + 1, _, _, _, .cons (F := F1) (G := G1) r1 rs d1, r, d => by
    obtain ⟨F', r', hF⟩ := RepTs.ins n rs r fun a ha => d a (List.mem_append_right _ ha)
    refine ⟨F1 ++ F', .cons r1 r' fun a ha hb => ?_, fun a => by simp [hF, or_assoc]⟩
    rcases (hF a).mp hb with z | z
    · exact d1 a ha z
    · exact d a (List.mem_append_left _ ha) z
def pairsZ (ds es : List PyData) : List PyData := List.zipWith (fun a b => PyData.tuple [a, b]) ds es
theorem pairsZ_len {ds es : List PyData} : (pairsZ ds es).length = min ds.length es.length := by simp [pairsZ]
theorem pairsZ_at {ds es : List PyData} {i : Nat} {d : PyData} (h : (pairsZ ds es)[i]? = some d) : ∃ a b, ds[i]? = some a ∧ es[i]? = some b ∧ d = .tuple [a, b] := by
  unfold pairsZ at h
  rw [List.getElem?_zipWith] at h
  cases e1 : ds[i]? with
  | none => rw [e1] at h; cases h
  | some a =>
    cases e2 : es[i]? with
    | none => rw [e1, e2] at h; cases h
    | some b =>
      rw [e1, e2] at h
      cases h
      exact ⟨a, b, rfl, rfl, rfl⟩
theorem dpAll_get : ∀ {ds : List PyData} {vs : List V} {i : Nat} {d : PyData}, DpAll K H vs ds → ds[i]? = some d → ∃ v, vs[i]? = some v ∧ Dp K H v d
  | _, _, i, _, .nil, e => by simp at e
  | _, _, 0, d, .cons (v := v) h _, e => by
    rw [List.getElem?_cons_zero] at e
    cases e
    exact ⟨v, rfl, h⟩
  | _, _, i + 1, d, .cons h t, e => by
    obtain ⟨v, a, b⟩ := dpAll_get (i := i) t (by simpa using e)
    exact ⟨v, by simpa using a, b⟩
theorem zip_pair {T : Addr} {x y : V} {d e : PyData} (s : Same Hi H) (hx : Dp K Hi x d) (hy : Dp K Hi y e) (hT : H T = none) : ∃ Hi', Grow Hi H Hi' (upd H T (.tup [x, y])) [] ∧ Dp K Hi' (.ref T) (.tuple [d, e]) := by
  have g : Grow Hi H (upd Hi T (.tup [x, y])) (upd H T (.tup [x, y])) [] := Grow.imm s hT
  exact ⟨_, g, .tup (SqT.of upd_same) (.cons (dpMono g.ex _ _ hx) (.cons (dpMono g.ex _ _ hy) .nil))⟩
theorem itOk_zt {a b : Addr} {vs ws : List V} {ds es : List PyData} (hs : SqT K Hi1 a vs) (hr : SqT K Hi1 b ws) (ha : DpAll K Hi1 vs ds) (hb : DpAll K Hi1 ws es) : ItOk K (RZ.ItzT K a b) Hi1 (pairsZ ds es) := by
  have l1 := dpAll_len ha
  have l2 := dpAll_len hb
  refine ⟨fun Hi H e s i hi => ⟨vs, ws, seqT s (seqT e hs), seqT s (seqT e hr), by rw [pairsZ_len] at hi; omega⟩, fun Hi H e s i hi => ?_, fun Hi H e s i d x H' hd hy => ?_⟩
  · rw [pairsZ_len] at hi
    exact ⟨vs, ws, vs[i]'(by omega), ws[i]'(by omega), seqT s (seqT e hs), seqT s (seqT e hr), List.getElem?_eq_getElem _, List.getElem?_eq_getElem _⟩
  · obtain ⟨T, p, q, rfl, hT, rfl, h1, h2⟩ := hy
    obtain ⟨d1, d2, e1, e2, rfl⟩ := pairsZ_at hd
    obtain ⟨v1, x1, hv1⟩ := dpAll_get ha e1
    obtain ⟨v2, x2, hv2⟩ := dpAll_get hb e2
    have e3 := h1 vs (seqT s (seqT e hs))
    rw [x1] at e3
    cases e3
    have e4 := h2 ws (seqT s (seqT e hr))
    rw [x2] at e4
    cases e4
    exact zip_pair s (dpMono e _ _ hv1) (dpMono e _ _ hv2) hT
theorem itOk_zl {a b : Addr} {vs ws : List V} {ds es : List PyData} (hs : SqL K Hi1 a vs) (hr : SqL K Hi1 b ws) (ha : DpAll K Hi1 vs ds) (hb : DpAll K Hi1 ws es) : ItOk K (Itz K a b) Hi1 (pairsZ ds es) := by
  have l1 := dpAll_len ha
  have l2 := dpAll_len hb
  refine ⟨fun Hi H e s i hi => ⟨vs, ws, s.seq (e.seq hs), s.seq (e.seq hr), by rw [pairsZ_len] at hi; omega⟩, fun Hi H e s i hi => ?_, fun Hi H e s i d x H' hd hy => ?_⟩
  · rw [pairsZ_len] at hi
    exact ⟨vs, ws, vs[i]'(by omega), ws[i]'(by omega), s.seq (e.seq hs), s.seq (e.seq hr), List.getElem?_eq_getElem _, List.getElem?_eq_getElem _⟩
  · obtain ⟨T, p, q, rfl, hT, rfl, h1, h2⟩ := hy
    obtain ⟨d1, d2, e1, e2, rfl⟩ := pairsZ_at hd
    obtain ⟨v1, x1, hv1⟩ := dpAll_get ha e1
    obtain ⟨v2, x2, hv2⟩ := dpAll_get hb e2
    have e3 := h1 vs (s.seq (e.seq hs))
    rw [x1] at e3
    cases e3
    have e4 := h2 ws (s.seq (e.seq hr))
    rw [x2] at e4
    cases e4
    exact zip_pair s (dpMono e _ _ hv1) (dpMono e _ _ hv2) hT
def zipT : List PyData → Option (List PyData)
  | [.tuple ds, .tuple es] => some (pairsZ ds es)
  | [.list ds, .list es] => some (pairsZ ds es)
  | _ => none
def mZip (ms : MFs) : MI := fun E => (ms E).bind fun p => (Tr.toDs p.1).bind fun ds => (zipT ds).bind fun r => some (r, p.2)
theorem ir_zip {ta : TA} {ms : MFs} (hm : FA K ta ms) : IR K (RZ.iZipA K ta) (mZip ms) := fun E ds E' q A σ Hi H Fs h R k => by
  unfold mZip at q
  obtain ⟨⟨ts, E1⟩, q1, q⟩ := Option.bind_eq_some_iff.mp q
  obtain ⟨dd, q2, q⟩ := Option.bind_eq_some_iff.mp q
  obtain ⟨r, q3, q⟩ := Option.bind_eq_some_iff.mp q
  cases q
  refine hm E ts E1 q1 A σ Hi H Fs h _ fun vs Hi1 H1 Fs1 G rs h1 dn s => ?_
  have og : ∀ a ∈ G, Hi1 a = none := fun a ha => (rs.ownG a ha).1
  have hd : DpAll K (fzH Hi1 H1 G) vs dd := rs.froz (fz_same og) _ _ _ dd (fun a ha => fz_in ha) q2
  have h2 := h1.fz og dn
  have st : Step Hi H (InE Fs) (fzH Hi1 H1 G) H1 (InE Fs1) := s.trans (fz_step og)
  unfold zipT at q3
  split at q3
  · cases q3
    cases hd with
    | cons p1 p2 =>
      cases p2 with
      | cons p2 p3 =>
        cases p3
        cases p1 with
        | tup s1 a1 =>
          cases p2 with
          | tup s2 a2 => exact ⟨_, _, _, _, rfl, .inr ⟨seqT h2.sub s1, seqT h2.sub s2, k _ _ H1 Fs1 (itOk_zt s1 s2 a1 a2) h2 st⟩⟩
  · cases q3
    cases hd with
    | cons p1 p2 =>
      cases p2 with
      | cons p2 p3 =>
        cases p3
        cases p1 with
        | lst s1 a1 =>
          cases p2 with
          | lst s2 a2 => exact ⟨_, _, _, _, rfl, .inl ⟨h2.sub.seq s1, h2.sub.seq s2, k _ _ H1 Fs1 (itOk_zl s1 s2 a1 a2) h2 st⟩⟩
  · cases q3
theorem dpAll_rev : ∀ {vs : List V} {ds : List PyData}, DpAll K H vs ds → DpAll K H vs.reverse ds.reverse
  | _, _, .nil => .nil
  | _, _, .cons h t => by
    rw [List.reverse_cons, List.reverse_cons]
    exact dpAll_app (dpAll_rev t) (.cons h .nil)
end
end FL
namespace FL
open PySem L2
def drp (Hi : Hp) (a : Addr) : Hp := fun b => if b = a then none else Hi b
theorem drp_ne {Hi : Hp} {a b : Addr} (h : b ≠ a) : drp Hi a b = Hi b := if_neg h
theorem drp_same {Hi : Hp} {a : Addr} : drp Hi a a = none := if_pos rfl
section
variable {K : PySem.W.Frag} {Hi H : Hp} {a : Addr} {od : Obj} {xs : List (Key × V)}
theorem drp_seq (ha : Hi a = some (.frz od (.dK xs))) {b : Addr} {vs : List V} (h : SqL K Hi b vs) : SqL K (drp Hi a) b vs := by
  rcases h with (h | ⟨o, h⟩) | h
  · have n : b ≠ a := fun e => by rw [e, ha] at h; cases h
    exact .inl (.inl ((drp_ne n).trans h))
  · have n : b ≠ a := fun e => by rw [e, ha] at h; cases h
    exact .inl (.inr ⟨o, (drp_ne n).trans h⟩)
  · exact .inr h
theorem drp_seqT (ha : Hi a = some (.frz od (.dK xs))) {b : Addr} {vs : List V} (h : SqT K Hi b vs) : SqT K (drp Hi a) b vs := by
  rcases h with (h | ⟨o, h⟩) | h
  · have n : b ≠ a := fun e => by rw [e, ha] at h; cases h
    exact .inl (.inl ((drp_ne n).trans h))
  · have n : b ≠ a := fun e => by rw [e, ha] at h; cases h
    exact .inl (.inr ⟨o, (drp_ne n).trans h⟩)
  · exact .inr h
mutual
theorem dpDrp (ha : Hi a = some (.frz od (.dK xs))) : ∀ (d : PyData) (v : V), Dp K Hi v d → Dp K (drp Hi a) v d
  | .none, _, h => by cases h; exact .non
  | .bool _, _, h => by cases h; exact .bl _
  | .int _, _, h => by cases h; exact .int _
  | .str _, _, h => by cases h; exact .str _
  | .list ds, _, h => by
    cases h with
    | lst hs hd => exact .lst (drp_seq ha hs) (dpDrps ha ds _ hd)
  | .tuple ds, _, h => by
    cases h with
    | tup hs hd => exact .tup (drp_seqT ha hs) (dpDrps ha ds _ hd)
  | .dict _, _, h => by cases h
theorem dpDrps (ha : Hi a = some (.frz od (.dK xs))) : ∀ (ds : List PyData) (vs : List V), DpAll K Hi vs ds → DpAll K (drp Hi a) vs ds
  | [], _, h => by cases h; exact .nil
  | d :: ds, _, h => by
    cases h with
    | cons h1 h2 => exact .cons (dpDrp ha d _ h1) (dpDrps ha ds _ h2)
end
mutual
def noK : Tr → Bool
  | .imm _ => true
  | .lst ts => noKs ts
  | .dic _ => true
  | .tpl _ => true
  | .obj _ _ _ ts => noKs ts
  | .box _ _ _ t => noK t
  | .exc _ _ => true
  | .dik _ => false
  | .pr _ _ => false
  | .dit _ => true
def noKs : List Tr → Bool
  | [] => true
  | t :: ts => noK t && noKs ts
end
theorem KvA.drp (ha : Hi a = some (.frz od (.dK xs))) {fs : List (Str × V)} {ds : List (Str × PyData)} (h : KvA K Hi fs ds) : KvA K (drp Hi a) fs ds := fun n d q => let ⟨v, h1, h2⟩ := h n d q; ⟨v, h1, dpDrp ha _ _ h2⟩
theorem XdA.drp (ha : Hi a = some (.frz od (.dK xs))) {d : Option Addr} {ds : List (Str × PyData)} (h : XdA K Hi d ds) : XdA K (drp Hi a) d ds :=
  h.imp id fun ⟨dd, fs, h1, h2, h3⟩ => ⟨dd, fs, h1, (drp_ne fun e => by rw [e, ha] at h2; cases h2).trans h2, h3.drp ha⟩
theorem drp_none {b : Addr} (h : Hi b = none) : drp Hi a b = none := by
  unfold drp
  split
  · rfl
  · exact h
mutual
theorem repDrp (ha : Hi a = some (.frz od (.dK xs))) : ∀ (t : Tr) (v : V) (F : List Addr), noK t = true → RepT K Hi H v t F → RepT K (drp Hi a) H v t F
  | .imm d, _, _, _, h => by
    cases h with
    | imm h => exact .imm (dpDrp ha d _ h)
  | .lst ts, _, _, n, h => by
    cases h with
    | lst h1 h2 h3 h4 => exact .lst h1 (drp_none h2) (repDrps ha ts _ _ n h3) h4
  | .dic _, _, _, _, h => by
    cases h with
    | dic h1 h2 h3 => exact .dic h1 (drp_none h2) (Paired.mapP h3 fun p q z => ⟨z.1, dpDrp ha _ _ z.2⟩)
  | .tpl ds, _, _, _, h => by
    cases h with
    | tpl h1 h2 h3 => exact .tpl ((drp_ne fun e => by rw [e, ha] at h1; cases h1).trans h1) h2 (dpDrps ha ds _ h3)
  | .obj _ _ _ ts, _, _, n, h => by
    cases h with
    | obj h1 h2 h3 h4 h5 h6 h7 h8 h9 h10 h11 h12 h13 h14 =>
      exact .obj h1 h2 h3 (drp_none h4) (drp_none h5) h6 h7 (h8.drp ha) h9 h10 (repDrps ha ts _ _ n h11) h12 h13 h14
  | .box _ _ _ t, _, _, n, h => by
    cases h with
    | box h1 h2 h3 h4 h5 h6 h7 =>
      exact .box h1 ((drp_ne fun e => by rw [e, ha] at h2; cases h2).trans h2) ((drp_ne fun e => by rw [e, ha] at h3; cases h3).trans h3) (h4.drp ha) h5 h6 (repDrp ha t _ _ n h7)
  | .exc _ _, _, _, _, h => by
    cases h with
    | exc h1 h2 h3 => exact .exc h1 ((drp_ne fun e => by rw [e, ha] at h2; cases h2).trans h2) (h3.drp ha)
  | .dik _, _, _, n, _ => by cases n
  | .pr _ _, _, _, n, _ => by cases n
  | .dit _, _, _, _, h => by
    cases h with
    | dit h1 h2 h3 => exact .dit h1 (drp_none h2) (Paired.mapP h3 fun p q z => ⟨z.1, z.2.1, dpDrp ha _ _ z.2.2.1, dpDrp ha _ _ z.2.2.2⟩)
theorem repDrps (ha : Hi a = some (.frz od (.dK xs))) : ∀ (ts : List Tr) (vs : List V) (F : List Addr), noKs ts = true → RepTs K Hi H vs ts F → RepTs K (drp Hi a) H vs ts F
  | [], _, _, _, h => by cases h; exact .nil
  | t :: ts, _, _, n, h => by
    cases h with
    | cons h1 h2 h3 =>
      rw [noKs, Bool.and_eq_true] at n
      exact .cons (repDrp ha t _ _ n.1 h1) (repDrps ha ts _ _ n.2 h2) h3
end
end
def isParS : SL → Bool
  | .par _ => true
  | _ => false
def noKE : Option Tr → Bool
  | none => true
  | some t => noK t
def lockOk (i : Nat) : Nat → En → En → Bool
  | _, [], [] => true
  | j, s0 :: E0, s :: E => (if j = i then true else (!(isParS s) || isParS s0) && noKE s.tree) && lockOk i (j + 1) E0 E
  | _, _, _ => false
theorem lockOk_at {i : Nat} : ∀ {E0 E : En} {b : Nat}, lockOk i b E0 E = true → E.length = E0.length ∧ ∀ (j : Nat) s, E[j]? = some s → b + j ≠ i → (isParS s = true → ∃ s0, E0[j]? = some s0 ∧ isParS s0 = true) ∧ noKE s.tree = true
  | [], [], b, _ => ⟨rfl, fun j s e => by simp at e⟩
  | [], _ :: _, b, h => by cases h
  | _ :: _, [], b, h => by cases h
  | s0 :: E0, s :: E, b, h => by
    rw [lockOk, Bool.and_eq_true] at h
    obtain ⟨l, k⟩ := lockOk_at h.2
    refine ⟨by simp [l], fun j s' e n => ?_⟩
    cases j with
    | zero =>
      rw [List.getElem?_cons_zero] at e
      cases e
      have h1 := h.1
      rw [if_neg (by simpa using n)] at h1
      rw [Bool.and_eq_true] at h1
      refine ⟨fun z => ⟨s0, rfl, ?_⟩, h1.2⟩
      have h2 := h1.1
      rw [z] at h2
      simpa using h2
    | succ j =>
      have := k j s' (by simpa using e) (by omega)
      exact ⟨fun z => by simpa using this.1 z, this.2⟩
def unLk (i : Nat) (E1 : En) : Out → Option Out
  | .nx E2 => match E2[i]? with
    | some (.par (.dik ds)) => if lockOk i 0 E1 E2 = true then some (.nx (E2.set i (.val (.dic ds)))) else none
    | _ => none
  | _ => none
def mLock (i : Nat) (m : MS) : MS := fun E => match E[i]? with
  | some (.val (.dic ds)) => (m (E.set i (.par (.dik ds)))).bind (unLk i (E.set i (.par (.dik ds))))
  | _ => none
def argAt (A : List V) (i : Nat) (v : V) : List V := (A ++ List.replicate (i + 1 - A.length) V.non).set i v
theorem argAt_self {A : List V} {i : Nat} {v : V} : (argAt A i v)[i]? = some v := by
  unfold argAt
  rw [List.getElem?_set_self (by simp; omega)]
theorem argAt_old {A : List V} {i j : Nat} {v w : V} (h : j ≠ i) (e : A[j]? = some w) : (argAt A i v)[j]? = some w := by
  unfold argAt
  rw [List.getElem?_set_ne (Ne.symm h), List.getElem?_append_left (List.getElem?_eq_some_iff.mp e).1]
  exact e
theorem argAt_back {A : List V} {i j : Nat} {v w : V} (h : j ≠ i) (hj : j < A.length) (e : (argAt A i v)[j]? = some w) : A[j]? = some w := by
  unfold argAt at e
  rw [List.getElem?_set_ne (Ne.symm h), List.getElem?_append_left hj] at e
  exact e
section
variable {K : PySem.W.Frag} {Wx : L2.WX}
theorem sr_lock {i : Nat} {t : TS} {m : MS} (hm : SR K Wx t m) : SR K Wx (tLock t) (mLock i m) := fun E out q A σ Hi H Fs D h go => by
  unfold mLock at q
  split at q
  case h_2 => cases q
  rename_i ds hE
  obtain ⟨o1, q1, q2⟩ := Option.bind_eq_some_iff.mp q
  unfold unLk at q2
  split at q2
  case h_2 => cases q2
  rename_i E2
  split at q2
  case h_2 => cases q2
  rename_i ds2 hE2
  split at q2
  case isFalse => cases q2
  rename_i hok
  cases q2
  obtain ⟨hlen, hjs⟩ := lockOk_at hok
  obtain ⟨v, ev, rt⟩ := h.val i _ (at_val hE)
  generalize hF : Fs i = F at rt
  cases rt with
  | @dic a xs _ e1 e2 e3 =>
  have iI : i < E.length := lt_of_at hE
  refine ⟨a, .dK xs, e1, trivial, fun od => ?_⟩
  have inA : InE Fs a := ⟨i, by rw [hF]; exact List.mem_cons_self⟩
  have fr2 : ∀ b, b ≠ a → upd H a (.frz od (.dK xs)) b = H b := fun b hb => upd_ne hb
  have fi2 : ∀ b, b ≠ a → upd Hi a (.frz od (.dK xs)) b = Hi b := fun b hb => upd_ne hb
  have naF : ∀ j, j ≠ i → a ∉ Fs j := fun j hj z => hj (h.dis j i a z (by rw [hF]; exact List.mem_cons_self))
  have ex1 : Same Hi (upd Hi a (.frz od (.dK xs))) := same_new e2
  have h2 : RepE K (argAt A i (.ref a)) (upd Hi a (.frz od (.dK xs))) (upd H a (.frz od (.dK xs))) σ (E.set i (.par (.dik ds))) (fset Fs i []) := by
    refine ⟨same_upd2 h.sub, by rw [List.length_set]; exact h.len, fun j t z => ?_, fun j t z => ?_, fun j z => ?_, fun j l b zj zl => ?_⟩
    · rw [at_set] at z
      by_cases e : i = j
      · subst e
        rw [if_pos ⟨rfl, iI⟩] at z
        cases z
        refine ⟨_, ev, ?_⟩
        rw [fset_same]
        exact .dik upd_same (Paired.mapP e3 fun p q z => ⟨z.1, dpMono ex1 _ _ z.2⟩)
      · rw [if_neg (fun y => e y.1)] at z
        obtain ⟨u, w1, w2⟩ := h.val j t z
        refine ⟨u, w1, ?_⟩
        rw [fset_ne (Ne.symm e)]
        exact w2.frame ex1 _ _ _ (fun b hb => fr2 b fun y => naF j (Ne.symm e) (y ▸ hb)) (fun b hb => (fi2 b fun y => naF j (Ne.symm e) (y ▸ hb)).trans (w2.own _ _ _ b hb).1)
    · rw [List.getElem?_set] at z
      by_cases e : i = j
      · subst e
        exact ⟨_, ev, argAt_self⟩
      · rw [if_neg e] at z
        obtain ⟨u, w1, w2⟩ := h.par j t z
        exact ⟨u, w1, argAt_old (Ne.symm e) w2⟩
    · rw [at_set] at z
      by_cases e : i = j
      · subst e
        rw [fset_same]
      · rw [if_neg (fun y => e y.1)] at z
        rw [fset_ne (Ne.symm e)]
        exact h.no j z
    · by_cases e1 : j = i
      · subst e1
        rw [fset_same] at zj
        cases zj
      · rw [fset_ne e1] at zj
        by_cases e2 : l = i
        · subst e2
          rw [fset_same] at zl
          cases zl
        · rw [fset_ne e2] at zl
          exact h.dis j l b zj zl
  have sub1 : ∀ b, InE (fset Fs i []) b → InE Fs b := fun b hb => (inE_fset hb).elim id fun z => nomatch z
  refine hm _ _ q1 (argAt A i (.ref a)) σ _ _ _ _ h2 ?_
  intro σ' Hi' H' Fs' h' s'
  have a1 : Hi' a = some (.frz od (.dK xs)) := s'.ex _ _ upd_same
  have a2 : H' a = some (.frz od (.dK xs)) := h'.sub _ _ a1
  refine ⟨a2, ?_⟩
  have nF' : ∀ j, a ∉ Fs' j := fun j z => by
    have := (h'.own ⟨j, z⟩).1
    rw [a1] at this
    cases this
  have i2 : i < E2.length := lt_of_at hE2
  obtain ⟨v2, ev2, rt2⟩ := h'.val i _ (at_par hE2)
  generalize hF2 : Fs' i = F2 at rt2
  obtain ⟨v3, ev3, av3⟩ := h'.par i _ hE2
  rw [ev2] at ev3
  cases ev3
  rw [argAt_self] at av3
  cases av3
  cases rt2 with
  | @dik _ o' xs' _ g1 g3 =>
  rw [a1] at g1
  cases g1
  refine go σ' (drp Hi' a) (upd H' a (.dK xs)) (fset Fs' i [a]) ⟨fun b u z => ?_, by rw [List.length_set]; exact h'.len, fun j t z => ?_, fun j t z => ?_, fun j z => ?_, fun j l b zj zl => ?_⟩ ⟨fun b u z => ?_, fun b u z f => ?_, fun b z => ?_, fun b u z => ?_⟩
  · have nb : b ≠ a := fun y => by rw [y, drp_same] at z; cases z
    rw [drp_ne nb] at z
    rw [upd_ne nb]
    exact h'.sub b u z
  · rw [at_set] at z
    by_cases e : i = j
    · subst e
      rw [if_pos ⟨rfl, i2⟩] at z
      cases z
      refine ⟨_, ev2, ?_⟩
      rw [fset_same]
      exact .dic upd_same drp_same (Paired.mapP g3 fun p q z => ⟨z.1, dpDrp a1 _ _ z.2⟩)
    · rw [if_neg (fun y => e y.1)] at z
      obtain ⟨u, w1, w2⟩ := h'.val j t z
      refine ⟨u, w1, ?_⟩
      rw [fset_ne (Ne.symm e)]
      obtain ⟨s, hs, ht⟩ := Option.bind_eq_some_iff.mp z
      have nk := (hjs j s hs (by rw [Nat.zero_add]; exact Ne.symm e)).2
      rw [ht] at nk
      have w3 := repDrp a1 t u _ nk w2
      exact w3.frame (Same.refl _) _ _ _ (fun b hb => upd_ne fun y => nF' j (y ▸ hb)) (fun b hb => (w3.own _ _ _ b hb).1)
  · rw [List.getElem?_set] at z
    by_cases e : i = j
    · subst e
      rw [if_pos rfl, if_pos i2] at z
      cases z
    · rw [if_neg e] at z
      obtain ⟨s0, hs0, hp0⟩ := (hjs j _ z (by rw [Nat.zero_add]; exact Ne.symm e)).1 rfl
      obtain ⟨u, w1, w2⟩ := h'.par j t z
      rw [List.getElem?_set_ne e] at hs0
      cases s0 with
      | no => cases hp0
      | val _ => cases hp0
      | par t0 =>
        obtain ⟨_, _, w5⟩ := h.par j t0 hs0
        exact ⟨u, w1, argAt_back (Ne.symm e) (List.getElem?_eq_some_iff.mp w5).1 w2⟩
  · rw [at_set] at z
    by_cases e : i = j
    · subst e
      rw [if_pos ⟨rfl, i2⟩] at z
      cases z
    · rw [if_neg (fun y => e y.1)] at z
      rw [fset_ne (Ne.symm e)]
      exact h'.no j z
  · by_cases e1 : j = i
    · subst e1
      by_cases e2 : l = j
      · exact e2.symm
      · rw [fset_same] at zj
        rw [fset_ne e2] at zl
        have : b = a := by simpa using zj
        exact absurd (this ▸ zl) (nF' l)
    · rw [fset_ne e1] at zj
      by_cases e2 : l = i
      · subst e2
        rw [fset_same] at zl
        have : b = a := by simpa using zl
        exact absurd (this ▸ zj) (nF' j)
      · rw [fset_ne e2] at zl
        exact h'.dis j l b zj zl
  · have nb : b ≠ a := fun y => by rw [y, e2] at z; cases z
    rw [drp_ne nb]
    exact s'.ex b u ((fi2 b nb).trans z)
  · have nb : b ≠ a := fun y => f (y ▸ inA)
    rw [upd_ne nb]
    exact s'.fr b u ((fr2 b nb).trans z) fun y => f (sub1 b y)
  · rcases inE_fset z with z | z
    · rcases s'.nw b z with y | y
      · exact .inl (sub1 b y)
      · have nb : b ≠ a := fun w => by rw [w, upd_same] at y; cases y
        rw [fr2 b nb] at y
        exact .inr y
    · have : b = a := by simpa using z
      exact .inl (this ▸ inA)
  · have nb : b ≠ a := fun y => by rw [y, drp_same] at z; cases z
    rw [drp_ne nb] at z
    rcases s'.nh b u z with ⟨u', y⟩ | y | y
    · rw [fi2 b nb] at y
      exact .inl ⟨u', y⟩
    · exact .inr (.inl (sub1 b y))
    · rw [fr2 b nb] at y
      exact .inr (.inr y)
def keysD (ds : List (Key × PyData)) : List PyData := ds.map fun p => keyDt p.1
def mKeysI (i : Nat) : MI := fun E => match at? E i with
  | some (.dik ds) => some (keysD ds, E)
  | _ => none
theorem kvr_key {Hi : Hp} : ∀ {xs : List (Key × V)} {ds : List (Key × PyData)}, KvR K Hi xs ds → ∀ {i : Nat} {k : Key} {v : V} {d : PyData}, xs[i]? = some (k, v) → (keysD ds)[i]? = some d → d = keyDt k
  | _, _, .nil, i, _, _, _, q, _ => by cases q
  | _, _, .cons r t, 0, _, _, _, q, q' => by
    cases q
    cases q'
    obtain ⟨r1, r2⟩ := r
    dsimp only at r1
    rw [r1]
  | _, _, .cons r t, i + 1, _, _, _, q, q' => kvr_key t (i := i) q q'
theorem ir_keys {i : Nat} : IR K (iKeys (tVar i)) (mKeysI i) := fun E ds E' q A σ Hi H Fs h R k => by
  unfold mKeysI at q
  split at q
  · rename_i ds0 e
    cases q
    obtain ⟨v, ev, rt⟩ := h.val i _ e
    generalize hF : Fs i = F at rt
    cases rt with
    | @dik a o xs _ g1 g3 =>
      have hl : (keysD ds0).length = xs.length := by
        unfold keysD
        rw [List.length_map]
        exact (Paired.length g3).symm
      refine ⟨_, ev, a, o, rfl, .inl ⟨xs, h.sub _ _ g1, k (Itk a o xs) Hi H Fs ⟨fun Hi2 H2 s1 s2 j hj => ⟨s2 _ _ (s1 _ _ g1), by omega⟩, fun Hi2 H2 s1 s2 j hj => ⟨s2 _ _ (s1 _ _ g1), by omega⟩, fun Hi2 H2 s1 s2 j d x H' hd y => ?_⟩ h (Step.refl _ _ _)⟩⟩
      obtain ⟨rfl, key, v, e1, rfl⟩ := y
      have := kvr_key g3 e1 hd
      subst this
      exact ⟨Hi2, Grow.refl s2, keyDt_ok key⟩
  · cases q
def mDGetK (i : Nat) (my : MF) : MF := fun E => (at? E i).bind fun _ => (my E).bind fun q => match q.1 with
  | .imm kd => (at? q.2 i).bind fun t => match t with
    | .dik ds => (keyD kd).bind fun key => (getD ds key).bind fun d => some (.imm d, q.2)
    | _ => none
  | _ => none
theorem fr_dgetK {i : Nat} {ty : TE} {my : MF} (hy : FR K ty my) : FR K (tDGet (tVar i) ty) (mDGetK i my) := fun E w E' q A σ Hi H Fs h Q k => by
  unfold mDGetK at q
  obtain ⟨t0, q0, q⟩ := Option.bind_eq_some_iff.mp q
  obtain ⟨⟨t1, E1⟩, q1, q⟩ := Option.bind_eq_some_iff.mp q
  dsimp only at q
  split at q
  case h_2 => cases q
  rename_i kd
  obtain ⟨t2, q2, q⟩ := Option.bind_eq_some_iff.mp q
  split at q
  case h_2 => cases q
  rename_i ds
  obtain ⟨key, q3, q⟩ := Option.bind_eq_some_iff.mp q
  obtain ⟨d, q4, q⟩ := Option.bind_eq_some_iff.mp q
  cases q
  obtain ⟨v0, ev0, _⟩ := h.val i _ q0
  refine ⟨v0, ev0, hy E _ _ q1 A σ Hi H Fs h _ fun y Hi1 H1 Fs1 G r h1 dd s => ?_⟩
  obtain ⟨v2, ev2, rt⟩ := h1.val i _ q2
  generalize hF : Fs1 i = F at rt
  rw [ev0] at ev2
  cases ev2
  cases rt with
  | @dik a o xs _ g1 g3 =>
    have hg := kv_get (k := key) g3
    rw [q4] at hg
    obtain ⟨v, ev, hv⟩ := hg
    obtain ⟨hd, rfl⟩ := r.imm_inv
    have hk := keyD_kV q3 hd
    subst hk
    refine ⟨a, v, rfl, .inl ⟨xs, key, .inr ⟨o, h1.sub _ _ g1⟩, rfl, ?_⟩, k v Hi1 H1 Fs1 [] (.imm hv) h1 (fun _ z => nomatch z) s⟩
    exact ev.symm
def rngDn (a b : Int) : List PyData := (List.range (a - b).toNat).map fun i => PyData.int (a - (i : Nat))
def mRng3 (ms : MA) : MI := fun E => (ms E).bind fun p => (views p.2 p.1).bind fun ts => match ts with
  | [.imm (.int a), .imm (.int b), .imm (.int c)] => if c = -1 ∧ rngOk a = true ∧ rngOk b = true then some (rngDn a b, p.2) else none
  | _ => none
theorem rngOk_iff {a : Int} (h : rngOk a = true) : -(2 ^ 62) ≤ a ∧ a < 2 ^ 62 := by
  unfold rngOk at h
  rw [Bool.and_eq_true, decide_eq_true_eq, decide_eq_true_eq] at h
  exact h
theorem ir_rng3 {ta : TA} {ms : MA} (hm : AR K ta ms) : IR K (iRng3 ta) (mRng3 ms) := fun E ds E' q A σ Hi H Fs h R k => by
  unfold mRng3 at q
  obtain ⟨⟨os, E1⟩, q1, q⟩ := Option.bind_eq_some_iff.mp q
  obtain ⟨ts, q2, q⟩ := Option.bind_eq_some_iff.mp q
  refine hm E os E1 q1 A σ Hi H Fs h _ fun vs Hi1 H1 Fs1 G r h1 dd s => ?_
  have rv := h1.views r q2
  split at q
  case h_2 => cases q
  split at q
  case isFalse => cases q
  rename_i a b c hc
  obtain ⟨rfl, ha, hb⟩ := hc
  cases q
  cases rv with
  | cons r1 rv =>
    cases rv with
    | cons r2 rv =>
      cases rv with
      | cons r3 rv =>
        cases rv
        obtain ⟨rfl, _⟩ := r1.int_inv
        obtain ⟨rfl, _⟩ := r2.int_inv
        obtain ⟨rfl, _⟩ := r3.int_inv
        obtain ⟨a1, a2⟩ := rngOk_iff ha
        obtain ⟨b1, b2⟩ := rngOk_iff hb
        refine ⟨a, b, -1, (a - b).toNat, rfl, RgC.neg a1 a2 b1 b2, k _ Hi1 H1 Fs1 ⟨fun Hi2 H2 s1 s2 j hj => ?_, fun Hi2 H2 s1 s2 j hj => ?_, fun Hi2 H2 s1 s2 j d x H' hd y => ?_⟩ h1 (s.weak fun x z => .inl z)⟩
        · unfold rngDn at hj
          rw [List.length_map, List.length_range] at hj
          exact hj
        · unfold rngDn at hj
          rw [List.length_map, List.length_range] at hj
          exact hj
        · obtain ⟨rfl, rfl⟩ := y
          have hj : j < (a - b).toNat := by
            have := (List.getElem?_eq_some_iff.mp hd).1
            unfold rngDn at this
            rwa [List.length_map, List.length_range] at this
          unfold rngDn at hd
          rw [List.getElem?_map, List.getElem?_range hj] at hd
          cases hd
          refine ⟨Hi2, Grow.refl s2, ?_⟩
          have : a + (j : Nat) * (-1 : Int) = a - (j : Nat) := by omega
          rw [this]
          exact .int _
end
end FL
namespace FL
open PySem L2
open Classical in
noncomputable def getP (φ : List (Str × PyData) → Prop) (n : Str) : Option PyData := if h : ∃ d, ∀ ds, φ ds → ds.lookup n = some d then some (choose h) else none
noncomputable def fldT (cn f : Str) : Tr → Option PyData
  | .obj c φ _ _ => if c = cn then getP φ f else none
  | .box c ds _ _ => if c = cn then ds.lookup f else none
  | _ => none
section
variable {K : PySem.W.Frag} {Wx : L2.WX} {A : List V} {Hi H Hi1 H1 Hi' H' : Hp} {σ : L2.St} {E : En} {Fs : Nat → List Addr}
noncomputable def mFld (cn f : Str) (i : Nat) : MF := fun E => (at? E i).bind fun t => (fldT cn f t).bind fun d => some (.imm d, E)
structure Opn (K : PySem.W.Frag) (Hi H : Hp) (v : V) (c : Tr → Tr) (w : V) (t : Tr) (F G : List Addr) : Prop where
  sub : ∀ a ∈ G, a ∈ F
  inn : RepT K Hi H w t G
  back : ∀ Hi' H' t' G', Same Hi Hi' → (∀ a ∈ F, a ∉ G → H' a = H a ∧ Hi' a = none) → RepT K Hi' H' w t' G' → (∀ a ∈ G', a ∈ G ∨ a ∉ F) → ∃ F', RepT K Hi' H' v (c t') F' ∧ ∀ a ∈ F', (a ∈ F ∧ a ∉ G) ∨ a ∈ G'
def gC (d : PyData) : En → Option PyData := fun _ => some d
def gTup (ms : En → Option (List PyData)) : En → Option PyData := fun E => (ms E).bind fun ds => if ds.length ≤ 1000 then some (.tuple ds) else none
def rIxP (K : PySem.W.Frag) : V → V → Hp → VK → Prop := fun x y H Q => ∃ p xs i v, x = .ref p ∧ y = .int i ∧ 0 ≤ i ∧ SqL K H p xs ∧ atI xs i = some v ∧ Q v H
theorem get_list {X : Cx} : PGet X (rIxP X.K) := by
  rintro pins s σ H x y ov iv Q I rx ry ⟨p, xs, i, z, rfl, rfl, h0, hq, he, q⟩
  have eo : ov = Value.ref p := rx
  subst eo
  obtain ⟨t, rfl⟩ := ry
  obtain ⟨its, r, pl, hz⟩ := I.list hq
  obtain ⟨j, h1, h2, h3, h4, h5⟩ := atI_get he
  obtain ⟨w, ew, rw'⟩ := r.get h2
  have hl := r.length
  have hn := line63
  have hj : i.toNat = j := by
    rw [seqIndex_of h0 h5] at h1
    exact Option.some.inj h1
  exact wpAny_getItem_list pl.isList h0 (by omega) (by rw [hj]; simpa using ew) ⟨z, H, I, rw', q⟩
def isLst : Tr → Bool
  | .lst _ => true
  | _ => false
def mAugS (i : Nat) (fi : En → Option Int) (f : Tr → Tr → Option Tr) (me : MR) : MS := fun E => (fi E).bind fun k => (at? E i).bind fun t0 => (if 0 ≤ k ∧ isLst t0 = true then ixAt t0 k else none).bind fun x => (me E).bind fun p => (view p.2 p.1).bind fun u => (f (.imm (.int x)) u).bind fun w => (p.2[i]?).bind fun s => s.tree.bind fun t => (fSetA t (.imm (.int k)) w).bind fun t' => some (.nx (p.2.set i (s.with t')))
theorem sr_augS {i : Nat} {ti te : TE} {fi : En → Option Int} {tip : TIp} {f : Tr → Tr → Option Tr} {me : MR} (hi : PR K ti fi) (he : ER K te me) (hp : IpT K tip f) : SR K Wx (tAugS (tVar i) ti te (rIxP K) tip rSetA) (mAugS i fi f me) := fun E out q A σ Hi H Fs D h go => by
  unfold mAugS at q
  obtain ⟨k, q1, q⟩ := Option.bind_eq_some_iff.mp q
  obtain ⟨t0, q2, q⟩ := Option.bind_eq_some_iff.mp q
  obtain ⟨x, q3, q⟩ := Option.bind_eq_some_iff.mp q
  obtain ⟨⟨o, E1⟩, q4, q⟩ := Option.bind_eq_some_iff.mp q
  obtain ⟨u, q5, q⟩ := Option.bind_eq_some_iff.mp q
  obtain ⟨w, q6, q⟩ := Option.bind_eq_some_iff.mp q
  obtain ⟨s, q7, q⟩ := Option.bind_eq_some_iff.mp q
  obtain ⟨t, q8, q⟩ := Option.bind_eq_some_iff.mp q
  obtain ⟨t', q9, q⟩ := Option.bind_eq_some_iff.mp q
  cases q
  dsimp only at q7
  obtain ⟨v, ev, _⟩ := h.val i t0 q2
  refine ⟨v, ev, hi E k q1 A σ Hi H Fs h _ fun Hi1 H1 g1 => ?_⟩
  have h1 := h.grow g1
  obtain ⟨v1, ev1, r1⟩ := h1.val i t0 q2
  rw [ev] at ev1
  cases ev1
  split at q3
  case isFalse => cases q3
  rename_i hk
  obtain ⟨ts, rfl⟩ : ∃ ts, t0 = .lst ts := by
    cases t0 with
    | lst ts => exact ⟨ts, rfl⟩
    | _ => cases hk.2
  have hrd : ∃ p xs, v = .ref p ∧ SqL K H1 p xs ∧ atI xs k = some (.int x) := by
    have q3' : (atI ts k).bind iOf = some x := q3
    obtain ⟨d, e1, e2⟩ := Option.bind_eq_some_iff.mp q3'
    have e3 := iOf_inv e2
    cases e3
    generalize hF : Fs i = F at r1
    cases r1 with
    | @lst a vs _ F1 g1 g2 g3 g4 =>
      obtain ⟨j, v, j1, j2, j3, j4⟩ := atI_len (xs := vs) g3.length e1
      obtain ⟨v', G, e4, hv, _⟩ := g3.get j2
      rw [j3] at e4
      cases e4
      obtain ⟨e5, _⟩ := hv.int_inv
      cases e5
      exact ⟨a, vs, rfl, SqL.of g1, j4⟩
  obtain ⟨p, xs, rfl, hsq, hat⟩ := hrd
  refine ⟨p, xs, k, _, rfl, rfl, hk.1, hsq, hat, ?_⟩
  refine he E o E1 q4 A σ Hi1 H1 Fs h1 _ fun y Hi2 H2 Fs2 G r2 h2 d2 s2 => ?_
  obtain ⟨F2, ru⟩ := h2.view r2 q5
  refine hp _ u w q6 Hi2 H2 (.int x) y [] F2 h2.sub (.imm (.int x)) ru _ fun z Hi3 H3 W rw_ g3 => ?_
  have h3 := h2.grow g3
  have f3 := h2.fresh g3
  have qa : at? E1 i = some t := by unfold at?; rw [q7]; exact q8
  obtain ⟨v3, ev3, rt⟩ := h3.val i t qa
  rw [ev] at ev3
  cases ev3
  refine set_tree t _ w t' q9 Hi3 H3 (.ref p) (.int k) z (Fs2 i) [] W h3.sub rt (.imm (.int k)) rw_ (fun a ha hb => f3 a hb ⟨i, ha⟩) _ fun H4 F' r4 sb fr sub => ?_
  obtain ⟨h4, _, s4⟩ := mut_done (H' := H4) (w := .imm .none) (v := .non) (W := []) h3 q7 q8 ev f3 (fun a ha => (rw_.ownG a ha).2) r4 (.imm .non) (fun a _ z => nomatch z) (fun a ha => ha.elim (sb a) fun z => nomatch z) fr sub
  have st1 : Step Hi H (InE Fs) Hi1 H1 (InE Fs) := (g1.step _).weak fun b z => .inl z
  have st2 : Step Hi H (InE Fs) Hi2 H2 (InE Fs2) := st1.trans (s2.weak fun b z => .inl z)
  exact go σ Hi3 H4 _ h4 (st2.trans ((g3.step _).trans (s4.weak fun b z => .inl z)))
end
end FL
namespace FL
open PySem PySem.Spec PyProof.Rows L2
section
variable {K : PySem.W.Frag} {Wx : L2.WX} {A : List V} {Hi H Hi1 H1 Hi2 H2 Hi' H' : Hp} {σ : L2.St} {E E1 : En} {Fs Fs1 : Nat → List Addr}
def recvOk (cn mt : Str) : Tr → Prop
  | .obj c φ ns _ => c = cn ∧ (∀ ds, φ ds → ds.lookup mt = none) ∧ mt ∉ ns
  | .box c ds f _ => c = cn ∧ ds.lookup mt = none ∧ mt ≠ f
  | _ => False
open Classical in
noncomputable def mMeth (cn mt : Str) (n : Nat) (m : MFn) (mr : MR) (ma : MA) : MF := fun E => (mr E).bind fun p => (viewR p.2 p.1).bind fun t => if recvOk cn mt t then mCall n m (arCons mr ma) E else none
theorem RepRs.more {w : V} : ∀ {vs : List V} {os : List Rf} {G : List Addr}, RepRs K Hi H σ vs os G → RepRs K Hi H (σ ++ [some w]) vs os G
  | _, _, _, .nil => .nil
  | _, _, _, .cons r rs d => .cons (by
      cases r with
      | slot e => exact .slot (by rw [List.getElem?_append_left (List.getElem?_eq_some_iff.mp e).1]; exact e)
      | own rt => exact .own rt) (RepRs.more rs) d
end
end FL
namespace FL
open PySem L2
section
variable {E E1 : En} {cn cn2 f f' g mt c : Str} {φ : List (Str × PyData) → Prop} {ns : List Str} {ts : List Tr} {bd : List (Str × PyData)} {t u : Tr} {i n : Nat} {m : MFn} {mr : MR} {ma as : MA}
theorem q34 : isOwn (.obj c φ ns ts) = true := rfl
theorem q35 : isOwn (.box c bd f t) = true := rfl
theorem q36 : Tr.plain (.obj c φ ns ts) = .obj c φ ns ts := rfl
theorem q37 : Tr.plain (.box c bd f t) = .box c bd f t := rfl
theorem q38 : mFld cn f i E = (at? E i).bind fun t => (fldT cn f t).bind fun d => some (.imm d, E) := rfl
open Classical in
theorem q39 : mMeth cn mt n m mr ma E = (mr E).bind fun p => (viewR p.2 p.1).bind fun t => if recvOk cn mt t then mCall n m (arCons mr ma) E else none := rfl
def rng3D (ts : List Tr) (E : En) : Option (List PyData × En) := match ts with
  | [.imm (.int a), .imm (.int b), .imm (.int c)] => if c = -1 ∧ rngOk a = true ∧ rngOk b = true then some (rngDn a b, E) else none
  | _ => none
theorem v_rng3 : mRng3 as E = (as E).bind fun p => (views p.2 p.1).bind fun ts => rng3D ts p.2 := Eq.trans rfl rfl
theorem v_rg3 {a b : Int} (h : rngOk a = true) (k : rngOk b = true) : rng3D [.imm (.int a), .imm (.int b), .imm (.int (-1))] E = some (rngDn a b, E) := if_pos ⟨rfl, h, k⟩
end
end FL
namespace FL
open PySem PySem.Spec PyProof.Rows L2
theorem places_rev (n : Nat) : Builtin.Slice.slicePlaces ((n : Int) - 1) (-1) (-1) = n := by
  unfold Builtin.Slice.slicePlaces
  have h1 : ¬ ((-1 : Int) > 0) := by decide
  have h2 : -(-1 : Int) = 1 := by decide
  simp only [h1, if_false, h2, Int.ediv_one]
  split <;> omega
theorem fm_congr {α β : Type} {f g : α → Option β} : ∀ l : List α, (∀ m ∈ l, f m = g m) → l.filterMap f = l.filterMap g
  | [], _ => rfl
  | a :: l, h => by rw [List.filterMap_cons, List.filterMap_cons, h a List.mem_cons_self, fm_congr l fun m hm => h m (List.mem_cons_of_mem _ hm)]
theorem pick_rev (xs : Array Value) : ((List.range xs.size).filterMap fun (m : Nat) => xs[((xs.size : Int) - 1 + (m : Int) * -1).toNat]?).toArray = xs.toList.reverse.toArray := by
  congr 1
  have e : ∀ m ∈ List.range xs.size, (fun (m : Nat) => xs[((xs.size : Int) - 1 + (m : Int) * -1).toNat]?) m = ((fun k => xs[k]?) ∘ fun m => xs.size - 1 - m) m := fun m hm => by
    have hm2 := List.mem_range.mp hm
    show xs[((xs.size : Int) - 1 + (m : Int) * -1).toNat]? = xs[xs.size - 1 - m]?
    rw [show ((xs.size : Int) - 1 + (m : Int) * -1).toNat = xs.size - 1 - m by omega]
  rw [fm_congr _ e, ← List.filterMap_map]
  have hr : ∀ n : Nat, (List.range n).map (fun m => n - 1 - m) = (List.range n).reverse := fun n => by
    refine List.ext_getElem? fun i => ?_
    by_cases hi : i < n
    · rw [List.getElem?_reverse (by simpa using hi), List.getElem?_map, List.getElem?_range hi, List.length_range, List.getElem?_range (by omega)]; rfl
    · rw [List.getElem?_eq_none (by simp; omega), List.getElem?_eq_none (by simp; omega)]
  rw [hr, List.filterMap_reverse, PySem.W.krv_all]
section
variable {prog : Program} {w : World} {A : Around} {E : Value → Shared → Prop} {s : Shared}
theorem applied_rev {sl : Addr} {vl vu vs : Value} {n : Nat} {Q : Int × Int × Nat → Shared → Prop} (hs : s.heap.IsSliceOf sl vl vu vs) (pl : IsPart vl none) (pu : IsPart vu none) (ps : IsPart vs (some (-1))) (h : Q ((n : Int) - 1, -1, n) s) :
    wpAny (model prog w) A (Builtin.Slice.sliceApplied (.ref sl) (pure (n : Int))) Q E s := by
  obtain ⟨ob, go, gc, gd⟩ := id hs
  unfold Builtin.Slice.sliceApplied
  unfold Builtin.Slice.sliceFields
  refine wpAny_bind (wpAny_bind (wpAny_field go gd (x := vl) rfl ?_))
  refine wpAny_bind (wpAny_field go gd (x := vu) rfl ?_)
  refine wpAny_bind (wpAny_field go gd (x := vs) rfl (wpAny_pure ?_))
  refine wpAny_bind (HT.slicePart_ ps ?_)
  show wpAny _ _ (if ((-1 : Int) == 0) = true then _ else _) _ _ s
  rw [if_neg (by decide)]
  refine wpAny_bind (HT.slicePart_ pl ?_)
  refine wpAny_bind (HT.slicePart_ pu (wpAny_bind (wpAny_pure ?_)))
  show wpAny _ _ (pure ((n : Int) - 1, (-1 : Int), Builtin.Slice.slicePlaces ((n : Int) - 1) (-1) (-1))) _ _ s
  rw [places_rev]
  exact wpAny_pure h
theorem getItem_rev {t sl : Addr} {items : Array Value} {vl vu vs : Value} {Q : Value → Shared → Prop} (ht : IsTup s.heap t items) (hs : s.heap.IsSliceOf sl vl vu vs) (pl : IsPart vl none) (pu : IsPart vu none) (ps : IsPart vs (some (-1)))
    (h : Q (.ref s.heap.objs.size) { s with heap := s.heap.push { cls := .type "tuple", data := .seq items.toList.reverse.toArray } }) (hz : items.size ≤ sizeLine) : wpAny (model prog w) A (getItem (.ref t) (.ref sl)) Q E s := by
  have fits : sizeOk (.seq items.toList.reverse.toArray) := by
    show items.toList.reverse.toArray.size ≤ sizeLine
    simpa using hz
  obtain ⟨ob, go, gc, gd⟩ := id hs
  have tS : s.TypeIs (.ref sl) "slice" := ⟨ob, go, gc⟩
  unfold getItem
  try with_reducible refine wpAny_holding ?_
  first
    | refine wpAny_bind (wpAny_pure ?_)
    | skip
  refine wpAny_bind (wpAny_sequenceKey ht.typeIs (by decide) ?_)
  refine wpAny_bind ?_
  refine wpAny_callSpecial?_slot (name := Str.ofString "__getitem__") ht.typeIs slot_tuple_getitem ?_
  refine wpAny_call_entry slot_tuple_getitem ht.typeIs entry_tuple_getitem ?_ (args_tuple_getitem _ _)
  show wpAny _ _ (Builtin.Tuple.tupleItemsOf (.ref t) >>= _) _ _ s
  refine wpAny_bind (tupleItemsOf_ ht ?_)
  refine wpAny_bind (wpAny_typeOf tS ?_)
  rw [if_pos (by decide)]
  refine wpAny_bind (applied_rev hs pl pu ps ?_)
  have no : ¬ ((((items.size : Int) - 1) == 0 && (-1 : Int) == 1 && items.size == items.size) = true) := by
    rw [show ((-1 : Int) == 1) = false from rfl, Bool.and_false, Bool.false_and]
    exact Bool.false_ne_true
  show wpAny _ _ (if (((items.size : Int) - 1) == 0 && (-1 : Int) == 1 && items.size == items.size) = true then _ else _) _ _ s
  rw [if_neg no, pick_rev]
  first
    | exact wpAny_bind (m := Builtin.Tuple.tupleExact _) (wpAny_newObj_type (wpAny_pure ⟨_, rfl, wpAny_pure h⟩) fits)
    | exact wpAny_bind (m := Builtin.Tuple.tupleExact _) (wpAny_newObj_type (wpAny_bind (wpAny_pure (wpAny_pure ⟨_, rfl, wpAny_pure h⟩))) fits)
    | exact wpAny_bind (wpAny_bind (m := Builtin.Tuple.tupleExact _) (wpAny_newObj_type (wpAny_pure (wpAny_pure ⟨_, rfl, wpAny_pure h⟩)) fits))
    | exact wpAny_bind (wpAny_bind (m := Builtin.Tuple.tupleExact _) (wpAny_newObj_type (wpAny_pure ⟨_, rfl, wpAny_pure h⟩) fits))
end
def tRevT (K : PySem.W.Frag) (te : TE) : TE := fun σ H Q => te σ H fun x H1 => ∃ a xs, (x = .ref a ∧ SqT K H1 a xs) ∧ ∀ T, H1 T = none → Q (.ref T) (upd H1 T (.tup xs.reverse))
theorem pe_revSl {X : Cx} {e : Expr} {te : TE} {k : Nat} {p1 p2 p3 pos : Pos} (he : PE X e te) : PE X (.Subscript e (.Slice none none (some (.UnaryOp .USub (.Constant (.int 1) k p1) p2)) p3) pos) (tRevT X.K te) := by
  constructor
  intro pins s σ H Q I h
  refine Subscript_ (thn (he.run pins s σ H _ I h) fun v s1 ⟨x, H1, I1, r1, a, xs, ⟨ex, hx⟩, q⟩ => ?_)
  subst ex
  obtain rfl : v = Value.ref a := r1
  have st : PO X (some (.UnaryOp .USub (.Constant (.int 1) k p1) p2)) (tPart (tUn (rU fun i => .int (-i)) (tC (.int 1)))) := po_some (pe_un un_neg pe_int)
  refine wpAny_Slice ?_
  refine thn (po_none.run pins s1 σ H1 (fun o H2 => o = none ∧ H2 = H1) I1 ⟨rfl, rfl⟩) fun vl s2 ⟨l, H2, I2, pl, el, e2⟩ => ?_
  subst el e2
  refine thn (po_none.run pins s2 σ H2 (fun o H3 => o = none ∧ H3 = H2) I2 ⟨rfl, rfl⟩) fun vu s3 ⟨u, H3, I3, pu, eu, e3⟩ => ?_
  subst eu e3
  refine thn (st.run pins s3 σ H3 (fun o H4 => o = some (-1) ∧ H4 = H3) I3 ⟨1, rfl, -1, rfl, rfl, rfl⟩) fun vs s4 ⟨o, H4, I4, ps, eo, e4⟩ => ?_
  subst eo e4
  have J : Inv X pins σ H4 { s4 with heap := s4.heap.push { cls := .type "slice", data := .fields #[vl, vu, vs] } } := I4.kept (t' := s4.toks) fun b ob y => Heap.get?_push_of_some _ y
  obtain ⟨its, r, tt, tz⟩ := J.tuple hx
  have hlen := r.length
  have tt2 : IsTup (s4.heap.push { cls := .type "slice", data := .fields #[vl, vu, vs] }) a its.toArray := tt
  refine tail_any (ops := [.ref a, .ref s4.heap.objs.size]) tt2.typeIs (slot_tuple_getitem.lookup) ?_ (by with_unfolding_all rfl)
  refine getItem_rev tt2 (Heap.IsSliceOf.new _ vl vu vs) pl pu ps ?_ (by rw [List.size_toArray]; omega)
  refine ⟨.ref _, _, J.laid (t' := s4.toks) (o := .tup xs.reverse) (fun b ob y => Heap.get?_push_of_some _ y) (Nat.le_refl _) ?_, rfl, q _ (J.hok.fresh (Nat.le_refl _))⟩
  refine ⟨by rw [List.length_reverse]; omega, _, r.reverse, ?_⟩
  exact ⟨_, Heap.get?_push_size _ rfl, rfl, _, rfl⟩
section
variable {K : PySem.W.Frag} {A : List V} {Hi H Hi1 H1 : Hp} {σ : L2.St} {E E1 : En} {Fs Fs1 : Nat → List Addr}
def mRevSl (m : MF) : MF := fun E => (m E).bind fun p => match p.1 with
  | .imm (.tuple ds) => some (.imm (.tuple ds.reverse), p.2)
  | _ => none
theorem fr_revSl {te : TE} {m : MF} (hm : FR K te m) : FR K (tRevT K te) (mRevSl m) := fun E t E' q A σ Hi H Fs h Q k => by
  unfold mRevSl at q
  obtain ⟨⟨t1, E1⟩, q1, q⟩ := Option.bind_eq_some_iff.mp q
  refine hm E t1 E1 q1 A σ Hi H Fs h _ fun v Hi1 H1 Fs1 G r h1 dd s => ?_
  dsimp only at q
  split at q
  case h_2 => cases q
  rename_i ds
  cases q
  obtain ⟨hd, rfl⟩ := r.imm_inv
  cases hd with
  | tup s1 a1 =>
    rename_i a xs
    refine ⟨_, _, ⟨rfl, seqT h1.sub s1⟩, fun T hT => ?_⟩
    have g : Grow Hi1 H1 (upd Hi1 T (.tup xs.reverse)) (upd H1 T (.tup xs.reverse)) [] := Grow.imm h1.sub hT
    have a2 := dpAll_rev a1
    exact k (.ref T) _ _ Fs1 [] (.imm (.tup (SqT.of upd_same) (dpMonos g.ex _ _ a2))) (h1.grow g) (fun _ z => nomatch z) (s.trans ((g.step _).weak fun b z => .inl z))
end
end FL
namespace FL
open PySem PySem.Spec PyProof.Rows L2
structure FSt where
  bits : Nat
  scale : Int
  low : Int
  high : Int
  steps : List (Int × Int)
deriving DecidableEq
def valF (top scale : Int) (s : Int × Int) (number : Int) : Int × Int := (s.1 * top + number * s.2, s.2 * scale)
end FL
namespace FL
open PySem L2 PySem.Spec PyProof.Rows
section
variable {X : Cx} {pins : List (Addr × Obj)} {σ : L2.St} {H : Hp} {s : Shared}
mutual
theorem dp_key (I : Inv X pins σ H s) : ∀ (k : NestedKey) (v : V) (u : Value), noTx k = true → Dp X.K H v k.data → RelV v u → NestedIs s.heap k u
  | .none, v, u, _, h, r => by
    rw [NestedKey.data] at h
    cases h
    have e : u = Value.none := r
    subst e
    exact .none
  | .num i, v, u, _, h, r => by
    rw [NestedKey.data] at h
    cases h
    obtain ⟨t, rfl⟩ := r
    exact .int i t
  | .text _, _, _, n, _, _ => by rw [noTx] at n; cases n
  | .tup ks, v, u, n, h, r => by
    rw [noTx] at n
    rw [NestedKey.data] at h
    cases h with
    | tup hs ha =>
      have e : u = Value.ref _ := r
      subst e
      obtain ⟨its, rv, ⟨o, ho, hc, m, hd⟩, _⟩ := I.tuple hs
      exact .tup ho hc hd (by simpa using dp_keys I ks _ _ n ha rv)
theorem dp_keys (I : Inv X pins σ H s) : ∀ (ks : List NestedKey) (vs : List V) (us : List Value), noTxs ks = true → DpAll X.K H vs (NestedKey.datas ks) → Vals vs us → NestedAll s.heap ks us
  | [], vs, us, _, h, r => by
    rw [NestedKey.datas] at h
    cases h
    cases r
    exact .nil
  | k :: ks, vs, us, n, h, r => by
    rw [noTxs, Bool.and_eq_true] at n
    rw [NestedKey.datas] at h
    cases h with
    | cons h1 h2 =>
      cases r with
      | cons r1 r2 => exact .cons (dp_key I k _ _ n.1 h1 r1) (dp_keys I ks _ _ n.2 h2 r2)
end
end
end FL
namespace FL
open PySem PySem.SeqAt PyProof.Rows PySem.W L2 PySem.Spec
section
variable {X : Cx} {pins : List (Addr × Obj)} {σ : L2.St} {H : Hp} {s : Shared}
mutual
theorem depth_data : ∀ k : NestedKey, k.data.depth = k.depth
  | .none => by rw [NestedKey.data, PyData.depth, NestedKey.depth]
  | .num _ => by rw [NestedKey.data, PyData.depth, NestedKey.depth]
  | .text _ => by rw [NestedKey.data, PyData.depth, NestedKey.depth]
  | .tup ks => by rw [NestedKey.data, PyData.depth, NestedKey.depth, depth_datas ks]
theorem depth_datas : ∀ ks : List NestedKey, PyData.depthAll (NestedKey.datas ks) = NestedKey.depthAll ks
  | [] => by rw [NestedKey.datas, PyData.depthAll, NestedKey.depthAll]
  | k :: ks => by rw [NestedKey.datas, PyData.depthAll, NestedKey.depthAll, depth_datas ks, depth_data k]
end
end
end FL
namespace FL
open PySem PySem.SeqAt PyProof.Rows PySem.W L2 PySem.Spec
mutual
def nkD : PyData → Option NestedKey
  | .none => some .none
  | .int i => some (.num i)
  | .tuple ds => (nkDs ds).map .tup
  | .bool _ => none
  | .str _ => none
  | .list _ => none
  | .dict _ => none
def nkDs : List PyData → Option (List NestedKey)
  | [] => some []
  | d :: ds => (nkD d).bind fun k => (nkDs ds).map (k :: ·)
end
mutual
theorem nkD_ok : ∀ (d : PyData) (k : NestedKey), nkD d = some k → k.data = d ∧ noTx k = true
  | .none, _, h => by rw [nkD] at h; cases h; exact ⟨by rw [NestedKey.data], by rw [noTx]⟩
  | .int i, _, h => by rw [nkD] at h; cases h; exact ⟨by rw [NestedKey.data], by rw [noTx]⟩
  | .tuple ds, _, h => by
    rw [nkD] at h
    obtain ⟨ks, q, rfl⟩ := Option.map_eq_some_iff.mp h
    obtain ⟨h1, h2⟩ := nkDs_ok ds ks q
    exact ⟨by rw [NestedKey.data, h1], by rw [noTx]; exact h2⟩
  | .bool _, _, h => by rw [nkD] at h; cases h
  | .str _, _, h => by rw [nkD] at h; cases h
  | .list _, _, h => by rw [nkD] at h; cases h
  | .dict _, _, h => by rw [nkD] at h; cases h
theorem nkDs_ok : ∀ (ds : List PyData) (ks : List NestedKey), nkDs ds = some ks → NestedKey.datas ks = ds ∧ noTxs ks = true
  | [], _, h => by rw [nkDs] at h; cases h; exact ⟨by rw [NestedKey.datas], by rw [noTxs]⟩
  | d :: ds, _, h => by
    rw [nkDs] at h
    obtain ⟨k, q1, q⟩ := Option.bind_eq_some_iff.mp h
    obtain ⟨ks, q2, rfl⟩ := Option.map_eq_some_iff.mp q
    obtain ⟨a1, a2⟩ := nkD_ok d k q1
    obtain ⟨b1, b2⟩ := nkDs_ok ds ks q2
    exact ⟨by rw [NestedKey.datas, a1, b1], by rw [noTxs, a2, b2]; rfl⟩
end
def keyQ (d : PyData) : Option NestedKey := (nkD d).bind fun k => if keyNB k = true then some k else none
def getQ (ds : List (NestedKey × PyData)) (k : NestedKey) : Option PyData := (ds.find? fun x => decide (x.1 = k)).map (·.2)
section
variable {K : PySem.W.Frag} {Wx : L2.WX} {A : List V} {Hi H Hi1 H1 Hi' H' : Hp} {σ : L2.St} {E : En} {Fs : Nat → List Addr} {te tk tv td : TE}
def fLenN : List Tr → Option Tr
  | [.dit ds] => some (.imm (.int ((ds.length : Nat) : Int)))
  | _ => none
def fListN : List Tr → Option Tr
  | [.dit ds] => some (.lst ((ds.map fun x => x.1.data).map Tr.imm))
  | _ => none
def mDispN (mk mv : MF) : MF := fun E => (mk E).bind fun p => (mv p.2).bind fun r => match p.1, r.1 with
  | .imm kd, .imm d => (keyQ kd).bind fun k => some (.dit [(k, d)], r.2)
  | _, _ => none
end
end FL
namespace FL
open PySem PySem.SeqAt PyProof.Rows PySem.W L2 PySem.Spec
section
variable {K : PySem.W.Frag} {Wx : L2.WX} {A : List V} {Hi H Hi1 H1 Hi' H' : Hp} {σ : L2.St} {E : En} {Fs : Nat → List Addr} {te tk tv td ty tx : TE}
def valsQ : Tr → En → Option (Tr × En)
  | .dit ds, E => some (.lst ((ds.map (·.2)).map Tr.imm), E)
  | _, _ => none
def mListValsN (md : MR) : MF := fun E => (md E).bind fun q => (view q.2 q.1).bind fun t => valsQ t q.2
def isDit : Tr → Bool
  | .dit _ => true
  | _ => false
def sdefT : Tr → Tr → Tr → Option (Tr × Tr)
  | .dit ds, .imm kd, .imm d => (keyQ kd).bind fun k => if ds.length < 16777216 then some (match getQ ds k with | some u => (.imm u, .dit ds) | none => (.imm d, .dit (ds ++ [(k, d)]))) else none
  | _, _, _ => none
def mSdefN (i : Nat) (my mx : MF) : MF := fun E => (at? E i).bind fun t0 => if isDit t0 = true then (my E).bind fun p => (mx p.2).bind fun r => (r.2[i]?).bind fun s => s.tree.bind fun t => (sdefT t p.1 r.1).bind fun z => some (z.1, r.2.set i (s.with z.2)) else none
end
section
variable {E : En} {i : Nat} {m my mx : MF} {md : MR}
theorem q3a {ds : List (NestedKey × PyData)} : Tr.plain (.dit ds) = .dit ds := rfl
def dispQ : Tr → Tr → En → Option (Tr × En)
  | .imm kd, .imm d, E => (keyQ kd).bind fun k => some (.dit [(k, d)], E)
  | _, _, _ => none
theorem q3b : mDispN my mx E = (my E).bind fun p => (mx p.2).bind fun r => dispQ p.1 r.1 r.2 := by
  unfold mDispN
  cases my E with
  | none => rfl
  | some p =>
    rcases p with ⟨t1, E1⟩
    simp only [Option.bind_some]
    cases mx E1 with
    | none => rfl
    | some r =>
      rcases r with ⟨t2, E2⟩
      cases t1 <;> cases t2 <;> rfl
theorem q3c {kd d : PyData} : dispQ (.imm kd) (.imm d) E = (keyQ kd).bind fun k => some (.dit [(k, d)], E) := rfl
theorem q3d : mListValsN md E = (md E).bind fun q => (view q.2 q.1).bind fun t => valsQ t q.2 := rfl
theorem q3e {ds : List (NestedKey × PyData)} : valsQ (.dit ds) E = some (.lst ((ds.map (·.2)).map Tr.imm), E) := rfl
theorem q3f : mSdefN i my mx E = (at? E i).bind fun t0 => if isDit t0 = true then (my E).bind fun p => (mx p.2).bind fun r => (r.2[i]?).bind fun s => s.tree.bind fun t => (sdefT t p.1 r.1).bind fun z => some (z.1, r.2.set i (s.with z.2)) else none := rfl
theorem q3g {ds : List (NestedKey × PyData)} : isDit (.dit ds) = true := rfl
theorem q3h {ds : List (NestedKey × PyData)} : fLenN [.dit ds] = some (.imm (.int ((ds.length : Nat) : Int))) := rfl
theorem q3i {ds : List (NestedKey × PyData)} : fListN [.dit ds] = some (.lst ((ds.map fun x => x.1.data).map Tr.imm)) := rfl
end
end FL
namespace FL
open PySem PySem.SeqAt PyProof.Rows PySem.W L2 PySem.Spec
section
variable {X : Cx}
theorem truth_intsI {prog : Program} {w : World} {A : Around} {ns : List Int} {its : List Value} (e : Vals (ns.map V.int) its) :
    TruthOf prog w A (fun i v => its.toArray[i]? = some v) (fun i => (ns.getD i 0) != 0) := fun i v s Q E hv hq => by
  have hv' : its[i]? = some v := by simpa using hv
  have hi : i < ns.length := by
    have := e.length
    rw [List.length_map] at this
    have := (List.getElem?_eq_some_iff.mp hv').1
    omega
  obtain ⟨u, hu, hr⟩ := Vals.get (i := i) (x := V.int ns[i]) e (by rw [List.getElem?_map, List.getElem?_eq_getElem hi]; rfl)
  rw [hv'] at hu
  cases hu
  obtain ⟨t, rfl⟩ := hr
  have hg : ns.getD i 0 = ns[i] := by rw [List.getD_eq_getElem?_getD, List.getElem?_eq_getElem hi]; rfl
  have hq' : Q ((ns.getD i 0) != 0) s := hq
  rw [hg] at hq'
  exact PySem.P.truthy_int hq'
theorem any_rangeI : ∀ ns : List Int, (List.range ns.length).any (fun i => ns.getD i 0 != 0) = ns.any fun x => x != 0
  | [] => rfl
  | n :: ns => by
    rw [List.length_cons, List.range_succ_eq_map, List.any_cons, List.any_map, List.any_cons, ← any_rangeI ns]
    all_goals rfl
def rAnyI (K : PySem.W.Frag) : List V → Hp → VK → Prop := fun vs H Q => ∃ (a : Addr) (ns : List Int), vs = [V.ref a] ∧ SqL K H a (ns.map V.int) ∧ Q (.bl (ns.any fun x => x != 0)) H
theorem cr_anyI (hc : X.calm = true) : CallR X (.builtin "any") (rAnyI X.K) := by
  intro pins s σ H vs us Q I r h
  obtain ⟨a, ns, rfl, hs, q⟩ := h
  obtain ⟨its, rv, hl, _⟩ := I.list hs
  rw [Vals.ref1 r]
  have hlen := rv.length
  rw [List.length_map] at hlen
  refine call_any_walk (iter_any hl.isList fun s₂ e2 st hne => ?_)
  subst e2
  refine ⟨_, _, _, _, _, _, _, rfl, Walks.list (A := X.A.in1) (I.ok.hd hc) _ a hne its.toArray, st, truth_intsI rv, fun h' tk hk => ?_⟩
  refine ⟨.bl _, H, I.kept fun b o eo => hk b o (fun hmem => ?_) (Heap.get?_push_of_some _ eo), ?_, q⟩
  · rcases List.mem_cons.mp hmem with e1 | hmem
    · exact absurd (e1 ▸ Heap.lt_size eo) (Nat.lt_irrefl _)
    · cases hmem
  · show Value.bool _ = Value.bool _
    rw [← any_rangeI, List.size_toArray, hlen]
end
section
variable {K : PySem.W.Frag}
def fAnyI : List Tr → Option Tr
  | [t] => (lstD t).bind fun ds => (intsOf ds).map fun ns => .imm (.bool (ns.any fun x => x != 0))
  | _ => none
theorem c_anyI : CallT K (rAnyI K) fAnyI := fun ts w q Hi H xs sub r Q k => by
  unfold fAnyI at q
  split at q
  · obtain ⟨ds, q1, q⟩ := Option.bind_eq_some_iff.mp q
    obtain ⟨ns, q2, rfl⟩ := Option.map_eq_some_iff.mp q
    obtain ⟨x, F, rfl, rt⟩ := r.one_inv
    obtain ⟨a, vs, rfl, ha, hL⟩ := lstD_ok sub rt q1
    have e := intsOf_ok ha q2
    subst e
    exact ⟨a, ns, rfl, hL, giveB sub k⟩
  · cases q
end
end FL
namespace WK
open PySem L2 FL
def topS (i : Nat) : Stmt := PySem.Challenge.pw_mirrorkin_k08_least_polys.main.body.getD i (.Pass ⟨0, 0, 0, 0⟩)
abbrev s_shifted : Stmt := topS 1
theorem sc_shifted : FnScope ["row"] ["row"] (defScope s_shifted) := ⟨rfl, rfl, rfl, by decide +kernel, rfl, by decide +kernel, by decide +kernel⟩
abbrev s_less : Stmt := topS 2
theorem sc_less : FnScope ["one", "other", "made", "k", "number"] ["one", "other"] (defScope s_less) := ⟨rfl, rfl, rfl, by decide +kernel, rfl, by decide +kernel, by decide +kernel⟩
abbrev s_divided : Stmt := topS 5
theorem sc_divided : FnScope ["row", "by", "left", "found", "k", "j", "number"] ["row", "by"] (defScope s_divided) := ⟨rfl, rfl, rfl, by decide +kernel, rfl, by decide +kernel, by decide +kernel⟩
abbrev s__law_hand : Stmt := topS 8
theorem sc__law_hand : FnScope ["_law_script", "_law_state", "_law_far", "_law_cell", "_law_k", "_law_one"] ["_law_script"] (defScope s__law_hand) := ⟨rfl, rfl, rfl, by decide +kernel, rfl, by decide +kernel, by decide +kernel⟩
abbrev s__law_take : Stmt := topS 9
theorem sc__law_take : FnScope ["_law_state", "_law_many", "_law_digit", "_law_mixed"] ["_law_state", "_law_many"] (defScope s__law_take) := ⟨rfl, rfl, rfl, by decide +kernel, rfl, by decide +kernel, by decide +kernel⟩
abbrev s__law_near : Stmt := topS 11
theorem sc__law_near : FnScope ["_law_km", "_law_scale", "_law_low", "_law_high", "_law_half", "_law_one", "_law_other", "_law_over", "_law_turn"] ["_law_km", "_law_scale"] (defScope s__law_near) := ⟨rfl, rfl, rfl, by decide +kernel, rfl, by decide +kernel, by decide +kernel⟩
abbrev s__law_degree : Stmt := topS 12
theorem sc__law_degree : FnScope ["_law_km", "_law_found", "_law_k", "_law_one", "_law_other"] ["_law_km"] (defScope s__law_degree) := ⟨rfl, rfl, rfl, by decide +kernel, rfl, by decide +kernel, by decide +kernel⟩
abbrev s__law_rest : Stmt := topS 13
theorem sc__law_rest : FnScope ["_law_row", "_law_poly", "_law_left", "_law_last", "_law_k", "_law_at"] ["_law_row", "_law_poly"] (defScope s__law_rest) := ⟨rfl, rfl, rfl, by decide +kernel, rfl, by decide +kernel, by decide +kernel⟩
abbrev s__law_whole : Stmt := topS 14
theorem sc__law_whole : FnScope ["_law_thing"] ["_law_thing"] (defScope s__law_whole) := ⟨rfl, rfl, rfl, by decide +kernel, rfl, by decide +kernel, by decide +kernel⟩
abbrev s__law_chain : Stmt := topS 15
theorem sc__law_chain : FnScope ["_law_km", "_law_one", "_law_other", "_law_turn", "_law_ahead", "_law_behind"] ["_law_km"] (defScope s__law_chain) := ⟨rfl, rfl, rfl, by decide +kernel, rfl, by decide +kernel, by decide +kernel⟩
abbrev s__law_value : Stmt := topS 16
theorem sc__law_value : FnScope ["_law_poly", "_law_top", "_law_scale", "_law_total", "_law_far", "_law_one"] ["_law_poly", "_law_top", "_law_scale"] (defScope s__law_value) := ⟨rfl, rfl, rfl, by decide +kernel, rfl, by decide +kernel, by decide +kernel⟩
abbrev s_chain_row : Stmt := topS 3
theorem sc_chain_row : FnScope ["k", "ahead", "here", "turn"] ["k"] (defScope s_chain_row) := ⟨rfl, rfl, rfl, by decide +kernel, rfl, by decide +kernel, by decide +kernel⟩
abbrev s__law_order : Stmt := topS 10
theorem sc__law_order : FnScope ["_law_state", "_law_way"] ["_law_state"] (defScope s__law_order) := ⟨rfl, rfl, rfl, by decide +kernel, rfl, by decide +kernel, by decide +kernel⟩
abbrev s_whole_row : Stmt := topS 4
theorem sc_whole_row : FnScope ["many", "number"] ["many"] (defScope s_whole_row) := ⟨rfl, rfl, rfl, by decide +kernel, rfl, by decide +kernel, by decide +kernel⟩
abbrev s_least_poly : Stmt := topS 6
theorem sc_least_poly : FnScope ["M", "made", "part", "row", "lesser", "d"] ["M"] (defScope s_least_poly) := ⟨rfl, rfl, rfl, by decide +kernel, rfl, by decide +kernel, by decide +kernel⟩
abbrev s_law : Stmt := topS 17
theorem sc_law : FnScope ["_law_script", "_law_state", "_law_turn", "_law_km", "_law_poly", "_law_low", "_law_high", "_law_one"] ["_law_script"] (defScope s_law) := ⟨rfl, rfl, rfl, by decide +kernel, rfl, by decide +kernel, by decide +kernel⟩
noncomputable def m_shifted : MS :=
    (mRet (mOp fAdd (mER (mLst (faCons (mC (.int 0)) faNil))) (mER (mCB fList (arCons (mVar 0) arNil)))))
noncomputable def B_less_1 : MS :=
    (mAugS 2 (iAt 3) fSubI (mVar 4))
noncomputable def m_less : MS :=
    (mSeq (mAsg (mOp fAdd (mER (mCB fList (arCons (mVar 0) arNil))) (mER (mOp fMul (mER (mLst (faCons (mC (.int 0)) faNil))) (mER (mOp fSub (mER (mCB fLen (arCons (mVar 1) arNil))) (mER (mCB fLen (arCons (mVar 0) arNil)))))))) (mName 2))
    (mSeq (mFor (mEnum (mFz (mVar 1))) (mTupG 2 (gsCons (mName 3) (gsCons (mName 4) gsNil))) B_less_1)
    (mRet (mFz (mVar 2)))))
noncomputable def B_divided_1 : MS :=
    (mAugS 2 (iOp (· + ·) (iAt 4) (iAt 5)) fSubI (mER (mOp fMul (mER (mOp fIx (mVar 3) (mVar 4))) (mVar 6))))
noncomputable def B_divided_2 : MS :=
    (mSeq (mAsg (mOp fIx (mVar 2) (mER (mOp fSub (mER (mOp fAdd (mVar 4) (mER (mCB fLen (arCons (mVar 1) arNil))))) (mER (mC (.int 1)))))) (mSub 3 fSetA (mFz (mVar 4))))
    (mFor (mEnum (mFz (mVar 1))) (mTupG 2 (gsCons (mName 5) (gsCons (mName 6) gsNil))) B_divided_1))
noncomputable def m_divided : MS :=
    (mSeq (mAsg (mCB fList (arCons (mVar 0) arNil)) (mName 2))
    (mSeq (mAsg (mOp fMul (mER (mLst (faCons (mC (.int 0)) faNil))) (mER (mOp fAdd (mER (mOp fSub (mER (mCB fLen (arCons (mVar 0) arNil))) (mER (mCB fLen (arCons (mVar 1) arNil))))) (mER (mC (.int 1)))))) (mName 3))
    (mSeq (mFor (mRng3 (arCons (mER (mOp fSub (mER (mCB fLen (arCons (mVar 3) arNil))) (mER (mC (.int 1))))) (arCons (mER (mUn fNeg (mER (mC (.int 1))))) (arCons (mER (mUn fNeg (mER (mC (.int 1))))) arNil)))) (mName 4) B_divided_2)
    (mRet (mFz (mVar 3))))))
noncomputable def B__law_hand_1 : MS :=
    (mSeq (mAsg (mOp fAdd (mER (mOp fIx (mVar 1) (mER (mC (.int 0))))) (mER (mOp fMul (mER (mOp fMod (mER (mCB fAbs (arCons (mVar 3) arNil))) (mER (mOp fPow (mER (mC (.int 10))) (mER (mC (.int 60))))))) (mVar 2)))) (mSub 1 fSetA (mC (.int 0))))
    (mAsg (mOp fMul (mVar 2) (mER (mOp fPow (mER (mC (.int 10))) (mER (mC (.int 60)))))) (mName 2)))
noncomputable def B__law_hand_2 : MS :=
    (mSeq (mAsg (mOp fAdd (mER (mOp fAdd (mER (mOp fMod (mVar 3) (mER (mC (.int 2305843009213693951))))) (mER (mOp fMul (mER (mC (.int 7919))) (mVar 4))))) (mER (mC (.int 3)))) (mName 5))
    (mAsg (mOp fMod (mER (mOp fAdd (mER (mOp fMul (mER (mOp fIx (mVar 1) (mER (mC (.int 1))))) (mER (mC (.int 48271))))) (mVar 5))) (mER (mC (.int 2305843009213693951)))) (mSub 1 fSetA (mC (.int 1)))))
noncomputable def m__law_hand : MS :=
    (mSeq (mAsg (mLst (faCons (mC (.int 0)) (faCons (mC (.int 0)) (faCons (mC (.int 0)) faNil)))) (mName 1))
    (mSeq (mIfS (mAnd (mTest (mOp fGt (mER (mCB fLen (arCons (mVar 0) arNil))) (mER (mC (.int 0))))) (mTest (mOp fGe (mER (mOp fIx (mVar 0) (mER (mC (.int 0))))) (mER (mOp fPow (mER (mC (.int 10))) (mER (mC (.int 18)))))))) (mSeq (mAsg (mC (.int 1)) (mName 2))
    (mFor (mSeqI (mSl fSl (mVar 0) moNone (moSome (mC (.int 63))))) (mName 3) B__law_hand_1)) mNext)
    (mSeq (mFor (mEnum (mSl fSl (mVar 0) moNone (moSome (mC (.int 63))))) (mTupG 2 (gsCons (mName 4) (gsCons (mName 3) gsNil))) B__law_hand_2)
    (mRet (mMv 1)))))
noncomputable def m__law_take : MS :=
    (mSeq (mIfS (mTest (mOp fGt (mER (mOp fIx (mVar 0) (mER (mC (.int 0))))) (mER (mC (.int 0))))) (mSeq (mAsg (mOp fMod (mER (mOp fIx (mVar 0) (mER (mC (.int 0))))) (mVar 1)) (mName 2))
    (mSeq (mAsg (mOp fDiv (mER (mOp fIx (mVar 0) (mER (mC (.int 0))))) (mVar 1)) (mSub 0 fSetA (mC (.int 0))))
    (mRet (mFz (mVar 2))))) mNext)
    (mSeq (mAsg (mOp fAdd (mER (mOp fIx (mVar 0) (mER (mC (.int 2))))) (mER (mC (.int 1)))) (mSub 0 fSetA (mC (.int 2))))
    (mSeq (mAsg (mOp fMod (mER (mOp fMul (mER (mOp fAdd (mER (mOp fAdd (mER (mOp fIx (mVar 0) (mER (mC (.int 1))))) (mER (mOp fMul (mER (mOp fMul (mER (mC (.int 65537))) (mER (mOp fIx (mVar 0) (mER (mC (.int 2))))))) (mER (mOp fIx (mVar 0) (mER (mC (.int 2))))))))) (mER (mC (.int 11))))) (mER (mC (.int 48271))))) (mER (mC (.int 2305843009213693921)))) (mName 3))
    (mSeq (mAsg (mOp fMod (mER (mOp fMul (mVar 3) (mER (mOp fAdd (mER (mOp fMod (mVar 3) (mER (mC (.int 1000003))))) (mER (mOp fMul (mER (mC (.int 99991))) (mER (mOp fIx (mVar 0) (mER (mC (.int 2))))))))))) (mER (mC (.int 2305843009213693907)))) (mName 3))
    (mRet (mOp fMod (mER (mOp fAdd (mER (mOp fDiv (mVar 3) (mER (mC (.int 97))))) (mER (mOp fDiv (mVar 3) (mER (mC (.int 1000033))))))) (mVar 1)))))))
noncomputable def B__law_near_1 : MS :=
    (mSeq (mPar 5 6 (faCons (mFz (mVar 6)) (faCons (mOp fSub (mER (mOp fDiv (mER (mOp fMul (mVar 4) (mVar 6))) (mVar 1))) (mVar 5)) faNil)))
    (mAsg (mAndV (mFz (mVar 7)) (mOp fGt (mVar 6) (mER (mC (.int 0))))) (mName 7)))
noncomputable def B__law_near_2 : MS :=
    (mSeq (mAsg (mOp fDiv (mER (mOp fAdd (mVar 2) (mVar 3))) (mER (mC (.int 2)))) (mName 4))
    (mSeq (mPar 5 6 (faCons (mFz (mVar 1)) (faCons (mFz (mVar 4)) faNil)))
    (mSeq (mAsg (mC (.bool true)) (mName 7))
    (mSeq (mFor (mRng1 (arCons (mER (mOp fSub (mVar 0) (mER (mC (.int 2))))) arNil)) (mName 8) B__law_near_1)
    (mIfS (mTru (mVar 7)) (mAsg (mFz (mVar 4)) (mName 3)) (mAsg (mFz (mVar 4)) (mName 2)))))))
noncomputable def m__law_near : MS :=
    (mSeq (mPar 2 3 (faCons (mFz (mVar 1)) (faCons (mOp fMul (mER (mC (.int 2))) (mVar 1)) faNil)))
    (mSeq (mWhile (mTest (mOp fGt (mER (mOp fSub (mVar 3) (mVar 2))) (mER (mC (.int 1))))) B__law_near_2)
    (mRet (mTup (faCons (mOp fSub (mVar 2) (mER (mOp fPow (mER (mC (.int 10))) (mER (mC (.int 6)))))) (faCons (mOp fAdd (mVar 3) (mER (mOp fPow (mER (mC (.int 10))) (mER (mC (.int 6)))))) faNil))))))
noncomputable def B__law_degree_1 : MS :=
    (mPar 3 4 (faCons (mFz (mVar 4)) (faCons (mOp fMod (mVar 3) (mVar 4)) faNil)))
noncomputable def B__law_degree_2 : MS :=
    (mSeq (mPar 3 4 (faCons (mOp fMul (mER (mC (.int 2))) (mVar 0)) (faCons (mFz (mVar 2)) faNil)))
    (mSeq (mWhile (mTest (mOp fGt (mVar 4) (mER (mC (.int 0))))) B__law_degree_1)
    (mAsg (mOp fAdd (mVar 1) (mER (mCB fInt1 (arCons (mER (mOp fEq (mVar 3) (mER (mC (.int 1))))) arNil)))) (mName 1))))
noncomputable def m__law_degree : MS :=
    (mSeq (mAsg (mC (.int 0)) (mName 1))
    (mSeq (mFor (mRng2 (arCons (mER (mC (.int 1))) (arCons (mER (mOp fMul (mER (mC (.int 2))) (mVar 0))) arNil))) (mName 2) B__law_degree_2)
    (mRet (mOp fDiv (mVar 1) (mER (mC (.int 2)))))))
noncomputable def B__law_rest_1 : MS :=
    (mSeq (mAsg (mOp fAdd (mER (mOp fAdd (mER (mOp fSub (mER (mCB fLen (arCons (mVar 2) arNil))) (mER (mCB fLen (arCons (mVar 1) arNil))))) (mER (mC (.int 1))))) (mVar 4)) (mName 5))
    (mAsg (mOp fSub (mER (mOp fIx (mVar 2) (mVar 5))) (mER (mOp fMul (mVar 3) (mER (mOp fIx (mVar 1) (mVar 4)))))) (mSub 2 fSetA (mFz (mVar 5)))))
noncomputable def B__law_rest_2 : MS :=
    (mSeq (mAsg (mMut0 2 "list" fPop) (mName 3))
    (mFor (mRng1 (arCons (mER (mOp fSub (mER (mCB fLen (arCons (mVar 1) arNil))) (mER (mC (.int 1))))) arNil)) (mName 4) B__law_rest_1))
noncomputable def m__law_rest : MS :=
    (mSeq (mAsg (mCB fList (arCons (mVar 0) arNil)) (mName 2))
    (mSeq (mWhile (mTest (mOp fGe (mER (mCB fLen (arCons (mVar 2) arNil))) (mER (mCB fLen (arCons (mVar 1) arNil))))) B__law_rest_2)
    (mRet (mOp fAdd (mVar 2) (mER (mOp fMul (mER (mLst (faCons (mC (.int 0)) faNil))) (mER (mOp fSub (mER (mOp fSub (mER (mCB fLen (arCons (mVar 1) arNil))) (mER (mC (.int 1))))) (mER (mCB fLen (arCons (mVar 2) arNil)))))))))))
noncomputable def m__law_whole : MS :=
    (mRet (mAndV (mIsi "int" (mVar 0)) (mNotV (mIsi "bool" (mVar 0)))))
noncomputable def X__law_chain_1 : MF :=
    (mOp fSub (mVar 4) (mVar 5))
noncomputable def B__law_chain_1 : MS :=
    (mPar 1 2 (faCons (mFz (mVar 2)) (faCons (mLc (mZip (faCons (mOp fAdd (mER (mLst (faCons (mC (.int 0)) faNil))) (mER (mSl fSl (mVar 2) moNone (moSome (mUn fNeg (mER (mC (.int 1)))))))) (faCons (mFz (mVar 1)) faNil))) (mTupG 2 (gsCons (mName 4) (gsCons (mName 5) gsNil))) mYes X__law_chain_1 [4, 5]) faNil)))
noncomputable def m__law_chain : MS :=
    (mSeq (mPar 1 2 (faCons (mOp fMul (mER (mLst (faCons (mC (.int 0)) faNil))) (mVar 0)) (faCons (mOp fAdd (mER (mLst (faCons (mC (.int 1)) faNil))) (mER (mOp fMul (mER (mLst (faCons (mC (.int 0)) faNil))) (mER (mOp fSub (mVar 0) (mER (mC (.int 1)))))))) faNil)))
    (mSeq (mFor (mRng1 (arCons (mER (mOp fSub (mVar 0) (mER (mC (.int 1))))) arNil)) (mName 3) B__law_chain_1)
    (mRet (mFz (mVar 2)))))
noncomputable def B__law_value_1 : MS :=
    (mSeq (mAsg (mOp fAdd (mER (mOp fMul (mVar 3) (mVar 1))) (mER (mOp fMul (mVar 5) (mVar 4)))) (mName 3))
    (mAsg (mOp fMul (mVar 4) (mVar 2)) (mName 4)))
noncomputable def m__law_value : MS :=
    (mSeq (mAsg (mC (.int 0)) (mName 3))
    (mSeq (mAsg (mC (.int 1)) (mName 4))
    (mSeq (mFor (mSeqI (mRevSl (mFz (mVar 0)))) (mName 5) B__law_value_1)
    (mRet (mFz (mVar 3))))))
noncomputable def B_chain_row_1 : MS :=
    (mPar 1 2 (faCons (mFz (mVar 2)) (faCons (mCall 2 (mFn 5 m_less) (arCons (mER (mCall 1 (mFn 1 m_shifted) (arCons (mVar 2) arNil))) (arCons (mVar 1) arNil))) faNil)))
noncomputable def m_chain_row : MS :=
    (mSeq (mPar 1 2 (faCons (mImm (mLst (faCons (mC (.int 0)) faNil))) (faCons (mImm (mLst (faCons (mC (.int 1)) faNil))) faNil)))
    (mSeq (mFor (mRng1 (arCons (mVar 0) arNil)) (mName 3) B_chain_row_1)
    (mRet (mFz (mVar 2)))))
noncomputable def m__law_order : MS :=
    (mSeq (mAsg (mCall 2 (mFn 4 m__law_take) (arCons (mVar 0) (arCons (mER (mC (.int 4))) arNil))) (mName 1))
    (mSeq (mIfS (mTest (mOp fEq (mVar 1) (mER (mC (.int 0))))) (mRet (mOp fAdd (mER (mC (.int 3))) (mER (mCall 2 (mFn 4 m__law_take) (arCons (mVar 0) (arCons (mER (mC (.int 10))) arNil)))))) mNext)
    (mSeq (mIfS (mTest (mOp fEq (mVar 1) (mER (mC (.int 1))))) (mRet (mOp fAdd (mER (mC (.int 3))) (mER (mCall 2 (mFn 4 m__law_take) (arCons (mVar 0) (arCons (mER (mC (.int 58))) arNil)))))) mNext)
    (mSeq (mIfS (mTest (mOp fEq (mVar 1) (mER (mC (.int 2))))) (mRet (mOp fAdd (mER (mC (.int 3))) (mER (mCall 2 (mFn 4 m__law_take) (arCons (mVar 0) (arCons (mER (mC (.int 178))) arNil)))))) mNext)
    (mRet (mOp fIx (mER (mLst (faCons (mC (.int 3)) (faCons (mC (.int 4)) (faCons (mC (.int 6)) (faCons (mC (.int 60)) (faCons (mC (.int 180)) (faCons (mC (.int 179)) (faCons (mC (.int 105)) (faCons (mC (.int 128)) (faCons (mC (.int 169)) (faCons (mC (.int 90)) (faCons (mC (.int 175)) (faCons (mC (.int 9)) faNil)))))))))))))) (mER (mCall 2 (mFn 4 m__law_take) (arCons (mVar 0) (arCons (mER (mC (.int 12))) arNil))))))))))
noncomputable def X_whole_row_1 : MF :=
    (mUn fNeg (mVar 1))
noncomputable def m_whole_row : MS :=
    (mSeq (mIfS (mTest (mOp fEq (mER (mOp fMod (mVar 0) (mER (mC (.int 2))))) (mER (mC (.int 0))))) (mRet (mCall 1 (mFn 4 m_chain_row) (arCons (mER (mOp fSub (mER (mOp fDiv (mVar 0) (mER (mC (.int 2))))) (mER (mC (.int 1))))) arNil))) mNext)
    (mRet (mCall 2 (mFn 5 m_less) (arCons (mER (mCall 1 (mFn 4 m_chain_row) (arCons (mER (mOp fDiv (mER (mOp fSub (mVar 0) (mER (mC (.int 1))))) (mER (mC (.int 2))))) arNil))) (arCons (mER (mImm (mLc (mSeqI (mCall 1 (mFn 4 m_chain_row) (arCons (mER (mOp fDiv (mER (mOp fSub (mVar 0) (mER (mC (.int 3))))) (mER (mC (.int 2))))) arNil))) (mName 1) mYes X_whole_row_1 [1]))) arNil)))))
noncomputable def X_least_poly_1 : MF :=
    (mFz (mVar 5))
noncomputable def T_least_poly_1 : MT :=
    (mTest (mOp fEq (mER (mOp fMod (mER (mOp fMul (mER (mC (.int 2))) (mVar 0))) (mVar 5))) (mER (mC (.int 0)))))
noncomputable def B_least_poly_1 : MS :=
    (mIfS (mTest (mOp fEq (mER (mOp fMod (mVar 2) (mVar 4))) (mER (mC (.int 0))))) (mAsg (mCall 2 (mFn 7 m_divided) (arCons (mVar 3) (arCons (mER (mDGetK 1 (mFz (mVar 4)))) arNil))) (mName 3)) mNext)
noncomputable def B_least_poly_2 : MS :=
    (mSeq (mAsg (mCall 1 (mFn 2 m_whole_row) (arCons (mVar 2) arNil)) (mName 3))
    (mSeq (mLock 1 (mFor (mKeysI 1) (mName 4) B_least_poly_1))
    (mAsg (mFz (mVar 3)) (mSub 1 fSetA (mFz (mVar 2))))))
noncomputable def m_least_poly : MS :=
    (mSeq (mAsg (fun E => some (.dic [], E)) (mName 1))
    (mSeq (mFor (mSeqI (mLc (mRng2 (arCons (mER (mC (.int 3))) (arCons (mER (mOp fAdd (mER (mOp fMul (mER (mC (.int 2))) (mVar 0))) (mER (mC (.int 1))))) arNil))) (mName 5) T_least_poly_1 X_least_poly_1 [5])) (mName 2) B_least_poly_2)
    (mRet (mCB fTuple (arCons (mER (mDGet (mVar 1) (mER (mOp fMul (mER (mC (.int 2))) (mVar 0))))) arNil)))))
noncomputable def X_law_1 : MF :=
    (mCall 1 (mFn 1 m__law_whole) (arCons (mVar 7) arNil))
noncomputable def B_law_1 : MS :=
    (mSeq (mAsg (mCall 1 (mFn 2 m__law_order) (arCons (mVar 1) arNil)) (mName 3))
    (mSeq (mAsg (mCall 1 (mFn 6 m_least_poly) (arCons (mVar 3) arNil)) (mName 4))
    (mSeq (mIfS (mOr (mNot (mTru (mER (mIsi "tuple" (mVar 4))))) (mNot (mTru (mER (mCB fAll (arCons (mER (mLc (mSeqI (mFz (mVar 4))) (mName 7) mYes X_law_1 [7])) arNil)))))) (mRet (mC (.bool false))) mNext)
    (mSeq (mIfS (mOr (mTest (mOp fNe (mER (mCB fLen (arCons (mVar 4) arNil))) (mER (mOp fAdd (mER (mC (.int 1))) (mER (mCall 1 (mFn 5 m__law_degree) (arCons (mVar 3) arNil))))))) (mOr (mTest (mOp fNe (mER (mOp fIx (mVar 4) (mER (mUn fNeg (mER (mC (.int 1))))))) (mER (mC (.int 1))))) (mTru (mER (mCB fAnyI (arCons (mER (mCall 2 (mFn 6 m__law_rest) (arCons (mER (mCall 1 (mFn 6 m__law_chain) (arCons (mVar 3) arNil))) (arCons (mVar 4) arNil)))) arNil)))))) (mRet (mC (.bool false))) mNext)
    (mSeq (mAsg (mCall 2 (mFn 9 m__law_near) (arCons (mVar 3) (arCons (mER (mOp fPow (mER (mC (.int 10))) (mER (mC (.int 40))))) arNil))) (mTupA 2 (gsCons (mName 5) (gsCons (mName 6) gsNil))))
    (mIfS (mOr (mTest (mOp fGt (mER (mCall 3 (mFn 6 m__law_value) (arCons (mVar 4) (arCons (mVar 5) (arCons (mER (mOp fPow (mER (mC (.int 10))) (mER (mC (.int 40))))) arNil))))) (mER (mC (.int 0))))) (mTest (mOp fLe (mER (mCall 3 (mFn 6 m__law_value) (arCons (mVar 4) (arCons (mVar 6) (arCons (mER (mOp fPow (mER (mC (.int 10))) (mER (mC (.int 40))))) arNil))))) (mER (mC (.int 0)))))) (mRet (mC (.bool false))) mNext))))))
noncomputable def m_law : MS :=
    (mSeq (mAsg (mCall 1 (mFn 6 m__law_hand) (arCons (mVar 0) arNil)) (mName 1))
    (mSeq (mFor (mRng1 (arCons (mER (mOp fAdd (mER (mC (.int 1))) (mER (mCall 2 (mFn 4 m__law_take) (arCons (mVar 1) (arCons (mER (mC (.int 6))) arNil)))))) arNil)) (mName 2) B_law_1)
    (mRet (mC (.bool true)))))
structure Txt (K : PySem.W.Frag) (mg : Str → Option Value) where
  a_shifted : Addr
  d_shifted : FuncData
  F_shifted : Fun K "shifted" "shifted" s_shifted a_shifted d_shifted
  g_shifted : mg "shifted" = some (.ref a_shifted)
  b_shifted : Binds K d_shifted ["row"] []
  a_less : Addr
  d_less : FuncData
  F_less : Fun K "less" "less" s_less a_less d_less
  g_less : mg "less" = some (.ref a_less)
  b_less : Binds K d_less ["one", "other"] []
  a_divided : Addr
  d_divided : FuncData
  F_divided : Fun K "divided" "divided" s_divided a_divided d_divided
  g_divided : mg "divided" = some (.ref a_divided)
  b_divided : Binds K d_divided ["row", "by"] []
  a__law_hand : Addr
  d__law_hand : FuncData
  F__law_hand : Fun K "_law_hand" "_law_hand" s__law_hand a__law_hand d__law_hand
  g__law_hand : mg "_law_hand" = some (.ref a__law_hand)
  b__law_hand : Binds K d__law_hand ["_law_script"] []
  a__law_take : Addr
  d__law_take : FuncData
  F__law_take : Fun K "_law_take" "_law_take" s__law_take a__law_take d__law_take
  g__law_take : mg "_law_take" = some (.ref a__law_take)
  b__law_take : Binds K d__law_take ["_law_state", "_law_many"] []
  a__law_near : Addr
  d__law_near : FuncData
  F__law_near : Fun K "_law_near" "_law_near" s__law_near a__law_near d__law_near
  g__law_near : mg "_law_near" = some (.ref a__law_near)
  b__law_near : Binds K d__law_near ["_law_km", "_law_scale"] []
  a__law_degree : Addr
  d__law_degree : FuncData
  F__law_degree : Fun K "_law_degree" "_law_degree" s__law_degree a__law_degree d__law_degree
  g__law_degree : mg "_law_degree" = some (.ref a__law_degree)
  b__law_degree : Binds K d__law_degree ["_law_km"] []
  a__law_rest : Addr
  d__law_rest : FuncData
  F__law_rest : Fun K "_law_rest" "_law_rest" s__law_rest a__law_rest d__law_rest
  g__law_rest : mg "_law_rest" = some (.ref a__law_rest)
  b__law_rest : Binds K d__law_rest ["_law_row", "_law_poly"] []
  a__law_whole : Addr
  d__law_whole : FuncData
  F__law_whole : Fun K "_law_whole" "_law_whole" s__law_whole a__law_whole d__law_whole
  g__law_whole : mg "_law_whole" = some (.ref a__law_whole)
  b__law_whole : Binds K d__law_whole ["_law_thing"] []
  a__law_chain : Addr
  d__law_chain : FuncData
  F__law_chain : Fun K "_law_chain" "_law_chain" s__law_chain a__law_chain d__law_chain
  g__law_chain : mg "_law_chain" = some (.ref a__law_chain)
  b__law_chain : Binds K d__law_chain ["_law_km"] []
  a__law_value : Addr
  d__law_value : FuncData
  F__law_value : Fun K "_law_value" "_law_value" s__law_value a__law_value d__law_value
  g__law_value : mg "_law_value" = some (.ref a__law_value)
  b__law_value : Binds K d__law_value ["_law_poly", "_law_top", "_law_scale"] []
  a_chain_row : Addr
  d_chain_row : FuncData
  F_chain_row : Fun K "chain_row" "chain_row" s_chain_row a_chain_row d_chain_row
  g_chain_row : mg "chain_row" = some (.ref a_chain_row)
  b_chain_row : Binds K d_chain_row ["k"] []
  a__law_order : Addr
  d__law_order : FuncData
  F__law_order : Fun K "_law_order" "_law_order" s__law_order a__law_order d__law_order
  g__law_order : mg "_law_order" = some (.ref a__law_order)
  b__law_order : Binds K d__law_order ["_law_state"] []
  a_whole_row : Addr
  d_whole_row : FuncData
  F_whole_row : Fun K "whole_row" "whole_row" s_whole_row a_whole_row d_whole_row
  g_whole_row : mg "whole_row" = some (.ref a_whole_row)
  b_whole_row : Binds K d_whole_row ["many"] []
  a_least_poly : Addr
  d_least_poly : FuncData
  F_least_poly : Fun K "least_poly" "least_poly" s_least_poly a_least_poly d_least_poly
  g_least_poly : mg "least_poly" = some (.ref a_least_poly)
  b_least_poly : Binds K d_least_poly ["M"] []
  a_law : Addr
  d_law : FuncData
  F_law : Fun K "law" "law" s_law a_law d_law
  g_law : mg "law" = some (.ref a_law)
  b_law : Binds K d_law ["_law_script"] []
  z_abs : mg "abs" = none
  z_all : mg "all" = none
  z_any : mg "any" = none
  z_bool : mg "bool" = none
  z_enumerate : mg "enumerate" = none
  z_int : mg "int" = none
  z_isinstance : mg "isinstance" = none
  z_len : mg "len" = none
  z_list : mg "list" = none
  z_range : mg "range" = none
  z_tuple : mg "tuple" = none
  z_zip : mg "zip" = none
section
variable {P : Program} {w : World} {K : PySem.W.Frag} {mg : Str → Option Value} {base : Heap}
theorem ok_shifted (T : Txt K mg) : FnG P w K mg base CX0 1 T.a_shifted T.d_shifted ["row"] (spM K 1 (mFn 1 m_shifted)) :=
  fn_ok (Wx := fun _ _ _ _ => False) (N := ["row"]) (m := m_shifted) T.F_shifted sc_shifted (by decide) fun cdv A outer s H E hr => ⟨_, (pss_one (ps_ret (pe_op op_addA (pe_lst (pa_cons pe_int pa_nil)) (pe_callTy call_list_of (by rfl) T.z_list (by decide +kernel) (pa_cons (pv 0) pa_nil))))),
    (sr_ret (fr_op (er_of (fr_lst (fa_cons fr_int fa_nil))) (er_of (fr_cb (ar_cons er_var ar_nil) c_list)) o_add))⟩
theorem ok_less (T : Txt K mg) : FnG P w K mg base CX0 1 T.a_less T.d_less ["one", "other"] (spM K 2 (mFn 5 m_less)) :=
  fn_ok (Wx := fun _ _ _ _ => False) (N := ["one", "other", "made", "k", "number"]) (m := m_less) T.F_less sc_less (by decide) fun cdv A outer s H E hr => ⟨_, (pss_cons (ps_set (i := 2) sc_less.nd rfl (Or.inl rfl) (pe_op op_addA (pe_callTy call_list_of (by rfl) T.z_list (by decide +kernel) (pa_cons (pv 0) pa_nil)) (pe_op op_mulA (pe_lst (pa_cons pe_int pa_nil)) (pe_op op_sub (pe_callB call_lenA (by rfl) T.z_len (by decide +kernel) (pa_cons (pv 1) pa_nil)) (pe_callB call_lenA (by rfl) T.z_len (by decide +kernel) (pa_cons (pv 0) pa_nil))))))
      (pss_cons (ps_for PassesOwn.never rfl (pi_enumA (by rfl) T.z_enumerate (pa_cons (pv 1) pa_nil)) (pg_tup rfl (pgs_cons (pg_name (i := 3) sc_less.nd rfl (by first | exact Or.inl rfl | exact Or.inr rfl)) (pgs_cons (pg_name (i := 4) sc_less.nd rfl (by first | exact Or.inl rfl | exact Or.inr rfl)) pgs_nil))) (pss_one (ps_augS (pv 2) (pv 3) get_list (pv 4) ip_sub (set_any hr.u1))))
      (pss_one (ps_ret (pv 2))))),
    (sr_seq (sr_asg (fr_op (er_of (fr_cb (ar_cons er_var ar_nil) c_list)) (er_of (fr_op (er_of (fr_lst (fa_cons fr_int fa_nil))) (er_of (fr_op (er_of (fr_cb (ar_cons er_var ar_nil) c_len)) (er_of (fr_cb (ar_cons er_var ar_nil) c_len)) o_sub)) o_mul)) o_add) gr_name)
      (sr_seq (sr_for (ir_enum (fr_of er_var)) (gr_tup (grs_cons gr_name (grs_cons gr_name grs_nil))) (sr_augS pr_var er_var i_sub))
      (sr_ret (fr_of er_var))))⟩
theorem ok_divided (T : Txt K mg) : FnG P w K mg base CX0 1 T.a_divided T.d_divided ["row", "by"] (spM K 2 (mFn 7 m_divided)) :=
  fn_ok (Wx := fun _ _ _ _ => False) (N := ["row", "by", "left", "found", "k", "j", "number"]) (m := m_divided) T.F_divided sc_divided (by decide) fun cdv A outer s H E hr => ⟨_, (pss_cons (ps_set (i := 2) sc_divided.nd rfl (Or.inl rfl) (pe_callTy call_list_of (by rfl) T.z_list (by decide +kernel) (pa_cons (pv 0) pa_nil)))
      (pss_cons (ps_set (i := 3) sc_divided.nd rfl (Or.inl rfl) (pe_op op_mulA (pe_lst (pa_cons pe_int pa_nil)) (pe_op op_addA (pe_op op_sub (pe_callB call_lenA (by rfl) T.z_len (by decide +kernel) (pa_cons (pv 0) pa_nil)) (pe_callB call_lenA (by rfl) T.z_len (by decide +kernel) (pa_cons (pv 1) pa_nil))) pe_int)))
      (pss_cons (ps_for PassesOwn.never rfl (pi_range3 (by rfl) T.z_range (pa_cons (pe_op op_sub (pe_callB call_lenA (by rfl) T.z_len (by decide +kernel) (pa_cons (pv 3) pa_nil)) pe_int) (pa_cons (pe_un un_neg pe_int) (pa_cons (pe_un un_neg pe_int) pa_nil)))) (pg_name (i := 4) sc_divided.nd rfl (by first | exact Or.inl rfl | exact Or.inr rfl)) (pss_cons (ps_asg (pe_ix ix_seq (pv 2) (pe_op op_sub (pe_op op_addA (pv 4) (pe_callB call_lenA (by rfl) T.z_len (by decide +kernel) (pa_cons (pv 1) pa_nil))) pe_int) (fun _ _ => rfl)) (pg_sub (pv 3) (pv 4) (set_any hr.u1)))
      (pss_one (ps_for PassesOwn.never rfl (pi_enumA (by rfl) T.z_enumerate (pa_cons (pv 1) pa_nil)) (pg_tup rfl (pgs_cons (pg_name (i := 5) sc_divided.nd rfl (by first | exact Or.inl rfl | exact Or.inr rfl)) (pgs_cons (pg_name (i := 6) sc_divided.nd rfl (by first | exact Or.inl rfl | exact Or.inr rfl)) pgs_nil))) (pss_one (ps_augS (pv 2) (pe_op op_addA (pv 4) (pv 5)) get_list (pe_op op_mulA (pe_ix ix_seq (pv 3) (pv 4) (fun _ _ => rfl)) (pv 6)) ip_sub (set_any hr.u1)))))))
      (pss_one (ps_ret (pv 3)))))),
    (sr_seq (sr_asg (fr_cb (ar_cons er_var ar_nil) c_list) gr_name)
      (sr_seq (sr_asg (fr_op (er_of (fr_lst (fa_cons fr_int fa_nil))) (er_of (fr_op (er_of (fr_op (er_of (fr_cb (ar_cons er_var ar_nil) c_len)) (er_of (fr_cb (ar_cons er_var ar_nil) c_len)) o_sub)) (er_of fr_int) o_add)) o_mul) gr_name)
      (sr_seq (sr_for (ir_rng3 (ar_cons (er_of (fr_op (er_of (fr_cb (ar_cons er_var ar_nil) c_len)) (er_of fr_int) o_sub)) (ar_cons (er_of (fr_un (er_of fr_int) o_neg)) (ar_cons (er_of (fr_un (er_of fr_int) o_neg)) ar_nil)))) gr_name (sr_seq (sr_asg (fr_op er_var (er_of (fr_op (er_of (fr_op er_var (er_of (fr_cb (ar_cons er_var ar_nil) c_len)) o_add)) (er_of fr_int) o_sub)) o_ix) (gr_sub (fr_of er_var) set_tree))
      (sr_for (ir_enum (fr_of er_var)) (gr_tup (grs_cons gr_name (grs_cons gr_name grs_nil))) (sr_augS (pr_add pr_var pr_var) (er_of (fr_op (er_of (fr_op er_var er_var o_ix)) er_var o_mul)) i_sub))))
      (sr_ret (fr_of er_var)))))⟩
theorem ok__law_hand (T : Txt K mg) : FnG P w K mg base CX0 1 T.a__law_hand T.d__law_hand ["_law_script"] (spM K 1 (mFn 6 m__law_hand)) :=
  fn_ok (Wx := fun _ _ _ _ => False) (N := ["_law_script", "_law_state", "_law_far", "_law_cell", "_law_k", "_law_one"]) (m := m__law_hand) T.F__law_hand sc__law_hand (by decide) fun cdv A outer s H E hr => ⟨_, (pss_cons (ps_set (i := 1) sc__law_hand.nd rfl (Or.inl rfl) (pe_lst (pa_cons pe_int (pa_cons pe_int (pa_cons pe_int pa_nil)))))
      (pss_cons (ps_if (PW.pt (pw_and (pt_cmpR op_gt (pe_callB call_lenA (by rfl) T.z_len (by decide +kernel) (pa_cons (pv 0) pa_nil)) pe_int (nomark _)) (pw_and1 (pt_cmpR op_ge (pe_ix ix_seq (pv 0) pe_int (fun _ _ => rfl)) (pe_op op_pow pe_int pe_int) (nomark _))))) (pss_cons (ps_set (i := 2) sc__law_hand.nd rfl (Or.inl rfl) pe_int)
      (pss_one (ps_for PassesOwn.never rfl (pi_seq (pe_slice sl_any (pv 0) po_none (po_some pe_int))) (pg_name (i := 3) sc__law_hand.nd rfl (by first | exact Or.inl rfl | exact Or.inr rfl)) (pss_cons (ps_asg (pe_op op_addA (pe_ix ix_seq (pv 1) pe_int (fun _ _ => rfl)) (pe_op op_mulA (pe_op op_mod (pe_callB call_abs (by rfl) T.z_abs (by decide +kernel) (pa_cons (pv 3) pa_nil)) (pe_op op_pow pe_int pe_int)) (pv 2))) (pg_sub (pv 1) pe_int (set_any hr.u1)))
      (pss_one (ps_set (i := 2) sc__law_hand.nd rfl (Or.inl rfl) (pe_op op_mulA (pv 2) (pe_op op_pow pe_int pe_int)))))))) pss_nil)
      (pss_cons (ps_for PassesOwn.never rfl (pi_enumA (by rfl) T.z_enumerate (pa_cons (pe_slice sl_any (pv 0) po_none (po_some pe_int)) pa_nil)) (pg_tup rfl (pgs_cons (pg_name (i := 4) sc__law_hand.nd rfl (by first | exact Or.inl rfl | exact Or.inr rfl)) (pgs_cons (pg_name (i := 3) sc__law_hand.nd rfl (by first | exact Or.inl rfl | exact Or.inr rfl)) pgs_nil))) (pss_cons (ps_set (i := 5) sc__law_hand.nd rfl (Or.inl rfl) (pe_op op_addA (pe_op op_addA (pe_op op_mod (pv 3) pe_int) (pe_op op_mulA pe_int (pv 4))) pe_int))
      (pss_one (ps_asg (pe_op op_mod (pe_op op_addA (pe_op op_mulA (pe_ix ix_seq (pv 1) pe_int (fun _ _ => rfl)) pe_int) (pv 5)) pe_int) (pg_sub (pv 1) pe_int (set_any hr.u1))))))
      (pss_one (ps_ret (pv 1)))))),
    (sr_seq (sr_asg (fr_lst (fa_cons fr_int (fa_cons fr_int (fa_cons fr_int fa_nil)))) gr_name)
      (sr_seq (sr_if (tr_and (tr_test (fr_op (er_of (fr_cb (ar_cons er_var ar_nil) c_len)) (er_of fr_int) o_gt)) (tr_test (fr_op (er_of (fr_op er_var (er_of fr_int) o_ix)) (er_of (fr_op (er_of fr_int) (er_of fr_int) o_pow)) o_ge))) (sr_seq (sr_asg fr_int gr_name)
      (sr_for (ir_seq (fr_sl er_var or_none (or_some fr_int) o_sl)) gr_name (sr_seq (sr_asg (fr_op (er_of (fr_op er_var (er_of fr_int) o_ix)) (er_of (fr_op (er_of (fr_op (er_of (fr_cb (ar_cons er_var ar_nil) c_abs)) (er_of (fr_op (er_of fr_int) (er_of fr_int) o_pow)) o_mod)) er_var o_mul)) o_add) (gr_sub fr_int set_tree))
      (sr_asg (fr_op er_var (er_of (fr_op (er_of fr_int) (er_of fr_int) o_pow)) o_mul) gr_name)))) sr_next)
      (sr_seq (sr_for (ir_enum (fr_sl er_var or_none (or_some fr_int) o_sl)) (gr_tup (grs_cons gr_name (grs_cons gr_name grs_nil))) (sr_seq (sr_asg (fr_op (er_of (fr_op (er_of (fr_op er_var (er_of fr_int) o_mod)) (er_of (fr_op (er_of fr_int) er_var o_mul)) o_add)) (er_of fr_int) o_add) gr_name)
      (sr_asg (fr_op (er_of (fr_op (er_of (fr_op (er_of (fr_op er_var (er_of fr_int) o_ix)) (er_of fr_int) o_mul)) er_var o_add)) (er_of fr_int) o_mod) (gr_sub fr_int set_tree))))
      (sr_ret fr_mv))))⟩
theorem ok__law_take (T : Txt K mg) : FnG P w K mg base CX0 1 T.a__law_take T.d__law_take ["_law_state", "_law_many"] (spM K 2 (mFn 4 m__law_take)) :=
  fn_ok (Wx := fun _ _ _ _ => False) (N := ["_law_state", "_law_many", "_law_digit", "_law_mixed"]) (m := m__law_take) T.F__law_take sc__law_take (by decide) fun cdv A outer s H E hr => ⟨_, (pss_cons (ps_if (pt_cmpR op_gt (pe_ix ix_seq (pv 0) pe_int (fun _ _ => rfl)) pe_int (nomark _)) (pss_cons (ps_set (i := 2) sc__law_take.nd rfl (Or.inl rfl) (pe_op op_mod (pe_ix ix_seq (pv 0) pe_int (fun _ _ => rfl)) (pv 1)))
      (pss_cons (ps_asg (pe_op op_fdivX (pe_ix ix_seq (pv 0) pe_int (fun _ _ => rfl)) (pv 1)) (pg_sub (pv 0) pe_int (set_any hr.u1)))
      (pss_one (ps_ret (pv 2))))) pss_nil)
      (pss_cons (ps_asg (pe_op op_addA (pe_ix ix_seq (pv 0) pe_int (fun _ _ => rfl)) pe_int) (pg_sub (pv 0) pe_int (set_any hr.u1)))
      (pss_cons (ps_set (i := 3) sc__law_take.nd rfl (Or.inl rfl) (pe_op op_mod (pe_op op_mulA (pe_op op_addA (pe_op op_addA (pe_ix ix_seq (pv 0) pe_int (fun _ _ => rfl)) (pe_op op_mulA (pe_op op_mulA pe_int (pe_ix ix_seq (pv 0) pe_int (fun _ _ => rfl))) (pe_ix ix_seq (pv 0) pe_int (fun _ _ => rfl)))) pe_int) pe_int) pe_int))
      (pss_cons (ps_set (i := 3) sc__law_take.nd rfl (Or.inl rfl) (pe_op op_mod (pe_op op_mulA (pv 3) (pe_op op_addA (pe_op op_mod (pv 3) pe_int) (pe_op op_mulA pe_int (pe_ix ix_seq (pv 0) pe_int (fun _ _ => rfl))))) pe_int))
      (pss_one (ps_ret (pe_op op_mod (pe_op op_addA (pe_op op_fdivX (pv 3) pe_int) (pe_op op_fdivX (pv 3) pe_int)) (pv 1)))))))),
    (sr_seq (sr_if (tr_test (fr_op (er_of (fr_op er_var (er_of fr_int) o_ix)) (er_of fr_int) o_gt)) (sr_seq (sr_asg (fr_op (er_of (fr_op er_var (er_of fr_int) o_ix)) er_var o_mod) gr_name)
      (sr_seq (sr_asg (fr_op (er_of (fr_op er_var (er_of fr_int) o_ix)) er_var o_div) (gr_sub fr_int set_tree))
      (sr_ret (fr_of er_var)))) sr_next)
      (sr_seq (sr_asg (fr_op (er_of (fr_op er_var (er_of fr_int) o_ix)) (er_of fr_int) o_add) (gr_sub fr_int set_tree))
      (sr_seq (sr_asg (fr_op (er_of (fr_op (er_of (fr_op (er_of (fr_op (er_of (fr_op er_var (er_of fr_int) o_ix)) (er_of (fr_op (er_of (fr_op (er_of fr_int) (er_of (fr_op er_var (er_of fr_int) o_ix)) o_mul)) (er_of (fr_op er_var (er_of fr_int) o_ix)) o_mul)) o_add)) (er_of fr_int) o_add)) (er_of fr_int) o_mul)) (er_of fr_int) o_mod) gr_name)
      (sr_seq (sr_asg (fr_op (er_of (fr_op er_var (er_of (fr_op (er_of (fr_op er_var (er_of fr_int) o_mod)) (er_of (fr_op (er_of fr_int) (er_of (fr_op er_var (er_of fr_int) o_ix)) o_mul)) o_add)) o_mul)) (er_of fr_int) o_mod) gr_name)
      (sr_ret (fr_op (er_of (fr_op (er_of (fr_op er_var (er_of fr_int) o_div)) (er_of (fr_op er_var (er_of fr_int) o_div)) o_add)) er_var o_mod))))))⟩
theorem ok__law_near (T : Txt K mg) : FnG P w K mg base CX0 1 T.a__law_near T.d__law_near ["_law_km", "_law_scale"] (spM K 2 (mFn 9 m__law_near)) :=
  fn_ok (Wx := fun _ _ _ _ => False) (N := ["_law_km", "_law_scale", "_law_low", "_law_high", "_law_half", "_law_one", "_law_other", "_law_over", "_law_turn"]) (m := m__law_near) T.F__law_near sc__law_near (by decide) fun cdv A outer s H E hr => ⟨_, (pss_cons (ps_par (i := 2) (j := 3) (by rfl) sc__law_near.nd rfl rfl (by decide) rfl rfl (pa_cons (pv 1) (pa_cons (pe_op op_mulA pe_int (pv 1)) pa_nil)) (by rfl))
      (pss_cons (ps_while PassesOwn.never (pt_cmpR op_gt (pe_op op_sub (pv 3) (pv 2)) pe_int (nomark _)) (pss_cons (ps_set (i := 4) sc__law_near.nd rfl (Or.inl rfl) (pe_op op_fdivX (pe_op op_addA (pv 2) (pv 3)) pe_int))
      (pss_cons (ps_par (i := 5) (j := 6) (by rfl) sc__law_near.nd rfl rfl (by decide) rfl rfl (pa_cons (pv 1) (pa_cons (pv 4) pa_nil)) (by rfl))
      (pss_cons (ps_set (i := 7) sc__law_near.nd rfl (Or.inl rfl) pe_bl)
      (pss_cons (ps_for PassesOwn.never rfl (pi_range1 (by rfl) T.z_range (pa_cons (pe_op op_sub (pv 0) pe_int) pa_nil)) (pg_name (i := 8) sc__law_near.nd rfl (by first | exact Or.inl rfl | exact Or.inr rfl)) (pss_cons (ps_par (i := 5) (j := 6) (by rfl) sc__law_near.nd rfl rfl (by decide) rfl rfl (pa_cons (pv 6) (pa_cons (pe_op op_sub (pe_op op_fdivX (pe_op op_mulA (pv 4) (pv 6)) (pv 1)) (pv 5)) pa_nil)) (by rfl))
      (pss_one (ps_set (i := 7) sc__law_near.nd rfl (Or.inl rfl) (pe_and (pv 7) (pe_one (pe_cmpR op_gt (pv 6) pe_int (nomark _))))))))
      (pss_one (ps_if (pt_truth (pv 7) (by intro _; rfl)) (pss_one (ps_set (i := 3) sc__law_near.nd rfl (Or.inl rfl) (pv 4))) (pss_one (ps_set (i := 2) sc__law_near.nd rfl (Or.inl rfl) (pv 4))))))))))
      (pss_one (ps_ret (pe_tup (pa_cons (pe_op op_sub (pv 2) (pe_op op_pow pe_int pe_int)) (pa_cons (pe_op op_addA (pv 3) (pe_op op_pow pe_int pe_int)) pa_nil))))))),
    (sr_seq (sr_par (fa_cons (fr_of er_var) (fa_cons (fr_op (er_of fr_int) er_var o_mul) fa_nil)))
      (sr_seq (sr_while (tr_test (fr_op (er_of (fr_op er_var er_var o_sub)) (er_of fr_int) o_gt)) (sr_seq (sr_asg (fr_op (er_of (fr_op er_var er_var o_add)) (er_of fr_int) o_div) gr_name)
      (sr_seq (sr_par (fa_cons (fr_of er_var) (fa_cons (fr_of er_var) fa_nil)))
      (sr_seq (sr_asg fr_bl gr_name)
      (sr_seq (sr_for (ir_rng1 (ar_cons (er_of (fr_op er_var (er_of fr_int) o_sub)) ar_nil)) gr_name (sr_seq (sr_par (fa_cons (fr_of er_var) (fa_cons (fr_op (er_of (fr_op (er_of (fr_op er_var er_var o_mul)) er_var o_div)) er_var o_sub) fa_nil)))
      (sr_asg (fr_andV (fr_of er_var) (fr_op er_var (er_of fr_int) o_gt)) gr_name)))
      (sr_if (tr_tru er_var) (sr_asg (fr_of er_var) gr_name) (sr_asg (fr_of er_var) gr_name)))))))
      (sr_ret (fr_tup (fa_cons (fr_op er_var (er_of (fr_op (er_of fr_int) (er_of fr_int) o_pow)) o_sub) (fa_cons (fr_op er_var (er_of (fr_op (er_of fr_int) (er_of fr_int) o_pow)) o_add) fa_nil))))))⟩
theorem ok__law_degree (T : Txt K mg) : FnG P w K mg base CX0 1 T.a__law_degree T.d__law_degree ["_law_km"] (spM K 1 (mFn 5 m__law_degree)) :=
  fn_ok (Wx := fun _ _ _ _ => False) (N := ["_law_km", "_law_found", "_law_k", "_law_one", "_law_other"]) (m := m__law_degree) T.F__law_degree sc__law_degree (by decide) fun cdv A outer s H E hr => ⟨_, (pss_cons (ps_set (i := 1) sc__law_degree.nd rfl (Or.inl rfl) pe_int)
      (pss_cons (ps_for PassesOwn.never rfl (pi_range2 (by rfl) T.z_range (pa_cons pe_int (pa_cons (pe_op op_mulA pe_int (pv 0)) pa_nil))) (pg_name (i := 2) sc__law_degree.nd rfl (by first | exact Or.inl rfl | exact Or.inr rfl)) (pss_cons (ps_par (i := 3) (j := 4) (by rfl) sc__law_degree.nd rfl rfl (by decide) rfl rfl (pa_cons (pe_op op_mulA pe_int (pv 0)) (pa_cons (pv 2) pa_nil)) (by rfl))
      (pss_cons (ps_while PassesOwn.never (pt_cmpR op_gt (pv 4) pe_int (nomark _)) (pss_one (ps_par (i := 3) (j := 4) (by rfl) sc__law_degree.nd rfl rfl (by decide) rfl rfl (pa_cons (pv 4) (pa_cons (pe_op op_mod (pv 3) (pv 4)) pa_nil)) (by rfl))))
      (pss_one (ps_set (i := 1) sc__law_degree.nd rfl (Or.inl rfl) (pe_op op_addA (pv 1) (pe_callTy call_int1 (by rfl) T.z_int (by decide +kernel) (pa_cons (pe_cmpR (op_eqA hr.u64) (pv 3) pe_int (nomark _)) pa_nil))))))))
      (pss_one (ps_ret (pe_op op_fdivX (pv 1) pe_int))))),
    (sr_seq (sr_asg fr_int gr_name)
      (sr_seq (sr_for (ir_rng2 (ar_cons (er_of fr_int) (ar_cons (er_of (fr_op (er_of fr_int) er_var o_mul)) ar_nil))) gr_name (sr_seq (sr_par (fa_cons (fr_op (er_of fr_int) er_var o_mul) (fa_cons (fr_of er_var) fa_nil)))
      (sr_seq (sr_while (tr_test (fr_op er_var (er_of fr_int) o_gt)) (sr_par (fa_cons (fr_of er_var) (fa_cons (fr_op er_var er_var o_mod) fa_nil))))
      (sr_asg (fr_op er_var (er_of (fr_cb (ar_cons (er_of (fr_op er_var (er_of fr_int) o_eq)) ar_nil) c_int1)) o_add) gr_name))))
      (sr_ret (fr_op er_var (er_of fr_int) o_div))))⟩
theorem ok__law_rest (T : Txt K mg) : FnG P w K mg base CX0 1 T.a__law_rest T.d__law_rest ["_law_row", "_law_poly"] (spM K 2 (mFn 6 m__law_rest)) :=
  fn_ok (Wx := fun _ _ _ _ => False) (N := ["_law_row", "_law_poly", "_law_left", "_law_last", "_law_k", "_law_at"]) (m := m__law_rest) T.F__law_rest sc__law_rest (by decide) fun cdv A outer s H E hr => ⟨_, (pss_cons (ps_set (i := 2) sc__law_rest.nd rfl (Or.inl rfl) (pe_callTy call_list_of (by rfl) T.z_list (by decide +kernel) (pa_cons (pv 0) pa_nil)))
      (pss_cons (ps_while PassesOwn.never (pt_cmpR op_ge (pe_callB call_lenA (by rfl) T.z_len (by decide +kernel) (pa_cons (pv 2) pa_nil)) (pe_callB call_lenA (by rfl) T.z_len (by decide +kernel) (pa_cons (pv 1) pa_nil)) (nomark _)) (pss_cons (ps_set (i := 3) sc__law_rest.nd rfl (Or.inl rfl) (pe_bm0 PySem.F.plainAttrs_list PySem.F.slot_list_pop PySem.F.type_list_pop mt_pop (pv 2)))
      (pss_one (ps_for PassesOwn.never rfl (pi_range1 (by rfl) T.z_range (pa_cons (pe_op op_sub (pe_callB call_lenA (by rfl) T.z_len (by decide +kernel) (pa_cons (pv 1) pa_nil)) pe_int) pa_nil)) (pg_name (i := 4) sc__law_rest.nd rfl (by first | exact Or.inl rfl | exact Or.inr rfl)) (pss_cons (ps_set (i := 5) sc__law_rest.nd rfl (Or.inl rfl) (pe_op op_addA (pe_op op_addA (pe_op op_sub (pe_callB call_lenA (by rfl) T.z_len (by decide +kernel) (pa_cons (pv 2) pa_nil)) (pe_callB call_lenA (by rfl) T.z_len (by decide +kernel) (pa_cons (pv 1) pa_nil))) pe_int) (pv 4)))
      (pss_one (ps_asg (pe_op op_sub (pe_ix ix_seq (pv 2) (pv 5) (fun _ _ => rfl)) (pe_op op_mulA (pv 3) (pe_ix ix_seq (pv 1) (pv 4) (fun _ _ => rfl)))) (pg_sub (pv 2) (pv 5) (set_any hr.u1)))))))))
      (pss_one (ps_ret (pe_op op_addA (pv 2) (pe_op op_mulA (pe_lst (pa_cons pe_int pa_nil)) (pe_op op_sub (pe_op op_sub (pe_callB call_lenA (by rfl) T.z_len (by decide +kernel) (pa_cons (pv 1) pa_nil)) pe_int) (pe_callB call_lenA (by rfl) T.z_len (by decide +kernel) (pa_cons (pv 2) pa_nil))))))))),
    (sr_seq (sr_asg (fr_cb (ar_cons er_var ar_nil) c_list) gr_name)
      (sr_seq (sr_while (tr_test (fr_op (er_of (fr_cb (ar_cons er_var ar_nil) c_len)) (er_of (fr_cb (ar_cons er_var ar_nil) c_len)) o_ge)) (sr_seq (sr_asg (fr_mut0 mu_pop) gr_name)
      (sr_for (ir_rng1 (ar_cons (er_of (fr_op (er_of (fr_cb (ar_cons er_var ar_nil) c_len)) (er_of fr_int) o_sub)) ar_nil)) gr_name (sr_seq (sr_asg (fr_op (er_of (fr_op (er_of (fr_op (er_of (fr_cb (ar_cons er_var ar_nil) c_len)) (er_of (fr_cb (ar_cons er_var ar_nil) c_len)) o_sub)) (er_of fr_int) o_add)) er_var o_add) gr_name)
      (sr_asg (fr_op (er_of (fr_op er_var er_var o_ix)) (er_of (fr_op er_var (er_of (fr_op er_var er_var o_ix)) o_mul)) o_sub) (gr_sub (fr_of er_var) set_tree))))))
      (sr_ret (fr_op er_var (er_of (fr_op (er_of (fr_lst (fa_cons fr_int fa_nil))) (er_of (fr_op (er_of (fr_op (er_of (fr_cb (ar_cons er_var ar_nil) c_len)) (er_of fr_int) o_sub)) (er_of (fr_cb (ar_cons er_var ar_nil) c_len)) o_sub)) o_mul)) o_add))))⟩
theorem ok__law_whole (T : Txt K mg) : FnG P w K mg base CX0 1 T.a__law_whole T.d__law_whole ["_law_thing"] (spM K 1 (mFn 1 m__law_whole)) :=
  fn_ok (Wx := fun _ _ _ _ => False) (N := ["_law_thing"]) (m := m__law_whole) T.F__law_whole sc__law_whole (by decide) fun cdv A outer s H E hr => ⟨_, (pss_one (ps_ret (pe_and (pe_callB call_isi (by rfl) T.z_isinstance (by decide +kernel) (pa_cons (pv 0) (pa_cons (pe_bltn (v := .ty "int") (by rfl) T.z_int (by decide +kernel) rfl) pa_nil))) (pe_one (pe_not (pe_callB call_isi (by rfl) T.z_isinstance (by decide +kernel) (pa_cons (pv 0) (pa_cons (pe_bltn (v := .ty "bool") (by rfl) T.z_bool (by decide +kernel) rfl) pa_nil)))))))),
    (sr_ret (fr_andV (fr_isi (by exact ⟨_, .ty _, rfl⟩) er_var) (fr_notV (fr_isi (by exact ⟨_, .ty _, rfl⟩) er_var))))⟩
theorem ok__law_chain (T : Txt K mg) : FnG P w K mg base CX0 1 T.a__law_chain T.d__law_chain ["_law_km"] (spM K 1 (mFn 6 m__law_chain)) :=
  fn_ok (Wx := fun _ _ _ _ => False) (N := ["_law_km", "_law_one", "_law_other", "_law_turn", "_law_ahead", "_law_behind"]) (m := m__law_chain) T.F__law_chain sc__law_chain (by decide) fun cdv A outer s H E hr => ⟨_, (pss_cons (ps_par (i := 1) (j := 2) (by rfl) sc__law_chain.nd rfl rfl (by decide) rfl rfl (pa_cons (pe_op op_mulA (pe_lst (pa_cons pe_int pa_nil)) (pv 0)) (pa_cons (pe_op op_addA (pe_lst (pa_cons pe_int pa_nil)) (pe_op op_mulA (pe_lst (pa_cons pe_int pa_nil)) (pe_op op_sub (pv 0) pe_int))) pa_nil)) (by rfl))
      (pss_cons (ps_for PassesOwn.never rfl (pi_range1 (by rfl) T.z_range (pa_cons (pe_op op_sub (pv 0) pe_int) pa_nil)) (pg_name (i := 3) sc__law_chain.nd rfl (by first | exact Or.inl rfl | exact Or.inr rfl)) (pss_one (ps_par (i := 1) (j := 2) (by rfl) sc__law_chain.nd rfl rfl (by decide) rfl rfl (pa_cons (pv 2) (pa_cons (pe_lc rfl sc__law_chain.nd (RZ.pi_zipA (by rfl) T.z_zip (pa_cons (pe_op op_addA (pe_lst (pa_cons pe_int pa_nil)) (pe_slice sl_any (pv 2) po_none (po_some (pe_un un_neg pe_int)))) (pa_cons (pv 1) pa_nil))) (blkOk_by (own := [("_law_ahead", 4), ("_law_behind", 5)]) (by with_unfolding_all rfl)) (fun _ _ _ _ _ => (pg_tup rfl (pgs_cons (pg_name (i := 4) sc__law_chain.nd rfl (by first | exact Or.inl rfl | exact Or.inr rfl)) (pgs_cons (pg_name (i := 5) sc__law_chain.nd rfl (by first | exact Or.inl rfl | exact Or.inr rfl)) pgs_nil)))) (fun _ _ _ _ _ => pts_nil) (fun _ _ _ _ _ => (pe_op op_sub (pv 4) (pv 5)))) pa_nil)) (by rfl))))
      (pss_one (ps_ret (pv 2))))),
    (sr_seq (sr_par (fa_cons (fr_op (er_of (fr_lst (fa_cons fr_int fa_nil))) er_var o_mul) (fa_cons (fr_op (er_of (fr_lst (fa_cons fr_int fa_nil))) (er_of (fr_op (er_of (fr_lst (fa_cons fr_int fa_nil))) (er_of (fr_op er_var (er_of fr_int) o_sub)) o_mul)) o_add) fa_nil)))
      (sr_seq (sr_for (ir_rng1 (ar_cons (er_of (fr_op er_var (er_of fr_int) o_sub)) ar_nil)) gr_name (sr_par (fa_cons (fr_of er_var) (fa_cons (fr_lc (ir_zip (fa_cons (fr_op (er_of (fr_lst (fa_cons fr_int fa_nil))) (er_of (fr_sl er_var or_none (or_some (fr_un (er_of fr_int) o_neg)) o_sl)) o_add) (fa_cons (fr_of er_var) fa_nil))) (gr_tup (grs_cons gr_name (grs_cons gr_name grs_nil))) tr_yes (fr_op er_var er_var o_sub) (by decide)) fa_nil))))
      (sr_ret (fr_of er_var))))⟩
theorem ok__law_value (T : Txt K mg) : FnG P w K mg base CX0 1 T.a__law_value T.d__law_value ["_law_poly", "_law_top", "_law_scale"] (spM K 3 (mFn 6 m__law_value)) :=
  fn_ok (Wx := fun _ _ _ _ => False) (N := ["_law_poly", "_law_top", "_law_scale", "_law_total", "_law_far", "_law_one"]) (m := m__law_value) T.F__law_value sc__law_value (by decide) fun cdv A outer s H E hr => ⟨_, (pss_cons (ps_set (i := 3) sc__law_value.nd rfl (Or.inl rfl) pe_int)
      (pss_cons (ps_set (i := 4) sc__law_value.nd rfl (Or.inl rfl) pe_int)
      (pss_cons (ps_for PassesOwn.never rfl (pi_seq (pe_revSl (pv 0))) (pg_name (i := 5) sc__law_value.nd rfl (by first | exact Or.inl rfl | exact Or.inr rfl)) (pss_cons (ps_set (i := 3) sc__law_value.nd rfl (Or.inl rfl) (pe_op op_addA (pe_op op_mulA (pv 3) (pv 1)) (pe_op op_mulA (pv 5) (pv 4))))
      (pss_one (ps_set (i := 4) sc__law_value.nd rfl (Or.inl rfl) (pe_op op_mulA (pv 4) (pv 2))))))
      (pss_one (ps_ret (pv 3)))))),
    (sr_seq (sr_asg fr_int gr_name)
      (sr_seq (sr_asg fr_int gr_name)
      (sr_seq (sr_for (ir_seq (fr_revSl (fr_of er_var))) gr_name (sr_seq (sr_asg (fr_op (er_of (fr_op er_var er_var o_mul)) (er_of (fr_op er_var er_var o_mul)) o_add) gr_name)
      (sr_asg (fr_op er_var er_var o_mul) gr_name)))
      (sr_ret (fr_of er_var)))))⟩
theorem ok_chain_row (T : Txt K mg) : FnG P w K mg base CX0 2 T.a_chain_row T.d_chain_row ["k"] (spM K 1 (mFn 4 m_chain_row)) :=
  fn_ok (Wx := fun _ _ _ _ => False) (N := ["k", "ahead", "here", "turn"]) (m := m_chain_row) T.F_chain_row sc_chain_row (by decide) fun cdv A outer s H E hr => ⟨_, (pss_cons (ps_par (i := 1) (j := 2) (by rfl) sc_chain_row.nd rfl rfl (by decide) rfl rfl (pa_cons (pe_lst (pa_cons pe_int pa_nil)) (pa_cons (pe_lst (pa_cons pe_int pa_nil)) pa_nil)) (by rfl))
      (pss_cons (ps_for PassesOwn.never rfl (pi_range1 (by rfl) T.z_range (pa_cons (pv 0) pa_nil)) (pg_name (i := 3) sc_chain_row.nd rfl (by first | exact Or.inl rfl | exact Or.inr rfl)) (pss_one (ps_par (i := 1) (j := 2) (by rfl) sc_chain_row.nd rfl rfl (by decide) rfl rfl (pa_cons (pv 2) (pa_cons (pe_callG (ok_less T) (hr.mono (by decide)) (by rfl) T.g_less T.F_less.kp T.b_less pass0 (pa_cons (pe_callG (ok_shifted T) (hr.mono (by decide)) (by rfl) T.g_shifted T.F_shifted.kp T.b_shifted pass0 (pa_cons (pv 2) pa_nil)) (pa_cons (pv 1) pa_nil))) pa_nil)) (by rfl))))
      (pss_one (ps_ret (pv 2))))),
    (sr_seq (sr_par (fa_cons (fr_imm (fr_lst (fa_cons fr_int fa_nil))) (fa_cons (fr_imm (fr_lst (fa_cons fr_int fa_nil))) fa_nil)))
      (sr_seq (sr_for (ir_rng1 (ar_cons er_var ar_nil)) gr_name (sr_par (fa_cons (fr_of er_var) (fa_cons (fr_call (ar_cons (er_of (fr_call (ar_cons er_var ar_nil))) (ar_cons er_var ar_nil))) fa_nil))))
      (sr_ret (fr_of er_var))))⟩
theorem ok__law_order (T : Txt K mg) : FnG P w K mg base CX0 2 T.a__law_order T.d__law_order ["_law_state"] (spM K 1 (mFn 2 m__law_order)) :=
  fn_ok (Wx := fun _ _ _ _ => False) (N := ["_law_state", "_law_way"]) (m := m__law_order) T.F__law_order sc__law_order (by decide) fun cdv A outer s H E hr => ⟨_, (pss_cons (ps_set (i := 1) sc__law_order.nd rfl (Or.inl rfl) (pe_callG (ok__law_take T) (hr.mono (by decide)) (by rfl) T.g__law_take T.F__law_take.kp T.b__law_take pass0 (pa_cons (pv 0) (pa_cons pe_int pa_nil))))
      (pss_cons (ps_if (pt_cmpR (op_eqA hr.u64) (pv 1) pe_int (nomark _)) (pss_one (ps_ret (pe_op op_addA pe_int (pe_callG (ok__law_take T) (hr.mono (by decide)) (by rfl) T.g__law_take T.F__law_take.kp T.b__law_take pass0 (pa_cons (pv 0) (pa_cons pe_int pa_nil)))))) pss_nil)
      (pss_cons (ps_if (pt_cmpR (op_eqA hr.u64) (pv 1) pe_int (nomark _)) (pss_one (ps_ret (pe_op op_addA pe_int (pe_callG (ok__law_take T) (hr.mono (by decide)) (by rfl) T.g__law_take T.F__law_take.kp T.b__law_take pass0 (pa_cons (pv 0) (pa_cons pe_int pa_nil)))))) pss_nil)
      (pss_cons (ps_if (pt_cmpR (op_eqA hr.u64) (pv 1) pe_int (nomark _)) (pss_one (ps_ret (pe_op op_addA pe_int (pe_callG (ok__law_take T) (hr.mono (by decide)) (by rfl) T.g__law_take T.F__law_take.kp T.b__law_take pass0 (pa_cons (pv 0) (pa_cons pe_int pa_nil)))))) pss_nil)
      (pss_one (ps_ret (pe_ix ix_seq (pe_lst (pa_cons pe_int (pa_cons pe_int (pa_cons pe_int (pa_cons pe_int (pa_cons pe_int (pa_cons pe_int (pa_cons pe_int (pa_cons pe_int (pa_cons pe_int (pa_cons pe_int (pa_cons pe_int (pa_cons pe_int pa_nil))))))))))))) (pe_callG (ok__law_take T) (hr.mono (by decide)) (by rfl) T.g__law_take T.F__law_take.kp T.b__law_take pass0 (pa_cons (pv 0) (pa_cons pe_int pa_nil))) (fun _ _ => rfl)))))))),
    (sr_seq (sr_asg (fr_call (ar_cons er_var (ar_cons (er_of fr_int) ar_nil))) gr_name)
      (sr_seq (sr_if (tr_test (fr_op er_var (er_of fr_int) o_eq)) (sr_ret (fr_op (er_of fr_int) (er_of (fr_call (ar_cons er_var (ar_cons (er_of fr_int) ar_nil)))) o_add)) sr_next)
      (sr_seq (sr_if (tr_test (fr_op er_var (er_of fr_int) o_eq)) (sr_ret (fr_op (er_of fr_int) (er_of (fr_call (ar_cons er_var (ar_cons (er_of fr_int) ar_nil)))) o_add)) sr_next)
      (sr_seq (sr_if (tr_test (fr_op er_var (er_of fr_int) o_eq)) (sr_ret (fr_op (er_of fr_int) (er_of (fr_call (ar_cons er_var (ar_cons (er_of fr_int) ar_nil)))) o_add)) sr_next)
      (sr_ret (fr_op (er_of (fr_lst (fa_cons fr_int (fa_cons fr_int (fa_cons fr_int (fa_cons fr_int (fa_cons fr_int (fa_cons fr_int (fa_cons fr_int (fa_cons fr_int (fa_cons fr_int (fa_cons fr_int (fa_cons fr_int (fa_cons fr_int fa_nil)))))))))))))) (er_of (fr_call (ar_cons er_var (ar_cons (er_of fr_int) ar_nil)))) o_ix))))))⟩
theorem ok_whole_row (T : Txt K mg) : FnG P w K mg base CX0 3 T.a_whole_row T.d_whole_row ["many"] (spM K 1 (mFn 2 m_whole_row)) :=
  fn_ok (Wx := fun _ _ _ _ => False) (N := ["many", "number"]) (m := m_whole_row) T.F_whole_row sc_whole_row (by decide) fun cdv A outer s H E hr => ⟨_, (pss_cons (ps_if (pt_cmpR (op_eqA hr.u64) (pe_op op_mod (pv 0) pe_int) pe_int (nomark _)) (pss_one (ps_ret (pe_callG (ok_chain_row T) (hr.mono (by decide)) (by rfl) T.g_chain_row T.F_chain_row.kp T.b_chain_row pass0 (pa_cons (pe_op op_sub (pe_op op_fdivX (pv 0) pe_int) pe_int) pa_nil)))) pss_nil)
      (pss_one (ps_ret (pe_callG (ok_less T) (hr.mono (by decide)) (by rfl) T.g_less T.F_less.kp T.b_less pass0 (pa_cons (pe_callG (ok_chain_row T) (hr.mono (by decide)) (by rfl) T.g_chain_row T.F_chain_row.kp T.b_chain_row pass0 (pa_cons (pe_op op_fdivX (pe_op op_sub (pv 0) pe_int) pe_int) pa_nil)) (pa_cons (pe_lc rfl sc_whole_row.nd (pi_seq (pe_callG (ok_chain_row T) (hr.mono (by decide)) (by rfl) T.g_chain_row T.F_chain_row.kp T.b_chain_row pass0 (pa_cons (pe_op op_fdivX (pe_op op_sub (pv 0) pe_int) pe_int) pa_nil))) (blkOk_by (own := [("number", 1)]) (by with_unfolding_all rfl)) (fun _ _ _ _ _ => (pg_name (i := 1) sc_whole_row.nd rfl (by first | exact Or.inl rfl | exact Or.inr rfl))) (fun _ _ _ _ _ => pts_nil) (fun _ _ _ _ _ => (pe_un un_neg (pv 1)))) pa_nil)))))),
    (sr_seq (sr_if (tr_test (fr_op (er_of (fr_op er_var (er_of fr_int) o_mod)) (er_of fr_int) o_eq)) (sr_ret (fr_call (ar_cons (er_of (fr_op (er_of (fr_op er_var (er_of fr_int) o_div)) (er_of fr_int) o_sub)) ar_nil))) sr_next)
      (sr_ret (fr_call (ar_cons (er_of (fr_call (ar_cons (er_of (fr_op (er_of (fr_op er_var (er_of fr_int) o_sub)) (er_of fr_int) o_div)) ar_nil))) (ar_cons (er_of (fr_imm (fr_lc (ir_seq (fr_call (ar_cons (er_of (fr_op (er_of (fr_op er_var (er_of fr_int) o_sub)) (er_of fr_int) o_div)) ar_nil))) gr_name tr_yes (fr_un er_var o_neg) (by decide)))) ar_nil)))))⟩
theorem ok_least_poly (T : Txt K mg) : FnG P w K mg base CX0 4 T.a_least_poly T.d_least_poly ["M"] (spM K 1 (mFn 6 m_least_poly)) :=
  fn_ok (Wx := fun _ _ _ _ => False) (N := ["M", "made", "part", "row", "lesser", "d"]) (m := m_least_poly) T.F_least_poly sc_least_poly (by decide) fun cdv A outer s H E hr => ⟨_, (pss_cons (ps_set (i := 1) sc_least_poly.nd rfl (Or.inl rfl) pe_dnewK)
      (pss_cons (ps_for PassesOwn.never rfl (pi_seq (pe_lc rfl sc_least_poly.nd (pi_range2 (by rfl) T.z_range (pa_cons pe_int (pa_cons (pe_op op_addA (pe_op op_mulA pe_int (pv 0)) pe_int) pa_nil))) (blkOk_by (own := [("d", 5)]) (by with_unfolding_all rfl)) (fun _ _ _ _ _ => (pg_name (i := 5) sc_least_poly.nd rfl (by first | exact Or.inl rfl | exact Or.inr rfl))) (fun _ _ _ _ _ => (pts_one (pt_cmpR (op_eqA hr.u64) (pe_op op_mod (pe_op op_mulA pe_int (pv 0)) (pv 5)) pe_int (nomark _)))) (fun _ _ _ _ _ => (pv 5)))) (pg_name (i := 2) sc_least_poly.nd rfl (by first | exact Or.inl rfl | exact Or.inr rfl)) (pss_cons (ps_set (i := 3) sc_least_poly.nd rfl (Or.inl rfl) (pe_callG (ok_whole_row T) (hr.mono (by decide)) (by rfl) T.g_whole_row T.F_whole_row.kp T.b_whole_row pass0 (pa_cons (pv 2) pa_nil)))
      (pss_cons (ps_lock (ps_for PassesOwn.never rfl (pi_keys (pv 1)) (pg_name (i := 4) sc_least_poly.nd rfl (by first | exact Or.inl rfl | exact Or.inr rfl)) (pss_one (ps_if (pt_cmpR (op_eqA hr.u64) (pe_op op_mod (pv 2) (pv 4)) pe_int (nomark _)) (pss_one (ps_set (i := 3) sc_least_poly.nd rfl (Or.inl rfl) (pe_callG (ok_divided T) (hr.mono (by decide)) (by rfl) T.g_divided T.F_divided.kp T.b_divided pass0 (pa_cons (pv 3) (pa_cons (pe_dget hr.u1 (pv 1) (pv 4) (fun _ _ => rfl)) pa_nil))))) pss_nil))))
      (pss_one (ps_asg (pv 3) (pg_sub (pv 1) (pv 2) (set_any hr.u1)))))))
      (pss_one (ps_ret (pe_callTy call_tuple_of (by rfl) T.z_tuple (by decide +kernel) (pa_cons (pe_dget hr.u1 (pv 1) (pe_op op_mulA pe_int (pv 0)) (fun _ _ => rfl)) pa_nil)))))),
    (sr_seq (sr_asg fr_dnewK gr_name)
      (sr_seq (sr_for (ir_seq (fr_lc (ir_rng2 (ar_cons (er_of fr_int) (ar_cons (er_of (fr_op (er_of (fr_op (er_of fr_int) er_var o_mul)) (er_of fr_int) o_add)) ar_nil))) gr_name (tr_one (tr_test (fr_op (er_of (fr_op (er_of (fr_op (er_of fr_int) er_var o_mul)) er_var o_mod)) (er_of fr_int) o_eq))) (fr_of er_var) (by decide))) gr_name (sr_seq (sr_asg (fr_call (ar_cons er_var ar_nil)) gr_name)
      (sr_seq (sr_lock (sr_for ir_keys gr_name (sr_if (tr_test (fr_op (er_of (fr_op er_var er_var o_mod)) (er_of fr_int) o_eq)) (sr_asg (fr_call (ar_cons er_var (ar_cons (er_of (fr_dgetK (fr_of er_var))) ar_nil))) gr_name) sr_next)))
      (sr_asg (fr_of er_var) (gr_sub (fr_of er_var) set_tree)))))
      (sr_ret (fr_cb (ar_cons (er_of (fr_dget er_var (er_of (fr_op (er_of fr_int) er_var o_mul)))) ar_nil) c_tuple))))⟩
theorem ok_law (T : Txt K mg) : FnG P w K mg base CX0 5 T.a_law T.d_law ["_law_script"] (spM K 1 (mFn 8 m_law)) :=
  fn_ok (Wx := fun _ _ _ _ => False) (N := ["_law_script", "_law_state", "_law_turn", "_law_km", "_law_poly", "_law_low", "_law_high", "_law_one"]) (m := m_law) T.F_law sc_law (by decide) fun cdv A outer s H E hr => ⟨_, (pss_cons (ps_set (i := 1) sc_law.nd rfl (Or.inl rfl) (pe_callG (ok__law_hand T) (hr.mono (by decide)) (by rfl) T.g__law_hand T.F__law_hand.kp T.b__law_hand pass0 (pa_cons (pv 0) pa_nil)))
      (pss_cons (ps_for PassesOwn.never rfl (pi_range1 (by rfl) T.z_range (pa_cons (pe_op op_addA pe_int (pe_callG (ok__law_take T) (hr.mono (by decide)) (by rfl) T.g__law_take T.F__law_take.kp T.b__law_take pass0 (pa_cons (pv 1) (pa_cons pe_int pa_nil)))) pa_nil)) (pg_name (i := 2) sc_law.nd rfl (by first | exact Or.inl rfl | exact Or.inr rfl)) (pss_cons (ps_set (i := 3) sc_law.nd rfl (Or.inl rfl) (pe_callG (ok__law_order T) (hr.mono (by decide)) (by rfl) T.g__law_order T.F__law_order.kp T.b__law_order pass0 (pa_cons (pv 1) pa_nil)))
      (pss_cons (ps_set (i := 4) sc_law.nd rfl (Or.inl rfl) (pe_callG (ok_least_poly T) (hr.mono (by decide)) (by rfl) T.g_least_poly T.F_least_poly.kp T.b_least_poly pass0 (pa_cons (pv 3) pa_nil)))
      (pss_cons (ps_if (PW.pt (pw_or (pt_not (pt_truth (pe_callB call_isi (by rfl) T.z_isinstance (by decide +kernel) (pa_cons (pv 4) (pa_cons (pe_bltn (v := .ty "tuple") (by rfl) T.z_tuple (by decide +kernel) rfl) pa_nil))) (by intro _; rfl))) (pw_or1 (pt_not (pt_truth (pe_callB (cr_all rfl) (by rfl) T.z_all (by decide +kernel) (pa_cons (pe_lc rfl sc_law.nd (pi_seq (pv 4)) (blkOk_by (own := [("_law_one", 7)]) (by with_unfolding_all rfl)) (fun _ _ _ _ _ => (pg_name (i := 7) sc_law.nd rfl (by first | exact Or.inl rfl | exact Or.inr rfl))) (fun _ _ _ _ _ => pts_nil) (fun _ _ _ _ _ => (pe_callG (ok__law_whole T) (hr.mono (by decide)) (by rfl) T.g__law_whole T.F__law_whole.kp T.b__law_whole pass0 (pa_cons (pv 7) pa_nil)))) pa_nil)) (by intro _; rfl)))))) (pss_one (ps_ret pe_bl)) pss_nil)
      (pss_cons (ps_if (PW.pt (pw_or (pt_cmpR (op_neA hr.u64) (pe_callB call_lenA (by rfl) T.z_len (by decide +kernel) (pa_cons (pv 4) pa_nil)) (pe_op op_addA pe_int (pe_callG (ok__law_degree T) (hr.mono (by decide)) (by rfl) T.g__law_degree T.F__law_degree.kp T.b__law_degree pass0 (pa_cons (pv 3) pa_nil))) (nomark _)) (pw_or (pt_cmpR (op_neA hr.u64) (pe_ix ix_seq (pv 4) (pe_un un_neg pe_int) (fun _ _ => rfl)) pe_int (nomark _)) (pw_or1 (pt_truth (pe_callB (cr_anyI rfl) (by rfl) T.z_any (by decide +kernel) (pa_cons (pe_callG (ok__law_rest T) (hr.mono (by decide)) (by rfl) T.g__law_rest T.F__law_rest.kp T.b__law_rest pass0 (pa_cons (pe_callG (ok__law_chain T) (hr.mono (by decide)) (by rfl) T.g__law_chain T.F__law_chain.kp T.b__law_chain pass0 (pa_cons (pv 3) pa_nil)) (pa_cons (pv 4) pa_nil))) pa_nil)) (by intro _; rfl)))))) (pss_one (ps_ret pe_bl)) pss_nil)
      (pss_cons (ps_asg (pe_callG (ok__law_near T) (hr.mono (by decide)) (by rfl) T.g__law_near T.F__law_near.kp T.b__law_near pass0 (pa_cons (pv 3) (pa_cons (pe_op op_pow pe_int pe_int) pa_nil))) (pg_any rfl (pgs_cons (pg_name (i := 5) sc_law.nd rfl (by first | exact Or.inl rfl | exact Or.inr rfl)) (pgs_cons (pg_name (i := 6) sc_law.nd rfl (by first | exact Or.inl rfl | exact Or.inr rfl)) pgs_nil))))
      (pss_one (ps_if (PW.pt (pw_or (pt_cmpR op_gt (pe_callG (ok__law_value T) (hr.mono (by decide)) (by rfl) T.g__law_value T.F__law_value.kp T.b__law_value pass0 (pa_cons (pv 4) (pa_cons (pv 5) (pa_cons (pe_op op_pow pe_int pe_int) pa_nil)))) pe_int (nomark _)) (pw_or1 (pt_cmpR op_le (pe_callG (ok__law_value T) (hr.mono (by decide)) (by rfl) T.g__law_value T.F__law_value.kp T.b__law_value pass0 (pa_cons (pv 4) (pa_cons (pv 6) (pa_cons (pe_op op_pow pe_int pe_int) pa_nil)))) pe_int (nomark _))))) (pss_one (ps_ret pe_bl)) pss_nil))))))))
      (pss_one (ps_ret pe_bl)))),
    (sr_seq (sr_asg (fr_call (ar_cons er_var ar_nil)) gr_name)
      (sr_seq (sr_for (ir_rng1 (ar_cons (er_of (fr_op (er_of fr_int) (er_of (fr_call (ar_cons er_var (ar_cons (er_of fr_int) ar_nil)))) o_add)) ar_nil)) gr_name (sr_seq (sr_asg (fr_call (ar_cons er_var ar_nil)) gr_name)
      (sr_seq (sr_asg (fr_call (ar_cons er_var ar_nil)) gr_name)
      (sr_seq (sr_if (tr_or (tr_not (tr_tru (er_of (fr_isi (by exact ⟨_, .ty _, rfl⟩) er_var)))) (tr_not (tr_tru (er_of (fr_cb (ar_cons (er_of (fr_lc (ir_seq (fr_of er_var)) gr_name tr_yes (fr_call (ar_cons er_var ar_nil)) (by decide))) ar_nil) c_all))))) (sr_ret fr_bl) sr_next)
      (sr_seq (sr_if (tr_or (tr_test (fr_op (er_of (fr_cb (ar_cons er_var ar_nil) c_len)) (er_of (fr_op (er_of fr_int) (er_of (fr_call (ar_cons er_var ar_nil))) o_add)) o_ne)) (tr_or (tr_test (fr_op (er_of (fr_op er_var (er_of (fr_un (er_of fr_int) o_neg)) o_ix)) (er_of fr_int) o_ne)) (tr_tru (er_of (fr_cb (ar_cons (er_of (fr_call (ar_cons (er_of (fr_call (ar_cons er_var ar_nil))) (ar_cons er_var ar_nil)))) ar_nil) c_anyI))))) (sr_ret fr_bl) sr_next)
      (sr_seq (sr_asg (fr_call (ar_cons er_var (ar_cons (er_of (fr_op (er_of fr_int) (er_of fr_int) o_pow)) ar_nil))) (gr_any (grs_cons gr_name (grs_cons gr_name grs_nil))))
      (sr_if (tr_or (tr_test (fr_op (er_of (fr_call (ar_cons er_var (ar_cons er_var (ar_cons (er_of (fr_op (er_of fr_int) (er_of fr_int) o_pow)) ar_nil))))) (er_of fr_int) o_gt)) (tr_test (fr_op (er_of (fr_call (ar_cons er_var (ar_cons er_var (ar_cons (er_of (fr_op (er_of fr_int) (er_of fr_int) o_pow)) ar_nil))))) (er_of fr_int) o_le))) (sr_ret fr_bl) sr_next)))))))
      (sr_ret fr_bl)))⟩
end
theorem all_mk {l : PySem.W.OpenLaw} {w : World} {K : PySem.W.Frag} {h : Heap} {mg : Str → Option Value} (X : K.In h) (G : h.Ns mainGlobals mg) {fa : Addr} (hfa : mg "law" = some (.ref fa))
    {f0 : Addr} {od0 an0 : Option Addr} {sl0 : Array (Option Value)} {oc0 kV0 dc0 pm0 cd0 ct0 : Value}
    (a0 : PySem.W.nsIn K mainGlobals "shifted" = some (some (.ref f0))) (l0 : K.lookup f0 = some ⟨oc0, od0, .func (PySem.W.fnOf "shifted" "shifted" (defArgs s_shifted) (defBody s_shifted) (defScope s_shifted) .none kV0 dc0 pm0 an0 cd0 ct0), sl0⟩) (c0 : PySem.W.codeIn K cd0 "shifted" = true) (k0 : PySem.W.keepIn K (.ref f0) = true)
    {f1 : Addr} {od1 an1 : Option Addr} {sl1 : Array (Option Value)} {oc1 kV1 dc1 pm1 cd1 ct1 : Value}
    (a1 : PySem.W.nsIn K mainGlobals "less" = some (some (.ref f1))) (l1 : K.lookup f1 = some ⟨oc1, od1, .func (PySem.W.fnOf "less" "less" (defArgs s_less) (defBody s_less) (defScope s_less) .none kV1 dc1 pm1 an1 cd1 ct1), sl1⟩) (c1 : PySem.W.codeIn K cd1 "less" = true) (k1 : PySem.W.keepIn K (.ref f1) = true)
    {f2 : Addr} {od2 an2 : Option Addr} {sl2 : Array (Option Value)} {oc2 kV2 dc2 pm2 cd2 ct2 : Value}
    (a2 : PySem.W.nsIn K mainGlobals "divided" = some (some (.ref f2))) (l2 : K.lookup f2 = some ⟨oc2, od2, .func (PySem.W.fnOf "divided" "divided" (defArgs s_divided) (defBody s_divided) (defScope s_divided) .none kV2 dc2 pm2 an2 cd2 ct2), sl2⟩) (c2 : PySem.W.codeIn K cd2 "divided" = true) (k2 : PySem.W.keepIn K (.ref f2) = true)
    {f3 : Addr} {od3 an3 : Option Addr} {sl3 : Array (Option Value)} {oc3 kV3 dc3 pm3 cd3 ct3 : Value}
    (a3 : PySem.W.nsIn K mainGlobals "_law_hand" = some (some (.ref f3))) (l3 : K.lookup f3 = some ⟨oc3, od3, .func (PySem.W.fnOf "_law_hand" "_law_hand" (defArgs s__law_hand) (defBody s__law_hand) (defScope s__law_hand) .none kV3 dc3 pm3 an3 cd3 ct3), sl3⟩) (c3 : PySem.W.codeIn K cd3 "_law_hand" = true) (k3 : PySem.W.keepIn K (.ref f3) = true)
    {f4 : Addr} {od4 an4 : Option Addr} {sl4 : Array (Option Value)} {oc4 kV4 dc4 pm4 cd4 ct4 : Value}
    (a4 : PySem.W.nsIn K mainGlobals "_law_take" = some (some (.ref f4))) (l4 : K.lookup f4 = some ⟨oc4, od4, .func (PySem.W.fnOf "_law_take" "_law_take" (defArgs s__law_take) (defBody s__law_take) (defScope s__law_take) .none kV4 dc4 pm4 an4 cd4 ct4), sl4⟩) (c4 : PySem.W.codeIn K cd4 "_law_take" = true) (k4 : PySem.W.keepIn K (.ref f4) = true)
    {f5 : Addr} {od5 an5 : Option Addr} {sl5 : Array (Option Value)} {oc5 kV5 dc5 pm5 cd5 ct5 : Value}
    (a5 : PySem.W.nsIn K mainGlobals "_law_near" = some (some (.ref f5))) (l5 : K.lookup f5 = some ⟨oc5, od5, .func (PySem.W.fnOf "_law_near" "_law_near" (defArgs s__law_near) (defBody s__law_near) (defScope s__law_near) .none kV5 dc5 pm5 an5 cd5 ct5), sl5⟩) (c5 : PySem.W.codeIn K cd5 "_law_near" = true) (k5 : PySem.W.keepIn K (.ref f5) = true)
    {f6 : Addr} {od6 an6 : Option Addr} {sl6 : Array (Option Value)} {oc6 kV6 dc6 pm6 cd6 ct6 : Value}
    (a6 : PySem.W.nsIn K mainGlobals "_law_degree" = some (some (.ref f6))) (l6 : K.lookup f6 = some ⟨oc6, od6, .func (PySem.W.fnOf "_law_degree" "_law_degree" (defArgs s__law_degree) (defBody s__law_degree) (defScope s__law_degree) .none kV6 dc6 pm6 an6 cd6 ct6), sl6⟩) (c6 : PySem.W.codeIn K cd6 "_law_degree" = true) (k6 : PySem.W.keepIn K (.ref f6) = true)
    {f7 : Addr} {od7 an7 : Option Addr} {sl7 : Array (Option Value)} {oc7 kV7 dc7 pm7 cd7 ct7 : Value}
    (a7 : PySem.W.nsIn K mainGlobals "_law_rest" = some (some (.ref f7))) (l7 : K.lookup f7 = some ⟨oc7, od7, .func (PySem.W.fnOf "_law_rest" "_law_rest" (defArgs s__law_rest) (defBody s__law_rest) (defScope s__law_rest) .none kV7 dc7 pm7 an7 cd7 ct7), sl7⟩) (c7 : PySem.W.codeIn K cd7 "_law_rest" = true) (k7 : PySem.W.keepIn K (.ref f7) = true)
    {f8 : Addr} {od8 an8 : Option Addr} {sl8 : Array (Option Value)} {oc8 kV8 dc8 pm8 cd8 ct8 : Value}
    (a8 : PySem.W.nsIn K mainGlobals "_law_whole" = some (some (.ref f8))) (l8 : K.lookup f8 = some ⟨oc8, od8, .func (PySem.W.fnOf "_law_whole" "_law_whole" (defArgs s__law_whole) (defBody s__law_whole) (defScope s__law_whole) .none kV8 dc8 pm8 an8 cd8 ct8), sl8⟩) (c8 : PySem.W.codeIn K cd8 "_law_whole" = true) (k8 : PySem.W.keepIn K (.ref f8) = true)
    {f9 : Addr} {od9 an9 : Option Addr} {sl9 : Array (Option Value)} {oc9 kV9 dc9 pm9 cd9 ct9 : Value}
    (a9 : PySem.W.nsIn K mainGlobals "_law_chain" = some (some (.ref f9))) (l9 : K.lookup f9 = some ⟨oc9, od9, .func (PySem.W.fnOf "_law_chain" "_law_chain" (defArgs s__law_chain) (defBody s__law_chain) (defScope s__law_chain) .none kV9 dc9 pm9 an9 cd9 ct9), sl9⟩) (c9 : PySem.W.codeIn K cd9 "_law_chain" = true) (k9 : PySem.W.keepIn K (.ref f9) = true)
    {f10 : Addr} {od10 an10 : Option Addr} {sl10 : Array (Option Value)} {oc10 kV10 dc10 pm10 cd10 ct10 : Value}
    (a10 : PySem.W.nsIn K mainGlobals "_law_value" = some (some (.ref f10))) (l10 : K.lookup f10 = some ⟨oc10, od10, .func (PySem.W.fnOf "_law_value" "_law_value" (defArgs s__law_value) (defBody s__law_value) (defScope s__law_value) .none kV10 dc10 pm10 an10 cd10 ct10), sl10⟩) (c10 : PySem.W.codeIn K cd10 "_law_value" = true) (k10 : PySem.W.keepIn K (.ref f10) = true)
    {f11 : Addr} {od11 an11 : Option Addr} {sl11 : Array (Option Value)} {oc11 kV11 dc11 pm11 cd11 ct11 : Value}
    (a11 : PySem.W.nsIn K mainGlobals "chain_row" = some (some (.ref f11))) (l11 : K.lookup f11 = some ⟨oc11, od11, .func (PySem.W.fnOf "chain_row" "chain_row" (defArgs s_chain_row) (defBody s_chain_row) (defScope s_chain_row) .none kV11 dc11 pm11 an11 cd11 ct11), sl11⟩) (c11 : PySem.W.codeIn K cd11 "chain_row" = true) (k11 : PySem.W.keepIn K (.ref f11) = true)
    {f12 : Addr} {od12 an12 : Option Addr} {sl12 : Array (Option Value)} {oc12 kV12 dc12 pm12 cd12 ct12 : Value}
    (a12 : PySem.W.nsIn K mainGlobals "_law_order" = some (some (.ref f12))) (l12 : K.lookup f12 = some ⟨oc12, od12, .func (PySem.W.fnOf "_law_order" "_law_order" (defArgs s__law_order) (defBody s__law_order) (defScope s__law_order) .none kV12 dc12 pm12 an12 cd12 ct12), sl12⟩) (c12 : PySem.W.codeIn K cd12 "_law_order" = true) (k12 : PySem.W.keepIn K (.ref f12) = true)
    {f13 : Addr} {od13 an13 : Option Addr} {sl13 : Array (Option Value)} {oc13 kV13 dc13 pm13 cd13 ct13 : Value}
    (a13 : PySem.W.nsIn K mainGlobals "whole_row" = some (some (.ref f13))) (l13 : K.lookup f13 = some ⟨oc13, od13, .func (PySem.W.fnOf "whole_row" "whole_row" (defArgs s_whole_row) (defBody s_whole_row) (defScope s_whole_row) .none kV13 dc13 pm13 an13 cd13 ct13), sl13⟩) (c13 : PySem.W.codeIn K cd13 "whole_row" = true) (k13 : PySem.W.keepIn K (.ref f13) = true)
    {f14 : Addr} {od14 an14 : Option Addr} {sl14 : Array (Option Value)} {oc14 kV14 dc14 pm14 cd14 ct14 : Value}
    (a14 : PySem.W.nsIn K mainGlobals "least_poly" = some (some (.ref f14))) (l14 : K.lookup f14 = some ⟨oc14, od14, .func (PySem.W.fnOf "least_poly" "least_poly" (defArgs s_least_poly) (defBody s_least_poly) (defScope s_least_poly) .none kV14 dc14 pm14 an14 cd14 ct14), sl14⟩) (c14 : PySem.W.codeIn K cd14 "least_poly" = true) (k14 : PySem.W.keepIn K (.ref f14) = true)
    {f15 : Addr} {od15 an15 : Option Addr} {sl15 : Array (Option Value)} {oc15 kV15 dc15 pm15 cd15 ct15 : Value}
    (a15 : PySem.W.nsIn K mainGlobals "law" = some (some (.ref f15))) (l15 : K.lookup f15 = some ⟨oc15, od15, .func (PySem.W.fnOf "law" "law" (defArgs s_law) (defBody s_law) (defScope s_law) .none kV15 dc15 pm15 an15 cd15 ct15), sl15⟩) (c15 : PySem.W.codeIn K cd15 "law" = true) (k15 : PySem.W.keepIn K (.ref f15) = true)
    (z_abs : PySem.W.nsIn K mainGlobals "abs" = some none)
    (z_all : PySem.W.nsIn K mainGlobals "all" = some none)
    (z_any : PySem.W.nsIn K mainGlobals "any" = some none)
    (z_bool : PySem.W.nsIn K mainGlobals "bool" = some none)
    (z_enumerate : PySem.W.nsIn K mainGlobals "enumerate" = some none)
    (z_int : PySem.W.nsIn K mainGlobals "int" = some none)
    (z_isinstance : PySem.W.nsIn K mainGlobals "isinstance" = some none)
    (z_len : PySem.W.nsIn K mainGlobals "len" = some none)
    (z_list : PySem.W.nsIn K mainGlobals "list" = some none)
    (z_range : PySem.W.nsIn K mainGlobals "range" = some none)
    (z_tuple : PySem.W.nsIn K mainGlobals "tuple" = some none)
    (z_zip : PySem.W.nsIn K mainGlobals "zip" = some none) :
    ∃ fd : FuncData, (∀ (s : Shared) (v : Value), BindsTo s fd ⟨[v], []⟩ [("_law_script", v)]) ∧ ∀ base : Heap, K.In base → base.Ns mainGlobals mg → FnG l.prog w K mg base CX0 5 fa fd ["_law_script"] (spM K 1 (mFn 8 m_law)) := by
  have e := hfa.symm.trans (PySem.W.mg_of X G a15)
  cases e
  have F0 := fun_mk (st := s_shifted) l0 c0 k0
  have b0 := F0.binds (ps := ["row"]) fun _ _ _ _ _ _ us hl => match us, hl with | [_], _ => rfl
  have F1 := fun_mk (st := s_less) l1 c1 k1
  have b1 := F1.binds (ps := ["one", "other"]) fun _ _ _ _ _ _ us hl => match us, hl with | [_, _], _ => rfl
  have F2 := fun_mk (st := s_divided) l2 c2 k2
  have b2 := F2.binds (ps := ["row", "by"]) fun _ _ _ _ _ _ us hl => match us, hl with | [_, _], _ => rfl
  have F3 := fun_mk (st := s__law_hand) l3 c3 k3
  have b3 := F3.binds (ps := ["_law_script"]) fun _ _ _ _ _ _ us hl => match us, hl with | [_], _ => rfl
  have F4 := fun_mk (st := s__law_take) l4 c4 k4
  have b4 := F4.binds (ps := ["_law_state", "_law_many"]) fun _ _ _ _ _ _ us hl => match us, hl with | [_, _], _ => rfl
  have F5 := fun_mk (st := s__law_near) l5 c5 k5
  have b5 := F5.binds (ps := ["_law_km", "_law_scale"]) fun _ _ _ _ _ _ us hl => match us, hl with | [_, _], _ => rfl
  have F6 := fun_mk (st := s__law_degree) l6 c6 k6
  have b6 := F6.binds (ps := ["_law_km"]) fun _ _ _ _ _ _ us hl => match us, hl with | [_], _ => rfl
  have F7 := fun_mk (st := s__law_rest) l7 c7 k7
  have b7 := F7.binds (ps := ["_law_row", "_law_poly"]) fun _ _ _ _ _ _ us hl => match us, hl with | [_, _], _ => rfl
  have F8 := fun_mk (st := s__law_whole) l8 c8 k8
  have b8 := F8.binds (ps := ["_law_thing"]) fun _ _ _ _ _ _ us hl => match us, hl with | [_], _ => rfl
  have F9 := fun_mk (st := s__law_chain) l9 c9 k9
  have b9 := F9.binds (ps := ["_law_km"]) fun _ _ _ _ _ _ us hl => match us, hl with | [_], _ => rfl
  have F10 := fun_mk (st := s__law_value) l10 c10 k10
  have b10 := F10.binds (ps := ["_law_poly", "_law_top", "_law_scale"]) fun _ _ _ _ _ _ us hl => match us, hl with | [_, _, _], _ => rfl
  have F11 := fun_mk (st := s_chain_row) l11 c11 k11
  have b11 := F11.binds (ps := ["k"]) fun _ _ _ _ _ _ us hl => match us, hl with | [_], _ => rfl
  have F12 := fun_mk (st := s__law_order) l12 c12 k12
  have b12 := F12.binds (ps := ["_law_state"]) fun _ _ _ _ _ _ us hl => match us, hl with | [_], _ => rfl
  have F13 := fun_mk (st := s_whole_row) l13 c13 k13
  have b13 := F13.binds (ps := ["many"]) fun _ _ _ _ _ _ us hl => match us, hl with | [_], _ => rfl
  have F14 := fun_mk (st := s_least_poly) l14 c14 k14
  have b14 := F14.binds (ps := ["M"]) fun _ _ _ _ _ _ us hl => match us, hl with | [_], _ => rfl
  have F15 := fun_mk (st := s_law) l15 c15 k15
  have b15 := F15.binds (ps := ["_law_script"]) fun _ _ _ _ _ _ us hl => match us, hl with | [_], _ => rfl
  let T : Txt K mg := ⟨f0, _, F0, PySem.W.mg_of X G a0, b0, f1, _, F1, PySem.W.mg_of X G a1, b1, f2, _, F2, PySem.W.mg_of X G a2, b2, f3, _, F3, PySem.W.mg_of X G a3, b3, f4, _, F4, PySem.W.mg_of X G a4, b4, f5, _, F5, PySem.W.mg_of X G a5, b5, f6, _, F6, PySem.W.mg_of X G a6, b6, f7, _, F7, PySem.W.mg_of X G a7, b7, f8, _, F8, PySem.W.mg_of X G a8, b8, f9, _, F9, PySem.W.mg_of X G a9, b9, f10, _, F10, PySem.W.mg_of X G a10, b10, f11, _, F11, PySem.W.mg_of X G a11, b11, f12, _, F12, PySem.W.mg_of X G a12, b12, f13, _, F13, PySem.W.mg_of X G a13, b13, f14, _, F14, PySem.W.mg_of X G a14, b14, fa, _, F15, PySem.W.mg_of X G a15, b15, PySem.W.mg_none_of X G z_abs, PySem.W.mg_none_of X G z_all, PySem.W.mg_none_of X G z_any, PySem.W.mg_none_of X G z_bool, PySem.W.mg_none_of X G z_enumerate, PySem.W.mg_none_of X G z_int, PySem.W.mg_none_of X G z_isinstance, PySem.W.mg_none_of X G z_len, PySem.W.mg_none_of X G z_list, PySem.W.mg_none_of X G z_range, PySem.W.mg_none_of X G z_tuple, PySem.W.mg_none_of X G z_zip⟩
  exact ⟨_, fun s v => .of_eq rfl, fun base _ _ => ok_law T⟩
end WK
namespace WK
open PySem L2 FL
def tS (a b c : Int) : Tr := .lst [.imm (.int a), .imm (.int b), .imm (.int c)]
def wL (ws : List Nat) : List PyData := ws.map fun w => PyData.int (w : Nat)
def rowD (n : Nat) (G : Nat → Nat → Int) (i : Nat) : PyData := .tuple ((List.range n).map fun j => PyData.int (G i j))
theorem tab_is (n : Nat) (G : Nat → Nat → Int) : tabD n G = .tuple ((List.range n).map (rowD n G)) := rfl
theorem bools_all : ∀ bs : List Bool, boolsOf (bs.map PyData.bool) = some bs
  | [] => rfl
  | b :: bs => by rw [List.map_cons, boolsOf, bools_all bs]; rfl
theorem fAll_bools (bs : List Bool) : fAll [.lst ((bs.map PyData.bool).map Tr.imm)] = some (.imm (.bool (bs.all id))) := by
  unfold fAll lstD
  show (Option.bind (seqOf _) _).bind _ = _
  rw [q1Z]
  simp only [Option.bind_some, Bool.false_eq_true, if_false, bools_all, Option.map_some]
theorem range_wL (n : Nat) : rangeD 0 n = wL (List.range n) := by
  unfold rangeD wL
  refine List.map_congr_left fun i _ => ?_
  rw [Int.zero_add]
end WK
namespace WK
open PySem L2 FL
theorem take_one (a b c n : Int) (ha : 0 ≤ a) (hb : 0 ≤ b) (hc : 0 ≤ c) (hb2 : b < 2 ^ 61) (hc2 : c < 2 ^ 60) (hn : 0 < n) (hn2 : n < 2 ^ 80) :
    ∃ r a' c', mFn 4 m__law_take [tS a b c, .imm (.int n)] = some (.imm (.int r), [tS a' b c', .imm (.int n)]) ∧ 0 ≤ r ∧ r < n ∧ 0 ≤ a' ∧ c ≤ c' ∧ c' ≤ c + 1 := by
  have hN : Bd 80 n := .of (by omega) (by omega)
  by_cases h : 0 < a
  · refine ⟨a % n, a / n, c, ?_, Int.emod_nonneg _ (by omega), Int.emod_lt_of_pos _ hn, Int.ediv_nonneg ha (by omega), by omega, by omega⟩
    have e1 := v_divI (a := a) (cdiv_ok hn hN (by decide))
    have e2 := v_modI (a := a) hn
    rw [v_fn]
    unfold m__law_take tS
    simp -implicitDefEqProofs only [q00,q01,q02,q03,q04,q05,q06,q07,q08,q09,q0a,q0b,q0c,q0d,q0e,q0f,q0g,q0h,q0i,q0j,q0k,q0l,q0m,q0n,q0o,q0p,q0q,q0r,q0s,q0t,q0u,q0v,q0w,q0x,q0y,q0z,q0A,q0B,q0C,q0D,q0E,q0F,q0G,q0H,q0I,q0J,q0K,q0L,q0M,q0N,q0O,q0P,q0Q,q0R,q0S,q0T,FL.toDs_imms,FL.imms_imms,q0U,q0V,q0W,q0X,q0Y,q0Z,q10q,q11,q12,q13,q14,q15,q16,q17,q18,q19,q1a,q1b,q1c,q1d,q1e,q1f,q1g,q1h,q1i,q1j,q1k,q1l,q1m,q1n,q1o,q1p,q1q,q1r,q1s,q1t,q1u,q1v,q1w,q1x,q1y,q1z,q1A,q1B,q1C,q1D,q1E,q1F,q1G,q1H,q1I,q1J,q1K,q1L,q1M,q1N,q1O,q1P,q1Q,q1R,q1S,q1T,q1U,q1V,q1W,q1X,q1Y,q1Z,q20,q21,q22,q23,q24,q25,q26,q27,q28,q29,q2a,q2bq,q2c,q2d,q2e,q2f,q2g,q2h,q2i,q2j,q2k,q2l,q2m,q2n,q2o,q2p,q2q,q2r,q2s,q2t,q2u,q2v,q2w,q2x,q2y,q2z,q2A,q2B,q2C,q2D,q2E,q2F,q2G,q2H,q2I,q2J,q2K,q2L,q2M,q2N,q2O,q2P,q2Q,q2R,q2S,q2T,q2U,q2V,q2W,q2X,q2Y,q2Z,q30,q31,q32,q33,q34,q35,q36,q37,q38,q39,q3a,q3b,q3c,q3d,q3e,q3f,q3g,q3h,q3i,FL.callD,Option.bind_some,Option.bind_none,List.getElem?_cons_zero,List.getElem?_cons_succ,List.getElem?_nil,List.set_cons_zero,List.set_cons_succ,List.length_cons,List.length_nil,List.filterMap_cons,List.filterMap_nil,decide_eq_true_eq,if_true,if_false,true_and,and_true,Nat.reduceAdd,Nat.reduceLeDiff,Nat.reduceEqDiff,↓reduceIte,Bool.false_eq_true,FL.startE,FL.backs,List.map_cons,List.map_nil,List.cons_append,List.nil_append,Nat.reduceSub,List.replicate_succ,List.replicate_zero,List.nodup_nil,List.nodup_cons,List.not_mem_nil,not_false_eq_true,and_self,reduceCtorEq,Option.map_some,Option.map_none,q2g,q2h,q2i,q2j,q2k,q2l,h,e1,e2]
  · have hC : Bd 61 (c + 1) := .of (by omega) (by omega)
    have hB : Bd 61 b := .of (by omega) (by omega)
    have c1 : Bd 17 (65537 : Int) := by decide
    have f1 := c1.fmul hC (by decide)
    have f2 := (c1.mul hC).fmul hC (by decide)
    have g2 := (c1.mul hC).mul hC
    have g3 := (hB.mono (n := 139) (by decide)).add g2
    have g4 := g3.add (b := 11) (Bd.mono (m := 4) (by decide) (by decide))
    have c2 : Bd 16 (48271 : Int) := by decide
    have f3 := g4.fmul c2 (by decide)
    have f4 := v_modI (a := (b + 65537 * (c + 1) * (c + 1) + 11) * 48271) (b := 2305843009213693921) (by decide)
    generalize hx : (b + 65537 * (c + 1) * (c + 1) + 11) * 48271 % 2305843009213693921 = x at f4
    have hX : Bd 61 x := by rw [← hx]; exact .mod (by decide) (by decide)
    have f5 := v_modI (a := x) (b := 1000003) (by decide)
    have c3 : Bd 17 (99991 : Int) := by decide
    have f6 := c3.fmul hC (by decide)
    have g5 := (Bd.mono (n := 78) (Bd.mod (n := 20) (a := x) (b := 1000003) (by decide) (by decide)) (by decide)).add (c3.mul hC)
    have f7 := hX.fmul g5 (by decide)
    have f8 := v_modI (a := x * (x % 1000003 + 99991 * (c + 1))) (b := 2305843009213693907) (by decide)
    generalize hy : x * (x % 1000003 + 99991 * (c + 1)) % 2305843009213693907 = y at f8
    have f9 := v_divI (a := y) (b := 97) (cdiv_ok (n := 20) (by decide) (by decide) (by decide))
    have f10 := v_divI (a := y) (b := 1000033) (cdiv_ok (n := 20) (by decide) (by decide) (by decide))
    have f11 := v_modI (a := y / 97 + y / 1000033) hn
    refine ⟨(y / 97 + y / 1000033) % n, a, c + 1, ?_, Int.emod_nonneg _ (by omega), Int.emod_lt_of_pos _ hn, ha, by omega, by omega⟩
    rw [v_fn]
    unfold m__law_take tS
    simp -implicitDefEqProofs only [q00,q01,q02,q03,q04,q05,q06,q07,q08,q09,q0a,q0b,q0c,q0d,q0e,q0f,q0g,q0h,q0i,q0j,q0k,q0l,q0m,q0n,q0o,q0p,q0q,q0r,q0s,q0t,q0u,q0v,q0w,q0x,q0y,q0z,q0A,q0B,q0C,q0D,q0E,q0F,q0G,q0H,q0I,q0J,q0K,q0L,q0M,q0N,q0O,q0P,q0Q,q0R,q0S,q0T,FL.toDs_imms,FL.imms_imms,q0U,q0V,q0W,q0X,q0Y,q0Z,q10q,q11,q12,q13,q14,q15,q16,q17,q18,q19,q1a,q1b,q1c,q1d,q1e,q1f,q1g,q1h,q1i,q1j,q1k,q1l,q1m,q1n,q1o,q1p,q1q,q1r,q1s,q1t,q1u,q1v,q1w,q1x,q1y,q1z,q1A,q1B,q1C,q1D,q1E,q1F,q1G,q1H,q1I,q1J,q1K,q1L,q1M,q1N,q1O,q1P,q1Q,q1R,q1S,q1T,q1U,q1V,q1W,q1X,q1Y,q1Z,q20,q21,q22,q23,q24,q25,q26,q27,q28,q29,q2a,q2bq,q2c,q2d,q2e,q2f,q2g,q2h,q2i,q2j,q2k,q2l,q2m,q2n,q2o,q2p,q2q,q2r,q2s,q2t,q2u,q2v,q2w,q2x,q2y,q2z,q2A,q2B,q2C,q2D,q2E,q2F,q2G,q2H,q2I,q2J,q2K,q2L,q2M,q2N,q2O,q2P,q2Q,q2R,q2S,q2T,q2U,q2V,q2W,q2X,q2Y,q2Z,q30,q31,q32,q33,q34,q35,q36,q37,q38,q39,q3a,q3b,q3c,q3d,q3e,q3f,q3g,q3h,q3i,FL.callD,Option.bind_some,Option.bind_none,List.getElem?_cons_zero,List.getElem?_cons_succ,List.getElem?_nil,List.set_cons_zero,List.set_cons_succ,List.length_cons,List.length_nil,List.filterMap_cons,List.filterMap_nil,decide_eq_true_eq,if_true,if_false,true_and,and_true,Nat.reduceAdd,Nat.reduceLeDiff,Nat.reduceEqDiff,↓reduceIte,Bool.false_eq_true,FL.startE,FL.backs,List.map_cons,List.map_nil,List.cons_append,List.nil_append,Nat.reduceSub,List.replicate_succ,List.replicate_zero,List.nodup_nil,List.nodup_cons,List.not_mem_nil,not_false_eq_true,and_self,reduceCtorEq,Option.map_some,Option.map_none,q2g,q2h,q2i,q2j,q2k,q2l,h,f1,f2,f3,f4,f5,f6,f7,f8,f9,f10,f11]
theorem hand_loop1 (sc : PyData) (ds : List PyData) (hd : ∀ (i : Nat) (d : PyData), ds[i]? = some d → ∃ k : Int, d = PyData.int k) (hl : ds.length ≤ 63) :
    ∃ a f s3, forD (mName 3) B__law_hand_1 ds [.val (.imm sc), .val (tS 0 0 0), .val (.imm (.int 1)), .no, .no, .no] = some (.nx [.val (.imm sc), .val (tS a 0 0), .val (.imm (.int f)), ov s3, .no, .no]) ∧ 0 ≤ a := by
  obtain ⟨E', e, a, f, s3, rfl, h0, h1, h2⟩ := forD_inv (g := mName 3) (ms := B__law_hand_1)
    (fun i E => ∃ a f s3, E = [.val (.imm sc), .val (tS a 0 0), .val (.imm (.int f)), ov s3, .no, .no] ∧ 0 ≤ a ∧ 0 ≤ f ∧ Bd (200 * i + 1) f) ds
    (fun i d E hi ⟨a, f, s3, hE, h0, h1, h2⟩ => by
      obtain ⟨k, rfl⟩ := hd i d hi
      have hlt : i < 63 := by
        have := (List.getElem?_eq_some_iff.mp hi).1
        omega
      have p1 := v_powI (a := 10) (b := 60) (by decide)
      generalize hP : (10 : Int) ^ Int.toNat 60 = P at p1
      have hP0 : 0 < P := by rw [← hP]; decide
      have hP1 : Bd 200 P := by rw [← hP]; decide
      have p2 := v_modI (a := if k < 0 then -k else k) hP0
      generalize hm : (if k < 0 then -k else k) % P = m at p2
      have hm0 : 0 ≤ m := by rw [← hm]; exact Int.emod_nonneg _ (by omega)
      have hm1 : Bd 200 m := by rw [← hm]; exact .mod hP0 hP1
      have p3 := hm1.fmul h2 (by omega)
      have p4 := h2.fmul hP1 (by omega)
      refine ⟨[.val (.imm sc), .val (tS a 0 0), .val (.imm (.int f)), .val (.imm (.int k)), .no, .no], [.val (.imm sc), .val (tS (a + m * f) 0 0), .val (.imm (.int (f * P))), .val (.imm (.int k)), .no, .no], ?_, .inl ?_, a + m * f, f * P, some (.imm (.int k)), rfl, ?_, ?_, ?_⟩
      · rw [hE]; simp -implicitDefEqProofs only [q00,q01,q02,q03,q04,q05,q06,q07,q08,q09,q0a,q0b,q0c,q0d,q0e,q0f,q0g,q0h,q0i,q0j,q0k,q0l,q0m,q0n,q0o,q0p,q0q,q0r,q0s,q0t,q0u,q0v,q0w,q0x,q0y,q0z,q0A,q0B,q0C,q0D,q0E,q0F,q0G,q0H,q0I,q0J,q0K,q0L,q0M,q0N,q0O,q0P,q0Q,q0R,q0S,q0T,FL.toDs_imms,FL.imms_imms,q0U,q0V,q0W,q0X,q0Y,q0Z,q10q,q11,q12,q13,q14,q15,q16,q17,q18,q19,q1a,q1b,q1c,q1d,q1e,q1f,q1g,q1h,q1i,q1j,q1k,q1l,q1m,q1n,q1o,q1p,q1q,q1r,q1s,q1t,q1u,q1v,q1w,q1x,q1y,q1z,q1A,q1B,q1C,q1D,q1E,q1F,q1G,q1H,q1I,q1J,q1K,q1L,q1M,q1N,q1O,q1P,q1Q,q1R,q1S,q1T,q1U,q1V,q1W,q1X,q1Y,q1Z,q20,q21,q22,q23,q24,q25,q26,q27,q28,q29,q2a,q2bq,q2c,q2d,q2e,q2f,q2g,q2h,q2i,q2j,q2k,q2l,q2m,q2n,q2o,q2p,q2q,q2r,q2s,q2t,q2u,q2v,q2w,q2x,q2y,q2z,q2A,q2B,q2C,q2D,q2E,q2F,q2G,q2H,q2I,q2J,q2K,q2L,q2M,q2N,q2O,q2P,q2Q,q2R,q2S,q2T,q2U,q2V,q2W,q2X,q2Y,q2Z,q30,q31,q32,q33,q34,q35,q36,q37,q38,q39,q3a,q3b,q3c,q3d,q3e,q3f,q3g,q3h,q3i,FL.callD,Option.bind_some,Option.bind_none,List.getElem?_cons_zero,List.getElem?_cons_succ,List.getElem?_nil,List.set_cons_zero,List.set_cons_succ,List.length_cons,List.length_nil,List.filterMap_cons,List.filterMap_nil,decide_eq_true_eq,if_true,if_false,true_and,and_true,Nat.reduceAdd,Nat.reduceLeDiff,Nat.reduceEqDiff,↓reduceIte,Bool.false_eq_true,FL.startE,FL.backs,List.map_cons,List.map_nil,List.cons_append,List.nil_append,Nat.reduceSub,List.replicate_succ,List.replicate_zero,List.nodup_nil,List.nodup_cons,List.not_mem_nil,not_false_eq_true,and_self,reduceCtorEq,Option.map_some,Option.map_none]
      · unfold B__law_hand_1 tS
        simp -implicitDefEqProofs only [q00,q01,q02,q03,q04,q05,q06,q07,q08,q09,q0a,q0b,q0c,q0d,q0e,q0f,q0g,q0h,q0i,q0j,q0k,q0l,q0m,q0n,q0o,q0p,q0q,q0r,q0s,q0t,q0u,q0v,q0w,q0x,q0y,q0z,q0A,q0B,q0C,q0D,q0E,q0F,q0G,q0H,q0I,q0J,q0K,q0L,q0M,q0N,q0O,q0P,q0Q,q0R,q0S,q0T,FL.toDs_imms,FL.imms_imms,q0U,q0V,q0W,q0X,q0Y,q0Z,q10q,q11,q12,q13,q14,q15,q16,q17,q18,q19,q1a,q1b,q1c,q1d,q1e,q1f,q1g,q1h,q1i,q1j,q1k,q1l,q1m,q1n,q1o,q1p,q1q,q1r,q1s,q1t,q1u,q1v,q1w,q1x,q1y,q1z,q1A,q1B,q1C,q1D,q1E,q1F,q1G,q1H,q1I,q1J,q1K,q1L,q1M,q1N,q1O,q1P,q1Q,q1R,q1S,q1T,q1U,q1V,q1W,q1X,q1Y,q1Z,q20,q21,q22,q23,q24,q25,q26,q27,q28,q29,q2a,q2bq,q2c,q2d,q2e,q2f,q2g,q2h,q2i,q2j,q2k,q2l,q2m,q2n,q2o,q2p,q2q,q2r,q2s,q2t,q2u,q2v,q2w,q2x,q2y,q2z,q2A,q2B,q2C,q2D,q2E,q2F,q2G,q2H,q2I,q2J,q2K,q2L,q2M,q2N,q2O,q2P,q2Q,q2R,q2S,q2T,q2U,q2V,q2W,q2X,q2Y,q2Z,q30,q31,q32,q33,q34,q35,q36,q37,q38,q39,q3a,q3b,q3c,q3d,q3e,q3f,q3g,q3h,q3i,FL.callD,Option.bind_some,Option.bind_none,List.getElem?_cons_zero,List.getElem?_cons_succ,List.getElem?_nil,List.set_cons_zero,List.set_cons_succ,List.length_cons,List.length_nil,List.filterMap_cons,List.filterMap_nil,decide_eq_true_eq,if_true,if_false,true_and,and_true,Nat.reduceAdd,Nat.reduceLeDiff,Nat.reduceEqDiff,↓reduceIte,Bool.false_eq_true,FL.startE,FL.backs,List.map_cons,List.map_nil,List.cons_append,List.nil_append,Nat.reduceSub,List.replicate_succ,List.replicate_zero,List.nodup_nil,List.nodup_cons,List.not_mem_nil,not_false_eq_true,and_self,reduceCtorEq,Option.map_some,Option.map_none,p1,p2,p3,p4]
      · exact Int.add_nonneg h0 (Int.mul_nonneg hm0 h1)
      · exact Int.mul_nonneg h1 (by omega)
      · exact (h2.mul hP1).mono (by omega))
    [.val (.imm sc), .val (tS 0 0 0), .val (.imm (.int 1)), .no, .no, .no] ⟨0, 1, none, rfl, by decide, by decide, by decide⟩
  exact ⟨a, f, s3, e, h0⟩
theorem hand_loop2 (sc : PyData) (ds : List PyData) (hd : ∀ (i : Nat) (d : PyData), ds[i]? = some d → ∃ k : Int, d = PyData.int k) (hl : ds.length ≤ 63) (a : Int) (s2 s3 : Option Tr) :
    ∃ b s3' s4 s5, forD (mTupG 2 (gsCons (mName 4) (gsCons (mName 3) gsNil))) B__law_hand_2 (enumD ds) [.val (.imm sc), .val (tS a 0 0), ov s2, ov s3, .no, .no] = some (.nx [.val (.imm sc), .val (tS a b 0), ov s2, ov s3', ov s4, ov s5]) ∧ 0 ≤ b ∧ b < 2 ^ 61 := by
  obtain ⟨E', e, b, s3', s4, s5, rfl, h0, h1⟩ := forD_inv (g := (mTupG 2 (gsCons (mName 4) (gsCons (mName 3) gsNil)))) (ms := B__law_hand_2)
    (fun i E => ∃ b s3 s4 s5, E = [.val (.imm sc), .val (tS a b 0), ov s2, ov s3, ov s4, ov s5] ∧ 0 ≤ b ∧ b < 2 ^ 61) (enumD ds)
    (fun i d E hi ⟨b, s3, s4, s5, hE, h0, h1⟩ => by
      obtain ⟨x, hx, rfl⟩ := enumD_item hi
      obtain ⟨k, rfl⟩ := hd i x hx
      have hlt : i < 63 := by
        have := (List.getElem?_eq_some_iff.mp hx).1
        omega
      have p1 := v_modI (a := k) (b := 2305843009213693951) (by decide)
      have p2 := Bd.fmul (m := 20) (n := 20) (a := 7919) (b := (i : Nat)) (by decide) (.of (by omega) (by omega)) (by decide)
      have p3 := Bd.fmul (m := 61) (n := 20) (a := b) (b := 48271) (.of (by omega) (by omega)) (by decide) (by decide)
      generalize hm : k % 2305843009213693951 + 7919 * (i : Nat) + 3 = m
      have p4 := v_modI (a := b * 48271 + m) (b := 2305843009213693951) (by decide)
      refine ⟨[.val (.imm sc), .val (tS a b 0), ov s2, .val (.imm (.int k)), .val (.imm (.int (i : Nat))), ov s5], [.val (.imm sc), .val (tS a ((b * 48271 + m) % 2305843009213693951) 0), ov s2, .val (.imm (.int k)), .val (.imm (.int (i : Nat))), .val (.imm (.int m))], ?_, .inl ?_, (b * 48271 + m) % 2305843009213693951, some (.imm (.int k)), some (.imm (.int (i : Nat))), some (.imm (.int m)), rfl, ?_, ?_⟩
      · rw [hE]; simp -implicitDefEqProofs only [q00,q01,q02,q03,q04,q05,q06,q07,q08,q09,q0a,q0b,q0c,q0d,q0e,q0f,q0g,q0h,q0i,q0j,q0k,q0l,q0m,q0n,q0o,q0p,q0q,q0r,q0s,q0t,q0u,q0v,q0w,q0x,q0y,q0z,q0A,q0B,q0C,q0D,q0E,q0F,q0G,q0H,q0I,q0J,q0K,q0L,q0M,q0N,q0O,q0P,q0Q,q0R,q0S,q0T,FL.toDs_imms,FL.imms_imms,q0U,q0V,q0W,q0X,q0Y,q0Z,q10q,q11,q12,q13,q14,q15,q16,q17,q18,q19,q1a,q1b,q1c,q1d,q1e,q1f,q1g,q1h,q1i,q1j,q1k,q1l,q1m,q1n,q1o,q1p,q1q,q1r,q1s,q1t,q1u,q1v,q1w,q1x,q1y,q1z,q1A,q1B,q1C,q1D,q1E,q1F,q1G,q1H,q1I,q1J,q1K,q1L,q1M,q1N,q1O,q1P,q1Q,q1R,q1S,q1T,q1U,q1V,q1W,q1X,q1Y,q1Z,q20,q21,q22,q23,q24,q25,q26,q27,q28,q29,q2a,q2bq,q2c,q2d,q2e,q2f,q2g,q2h,q2i,q2j,q2k,q2l,q2m,q2n,q2o,q2p,q2q,q2r,q2s,q2t,q2u,q2v,q2w,q2x,q2y,q2z,q2A,q2B,q2C,q2D,q2E,q2F,q2G,q2H,q2I,q2J,q2K,q2L,q2M,q2N,q2O,q2P,q2Q,q2R,q2S,q2T,q2U,q2V,q2W,q2X,q2Y,q2Z,q30,q31,q32,q33,q34,q35,q36,q37,q38,q39,q3a,q3b,q3c,q3d,q3e,q3f,q3g,q3h,q3i,FL.callD,Option.bind_some,Option.bind_none,List.getElem?_cons_zero,List.getElem?_cons_succ,List.getElem?_nil,List.set_cons_zero,List.set_cons_succ,List.length_cons,List.length_nil,List.filterMap_cons,List.filterMap_nil,decide_eq_true_eq,if_true,if_false,true_and,and_true,Nat.reduceAdd,Nat.reduceLeDiff,Nat.reduceEqDiff,↓reduceIte,Bool.false_eq_true,FL.startE,FL.backs,List.map_cons,List.map_nil,List.cons_append,List.nil_append,Nat.reduceSub,List.replicate_succ,List.replicate_zero,List.nodup_nil,List.nodup_cons,List.not_mem_nil,not_false_eq_true,and_self,reduceCtorEq,Option.map_some,Option.map_none]
      · unfold B__law_hand_2 tS
        simp -implicitDefEqProofs only [q00,q01,q02,q03,q04,q05,q06,q07,q08,q09,q0a,q0b,q0c,q0d,q0e,q0f,q0g,q0h,q0i,q0j,q0k,q0l,q0m,q0n,q0o,q0p,q0q,q0r,q0s,q0t,q0u,q0v,q0w,q0x,q0y,q0z,q0A,q0B,q0C,q0D,q0E,q0F,q0G,q0H,q0I,q0J,q0K,q0L,q0M,q0N,q0O,q0P,q0Q,q0R,q0S,q0T,FL.toDs_imms,FL.imms_imms,q0U,q0V,q0W,q0X,q0Y,q0Z,q10q,q11,q12,q13,q14,q15,q16,q17,q18,q19,q1a,q1b,q1c,q1d,q1e,q1f,q1g,q1h,q1i,q1j,q1k,q1l,q1m,q1n,q1o,q1p,q1q,q1r,q1s,q1t,q1u,q1v,q1w,q1x,q1y,q1z,q1A,q1B,q1C,q1D,q1E,q1F,q1G,q1H,q1I,q1J,q1K,q1L,q1M,q1N,q1O,q1P,q1Q,q1R,q1S,q1T,q1U,q1V,q1W,q1X,q1Y,q1Z,q20,q21,q22,q23,q24,q25,q26,q27,q28,q29,q2a,q2bq,q2c,q2d,q2e,q2f,q2g,q2h,q2i,q2j,q2k,q2l,q2m,q2n,q2o,q2p,q2q,q2r,q2s,q2t,q2u,q2v,q2w,q2x,q2y,q2z,q2A,q2B,q2C,q2D,q2E,q2F,q2G,q2H,q2I,q2J,q2K,q2L,q2M,q2N,q2O,q2P,q2Q,q2R,q2S,q2T,q2U,q2V,q2W,q2X,q2Y,q2Z,q30,q31,q32,q33,q34,q35,q36,q37,q38,q39,q3a,q3b,q3c,q3d,q3e,q3f,q3g,q3h,q3i,FL.callD,Option.bind_some,Option.bind_none,List.getElem?_cons_zero,List.getElem?_cons_succ,List.getElem?_nil,List.set_cons_zero,List.set_cons_succ,List.length_cons,List.length_nil,List.filterMap_cons,List.filterMap_nil,decide_eq_true_eq,if_true,if_false,true_and,and_true,Nat.reduceAdd,Nat.reduceLeDiff,Nat.reduceEqDiff,↓reduceIte,Bool.false_eq_true,FL.startE,FL.backs,List.map_cons,List.map_nil,List.cons_append,List.nil_append,Nat.reduceSub,List.replicate_succ,List.replicate_zero,List.nodup_nil,List.nodup_cons,List.not_mem_nil,not_false_eq_true,and_self,reduceCtorEq,Option.map_some,Option.map_none,p1,p2,p3,p4,hm]
      · exact Int.emod_nonneg _ (by decide)
      · have := Int.emod_lt_of_pos (b * 48271 + m) (b := 2305843009213693951) (by decide)
        omega)
    [.val (.imm sc), .val (tS a 0 0), ov s2, ov s3, .no, .no] ⟨0, s3, none, none, rfl, by decide, by decide⟩
  exact ⟨b, s3', s4, s5, e, h0, h1⟩
theorem hand_one (ns : List Int) (h63 : ns.length ≤ 63) : ∃ a b, mFn 6 m__law_hand [scriptT ns] = some (tS a b 0, [scriptT ns]) ∧ 0 ≤ a ∧ 0 ≤ b ∧ b < 2 ^ 61 := by
  have hm : ∀ d ∈ ns.map PyData.int, ∃ k : Int, d = PyData.int k := fun d hd => by
    obtain ⟨k, -, rfl⟩ := List.mem_map.mp hd
    exact ⟨k, rfl⟩
  have hc : ∀ i d, (cutL (ns.map PyData.int) none (some 63))[i]? = some d → ∃ k : Int, d = PyData.int k := fun i d h => hm d (cutL_mem h)
  have hl : (cutL (ns.map PyData.int) none (some 63)).length ≤ 63 := Nat.le_trans (cutL_len _ _ _) (by simpa using h63)
  obtain ⟨a1, f, t3, e1, ha1⟩ := hand_loop1 (.list (ns.map PyData.int)) _ hc hl
  have p1 := v_powI (a := 10) (b := 18) (by decide)
  have hL : ns = [] ∨ ∃ n, atI (ns.map PyData.int) 0 = some (PyData.int n) ∧ (0 : Int) < (ns.length : Int) := by
    cases ns with
    | nil => exact .inl rfl
    | cons n r => exact .inr ⟨n, q2g, by simp only [List.length_cons]; omega⟩
  unfold tS at e1
  have key := fun (a : Int) (s2 s3 : Option Tr) => hand_loop2 (.list (ns.map PyData.int)) _ hc hl a s2 s3
  unfold tS at key
  rcases hL with hL | ⟨n, hn, hp⟩
  · obtain ⟨b, s3', s4, s5, e2, hb0, hb1⟩ := key 0 none none
    refine ⟨0, b, ?_, by decide, hb0, hb1⟩
    simp only [show ov none = SL.no from rfl] at e2
    have hz : ¬ (0 : Int) < (ns.length : Int) := by rw [hL]; decide
    rw [v_fn]; unfold m__law_hand scriptT tS
    simp -implicitDefEqProofs only [q00,q01,q02,q03,q04,q05,q06,q07,q08,q09,q0a,q0b,q0c,q0d,q0e,q0f,q0g,q0h,q0i,q0j,q0k,q0l,q0m,q0n,q0o,q0p,q0q,q0r,q0s,q0t,q0u,q0v,q0w,q0x,q0y,q0z,q0A,q0B,q0C,q0D,q0E,q0F,q0G,q0H,q0I,q0J,q0K,q0L,q0M,q0N,q0O,q0P,q0Q,q0R,q0S,q0T,FL.toDs_imms,FL.imms_imms,q0U,q0V,q0W,q0X,q0Y,q0Z,q10q,q11,q12,q13,q14,q15,q16,q17,q18,q19,q1a,q1b,q1c,q1d,q1e,q1f,q1g,q1h,q1i,q1j,q1k,q1l,q1m,q1n,q1o,q1p,q1q,q1r,q1s,q1t,q1u,q1v,q1w,q1x,q1y,q1z,q1A,q1B,q1C,q1D,q1E,q1F,q1G,q1H,q1I,q1J,q1K,q1L,q1M,q1N,q1O,q1P,q1Q,q1R,q1S,q1T,q1U,q1V,q1W,q1X,q1Y,q1Z,q20,q21,q22,q23,q24,q25,q26,q27,q28,q29,q2a,q2bq,q2c,q2d,q2e,q2f,q2g,q2h,q2i,q2j,q2k,q2l,q2m,q2n,q2o,q2p,q2q,q2r,q2s,q2t,q2u,q2v,q2w,q2x,q2y,q2z,q2A,q2B,q2C,q2D,q2E,q2F,q2G,q2H,q2I,q2J,q2K,q2L,q2M,q2N,q2O,q2P,q2Q,q2R,q2S,q2T,q2U,q2V,q2W,q2X,q2Y,q2Z,q30,q31,q32,q33,q34,q35,q36,q37,q38,q39,q3a,q3b,q3c,q3d,q3e,q3f,q3g,q3h,q3i,FL.callD,Option.bind_some,Option.bind_none,List.getElem?_cons_zero,List.getElem?_cons_succ,List.getElem?_nil,List.set_cons_zero,List.set_cons_succ,List.length_cons,List.length_nil,List.filterMap_cons,List.filterMap_nil,decide_eq_true_eq,if_true,if_false,true_and,and_true,Nat.reduceAdd,Nat.reduceLeDiff,Nat.reduceEqDiff,↓reduceIte,Bool.false_eq_true,FL.startE,FL.backs,List.map_cons,List.map_nil,List.cons_append,List.nil_append,Nat.reduceSub,List.replicate_succ,List.replicate_zero,List.nodup_nil,List.nodup_cons,List.not_mem_nil,not_false_eq_true,and_self,reduceCtorEq,Option.map_some,Option.map_none,hz,List.length_map,e2]
  · by_cases hb : (10 : Int) ^ Int.toNat 18 ≤ n
    · obtain ⟨b, s3', s4, s5, e2, hb0, hb1⟩ := key a1 (some (.imm (.int f))) t3
      refine ⟨a1, b, ?_, ha1, hb0, hb1⟩
      rw [show ov (some (.imm (.int f))) = SL.val (.imm (.int f)) from rfl] at e2
      rw [v_fn]; unfold m__law_hand scriptT tS
      simp -implicitDefEqProofs only [q00,q01,q02,q03,q04,q05,q06,q07,q08,q09,q0a,q0b,q0c,q0d,q0e,q0f,q0g,q0h,q0i,q0j,q0k,q0l,q0m,q0n,q0o,q0p,q0q,q0r,q0s,q0t,q0u,q0v,q0w,q0x,q0y,q0z,q0A,q0B,q0C,q0D,q0E,q0F,q0G,q0H,q0I,q0J,q0K,q0L,q0M,q0N,q0O,q0P,q0Q,q0R,q0S,q0T,FL.toDs_imms,FL.imms_imms,q0U,q0V,q0W,q0X,q0Y,q0Z,q10q,q11,q12,q13,q14,q15,q16,q17,q18,q19,q1a,q1b,q1c,q1d,q1e,q1f,q1g,q1h,q1i,q1j,q1k,q1l,q1m,q1n,q1o,q1p,q1q,q1r,q1s,q1t,q1u,q1v,q1w,q1x,q1y,q1z,q1A,q1B,q1C,q1D,q1E,q1F,q1G,q1H,q1I,q1J,q1K,q1L,q1M,q1N,q1O,q1P,q1Q,q1R,q1S,q1T,q1U,q1V,q1W,q1X,q1Y,q1Z,q20,q21,q22,q23,q24,q25,q26,q27,q28,q29,q2a,q2bq,q2c,q2d,q2e,q2f,q2g,q2h,q2i,q2j,q2k,q2l,q2m,q2n,q2o,q2p,q2q,q2r,q2s,q2t,q2u,q2v,q2w,q2x,q2y,q2z,q2A,q2B,q2C,q2D,q2E,q2F,q2G,q2H,q2I,q2J,q2K,q2L,q2M,q2N,q2O,q2P,q2Q,q2R,q2S,q2T,q2U,q2V,q2W,q2X,q2Y,q2Z,q30,q31,q32,q33,q34,q35,q36,q37,q38,q39,q3a,q3b,q3c,q3d,q3e,q3f,q3g,q3h,q3i,FL.callD,Option.bind_some,Option.bind_none,List.getElem?_cons_zero,List.getElem?_cons_succ,List.getElem?_nil,List.set_cons_zero,List.set_cons_succ,List.length_cons,List.length_nil,List.filterMap_cons,List.filterMap_nil,decide_eq_true_eq,if_true,if_false,true_and,and_true,Nat.reduceAdd,Nat.reduceLeDiff,Nat.reduceEqDiff,↓reduceIte,Bool.false_eq_true,FL.startE,FL.backs,List.map_cons,List.map_nil,List.cons_append,List.nil_append,Nat.reduceSub,List.replicate_succ,List.replicate_zero,List.nodup_nil,List.nodup_cons,List.not_mem_nil,not_false_eq_true,and_self,reduceCtorEq,Option.map_some,Option.map_none,hp,hn,hb,p1,List.length_map,e1,e2]
    · obtain ⟨b, s3', s4, s5, e2, hb0, hb1⟩ := key 0 none none
      simp only [show ov none = SL.no from rfl] at e2
      refine ⟨0, b, ?_, by decide, hb0, hb1⟩
      rw [v_fn]; unfold m__law_hand scriptT tS
      simp -implicitDefEqProofs only [q00,q01,q02,q03,q04,q05,q06,q07,q08,q09,q0a,q0b,q0c,q0d,q0e,q0f,q0g,q0h,q0i,q0j,q0k,q0l,q0m,q0n,q0o,q0p,q0q,q0r,q0s,q0t,q0u,q0v,q0w,q0x,q0y,q0z,q0A,q0B,q0C,q0D,q0E,q0F,q0G,q0H,q0I,q0J,q0K,q0L,q0M,q0N,q0O,q0P,q0Q,q0R,q0S,q0T,FL.toDs_imms,FL.imms_imms,q0U,q0V,q0W,q0X,q0Y,q0Z,q10q,q11,q12,q13,q14,q15,q16,q17,q18,q19,q1a,q1b,q1c,q1d,q1e,q1f,q1g,q1h,q1i,q1j,q1k,q1l,q1m,q1n,q1o,q1p,q1q,q1r,q1s,q1t,q1u,q1v,q1w,q1x,q1y,q1z,q1A,q1B,q1C,q1D,q1E,q1F,q1G,q1H,q1I,q1J,q1K,q1L,q1M,q1N,q1O,q1P,q1Q,q1R,q1S,q1T,q1U,q1V,q1W,q1X,q1Y,q1Z,q20,q21,q22,q23,q24,q25,q26,q27,q28,q29,q2a,q2bq,q2c,q2d,q2e,q2f,q2g,q2h,q2i,q2j,q2k,q2l,q2m,q2n,q2o,q2p,q2q,q2r,q2s,q2t,q2u,q2v,q2w,q2x,q2y,q2z,q2A,q2B,q2C,q2D,q2E,q2F,q2G,q2H,q2I,q2J,q2K,q2L,q2M,q2N,q2O,q2P,q2Q,q2R,q2S,q2T,q2U,q2V,q2W,q2X,q2Y,q2Z,q30,q31,q32,q33,q34,q35,q36,q37,q38,q39,q3a,q3b,q3c,q3d,q3e,q3f,q3g,q3h,q3i,FL.callD,Option.bind_some,Option.bind_none,List.getElem?_cons_zero,List.getElem?_cons_succ,List.getElem?_nil,List.set_cons_zero,List.set_cons_succ,List.length_cons,List.length_nil,List.filterMap_cons,List.filterMap_nil,decide_eq_true_eq,if_true,if_false,true_and,and_true,Nat.reduceAdd,Nat.reduceLeDiff,Nat.reduceEqDiff,↓reduceIte,Bool.false_eq_true,FL.startE,FL.backs,List.map_cons,List.map_nil,List.cons_append,List.nil_append,Nat.reduceSub,List.replicate_succ,List.replicate_zero,List.nodup_nil,List.nodup_cons,List.not_mem_nil,not_false_eq_true,and_self,reduceCtorEq,Option.map_some,Option.map_none,hp,hn,hb,p1,List.length_map,e2]
def Hd (t : Tr) (N : Int) : Prop := ∃ a b c : Int, t = tS a b c ∧ 0 ≤ a ∧ 0 ≤ b ∧ b < 2 ^ 61 ∧ 0 ≤ c ∧ c ≤ N
theorem Hd.le {t : Tr} {N M : Int} (h : Hd t N) (k : N ≤ M) : Hd t M := by
  obtain ⟨a, b, c, e, h1, h2, h3, h4, h5⟩ := h
  exact ⟨a, b, c, e, h1, h2, h3, h4, by omega⟩
theorem Hd.lst {t : Tr} {N : Int} (h : Hd t N) : ∃ x y z, t = .lst [x, y, z] := by
  obtain ⟨a, b, c, e, _⟩ := h
  exact ⟨_, _, _, e⟩
theorem take_hd {t : Tr} {N : Int} (h : Hd t N) (hN : N < 2 ^ 60) (n : Int) (hn : 0 < n) (hn2 : n < 2 ^ 80) : ∃ r t', mFn 4 m__law_take [t, .imm (.int n)] = some (.imm (.int r), [t', .imm (.int n)]) ∧ 0 ≤ r ∧ r < n ∧ Hd t' (N + 1) := by
  obtain ⟨a, b, c, rfl, h1, h2, h3, h4, h5⟩ := h
  obtain ⟨r, a', c', e, k1, k2, k3, k4, k5⟩ := take_one a b c n h1 h2 h4 h3 (by omega) hn hn2
  exact ⟨r, _, e, k1, k2, a', b, c', rfl, k3, h2, h3, by omega, by omega⟩
end WK
namespace WK
open PySem L2 FL
theorem lcD_over {α : Type} {g : Tr → En → Option En} {m : MF} {vs : List Nat} {E : En} (emb : α → PyData) (f : α → Tr) : ∀ (l : List α) (_ : ∀ x ∈ l, ∃ E1 E2, g (.imm (emb x)) E = some E1 ∧ m E1 = some (f x, E2) ∧ wipeE E2 vs = some E) (acc : List Tr), acc.length + l.length ≤ 16777216 → lcD g mYes m vs (l.map emb) acc E = some (acc ++ l.map f, E)
  | [], _, acc, _ => by simp [lcD]
  | x :: l, h, acc, hl => by
    simp only [List.length_cons] at hl
    obtain ⟨E1, E2, e1, e2, e3⟩ := h x List.mem_cons_self
    rw [List.map_cons, lcD, e1, Option.bind_some]
    simp only [Option.bind_some, mYes, if_true, e2]
    rw [if_pos (by omega), e3, Option.bind_some, lcD_over emb f l (fun y hy => h y (List.mem_cons_of_mem _ hy)) (acc ++ [f x]) (by simp; omega)]
    simp
theorem lcD_imm {α : Type} {g : Tr → En → Option En} {m : MF} {vs : List Nat} {E : En} (emb f : α → PyData) (l : List α) (h : ∀ x ∈ l, ∃ E1 E2, g (.imm (emb x)) E = some E1 ∧ m E1 = some (.imm (f x), E2) ∧ wipeE E2 vs = some E) (hl : l.length ≤ 16777216) : lcD g mYes m vs (l.map emb) [] E = some ((l.map f).map Tr.imm, E) := by
  have := lcD_over (g := g) (m := m) (vs := vs) (E := E) emb (fun x => .imm (f x)) l h [] (by simpa using hl)
  rw [this, List.nil_append, List.map_map]; rfl
theorem lcD_if {α : Type} {g : Tr → En → Option En} {mt : MT} {m : MF} {vs : List Nat} {E : En} (emb f : α → PyData) (P : α → Bool) : ∀ (l : List α) (_ : ∀ x ∈ l, ∃ E1 E2, g (.imm (emb x)) E = some E1 ∧ mt E1 = some (P x, E2) ∧ (P x = true → ∃ E3, m E2 = some (.imm (f x), E3) ∧ wipeE E3 vs = some E) ∧ (P x = false → wipeE E2 vs = some E)) (acc : List Tr), acc.length + l.length ≤ 16777216 → lcD g mt m vs (l.map emb) acc E = some (acc ++ ((l.filter P).map f).map Tr.imm, E)
  | [], _, acc, _ => by simp [lcD]
  | x :: l, h, acc, hl => by
    simp only [List.length_cons] at hl
    obtain ⟨E1, E2, e1, e2, e3, e4⟩ := h x List.mem_cons_self
    rw [List.map_cons, lcD, e1, Option.bind_some, e2, Option.bind_some]
    cases hp : P x with
    | true =>
      obtain ⟨E3, e5, e6⟩ := e3 hp
      rw [if_pos rfl, e5, Option.bind_some, if_pos (by omega), e6, Option.bind_some]
      show lcD g mt m vs (l.map emb) (acc ++ [.imm (f x)]) E = _
      rw [lcD_if emb f P l (fun y hy => h y (List.mem_cons_of_mem _ hy)) (acc ++ [Tr.imm (f x)]) (by simp; omega), List.filter_cons_of_pos hp]
      simp
    | false =>
      rw [if_neg (fun z => Bool.noConfusion z), e4 hp, Option.bind_some, lcD_if emb f P l (fun y hy => h y (List.mem_cons_of_mem _ hy)) acc (by omega), List.filter_cons_of_neg (by rw [hp]; decide)]
theorem forD_over {α σ : Type} {g : Tr → En → Option En} {ms : MS} (emb : α → PyData) (st : σ → α → σ) (I : σ → En → Prop) : ∀ (l : List α) (_ : ∀ x ∈ l, ∀ s E, I s E → ∃ E1 E2, g (.imm (emb x)) E = some E1 ∧ ms E1 = some (.nx E2) ∧ I (st s x) E2) (s : σ) (E : En), I s E → ∃ E', forD g ms (l.map emb) E = some (.nx E') ∧ I (l.foldl st s) E'
  | [], _, s, E, h => ⟨E, rfl, h⟩
  | x :: l, h, s, E, hI => by
    obtain ⟨E1, E2, e1, e2, h2⟩ := h x List.mem_cons_self s E hI
    obtain ⟨E', e3, h3⟩ := forD_over emb st I l (fun y hy => h y (List.mem_cons_of_mem _ hy)) (st s x) E2 h2
    exact ⟨E', by rw [List.map_cons, forD, e1, Option.bind_some, e2]; exact e3, h3⟩
abbrev iE (i : Nat) : PyData := .int (i : Nat)
theorem range_iE (n : Nat) : rangeD 0 n = (List.range n).map iE := range_wL n
theorem lenT_tab {n : Nat} {G : Nat → Nat → Int} : lenT (.imm (tabD n G)) = some n := by
  rw [tab_is]
  show some (List.length _) = _
  rw [List.length_map, List.length_range]
theorem lenT_row {n : Nat} {G : Nat → Nat → Int} {i : Nat} : lenT (.imm (rowD n G i)) = some n := by
  unfold rowD
  show some (List.length _) = _
  rw [List.length_map, List.length_range]
end WK
namespace WK
open PySem L2 FL
abbrev lD (l : List Int) : PyData := .list (l.map PyData.int)
abbrev tI (l : List Int) : PyData := .tuple (l.map PyData.int)
abbrev lT (l : List Int) : Tr := .lst ((l.map PyData.int).map Tr.imm)
theorem mul_zero {m n : Nat} (hm : m < 1000000) (hn : n < 1000000) : fMul (.lst [.imm (.int 0)]) (.imm (.int ((m : Int) - (n : Int)))) = some (lT (List.replicate (m - n) 0)) := by
  unfold fMul
  show (some [PyData.int 0]).bind _ = _
  rw [Option.bind_some, if_pos ⟨by omega, by omega, by simp; omega⟩, show ((m : Int) - (n : Int)).toNat = m - n by omega]
  congr 3
  generalize m - n = q
  induction q with
  | zero => rfl
  | succ q ih => rw [List.replicate_succ, List.replicate_succ, List.flatten_cons, ih]; rfl
theorem add_L {a b : List Int} (h : a.length + b.length ≤ 16777216) : fAdd (lT a) (lT b) = some (lT (a ++ b)) := by
  unfold lT
  rw [q1w, imms_imms, imms_imms, Option.bind_some, Option.bind_some, if_pos (by simpa using h), ← List.map_append]
theorem ix_D {l : List Int} {k : Nat} (h : k < l.length) : atI (l.map PyData.int) (k : Int) = some (.int (l.getD k 0)) := FL.atI_nat (by rw [List.getElem?_map, List.getElem?_eq_getElem h, List.getD_eq_getElem?_getD, List.getElem?_eq_getElem h]; rfl)
theorem ix_T {l : List Int} {k : Nat} (h : k < l.length) : atI ((l.map PyData.int).map Tr.imm) (k : Int) = some (.imm (.int (l.getD k 0))) := FL.atI_nat (by rw [List.getElem?_map, List.getElem?_map, List.getElem?_eq_getElem h, List.getD_eq_getElem?_getD, List.getElem?_eq_getElem h]; rfl)
theorem fIx_T {l : List Int} {k : Nat} (h : k < l.length) : fIx (lT l) (.imm (.int (k : Int))) = some (.imm (.int (l.getD k 0))) := by
  unfold lT
  rw [q1J, ix_T h]; rfl
theorem fIx_D {l : List Int} {k : Nat} (h : k < l.length) : fIx (.imm (tI l)) (.imm (.int (k : Int))) = some (.imm (.int (l.getD k 0))) := by
  unfold tI
  rw [q1H, ix_D h]; rfl
theorem set_T {l : List Int} {k : Nat} {v : Int} (h : k < l.length) : fSetA (lT l) (.imm (.int (k : Int))) (.imm (.int v)) = some (lT (l.set k v)) := by
  unfold lT
  rw [q25, ixN_nat (by simpa using h), Option.map_some, List.map_set, List.map_set]
theorem len_T (l : List Int) : lenT (lT l) = some l.length := by
  unfold lT
  rw [q1O, List.length_map, List.length_map]
theorem len_I (l : List Int) : lenT (.imm (tI l)) = some l.length := by
  unfold tI
  rw [q1M, List.length_map]
def enI (b : List Int) (k : Nat) : PyData := .tuple [.int (k : Nat), .int (b.getD k 0)]
theorem enum_I (b : List Int) : enumD (b.map PyData.int) = (List.range b.length).map (enI b) := by
  refine List.ext_getElem? fun i => ?_
  by_cases h : i < b.length
  · rw [range_get h]
    unfold enumD enI
    rw [List.getElem?_map, List.getElem?_zipIdx, List.getElem?_map, List.getElem?_eq_getElem h, List.getD_eq_getElem?_getD, List.getElem?_eq_getElem h]
    simp
  · rw [List.getElem?_eq_none (by simp [enumD]; omega), List.getElem?_eq_none (by simp; omega)]
theorem v_augL {E : En} {i k : Nat} {fi : En → Option Int} {f : Tr → Tr → Option Tr} {me : MR} {l : List Int} {o : Rf} {u : Tr} {w : Int} {s : SL} (h1 : fi E = some (k : Int)) (h2 : E[i]? = some s) (h3 : s.tree = some (lT l)) (hk : k < l.length) (h4 : me E = some (o, E)) (h5 : view E o = some u)
    (h6 : f (.imm (.int (l.getD k 0))) u = some (.imm (.int w))) : mAugS i fi f me E = some (.nx (E.set i (s.with (lT (l.set k w))))) := by
  have q : at? E i = some (lT l) := by unfold at?; rw [h2]; exact h3
  have hx : ixAt (lT l) (k : Int) = some (l.getD k 0) := by
    show (atI _ _).bind iOf = _
    rw [ix_T hk]; rfl
  unfold mAugS
  rw [h1, Option.bind_some, q, Option.bind_some, if_pos ⟨by omega, rfl⟩, hx, Option.bind_some, h4, Option.bind_some]
  dsimp only
  rw [h5, Option.bind_some, h6, Option.bind_some, h2, Option.bind_some, h3, Option.bind_some, set_T hk, Option.bind_some]
theorem rng_ok {a : Int} (h1 : -1000000000 ≤ a) (h2 : a ≤ 1000000000) : rngOk a = true := by
  simp only [rngOk, Bool.and_eq_true, decide_eq_true_eq]
  omega
def downN (a d : Nat) : List Nat := (List.range (a - d)).map fun i => a - 1 - i
theorem rngDn_down (a d : Nat) : rngDn ((a : Int) - 1) ((d : Int) - 1) = (downN a d).map iE := by
  unfold rngDn downN
  rw [show ((a : Int) - 1 - ((d : Int) - 1)).toNat = a - d by omega, List.map_map]
  refine List.map_congr_left fun i hi => ?_
  have := List.mem_range.mp hi
  show PyData.int _ = PyData.int ((a - 1 - i : Nat) : Int)
  congr 1
  omega
theorem rngDn_zero (a : Nat) : rngDn ((a : Int) - 1) (-1) = (downN a 0).map iE := rngDn_down a 0
theorem mem_down {a d k : Nat} : k ∈ downN a d ↔ d ≤ k ∧ k < a := by
  unfold downN
  rw [List.mem_map]
  constructor
  · rintro ⟨i, hi, rfl⟩
    have := List.mem_range.mp hi
    omega
  · rintro ⟨h1, h2⟩
    exact ⟨a - 1 - k, List.mem_range.mpr (by omega), by omega⟩
def subL (b m : List Int) : List Int := (List.range b.length).foldl (fun l k => l.set k (l.getD k 0 - b.getD k 0)) m
def lessP (a b : List Int) : List Int := subL b (a ++ List.replicate (b.length - a.length) 0)
theorem len_fold {f : List Int → Nat → List Int} (h : ∀ l k, (f l k).length = l.length) : ∀ (ks : List Nat) (m : List Int), (ks.foldl f m).length = m.length
  | [], _ => rfl
  | k :: ks, m => by rw [List.foldl_cons, len_fold h ks, h]
theorem len_subL (b m : List Int) : (subL b m).length = m.length := len_fold (fun l k => List.length_set) _ _
theorem len_less (a b : List Int) : (lessP a b).length = max a.length b.length := by
  unfold lessP
  rw [len_subL, List.length_append, List.length_replicate]
  omega
theorem less_loop (s0 : SL) (b m : List Int) (hb : b.length ≤ m.length) : ∃ x y, forD (mTupG 2 (gsCons (mName 3) (gsCons (mName 4) gsNil))) B_less_1 ((List.range b.length).map (enI b)) [s0, .val (.imm (lD b)), .val (lT m), .no, .no] = some (.nx [s0, .val (.imm (lD b)), .val (lT (subL b m)), ov x, ov y]) := by
  obtain ⟨E', e, hl, x, y, rfl⟩ := forD_over (g := mTupG 2 (gsCons (mName 3) (gsCons (mName 4) gsNil))) (ms := B_less_1) (enI b) (fun l k => l.set k (l.getD k 0 - b.getD k 0)) (fun l E => l.length = m.length ∧ ∃ x y, E = [s0, .val (.imm (lD b)), .val (lT l), ov x, ov y]) (List.range b.length) (fun k hk l E ⟨hl, x, y, hE⟩ => by
    have hk2 := List.mem_range.mp hk
    refine ⟨[s0, .val (.imm (lD b)), .val (lT l), .val (.imm (.int (k : Nat))), .val (.imm (.int (b.getD k 0)))], _, ?_, ?_, by rw [List.length_set]; exact hl, some (.imm (.int (k : Nat))), some (.imm (.int (b.getD k 0))), rfl⟩
    · subst hE
      unfold enI
      simp -implicitDefEqProofs only [q00,q01,q02,q03,q04,q05,q06,q07,q08,q09,q0a,q0b,q0c,q0d,q0e,q0f,q0g,q0h,q0i,q0j,q0k,q0l,q0m,q0n,q0o,q0p,q0q,q0r,q0s,q0t,q0u,q0v,q0w,q0x,q0y,q0z,q0A,q0B,q0C,q0D,q0E,q0F,q0G,q0H,q0I,q0J,q0K,q0L,q0M,q0N,q0O,q0P,q0Q,q0R,q0S,q0T,FL.toDs_imms,FL.imms_imms,q0U,q0V,q0W,q0X,q0Y,q0Z,q10q,q11,q12,q13,q14,q15,q16,q17,q18,q19,q1a,q1b,q1c,q1d,q1e,q1f,q1g,q1h,q1i,q1j,q1k,q1l,q1m,q1n,q1o,q1p,q1q,q1r,q1s,q1t,q1u,q1v,q1w,q1x,q1y,q1z,q1A,q1B,q1C,q1D,q1E,q1F,q1G,q1H,q1I,q1J,q1K,q1L,q1M,q1N,q1O,q1P,q1Q,q1R,q1S,q1T,q1U,q1V,q1W,q1X,q1Y,q1Z,q20,q21,q22,q23,q24,q25,q26,q27,q28,q29,q2a,q2bq,q2c,q2d,q2e,q2f,q2g,q2h,q2i,q2j,q2k,q2l,q2m,q2n,q2o,q2p,q2q,q2r,q2s,q2t,q2u,q2v,q2w,q2x,q2y,q2z,q2A,q2B,q2C,q2D,q2E,q2F,q2G,q2H,q2I,q2J,q2K,q2L,q2M,q2N,q2O,q2P,q2Q,q2R,q2S,q2T,q2U,q2V,q2W,q2X,q2Y,q2Z,q30,q31,q32,q33,q34,q35,q36,q37,q38,q39,q3a,q3b,q3c,q3d,q3e,q3f,q3g,q3h,q3i,FL.callD,Option.bind_some,Option.bind_none,List.getElem?_cons_zero,List.getElem?_cons_succ,List.getElem?_nil,List.set_cons_zero,List.set_cons_succ,List.length_cons,List.length_nil,List.filterMap_cons,List.filterMap_nil,decide_eq_true_eq,if_true,if_false,true_and,and_true,Nat.reduceAdd,Nat.reduceLeDiff,Nat.reduceEqDiff,↓reduceIte,Bool.false_eq_true,FL.startE,FL.backs,List.map_cons,List.map_nil,List.cons_append,List.nil_append,Nat.reduceSub,List.replicate_succ,List.replicate_zero,List.nodup_nil,List.nodup_cons,List.not_mem_nil,not_false_eq_true,and_self,reduceCtorEq,Option.map_some,Option.map_none,lenT_tab,lenT_row]
    · unfold B_less_1
      exact v_augL (k := k) (s := .val (lT l)) (o := .slot 4) (u := .imm (.int (b.getD k 0))) (by simp -implicitDefEqProofs only [q00,q01,q02,q03,q04,q05,q06,q07,q08,q09,q0a,q0b,q0c,q0d,q0e,q0f,q0g,q0h,q0i,q0j,q0k,q0l,q0m,q0n,q0o,q0p,q0q,q0r,q0s,q0t,q0u,q0v,q0w,q0x,q0y,q0z,q0A,q0B,q0C,q0D,q0E,q0F,q0G,q0H,q0I,q0J,q0K,q0L,q0M,q0N,q0O,q0P,q0Q,q0R,q0S,q0T,FL.toDs_imms,FL.imms_imms,q0U,q0V,q0W,q0X,q0Y,q0Z,q10q,q11,q12,q13,q14,q15,q16,q17,q18,q19,q1a,q1b,q1c,q1d,q1e,q1f,q1g,q1h,q1i,q1j,q1k,q1l,q1m,q1n,q1o,q1p,q1q,q1r,q1s,q1t,q1u,q1v,q1w,q1x,q1y,q1z,q1A,q1B,q1C,q1D,q1E,q1F,q1G,q1H,q1I,q1J,q1K,q1L,q1M,q1N,q1O,q1P,q1Q,q1R,q1S,q1T,q1U,q1V,q1W,q1X,q1Y,q1Z,q20,q21,q22,q23,q24,q25,q26,q27,q28,q29,q2a,q2bq,q2c,q2d,q2e,q2f,q2g,q2h,q2i,q2j,q2k,q2l,q2m,q2n,q2o,q2p,q2q,q2r,q2s,q2t,q2u,q2v,q2w,q2x,q2y,q2z,q2A,q2B,q2C,q2D,q2E,q2F,q2G,q2H,q2I,q2J,q2K,q2L,q2M,q2N,q2O,q2P,q2Q,q2R,q2S,q2T,q2U,q2V,q2W,q2X,q2Y,q2Z,q30,q31,q32,q33,q34,q35,q36,q37,q38,q39,q3a,q3b,q3c,q3d,q3e,q3f,q3g,q3h,q3i,FL.callD,Option.bind_some,Option.bind_none,List.getElem?_cons_zero,List.getElem?_cons_succ,List.getElem?_nil,List.set_cons_zero,List.set_cons_succ,List.length_cons,List.length_nil,List.filterMap_cons,List.filterMap_nil,decide_eq_true_eq,if_true,if_false,true_and,and_true,Nat.reduceAdd,Nat.reduceLeDiff,Nat.reduceEqDiff,↓reduceIte,Bool.false_eq_true,FL.startE,FL.backs,List.map_cons,List.map_nil,List.cons_append,List.nil_append,Nat.reduceSub,List.replicate_succ,List.replicate_zero,List.nodup_nil,List.nodup_cons,List.not_mem_nil,not_false_eq_true,and_self,reduceCtorEq,Option.map_some,Option.map_none,lenT_tab,lenT_row]) rfl rfl (by omega) (by simp -implicitDefEqProofs only [q00,q01,q02,q03,q04,q05,q06,q07,q08,q09,q0a,q0b,q0c,q0d,q0e,q0f,q0g,q0h,q0i,q0j,q0k,q0l,q0m,q0n,q0o,q0p,q0q,q0r,q0s,q0t,q0u,q0v,q0w,q0x,q0y,q0z,q0A,q0B,q0C,q0D,q0E,q0F,q0G,q0H,q0I,q0J,q0K,q0L,q0M,q0N,q0O,q0P,q0Q,q0R,q0S,q0T,FL.toDs_imms,FL.imms_imms,q0U,q0V,q0W,q0X,q0Y,q0Z,q10q,q11,q12,q13,q14,q15,q16,q17,q18,q19,q1a,q1b,q1c,q1d,q1e,q1f,q1g,q1h,q1i,q1j,q1k,q1l,q1m,q1n,q1o,q1p,q1q,q1r,q1s,q1t,q1u,q1v,q1w,q1x,q1y,q1z,q1A,q1B,q1C,q1D,q1E,q1F,q1G,q1H,q1I,q1J,q1K,q1L,q1M,q1N,q1O,q1P,q1Q,q1R,q1S,q1T,q1U,q1V,q1W,q1X,q1Y,q1Z,q20,q21,q22,q23,q24,q25,q26,q27,q28,q29,q2a,q2bq,q2c,q2d,q2e,q2f,q2g,q2h,q2i,q2j,q2k,q2l,q2m,q2n,q2o,q2p,q2q,q2r,q2s,q2t,q2u,q2v,q2w,q2x,q2y,q2z,q2A,q2B,q2C,q2D,q2E,q2F,q2G,q2H,q2I,q2J,q2K,q2L,q2M,q2N,q2O,q2P,q2Q,q2R,q2S,q2T,q2U,q2V,q2W,q2X,q2Y,q2Z,q30,q31,q32,q33,q34,q35,q36,q37,q38,q39,q3a,q3b,q3c,q3d,q3e,q3f,q3g,q3h,q3i,FL.callD,Option.bind_some,Option.bind_none,List.getElem?_cons_zero,List.getElem?_cons_succ,List.getElem?_nil,List.set_cons_zero,List.set_cons_succ,List.length_cons,List.length_nil,List.filterMap_cons,List.filterMap_nil,decide_eq_true_eq,if_true,if_false,true_and,and_true,Nat.reduceAdd,Nat.reduceLeDiff,Nat.reduceEqDiff,↓reduceIte,Bool.false_eq_true,FL.startE,FL.backs,List.map_cons,List.map_nil,List.cons_append,List.nil_append,Nat.reduceSub,List.replicate_succ,List.replicate_zero,List.nodup_nil,List.nodup_cons,List.not_mem_nil,not_false_eq_true,and_self,reduceCtorEq,Option.map_some,Option.map_none,lenT_tab,lenT_row]) (by simp -implicitDefEqProofs only [q00,q01,q02,q03,q04,q05,q06,q07,q08,q09,q0a,q0b,q0c,q0d,q0e,q0f,q0g,q0h,q0i,q0j,q0k,q0l,q0m,q0n,q0o,q0p,q0q,q0r,q0s,q0t,q0u,q0v,q0w,q0x,q0y,q0z,q0A,q0B,q0C,q0D,q0E,q0F,q0G,q0H,q0I,q0J,q0K,q0L,q0M,q0N,q0O,q0P,q0Q,q0R,q0S,q0T,FL.toDs_imms,FL.imms_imms,q0U,q0V,q0W,q0X,q0Y,q0Z,q10q,q11,q12,q13,q14,q15,q16,q17,q18,q19,q1a,q1b,q1c,q1d,q1e,q1f,q1g,q1h,q1i,q1j,q1k,q1l,q1m,q1n,q1o,q1p,q1q,q1r,q1s,q1t,q1u,q1v,q1w,q1x,q1y,q1z,q1A,q1B,q1C,q1D,q1E,q1F,q1G,q1H,q1I,q1J,q1K,q1L,q1M,q1N,q1O,q1P,q1Q,q1R,q1S,q1T,q1U,q1V,q1W,q1X,q1Y,q1Z,q20,q21,q22,q23,q24,q25,q26,q27,q28,q29,q2a,q2bq,q2c,q2d,q2e,q2f,q2g,q2h,q2i,q2j,q2k,q2l,q2m,q2n,q2o,q2p,q2q,q2r,q2s,q2t,q2u,q2v,q2w,q2x,q2y,q2z,q2A,q2B,q2C,q2D,q2E,q2F,q2G,q2H,q2I,q2J,q2K,q2L,q2M,q2N,q2O,q2P,q2Q,q2R,q2S,q2T,q2U,q2V,q2W,q2X,q2Y,q2Z,q30,q31,q32,q33,q34,q35,q36,q37,q38,q39,q3a,q3b,q3c,q3d,q3e,q3f,q3g,q3h,q3i,FL.callD,Option.bind_some,Option.bind_none,List.getElem?_cons_zero,List.getElem?_cons_succ,List.getElem?_nil,List.set_cons_zero,List.set_cons_succ,List.length_cons,List.length_nil,List.filterMap_cons,List.filterMap_nil,decide_eq_true_eq,if_true,if_false,true_and,and_true,Nat.reduceAdd,Nat.reduceLeDiff,Nat.reduceEqDiff,↓reduceIte,Bool.false_eq_true,FL.startE,FL.backs,List.map_cons,List.map_nil,List.cons_append,List.nil_append,Nat.reduceSub,List.replicate_succ,List.replicate_zero,List.nodup_nil,List.nodup_cons,List.not_mem_nil,not_false_eq_true,and_self,reduceCtorEq,Option.map_some,Option.map_none,lenT_tab,lenT_row]) rfl) m [s0, .val (.imm (lD b)), .val (lT m), .no, .no] ⟨rfl, none, none, rfl⟩
  exact ⟨x, y, e⟩
theorem less_one {t0 : Tr} {a b : List Int} (h : t0 = lT a ∨ t0 = .imm (lD a)) (ha : a.length < 1000000) (hb : b.length < 1000000) : mFn 5 m_less [t0, .imm (lD b)] = some (.imm (lD (lessP a b)), [t0, .imm (lD b)]) := by
  have e1 := mul_zero hb ha
  have e2 := add_L (a := a) (b := List.replicate (b.length - a.length) 0) (by rw [List.length_replicate]; omega)
  have e3 := fun s0 => less_loop s0 b (a ++ List.replicate (b.length - a.length) 0) (by rw [List.length_append, List.length_replicate]; omega)
  rcases h with rfl | rfl
  · obtain ⟨x, y, e3⟩ := e3 (.par (lT a))
    rw [v_fn]
    unfold m_less
    simp -implicitDefEqProofs only [q00,q01,q02,q03,q04,q05,q06,q07,q08,q09,q0a,q0b,q0c,q0d,q0e,q0f,q0g,q0h,q0i,q0j,q0k,q0l,q0m,q0n,q0o,q0p,q0q,q0r,q0s,q0t,q0u,q0v,q0w,q0x,q0y,q0z,q0A,q0B,q0C,q0D,q0E,q0F,q0G,q0H,q0I,q0J,q0K,q0L,q0M,q0N,q0O,q0P,q0Q,q0R,q0S,q0T,FL.toDs_imms,FL.imms_imms,q0U,q0V,q0W,q0X,q0Y,q0Z,q10q,q11,q12,q13,q14,q15,q16,q17,q18,q19,q1a,q1b,q1c,q1d,q1e,q1f,q1g,q1h,q1i,q1j,q1k,q1l,q1m,q1n,q1o,q1p,q1q,q1r,q1s,q1t,q1u,q1v,q1w,q1x,q1y,q1z,q1A,q1B,q1C,q1D,q1E,q1F,q1G,q1H,q1I,q1J,q1K,q1L,q1M,q1N,q1O,q1P,q1Q,q1R,q1S,q1T,q1U,q1V,q1W,q1X,q1Y,q1Z,q20,q21,q22,q23,q24,q25,q26,q27,q28,q29,q2a,q2bq,q2c,q2d,q2e,q2f,q2g,q2h,q2i,q2j,q2k,q2l,q2m,q2n,q2o,q2p,q2q,q2r,q2s,q2t,q2u,q2v,q2w,q2x,q2y,q2z,q2A,q2B,q2C,q2D,q2E,q2F,q2G,q2H,q2I,q2J,q2K,q2L,q2M,q2N,q2O,q2P,q2Q,q2R,q2S,q2T,q2U,q2V,q2W,q2X,q2Y,q2Z,q30,q31,q32,q33,q34,q35,q36,q37,q38,q39,q3a,q3b,q3c,q3d,q3e,q3f,q3g,q3h,q3i,FL.callD,Option.bind_some,Option.bind_none,List.getElem?_cons_zero,List.getElem?_cons_succ,List.getElem?_nil,List.set_cons_zero,List.set_cons_succ,List.length_cons,List.length_nil,List.filterMap_cons,List.filterMap_nil,decide_eq_true_eq,if_true,if_false,true_and,and_true,Nat.reduceAdd,Nat.reduceLeDiff,Nat.reduceEqDiff,↓reduceIte,Bool.false_eq_true,FL.startE,FL.backs,List.map_cons,List.map_nil,List.cons_append,List.nil_append,Nat.reduceSub,List.replicate_succ,List.replicate_zero,List.nodup_nil,List.nodup_cons,List.not_mem_nil,not_false_eq_true,and_self,reduceCtorEq,Option.map_some,Option.map_none,lenT_tab,lenT_row,List.length_map,e1,e2,enum_I,e3,lessP]
  · obtain ⟨x, y, e3⟩ := e3 (.val (.imm (lD a)))
    rw [v_fn]
    unfold m_less
    simp -implicitDefEqProofs only [q00,q01,q02,q03,q04,q05,q06,q07,q08,q09,q0a,q0b,q0c,q0d,q0e,q0f,q0g,q0h,q0i,q0j,q0k,q0l,q0m,q0n,q0o,q0p,q0q,q0r,q0s,q0t,q0u,q0v,q0w,q0x,q0y,q0z,q0A,q0B,q0C,q0D,q0E,q0F,q0G,q0H,q0I,q0J,q0K,q0L,q0M,q0N,q0O,q0P,q0Q,q0R,q0S,q0T,FL.toDs_imms,FL.imms_imms,q0U,q0V,q0W,q0X,q0Y,q0Z,q10q,q11,q12,q13,q14,q15,q16,q17,q18,q19,q1a,q1b,q1c,q1d,q1e,q1f,q1g,q1h,q1i,q1j,q1k,q1l,q1m,q1n,q1o,q1p,q1q,q1r,q1s,q1t,q1u,q1v,q1w,q1x,q1y,q1z,q1A,q1B,q1C,q1D,q1E,q1F,q1G,q1H,q1I,q1J,q1K,q1L,q1M,q1N,q1O,q1P,q1Q,q1R,q1S,q1T,q1U,q1V,q1W,q1X,q1Y,q1Z,q20,q21,q22,q23,q24,q25,q26,q27,q28,q29,q2a,q2bq,q2c,q2d,q2e,q2f,q2g,q2h,q2i,q2j,q2k,q2l,q2m,q2n,q2o,q2p,q2q,q2r,q2s,q2t,q2u,q2v,q2w,q2x,q2y,q2z,q2A,q2B,q2C,q2D,q2E,q2F,q2G,q2H,q2I,q2J,q2K,q2L,q2M,q2N,q2O,q2P,q2Q,q2R,q2S,q2T,q2U,q2V,q2W,q2X,q2Y,q2Z,q30,q31,q32,q33,q34,q35,q36,q37,q38,q39,q3a,q3b,q3c,q3d,q3e,q3f,q3g,q3h,q3i,FL.callD,Option.bind_some,Option.bind_none,List.getElem?_cons_zero,List.getElem?_cons_succ,List.getElem?_nil,List.set_cons_zero,List.set_cons_succ,List.length_cons,List.length_nil,List.filterMap_cons,List.filterMap_nil,decide_eq_true_eq,if_true,if_false,true_and,and_true,Nat.reduceAdd,Nat.reduceLeDiff,Nat.reduceEqDiff,↓reduceIte,Bool.false_eq_true,FL.startE,FL.backs,List.map_cons,List.map_nil,List.cons_append,List.nil_append,Nat.reduceSub,List.replicate_succ,List.replicate_zero,List.nodup_nil,List.nodup_cons,List.not_mem_nil,not_false_eq_true,and_self,reduceCtorEq,Option.map_some,Option.map_none,lenT_tab,lenT_row,List.length_map,e1,e2,enum_I,e3,lessP]
theorem shifted_l {l : List Int} (h : l.length < 1000000) : mFn 1 m_shifted [.imm (lD l)] = some (lT (0 :: l), [.imm (lD l)]) := by
  have e := add_L (a := [0]) (b := l) (by simp; omega)
  unfold lT at e
  simp only [List.map_cons, List.map_nil, List.singleton_append] at e
  rw [v_fn]
  unfold m_shifted
  simp -implicitDefEqProofs only [q00,q01,q02,q03,q04,q05,q06,q07,q08,q09,q0a,q0b,q0c,q0d,q0e,q0f,q0g,q0h,q0i,q0j,q0k,q0l,q0m,q0n,q0o,q0p,q0q,q0r,q0s,q0t,q0u,q0v,q0w,q0x,q0y,q0z,q0A,q0B,q0C,q0D,q0E,q0F,q0G,q0H,q0I,q0J,q0K,q0L,q0M,q0N,q0O,q0P,q0Q,q0R,q0S,q0T,FL.toDs_imms,FL.imms_imms,q0U,q0V,q0W,q0X,q0Y,q0Z,q10q,q11,q12,q13,q14,q15,q16,q17,q18,q19,q1a,q1b,q1c,q1d,q1e,q1f,q1g,q1h,q1i,q1j,q1k,q1l,q1m,q1n,q1o,q1p,q1q,q1r,q1s,q1t,q1u,q1v,q1w,q1x,q1y,q1z,q1A,q1B,q1C,q1D,q1E,q1F,q1G,q1H,q1I,q1J,q1K,q1L,q1M,q1N,q1O,q1P,q1Q,q1R,q1S,q1T,q1U,q1V,q1W,q1X,q1Y,q1Z,q20,q21,q22,q23,q24,q25,q26,q27,q28,q29,q2a,q2bq,q2c,q2d,q2e,q2f,q2g,q2h,q2i,q2j,q2k,q2l,q2m,q2n,q2o,q2p,q2q,q2r,q2s,q2t,q2u,q2v,q2w,q2x,q2y,q2z,q2A,q2B,q2C,q2D,q2E,q2F,q2G,q2H,q2I,q2J,q2K,q2L,q2M,q2N,q2O,q2P,q2Q,q2R,q2S,q2T,q2U,q2V,q2W,q2X,q2Y,q2Z,q30,q31,q32,q33,q34,q35,q36,q37,q38,q39,q3a,q3b,q3c,q3d,q3e,q3f,q3g,q3h,q3i,FL.callD,Option.bind_some,Option.bind_none,List.getElem?_cons_zero,List.getElem?_cons_succ,List.getElem?_nil,List.set_cons_zero,List.set_cons_succ,List.length_cons,List.length_nil,List.filterMap_cons,List.filterMap_nil,decide_eq_true_eq,if_true,if_false,true_and,and_true,Nat.reduceAdd,Nat.reduceLeDiff,Nat.reduceEqDiff,↓reduceIte,Bool.false_eq_true,FL.startE,FL.backs,List.map_cons,List.map_nil,List.cons_append,List.nil_append,Nat.reduceSub,List.replicate_succ,List.replicate_zero,List.nodup_nil,List.nodup_cons,List.not_mem_nil,not_false_eq_true,and_self,reduceCtorEq,Option.map_some,Option.map_none,lenT_tab,lenT_row,e]
  rfl
end WK
namespace WK
open PySem L2 FL
def chainS : Nat → List Int × List Int
  | 0 => ([0], [1])
  | i + 1 => ((chainS i).2, lessP (0 :: (chainS i).2) (chainS i).1)
theorem len_chain : ∀ i, (chainS i).1.length ≤ i + 1 ∧ (chainS i).2.length ≤ i + 1
  | 0 => ⟨Nat.le_refl _, Nat.le_refl _⟩
  | i + 1 => by
    obtain ⟨h1, h2⟩ := len_chain i
    refine ⟨Nat.le_succ_of_le h2, ?_⟩
    show (lessP _ _).length ≤ _
    rw [len_less, List.length_cons]
    omega
theorem chain_one (k : Nat) (hk : k < 100000) : mFn 4 m_chain_row [.imm (.int (k : Nat))] = some (.imm (lD (chainS k).2), [.imm (.int (k : Nat))]) := by
  obtain ⟨E', e, x, rfl⟩ := forD_inv (g := mName 3) (ms := B_chain_row_1) (fun i E => ∃ x, E = [.val (.imm (.int (k : Nat))), .val (.imm (lD (chainS i).1)), .val (.imm (lD (chainS i).2)), ov x]) (rangeD 0 k)
    (fun i d E hi ⟨x, hE⟩ => by
      obtain ⟨hik, rfl⟩ := rangeD_at hi
      obtain ⟨l1, l2⟩ := len_chain i
      have e1 := shifted_l (l := (chainS i).2) (by omega)
      have e2 := less_one (t0 := lT (0 :: (chainS i).2)) (a := 0 :: (chainS i).2) (b := (chainS i).1) (.inl rfl) (by rw [List.length_cons]; omega) (by omega)
      refine ⟨[.val (.imm (.int (k : Nat))), .val (.imm (lD (chainS i).1)), .val (.imm (lD (chainS i).2)), .val (.imm (.int (0 + (i : Nat))))], [.val (.imm (.int (k : Nat))), .val (.imm (lD (chainS i).2)), .val (.imm (lD (lessP (0 :: (chainS i).2) (chainS i).1))), .val (.imm (.int (0 + (i : Nat))))], ?_, .inl ?_, some (.imm (.int (0 + (i : Nat)))), rfl⟩
      · subst hE
        simp -implicitDefEqProofs only [q00,q01,q02,q03,q04,q05,q06,q07,q08,q09,q0a,q0b,q0c,q0d,q0e,q0f,q0g,q0h,q0i,q0j,q0k,q0l,q0m,q0n,q0o,q0p,q0q,q0r,q0s,q0t,q0u,q0v,q0w,q0x,q0y,q0z,q0A,q0B,q0C,q0D,q0E,q0F,q0G,q0H,q0I,q0J,q0K,q0L,q0M,q0N,q0O,q0P,q0Q,q0R,q0S,q0T,FL.toDs_imms,FL.imms_imms,q0U,q0V,q0W,q0X,q0Y,q0Z,q10q,q11,q12,q13,q14,q15,q16,q17,q18,q19,q1a,q1b,q1c,q1d,q1e,q1f,q1g,q1h,q1i,q1j,q1k,q1l,q1m,q1n,q1o,q1p,q1q,q1r,q1s,q1t,q1u,q1v,q1w,q1x,q1y,q1z,q1A,q1B,q1C,q1D,q1E,q1F,q1G,q1H,q1I,q1J,q1K,q1L,q1M,q1N,q1O,q1P,q1Q,q1R,q1S,q1T,q1U,q1V,q1W,q1X,q1Y,q1Z,q20,q21,q22,q23,q24,q25,q26,q27,q28,q29,q2a,q2bq,q2c,q2d,q2e,q2f,q2g,q2h,q2i,q2j,q2k,q2l,q2m,q2n,q2o,q2p,q2q,q2r,q2s,q2t,q2u,q2v,q2w,q2x,q2y,q2z,q2A,q2B,q2C,q2D,q2E,q2F,q2G,q2H,q2I,q2J,q2K,q2L,q2M,q2N,q2O,q2P,q2Q,q2R,q2S,q2T,q2U,q2V,q2W,q2X,q2Y,q2Z,q30,q31,q32,q33,q34,q35,q36,q37,q38,q39,q3a,q3b,q3c,q3d,q3e,q3f,q3g,q3h,q3i,FL.callD,Option.bind_some,Option.bind_none,List.getElem?_cons_zero,List.getElem?_cons_succ,List.getElem?_nil,List.set_cons_zero,List.set_cons_succ,List.length_cons,List.length_nil,List.filterMap_cons,List.filterMap_nil,decide_eq_true_eq,if_true,if_false,true_and,and_true,Nat.reduceAdd,Nat.reduceLeDiff,Nat.reduceEqDiff,↓reduceIte,Bool.false_eq_true,FL.startE,FL.backs,List.map_cons,List.map_nil,List.cons_append,List.nil_append,Nat.reduceSub,List.replicate_succ,List.replicate_zero,List.nodup_nil,List.nodup_cons,List.not_mem_nil,not_false_eq_true,and_self,reduceCtorEq,Option.map_some,Option.map_none,lenT_tab,lenT_row]
      · unfold B_chain_row_1
        simp -implicitDefEqProofs only [q00,q01,q02,q03,q04,q05,q06,q07,q08,q09,q0a,q0b,q0c,q0d,q0e,q0f,q0g,q0h,q0i,q0j,q0k,q0l,q0m,q0n,q0o,q0p,q0q,q0r,q0s,q0t,q0u,q0v,q0w,q0x,q0y,q0z,q0A,q0B,q0C,q0D,q0E,q0F,q0G,q0H,q0I,q0J,q0K,q0L,q0M,q0N,q0O,q0P,q0Q,q0R,q0S,q0T,FL.toDs_imms,FL.imms_imms,q0U,q0V,q0W,q0X,q0Y,q0Z,q10q,q11,q12,q13,q14,q15,q16,q17,q18,q19,q1a,q1b,q1c,q1d,q1e,q1f,q1g,q1h,q1i,q1j,q1k,q1l,q1m,q1n,q1o,q1p,q1q,q1r,q1s,q1t,q1u,q1v,q1w,q1x,q1y,q1z,q1A,q1B,q1C,q1D,q1E,q1F,q1G,q1H,q1I,q1J,q1K,q1L,q1M,q1N,q1O,q1P,q1Q,q1R,q1S,q1T,q1U,q1V,q1W,q1X,q1Y,q1Z,q20,q21,q22,q23,q24,q25,q26,q27,q28,q29,q2a,q2bq,q2c,q2d,q2e,q2f,q2g,q2h,q2i,q2j,q2k,q2l,q2m,q2n,q2o,q2p,q2q,q2r,q2s,q2t,q2u,q2v,q2w,q2x,q2y,q2z,q2A,q2B,q2C,q2D,q2E,q2F,q2G,q2H,q2I,q2J,q2K,q2L,q2M,q2N,q2O,q2P,q2Q,q2R,q2S,q2T,q2U,q2V,q2W,q2X,q2Y,q2Z,q30,q31,q32,q33,q34,q35,q36,q37,q38,q39,q3a,q3b,q3c,q3d,q3e,q3f,q3g,q3h,q3i,FL.callD,Option.bind_some,Option.bind_none,List.getElem?_cons_zero,List.getElem?_cons_succ,List.getElem?_nil,List.set_cons_zero,List.set_cons_succ,List.length_cons,List.length_nil,List.filterMap_cons,List.filterMap_nil,decide_eq_true_eq,if_true,if_false,true_and,and_true,Nat.reduceAdd,Nat.reduceLeDiff,Nat.reduceEqDiff,↓reduceIte,Bool.false_eq_true,FL.startE,FL.backs,List.map_cons,List.map_nil,List.cons_append,List.nil_append,Nat.reduceSub,List.replicate_succ,List.replicate_zero,List.nodup_nil,List.nodup_cons,List.not_mem_nil,not_false_eq_true,and_self,reduceCtorEq,Option.map_some,Option.map_none,lenT_tab,lenT_row,e1,e2]) [.val (.imm (.int (k : Nat))), .val (.imm (lD [0])), .val (.imm (lD [1])), .no] ⟨none, rfl⟩
  rw [rangeD_len] at e
  have hr := fun E => v_rgN (n := k) (by omega) (E := E)
  have e : forD (mName 3) B_chain_row_1 (rangeD 0 k) [.val (.imm (.int (k : Nat))), .val (.imm (.list [.int 0])), .val (.imm (.list [.int 1])), .no] = _ := e
  rw [v_fn]
  unfold m_chain_row
  simp -implicitDefEqProofs only [q00,q01,q02,q03,q04,q05,q06,q07,q08,q09,q0a,q0b,q0c,q0d,q0e,q0f,q0g,q0h,q0i,q0j,q0k,q0l,q0m,q0n,q0o,q0p,q0q,q0r,q0s,q0t,q0u,q0v,q0w,q0x,q0y,q0z,q0A,q0B,q0C,q0D,q0E,q0F,q0G,q0H,q0I,q0J,q0K,q0L,q0M,q0N,q0O,q0P,q0Q,q0R,q0S,q0T,FL.toDs_imms,FL.imms_imms,q0U,q0V,q0W,q0X,q0Y,q0Z,q10q,q11,q12,q13,q14,q15,q16,q17,q18,q19,q1a,q1b,q1c,q1d,q1e,q1f,q1g,q1h,q1i,q1j,q1k,q1l,q1m,q1n,q1o,q1p,q1q,q1r,q1s,q1t,q1u,q1v,q1w,q1x,q1y,q1z,q1A,q1B,q1C,q1D,q1E,q1F,q1G,q1H,q1I,q1J,q1K,q1L,q1M,q1N,q1O,q1P,q1Q,q1R,q1S,q1T,q1U,q1V,q1W,q1X,q1Y,q1Z,q20,q21,q22,q23,q24,q25,q26,q27,q28,q29,q2a,q2bq,q2c,q2d,q2e,q2f,q2g,q2h,q2i,q2j,q2k,q2l,q2m,q2n,q2o,q2p,q2q,q2r,q2s,q2t,q2u,q2v,q2w,q2x,q2y,q2z,q2A,q2B,q2C,q2D,q2E,q2F,q2G,q2H,q2I,q2J,q2K,q2L,q2M,q2N,q2O,q2P,q2Q,q2R,q2S,q2T,q2U,q2V,q2W,q2X,q2Y,q2Z,q30,q31,q32,q33,q34,q35,q36,q37,q38,q39,q3a,q3b,q3c,q3d,q3e,q3f,q3g,q3h,q3i,FL.callD,Option.bind_some,Option.bind_none,List.getElem?_cons_zero,List.getElem?_cons_succ,List.getElem?_nil,List.set_cons_zero,List.set_cons_succ,List.length_cons,List.length_nil,List.filterMap_cons,List.filterMap_nil,decide_eq_true_eq,if_true,if_false,true_and,and_true,Nat.reduceAdd,Nat.reduceLeDiff,Nat.reduceEqDiff,↓reduceIte,Bool.false_eq_true,FL.startE,FL.backs,List.map_cons,List.map_nil,List.cons_append,List.nil_append,Nat.reduceSub,List.replicate_succ,List.replicate_zero,List.nodup_nil,List.nodup_cons,List.not_mem_nil,not_false_eq_true,and_self,reduceCtorEq,Option.map_some,Option.map_none,lenT_tab,lenT_row,hr,e]
def wholeP (k : Nat) : List Int := if k % 2 = 0 then (chainS (k / 2 - 1)).2 else lessP (chainS ((k - 1) / 2)).2 ((chainS ((k - 3) / 2)).2.map fun x => -x)
theorem len_whole (k : Nat) : (wholeP k).length ≤ k + 1 := by
  unfold wholeP
  split
  · have := (len_chain (k / 2 - 1)).2
    omega
  · rw [len_less, List.length_map]
    have h1 := (len_chain ((k - 1) / 2)).2
    have h2 := (len_chain ((k - 3) / 2)).2
    omega
theorem whole_one (k : Nat) (h3 : 3 ≤ k) (hk : k < 1000) : mFn 2 m_whole_row [.imm (.int (k : Nat))] = some (.imm (lD (wholeP k)), [.imm (.int (k : Nat))]) := by
  have m1 := v_modI (a := (k : Int)) (b := 2) (by decide)
  have d1 := v_divI (a := (k : Int)) (b := 2) (cdiv_ok (n := 20) (by decide) (by decide) (by decide))
  by_cases h : k % 2 = 0
  · have c1 := chain_one (k / 2 - 1) (by omega)
    have e1 : ((k / 2 - 1 : Nat) : Int) = (k : Int) / 2 - 1 := by omega
    rw [e1] at c1
    have e2 : (k : Int) % 2 = 0 := by omega
    have e3 : wholeP k = (chainS (k / 2 - 1)).2 := if_pos h
    rw [v_fn, e3]
    unfold m_whole_row
    simp -implicitDefEqProofs only [q00,q01,q02,q03,q04,q05,q06,q07,q08,q09,q0a,q0b,q0c,q0d,q0e,q0f,q0g,q0h,q0i,q0j,q0k,q0l,q0m,q0n,q0o,q0p,q0q,q0r,q0s,q0t,q0u,q0v,q0w,q0x,q0y,q0z,q0A,q0B,q0C,q0D,q0E,q0F,q0G,q0H,q0I,q0J,q0K,q0L,q0M,q0N,q0O,q0P,q0Q,q0R,q0S,q0T,FL.toDs_imms,FL.imms_imms,q0U,q0V,q0W,q0X,q0Y,q0Z,q10q,q11,q12,q13,q14,q15,q16,q17,q18,q19,q1a,q1b,q1c,q1d,q1e,q1f,q1g,q1h,q1i,q1j,q1k,q1l,q1m,q1n,q1o,q1p,q1q,q1r,q1s,q1t,q1u,q1v,q1w,q1x,q1y,q1z,q1A,q1B,q1C,q1D,q1E,q1F,q1G,q1H,q1I,q1J,q1K,q1L,q1M,q1N,q1O,q1P,q1Q,q1R,q1S,q1T,q1U,q1V,q1W,q1X,q1Y,q1Z,q20,q21,q22,q23,q24,q25,q26,q27,q28,q29,q2a,q2bq,q2c,q2d,q2e,q2f,q2g,q2h,q2i,q2j,q2k,q2l,q2m,q2n,q2o,q2p,q2q,q2r,q2s,q2t,q2u,q2v,q2w,q2x,q2y,q2z,q2A,q2B,q2C,q2D,q2E,q2F,q2G,q2H,q2I,q2J,q2K,q2L,q2M,q2N,q2O,q2P,q2Q,q2R,q2S,q2T,q2U,q2V,q2W,q2X,q2Y,q2Z,q30,q31,q32,q33,q34,q35,q36,q37,q38,q39,q3a,q3b,q3c,q3d,q3e,q3f,q3g,q3h,q3i,FL.callD,Option.bind_some,Option.bind_none,List.getElem?_cons_zero,List.getElem?_cons_succ,List.getElem?_nil,List.set_cons_zero,List.set_cons_succ,List.length_cons,List.length_nil,List.filterMap_cons,List.filterMap_nil,decide_eq_true_eq,if_true,if_false,true_and,and_true,Nat.reduceAdd,Nat.reduceLeDiff,Nat.reduceEqDiff,↓reduceIte,Bool.false_eq_true,FL.startE,FL.backs,List.map_cons,List.map_nil,List.cons_append,List.nil_append,Nat.reduceSub,List.replicate_succ,List.replicate_zero,List.nodup_nil,List.nodup_cons,List.not_mem_nil,not_false_eq_true,and_self,reduceCtorEq,Option.map_some,Option.map_none,lenT_tab,lenT_row,m1,e2,d1,c1]
  · have c1 := chain_one ((k - 1) / 2) (by omega)
    have c2 := chain_one ((k - 3) / 2) (by omega)
    have e1 : (((k - 1) / 2 : Nat) : Int) = ((k : Int) - 1) / 2 := by omega
    have e2 : (((k - 3) / 2 : Nat) : Int) = ((k : Int) - 3) / 2 := by omega
    rw [e1] at c1
    rw [e2] at c2
    have e3 : ¬ (k : Int) % 2 = 0 := by omega
    have d2 := v_divI (a := (k : Int) - 1) (b := 2) (cdiv_ok (n := 20) (by decide) (by decide) (by decide))
    have d3 := v_divI (a := (k : Int) - 3) (b := 2) (cdiv_ok (n := 20) (by decide) (by decide) (by decide))
    have l1 := (len_chain ((k - 1) / 2)).2
    have l2 := (len_chain ((k - 3) / 2)).2
    have e4 := lcD_imm (g := mName 1) (m := X_whole_row_1) (vs := [1]) (E := [.val (.imm (.int (k : Nat))), .no]) PyData.int (fun x => PyData.int (-x)) (chainS ((k - 3) / 2)).2 (fun x _ => ⟨_, _, by simp -implicitDefEqProofs only [q00,q01,q02,q03,q04,q05,q06,q07,q08,q09,q0a,q0b,q0c,q0d,q0e,q0f,q0g,q0h,q0i,q0j,q0k,q0l,q0m,q0n,q0o,q0p,q0q,q0r,q0s,q0t,q0u,q0v,q0w,q0x,q0y,q0z,q0A,q0B,q0C,q0D,q0E,q0F,q0G,q0H,q0I,q0J,q0K,q0L,q0M,q0N,q0O,q0P,q0Q,q0R,q0S,q0T,FL.toDs_imms,FL.imms_imms,q0U,q0V,q0W,q0X,q0Y,q0Z,q10q,q11,q12,q13,q14,q15,q16,q17,q18,q19,q1a,q1b,q1c,q1d,q1e,q1f,q1g,q1h,q1i,q1j,q1k,q1l,q1m,q1n,q1o,q1p,q1q,q1r,q1s,q1t,q1u,q1v,q1w,q1x,q1y,q1z,q1A,q1B,q1C,q1D,q1E,q1F,q1G,q1H,q1I,q1J,q1K,q1L,q1M,q1N,q1O,q1P,q1Q,q1R,q1S,q1T,q1U,q1V,q1W,q1X,q1Y,q1Z,q20,q21,q22,q23,q24,q25,q26,q27,q28,q29,q2a,q2bq,q2c,q2d,q2e,q2f,q2g,q2h,q2i,q2j,q2k,q2l,q2m,q2n,q2o,q2p,q2q,q2r,q2s,q2t,q2u,q2v,q2w,q2x,q2y,q2z,q2A,q2B,q2C,q2D,q2E,q2F,q2G,q2H,q2I,q2J,q2K,q2L,q2M,q2N,q2O,q2P,q2Q,q2R,q2S,q2T,q2U,q2V,q2W,q2X,q2Y,q2Z,q30,q31,q32,q33,q34,q35,q36,q37,q38,q39,q3a,q3b,q3c,q3d,q3e,q3f,q3g,q3h,q3i,FL.callD,Option.bind_some,Option.bind_none,List.getElem?_cons_zero,List.getElem?_cons_succ,List.getElem?_nil,List.set_cons_zero,List.set_cons_succ,List.length_cons,List.length_nil,List.filterMap_cons,List.filterMap_nil,decide_eq_true_eq,if_true,if_false,true_and,and_true,Nat.reduceAdd,Nat.reduceLeDiff,Nat.reduceEqDiff,↓reduceIte,Bool.false_eq_true,FL.startE,FL.backs,List.map_cons,List.map_nil,List.cons_append,List.nil_append,Nat.reduceSub,List.replicate_succ,List.replicate_zero,List.nodup_nil,List.nodup_cons,List.not_mem_nil,not_false_eq_true,and_self,reduceCtorEq,Option.map_some,Option.map_none,lenT_tab,lenT_row]; rfl, by unfold X_whole_row_1; simp -implicitDefEqProofs only [q00,q01,q02,q03,q04,q05,q06,q07,q08,q09,q0a,q0b,q0c,q0d,q0e,q0f,q0g,q0h,q0i,q0j,q0k,q0l,q0m,q0n,q0o,q0p,q0q,q0r,q0s,q0t,q0u,q0v,q0w,q0x,q0y,q0z,q0A,q0B,q0C,q0D,q0E,q0F,q0G,q0H,q0I,q0J,q0K,q0L,q0M,q0N,q0O,q0P,q0Q,q0R,q0S,q0T,FL.toDs_imms,FL.imms_imms,q0U,q0V,q0W,q0X,q0Y,q0Z,q10q,q11,q12,q13,q14,q15,q16,q17,q18,q19,q1a,q1b,q1c,q1d,q1e,q1f,q1g,q1h,q1i,q1j,q1k,q1l,q1m,q1n,q1o,q1p,q1q,q1r,q1s,q1t,q1u,q1v,q1w,q1x,q1y,q1z,q1A,q1B,q1C,q1D,q1E,q1F,q1G,q1H,q1I,q1J,q1K,q1L,q1M,q1N,q1O,q1P,q1Q,q1R,q1S,q1T,q1U,q1V,q1W,q1X,q1Y,q1Z,q20,q21,q22,q23,q24,q25,q26,q27,q28,q29,q2a,q2bq,q2c,q2d,q2e,q2f,q2g,q2h,q2i,q2j,q2k,q2l,q2m,q2n,q2o,q2p,q2q,q2r,q2s,q2t,q2u,q2v,q2w,q2x,q2y,q2z,q2A,q2B,q2C,q2D,q2E,q2F,q2G,q2H,q2I,q2J,q2K,q2L,q2M,q2N,q2O,q2P,q2Q,q2R,q2S,q2T,q2U,q2V,q2W,q2X,q2Y,q2Z,q30,q31,q32,q33,q34,q35,q36,q37,q38,q39,q3a,q3b,q3c,q3d,q3e,q3f,q3g,q3h,q3i,FL.callD,Option.bind_some,Option.bind_none,List.getElem?_cons_zero,List.getElem?_cons_succ,List.getElem?_nil,List.set_cons_zero,List.set_cons_succ,List.length_cons,List.length_nil,List.filterMap_cons,List.filterMap_nil,decide_eq_true_eq,if_true,if_false,true_and,and_true,Nat.reduceAdd,Nat.reduceLeDiff,Nat.reduceEqDiff,↓reduceIte,Bool.false_eq_true,FL.startE,FL.backs,List.map_cons,List.map_nil,List.cons_append,List.nil_append,Nat.reduceSub,List.replicate_succ,List.replicate_zero,List.nodup_nil,List.nodup_cons,List.not_mem_nil,not_false_eq_true,and_self,reduceCtorEq,Option.map_some,Option.map_none,lenT_tab,lenT_row]; rfl, rfl⟩) (by omega)
    have e5 := less_one (t0 := .imm (lD (chainS ((k - 1) / 2)).2)) (a := (chainS ((k - 1) / 2)).2) (b := (chainS ((k - 3) / 2)).2.map fun x => -x) (.inr rfl) (by omega) (by rw [List.length_map]; omega)
    have e6 : wholeP k = lessP (chainS ((k - 1) / 2)).2 ((chainS ((k - 3) / 2)).2.map fun x => -x) := if_neg h
    have hneg : (chainS ((k - 3) / 2)).2.map (fun x => PyData.int (-x)) = ((chainS ((k - 3) / 2)).2.map fun x => -x).map PyData.int := by rw [List.map_map]; rfl
    rw [hneg] at e4
    rw [v_fn, e6]
    unfold m_whole_row
    simp -implicitDefEqProofs only [q00,q01,q02,q03,q04,q05,q06,q07,q08,q09,q0a,q0b,q0c,q0d,q0e,q0f,q0g,q0h,q0i,q0j,q0k,q0l,q0m,q0n,q0o,q0p,q0q,q0r,q0s,q0t,q0u,q0v,q0w,q0x,q0y,q0z,q0A,q0B,q0C,q0D,q0E,q0F,q0G,q0H,q0I,q0J,q0K,q0L,q0M,q0N,q0O,q0P,q0Q,q0R,q0S,q0T,FL.toDs_imms,FL.imms_imms,q0U,q0V,q0W,q0X,q0Y,q0Z,q10q,q11,q12,q13,q14,q15,q16,q17,q18,q19,q1a,q1b,q1c,q1d,q1e,q1f,q1g,q1h,q1i,q1j,q1k,q1l,q1m,q1n,q1o,q1p,q1q,q1r,q1s,q1t,q1u,q1v,q1w,q1x,q1y,q1z,q1A,q1B,q1C,q1D,q1E,q1F,q1G,q1H,q1I,q1J,q1K,q1L,q1M,q1N,q1O,q1P,q1Q,q1R,q1S,q1T,q1U,q1V,q1W,q1X,q1Y,q1Z,q20,q21,q22,q23,q24,q25,q26,q27,q28,q29,q2a,q2bq,q2c,q2d,q2e,q2f,q2g,q2h,q2i,q2j,q2k,q2l,q2m,q2n,q2o,q2p,q2q,q2r,q2s,q2t,q2u,q2v,q2w,q2x,q2y,q2z,q2A,q2B,q2C,q2D,q2E,q2F,q2G,q2H,q2I,q2J,q2K,q2L,q2M,q2N,q2O,q2P,q2Q,q2R,q2S,q2T,q2U,q2V,q2W,q2X,q2Y,q2Z,q30,q31,q32,q33,q34,q35,q36,q37,q38,q39,q3a,q3b,q3c,q3d,q3e,q3f,q3g,q3h,q3i,FL.callD,Option.bind_some,Option.bind_none,List.getElem?_cons_zero,List.getElem?_cons_succ,List.getElem?_nil,List.set_cons_zero,List.set_cons_succ,List.length_cons,List.length_nil,List.filterMap_cons,List.filterMap_nil,decide_eq_true_eq,if_true,if_false,true_and,and_true,Nat.reduceAdd,Nat.reduceLeDiff,Nat.reduceEqDiff,↓reduceIte,Bool.false_eq_true,FL.startE,FL.backs,List.map_cons,List.map_nil,List.cons_append,List.nil_append,Nat.reduceSub,List.replicate_succ,List.replicate_zero,List.nodup_nil,List.nodup_cons,List.not_mem_nil,not_false_eq_true,and_self,reduceCtorEq,Option.map_some,Option.map_none,lenT_tab,lenT_row,m1,e3,d2,d3,c1,c2,e4,toDs_imms,e5]
end WK
namespace WK
open PySem L2 FL
def subO (b : List Int) (f : Int) (o : Nat) (m : List Int) : List Int := (List.range b.length).foldl (fun l j => l.set (o + j) (l.getD (o + j) 0 - f * b.getD j 0)) m
theorem len_subO (b : List Int) (f : Int) (o : Nat) (m : List Int) : (subO b f o m).length = m.length := len_fold (fun l k => List.length_set) _ _
def divO (b : List Int) : List Nat → List Int → List Int → Option (List Int)
  | [], _, F => some F
  | k :: ks, l, F => if Bd 1000 (l.getD (k + b.length - 1) 0) then divO b ks (subO b (l.getD (k + b.length - 1) 0) k l) (F.set k (l.getD (k + b.length - 1) 0)) else none
def dividedO (row b : List Int) : Option (List Int) := if (0 < b.length ∧ b.length < 1000 ∧ row.length < 1000) ∧ b.all (fun x => decide (Bd 1000 x)) = true then divO b (downN (row.length + 1 - b.length) 0) row (List.replicate (row.length + 1 - b.length) 0) else none
theorem getD_mem' {b : List Int} {j : Nat} (h : j < b.length) : b.getD j 0 ∈ b := by
  rw [List.getD_eq_getElem?_getD, List.getElem?_eq_getElem h]
  exact List.getElem_mem _
theorem div_inner (r0 : SL) (b l F : List Int) (k : Nat) (hf : k < F.length) (hl : k + b.length ≤ l.length) (hF : Bd 1000 (F.getD k 0)) (hb : ∀ x ∈ b, Bd 1000 x) (x y : Option Tr) :
    ∃ x' y', forD (mTupG 2 (gsCons (mName 5) (gsCons (mName 6) gsNil))) B_divided_1 ((List.range b.length).map (enI b)) [r0, .val (.imm (lD b)), .val (lT l), .val (lT F), .val (.imm (.int (k : Nat))), ov x, ov y] = some (.nx [r0, .val (.imm (lD b)), .val (lT (subO b (F.getD k 0) k l)), .val (lT F), .val (.imm (.int (k : Nat))), ov x', ov y']) := by
  obtain ⟨E', e, hl, x, y, rfl⟩ := forD_over (g := mTupG 2 (gsCons (mName 5) (gsCons (mName 6) gsNil))) (ms := B_divided_1) (enI b) (fun m j => m.set (k + j) (m.getD (k + j) 0 - F.getD k 0 * b.getD j 0)) (fun m E => m.length = l.length ∧ ∃ x y, E = [r0, .val (.imm (lD b)), .val (lT m), .val (lT F), .val (.imm (.int (k : Nat))), ov x, ov y]) (List.range b.length) (fun j hj m E ⟨hm, x, y, hE⟩ => by
    have hj2 := List.mem_range.mp hj
    have f1 := hF.fmul (hb _ (getD_mem' hj2)) (by decide)
    have f2 := ix_T hf
    refine ⟨[r0, .val (.imm (lD b)), .val (lT m), .val (lT F), .val (.imm (.int (k : Nat))), .val (.imm (.int (j : Nat))), .val (.imm (.int (b.getD j 0)))], _, ?_, ?_, by rw [List.length_set]; exact hm, some (.imm (.int (j : Nat))), some (.imm (.int (b.getD j 0))), rfl⟩
    · subst hE
      unfold enI
      simp -implicitDefEqProofs only [q00,q01,q02,q03,q04,q05,q06,q07,q08,q09,q0a,q0b,q0c,q0d,q0e,q0f,q0g,q0h,q0i,q0j,q0k,q0l,q0m,q0n,q0o,q0p,q0q,q0r,q0s,q0t,q0u,q0v,q0w,q0x,q0y,q0z,q0A,q0B,q0C,q0D,q0E,q0F,q0G,q0H,q0I,q0J,q0K,q0L,q0M,q0N,q0O,q0P,q0Q,q0R,q0S,q0T,FL.toDs_imms,FL.imms_imms,q0U,q0V,q0W,q0X,q0Y,q0Z,q10q,q11,q12,q13,q14,q15,q16,q17,q18,q19,q1a,q1b,q1c,q1d,q1e,q1f,q1g,q1h,q1i,q1j,q1k,q1l,q1m,q1n,q1o,q1p,q1q,q1r,q1s,q1t,q1u,q1v,q1w,q1x,q1y,q1z,q1A,q1B,q1C,q1D,q1E,q1F,q1G,q1H,q1I,q1J,q1K,q1L,q1M,q1N,q1O,q1P,q1Q,q1R,q1S,q1T,q1U,q1V,q1W,q1X,q1Y,q1Z,q20,q21,q22,q23,q24,q25,q26,q27,q28,q29,q2a,q2bq,q2c,q2d,q2e,q2f,q2g,q2h,q2i,q2j,q2k,q2l,q2m,q2n,q2o,q2p,q2q,q2r,q2s,q2t,q2u,q2v,q2w,q2x,q2y,q2z,q2A,q2B,q2C,q2D,q2E,q2F,q2G,q2H,q2I,q2J,q2K,q2L,q2M,q2N,q2O,q2P,q2Q,q2R,q2S,q2T,q2U,q2V,q2W,q2X,q2Y,q2Z,q30,q31,q32,q33,q34,q35,q36,q37,q38,q39,q3a,q3b,q3c,q3d,q3e,q3f,q3g,q3h,q3i,FL.callD,Option.bind_some,Option.bind_none,List.getElem?_cons_zero,List.getElem?_cons_succ,List.getElem?_nil,List.set_cons_zero,List.set_cons_succ,List.length_cons,List.length_nil,List.filterMap_cons,List.filterMap_nil,decide_eq_true_eq,if_true,if_false,true_and,and_true,Nat.reduceAdd,Nat.reduceLeDiff,Nat.reduceEqDiff,↓reduceIte,Bool.false_eq_true,FL.startE,FL.backs,List.map_cons,List.map_nil,List.cons_append,List.nil_append,Nat.reduceSub,List.replicate_succ,List.replicate_zero,List.nodup_nil,List.nodup_cons,List.not_mem_nil,not_false_eq_true,and_self,reduceCtorEq,Option.map_some,Option.map_none,lenT_tab,lenT_row]
    · unfold B_divided_1
      exact v_augL (k := k + j) (s := .val (lT m)) (o := .own (.imm (.int (F.getD k 0 * b.getD j 0)))) (u := .imm (.int (F.getD k 0 * b.getD j 0))) (by rw [Int.natCast_add]; simp -implicitDefEqProofs only [q00,q01,q02,q03,q04,q05,q06,q07,q08,q09,q0a,q0b,q0c,q0d,q0e,q0f,q0g,q0h,q0i,q0j,q0k,q0l,q0m,q0n,q0o,q0p,q0q,q0r,q0s,q0t,q0u,q0v,q0w,q0x,q0y,q0z,q0A,q0B,q0C,q0D,q0E,q0F,q0G,q0H,q0I,q0J,q0K,q0L,q0M,q0N,q0O,q0P,q0Q,q0R,q0S,q0T,FL.toDs_imms,FL.imms_imms,q0U,q0V,q0W,q0X,q0Y,q0Z,q10q,q11,q12,q13,q14,q15,q16,q17,q18,q19,q1a,q1b,q1c,q1d,q1e,q1f,q1g,q1h,q1i,q1j,q1k,q1l,q1m,q1n,q1o,q1p,q1q,q1r,q1s,q1t,q1u,q1v,q1w,q1x,q1y,q1z,q1A,q1B,q1C,q1D,q1E,q1F,q1G,q1H,q1I,q1J,q1K,q1L,q1M,q1N,q1O,q1P,q1Q,q1R,q1S,q1T,q1U,q1V,q1W,q1X,q1Y,q1Z,q20,q21,q22,q23,q24,q25,q26,q27,q28,q29,q2a,q2bq,q2c,q2d,q2e,q2f,q2g,q2h,q2i,q2j,q2k,q2l,q2m,q2n,q2o,q2p,q2q,q2r,q2s,q2t,q2u,q2v,q2w,q2x,q2y,q2z,q2A,q2B,q2C,q2D,q2E,q2F,q2G,q2H,q2I,q2J,q2K,q2L,q2M,q2N,q2O,q2P,q2Q,q2R,q2S,q2T,q2U,q2V,q2W,q2X,q2Y,q2Z,q30,q31,q32,q33,q34,q35,q36,q37,q38,q39,q3a,q3b,q3c,q3d,q3e,q3f,q3g,q3h,q3i,FL.callD,Option.bind_some,Option.bind_none,List.getElem?_cons_zero,List.getElem?_cons_succ,List.getElem?_nil,List.set_cons_zero,List.set_cons_succ,List.length_cons,List.length_nil,List.filterMap_cons,List.filterMap_nil,decide_eq_true_eq,if_true,if_false,true_and,and_true,Nat.reduceAdd,Nat.reduceLeDiff,Nat.reduceEqDiff,↓reduceIte,Bool.false_eq_true,FL.startE,FL.backs,List.map_cons,List.map_nil,List.cons_append,List.nil_append,Nat.reduceSub,List.replicate_succ,List.replicate_zero,List.nodup_nil,List.nodup_cons,List.not_mem_nil,not_false_eq_true,and_self,reduceCtorEq,Option.map_some,Option.map_none,lenT_tab,lenT_row]) rfl rfl (by omega) (by simp -implicitDefEqProofs only [q00,q01,q02,q03,q04,q05,q06,q07,q08,q09,q0a,q0b,q0c,q0d,q0e,q0f,q0g,q0h,q0i,q0j,q0k,q0l,q0m,q0n,q0o,q0p,q0q,q0r,q0s,q0t,q0u,q0v,q0w,q0x,q0y,q0z,q0A,q0B,q0C,q0D,q0E,q0F,q0G,q0H,q0I,q0J,q0K,q0L,q0M,q0N,q0O,q0P,q0Q,q0R,q0S,q0T,FL.toDs_imms,FL.imms_imms,q0U,q0V,q0W,q0X,q0Y,q0Z,q10q,q11,q12,q13,q14,q15,q16,q17,q18,q19,q1a,q1b,q1c,q1d,q1e,q1f,q1g,q1h,q1i,q1j,q1k,q1l,q1m,q1n,q1o,q1p,q1q,q1r,q1s,q1t,q1u,q1v,q1w,q1x,q1y,q1z,q1A,q1B,q1C,q1D,q1E,q1F,q1G,q1H,q1I,q1J,q1K,q1L,q1M,q1N,q1O,q1P,q1Q,q1R,q1S,q1T,q1U,q1V,q1W,q1X,q1Y,q1Z,q20,q21,q22,q23,q24,q25,q26,q27,q28,q29,q2a,q2bq,q2c,q2d,q2e,q2f,q2g,q2h,q2i,q2j,q2k,q2l,q2m,q2n,q2o,q2p,q2q,q2r,q2s,q2t,q2u,q2v,q2w,q2x,q2y,q2z,q2A,q2B,q2C,q2D,q2E,q2F,q2G,q2H,q2I,q2J,q2K,q2L,q2M,q2N,q2O,q2P,q2Q,q2R,q2S,q2T,q2U,q2V,q2W,q2X,q2Y,q2Z,q30,q31,q32,q33,q34,q35,q36,q37,q38,q39,q3a,q3b,q3c,q3d,q3e,q3f,q3g,q3h,q3i,FL.callD,Option.bind_some,Option.bind_none,List.getElem?_cons_zero,List.getElem?_cons_succ,List.getElem?_nil,List.set_cons_zero,List.set_cons_succ,List.length_cons,List.length_nil,List.filterMap_cons,List.filterMap_nil,decide_eq_true_eq,if_true,if_false,true_and,and_true,Nat.reduceAdd,Nat.reduceLeDiff,Nat.reduceEqDiff,↓reduceIte,Bool.false_eq_true,FL.startE,FL.backs,List.map_cons,List.map_nil,List.cons_append,List.nil_append,Nat.reduceSub,List.replicate_succ,List.replicate_zero,List.nodup_nil,List.nodup_cons,List.not_mem_nil,not_false_eq_true,and_self,reduceCtorEq,Option.map_some,Option.map_none,lenT_tab,lenT_row,f2,f1]) (by simp -implicitDefEqProofs only [q00,q01,q02,q03,q04,q05,q06,q07,q08,q09,q0a,q0b,q0c,q0d,q0e,q0f,q0g,q0h,q0i,q0j,q0k,q0l,q0m,q0n,q0o,q0p,q0q,q0r,q0s,q0t,q0u,q0v,q0w,q0x,q0y,q0z,q0A,q0B,q0C,q0D,q0E,q0F,q0G,q0H,q0I,q0J,q0K,q0L,q0M,q0N,q0O,q0P,q0Q,q0R,q0S,q0T,FL.toDs_imms,FL.imms_imms,q0U,q0V,q0W,q0X,q0Y,q0Z,q10q,q11,q12,q13,q14,q15,q16,q17,q18,q19,q1a,q1b,q1c,q1d,q1e,q1f,q1g,q1h,q1i,q1j,q1k,q1l,q1m,q1n,q1o,q1p,q1q,q1r,q1s,q1t,q1u,q1v,q1w,q1x,q1y,q1z,q1A,q1B,q1C,q1D,q1E,q1F,q1G,q1H,q1I,q1J,q1K,q1L,q1M,q1N,q1O,q1P,q1Q,q1R,q1S,q1T,q1U,q1V,q1W,q1X,q1Y,q1Z,q20,q21,q22,q23,q24,q25,q26,q27,q28,q29,q2a,q2bq,q2c,q2d,q2e,q2f,q2g,q2h,q2i,q2j,q2k,q2l,q2m,q2n,q2o,q2p,q2q,q2r,q2s,q2t,q2u,q2v,q2w,q2x,q2y,q2z,q2A,q2B,q2C,q2D,q2E,q2F,q2G,q2H,q2I,q2J,q2K,q2L,q2M,q2N,q2O,q2P,q2Q,q2R,q2S,q2T,q2U,q2V,q2W,q2X,q2Y,q2Z,q30,q31,q32,q33,q34,q35,q36,q37,q38,q39,q3a,q3b,q3c,q3d,q3e,q3f,q3g,q3h,q3i,FL.callD,Option.bind_some,Option.bind_none,List.getElem?_cons_zero,List.getElem?_cons_succ,List.getElem?_nil,List.set_cons_zero,List.set_cons_succ,List.length_cons,List.length_nil,List.filterMap_cons,List.filterMap_nil,decide_eq_true_eq,if_true,if_false,true_and,and_true,Nat.reduceAdd,Nat.reduceLeDiff,Nat.reduceEqDiff,↓reduceIte,Bool.false_eq_true,FL.startE,FL.backs,List.map_cons,List.map_nil,List.cons_append,List.nil_append,Nat.reduceSub,List.replicate_succ,List.replicate_zero,List.nodup_nil,List.nodup_cons,List.not_mem_nil,not_false_eq_true,and_self,reduceCtorEq,Option.map_some,Option.map_none,lenT_tab,lenT_row]) rfl) l [r0, .val (.imm (lD b)), .val (lT l), .val (lT F), .val (.imm (.int (k : Nat))), ov x, ov y] ⟨rfl, x, y, rfl⟩
  exact ⟨x, y, e⟩
theorem set_get {l : List Int} {k : Nat} {v : Int} (h : k < l.length) : (l.set k v).getD k 0 = v := by
  rw [List.getD_eq_getElem?_getD, List.getElem?_set, if_pos rfl, if_pos h]; rfl
theorem div_outer (r0 : SL) (b : List Int) (hb0 : 0 < b.length) (hb : ∀ x ∈ b, Bd 1000 x) : ∀ (ks : List Nat) (l F res : List Int) (x y z : Option Tr), (∀ k ∈ ks, k < F.length ∧ k + b.length ≤ l.length) → divO b ks l F = some res →
    ∃ l' x' y' z', forD (mName 4) B_divided_2 (ks.map iE) [r0, .val (.imm (lD b)), .val (lT l), .val (lT F), ov x, ov y, ov z] = some (.nx [r0, .val (.imm (lD b)), .val (lT l'), .val (lT res), ov x', ov y', ov z'])
  | [], l, F, res, x, y, z, _, h => by
    cases h
    exact ⟨l, x, y, z, rfl⟩
  | k :: ks, l, F, res, x, y, z, hk, h => by
    obtain ⟨k1, k2⟩ := hk k List.mem_cons_self
    unfold divO at h
    split at h
    case isFalse => cases h
    rename_i hB
    generalize hf : l.getD (k + b.length - 1) 0 = f at h hB
    have i1 : (k : Int) + (b.length : Int) - 1 = ((k + b.length - 1 : Nat) : Int) := by omega
    have i2 := ix_T (l := l) (k := k + b.length - 1) (by omega)
    rw [hf, ← i1] at i2
    have i3 := ixN_nat k1
    have i4 : ((F.map PyData.int).map Tr.imm).set k (.imm (.int f)) = ((F.set k f).map PyData.int).map Tr.imm := by rw [List.map_set, List.map_set]
    obtain ⟨y1, z1, e1⟩ := div_inner r0 b l (F.set k f) k (by rw [List.length_set]; exact k1) k2 (by rw [set_get k1]; exact hB) hb y z
    rw [set_get k1] at e1
    obtain ⟨l', x', y', z', e2⟩ := div_outer r0 b hb0 hb ks (subO b f k l) (F.set k f) res (some (.imm (.int (k : Nat)))) y1 z1 (fun j hj => by
      have := hk j (List.mem_cons_of_mem _ hj)
      rw [List.length_set, len_subO]
      exact this) h
    refine ⟨l', x', y', z', ?_⟩
    rw [List.map_cons, forD, show (mName 4) (.imm (iE k)) [r0, .val (.imm (lD b)), .val (lT l), .val (lT F), ov x, ov y, ov z] = some [r0, .val (.imm (lD b)), .val (lT l), .val (lT F), .val (.imm (.int (k : Nat))), ov y, ov z] from by simp -implicitDefEqProofs only [q00,q01,q02,q03,q04,q05,q06,q07,q08,q09,q0a,q0b,q0c,q0d,q0e,q0f,q0g,q0h,q0i,q0j,q0k,q0l,q0m,q0n,q0o,q0p,q0q,q0r,q0s,q0t,q0u,q0v,q0w,q0x,q0y,q0z,q0A,q0B,q0C,q0D,q0E,q0F,q0G,q0H,q0I,q0J,q0K,q0L,q0M,q0N,q0O,q0P,q0Q,q0R,q0S,q0T,FL.toDs_imms,FL.imms_imms,q0U,q0V,q0W,q0X,q0Y,q0Z,q10q,q11,q12,q13,q14,q15,q16,q17,q18,q19,q1a,q1b,q1c,q1d,q1e,q1f,q1g,q1h,q1i,q1j,q1k,q1l,q1m,q1n,q1o,q1p,q1q,q1r,q1s,q1t,q1u,q1v,q1w,q1x,q1y,q1z,q1A,q1B,q1C,q1D,q1E,q1F,q1G,q1H,q1I,q1J,q1K,q1L,q1M,q1N,q1O,q1P,q1Q,q1R,q1S,q1T,q1U,q1V,q1W,q1X,q1Y,q1Z,q20,q21,q22,q23,q24,q25,q26,q27,q28,q29,q2a,q2bq,q2c,q2d,q2e,q2f,q2g,q2h,q2i,q2j,q2k,q2l,q2m,q2n,q2o,q2p,q2q,q2r,q2s,q2t,q2u,q2v,q2w,q2x,q2y,q2z,q2A,q2B,q2C,q2D,q2E,q2F,q2G,q2H,q2I,q2J,q2K,q2L,q2M,q2N,q2O,q2P,q2Q,q2R,q2S,q2T,q2U,q2V,q2W,q2X,q2Y,q2Z,q30,q31,q32,q33,q34,q35,q36,q37,q38,q39,q3a,q3b,q3c,q3d,q3e,q3f,q3g,q3h,q3i,FL.callD,Option.bind_some,Option.bind_none,List.getElem?_cons_zero,List.getElem?_cons_succ,List.getElem?_nil,List.set_cons_zero,List.set_cons_succ,List.length_cons,List.length_nil,List.filterMap_cons,List.filterMap_nil,decide_eq_true_eq,if_true,if_false,true_and,and_true,Nat.reduceAdd,Nat.reduceLeDiff,Nat.reduceEqDiff,↓reduceIte,Bool.false_eq_true,FL.startE,FL.backs,List.map_cons,List.map_nil,List.cons_append,List.nil_append,Nat.reduceSub,List.replicate_succ,List.replicate_zero,List.nodup_nil,List.nodup_cons,List.not_mem_nil,not_false_eq_true,and_self,reduceCtorEq,Option.map_some,Option.map_none,lenT_tab,lenT_row], Option.bind_some]
    have e3 : B_divided_2 [r0, .val (.imm (lD b)), .val (lT l), .val (lT F), .val (.imm (.int (k : Nat))), ov y, ov z] = some (.nx [r0, .val (.imm (lD b)), .val (lT (subO b f k l)), .val (lT (F.set k f)), .val (.imm (.int (k : Nat))), ov y1, ov z1]) := by
      unfold B_divided_2
      simp -implicitDefEqProofs only [q00,q01,q02,q03,q04,q05,q06,q07,q08,q09,q0a,q0b,q0c,q0d,q0e,q0f,q0g,q0h,q0i,q0j,q0k,q0l,q0m,q0n,q0o,q0p,q0q,q0r,q0s,q0t,q0u,q0v,q0w,q0x,q0y,q0z,q0A,q0B,q0C,q0D,q0E,q0F,q0G,q0H,q0I,q0J,q0K,q0L,q0M,q0N,q0O,q0P,q0Q,q0R,q0S,q0T,FL.toDs_imms,FL.imms_imms,q0U,q0V,q0W,q0X,q0Y,q0Z,q10q,q11,q12,q13,q14,q15,q16,q17,q18,q19,q1a,q1b,q1c,q1d,q1e,q1f,q1g,q1h,q1i,q1j,q1k,q1l,q1m,q1n,q1o,q1p,q1q,q1r,q1s,q1t,q1u,q1v,q1w,q1x,q1y,q1z,q1A,q1B,q1C,q1D,q1E,q1F,q1G,q1H,q1I,q1J,q1K,q1L,q1M,q1N,q1O,q1P,q1Q,q1R,q1S,q1T,q1U,q1V,q1W,q1X,q1Y,q1Z,q20,q21,q22,q23,q24,q25,q26,q27,q28,q29,q2a,q2bq,q2c,q2d,q2e,q2f,q2g,q2h,q2i,q2j,q2k,q2l,q2m,q2n,q2o,q2p,q2q,q2r,q2s,q2t,q2u,q2v,q2w,q2x,q2y,q2z,q2A,q2B,q2C,q2D,q2E,q2F,q2G,q2H,q2I,q2J,q2K,q2L,q2M,q2N,q2O,q2P,q2Q,q2R,q2S,q2T,q2U,q2V,q2W,q2X,q2Y,q2Z,q30,q31,q32,q33,q34,q35,q36,q37,q38,q39,q3a,q3b,q3c,q3d,q3e,q3f,q3g,q3h,q3i,FL.callD,Option.bind_some,Option.bind_none,List.getElem?_cons_zero,List.getElem?_cons_succ,List.getElem?_nil,List.set_cons_zero,List.set_cons_succ,List.length_cons,List.length_nil,List.filterMap_cons,List.filterMap_nil,decide_eq_true_eq,if_true,if_false,true_and,and_true,Nat.reduceAdd,Nat.reduceLeDiff,Nat.reduceEqDiff,↓reduceIte,Bool.false_eq_true,FL.startE,FL.backs,List.map_cons,List.map_nil,List.cons_append,List.nil_append,Nat.reduceSub,List.replicate_succ,List.replicate_zero,List.nodup_nil,List.nodup_cons,List.not_mem_nil,not_false_eq_true,and_self,reduceCtorEq,Option.map_some,Option.map_none,lenT_tab,lenT_row,List.length_map,i2,i3,i4,enum_I,e1]
    rw [e3]
    exact e2
theorem divided_one {row b res : List Int} (h : dividedO row b = some res) : mFn 7 m_divided [.imm (lD row), .imm (lD b)] = some (.imm (lD res), [.imm (lD row), .imm (lD b)]) := by
  unfold dividedO at h
  split at h
  case isFalse => cases h
  rename_i hc
  obtain ⟨⟨h1, h2, h3⟩, h4⟩ := hc
  have hb : ∀ x ∈ b, Bd 1000 x := fun x hx => of_decide_eq_true (List.all_eq_true.mp h4 x hx)
  have e1 := mul_zero (m := row.length + 1) (n := b.length) (by omega) (by omega)
  rw [show ((row.length + 1 : Nat) : Int) - (b.length : Int) = (row.length : Int) - (b.length : Int) + 1 by omega] at e1
  generalize hn : row.length + 1 - b.length = n at h e1
  obtain ⟨l', x', y', z', e2⟩ := div_outer (.val (.imm (lD row))) b h1 hb (downN n 0) row (List.replicate n 0) res none none none (fun k hk => by
    have := mem_down.mp hk
    rw [List.length_replicate]
    omega) h
  have e2 : forD (mName 4) B_divided_2 ((downN n 0).map iE) [.val (.imm (lD row)), .val (.imm (lD b)), .val (lT row), .val (lT (List.replicate n 0)), .no, .no, .no] = _ := e2
  have e3 := fun E => v_rg3 (E := E) (a := (n : Int) - 1) (b := -1) (rng_ok (by omega) (by omega)) (rng_ok (by decide) (by decide))
  rw [v_fn]
  unfold m_divided
  simp -implicitDefEqProofs only [q00,q01,q02,q03,q04,q05,q06,q07,q08,q09,q0a,q0b,q0c,q0d,q0e,q0f,q0g,q0h,q0i,q0j,q0k,q0l,q0m,q0n,q0o,q0p,q0q,q0r,q0s,q0t,q0u,q0v,q0w,q0x,q0y,q0z,q0A,q0B,q0C,q0D,q0E,q0F,q0G,q0H,q0I,q0J,q0K,q0L,q0M,q0N,q0O,q0P,q0Q,q0R,q0S,q0T,FL.toDs_imms,FL.imms_imms,q0U,q0V,q0W,q0X,q0Y,q0Z,q10q,q11,q12,q13,q14,q15,q16,q17,q18,q19,q1a,q1b,q1c,q1d,q1e,q1f,q1g,q1h,q1i,q1j,q1k,q1l,q1m,q1n,q1o,q1p,q1q,q1r,q1s,q1t,q1u,q1v,q1w,q1x,q1y,q1z,q1A,q1B,q1C,q1D,q1E,q1F,q1G,q1H,q1I,q1J,q1K,q1L,q1M,q1N,q1O,q1P,q1Q,q1R,q1S,q1T,q1U,q1V,q1W,q1X,q1Y,q1Z,q20,q21,q22,q23,q24,q25,q26,q27,q28,q29,q2a,q2bq,q2c,q2d,q2e,q2f,q2g,q2h,q2i,q2j,q2k,q2l,q2m,q2n,q2o,q2p,q2q,q2r,q2s,q2t,q2u,q2v,q2w,q2x,q2y,q2z,q2A,q2B,q2C,q2D,q2E,q2F,q2G,q2H,q2I,q2J,q2K,q2L,q2M,q2N,q2O,q2P,q2Q,q2R,q2S,q2T,q2U,q2V,q2W,q2X,q2Y,q2Z,q30,q31,q32,q33,q34,q35,q36,q37,q38,q39,q3a,q3b,q3c,q3d,q3e,q3f,q3g,q3h,q3i,FL.callD,Option.bind_some,Option.bind_none,List.getElem?_cons_zero,List.getElem?_cons_succ,List.getElem?_nil,List.set_cons_zero,List.set_cons_succ,List.length_cons,List.length_nil,List.filterMap_cons,List.filterMap_nil,decide_eq_true_eq,if_true,if_false,true_and,and_true,Nat.reduceAdd,Nat.reduceLeDiff,Nat.reduceEqDiff,↓reduceIte,Bool.false_eq_true,FL.startE,FL.backs,List.map_cons,List.map_nil,List.cons_append,List.nil_append,Nat.reduceSub,List.replicate_succ,List.replicate_zero,List.nodup_nil,List.nodup_cons,List.not_mem_nil,not_false_eq_true,and_self,reduceCtorEq,Option.map_some,Option.map_none,lenT_tab,lenT_row,List.length_map,List.length_replicate,e1,v_rng3,e3,rngDn_zero,e2]
def dkN (made : List (Nat × List Int)) : List (Key × PyData) := made.map fun p => (.inl (p.1 : Int), lD p.2)
theorem getD_dk (d : Nat) : ∀ made : List (Nat × List Int), FL.getD (dkN made) (.inl (d : Int)) = (made.lookup d).map lD
  | [] => rfl
  | (k, r) :: made => by
    have h := getD_dk d made
    unfold FL.getD dkN at *
    rw [List.map_cons, List.find?_cons, List.lookup_cons]
    by_cases e : d = k
    · subst e
      rw [show (decide ((Sum.inl (d : Int) : Key) = Sum.inl (d : Int))) = true from decide_eq_true rfl, show (d == d) = true from beq_self_eq_true d]
      rfl
    · rw [show (decide ((Sum.inl (k : Int) : Key) = Sum.inl (d : Int))) = false from decide_eq_false fun z => e (by have := Sum.inl.inj z; omega), show (d == k) = false from beq_eq_false_iff_ne.mpr e]
      exact h
theorem keys_dk (made : List (Nat × List Int)) : keysD (dkN made) = (made.map (·.1)).map iE := by
  unfold keysD dkN
  rw [List.map_map, List.map_map]; rfl
theorem put_dk {made : List (Nat × List Int)} {d : Nat} {r : List Int} (h : made.lookup d = none) : putD (dkN made) (.inl (d : Int)) (lD r) = dkN (made ++ [(d, r)]) := by
  have hn : ((dkN made).any fun kv => decide (kv.1 = (Sum.inl (d : Int) : Key))) = false := by
    rw [List.any_eq_false]
    intro kv hkv
    have h2 := getD_dk d made
    rw [h] at h2
    unfold FL.getD at h2
    have h3 := Option.map_eq_none_iff.mp h2
    have := List.find?_eq_none.mp h3 kv hkv
    exact this
  unfold putD
  rw [if_neg (by rw [hn]; decide)]
  unfold dkN
  rw [List.map_append]; rfl
theorem lock_eq {i : Nat} {m : MS} {E E2 : En} {ds ds' : List (Key × PyData)} (h1 : E[i]? = some (.val (.dic ds))) (h2 : m (E.set i (.par (.dik ds))) = some (.nx E2)) (h3 : E2[i]? = some (.par (.dik ds'))) (h4 : lockOk i 0 (E.set i (.par (.dik ds))) E2 = true) : mLock i m E = some (.nx (E2.set i (.val (.dic ds')))) := by
  unfold mLock
  rw [h1]
  dsimp only
  rw [h2, Option.bind_some]
  unfold unLk
  dsimp only
  rw [h3]
  dsimp only
  rw [if_pos h4]
def redO (part : Nat) (made : List (Nat × List Int)) : List Nat → List Int → Option (List Int)
  | [], row => some row
  | d :: ks, row => if 0 < d then (if part % d = 0 then (made.lookup d).bind fun b => (dividedO row b).bind (redO part made ks) else redO part made ks row) else none
def Im4 (s : SL) : Prop := s = .no ∨ ∃ d, s = .val (.imm d)
theorem red_loop (M : Int) (made : List (Nat × List Int)) (part : Nat) : ∀ (ks : List Nat) (row res : List Int) (s4 : SL), Im4 s4 → redO part made ks row = some res →
    ∃ s4', Im4 s4' ∧ forD (mName 4) B_least_poly_1 (ks.map iE) [.val (.imm (.int M)), .par (.dik (dkN made)), .val (.imm (.int (part : Nat))), .val (.imm (lD row)), s4, .no] = some (.nx [.val (.imm (.int M)), .par (.dik (dkN made)), .val (.imm (.int (part : Nat))), .val (.imm (lD res)), s4', .no])
  | [], row, res, s4, hs, h => by
    cases h
    exact ⟨s4, hs, rfl⟩
  | d :: ks, row, res, s4, hs, h => by
    unfold redO at h
    split at h
    case isFalse => cases h
    rename_i hd
    have m1 := v_modI (a := (part : Int)) (b := (d : Int)) (by omega)
    have nm : (mName 4) (.imm (iE d)) [.val (.imm (.int M)), .par (.dik (dkN made)), .val (.imm (.int (part : Nat))), .val (.imm (lD row)), s4, .no] = some [.val (.imm (.int M)), .par (.dik (dkN made)), .val (.imm (.int (part : Nat))), .val (.imm (lD row)), .val (.imm (.int (d : Nat))), .no] := by
      rcases hs with rfl | ⟨x, rfl⟩ <;> simp -implicitDefEqProofs only [q00,q01,q02,q03,q04,q05,q06,q07,q08,q09,q0a,q0b,q0c,q0d,q0e,q0f,q0g,q0h,q0i,q0j,q0k,q0l,q0m,q0n,q0o,q0p,q0q,q0r,q0s,q0t,q0u,q0v,q0w,q0x,q0y,q0z,q0A,q0B,q0C,q0D,q0E,q0F,q0G,q0H,q0I,q0J,q0K,q0L,q0M,q0N,q0O,q0P,q0Q,q0R,q0S,q0T,FL.toDs_imms,FL.imms_imms,q0U,q0V,q0W,q0X,q0Y,q0Z,q10q,q11,q12,q13,q14,q15,q16,q17,q18,q19,q1a,q1b,q1c,q1d,q1e,q1f,q1g,q1h,q1i,q1j,q1k,q1l,q1m,q1n,q1o,q1p,q1q,q1r,q1s,q1t,q1u,q1v,q1w,q1x,q1y,q1z,q1A,q1B,q1C,q1D,q1E,q1F,q1G,q1H,q1I,q1J,q1K,q1L,q1M,q1N,q1O,q1P,q1Q,q1R,q1S,q1T,q1U,q1V,q1W,q1X,q1Y,q1Z,q20,q21,q22,q23,q24,q25,q26,q27,q28,q29,q2a,q2bq,q2c,q2d,q2e,q2f,q2g,q2h,q2i,q2j,q2k,q2l,q2m,q2n,q2o,q2p,q2q,q2r,q2s,q2t,q2u,q2v,q2w,q2x,q2y,q2z,q2A,q2B,q2C,q2D,q2E,q2F,q2G,q2H,q2I,q2J,q2K,q2L,q2M,q2N,q2O,q2P,q2Q,q2R,q2S,q2T,q2U,q2V,q2W,q2X,q2Y,q2Z,q30,q31,q32,q33,q34,q35,q36,q37,q38,q39,q3a,q3b,q3c,q3d,q3e,q3f,q3g,q3h,q3i,FL.callD,Option.bind_some,Option.bind_none,List.getElem?_cons_zero,List.getElem?_cons_succ,List.getElem?_nil,List.set_cons_zero,List.set_cons_succ,List.length_cons,List.length_nil,List.filterMap_cons,List.filterMap_nil,decide_eq_true_eq,if_true,if_false,true_and,and_true,Nat.reduceAdd,Nat.reduceLeDiff,Nat.reduceEqDiff,↓reduceIte,Bool.false_eq_true,FL.startE,FL.backs,List.map_cons,List.map_nil,List.cons_append,List.nil_append,Nat.reduceSub,List.replicate_succ,List.replicate_zero,List.nodup_nil,List.nodup_cons,List.not_mem_nil,not_false_eq_true,and_self,reduceCtorEq,Option.map_some,Option.map_none,lenT_tab,lenT_row]
    split at h
    · rename_i hp
      obtain ⟨b, hb, h⟩ := Option.bind_eq_some_iff.mp h
      obtain ⟨row2, h2, h⟩ := Option.bind_eq_some_iff.mp h
      obtain ⟨s4', hs', e⟩ := red_loop M made part ks row2 res (.val (.imm (.int (d : Nat)))) (.inr ⟨_, rfl⟩) h
      have g1 := getD_dk d made
      rw [hb] at g1
      have g2 := divided_one h2
      have m2 : (part : Int) % (d : Int) = 0 := by omega
      refine ⟨s4', hs', ?_⟩
      rw [List.map_cons, forD, nm, Option.bind_some]
      have e3 : B_least_poly_1 [.val (.imm (.int M)), .par (.dik (dkN made)), .val (.imm (.int (part : Nat))), .val (.imm (lD row)), .val (.imm (.int (d : Nat))), .no] = some (.nx [.val (.imm (.int M)), .par (.dik (dkN made)), .val (.imm (.int (part : Nat))), .val (.imm (lD row2)), .val (.imm (.int (d : Nat))), .no]) := by
        unfold B_least_poly_1
        simp -implicitDefEqProofs only [q00,q01,q02,q03,q04,q05,q06,q07,q08,q09,q0a,q0b,q0c,q0d,q0e,q0f,q0g,q0h,q0i,q0j,q0k,q0l,q0m,q0n,q0o,q0p,q0q,q0r,q0s,q0t,q0u,q0v,q0w,q0x,q0y,q0z,q0A,q0B,q0C,q0D,q0E,q0F,q0G,q0H,q0I,q0J,q0K,q0L,q0M,q0N,q0O,q0P,q0Q,q0R,q0S,q0T,FL.toDs_imms,FL.imms_imms,q0U,q0V,q0W,q0X,q0Y,q0Z,q10q,q11,q12,q13,q14,q15,q16,q17,q18,q19,q1a,q1b,q1c,q1d,q1e,q1f,q1g,q1h,q1i,q1j,q1k,q1l,q1m,q1n,q1o,q1p,q1q,q1r,q1s,q1t,q1u,q1v,q1w,q1x,q1y,q1z,q1A,q1B,q1C,q1D,q1E,q1F,q1G,q1H,q1I,q1J,q1K,q1L,q1M,q1N,q1O,q1P,q1Q,q1R,q1S,q1T,q1U,q1V,q1W,q1X,q1Y,q1Z,q20,q21,q22,q23,q24,q25,q26,q27,q28,q29,q2a,q2bq,q2c,q2d,q2e,q2f,q2g,q2h,q2i,q2j,q2k,q2l,q2m,q2n,q2o,q2p,q2q,q2r,q2s,q2t,q2u,q2v,q2w,q2x,q2y,q2z,q2A,q2B,q2C,q2D,q2E,q2F,q2G,q2H,q2I,q2J,q2K,q2L,q2M,q2N,q2O,q2P,q2Q,q2R,q2S,q2T,q2U,q2V,q2W,q2X,q2Y,q2Z,q30,q31,q32,q33,q34,q35,q36,q37,q38,q39,q3a,q3b,q3c,q3d,q3e,q3f,q3g,q3h,q3i,FL.callD,Option.bind_some,Option.bind_none,List.getElem?_cons_zero,List.getElem?_cons_succ,List.getElem?_nil,List.set_cons_zero,List.set_cons_succ,List.length_cons,List.length_nil,List.filterMap_cons,List.filterMap_nil,decide_eq_true_eq,if_true,if_false,true_and,and_true,Nat.reduceAdd,Nat.reduceLeDiff,Nat.reduceEqDiff,↓reduceIte,Bool.false_eq_true,FL.startE,FL.backs,List.map_cons,List.map_nil,List.cons_append,List.nil_append,Nat.reduceSub,List.replicate_succ,List.replicate_zero,List.nodup_nil,List.nodup_cons,List.not_mem_nil,not_false_eq_true,and_self,reduceCtorEq,Option.map_some,Option.map_none,lenT_tab,lenT_row,m1,m2,mDGetK,g1,g2]
      rw [e3]
      exact e
    · rename_i hp
      obtain ⟨s4', hs', e⟩ := red_loop M made part ks row res (.val (.imm (.int (d : Nat)))) (.inr ⟨_, rfl⟩) h
      have m2 : ¬ (part : Int) % (d : Int) = 0 := by omega
      refine ⟨s4', hs', ?_⟩
      rw [List.map_cons, forD, nm, Option.bind_some]
      have e3 : B_least_poly_1 [.val (.imm (.int M)), .par (.dik (dkN made)), .val (.imm (.int (part : Nat))), .val (.imm (lD row)), .val (.imm (.int (d : Nat))), .no] = some (.nx [.val (.imm (.int M)), .par (.dik (dkN made)), .val (.imm (.int (part : Nat))), .val (.imm (lD row)), .val (.imm (.int (d : Nat))), .no]) := by
        unfold B_least_poly_1
        simp -implicitDefEqProofs only [q00,q01,q02,q03,q04,q05,q06,q07,q08,q09,q0a,q0b,q0c,q0d,q0e,q0f,q0g,q0h,q0i,q0j,q0k,q0l,q0m,q0n,q0o,q0p,q0q,q0r,q0s,q0t,q0u,q0v,q0w,q0x,q0y,q0z,q0A,q0B,q0C,q0D,q0E,q0F,q0G,q0H,q0I,q0J,q0K,q0L,q0M,q0N,q0O,q0P,q0Q,q0R,q0S,q0T,FL.toDs_imms,FL.imms_imms,q0U,q0V,q0W,q0X,q0Y,q0Z,q10q,q11,q12,q13,q14,q15,q16,q17,q18,q19,q1a,q1b,q1c,q1d,q1e,q1f,q1g,q1h,q1i,q1j,q1k,q1l,q1m,q1n,q1o,q1p,q1q,q1r,q1s,q1t,q1u,q1v,q1w,q1x,q1y,q1z,q1A,q1B,q1C,q1D,q1E,q1F,q1G,q1H,q1I,q1J,q1K,q1L,q1M,q1N,q1O,q1P,q1Q,q1R,q1S,q1T,q1U,q1V,q1W,q1X,q1Y,q1Z,q20,q21,q22,q23,q24,q25,q26,q27,q28,q29,q2a,q2bq,q2c,q2d,q2e,q2f,q2g,q2h,q2i,q2j,q2k,q2l,q2m,q2n,q2o,q2p,q2q,q2r,q2s,q2t,q2u,q2v,q2w,q2x,q2y,q2z,q2A,q2B,q2C,q2D,q2E,q2F,q2G,q2H,q2I,q2J,q2K,q2L,q2M,q2N,q2O,q2P,q2Q,q2R,q2S,q2T,q2U,q2V,q2W,q2X,q2Y,q2Z,q30,q31,q32,q33,q34,q35,q36,q37,q38,q39,q3a,q3b,q3c,q3d,q3e,q3f,q3g,q3h,q3i,FL.callD,Option.bind_some,Option.bind_none,List.getElem?_cons_zero,List.getElem?_cons_succ,List.getElem?_nil,List.set_cons_zero,List.set_cons_succ,List.length_cons,List.length_nil,List.filterMap_cons,List.filterMap_nil,decide_eq_true_eq,if_true,if_false,true_and,and_true,Nat.reduceAdd,Nat.reduceLeDiff,Nat.reduceEqDiff,↓reduceIte,Bool.false_eq_true,FL.startE,FL.backs,List.map_cons,List.map_nil,List.cons_append,List.nil_append,Nat.reduceSub,List.replicate_succ,List.replicate_zero,List.nodup_nil,List.nodup_cons,List.not_mem_nil,not_false_eq_true,and_self,reduceCtorEq,Option.map_some,Option.map_none,lenT_tab,lenT_row,m1,m2]
      rw [e3]
      exact e
end WK
namespace WK
open PySem L2 FL
def madeO : List Nat → List (Nat × List Int) → Option (List (Nat × List Int))
  | [], made => some made
  | part :: ps, made => if (3 ≤ part ∧ part < 1000 ∧ made.length < 1000) ∧ made.lookup part = none then (redO part made (made.map (·.1)) (wholeP part)).bind fun row => madeO ps (made ++ [(part, row)]) else none
theorem made_loop (M : Int) : ∀ (ps : List Nat) (made res : List (Nat × List Int)) (s2 s3 s4 : SL), Im4 s2 → Im4 s3 → Im4 s4 → madeO ps made = some res →
    ∃ s2' s3' s4', forD (mName 2) B_least_poly_2 (ps.map iE) [.val (.imm (.int M)), .val (.dic (dkN made)), s2, s3, s4, .no] = some (.nx [.val (.imm (.int M)), .val (.dic (dkN res)), s2', s3', s4', .no])
  | [], made, res, s2, s3, s4, _, _, _, h => by
    cases h
    exact ⟨s2, s3, s4, rfl⟩
  | part :: ps, made, res, s2, s3, s4, h2, h3, h4, h => by
    unfold madeO at h
    split at h
    case isFalse => cases h
    rename_i hc
    obtain ⟨⟨c1, c2, c3⟩, c4⟩ := hc
    obtain ⟨row, r1, h⟩ := Option.bind_eq_some_iff.mp h
    have w1 := whole_one part c1 c2
    obtain ⟨s4', hs4, e1⟩ := red_loop M made part (made.map (·.1)) (wholeP part) row s4 h4 r1
    obtain ⟨t2, t3, t4, e2⟩ := made_loop M ps (made ++ [(part, row)]) res (.val (.imm (.int (part : Nat)))) (.val (.imm (lD row))) s4' (.inr ⟨_, rfl⟩) (.inr ⟨_, rfl⟩) hs4 h
    refine ⟨t2, t3, t4, ?_⟩
    have nm : (mName 2) (.imm (iE part)) [.val (.imm (.int M)), .val (.dic (dkN made)), s2, s3, s4, .no] = some [.val (.imm (.int M)), .val (.dic (dkN made)), .val (.imm (.int (part : Nat))), s3, s4, .no] := by
      rcases h2 with rfl | ⟨x, rfl⟩ <;> simp -implicitDefEqProofs only [q00,q01,q02,q03,q04,q05,q06,q07,q08,q09,q0a,q0b,q0c,q0d,q0e,q0f,q0g,q0h,q0i,q0j,q0k,q0l,q0m,q0n,q0o,q0p,q0q,q0r,q0s,q0t,q0u,q0v,q0w,q0x,q0y,q0z,q0A,q0B,q0C,q0D,q0E,q0F,q0G,q0H,q0I,q0J,q0K,q0L,q0M,q0N,q0O,q0P,q0Q,q0R,q0S,q0T,FL.toDs_imms,FL.imms_imms,q0U,q0V,q0W,q0X,q0Y,q0Z,q10q,q11,q12,q13,q14,q15,q16,q17,q18,q19,q1a,q1b,q1c,q1d,q1e,q1f,q1g,q1h,q1i,q1j,q1k,q1l,q1m,q1n,q1o,q1p,q1q,q1r,q1s,q1t,q1u,q1v,q1w,q1x,q1y,q1z,q1A,q1B,q1C,q1D,q1E,q1F,q1G,q1H,q1I,q1J,q1K,q1L,q1M,q1N,q1O,q1P,q1Q,q1R,q1S,q1T,q1U,q1V,q1W,q1X,q1Y,q1Z,q20,q21,q22,q23,q24,q25,q26,q27,q28,q29,q2a,q2bq,q2c,q2d,q2e,q2f,q2g,q2h,q2i,q2j,q2k,q2l,q2m,q2n,q2o,q2p,q2q,q2r,q2s,q2t,q2u,q2v,q2w,q2x,q2y,q2z,q2A,q2B,q2C,q2D,q2E,q2F,q2G,q2H,q2I,q2J,q2K,q2L,q2M,q2N,q2O,q2P,q2Q,q2R,q2S,q2T,q2U,q2V,q2W,q2X,q2Y,q2Z,q30,q31,q32,q33,q34,q35,q36,q37,q38,q39,q3a,q3b,q3c,q3d,q3e,q3f,q3g,q3h,q3i,FL.callD,Option.bind_some,Option.bind_none,List.getElem?_cons_zero,List.getElem?_cons_succ,List.getElem?_nil,List.set_cons_zero,List.set_cons_succ,List.length_cons,List.length_nil,List.filterMap_cons,List.filterMap_nil,decide_eq_true_eq,if_true,if_false,true_and,and_true,Nat.reduceAdd,Nat.reduceLeDiff,Nat.reduceEqDiff,↓reduceIte,Bool.false_eq_true,FL.startE,FL.backs,List.map_cons,List.map_nil,List.cons_append,List.nil_append,Nat.reduceSub,List.replicate_succ,List.replicate_zero,List.nodup_nil,List.nodup_cons,List.not_mem_nil,not_false_eq_true,and_self,reduceCtorEq,Option.map_some,Option.map_none,lenT_tab,lenT_row]
    rw [List.map_cons, forD, nm, Option.bind_some]
    have lk : mLock 1 (mFor (mKeysI 1) (mName 4) B_least_poly_1) [.val (.imm (.int M)), .val (.dic (dkN made)), .val (.imm (.int (part : Nat))), .val (.imm (lD (wholeP part))), s4, .no] = some (.nx [.val (.imm (.int M)), .val (.dic (dkN made)), .val (.imm (.int (part : Nat))), .val (.imm (lD row)), s4', .no]) := by
      refine lock_eq (ds := dkN made) (ds' := dkN made) (E2 := [.val (.imm (.int M)), .par (.dik (dkN made)), .val (.imm (.int (part : Nat))), .val (.imm (lD row)), s4', .no]) rfl ?_ rfl ?_
      · rw [q1d]
        show forD _ _ (keysD (dkN made)) _ = _
        rw [keys_dk]
        exact e1
      · rcases hs4 with rfl | ⟨x, rfl⟩ <;> rfl
    have e3 : B_least_poly_2 [.val (.imm (.int M)), .val (.dic (dkN made)), .val (.imm (.int (part : Nat))), s3, s4, .no] = some (.nx [.val (.imm (.int M)), .val (.dic (dkN (made ++ [(part, row)]))), .val (.imm (.int (part : Nat))), .val (.imm (lD row)), s4', .no]) := by
      have l1 : (dkN made).length < 16777216 := by unfold dkN; rw [List.length_map]; omega
      have p1 := put_dk (r := row) c4
      unfold B_least_poly_2
      rcases h3 with rfl | ⟨x, rfl⟩
      · simp -implicitDefEqProofs only [q00,q01,q02,q03,q04,q05,q06,q07,q08,q09,q0a,q0b,q0c,q0d,q0e,q0f,q0g,q0h,q0i,q0j,q0k,q0l,q0m,q0n,q0o,q0p,q0q,q0r,q0s,q0t,q0u,q0v,q0w,q0x,q0y,q0z,q0A,q0B,q0C,q0D,q0E,q0F,q0G,q0H,q0I,q0J,q0K,q0L,q0M,q0N,q0O,q0P,q0Q,q0R,q0S,q0T,FL.toDs_imms,FL.imms_imms,q0U,q0V,q0W,q0X,q0Y,q0Z,q10q,q11,q12,q13,q14,q15,q16,q17,q18,q19,q1a,q1b,q1c,q1d,q1e,q1f,q1g,q1h,q1i,q1j,q1k,q1l,q1m,q1n,q1o,q1p,q1q,q1r,q1s,q1t,q1u,q1v,q1w,q1x,q1y,q1z,q1A,q1B,q1C,q1D,q1E,q1F,q1G,q1H,q1I,q1J,q1K,q1L,q1M,q1N,q1O,q1P,q1Q,q1R,q1S,q1T,q1U,q1V,q1W,q1X,q1Y,q1Z,q20,q21,q22,q23,q24,q25,q26,q27,q28,q29,q2a,q2bq,q2c,q2d,q2e,q2f,q2g,q2h,q2i,q2j,q2k,q2l,q2m,q2n,q2o,q2p,q2q,q2r,q2s,q2t,q2u,q2v,q2w,q2x,q2y,q2z,q2A,q2B,q2C,q2D,q2E,q2F,q2G,q2H,q2I,q2J,q2K,q2L,q2M,q2N,q2O,q2P,q2Q,q2R,q2S,q2T,q2U,q2V,q2W,q2X,q2Y,q2Z,q30,q31,q32,q33,q34,q35,q36,q37,q38,q39,q3a,q3b,q3c,q3d,q3e,q3f,q3g,q3h,q3i,FL.callD,Option.bind_some,Option.bind_none,List.getElem?_cons_zero,List.getElem?_cons_succ,List.getElem?_nil,List.set_cons_zero,List.set_cons_succ,List.length_cons,List.length_nil,List.filterMap_cons,List.filterMap_nil,decide_eq_true_eq,if_true,if_false,true_and,and_true,Nat.reduceAdd,Nat.reduceLeDiff,Nat.reduceEqDiff,↓reduceIte,Bool.false_eq_true,FL.startE,FL.backs,List.map_cons,List.map_nil,List.cons_append,List.nil_append,Nat.reduceSub,List.replicate_succ,List.replicate_zero,List.nodup_nil,List.nodup_cons,List.not_mem_nil,not_false_eq_true,and_self,reduceCtorEq,Option.map_some,Option.map_none,lenT_tab,lenT_row,w1,lk,l1,p1]
      · simp -implicitDefEqProofs only [q00,q01,q02,q03,q04,q05,q06,q07,q08,q09,q0a,q0b,q0c,q0d,q0e,q0f,q0g,q0h,q0i,q0j,q0k,q0l,q0m,q0n,q0o,q0p,q0q,q0r,q0s,q0t,q0u,q0v,q0w,q0x,q0y,q0z,q0A,q0B,q0C,q0D,q0E,q0F,q0G,q0H,q0I,q0J,q0K,q0L,q0M,q0N,q0O,q0P,q0Q,q0R,q0S,q0T,FL.toDs_imms,FL.imms_imms,q0U,q0V,q0W,q0X,q0Y,q0Z,q10q,q11,q12,q13,q14,q15,q16,q17,q18,q19,q1a,q1b,q1c,q1d,q1e,q1f,q1g,q1h,q1i,q1j,q1k,q1l,q1m,q1n,q1o,q1p,q1q,q1r,q1s,q1t,q1u,q1v,q1w,q1x,q1y,q1z,q1A,q1B,q1C,q1D,q1E,q1F,q1G,q1H,q1I,q1J,q1K,q1L,q1M,q1N,q1O,q1P,q1Q,q1R,q1S,q1T,q1U,q1V,q1W,q1X,q1Y,q1Z,q20,q21,q22,q23,q24,q25,q26,q27,q28,q29,q2a,q2bq,q2c,q2d,q2e,q2f,q2g,q2h,q2i,q2j,q2k,q2l,q2m,q2n,q2o,q2p,q2q,q2r,q2s,q2t,q2u,q2v,q2w,q2x,q2y,q2z,q2A,q2B,q2C,q2D,q2E,q2F,q2G,q2H,q2I,q2J,q2K,q2L,q2M,q2N,q2O,q2P,q2Q,q2R,q2S,q2T,q2U,q2V,q2W,q2X,q2Y,q2Z,q30,q31,q32,q33,q34,q35,q36,q37,q38,q39,q3a,q3b,q3c,q3d,q3e,q3f,q3g,q3h,q3i,FL.callD,Option.bind_some,Option.bind_none,List.getElem?_cons_zero,List.getElem?_cons_succ,List.getElem?_nil,List.set_cons_zero,List.set_cons_succ,List.length_cons,List.length_nil,List.filterMap_cons,List.filterMap_nil,decide_eq_true_eq,if_true,if_false,true_and,and_true,Nat.reduceAdd,Nat.reduceLeDiff,Nat.reduceEqDiff,↓reduceIte,Bool.false_eq_true,FL.startE,FL.backs,List.map_cons,List.map_nil,List.cons_append,List.nil_append,Nat.reduceSub,List.replicate_succ,List.replicate_zero,List.nodup_nil,List.nodup_cons,List.not_mem_nil,not_false_eq_true,and_self,reduceCtorEq,Option.map_some,Option.map_none,lenT_tab,lenT_row,w1,lk,l1,p1]
    rw [e3]
    exact e2
def partsN (M : Nat) : List Nat := ((List.range (2 * M - 2)).filter fun i => decide (2 * M % (3 + i) = 0)).map (3 + ·)
def lpO (M : Nat) : Option (List Int) := (madeO (partsN M) []).bind fun made => made.lookup (2 * M)
theorem least_one {M : Nat} {p : List Int} (hM : M < 1000) (h0 : 2 ≤ M) (h : lpO M = some p) : mFn 6 m_least_poly [.imm (.int (M : Nat))] = some (.imm (tI p), [.imm (.int (M : Nat))]) := by
  unfold lpO at h
  obtain ⟨made, h1, h2⟩ := Option.bind_eq_some_iff.mp h
  obtain ⟨t2, t3, t4, e1⟩ := made_loop (M : Int) (partsN M) [] made .no .no .no (.inl rfl) (.inl rfl) (.inl rfl) h1
  have e1 : forD (mName 2) B_least_poly_2 ((partsN M).map iE) [.val (.imm (.int (M : Nat))), .val (.dic []), .no, .no, .no, .no] = _ := e1
  have hB : Bd 20 (M : Int) := .of (by omega) (by omega)
  have f1 := Bd.fmul (m := 4) (a := 2) (by decide) hB (by decide)
  have e2 := lcD_if (g := mName 5) (mt := T_least_poly_1) (m := X_least_poly_1) (vs := [5]) (E := [.val (.imm (.int (M : Nat))), .val (.dic []), .no, .no, .no, .no]) (fun i : Nat => PyData.int (3 + (i : Nat))) (fun i : Nat => PyData.int (3 + (i : Nat))) (fun i => decide (2 * M % (3 + i) = 0)) (List.range (2 * M - 2)) (fun i hi => by
    have m1 := v_modI (a := 2 * (M : Int)) (b := 3 + (i : Int)) (by omega)
    have m2 : decide (2 * (M : Int) % (3 + (i : Int)) = 0) = decide (2 * M % (3 + i) = 0) := by
      rw [decide_eq_decide]
      have : ((2 * M % (3 + i) : Nat) : Int) = 2 * (M : Int) % (3 + (i : Int)) := by rw [Int.natCast_emod, Int.natCast_mul, Int.natCast_add]; rfl
      omega
    exact ⟨_, _, by simp -implicitDefEqProofs only [q00,q01,q02,q03,q04,q05,q06,q07,q08,q09,q0a,q0b,q0c,q0d,q0e,q0f,q0g,q0h,q0i,q0j,q0k,q0l,q0m,q0n,q0o,q0p,q0q,q0r,q0s,q0t,q0u,q0v,q0w,q0x,q0y,q0z,q0A,q0B,q0C,q0D,q0E,q0F,q0G,q0H,q0I,q0J,q0K,q0L,q0M,q0N,q0O,q0P,q0Q,q0R,q0S,q0T,FL.toDs_imms,FL.imms_imms,q0U,q0V,q0W,q0X,q0Y,q0Z,q10q,q11,q12,q13,q14,q15,q16,q17,q18,q19,q1a,q1b,q1c,q1d,q1e,q1f,q1g,q1h,q1i,q1j,q1k,q1l,q1m,q1n,q1o,q1p,q1q,q1r,q1s,q1t,q1u,q1v,q1w,q1x,q1y,q1z,q1A,q1B,q1C,q1D,q1E,q1F,q1G,q1H,q1I,q1J,q1K,q1L,q1M,q1N,q1O,q1P,q1Q,q1R,q1S,q1T,q1U,q1V,q1W,q1X,q1Y,q1Z,q20,q21,q22,q23,q24,q25,q26,q27,q28,q29,q2a,q2bq,q2c,q2d,q2e,q2f,q2g,q2h,q2i,q2j,q2k,q2l,q2m,q2n,q2o,q2p,q2q,q2r,q2s,q2t,q2u,q2v,q2w,q2x,q2y,q2z,q2A,q2B,q2C,q2D,q2E,q2F,q2G,q2H,q2I,q2J,q2K,q2L,q2M,q2N,q2O,q2P,q2Q,q2R,q2S,q2T,q2U,q2V,q2W,q2X,q2Y,q2Z,q30,q31,q32,q33,q34,q35,q36,q37,q38,q39,q3a,q3b,q3c,q3d,q3e,q3f,q3g,q3h,q3i,FL.callD,Option.bind_some,Option.bind_none,List.getElem?_cons_zero,List.getElem?_cons_succ,List.getElem?_nil,List.set_cons_zero,List.set_cons_succ,List.length_cons,List.length_nil,List.filterMap_cons,List.filterMap_nil,decide_eq_true_eq,if_true,if_false,true_and,and_true,Nat.reduceAdd,Nat.reduceLeDiff,Nat.reduceEqDiff,↓reduceIte,Bool.false_eq_true,FL.startE,FL.backs,List.map_cons,List.map_nil,List.cons_append,List.nil_append,Nat.reduceSub,List.replicate_succ,List.replicate_zero,List.nodup_nil,List.nodup_cons,List.not_mem_nil,not_false_eq_true,and_self,reduceCtorEq,Option.map_some,Option.map_none,lenT_tab,lenT_row]; rfl, by unfold T_least_poly_1; simp -implicitDefEqProofs only [q00,q01,q02,q03,q04,q05,q06,q07,q08,q09,q0a,q0b,q0c,q0d,q0e,q0f,q0g,q0h,q0i,q0j,q0k,q0l,q0m,q0n,q0o,q0p,q0q,q0r,q0s,q0t,q0u,q0v,q0w,q0x,q0y,q0z,q0A,q0B,q0C,q0D,q0E,q0F,q0G,q0H,q0I,q0J,q0K,q0L,q0M,q0N,q0O,q0P,q0Q,q0R,q0S,q0T,FL.toDs_imms,FL.imms_imms,q0U,q0V,q0W,q0X,q0Y,q0Z,q10q,q11,q12,q13,q14,q15,q16,q17,q18,q19,q1a,q1b,q1c,q1d,q1e,q1f,q1g,q1h,q1i,q1j,q1k,q1l,q1m,q1n,q1o,q1p,q1q,q1r,q1s,q1t,q1u,q1v,q1w,q1x,q1y,q1z,q1A,q1B,q1C,q1D,q1E,q1F,q1G,q1H,q1I,q1J,q1K,q1L,q1M,q1N,q1O,q1P,q1Q,q1R,q1S,q1T,q1U,q1V,q1W,q1X,q1Y,q1Z,q20,q21,q22,q23,q24,q25,q26,q27,q28,q29,q2a,q2bq,q2c,q2d,q2e,q2f,q2g,q2h,q2i,q2j,q2k,q2l,q2m,q2n,q2o,q2p,q2q,q2r,q2s,q2t,q2u,q2v,q2w,q2x,q2y,q2z,q2A,q2B,q2C,q2D,q2E,q2F,q2G,q2H,q2I,q2J,q2K,q2L,q2M,q2N,q2O,q2P,q2Q,q2R,q2S,q2T,q2U,q2V,q2W,q2X,q2Y,q2Z,q30,q31,q32,q33,q34,q35,q36,q37,q38,q39,q3a,q3b,q3c,q3d,q3e,q3f,q3g,q3h,q3i,FL.callD,Option.bind_some,Option.bind_none,List.getElem?_cons_zero,List.getElem?_cons_succ,List.getElem?_nil,List.set_cons_zero,List.set_cons_succ,List.length_cons,List.length_nil,List.filterMap_cons,List.filterMap_nil,decide_eq_true_eq,if_true,if_false,true_and,and_true,Nat.reduceAdd,Nat.reduceLeDiff,Nat.reduceEqDiff,↓reduceIte,Bool.false_eq_true,FL.startE,FL.backs,List.map_cons,List.map_nil,List.cons_append,List.nil_append,Nat.reduceSub,List.replicate_succ,List.replicate_zero,List.nodup_nil,List.nodup_cons,List.not_mem_nil,not_false_eq_true,and_self,reduceCtorEq,Option.map_some,Option.map_none,lenT_tab,lenT_row,f1,m1,m2]; rfl, fun _ => ⟨_, by unfold X_least_poly_1; simp -implicitDefEqProofs only [q00,q01,q02,q03,q04,q05,q06,q07,q08,q09,q0a,q0b,q0c,q0d,q0e,q0f,q0g,q0h,q0i,q0j,q0k,q0l,q0m,q0n,q0o,q0p,q0q,q0r,q0s,q0t,q0u,q0v,q0w,q0x,q0y,q0z,q0A,q0B,q0C,q0D,q0E,q0F,q0G,q0H,q0I,q0J,q0K,q0L,q0M,q0N,q0O,q0P,q0Q,q0R,q0S,q0T,FL.toDs_imms,FL.imms_imms,q0U,q0V,q0W,q0X,q0Y,q0Z,q10q,q11,q12,q13,q14,q15,q16,q17,q18,q19,q1a,q1b,q1c,q1d,q1e,q1f,q1g,q1h,q1i,q1j,q1k,q1l,q1m,q1n,q1o,q1p,q1q,q1r,q1s,q1t,q1u,q1v,q1w,q1x,q1y,q1z,q1A,q1B,q1C,q1D,q1E,q1F,q1G,q1H,q1I,q1J,q1K,q1L,q1M,q1N,q1O,q1P,q1Q,q1R,q1S,q1T,q1U,q1V,q1W,q1X,q1Y,q1Z,q20,q21,q22,q23,q24,q25,q26,q27,q28,q29,q2a,q2bq,q2c,q2d,q2e,q2f,q2g,q2h,q2i,q2j,q2k,q2l,q2m,q2n,q2o,q2p,q2q,q2r,q2s,q2t,q2u,q2v,q2w,q2x,q2y,q2z,q2A,q2B,q2C,q2D,q2E,q2F,q2G,q2H,q2I,q2J,q2K,q2L,q2M,q2N,q2O,q2P,q2Q,q2R,q2S,q2T,q2U,q2V,q2W,q2X,q2Y,q2Z,q30,q31,q32,q33,q34,q35,q36,q37,q38,q39,q3a,q3b,q3c,q3d,q3e,q3f,q3g,q3h,q3i,FL.callD,Option.bind_some,Option.bind_none,List.getElem?_cons_zero,List.getElem?_cons_succ,List.getElem?_nil,List.set_cons_zero,List.set_cons_succ,List.length_cons,List.length_nil,List.filterMap_cons,List.filterMap_nil,decide_eq_true_eq,if_true,if_false,true_and,and_true,Nat.reduceAdd,Nat.reduceLeDiff,Nat.reduceEqDiff,↓reduceIte,Bool.false_eq_true,FL.startE,FL.backs,List.map_cons,List.map_nil,List.cons_append,List.nil_append,Nat.reduceSub,List.replicate_succ,List.replicate_zero,List.nodup_nil,List.nodup_cons,List.not_mem_nil,not_false_eq_true,and_self,reduceCtorEq,Option.map_some,Option.map_none,lenT_tab,lenT_row]; rfl, rfl⟩, fun _ => rfl⟩) [] (by simp; omega)
  have e3 : ((List.range (2 * M - 2)).filter fun i => decide (2 * M % (3 + i) = 0)).map (fun i : Nat => PyData.int (3 + (i : Nat))) = (partsN M).map iE := by
    unfold partsN
    rw [List.map_map]
    refine List.map_congr_left fun i _ => ?_
    show PyData.int _ = PyData.int ((3 + i : Nat) : Int)
    congr 1
  rw [e3, List.nil_append] at e2
  have r1 := fun E => v_rg2 (E := E) (i := 3) (j := 2 * (M : Int) + 1) (rng_ok (by omega) (by omega)) (rng_ok (by omega) (by omega))
  have r2 : rangeD 3 (2 * (M : Int) + 1 - 3).toNat = (List.range (2 * M - 2)).map fun i : Nat => PyData.int (3 + (i : Nat)) := by
    rw [show (2 * (M : Int) + 1 - 3).toNat = 2 * M - 2 by omega]; rfl
  have g1 := getD_dk (2 * M) made
  rw [h2, Int.natCast_mul, show ((2 : Nat) : Int) = 2 from rfl] at g1
  rw [v_fn]
  unfold m_least_poly
  simp -implicitDefEqProofs only [q00,q01,q02,q03,q04,q05,q06,q07,q08,q09,q0a,q0b,q0c,q0d,q0e,q0f,q0g,q0h,q0i,q0j,q0k,q0l,q0m,q0n,q0o,q0p,q0q,q0r,q0s,q0t,q0u,q0v,q0w,q0x,q0y,q0z,q0A,q0B,q0C,q0D,q0E,q0F,q0G,q0H,q0I,q0J,q0K,q0L,q0M,q0N,q0O,q0P,q0Q,q0R,q0S,q0T,FL.toDs_imms,FL.imms_imms,q0U,q0V,q0W,q0X,q0Y,q0Z,q10q,q11,q12,q13,q14,q15,q16,q17,q18,q19,q1a,q1b,q1c,q1d,q1e,q1f,q1g,q1h,q1i,q1j,q1k,q1l,q1m,q1n,q1o,q1p,q1q,q1r,q1s,q1t,q1u,q1v,q1w,q1x,q1y,q1z,q1A,q1B,q1C,q1D,q1E,q1F,q1G,q1H,q1I,q1J,q1K,q1L,q1M,q1N,q1O,q1P,q1Q,q1R,q1S,q1T,q1U,q1V,q1W,q1X,q1Y,q1Z,q20,q21,q22,q23,q24,q25,q26,q27,q28,q29,q2a,q2bq,q2c,q2d,q2e,q2f,q2g,q2h,q2i,q2j,q2k,q2l,q2m,q2n,q2o,q2p,q2q,q2r,q2s,q2t,q2u,q2v,q2w,q2x,q2y,q2z,q2A,q2B,q2C,q2D,q2E,q2F,q2G,q2H,q2I,q2J,q2K,q2L,q2M,q2N,q2O,q2P,q2Q,q2R,q2S,q2T,q2U,q2V,q2W,q2X,q2Y,q2Z,q30,q31,q32,q33,q34,q35,q36,q37,q38,q39,q3a,q3b,q3c,q3d,q3e,q3f,q3g,q3h,q3i,FL.callD,Option.bind_some,Option.bind_none,List.getElem?_cons_zero,List.getElem?_cons_succ,List.getElem?_nil,List.set_cons_zero,List.set_cons_succ,List.length_cons,List.length_nil,List.filterMap_cons,List.filterMap_nil,decide_eq_true_eq,if_true,if_false,true_and,and_true,Nat.reduceAdd,Nat.reduceLeDiff,Nat.reduceEqDiff,↓reduceIte,Bool.false_eq_true,FL.startE,FL.backs,List.map_cons,List.map_nil,List.cons_append,List.nil_append,Nat.reduceSub,List.replicate_succ,List.replicate_zero,List.nodup_nil,List.nodup_cons,List.not_mem_nil,not_false_eq_true,and_self,reduceCtorEq,Option.map_some,Option.map_none,lenT_tab,lenT_row,f1,r1,r2,e2,toDs_imms,e1,mDGet,g1]
end WK
namespace WK
open PySem L2 FL
def sm : Nat → (Nat → Int) → Int
  | 0, _ => 0
  | n + 1, f => sm n f + f n
theorem sm_congr {n : Nat} {f g : Nat → Int} (h : ∀ i, i < n → f i = g i) : sm n f = sm n g := by
  induction n with
  | zero => rfl
  | succ n ih => rw [sm, sm, ih fun i hi => h i (by omega), h n (by omega)]
theorem sm_add (n : Nat) (f g : Nat → Int) : sm n (fun i => f i + g i) = sm n f + sm n g := by
  induction n with
  | zero => rfl
  | succ n ih => rw [sm, sm, sm, ih]; omega
theorem sm_mul (n : Nat) (c : Int) (f : Nat → Int) : sm n (fun i => c * f i) = c * sm n f := by
  induction n with
  | zero => simp [sm]
  | succ n ih => rw [sm, sm, ih, Int.mul_add]
theorem sm_zero (n : Nat) : sm n (fun _ => 0) = 0 := by
  induction n with
  | zero => rfl
  | succ n ih => rw [sm, ih]; rfl
theorem sm_comm (m n : Nat) (f : Nat → Nat → Int) : sm m (fun i => sm n (f i)) = sm n (fun j => sm m fun i => f i j) := by
  induction m with
  | zero =>
    show 0 = sm n fun _ => 0
    rw [sm_zero]
  | succ m ih =>
    rw [sm, ih, ← sm_add]
    rfl
def pr : List Int → (Nat → Int) → Int
  | [], _ => 0
  | a :: l, u => a * u 0 + pr l fun n => u (n + 1)
theorem sm_head (n : Nat) (f : Nat → Int) : sm (n + 1) f = f 0 + sm n fun i => f (i + 1) := by
  induction n with
  | zero => show 0 + f 0 = f 0 + 0; omega
  | succ n ih => rw [sm, ih, sm]; omega
theorem pr_sm : ∀ (l : List Int) (u : Nat → Int), pr l u = sm l.length fun i => l.getD i 0 * u i
  | [], _ => rfl
  | a :: l, u => by
    rw [pr, pr_sm l, List.length_cons, sm_head]; rfl
theorem pr_set : ∀ (l : List Int) (i : Nat) (v : Int) (u : Nat → Int), i < l.length → pr (l.set i v) u = pr l u + (v - l.getD i 0) * u i
  | [], i, _, _, h => by cases h
  | a :: l, 0, v, u, _ => by
    show v * u 0 + pr l _ = a * u 0 + pr l _ + (v - a) * u 0
    rw [Int.sub_mul]
    omega
  | a :: l, i + 1, v, u, h => by
    have := pr_set l i v (fun n => u (n + 1)) (by simpa using h)
    show a * u 0 + pr (l.set i v) _ = a * u 0 + pr l _ + (v - l.getD i 0) * u (i + 1)
    rw [this]
    omega
theorem pr_app : ∀ (l m : List Int) (u : Nat → Int), pr (l ++ m) u = pr l u + pr m fun n => u (l.length + n)
  | [], m, u => by
    show pr m u = 0 + pr m fun n => u (0 + n)
    simp
  | a :: l, m, u => by
    show a * u 0 + pr (l ++ m) _ = a * u 0 + pr l _ + pr m _
    rw [pr_app l m]
    have : (fun n => u (l.length + n + 1)) = fun n => u ((a :: l).length + n) := by
      funext n
      rw [List.length_cons]
      congr 1
      omega
    rw [this]
    omega
theorem pr_zeros : ∀ (n : Nat) (u : Nat → Int), pr (List.replicate n 0) u = 0
  | 0, _ => rfl
  | n + 1, u => by
    rw [List.replicate_succ, pr, pr_zeros n]
    omega
theorem pr_zeroF (l : List Int) : pr l (fun _ => 0) = 0 := by
  rw [pr_sm]
  have : (fun i => l.getD i 0 * (0 : Int)) = fun _ => 0 := by funext i; omega
  rw [this, sm_zero]
theorem pr_comm (a b : List Int) (u : Nat → Int) : pr a (fun i => pr b fun j => u (i + j)) = pr b (fun j => pr a fun i => u (j + i)) := by
  simp only [pr_sm]
  have h1 : (fun i => a.getD i 0 * sm b.length fun j => b.getD j 0 * u (i + j)) = fun i => sm b.length fun j => a.getD i 0 * (b.getD j 0 * u (i + j)) := by
    funext i
    rw [sm_mul]
  have h2 : (fun j => b.getD j 0 * sm a.length fun i => a.getD i 0 * u (j + i)) = fun j => sm a.length fun i => a.getD i 0 * (b.getD j 0 * u (i + j)) := by
    funext j
    rw [← sm_mul]
    exact sm_congr fun i _ => by rw [Int.mul_left_comm, Nat.add_comm]
  rw [h1, h2, sm_comm]
def addR (q : List Int) (f : Int) (o n : Nat) (l : List Int) : List Int := (List.range n).foldl (fun m j => m.set (o + j) (m.getD (o + j) 0 + f * q.getD j 0)) l
theorem addR_succ {q : List Int} {f : Int} {o n : Nat} {l : List Int} : addR q f o (n + 1) l = (addR q f o n l).set (o + n) ((addR q f o n l).getD (o + n) 0 + f * q.getD n 0) := by
  unfold addR
  rw [List.range_succ, List.foldl_append]; rfl
theorem len_addR (q : List Int) (f : Int) (o n : Nat) (l : List Int) : (addR q f o n l).length = l.length := len_fold (fun l k => List.length_set) _ _
theorem getD_set (l : List Int) (i j : Nat) (v : Int) : (l.set i v).getD j 0 = if i = j ∧ i < l.length then v else l.getD j 0 := by
  rw [List.getD_eq_getElem?_getD, List.getElem?_set, List.getD_eq_getElem?_getD]
  by_cases h : i = j
  · subst h
    by_cases k : i < l.length
    · rw [if_pos rfl, if_pos k, if_pos ⟨rfl, k⟩]; rfl
    · rw [if_pos rfl, if_neg k, if_neg (fun z => k z.2), List.getElem?_eq_none (by omega)]
  · rw [if_neg h, if_neg (fun z => h z.1)]
theorem addR_get (q : List Int) (f : Int) (o : Nat) (l : List Int) : ∀ (n : Nat), o + n ≤ l.length → ∀ i, (addR q f o n l).getD i 0 = if o ≤ i ∧ i < o + n then l.getD i 0 + f * q.getD (i - o) 0 else l.getD i 0
  | 0, _, i => by
    rw [if_neg (by omega)]; rfl
  | n + 1, h, i => by
    rw [addR_succ, getD_set, len_addR, addR_get q f o l n (by omega), addR_get q f o l n (by omega)]
    by_cases e : o + n = i
    · subst e
      rw [if_pos ⟨rfl, by omega⟩, if_neg (by omega), if_pos (by omega), show o + n - o = n by omega]
    · rw [if_neg (fun z => e z.1)]
      by_cases k : o ≤ i ∧ i < o + n
      · rw [if_pos k, if_pos (by omega)]
      · rw [if_neg k, if_neg (by omega)]
theorem pr_addR (q : List Int) (f : Int) (o k : Nat) (l : List Int) (u : Nat → Int) (hk : k ≤ l.length) : ∀ (n : Nat), o + n ≤ k → pr ((addR q f o n l).take k) u = pr (l.take k) u + f * sm n fun j => q.getD j 0 * u (o + j)
  | 0, _ => by
    show _ = pr (l.take k) u + f * 0
    rw [Int.mul_zero, Int.add_zero]; rfl
  | n + 1, h => by
    have hl := len_addR q f o n l
    have ht : ((addR q f o n l).take k).getD (o + n) 0 = (addR q f o n l).getD (o + n) 0 := by
      rw [List.getD_eq_getElem?_getD, List.getElem?_take, if_pos (by omega), List.getD_eq_getElem?_getD]
    rw [addR_succ, List.take_set, pr_set _ _ _ _ (by rw [List.length_take]; omega), pr_addR q f o k l u hk n (by omega), ht, sm, Int.mul_add]
    have : (addR q f o n l).getD (o + n) 0 + f * q.getD n 0 - (addR q f o n l).getD (o + n) 0 = f * q.getD n 0 := by omega
    rw [this, Int.mul_assoc]
    omega
def redK (p : List Int) (d : Nat) (l : List Int) (k : Nat) : List Int := if l.getD k 0 = 0 then l else addR p (-(l.getD k 0)) (k - d) d l
def foldR (p : List Int) (d : Nat) : Nat → List Int → List Int
  | 0, l => l
  | n + 1, l => foldR p d n (redK p d l (d + n))
def foldP (p : List Int) (r : List Int) : List Int := (foldR p (p.length - 1) (r.length - (p.length - 1)) (r ++ List.replicate (p.length - 1 - r.length) 0)).take (p.length - 1)
theorem len_redK (p : List Int) (d : Nat) (l : List Int) (k : Nat) : (redK p d l k).length = l.length := by
  unfold redK
  split
  · rfl
  · exact len_addR _ _ _ _ _
theorem len_foldR (p : List Int) (d : Nat) : ∀ (n : Nat) (l : List Int), (foldR p d n l).length = l.length
  | 0, _ => rfl
  | n + 1, l => by rw [foldR, len_foldR p d n, len_redK]
theorem len_foldP (p r : List Int) : (foldP p r).length = p.length - 1 := by
  unfold foldP
  rw [List.length_take, len_foldR, List.length_append, List.length_replicate]
  omega
def Rec (p : List Int) (u : Nat → Int) : Prop := ∀ n, u (n + (p.length - 1)) = -(sm (p.length - 1) fun j => p.getD j 0 * u (n + j))
theorem Rec.shift {p : List Int} {u : Nat → Int} (h : Rec p u) (k : Nat) : Rec p fun n => u (k + n) := fun n => by
  have := h (k + n)
  show u (k + (n + (p.length - 1))) = -(sm (p.length - 1) fun j => p.getD j 0 * u (k + (n + j)))
  rw [show k + (n + (p.length - 1)) = k + n + (p.length - 1) by omega, this]
  congr 1
  exact sm_congr fun j _ => by rw [Nat.add_assoc]
theorem pr_take_succ (l : List Int) (k : Nat) (u : Nat → Int) (h : k < l.length) : pr (l.take (k + 1)) u = pr (l.take k) u + l.getD k 0 * u k := by
  rw [List.take_succ, pr_app, List.getD_eq_getElem?_getD, List.getElem?_eq_getElem h, List.length_take, Nat.min_eq_left (by omega)]
  show _ + (_ * u (k + 0) + 0) = _
  rw [Int.add_zero, Nat.add_zero]; rfl
theorem pr_foldR {p : List Int} {u : Nat → Int} (hu : Rec p u) : ∀ (n : Nat) (l : List Int), p.length - 1 + n ≤ l.length → pr ((foldR p (p.length - 1) n l).take (p.length - 1)) u = pr (l.take (p.length - 1 + n)) u
  | 0, _, _ => rfl
  | n + 1, l, h => by
    rw [foldR, pr_foldR hu n _ (by rw [len_redK]; omega), ← Nat.add_assoc, pr_take_succ l _ u (by omega)]
    unfold redK
    split
    · rename_i e
      rw [e, Int.zero_mul, Int.add_zero]
    · have h1 := hu n
      rw [pr_addR _ _ _ _ _ _ (by omega) _ (by omega), show p.length - 1 + n - (p.length - 1) = n by omega, Nat.add_comm (p.length - 1) n, h1, Int.neg_mul, Int.mul_neg]
theorem pr_foldP {p : List Int} {u : Nat → Int} (hu : Rec p u) (r : List Int) : pr (foldP p r) u = pr r u := by
  unfold foldP
  rw [pr_foldR hu _ _ (by rw [List.length_append, List.length_replicate]; omega), List.take_of_length_le (by rw [List.length_append, List.length_replicate]; omega), pr_app, pr_zeros, Int.add_zero]
end WK
namespace WK
open PySem L2 FL
def BdL (N : Nat) (l : List Int) : Prop := ∀ i, Bd N (l.getD i 0)
theorem BdL.mono {N m : Nat} {l : List Int} (h : BdL N l) (k : N ≤ m) : BdL m l := fun i => (h i).mono k
theorem Bd.zero (N : Nat) : Bd N 0 := by
  unfold Bd
  exact Nat.two_pow_pos N
theorem Bd.neg {N : Nat} {a : Int} (h : Bd N a) : Bd N (-a) := by
  unfold Bd at *
  rw [Int.natAbs_neg]; exact h
theorem BdL.addR {q l : List Int} {f : Int} {o n N m k : Nat} (hl : BdL N l) (hq : BdL m q) (hf : Bd k f) (hN : k + m ≤ N) (h : o + n ≤ l.length) : BdL (N + 1) (addR q f o n l) := fun i => by
  rw [addR_get _ _ _ _ _ h]
  split
  · exact (hl i).add ((hf.mul (hq _)).mono hN)
  · exact (hl i).mono (by omega)
theorem BdL.redK {p l : List Int} {d k N : Nat} (hl : BdL N l) (hp : BdL 80 p) (h1 : d ≤ k) (h2 : k ≤ l.length) : BdL (N + 81) (redK p d l k) := by
  unfold WK.redK
  split
  · exact hl.mono (by omega)
  · exact BdL.addR (m := 80) (k := N) (N := N + 80) (hl.mono (by omega)) hp (Bd.neg (hl k)) (Nat.le_refl _) (by omega)
theorem BdL.foldR {p : List Int} {d : Nat} (hp : BdL 80 p) : ∀ (n : Nat) {l : List Int} {N : Nat}, BdL N l → d + n ≤ l.length → BdL (N + 81 * n) (foldR p d n l)
  | 0, l, N, hl, _ => hl
  | n + 1, l, N, hl, h => by
    have := BdL.foldR (d := d) hp n (l := WK.redK p d l (d + n)) (N := N + 81) (BdL.redK (k := d + n) hl hp (by omega) (by omega)) (by rw [len_redK]; omega)
    exact this.mono (by omega)
theorem BdL.take {l : List Int} {N k : Nat} (h : BdL N l) : BdL N (l.take k) := fun i => by
  rw [List.getD_eq_getElem?_getD, List.getElem?_take]
  split
  · rw [← List.getD_eq_getElem?_getD]; exact h i
  · exact Bd.zero N
theorem BdL.pad {l : List Int} {N k : Nat} (h : BdL N l) : BdL N (l ++ List.replicate k 0) := fun i => by
  rw [List.getD_eq_getElem?_getD]
  by_cases e : i < l.length
  · rw [List.getElem?_append_left e, ← List.getD_eq_getElem?_getD]; exact h i
  · rw [List.getElem?_append_right (by omega), List.getElem?_replicate]
    split <;> exact Bd.zero N
theorem BdL.foldP {p r : List Int} {N : Nat} (hp : BdL 80 p) (h : BdL N r) : BdL (N + 81 * (r.length - (p.length - 1))) (foldP p r) :=
  (BdL.foldR hp _ h.pad (by rw [List.length_append, List.length_replicate]; omega)).take
end WK
namespace WK
open PySem L2 FL
def preL (p s : List Int) : Nat → List Int
  | 0 => s
  | n + 1 => preL p s n ++ [-(sm (p.length - 1) fun j => p.getD j 0 * (preL p s n).getD (n + j) 0)]
theorem len_preL {p s : List Int} (hs : s.length = p.length - 1) : ∀ n, (preL p s n).length = p.length - 1 + n
  | 0 => hs
  | n + 1 => by rw [preL, List.length_append, len_preL hs n]; rfl
theorem preL_stay {p s : List Int} (hs : s.length = p.length - 1) (n i : Nat) (h : i < p.length - 1 + n) : ∀ k, (preL p s (n + k)).getD i 0 = (preL p s n).getD i 0
  | 0 => rfl
  | k + 1 => by
    rw [← Nat.add_assoc, preL, List.getD_eq_getElem?_getD, List.getElem?_append_left (by rw [len_preL hs]; omega), ← List.getD_eq_getElem?_getD, preL_stay hs n i h k]
def extU (p s : List Int) (n : Nat) : Int := (preL p s n).getD n 0
theorem extU_at {p s : List Int} (h2 : 2 ≤ p.length) (hs : s.length = p.length - 1) (n i : Nat) (h : i < p.length - 1 + n) : extU p s i = (preL p s n).getD i 0 := by
  unfold extU
  rcases Nat.le_total i n with k | k
  · obtain ⟨q, rfl⟩ := Nat.exists_eq_add_of_le k
    exact (preL_stay hs i i (by omega) q).symm
  · obtain ⟨q, rfl⟩ := Nat.exists_eq_add_of_le k
    exact preL_stay hs n (n + q) h q
theorem extU_rec {p s : List Int} (h2 : 2 ≤ p.length) (hs : s.length = p.length - 1) : Rec p (extU p s) := fun n => by
  rw [extU_at h2 hs (n + 1) (n + (p.length - 1)) (by omega), preL, List.getD_eq_getElem?_getD, List.getElem?_append_right (by rw [len_preL hs]; omega), len_preL hs, show n + (p.length - 1) - (p.length - 1 + n) = 0 by omega]
  show -(sm _ _) = _
  congr 1
  exact sm_congr fun j hj => by rw [extU_at h2 hs n (n + j) (by omega)]
theorem sm_single (n i : Nat) (f : Nat → Int) (h : i < n) : sm n (fun k => f k * if k = i then 1 else 0) = f i := by
  induction n with
  | zero => omega
  | succ n ih =>
    rw [sm]
    by_cases e : n = i
    · subst e
      have : sm n (fun k => f k * if k = n then 1 else 0) = sm n fun _ => 0 := sm_congr fun k hk => by rw [if_neg (by omega), Int.mul_zero]
      rw [this, sm_zero, if_pos rfl]
      omega
    · rw [ih (by omega), if_neg e]
      omega
theorem faith {p a b : List Int} (h2 : 2 ≤ p.length) (la : a.length = p.length - 1) (lb : b.length = p.length - 1) (h : ∀ u, Rec p u → pr a u = pr b u) : a = b := by
  have key : ∀ i, i < p.length - 1 → a.getD i 0 = b.getD i 0 := fun i hi => by
    let s : List Int := (List.range (p.length - 1)).map fun k => if k = i then 1 else 0
    have hs : s.length = p.length - 1 := by simp [s]
    have hu : ∀ k, k < p.length - 1 → extU p s k = if k = i then 1 else 0 := fun k hk => by
      rw [extU_at h2 hs 0 k (by omega)]
      show s.getD k 0 = _
      simp only [s]
      rw [List.getD_eq_getElem?_getD, range_get hk]; rfl
    have one : ∀ c : List Int, c.length = p.length - 1 → pr c (extU p s) = c.getD i 0 := fun c lc => by
      rw [pr_sm, lc, ← sm_single (p.length - 1) i (fun k => c.getD k 0) hi]
      exact sm_congr fun k hk => by rw [hu k hk]
    have := h _ (extU_rec h2 hs)
    rw [one a la, one b lb] at this
    exact this
  refine List.ext_getElem? fun i => ?_
  by_cases hi : i < p.length - 1
  · have := key i hi
    rw [List.getD_eq_getElem?_getD, List.getD_eq_getElem?_getD, List.getElem?_eq_getElem (by omega), List.getElem?_eq_getElem (by omega)] at this
    rw [List.getElem?_eq_getElem (by omega), List.getElem?_eq_getElem (by omega)]
    exact congrArg some this
  · rw [List.getElem?_eq_none (by omega), List.getElem?_eq_none (by omega)]
end WK
namespace WK
open PySem L2 FL
def pt0 : List (List Int) := [[], [], [], [1, 1], [0, 1], [-1, 1, 1], [-1, 1], [-1, -2, 1, 1], [-2, 0, 1], [1, -3, 0, 1], [-1, -1, 1], [1, 3, -3, -4, 1, 1], [-3, 0, 1], [-1, 3, 6, -4, -5, 1, 1], [1, -2, -1, 1], [1, 4, -4, -1, 1], [2, 0, -4, 0, 1], [1, -4, -10, 10, 15, -6, -7, 1, 1], [-1, -3, 0, 1], [1, 5, -10, -20, 15, 21, -7, -8, 1, 1]]
def pt20 : List (List Int) := [[5, 0, -5, 0, 1], [1, -8, 8, 6, -6, -1, 1], [-1, 3, 3, -4, -1, 1], [-1, -6, 15, 35, -35, -56, 28, 36, -9, -10, 1, 1], [1, 0, -4, 0, 1], [-1, 5, 25, -5, -50, 1, 35, 0, -10, 0, 1], [-1, -3, 6, 4, -5, -1, 1], [1, 9, 0, -30, 0, 27, 0, -9, 0, 1], [-7, 0, 14, 0, -7, 0, 1], [-1, 7, 28, -56, -126, 126, 210, -120, -165, 55, 66, -12, -13, 1, 1], [1, -4, -4, 1, 1], [-1, -8, 28, 84, -126, -252, 210, 330, -165, -220, 66, 78, -13, -14, 1, 1], [2, 0, -16, 0, 20, 0, -8, 0, 1], [1, -12, 12, 43, -43, -34, 34, 10, -10, -1, 1], [1, 4, -10, -10, 15, 6, -7, -1, 1], [1, 8, -40, -46, 110, 71, -113, -43, 54, 11, -12, -1, 1], [-3, 0, 9, 0, -6, 0, 1], [-1, 9, 45, -120, -330, 462, 924, -792, -1287, 715, 1001, -364, -455, 105, 120, -16, -17, 1, 1], [-1, 5, 10, -20, -15, 21, 7, -8, -1, 1], [1, 12, -12, -79, 79, 103, -103, -53, 53, 12, -12, -1, 1]]
def pt40 : List (List Int) := [[1, 0, -12, 0, 19, 0, -8, 0, 1], [1, -10, -55, 165, 495, -792, -1716, 1716, 3003, -2002, -3003, 1365, 1820, -560, -680, 136, 153, -18, -19, 1, 1], [1, 8, 8, -6, -6, 1, 1], [1, 11, -55, -220, 495, 1287, -1716, -3432, 3003, 5005, -3003, -4368, 1820, 2380, -680, -816, 153, 171, -19, -20, 1, 1], [-11, 0, 55, 0, -77, 0, 44, 0, -11, 0, 1], [1, -12, -36, 31, 105, -27, -112, 9, 54, -1, -12, 0, 1], [1, -6, -15, 35, 35, -56, -28, 36, 9, -10, -1, 1], [-1, -12, 66, 286, -715, -2002, 3003, 6435, -6435, -11440, 8008, 12376, -6188, -8568, 3060, 3876, -969, -1140, 190, 210, -21, -22, 1, 1], [1, 0, -16, 0, 20, 0, -8, 0, 1], [-1, 14, 49, -371, -196, 2072, 294, -5147, -210, 7007, 77, -5733, -14, 2940, 1, -952, 0, 189, 0, -21, 0, 1], [-1, -5, 25, 5, -50, -1, 35, 0, -10, 0, 1], [1, 16, -16, -188, 188, 526, -526, -596, 596, 339, -339, -103, 103, 16, -16, -1, 1], [13, 0, -91, 0, 182, 0, -156, 0, 65, 0, -13, 0, 1], [-1, 13, 91, -364, -1365, 3003, 8008, -11440, -24310, 24310, 43758, -31824, -50388, 27132, 38760, -15504, -20349, 5985, 7315, -1540, -1771, 253, 276, -24, -25, 1, 1], [-1, 9, 0, -30, 0, 27, 0, -9, 0, 1], [1, 12, -108, -151, 951, 877, -2891, -2058, 4489, 2442, -4080, -1639, 2289, 650, -801, -151, 170, 19, -20, -1, 1], [1, 0, -24, 0, 86, 0, -104, 0, 53, 0, -12, 0, 1], [1, -20, 20, 265, -265, -989, 989, 1519, -1519, -1198, 1198, 531, -531, -134, 134, 18, -18, -1, 1], [-1, -7, 28, 56, -126, -126, 210, 120, -165, -55, 66, 12, -13, -1, 1], [1, 15, -105, -560, 1820, 6188, -12376, -31824, 43758, 92378, -92378, -167960, 125970, 203490, -116280, -170544, 74613, 100947, -33649, -42504, 10626, 12650, -2300, -2600, 325, 351, -27, -28, 1, 1]]
def pt60 : List (List Int) := [[1, 0, -8, 0, 14, 0, -7, 0, 1], [-1, 15, 120, -560, -2380, 6188, 18564, -31824, -75582, 92378, 184756, -167960, -293930, 203490, 319770, -170544, -245157, 100947, 134596, -42504, -53130, 12650, 14950, -2600, -2925, 351, 378, -28, -29, 1, 1], [1, -8, -28, 84, 126, -252, -210, 330, 165, -220, -66, 78, 13, -14, -1, 1], [1, 24, 72, -170, -534, 405, 1385, -459, -1782, 276, 1287, -90, -546, 15, 135, -1, -18, 0, 1], [2, 0, -64, 0, 336, 0, -672, 0, 660, 0, -352, 0, 104, 0, -16, 0, 1], [1, -12, -180, -101, 2085, 1802, -9126, -7168, 20886, 13653, -28667, -15001, 25284, 10282, -14822, -4540, 5832, 1292, -1521, -229, 252, 23, -24, -1, 1], [1, 12, 12, -43, -43, 34, 34, -10, -10, 1, 1], [1, 17, -136, -816, 3060, 11628, -27132, -77520, 125970, 293930, -352716, -705432, 646646, 1144066, -817190, -1307504, 735471, 1081575, -480700, -657800, 230230, 296010, -80730, -98280, 20475, 23751, -3654, -4060, 435, 465, -31, -32, 1, 1], [17, 0, -204, 0, 714, 0, -1122, 0, 935, 0, -442, 0, 119, 0, -17, 0, 1], [1, -24, 24, 482, -482, -2807, 2807, 7060, -7060, -9385, 9385, 7359, -7359, -3589, 3589, 1103, -1103, -208, 208, 22, -22, -1, 1], [1, -8, -40, 46, 110, -71, -113, 43, 54, -11, -12, 1, 1], [-1, -18, 153, 969, -3876, -15504, 38760, 116280, -203490, -497420, 646646, 1352078, -1352078, -2496144, 1961256, 3268760, -2042975, -3124550, 1562275, 2220075, -888030, -1184040, 376740, 475020, -118755, -142506, 27405, 31465, -4495, -4960, 496, 528, -33, -34, 1, 1], [1, 0, -36, 0, 105, 0, -112, 0, 54, 0, -12, 0, 1], [1, -18, -171, 969, 4845, -15504, -54264, 116280, 319770, -497420, -1144066, 1352078, 2704156, -2496144, -4457400, 3268760, 5311735, -3124550, -4686825, 2220075, 3108105, -1184040, -1560780, 475020, 593775, -142506, -169911, 31465, 35960, -4960, -5456, 528, 561, -34, -35, 1, 1], [-1, -9, 45, 120, -330, -462, 924, 792, -1287, -715, 1001, 364, -455, -105, 120, 16, -17, -1, 1], [1, 20, -100, -145, 825, 379, -2640, -450, 4290, 275, -4004, -90, 2275, 15, -800, -1, 170, 0, -20, 0, 1], [-19, 0, 285, 0, -1254, 0, 2508, 0, -2717, 0, 1729, 0, -665, 0, 152, 0, -19, 0, 1], [1, -24, -72, 1562, -2010, -14609, 24051, 63143, -107406, -159873, 264472, 261924, -411241, -292608, 432159, 229651, -318629, -128611, 168035, 51590, -63734, -14697, 17249, 2901, -3250, -377, 405, 29, -30, -1, 1], [1, -12, -12, 79, 79, -103, -103, 53, 53, -12, -12, 1, 1], [-1, -20, 190, 1330, -5985, -26334, 74613, 245157, -490314, -1307504, 1961256, 4457400, -5200300, -10400600, 9657700, 17383860, -13037895, -21474180, 13123110, 20030010, -10015005, -14307150, 5852925, 7888725, -2629575, -3365856, 906192, 1107568, -237336, -278256, 46376, 52360, -6545, -7140, 630, 666, -37, -38, 1, 1]]
def pt80 : List (List Int) := [[1, 0, -48, 0, 316, 0, -664, 0, 659, 0, -352, 0, 104, 0, -16, 0, 1], [1, -27, 0, 819, 0, -7371, 0, 30888, 0, -72930, 0, 107406, 0, -104652, 0, 69768, 0, -32319, 0, 10395, 0, -2277, 0, 324, 0, -27, 0, 1], [1, 10, -55, -165, 495, 792, -1716, -1716, 3003, 2002, -3003, -1365, 1820, 560, -680, -136, 153, 18, -19, -1, 1], [1, 21, -210, -1540, 7315, 33649, -100947, -346104, 735471, 2042975, -3268760, -7726160, 9657700, 20058300, -20058300, -37442160, 30421755, 51895935, -34597290, -54627300, 30045015, 44352165, -20160075, -28048800, 10518300, 13884156, -4272048, -5379616, 1344904, 1623160, -324632, -376992, 58905, 66045, -7770, -8436, 703, 741, -39, -40, 1, 1], [1, 0, -16, 0, 60, 0, -78, 0, 44, 0, -11, 0, 1], [1, -16, -304, -116, 6516, 5686, -53690, -46882, 228888, 181071, -589403, -407890, 1001431, 593422, -1183593, -590154, 1004699, 414544, -623732, -209188, 285340, 76152, -95978, -19826, 23426, 3600, -4033, -433, 464, 31, -32, -1, 1], [-1, 11, 55, -220, -495, 1287, 1716, -3432, -3003, 5005, 3003, -4368, -1820, 2380, 680, -816, -153, 171, 19, -20, -1, 1], [1, 28, -28, -987, 987, 9569, -9569, -41703, 41703, 99295, -99295, -144247, 144247, 136763, -136763, -88045, 88045, 39236, -39236, -12123, 12123, 2551, -2551, -349, 349, 28, -28, -1, 1], [1, 0, -60, 0, 575, 0, -2072, 0, 3683, 0, -3664, 0, 2172, 0, -784, 0, 169, 0, -20, 0, 1], [1, -22, -253, 1771, 10626, -42504, -177100, 480700, 1562275, -3124550, -8436285, 13037895, 30421755, -37442160, -77558760, 77558760, 145422675, -119759850, -206253075, 141120525, 225792840, -129024480, -193536720, 92561040, 131128140, -52451256, -70607460, 23535820, 30260340, -8347680, -10295472, 2324784, 2760681, -501942, -575757, 82251, 91390, -9880, -10660, 820, 861, -42, -43, 1, 1], [1, 12, -36, -31, 105, 27, -112, -9, 54, 1, -12, 0, 1], [1, 24, -216, -1922, 6018, 32327, -73571, -230058, 456052, 908896, -1655004, -2278575, 3879994, 3907332, -6263633, -4795428, 7259749, 4331906, -6208136, -2928983, 3983738, 1494700, -1934944, -576199, 712180, 166634, -197288, -35554, 40454, 5426, -5952, -560, 594, 35, -36, -1, 1], [-23, 0, 506, 0, -3289, 0, 9867, 0, -16445, 0, 16744, 0, -10948, 0, 4692, 0, -1311, 0, 230, 0, -23, 0, 1], [1, -32, 32, 1208, -1208, -13548, 13548, 68664, -68664, -191674, 191674, 329002, -329002, -371908, 371908, 288950, -288950, -158101, 158101, 61503, -61503, -16927, 16927, 3223, -3223, -404, 404, 30, -30, -1, 1], [1, -12, -66, 286, 715, -2002, -3003, 6435, 6435, -11440, -8008, 12376, 6188, -8568, -3060, 3876, 969, -1140, -190, 210, 21, -22, -1, 1], [1, 20, -340, -605, 9885, 10534, -108458, -100432, 601194, 503479, -2000649, -1498899, 4404908, 2906674, -6803518, -3896996, 7649116, 3752139, -6408680, -2656542, 4057888, 1401346, -1954471, -553125, 715754, 162629, -197720, -35091, 40485, 5394, -5953, -559, 594, 35, -36, -1, 1], [1, 0, -64, 0, 336, 0, -672, 0, 660, 0, -352, 0, 104, 0, -16, 0, 1], [1, -24, -300, 2300, 14950, -65780, -296010, 888030, 3108105, -6906900, -20030010, 34597290, 86493225, -119759850, -265182525, 300540195, 601080390, -565722720, -1037158320, 818809200, 1391975640, -927983760, -1476337800, 834451800, 1251677700, -600805296, -854992152, 348330136, 472733756, -163011640, -211915132, 61523748, 76904685, -18643560, -22481940, 4496388, 5245786, -850668, -962598, 123410, 135751, -13244, -14190, 990, 1035, -46, -47, 1, 1], [1, 14, -49, -371, 196, 2072, -294, -5147, 210, 7007, -77, -5733, 14, 2940, -1, -952, 0, 189, 0, -21, 0, 1], [1, 36, 108, -1173, -3555, 9423, 29442, -36027, -117504, 79936, 275835, -113139, -419353, 107592, 435915, -70720, -319752, 32508, 168244, -10416, -63756, 2278, 17250, -324, -3250, 27, 405, -1, -30, 0, 1]]
def pt100 : List (List Int) := [[5, 0, -125, 0, 875, 0, -2675, 0, 4300, 0, -4005, 0, 2275, 0, -800, 0, 170, 0, -20, 0, 1], [-1, 25, 325, -2600, -17550, 80730, 376740, -1184040, -4292145, 10015005, 30045015, -54627300, -141120525, 206253075, 471435600, -565722720, -1166803110, 1166803110, 2203961430, -1855967520, -3247943160, 2319959400, 3796297200, -2310789600, -3562467300, 1852482996, 2707475148, -1203322288, -1676056044, 635745396, 847660528, -273438880, -350343565, 95548245, 118030185, -26978328, -32224114, 6096454, 7059052, -1086008, -1221759, 148995, 163185, -15180, -16215, 1081, 1128, -48, -49, 1, 1], [1, -16, -16, 188, 188, -526, -526, 596, 596, -339, -339, 103, 103, -16, -16, 1, 1], [-1, -26, 325, 2925, -17550, -98280, 376740, 1560780, -4292145, -14307150, 30045015, 84672315, -141120525, -347373600, 471435600, 1037158320, -1166803110, -2333606220, 2203961430, 4059928950, -3247943160, -5567902560, 3796297200, 6107086800, -3562467300, -5414950296, 2707475148, 3910797436, -1676056044, -2311801440, 847660528, 1121099408, -350343565, -445891810, 118030185, 145008513, -32224114, -38320568, 7059052, 8145060, -1221759, -1370754, 163185, 178365, -16215, -17296, 1128, 1176, -49, -50, 1, 1], [1, 0, -84, 0, 1141, 0, -5936, 0, 15622, 0, -23792, 0, 22580, 0, -13904, 0, 5645, 0, -1500, 0, 251, 0, -24, 0, 1], [1, -32, -64, 528, 784, -3142, -4088, 9189, 11034, -15333, -17391, 15810, 17187, -10506, -11067, 4573, 4709, -1294, -1312, 229, 230, -23, -23, 1, 1], [-1, -13, 91, 364, -1365, -3003, 8008, 11440, -24310, -24310, 43758, 31824, -50388, -27132, 38760, 15504, -20349, -5985, 7315, 1540, -1771, -253, 276, 24, -25, -1, 1], [1, 27, -351, -3276, 20475, 118755, -475020, -2035800, 5852925, 20160075, -44352165, -129024480, 225792840, 573166440, -818809200, -1855967520, 2203961430, 4537567650, -4537567650, -8597496600, 7307872110, 12875774670, -9364199760, -15471286560, 9669554100, 15084504396, -8122425444, -12033222880, 5586853480, 7898654920, -3159461968, -4280561376, 1471442973, 1917334783, -563921995, -708930508, 177232627, 215553195, -45379620, -53524680, 9366819, 10737573, -1533939, -1712304, 194580, 211876, -18424, -19600, 1225, 1275, -51, -52, 1, 1], [-3, 0, 81, 0, -540, 0, 1386, 0, -1782, 0, 1287, 0, -546, 0, 135, 0, -18, 0, 1], [-1, 27, 378, -3276, -23751, 118755, 593775, -2035800, -7888725, 20160075, 64512240, -129024480, -354817320, 573166440, 1391975640, -1855967520, -4059928950, 4537567650, 9075135300, -8597496600, -15905368710, 12875774670, 22239974430, -15471286560, -25140840660, 15084504396, 23206929840, -12033222880, -17620076360, 7898654920, 11058116888, -4280561376, -5752004349, 1917334783, 2481256778, -708930508, -886163135, 215553195, 260932815, -53524680, -62891499, 10737573, 12271512, -1712304, -1906884, 211876, 230300, -19600, -20825, 1275, 1326, -52, -53, 1, 1], [1, -12, -108, 151, 951, -877, -2891, 2058, 4489, -2442, -4080, 1639, 2289, -650, -801, 151, 170, -19, -20, 1, 1], [1, 36, -36, -2073, 2073, 33780, -33780, -253044, 253044, 1061566, -1061566, -2786656, 2786656, 4909788, -4909788, -6085132, 6085132, 5475703, -5475703, -3651272, 3651272, 1824913, -1824913, -685907, 685907, 192880, -192880, -39961, 39961, 5919, -5919, -593, 593, 36, -36, -1, 1], [1, 0, -96, 0, 1400, 0, -7344, 0, 18646, 0, -27104, 0, 24648, 0, -14672, 0, 5813, 0, -1520, 0, 252, 0, -24, 0, 1], [1, -28, -406, 3654, 27405, -142506, -736281, 2629575, 10518300, -28048800, -92561040, 193536720, 548354040, -927983760, -2319959400, 3247943160, 7307872110, -8597496600, -17672631900, 17672631900, 33578000610, -28781143380, -51021117810, 37711260990, 62852101650, -40225345056, -63432274896, 35240152720, 52860229080, -25518731280, -36576848168, 15338678264, 21090682613, -7669339132, -10150595910, 3190187286, 4076350421, -1101716330, -1362649145, 314457495, 377348994, -73629072, -85900584, 13983816, 15890700, -2118760, -2349060, 249900, 270725, -22100, -23426, 1378, 1431, -54, -55, 1, 1], [1, 20, 20, -265, -265, 989, 989, -1519, -1519, 1198, 1198, -531, -531, 134, 134, -18, -18, 1, 1], [1, 24, -504, -986, 21786, 24089, -361455, -347233, 3073662, 2742874, -15742859, -13016729, 53558102, 40552321, -128871012, -88323383, 228768475, 140446403, -308473797, -168027624, 322457859, 154430258, -265002643, -110572386, 172779011, 62206625, -89808680, -27602055, 37253225, 9651170, -12294569, -2643399, 3203650, 560251, -650236, -89985, 100567, 10582, -11441, -859, 902, 43, -44, -1, 1], [29, 0, -1015, 0, 10556, 0, -51272, 0, 140998, 0, -243542, 0, 281010, 0, -224808, 0, 127281, 0, -51359, 0, 14674, 0, -2900, 0, 377, 0, -29, 0, 1], [1, -36, -108, 2145, 6471, -27162, -83631, 158337, 502173, -534544, -1761969, 1165464, 4030936, -1746123, -6403833, 1867585, 7348878, -1459998, -6247579, 845295, 3995883, -364067, -1937496, 116154, 712529, -27054, -197316, 4467, 40455, -495, -5952, 33, 594, -1, -36, 0, 1], [-1, 15, 105, -560, -1820, 6188, 12376, -31824, -43758, 92378, 92378, -167960, -125970, 203490, 116280, -170544, -74613, 100947, 33649, -42504, -10626, 12650, 2300, -2600, -325, 351, 27, -28, -1, 1], [1, 32, -352, -4584, 15784, 141792, -338276, -1909570, 3952116, 14169142, -27295100, -66587715, 122048196, 215647349, -378612663, -507960152, 855733436, 902369642, -1459008975, -1239775442, 1924029811, 1341017921, -1998238943, -1156350782, 1655619772, 801604023, -1103970115, -448955699, 595550236, 203520550, -260447090, -74573322, 92220138, 21979367, -26311919, -5163498, 5994444, 952717, -1074488, -134931, 148091, 14148, -15136, -1034, 1080, 47, -48, -1, 1]]
def pt120 : List (List Int) := [[1, 0, -96, 0, 440, 0, -784, 0, 714, 0, -364, 0, 105, 0, -16, 0, 1], [1, -33, -363, 5489, 18271, -241142, -306977, 4537511, 2634412, -47746996, -13737009, 321503053, 47797607, -1499508714, -117671620, 5102112862, 213285468, -13133636571, -292746091, 26269293600, 310465133, -41656556260, -258048959, 53182431720, 169695240, -55309822425, -88763664, 47273371134, 36984860, -33417385705, -12243264, 19619239607, 3196578, -9586673914, -649572, 3899117794, 100529, -1317269525, -11440, 367982175, 902, -84366645, -44, 15696120, 1, -2330636, 0, 269500, 0, -23375, 0, 1430, 0, -55, 0, 1], [-1, -15, 120, 560, -2380, -6188, 18564, 31824, -75582, -92378, 184756, 167960, -293930, -203490, 319770, 170544, -245157, -100947, 134596, 42504, -53130, -12650, 14950, 2600, -2925, -351, 378, 28, -29, -1, 1], [1, 40, -40, -2830, 2830, 57153, -57153, -534108, 534108, 2816371, -2816371, -9367189, 9367189, 21091711, -21091711, -33734309, 33734309, 39635806, -39635806, -35021504, 35021504, 23637811, -23637811, -12299714, 12299714, 4950298, -4950298, -1536886, 1536886, 364530, -364530, -64822, 64822, 8363, -8363, -739, 739, 40, -40, -1, 1], [-31, 0, 1240, 0, -14756, 0, 82212, 0, -260338, 0, 520676, 0, -700910, 0, 660858, 0, -447051, 0, 219604, 0, -78430, 0, 20150, 0, -3627, 0, 434, 0, -31, 0, 1], [-1, 25, 625, -650, -32500, 5005, 672750, -17875, -7400250, 35750, 50075025, -44200, -227613750, 35700, 736618125, -19380, -1767883500, 7125, 3241119750, -1750, -4639918800, 275, 5272635000, -25, -4814145000, 1, 3562467300, 0, -2148789800, 0, 1059575660, 0, -427248250, 0, 140512125, 0, -37469900, 0, 8021650, 0, -1357510, 0, 177375, 0, -17250, 0, 1175, 0, -50, 0, 1], [1, -24, 72, 170, -534, -405, 1385, 459, -1782, -276, 1287, 90, -546, -15, 135, 1, -18, 0, 1], [-1, -32, 496, 5456, -40920, -278256, 1344904, 6724520, -23535820, -94143280, 254186856, 854992152, -1852482996, -5414950296, 9669554100, 25140840660, -37711260990, -88732378800, 113380261800, 244662670200, -269128937220, -538257874440, 513791607420, 960566918220, -800472431850, -1408831480056, 1029530696964, 1715884494940, -1103068603890, -1749695026860, 991493848554, 1503232609098, -751616304549, -1093260079344, 482320623240, 675248872536, -262596783764, -354860518600, 121399651100, 158753389900, -47626016970, -60403728840, 15820024220, 19499099620, -4431613550, -5317936260, 1040465790, 1217566350, -202927725, -231917400, 32468436, 36288252, -4187106, -4582116, 424270, 455126, -32509, -34220, 1770, 1830, -61, -62, 1, 1], [2, 0, -256, 0, 5440, 0, -45696, 0, 201552, 0, -537472, 0, 940576, 0, -1136960, 0, 980628, 0, -615296, 0, 283360, 0, -95680, 0, 23400, 0, -4032, 0, 464, 0, -32, 0, 1], [1, -44, 44, 3267, -3267, -72886, 72886, 753918, -753918, -4413607, 4413607, 16350448, -16350448, -41150012, 41150012, 73850908, -73850908, -97804877, 97804877, 97942948, -97942948, -75433697, 75433697, 45176143, -45176143, -21159269, 21159269, 7756167, -7756167, -2214673, 2214673, 487103, -487103, -80884, 80884, 9803, -9803, -818, 818, 42, -42, -1, 1], [1, 12, -180, 101, 2085, -1802, -9126, 7168, 20886, -13653, -28667, 15001, 25284, -10282, -14822, 4540, 5832, -1292, -1521, 229, 252, -23, -24, 1, 1], [1, 33, -528, -5984, 46376, 324632, -1623160, -8347680, 30260340, 124403620, -348330136, -1203322288, 2707475148, 8122425444, -15084504396, -40225345056, 62852101650, 151584480450, -202112640600, -446775310800, 513791607420, 1052049481860, -1052049481860, -2012616400080, 1761039350070, 3169870830126, -2438362177020, -4154246671960, 2818953098830, 4568648125690, -2741188875414, -4244421484512, 2254848913647, 3348108992991, -1575580702584, -2250829575120, 937845656300, 1292706174900, -476260169700, -635013559600, 206379406870, 266783135710, -76223753060, -95722852680, 23930713170, 29248649430, -6358402050, -7575968400, 1420494075, 1652411475, -264385836, -300674088, 40475358, 45057474, -5006386, -5461512, 487635, 521855, -35990, -37820, 1891, 1953, -63, -64, 1, 1], [1, 0, -40, 0, 390, 0, -1443, 0, 2665, 0, -2782, 0, 1742, 0, -666, 0, 152, 0, -19, 0, 1], [1, -40, -280, 7950, -5390, -292713, 459109, 4776602, -8576724, -44224024, 81542604, 263746795, -482270554, -1094490388, 1956341917, 3326400792, -5772600425, -7674921732, 12885833896, 13798705750, -22373376226, -19708995272, 30835906363, 22689455566, -34248776691, -21279876451, 30999355674, 16385215846, -23050679173, -10411761774, 14158008389, 5475746971, -7205240221, -2385125075, 3040756235, 859092716, -1062554234, -254825662, 306189805, 61804629, -72245115, -12122474, 13804462, 1891703, -2101418, -229219, 248723, 20777, -22050, -1325, 1377, 53, -54, -1, 1], [-1, 17, 136, -816, -3060, 11628, 27132, -77520, -125970, 293930, 352716, -705432, -646646, 1144066, 817190, -1307504, -735471, 1081575, 480700, -657800, -230230, 296010, 80730, -98280, -20475, 23751, 3654, -4060, -435, 465, 31, -32, -1, 1], [1, 36, -324, -849, 8721, 7398, -93024, -30897, 523260, 72931, -1790712, -107406, 4056234, 104652, -6418656, -69768, 7354710, 32319, -6249100, -10395, 3996135, 2277, -1937520, -324, 712530, 27, -197316, -1, 40455, 0, -5952, 0, 594, 0, -36, 0, 1], [1, 0, -144, 0, 3396, 0, -31248, 0, 149106, 0, -425128, 0, 786798, 0, -995824, 0, 891311, 0, -575832, 0, 271214, 0, -93128, 0, 23051, 0, -4004, 0, 463, 0, -32, 0, 1], [1, -34, -595, 6545, 58905, -376992, -2324784, 10295472, 48903492, -163011640, -635745396, 1676056044, 5586853480, -12033222880, -35240152720, 63432274896, 166509721602, -254661927156, -608359048206, 800472431850, 1761039350070, -2012616400080, -4116715363800, 4116715363800, 7890371113950, -6943526580276, -12551759587422, 9762479679106, 16735679449896, -11541847896480, -18851684897584, 11554258485616, 18053528883775, -9847379391150, -14771069086725, 7174519270695, 10363194502115, -4481381406320, -6250347750920, 2403979904200, 3245372870670, -1108176102180, -1451182990950, 438729741450, 558383307300, -148902215280, -184509266760, 43183019880, 52179482355, -10648873950, -12565671261, 2217471399, 2558620845, -386206920, -436270780, 55525372, 61474519, -6471002, -7028847, 595665, 635376, -41664, -43680, 2080, 2145, -66, -67, 1, 1], [1, 24, 24, -482, -482, 2807, 2807, -7060, -7060, 9385, 9385, -7359, -7359, 3589, 3589, -1103, -1103, 208, 208, -22, -22, 1, 1], [1, 35, -595, -7140, 58905, 435897, -2324784, -12620256, 48903492, 211915132, -635745396, -2311801440, 5586853480, 17620076360, -35240152720, -98672427616, 166509721602, 421171648758, -608359048206, -1408831480056, 1761039350070, 3773655750150, -4116715363800, -8233430727600, 7890371113950, 14833897694226, -12551759587422, -22314239266528, 16735679449896, 28277527346376, -18851684897584, -30405943383200, 18053528883775, 27900908274925, -14771069086725, -21945588357420, 10363194502115, 14844575908435, -6250347750920, -8654327655120, 3245372870670, 4353548972850, -1451182990950, -1889912732400, 558383307300, 707285522580, -184509266760, -227692286640, 52179482355, 62828356305, -12565671261, -14783142660, 2558620845, 2944827765, -436270780, -491796152, 61474519, 67945521, -7028847, -7624512, 635376, 677040, -43680, -45760, 2145, 2211, -67, -68, 1, 1]]
def pt140 : List (List Int) := [[1, 0, -48, 0, 628, 0, -3498, 0, 10032, 0, -16511, 0, 16757, 0, -10949, 0, 4692, 0, -1311, 0, 230, 0, -23, 0, 1], [1, -48, 48, 4276, -4276, -114634, 114634, 1431196, -1431196, -10162529, 10162529, 45908941, -45908941, -141714824, 141714824, 313942891, -313942891, -516962354, 516962354, 649220446, -649220446, -633580634, 633580634, 486968926, -486968926, -297415766, 297415766, 145057650, -145057650, -56562010, 56562010, 17581994, -17581994, -4324189, 4324189, 830207, -830207, -121731, 121731, 13159, -13159, -988, 988, 46, -46, -1, 1], [1, -18, -153, 969, 3876, -15504, -38760, 116280, 203490, -497420, -646646, 1352078, 1352078, -2496144, -1961256, 3268760, 2042975, -3124550, -1562275, 2220075, 888030, -1184040, -376740, 475020, 118755, -142506, -27405, 31465, 4495, -4960, -496, 528, 33, -34, -1, 1], [1, 36, -612, -7113, 55305, 366648, -1800652, -7925810, 29901764, 95314988, -300842882, -733553781, 2024261108, 3919741894, -9705324000, -15334436919, 34646338352, 45579323970, -95092642859, -105770029276, 205593366966, 195602334521, -356754197541, -292867657590, 504158401915, 359407537879, -586896075823, -364963554059, 567804751423, 308887673842, -459621568045, -219047674031, 312809602500, 130618537562, -179565559287, -65618504331, 87080513652, 27779262302, -35675680221, -9896003704, 12326598914, 2956559858, -3579176853, -736662586, 868312216, 151795100, -174501553, -25556488, 28696849, 3455336, -3795012, -365859, 393525, 29205, -30800, -1652, 1710, 59, -60, -1, 1], [1, 0, -144, 0, 1716, 0, -8008, 0, 19305, 0, -27456, 0, 24752, 0, -14688, 0, 5814, 0, -1520, 0, 252, 0, -24, 0, 1], [1, -28, -868, 119, 58121, 47684, -1536668, -1437712, 21428076, 19849366, -182411738, -162318830, 1038075272, 875475432, -4202705896, -3327005656, 12653935228, 9326802291, -29269894991, -19943041341, 53288328688, 33345272673, -77767778249, -44422502676, 92246301175, 47823798122, -89871897201, -42048099050, 72472889525, 30424790474, -48634976697, -18210186223, 27251728738, 9041542515, -12767942312, -3726399797, 4999141929, 1272742132, -1631480980, -358738848, 441584800, 82845952, -98348482, -15502530, 17814788, 2312258, -2580534, -268276, 291600, 23324, -24753, -1429, 1484, 55, -56, -1, 1], [1, 18, -171, -969, 4845, 15504, -54264, -116280, 319770, 497420, -1144066, -1352078, 2704156, 2496144, -4457400, -3268760, 5311735, 3124550, -4686825, -2220075, 3108105, 1184040, -1560780, -475020, 593775, 142506, -169911, -31465, 35960, 4960, -5456, -528, 561, 34, -35, -1, 1], [1, 56, 392, -2170, -15974, 29211, 235249, -198948, -1816836, 798357, 8580418, -2063243, -27041546, 3643150, 60174899, -4577216, -98285670, 4206314, 121090515, -2877896, -114717330, 1480051, 84672315, -573300, -49085400, 166257, 22428252, -35525, -8069424, 5425, 2272424, -560, -494802, 35, 81585, -1, -9842, 0, 819, 0, -42, 0, 1], [37, 0, -2109, 0, 35853, 0, -286824, 0, 1314610, 0, -3848222, 0, 7696444, 0, -10994920, 0, 11560835, 0, -9126975, 0, 5476185, 0, -2510820, 0, 878787, 0, -232841, 0, 45880, 0, -6512, 0, 629, 0, -37, 0, 1], [-1, 37, 703, -8436, -82251, 575757, 3838380, -18643560, -95548245, 350343565, 1471442973, -4280561376, -15338678264, 36576848168, 114955808528, -229911617056, -646626422970, 1103068603890, 2818953098830, -4154246671960, -9762479679106, 12551759587422, 27385657281648, -30957699535776, -63205303218876, 63205303218876, 121548660036300, -108043253365600, -196793068630200, 156077261327400, 270533919634160, -191991813933920, -317986441828055, 202355008436035, 321387366339585, -183649923622620, -280576272201225, 144079707346575, 212327989773900, -97997533741800, -139646485582065, 57902201338905, 79960182801345, -29752626158640, -39895566894540, 13298522298180, 17345898649800, -5166863427600, -6566222272575, 1742058970275, 2160153123141, -508271323092, -615790256823, 127805525001, 151473214816, -27540584512, -31966749880, 5047381560, 5743572120, -778789440, -869648208, 99795696, 109453344, -10424128, -11238513, 864501, 916895, -54740, -57155, 2485, 2556, -72, -73, 1, 1], [1, -20, -100, 145, 825, -379, -2640, 450, 4290, -275, -4004, 90, 2275, -15, -800, 1, 170, 0, -20, 0, 1], [-1, -38, 703, 9139, -82251, -658008, 3838380, 22481940, -95548245, -445891810, 1471442973, 5752004349, -15338678264, -51915526432, 114955808528, 344867425584, -646626422970, -1749695026860, 2818953098830, 6973199770790, -9762479679106, -22314239266528, 27385657281648, 58343356817424, -63205303218876, -126410606437752, 121548660036300, 229591913401900, -196793068630200, -352870329957600, 270533919634160, 462525733568080, -317986441828055, -520341450264090, 321387366339585, 505037289962205, -280576272201225, -424655979547800, 212327989773900, 310325523515700, -139646485582065, -197548686920970, 79960182801345, 109712808959985, -39895566894540, -53194089192720, 17345898649800, 22512762077400, -6566222272575, -8308281242850, 2160153123141, 2668424446233, -615790256823, -743595781824, 151473214816, 179013799328, -31966749880, -37014131440, 5743572120, 6522361560, -869648208, -969443904, 109453344, 119877472, -11238513, -12103014, 916895, 971635, -57155, -59640, 2556, 2628, -73, -74, 1, 1], [1, 0, -180, 0, 5325, 0, -61776, 0, 374154, 0, -1365584, 0, 3269436, 0, -5422832, 0, 6463399, 0, -5673268, 0, 3724921, 0, -1844392, 0, 689479, 0, -193312, 0, 39992, 0, -5920, 0, 593, 0, -36, 0, 1], [1, -48, -144, 5092, 15324, -132894, -403774, 1518174, 4687416, -9856133, -31086573, 41352480, 133913573, -120799383, -403750629, 257715580, 893946123, -414820332, -1502176576, 515420619, 1961082189, -502438817, -2022737070, 388583001, 1668187820, -240132762, -1108981287, 118988043, 597096891, -47274876, -260812671, 15003384, 92285028, -3772300, -26320284, 740961, 5995183, -111189, -1074528, 12301, 148092, -945, -15136, 45, 1080, -1, -48, 0, 1], [1, 24, -72, -1562, -2010, 14609, 24051, -63143, -107406, 159873, 264472, -261924, -411241, 292608, 432159, -229651, -318629, 128611, 168035, -51590, -63734, 14697, 17249, -2901, -3250, 377, 405, -29, -30, 1, 1], [1, 32, -928, -2136, 73816, 86436, -2292220, -2287996, 37111808, 35084150, -365570294, -331006820, 2407583582, 2077277672, -11291779646, -9215162832, 39444292942, 30229577161, -106065535687, -75836178130, 225073752223, 149237652523, -384142872874, -234905240501, 535121439525, 300216202651, -615364703546, -315148501329, 589270204929, 274121703631, -472969365578, -198847661948, 319676821028, 120829159080, -182491491577, -61662332497, 88111494158, 26449161661, -35974911545, -9525749884, 12397633711, 2871883827, -3592819032, -720935205, 870397463, 149462258, -174749149, -25286891, 28718850, 3431959, -3796388, -364429, 393579, 29150, -30801, -1651, 1710, 59, -60, -1, 1], [1, 0, -56, 0, 770, 0, -4081, 0, 11033, 0, -17391, 0, 17187, 0, -11067, 0, 4709, 0, -1312, 0, 230, 0, -23, 0, 1], [-1, 39, 780, -9880, -101270, 749398, 5245786, -26978328, -145008513, 563921995, 2481256778, -7669339132, -28760021745, 73006209045, 239877544005, -511738760544, -1503232609098, 2741188875414, 7309837001104, -11541847896480, -28277527346376, 39049918716424, 88749815264600, -108043253365600, -229591913401900, 247959266474052, 495918532948104, -477551179875952, -903936161908052, 779255311989700, 1402659561581460, -1085929983159840, -1866442158555975, 1300853625660225, 2142582442263900, -1346766106565880, -2132379668729310, 1210269541711230, 1847253511032930, -947309492837400, -1397281501935165, 647520696018735, 925029565741050, -387221678682300, -536830054536825, 202802465047245, 273342452889765, -93052749919920, -122131734269895, 37387265592825, 47855699958816, -13136858812224, -16421073515280, 4027810484880, 4922879481520, -1074082795968, -1285063345176, 247994680648, 290752384208, -49280065120, -56672074888, 8361453672, 9440350920, -1198774720, -1329890705, 143218999, 156238908, -13991544, -15020334, 1088430, 1150626, -64824, -67525, 2775, 2850, -76, -77, 1, 1], [1, -20, -190, 1330, 5985, -26334, -74613, 245157, 490314, -1307504, -1961256, 4457400, 5200300, -10400600, -9657700, 17383860, 13037895, -21474180, -13123110, 20030010, 10015005, -14307150, -5852925, 7888725, 2629575, -3365856, -906192, 1107568, 237336, -278256, -46376, 52360, 6545, -7140, -630, 666, 37, -38, -1, 1], [1, 52, -52, -6149, 6149, 210886, -210886, -3385694, 3385694, 31081531, -31081531, -182615264, 182615264, 737924776, -737924776, -2155201064, 2155201064, 4715972806, -4715972806, -7941452744, 7941452744, 10502224486, -10502224486, -11076148874, 11076148874, 9423305818, -9423305818, -6520714498, 6520714498, 3689741862, -3689741862, -1711918922, 1711918922, 651307671, -651307671, -202631350, 202631350, 51242413, -51242413, -10427327, 10427327, 1681000, -1681000, -209669, 209669, 19503, -19503, -1273, 1273, 52, -52, -1, 1]]
def pt160 : List (List Int) := [[1, 0, -192, 0, 5104, 0, -45024, 0, 200892, 0, -537120, 0, 940472, 0, -1136944, 0, 980627, 0, -615296, 0, 283360, 0, -95680, 0, 23400, 0, -4032, 0, 464, 0, -32, 0, 1], [1, -48, -432, 13996, -5196, -785644, 1172758, 19769505, -35369546, -283228972, 529298508, 2610645206, -4892903186, -16727538206, 30949836997, 78584582434, -142500903207, -281297348758, 498000688068, 789504283575, -1361506268560, -1775754641444, 2978765407143, 3255354367109, -5307149614479, -4929005271292, 7805890500898, 6228783058067, -9580526222568, -6623649238755, 9895496114045, 5965034179403, -8658203341898, -4571350688831, 6449527801030, 2991497995326, -4104818037665, -1675295443069, 2237270721209, 803652636168, -1045329980994, -330141755665, 418606165515, 115958406161, -143452402426, -34718361332, 41942726398, 8819089966, -10413814866, -1887784159, 2180843418, 337328198, -381597137, -49668795, 55068651, 5918290, -6436724, -556134, 593834, 39651, -41602, -2015, 2079, 65, -66, -1, 1], [-1, -27, 0, 819, 0, -7371, 0, 30888, 0, -72930, 0, 107406, 0, -104652, 0, 69768, 0, -32319, 0, 10395, 0, -2277, 0, 324, 0, -27, 0, 1], [1, 41, -820, -11480, 111930, 962598, -6096454, -38320568, 177232627, 886163135, -3190187286, -13340783196, 38910617655, 140676848445, -341643774795, -1093260079344, 2254848913647, 6499270398159, -11554258485616, -30405943383200, 47129212243960, 114456658306760, -156077261327400, -352870329957600, 426384982032100, 903936161908052, -973469712824056, -1946939425648112, 1877405874732108, 3560597348629860, -3085851035479212, -5574440580220512, 4355031703297275, 7522327487513475, -5309878226480100, -8799226775309880, 5621728217559090, 8964377427999630, -5189902721473470, -7984465725343800, 4191844505805495, 6236646703759395, -2969831763694950, -4282083008118300, 1849081298960175, 2588713818544245, -1012974972473835, -1379370175283520, 488526937079580, 648045936942300, -207374699821536, -268367258592576, 77413632286320, 97862516286480, -25371763481680, -31368725759168, 7282025622664, 8815083648488, -1823810410032, -2163842859360, 396704524216, 461738052776, -74473879480, -85113005120, 11969016345, 13442126049, -1629348612, -1799579064, 185250786, 201359550, -17259390, -18474840, 1282975, 1353275, -73150, -76076, 3003, 3081, -79, -80, 1, 1], [41, 0, -2870, 0, 59983, 0, -591261, 0, 3350479, 0, -12183560, 0, 30458900, 0, -54826020, 0, 73370115, 0, -74657310, 0, 58659315, 0, -35937525, 0, 17250012, 0, -6487184, 0, 1901416, 0, -429352, 0, 73185, 0, -9102, 0, 779, 0, -41, 0, 1], [1, -48, -288, 2512, 8232, -43393, -102396, 369684, 703905, -1857788, -3029168, 6077890, 8815690, -13764066, -18249278, 22476466, 27803858, -27222459, -31915288, 24933608, 28043254, -17493203, -19054236, 9469608, 10063407, -3963256, -4133168, 1277913, 1313873, -314247, -319703, 57817, 58378, -7701, -7736, 701, 702, -39, -39, 1, 1], [-1, 21, 210, -1540, -7315, 33649, 100947, -346104, -735471, 2042975, 3268760, -7726160, -9657700, 20058300, 20058300, -37442160, -30421755, 51895935, 34597290, -54627300, -30045015, 44352165, 20160075, -28048800, -10518300, 13884156, 4272048, -5379616, -1344904, 1623160, 324632, -376992, -58905, 66045, 7770, -8436, -703, 741, 39, -40, -1, 1], [-1, -42, 861, 12341, -123410, -1086008, 7059052, 45379620, -215553195, -1101716330, 4076350421, 17417133617, -52251400851, -192928249296, 482320623240, 1575580702584, -3348108992991, -9847379391150, 18053528883775, 48459472266975, -77535155627160, -191991813933920, 270533919634160, 623404249591760, -779255311989700, -1683191473897752, 1877405874732108, 3824345300380220, -3824345300380220, -7384942649010080, 6646448384109072, 12220888964329584, -9929472283517787, -17451799771031262, 12832205713993575, 21631432489303455, -14420954992868970, -23385332420868600, 14154280149473100, 22138745874816900, -12176310231149295, -18412956934908690, 9206478467454345, 13488561475572645, -6131164307078475, -8719878125622720, 3601688791018080, 4981058966301600, -1867897112363100, -2515943049305400, 855420636763836, 1123787895356412, -345780890878896, -443643407165376, 123234279768160, 154603005527328, -38650751381832, -47465835030320, 10638894058520, 12802736917880, -2560547383576, -3022285436352, 536211932256, 621324937376, -97082021465, -110524147514, 15071474661, 16871053725, -1984829850, -2186189400, 218618940, 237093780, -19757815, -21111090, 1426425, 1502501, -79079, -82160, 3160, 3240, -81, -82, 1, 1], [1, 0, -192, 0, 2416, 0, -10528, 0, 23540, 0, -31448, 0, 27026, 0, -15488, 0, 5984, 0, -1540, 0, 253, 0, -24, 0, 1], [-1, 39, 1014, -9061, -157001, 556387, 8903427, -14656655, -252930808, 216422271, 4324257587, -2051360909, -49483859945, 13521774841, 405458684553, -65341075696, -2491355718306, 240286948785, 11871743606359, -691411044090, -45002650983004, 1590288757005, 138436551316115, -2973173393775, -351127341416826, 4578698208045, 743866969521565, -5870129857956, -1330313881030628, 6318342833374, 2026059804050724, -5747654035266, -2646952512165572, 4441369064600, 2984310576915395, -2926078446954, -2917993021435999, 1647566693461, 2484237427915958, -793766949499, -1847253500444352, 327186864550, 1202538433766241, -115221952300, -686438430180555, 34566585690, 343882440712733, -8793534750, -151210718618596, 1884328875, 58324134324755, -336962340, -19705288218335, 49639590, 5817948478160, -5916638, -1496043894384, 556075, 333510087768, -39650, -64064084656, 2015, 10519248168, -65, -1461006690, 1, 169258817, 0, -16049124, 0, 1212822, 0, -70226, 0, 2925, 0, -78, 0, 1], [1, 16, -304, 116, 6516, -5686, -53690, 46882, 228888, -181071, -589403, 407890, 1001431, -593422, -1183593, 590154, 1004699, -414544, -623732, 209188, 285340, -76152, -95978, 19826, 23426, -3600, -4033, 433, 464, -31, -32, 1, 1], [1, 60, 180, -7175, -21585, 247482, 749621, -3724983, -11422431, 31598986, 98521941, -172646226, -549537664, 657186627, 2144206107, -1833689735, -6158255832, 3883891707, 13485364856, -6403545300, -23094527607, 8371339693, 31517564379, -8796419046, -34760596831, 7503436890, 31306729716, -5231794357, -23198819961, 2994502041, 14215300480, -1409483295, -7222951926, 545204619, 3045097152, -172727100, -1063385919, 44528172, 306311616, -9243368, -72258276, 1520694, 13805450, -193590, -2101464, 18378, 248724, -1224, -22050, 51, 1377, -1, -54, 0, 1], [-43, 0, 3311, 0, -76153, 0, 826804, 0, -5167525, 0, 20764055, 0, -57500460, 0, 115000920, 0, -171655785, 0, 195747825, 0, -173376645, 0, 120609840, 0, -66335412, 0, 28915436, 0, -9970840, 0, 2701776, 0, -567987, 0, 90687, 0, -10621, 0, 860, 0, -43, 0, 1], [-1, 43, 946, -13244, -148995, 1221759, 9366819, -53524680, -314457495, 1362649145, 6540715896, -22595200368, -92263734836, 262596783764, 937845656300, -2250829575120, -7174519270695, 14771069086725, 42671977361650, -76360380541900, -202355008436035, 317986441828055, 780512175396135, -1085929983159840, -2488589544741300, 3085851035479212, 6646448384109072, -7384942649010080, -15033633249770520, 15033633249770520, 29065024282889672, -26252279997448736, -48402641245296107, 39602161018878633, 69886166503903470, -51915437974328292, -87967825456500717, 59437719903041025, 96977332473382725, -59678358445158600, -93993414551124795, 52728013040874885, 80347448443237920, -41107996877935680, -60727722660586800, 28339603908273840, 40661170824914640, -17302625882942400, -24151581961607100, 9364899127970100, 12736262814039336, -4495151581425648, -5964720367660956, 1913212193400684, 2480089880334220, -721480692460864, -914734449370024, 240719591939480, 298824321028320, -70907466006720, -86270750308176, 18385569737808, 21944067106416, -4179822305984, -4898229264825, 828931106355, 954526728530, -142466675900, -161322559475, 21042072975, 23446881315, -2641902120, -2898753715, 277962685, 300500200, -24040016, -25621596, 1663740, 1749060, -88560, -91881, 3403, 3486, -84, -85, 1, 1], [1, -28, -28, 987, 987, -9569, -9569, 41703, 41703, -99295, -99295, 144247, 144247, -136763, -136763, 88045, 88045, -39236, -39236, 12123, 12123, -2551, -2551, 349, 349, -28, -28, 1, 1], [1, 40, -1000, -5790, 70750, 239133, -2042025, -4489450, 32155400, 47453275, -314980665, -320547890, 2086547125, 1497545690, -9903819250, -5099353796, 35116068700, 13130865250, -95937312825, -26267252375, 206769856985, 41655438275, -358042949250, -53181974275, 505281604750, 55309683196, -587681370765, -47273340075, 568247462640, 33417380775, -459823234113, -19619239080, 312883753050, 9586673880, -179587466100, -3899117793, 87085668085, 1317269525, -35676632160, -367982175, 12326733804, 84366645, -3579191000, -15696120, 868313250, 2330636, -174501600, -269500, 28696850, 23375, -3795012, -1430, 393525, 55, -30800, -1, 1710, 0, -60, 0, 1], [1, 0, -240, 0, 9260, 0, -137208, 0, 1042879, 0, -4719648, 0, 13942072, 0, -28593712, 0, 42484835, 0, -47106624, 0, 39776912, 0, -25917344, 0, 13124476, 0, -5174208, 0, 1581776, 0, -370976, 0, 65449, 0, -8400, 0, 740, 0, -40, 0, 1], [1, -60, 60, 8495, -8495, -362792, 362792, 7275112, -7275112, -83743244, 83743244, 619580416, -619580416, -3167546984, 3167546984, 11764555336, -11764555336, -32921956754, 32921956754, 71346571456, -71346571456, -122294980934, 122294980934, 168550038466, -168550038466, -189189335396, 189189335396, 174665241438, -174665241438, -133625335978, 133625335978, 85161525414, -85161525414, -45364727121, 45364727121, 20227456926, -20227456926, -7545810193, 7545810193, 2349118983, -2349118983, -607292783, 607292783, 129354667, -129354667, -22439353, 22439353, 3117087, -3117087, -338248, 338248, 27611, -27611, -1594, 1594, 58, -58, -1, 1], [1, 22, -253, -1771, 10626, 42504, -177100, -480700, 1562275, 3124550, -8436285, -13037895, 30421755, 37442160, -77558760, -77558760, 145422675, 119759850, -206253075, -141120525, 225792840, 129024480, -193536720, -92561040, 131128140, 52451256, -70607460, -23535820, 30260340, 8347680, -10295472, -2324784, 2760681, 501942, -575757, -82251, 91390, 9880, -10660, -820, 861, 42, -43, -1, 1], [1, 45, -990, -15180, 163185, 1533939, -10737573, -73629072, 377348994, 2054455634, -8217822536, -37353738800, 121399651100, 476260169700, -1292706174900, -4481381406320, 10363194502115, 32308782859535, -64617565719070, -183649923622620, 321387366339585, 841728816603675, -1300853625660225, -3167295784216200, 4355031703297275, 9929472283517787, -12220888964329584, -26252279997448736, 29065024282889672, 59132290782430712, -59132290782430712, -114449595062769120, 103719945525634515, 191724747789809255, -157890968768078210, -279692573246309972, 209769429934732479, 357174975294274221, -244382877832924467, -401038568751465792, 250649105469666120, 397370533061665800, -227068876035237600, -348524321356411200, 182183167981760400, 271250494550621040, -129728497393775280, -187692294101632320, 82115378669464140, 115631859759041340, -46252743903616536, -63484158299081520, 23196134763125940, 31074067324187580, -10358022441395860, -13559593014190944, 4116305022165108, 5271759063474612, -1454278362337824, -1824010149372864, 456002537343216, 560658857389200, -126600387152400, -152724276564800, 31022118677225, 36749279048405, -6681687099710, -7778680504140, 1258315963905, 1440680596355, -205811513765, -231900297200, 28987537150, 32164253550, -3477216600, -3801756816, 350161812, 377447148, -29034396, -30872016, 1929501, 2024785, -98770, -102340, 3655, 3741, -87, -88, 1, 1]]
def pt180 : List (List Int) := [[1, 0, -72, 0, 1182, 0, -6623, 0, 17523, 0, -26169, 0, 24206, 0, -14553, 0, 5796, 0, -1519, 0, 252, 0, -24, 0, 1], [], [1, -24, -216, 1922, 6018, -32327, -73571, 230058, 456052, -908896, -1655004, 2278575, 3879994, -3907332, -6263633, 4795428, 7259749, -4331906, -6208136, 2928983, 3983738, -1494700, -1934944, 576199, 712180, -166634, -197288, 35554, 40454, -5426, -5952, 560, 594, -35, -36, 1, 1], [], [1, 0, -264, 0, 11506, 0, -197912, 0, 1792219, 0, -9883588, 0, 36217051, 0, -93382192, 0, 176290339, 0, -250699168, 0, 274130056, 0, -233880352, 0, 157236844, 0, -83778736, 0, 35442612, 0, -11878176, 0, 3131721, 0, -641208, 0, 99790, 0, -11400, 0, 901, 0, -44, 0, 1], [], [1, 32, 32, -1208, -1208, 13548, 13548, -68664, -68664, 191674, 191674, -329002, -329002, 371908, 371908, -288950, -288950, 158101, 158101, -61503, -61503, 16927, 16927, -3223, -3223, 404, 404, -30, -30, 1, 1], [], [-47, 0, 4324, 0, -118910, 0, 1545830, 0, -11593725, 0, 56071470, 0, -187623765, 0, 455657715, 0, -830905245, 0, 1166182800, 0, -1282801080, 0, 1120549560, 0, -784384692, 0, 442473416, 0, -201619660, 0, 74144004, 0, -21906183, 0, 5154396, 0, -951938, 0, 134890, 0, -14147, 0, 1034, 0, -47, 0, 1], [], [1, -20, -340, 605, 9885, -10534, -108458, 100432, 601194, -503479, -2000649, 1498899, 4404908, -2906674, -6803518, 3896996, 7649116, -3752139, -6408680, 2656542, 4057888, -1401346, -1954471, 553125, 715754, -162629, -197720, 35091, 40485, -5394, -5953, 559, 594, -35, -36, 1, 1], [], [1, 0, -256, 0, 5440, 0, -45696, 0, 201552, 0, -537472, 0, 940576, 0, -1136960, 0, 980628, 0, -615296, 0, 283360, 0, -95680, 0, 23400, 0, -4032, 0, 464, 0, -32, 0, 1], [], [1, 24, -300, -2300, 14950, 65780, -296010, -888030, 3108105, 6906900, -20030010, -34597290, 86493225, 119759850, -265182525, -300540195, 601080390, 565722720, -1037158320, -818809200, 1391975640, 927983760, -1476337800, -834451800, 1251677700, 600805296, -854992152, -348330136, 472733756, 163011640, -211915132, -61523748, 76904685, 18643560, -22481940, -4496388, 5245786, 850668, -962598, -123410, 135751, 13244, -14190, -990, 1035, 46, -47, -1, 1], [], [-7, 0, 686, 0, -19551, 0, 256221, 0, -1885324, 0, 8716708, 0, -27217932, 0, 60329941, 0, -98380632, 0, 121131479, 0, -114729727, 0, 84674891, 0, -49085750, 0, 22428280, 0, -8069425, 0, 2272424, 0, -494802, 0, 81585, 0, -9842, 0, 819, 0, -42, 0, 1], [], [1, -36, 108, 1173, -3555, -9423, 29442, 36027, -117504, -79936, 275835, 113139, -419353, -107592, 435915, 70720, -319752, -32508, 168244, 10416, -63756, -2278, 17250, 324, -3250, -27, 405, 1, -30, 0, 1], []]
def pt200 : List (List Int) := [[1, 0, -300, 0, 12475, 0, -172920, 0, 1221495, 0, -5226012, 0, 14855725, 0, -29715200, 0, 43459480, 0, -47720380, 0, 40060019, 0, -26013000, 0, 13147875, 0, -5178240, 0, 1582240, 0, -371008, 0, 65450, 0, -8400, 0, 740, 0, -40, 0, 1], [], [-1, -25, 325, 2600, -17550, -80730, 376740, 1184040, -4292145, -10015005, 30045015, 54627300, -141120525, -206253075, 471435600, 565722720, -1166803110, -1166803110, 2203961430, 1855967520, -3247943160, -2319959400, 3796297200, 2310789600, -3562467300, -1852482996, 2707475148, 1203322288, -1676056044, -635745396, 847660528, 273438880, -350343565, -95548245, 118030185, 26978328, -32224114, -6096454, 7059052, 1086008, -1221759, -148995, 163185, 15180, -16215, -1081, 1128, 48, -49, -1, 1], [], [1, 0, -96, 0, 2280, 0, -21204, 0, 102752, 0, -298870, 0, 566618, 0, -737276, 0, 680390, 0, -454195, 0, 221355, 0, -78705, 0, 20175, 0, -3628, 0, 434, 0, -31, 0, 1], [], [1, -26, -325, 2925, 17550, -98280, -376740, 1560780, 4292145, -14307150, -30045015, 84672315, 141120525, -347373600, -471435600, 1037158320, 1166803110, -2333606220, -2203961430, 4059928950, 3247943160, -5567902560, -3796297200, 6107086800, 3562467300, -5414950296, -2707475148, 3910797436, 1676056044, -2311801440, -847660528, 1121099408, 350343565, -445891810, -118030185, 145008513, 32224114, -38320568, -7059052, 8145060, 1221759, -1370754, -163185, 178365, 16215, -17296, -1128, 1176, 49, -50, -1, 1], [], [1, 0, -336, 0, 18340, 0, -389032, 0, 4285301, 0, -28433472, 0, 124447088, 0, -382011488, 0, 859135750, 0, -1461487296, 0, 1925365168, 0, -1998774496, 0, 1655779124, 0, -1104004800, 0, 595555600, 0, -260447648, 0, 92220173, 0, -26311920, 0, 5994444, 0, -1074488, 0, 148091, 0, -15136, 0, 1080, 0, -48, 0, 1], [], [1, 32, -64, -528, 784, 3142, -4088, -9189, 11034, 15333, -17391, -15810, 17187, 10506, -11067, -4573, 4709, 1294, -1312, -229, 230, 23, -23, -1, 1], [], [53, 0, -6201, 0, 217035, 0, -3596580, 0, 34467225, 0, -213696795, 0, 920540040, 0, -2893125840, 0, 6871173870, 0, -12657425550, 0, 18443677230, 0, -21578373360, 0, 20499454692, 0, -15944020316, 0, 10210456360, 0, -5401660784, 0, 2363226593, 0, -853939021, 0, 253873763, 0, -61669740, 0, 12108327, 0, -1890669, 0, 229172, 0, -20776, 0, 1325, 0, -53, 0, 1], [], [-1, 27, 351, -3276, -20475, 118755, 475020, -2035800, -5852925, 20160075, 44352165, -129024480, -225792840, 573166440, 818809200, -1855967520, -2203961430, 4537567650, 4537567650, -8597496600, -7307872110, 12875774670, 9364199760, -15471286560, -9669554100, 15084504396, 8122425444, -12033222880, -5586853480, 7898654920, 3159461968, -4280561376, -1471442973, 1917334783, 563921995, -708930508, -177232627, 215553195, 45379620, -53524680, -9366819, 10737573, 1533939, -1712304, -194580, 211876, 18424, -19600, -1225, 1275, 51, -52, -1, 1], [], [1, 0, -324, 0, 8721, 0, -93024, 0, 523260, 0, -1790712, 0, 4056234, 0, -6418656, 0, 7354710, 0, -6249100, 0, 3996135, 0, -1937520, 0, 712530, 0, -197316, 0, 40455, 0, -5952, 0, 594, 0, -36, 0, 1], [], [-1, -27, 378, 3276, -23751, -118755, 593775, 2035800, -7888725, -20160075, 64512240, 129024480, -354817320, -573166440, 1391975640, 1855967520, -4059928950, -4537567650, 9075135300, 8597496600, -15905368710, -12875774670, 22239974430, 15471286560, -25140840660, -15084504396, 23206929840, 12033222880, -17620076360, -7898654920, 11058116888, 4280561376, -5752004349, -1917334783, 2481256778, 708930508, -886163135, -215553195, 260932815, 53524680, -62891499, -10737573, 12271512, 1712304, -1906884, -211876, 230300, 19600, -20825, -1275, 1326, 52, -53, -1, 1], []]
def pt220 : List (List Int) := [[1, 0, -120, 0, 4018, 0, -59241, 0, 470613, 0, -2269345, 0, 7199257, 0, -15882694, 0, 25334997, 0, -30037766, 0, 26988270, 0, -18613969, 0, 9927425, 0, -4102514, 0, 1308973, 0, -319177, 0, 58344, 0, -7735, 0, 702, 0, -39, 0, 1], [], [1, -36, -36, 2073, 2073, -33780, -33780, 253044, 253044, -1061566, -1061566, 2786656, 2786656, -4909788, -4909788, 6085132, 6085132, -5475703, -5475703, 3651272, 3651272, -1824913, -1824913, 685907, 685907, -192880, -192880, 39961, 39961, -5919, -5919, 593, 593, -36, -36, 1, 1], [], [1, 0, -384, 0, 22496, 0, -481216, 0, 5127288, 0, -32616000, 0, 137448688, 0, -409468256, 0, 900639958, 0, -1507978624, 0, 1964858720, 0, -2024596160, 0, 1668880200, 0, -1109174976, 0, 597136912, 0, -260818592, 0, 92285621, 0, -26320320, 0, 5995184, 0, -1074528, 0, 148092, 0, -15136, 0, 1080, 0, -48, 0, 1], [], [1, 28, -406, -3654, 27405, 142506, -736281, -2629575, 10518300, 28048800, -92561040, -193536720, 548354040, 927983760, -2319959400, -3247943160, 7307872110, 8597496600, -17672631900, -17672631900, 33578000610, 28781143380, -51021117810, -37711260990, 62852101650, 40225345056, -63432274896, -35240152720, 52860229080, 25518731280, -36576848168, -15338678264, 21090682613, 7669339132, -10150595910, -3190187286, 4076350421, 1101716330, -1362649145, -314457495, 377348994, 73629072, -85900584, -13983816, 15890700, 2118760, -2349060, -249900, 270725, 22100, -23426, -1378, 1431, 54, -55, -1, 1], [], [1, 0, -120, 0, 3570, 0, -41769, 0, 256105, 0, -949739, 0, 2318239, 0, -3932287, 0, 4805781, 0, -4334718, 0, 2929464, 0, -1494747, 0, 576201, 0, -166634, 0, 35554, 0, -5426, 0, 560, 0, -35, 0, 1], [], [1, -24, -504, 986, 21786, -24089, -361455, 347233, 3073662, -2742874, -15742859, 13016729, 53558102, -40552321, -128871012, 88323383, 228768475, -140446403, -308473797, 168027624, 322457859, -154430258, -265002643, 110572386, 172779011, -62206625, -89808680, 27602055, 37253225, -9651170, -12294569, 2643399, 3203650, -560251, -650236, 89985, 100567, -10582, -11441, 859, 902, -43, -44, 1, 1], [], [1, 0, -420, 0, 29225, 0, -806624, 0, 11797916, 0, -105945632, 0, 638430104, 0, -2738913248, 0, 8722366766, 0, -21264132872, 0, 40618566074, 0, -61891406768, 0, 76272587666, 0, -76834704416, 0, 63779090680, 0, -43876783008, 0, 25110054325, 0, -11975579620, 0, 4758952209, 0, -1572206416, 0, 429799106, 0, -96490064, 0, 17587868, 0, -2559856, 0, 290277, 0, -24700, 0, 1483, 0, -56, 0, 1], [], [1, 36, -108, -2145, 6471, 27162, -83631, -158337, 502173, 534544, -1761969, -1165464, 4030936, 1746123, -6403833, -1867585, 7348878, 1459998, -6247579, -845295, 3995883, 364067, -1937496, -116154, 712529, 27054, -197316, -4467, 40455, 495, -5952, -33, 594, 1, -36, 0, 1], [], [-59, 0, 8555, 0, -371287, 0, 7637904, 0, -91018356, 0, 703323660, 0, -3787127400, 0, 14932102320, 0, -44686512090, 0, 104268528210, 0, -193641552390, 0, 290845019400, 0, -357739373862, 0, 363854576834, 0, -308290577416, 0, 218786861392, 0, -130526252535, 0, 65592184047, 0, -27773267119, 0, 9894929176, 0, -2956411766, 0, 736647450, 0, -151794020, 0, 25556440, 0, -3455335, 0, 365859, 0, -29205, 0, 1652, 0, -59, 0, 1], [], [1, -32, -352, 4584, 15784, -141792, -338276, 1909570, 3952116, -14169142, -27295100, 66587715, 122048196, -215647349, -378612663, 507960152, 855733436, -902369642, -1459008975, 1239775442, 1924029811, -1341017921, -1998238943, 1156350782, 1655619772, -801604023, -1103970115, 448955699, 595550236, -203520550, -260447090, 74573322, 92220138, -21979367, -26311919, 5163498, 5994444, -952717, -1074488, 134931, 148091, -14148, -15136, 1034, 1080, -47, -48, 1, 1], []]
def pt240 : List (List Int) := [[1, 0, -384, 0, 7136, 0, -53696, 0, 220856, 0, -564928, 0, 965328, 0, -1151648, 0, 986442, 0, -616816, 0, 283612, 0, -95704, 0, 23401, 0, -4032, 0, 464, 0, -32, 0, 1], [], [-1, -33, 363, 5489, -18271, -241142, 306977, 4537511, -2634412, -47746996, 13737009, 321503053, -47797607, -1499508714, 117671620, 5102112862, -213285468, -13133636571, 292746091, 26269293600, -310465133, -41656556260, 258048959, 53182431720, -169695240, -55309822425, 88763664, 47273371134, -36984860, -33417385705, 12243264, 19619239607, -3196578, -9586673914, 649572, 3899117794, -100529, -1317269525, 11440, 367982175, -902, -84366645, 44, 15696120, -1, -2330636, 0, 269500, 0, -23375, 0, 1430, 0, -55, 0, 1], [], [61, 0, -9455, 0, 438712, 0, -9651664, 0, 123058716, 0, -1018031196, 0, 5873256900, 0, -24835486320, 0, 79802261190, 0, -200205672810, 0, 400411345620, 0, -648887951400, 0, 863020975362, 0, -951535947194, 0, 876538040026, 0, -678610095504, 0, 443410005585, 0, -245179650147, 0, 114858935204, 0, -45571561336, 0, 15283145570, 0, -4315838450, 0, 1020107270, 0, -200058040, 0, 32152185, 0, -4160871, 0, 422730, 0, -32452, 0, 1769, 0, -61, 0, 1], [], [1, -40, -40, 2830, 2830, -57153, -57153, 534108, 534108, -2816371, -2816371, 9367189, 9367189, -21091711, -21091711, 33734309, 33734309, -39635806, -39635806, 35021504, 35021504, -23637811, -23637811, 12299714, 12299714, -4950298, -4950298, 1536886, 1536886, -364530, -364530, 64822, 64822, -8363, -8363, 739, 739, -40, -40, 1, 1], [], [1, 0, -480, 0, 38200, 0, -1207136, 0, 20242444, 0, -208761904, 0, 1447699396, 0, -7164470752, 0, 26393382334, 0, -74673011728, 0, 166151227156, 0, -296151525232, 0, 429009013834, 0, -510846665944, 0, 504468371930, 0, -415946451104, 0, 287773698725, 0, -167611886480, 0, 82326715876, 0, -34104425744, 0, 11896934698, 0, -3482700936, 0, 850725382, 0, -171941744, 0, 28406573, 0, -3770312, 0, 392042, 0, -30744, 0, 1709, 0, -60, 0, 1], [], [-1, -25, 625, 650, -32500, -5005, 672750, 17875, -7400250, -35750, 50075025, 44200, -227613750, -35700, 736618125, 19380, -1767883500, -7125, 3241119750, 1750, -4639918800, -275, 5272635000, 25, -4814145000, -1, 3562467300, 0, -2148789800, 0, 1059575660, 0, -427248250, 0, 140512125, 0, -37469900, 0, 8021650, 0, -1357510, 0, 177375, 0, -17250, 0, 1175, 0, -50, 0, 1], [], [1, 0, -144, 0, 4956, 0, -63358, 0, 405648, 0, -1514853, 0, 3636879, 0, -5982741, 0, 7034958, 0, -6080856, 0, 3932379, 0, -1920270, 0, 709280, 0, -196911, 0, 40425, 0, -5951, 0, 594, 0, -36, 0, 1], [], [1, -32, -496, 5456, 40920, -278256, -1344904, 6724520, 23535820, -94143280, -254186856, 854992152, 1852482996, -5414950296, -9669554100, 25140840660, 37711260990, -88732378800, -113380261800, 244662670200, 269128937220, -538257874440, -513791607420, 960566918220, 800472431850, -1408831480056, -1029530696964, 1715884494940, 1103068603890, -1749695026860, -991493848554, 1503232609098, 751616304549, -1093260079344, -482320623240, 675248872536, 262596783764, -354860518600, -121399651100, 158753389900, 47626016970, -60403728840, -15820024220, 19499099620, 4431613550, -5317936260, -1040465790, 1217566350, 202927725, -231917400, -32468436, 36288252, 4187106, -4582116, -424270, 455126, 32509, -34220, -1770, 1830, 61, -62, -1, 1], [], [2, 0, -1024, 0, 87296, 0, -2968064, 0, 53796160, 0, -602516992, 0, 4559958144, 0, -24754058496, 0, 100563362640, 0, -315492902400, 0, 782920544640, 0, -1565841089280, 0, 2561511781920, 0, -3467892873984, 0, 3922021702720, 0, -3732682723968, 0, 3006465218196, 0, -2057901325824, 0, 1200442440064, 0, -597659820800, 0, 254005423840, 0, -92043777280, 0, 28362326720, 0, -7398867840, 0, 1623421800, 0, -296854272, 0, 44662464, 0, -5430656, 0, 520144, 0, -37760, 0, 1952, 0, -64, 0, 1], [], [1, 44, 44, -3267, -3267, 72886, 72886, -753918, -753918, 4413607, 4413607, -16350448, -16350448, 41150012, 41150012, -73850908, -73850908, 97804877, 97804877, -97942948, -97942948, 75433697, 75433697, -45176143, -45176143, 21159269, 21159269, -7756167, -7756167, 2214673, 2214673, -487103, -487103, 80884, 80884, -9803, -9803, 818, 818, -42, -42, 1, 1], []]
def pt260 : List (List Int) := [[1, 0, -168, 0, 7910, 0, -165011, 0, 1869857, 0, -12989218, 0, 60033274, 0, -195427920, 0, 466723372, 0, -842498589, 0, 1175320191, 0, -1288279543, 0, 1123060704, 0, -785263506, 0, 442706258, 0, -201665540, 0, 74150516, 0, -21906812, 0, 5154433, 0, -951939, 0, 134890, 0, -14147, 0, 1034, 0, -47, 0, 1], [], [-1, 33, 528, -5984, -46376, 324632, 1623160, -8347680, -30260340, 124403620, 348330136, -1203322288, -2707475148, 8122425444, 15084504396, -40225345056, -62852101650, 151584480450, 202112640600, -446775310800, -513791607420, 1052049481860, 1052049481860, -2012616400080, -1761039350070, 3169870830126, 2438362177020, -4154246671960, -2818953098830, 4568648125690, 2741188875414, -4244421484512, -2254848913647, 3348108992991, 1575580702584, -2250829575120, -937845656300, 1292706174900, 476260169700, -635013559600, -206379406870, 266783135710, 76223753060, -95722852680, -23930713170, 29248649430, 6358402050, -7575968400, -1420494075, 1652411475, 264385836, -300674088, -40475358, 45057474, 5006386, -5461512, -487635, 521855, 35990, -37820, -1891, 1953, 63, -64, -1, 1], [], [1, 0, -480, 0, 17560, 0, -240976, 0, 1662386, 0, -6857500, 0, 18713229, 0, -35964944, 0, 50713585, 0, -53927016, 0, 44043506, 0, -27947920, 0, 13860054, 0, -5375528, 0, 1622694, 0, -376960, 0, 66044, 0, -8436, 0, 741, 0, -40, 0, 1], [], [1, 40, -280, -7950, -5390, 292713, 459109, -4776602, -8576724, 44224024, 81542604, -263746795, -482270554, 1094490388, 1956341917, -3326400792, -5772600425, 7674921732, 12885833896, -13798705750, -22373376226, 19708995272, 30835906363, -22689455566, -34248776691, 21279876451, 30999355674, -16385215846, -23050679173, 10411761774, 14158008389, -5475746971, -7205240221, 2385125075, 3040756235, -859092716, -1062554234, 254825662, 306189805, -61804629, -72245115, 12122474, 13804462, -1891703, -2101418, 229219, 248723, -20777, -22050, 1325, 1377, -53, -54, 1, 1], [], [-67, 0, 12529, 0, -701624, 0, 18643152, 0, -287415260, 0, 2879378332, 0, -20155648324, 0, 103657619952, 0, -406246407606, 0, 1247247742650, 0, -3064665881940, 0, 6129331763880, 0, -10113397410402, 0, 13916726351066, 0, -16110496022170, 0, 15798679970128, 0, -13195488384141, 0, 9425348845815, 0, -5774087581220, 0, 3038993463800, 0, -1374959237890, 0, 534452594130, 0, -178150864710, 0, 50758988280, 0, -12301285425, 0, 2518145487, 0, -431264394, 0, 60986884, 0, -6992857, 0, 633485, 0, -43617, 0, 2144, 0, -67, 0, 1], [], [1, -36, -324, 849, 8721, -7398, -93024, 30897, 523260, -72931, -1790712, 107406, 4056234, -104652, -6418656, 69768, 7354710, -32319, -6249100, 10395, 3996135, -2277, -1937520, 324, 712530, -27, -197316, 1, 40455, 0, -5952, 0, 594, 0, -36, 0, 1], [], [1, 0, -576, 0, 54480, 0, -2027040, 0, 39674436, 0, -473877184, 0, 3781233872, 0, -21424134944, 0, 90054697330, 0, -290206622496, 0, 735362540488, 0, -1494578771536, 0, 2475174618734, 0, -3382357674048, 0, 3852136952880, 0, -3685308206560, 0, 2979714751407, 0, -2045295785056, 0, 1195485920952, 0, -596037313328, 0, 253565331438, 0, -91945620320, 0, 28344530216, 0, -7396288528, 0, 1623130251, 0, -296829520, 0, 44660980, 0, -5430600, 0, 520143, 0, -37760, 0, 1952, 0, -64, 0, 1], [], [1, 34, -595, -6545, 58905, 376992, -2324784, -10295472, 48903492, 163011640, -635745396, -1676056044, 5586853480, 12033222880, -35240152720, -63432274896, 166509721602, 254661927156, -608359048206, -800472431850, 1761039350070, 2012616400080, -4116715363800, -4116715363800, 7890371113950, 6943526580276, -12551759587422, -9762479679106, 16735679449896, 11541847896480, -18851684897584, -11554258485616, 18053528883775, 9847379391150, -14771069086725, -7174519270695, 10363194502115, 4481381406320, -6250347750920, -2403979904200, 3245372870670, 1108176102180, -1451182990950, -438729741450, 558383307300, 148902215280, -184509266760, -43183019880, 52179482355, 10648873950, -12565671261, -2217471399, 2558620845, 386206920, -436270780, -55525372, 61474519, 6471002, -7028847, -595665, 635376, 41664, -43680, -2080, 2145, 66, -67, -1, 1], [], [1, 0, -176, 0, 7700, 0, -133210, 0, 1216380, 0, -6781005, 0, 25178895, 0, -65934180, 0, 126676230, 0, -183670815, 0, 205096155, 0, -178931535, 0, 123140835, 0, -67217827, 0, 29148711, 0, -10016751, 0, 2708289, 0, -568616, 0, 90724, 0, -10622, 0, 860, 0, -43, 0, 1], [], [-1, 35, 595, -7140, -58905, 435897, 2324784, -12620256, -48903492, 211915132, 635745396, -2311801440, -5586853480, 17620076360, 35240152720, -98672427616, -166509721602, 421171648758, 608359048206, -1408831480056, -1761039350070, 3773655750150, 4116715363800, -8233430727600, -7890371113950, 14833897694226, 12551759587422, -22314239266528, -16735679449896, 28277527346376, 18851684897584, -30405943383200, -18053528883775, 27900908274925, 14771069086725, -21945588357420, -10363194502115, 14844575908435, 6250347750920, -8654327655120, -3245372870670, 4353548972850, 1451182990950, -1889912732400, -558383307300, 707285522580, 184509266760, -227692286640, -52179482355, 62828356305, 12565671261, -14783142660, -2558620845, 2944827765, 436270780, -491796152, -61474519, 67945521, 7028847, -7624512, -635376, 677040, 43680, -45760, -2145, 2211, 67, -68, -1, 1], []]
def pt280 : List (List Int) := [[1, 0, -576, 0, 41040, 0, -806240, 0, 7879708, 0, -46733192, 0, 185991286, 0, -528110016, 0, 1114806228, 0, -1801297716, 0, 2275594585, 0, -2282738200, 0, 1838598489, 0, -1197942644, 0, 634122235, 0, -273061888, 0, 95482200, 0, -26969892, 0, 6095713, 0, -1085968, 0, 148994, 0, -15180, 0, 1081, 0, -48, 0, 1], [], [1, 48, 48, -4276, -4276, 114634, 114634, -1431196, -1431196, 10162529, 10162529, -45908941, -45908941, 141714824, 141714824, -313942891, -313942891, 516962354, 516962354, -649220446, -649220446, 633580634, 633580634, -486968926, -486968926, 297415766, 297415766, -145057650, -145057650, 56562010, 56562010, -17581994, -17581994, 4324189, 4324189, -830207, -830207, 121731, 121731, -13159, -13159, 988, 988, -46, -46, 1, 1], [], [-71, 0, 14910, 0, -937839, 0, 28001193, 0, -485354012, 0, 5471263408, 0, -43138807640, 0, 250205084312, 0, -1107525446734, 0, 3847193657076, 0, -10717182330426, 0, 24357232569150, 0, -45791597230002, 0, 72014135814704, 0, -95604973409176, 0, 107941099010360, 0, -104261288816825, 0, 86563154076490, 0, -61997934676405, 0, 38403578969595, 0, -20606798471490, 0, 9584557428600, 0, -3862867084860, 0, 1347179362620, 0, -405528481605, 0, 104960312886, 0, -23231419035, 0, 4364690849, 0, -689161713, 0, 90223392, 0, -9613968, 0, 812240, 0, -52327, 0, 2414, 0, -71, 0, 1], [], [1, -36, -612, 7113, 55305, -366648, -1800652, 7925810, 29901764, -95314988, -300842882, 733553781, 2024261108, -3919741894, -9705324000, 15334436919, 34646338352, -45579323970, -95092642859, 105770029276, 205593366966, -195602334521, -356754197541, 292867657590, 504158401915, -359407537879, -586896075823, 364963554059, 567804751423, -308887673842, -459621568045, 219047674031, 312809602500, -130618537562, -179565559287, 65618504331, 87080513652, -27779262302, -35675680221, 9896003704, 12326598914, -2956559858, -3579176853, 736662586, 868312216, -151795100, -174501553, 25556488, 28696849, -3455336, -3795012, 365859, 393525, -29205, -30800, 1652, 1710, -59, -60, 1, 1], [], [1, 0, -576, 0, 27600, 0, -526240, 0, 5328180, 0, -33153120, 0, 138389160, 0, -410605200, 0, 901620585, 0, -1508593920, 0, 1965142080, 0, -2024691840, 0, 1668903600, 0, -1109179008, 0, 597137376, 0, -260818624, 0, 92285622, 0, -26320320, 0, 5995184, 0, -1074528, 0, 148092, 0, -15136, 0, 1080, 0, -48, 0, 1], [], [1, 28, -868, -119, 58121, -47684, -1536668, 1437712, 21428076, -19849366, -182411738, 162318830, 1038075272, -875475432, -4202705896, 3327005656, 12653935228, -9326802291, -29269894991, 19943041341, 53288328688, -33345272673, -77767778249, 44422502676, 92246301175, -47823798122, -89871897201, 42048099050, 72472889525, -30424790474, -48634976697, 18210186223, 27251728738, -9041542515, -12767942312, 3726399797, 4999141929, -1272742132, -1631480980, 358738848, 441584800, -82845952, -98348482, 15502530, 17814788, -2312258, -2580534, 268276, 291600, -23324, -24753, 1429, 1484, -55, -56, 1, 1], [], [73, 0, -16206, 0, 1077699, 0, -34024497, 0, 623782445, 0, -7440023344, 0, 62095579448, 0, -381444273752, 0, 1789422401866, 0, -6592608848980, 0, 19495286167698, 0, -47081501377326, 0, 94163002754652, 0, -157743149913776, 0, 223404707390200, 0, -269526969561080, 0, 278715388977935, 0, -248267489341690, 0, 191233066114545, 0, -127746785056275, 0, 74155450837545, 0, -37447270854840, 0, 16454103860460, 0, -6286350503580, 0, 2084759095575, 0, -598448493318, 0, 148092116271, 0, -31413479209, 0, 5668597752, 0, -861388320, 0, 108732624, 0, -11190608, 0, 914617, 0, -57086, 0, 2555, 0, -73, 0, 1], [], [1, -56, 392, 2170, -15974, -29211, 235249, 198948, -1816836, -798357, 8580418, 2063243, -27041546, -3643150, 60174899, 4577216, -98285670, -4206314, 121090515, 2877896, -114717330, -1480051, 84672315, 573300, -49085400, -166257, 22428252, 35525, -8069424, -5425, 2272424, 560, -494802, -35, 81585, 1, -9842, 0, 819, 0, -42, 0, 1], [], [1, 0, -684, 0, 77691, 0, -3511656, 0, 84470637, 0, -1254035872, 0, 12571379640, 0, -90381694624, 0, 486479767130, 0, -2024178913320, 0, 6673266886466, 0, -17773144044704, 0, 38839881428636, 0, -70526067712544, 0, 107508408091128, 0, -138741084924896, 0, 152619992398647, 0, -143899865922244, 0, 116801377428793, 0, -81887447386216, 0, 49703995018057, 0, -26157084622864, 0, 11940711503788, 0, -4726281748816, 0, 1619649684367, 0, -479298795820, 0, 122005197367, 0, -26567853632, 0, 4912530808, 0, -763615936, 0, 98445520, 0, -10332736, 0, 860081, 0, -54604, 0, 2483, 0, -72, 0, 1], [], [-1, -37, 703, 8436, -82251, -575757, 3838380, 18643560, -95548245, -350343565, 1471442973, 4280561376, -15338678264, -36576848168, 114955808528, 229911617056, -646626422970, -1103068603890, 2818953098830, 4154246671960, -9762479679106, -12551759587422, 27385657281648, 30957699535776, -63205303218876, -63205303218876, 121548660036300, 108043253365600, -196793068630200, -156077261327400, 270533919634160, 191991813933920, -317986441828055, -202355008436035, 321387366339585, 183649923622620, -280576272201225, -144079707346575, 212327989773900, 97997533741800, -139646485582065, -57902201338905, 79960182801345, 29752626158640, -39895566894540, -13298522298180, 17345898649800, 5166863427600, -6566222272575, -1742058970275, 2160153123141, 508271323092, -615790256823, -127805525001, 151473214816, 27540584512, -31966749880, -5047381560, 5743572120, 778789440, -869648208, -99795696, 109453344, 10424128, -11238513, -864501, 916895, 54740, -57155, -2485, 2556, 72, -73, -1, 1], []]
def pt300 : List (List Int) := [[1, 0, -200, 0, 9150, 0, -144655, 0, 1106455, 0, -4952883, 0, 14438100, 0, -29279950, 0, 43139880, 0, -47552155, 0, 39996264, 0, -25995750, 0, 13144625, 0, -5177835, 0, 1582210, 0, -371007, 0, 65450, 0, -8400, 0, 740, 0, -40, 0, 1], [], [1, -38, -703, 9139, 82251, -658008, -3838380, 22481940, 95548245, -445891810, -1471442973, 5752004349, 15338678264, -51915526432, -114955808528, 344867425584, 646626422970, -1749695026860, -2818953098830, 6973199770790, 9762479679106, -22314239266528, -27385657281648, 58343356817424, 63205303218876, -126410606437752, -121548660036300, 229591913401900, 196793068630200, -352870329957600, -270533919634160, 462525733568080, 317986441828055, -520341450264090, -321387366339585, 505037289962205, 280576272201225, -424655979547800, -212327989773900, 310325523515700, 139646485582065, -197548686920970, -79960182801345, 109712808959985, 39895566894540, -53194089192720, -17345898649800, 22512762077400, 6566222272575, -8308281242850, -2160153123141, 2668424446233, 615790256823, -743595781824, -151473214816, 179013799328, 31966749880, -37014131440, -5743572120, 6522361560, 869648208, -969443904, -109453344, 119877472, 11238513, -12103014, -916895, 971635, 57155, -59640, -2556, 2628, 73, -74, -1, 1], [], [1, 0, -720, 0, 85380, 0, -3996264, 0, 98753997, 0, -1494882752, 0, 15175537936, 0, -109815054496, 0, 591842257802, 0, -2455208569408, 0, 8042741296784, 0, -21229690036640, 0, 45896230905916, 0, -82346656425024, 0, 123947597028144, 0, -157900562344160, 0, 171474385409703, 0, -159659039480144, 0, 128039645517188, 0, -88747168773352, 0, 53295087034617, 0, -27770767805920, 0, 12562892245384, 0, -4931774852432, 0, 1677607483719, 0, -493191350912, 0, 124816036256, 0, -27043357760, 0, 4978915896, 0, -771127168, 0, 99116704, 0, -10378304, 0, 862289, 0, -54672, 0, 2484, 0, -72, 0, 1], [], [1, 48, -144, -5092, 15324, 132894, -403774, -1518174, 4687416, 9856133, -31086573, -41352480, 133913573, 120799383, -403750629, -257715580, 893946123, 414820332, -1502176576, -515420619, 1961082189, 502438817, -2022737070, -388583001, 1668187820, 240132762, -1108981287, -118988043, 597096891, 47274876, -260812671, -15003384, 92285028, 3772300, -26320284, -740961, 5995183, 111189, -1074528, -12301, 148092, 945, -15136, -45, 1080, 1, -48, 0, 1], [], [1, 0, -240, 0, 16580, 0, -521938, 0, 9156888, 0, -100422335, 0, 742221909, 0, -3900841911, 0, 15176439088, 0, -45083463663, 0, 104766369144, 0, -194130948828, 0, 291226209171, 0, -357976286928, 0, 363972489209, 0, -308337579027, 0, 218801812945, 0, -130530017729, 0, 65592924343, 0, -27773378270, 0, 9894941476, 0, -2956412711, 0, 736647495, 0, -151794021, 0, 25556440, 0, -3455335, 0, 365859, 0, -29205, 0, 1652, 0, -59, 0, 1], [], [1, -32, -928, 2136, 73816, -86436, -2292220, 2287996, 37111808, -35084150, -365570294, 331006820, 2407583582, -2077277672, -11291779646, 9215162832, 39444292942, -30229577161, -106065535687, 75836178130, 225073752223, -149237652523, -384142872874, 234905240501, 535121439525, -300216202651, -615364703546, 315148501329, 589270204929, -274121703631, -472969365578, 198847661948, 319676821028, -120829159080, -182491491577, 61662332497, 88111494158, -26449161661, -35974911545, 9525749884, 12397633711, -2871883827, -3592819032, 720935205, 870397463, -149462258, -174749149, 25286891, 28718850, -3431959, -3796388, 364429, 393579, -29150, -30801, 1651, 1710, -59, -60, 1, 1], [], [1, 0, -672, 0, 35336, 0, -709744, 0, 7270758, 0, -44604404, 0, 181224991, 0, -520740432, 0, 1106577821, 0, -1794477364, 0, 2271327993, 0, -2280707624, 0, 1837862911, 0, -1197741324, 0, 634081317, 0, -273055904, 0, 95481605, 0, -26969856, 0, 6095712, 0, -1085968, 0, 148994, 0, -15180, 0, 1081, 0, -48, 0, 1], [], [-1, -39, 780, 9880, -101270, -749398, 5245786, 26978328, -145008513, -563921995, 2481256778, 7669339132, -28760021745, -73006209045, 239877544005, 511738760544, -1503232609098, -2741188875414, 7309837001104, 11541847896480, -28277527346376, -39049918716424, 88749815264600, 108043253365600, -229591913401900, -247959266474052, 495918532948104, 477551179875952, -903936161908052, -779255311989700, 1402659561581460, 1085929983159840, -1866442158555975, -1300853625660225, 2142582442263900, 1346766106565880, -2132379668729310, -1210269541711230, 1847253511032930, 947309492837400, -1397281501935165, -647520696018735, 925029565741050, 387221678682300, -536830054536825, -202802465047245, 273342452889765, 93052749919920, -122131734269895, -37387265592825, 47855699958816, 13136858812224, -16421073515280, -4027810484880, 4922879481520, 1074082795968, -1285063345176, -247994680648, 290752384208, 49280065120, -56672074888, -8361453672, 9440350920, 1198774720, -1329890705, -143218999, 156238908, 13991544, -15020334, -1088430, 1150626, 64824, -67525, -2775, 2850, 76, -77, -1, 1], [], [-79, 0, 20540, 0, -1600066, 0, 59202442, 0, -1272852503, 0, 17819935042, 0, -174772439835, 0, 1263355065093, 0, -6985610359926, 0, 30393532794064, 0, -106377364779224, 0, 304836321995800, 0, -725510446350004, 0, 1451020892700008, 0, -2462446785887452, 0, 3574519527901140, 0, -4468149409876425, 0, 4836114655395660, 0, -4552918752151770, 0, 3741872496707730, 0, -2692322893972635, 0, 1699472923105650, 0, -942434984631315, 0, 459447952729605, 0, -196906265455545, 0, 74129417583264, 0, -24476694485040, 0, 7071045073456, 0, -1781052706472, 0, 389312514448, 0, -73394982232, 0, 11837900360, 0, -1616328703, 0, 184221996, 0, -17197194, 0, 1280274, 0, -73075, 0, 3002, 0, -79, 0, 1], [], [1, -52, -52, 6149, 6149, -210886, -210886, 3385694, 3385694, -31081531, -31081531, 182615264, 182615264, -737924776, -737924776, 2155201064, 2155201064, -4715972806, -4715972806, 7941452744, 7941452744, -10502224486, -10502224486, 11076148874, 11076148874, -9423305818, -9423305818, 6520714498, 6520714498, -3689741862, -3689741862, 1711918922, 1711918922, -651307671, -651307671, 202631350, 202631350, -51242413, -51242413, 10427327, 10427327, -1681000, -1681000, 209669, 209669, -19503, -19503, 1273, 1273, -52, -52, 1, 1], []]
def pt320 : List (List Int) := [[1, 0, -768, 0, 81856, 0, -2922368, 0, 53594608, 0, -601979520, 0, 4559017568, 0, -24752921536, 0, 100562382012, 0, -315492287104, 0, 782920261280, 0, -1565840993600, 0, 2561511758520, 0, -3467892869952, 0, 3922021702256, 0, -3732682723936, 0, 3006465218195, 0, -2057901325824, 0, 1200442440064, 0, -597659820800, 0, 254005423840, 0, -92043777280, 0, 28362326720, 0, -7398867840, 0, 1623421800, 0, -296854272, 0, 44662464, 0, -5430656, 0, 520144, 0, -37760, 0, 1952, 0, -64, 0, 1], [], [1, 48, -432, -13996, -5196, 785644, 1172758, -19769505, -35369546, 283228972, 529298508, -2610645206, -4892903186, 16727538206, 30949836997, -78584582434, -142500903207, 281297348758, 498000688068, -789504283575, -1361506268560, 1775754641444, 2978765407143, -3255354367109, -5307149614479, 4929005271292, 7805890500898, -6228783058067, -9580526222568, 6623649238755, 9895496114045, -5965034179403, -8658203341898, 4571350688831, 6449527801030, -2991497995326, -4104818037665, 1675295443069, 2237270721209, -803652636168, -1045329980994, 330141755665, 418606165515, -115958406161, -143452402426, 34718361332, 41942726398, -8819089966, -10413814866, 1887784159, 2180843418, -337328198, -381597137, 49668795, 55068651, -5918290, -6436724, 556134, 593834, -39651, -41602, 2015, 2079, -65, -66, 1, 1], [], [-3, 0, 729, 0, -44226, 0, 1068795, 0, -13741650, 0, 108864405, 0, -580610160, 0, 2210784840, 0, -6263890380, 0, 13612702950, 0, -23213240820, 0, 31604174190, 0, -34810394760, 0, 31329355284, 0, -23206929840, 0, 14217578856, 0, -7223447322, 0, 3045178773, 0, -1063395762, 0, 306312435, 0, -72258318, 0, 13805451, 0, -2101464, 0, 248724, 0, -22050, 0, 1377, 0, -54, 0, 1], [], [-1, 41, 820, -11480, -111930, 962598, 6096454, -38320568, -177232627, 886163135, 3190187286, -13340783196, -38910617655, 140676848445, 341643774795, -1093260079344, -2254848913647, 6499270398159, 11554258485616, -30405943383200, -47129212243960, 114456658306760, 156077261327400, -352870329957600, -426384982032100, 903936161908052, 973469712824056, -1946939425648112, -1877405874732108, 3560597348629860, 3085851035479212, -5574440580220512, -4355031703297275, 7522327487513475, 5309878226480100, -8799226775309880, -5621728217559090, 8964377427999630, 5189902721473470, -7984465725343800, -4191844505805495, 6236646703759395, 2969831763694950, -4282083008118300, -1849081298960175, 2588713818544245, 1012974972473835, -1379370175283520, -488526937079580, 648045936942300, 207374699821536, -268367258592576, -77413632286320, 97862516286480, 25371763481680, -31368725759168, -7282025622664, 8815083648488, 1823810410032, -2163842859360, -396704524216, 461738052776, 74473879480, -85113005120, -11969016345, 13442126049, 1629348612, -1799579064, -185250786, 201359550, 17259390, -18474840, -1282975, 1353275, 73150, -76076, -3003, 3081, 79, -80, -1, 1], [], [1, 0, -840, 0, 117250, 0, -6519128, 0, 193133347, 0, -3536702180, 0, 43812658163, 0, -390075869936, 0, 2606441018351, 0, -13500673175520, 0, 55581847347800, 0, -185514666806880, 0, 510062813607460, 0, -1170406386974352, 0, 2265672394068988, 0, -3733313512759648, 0, 5275595237027707, 0, -6433244351722984, 0, 6804719429352538, 0, -6269731720797016, 0, 5049211508078887, 0, -3563549361535204, 0, 2208348122251723, 0, -1203157820620096, 0, 576633114411292, 0, -243081111087040, 0, 90056706039088, 0, -29274668605376, 0, 8329054199560, 0, -2066825134496, 0, 445213386648, 0, -82736212544, 0, 13157412633, 0, -1771705320, 0, 199187658, 0, -18345336, 0, 1347727, 0, -75924, 0, 3079, 0, -80, 0, 1], [], [1, 48, -288, -2512, 8232, 43393, -102396, -369684, 703905, 1857788, -3029168, -6077890, 8815690, 13764066, -18249278, -22476466, 27803858, 27222459, -31915288, -24933608, 28043254, 17493203, -19054236, -9469608, 10063407, 3963256, -4133168, -1277913, 1313873, 314247, -319703, -57817, 58378, 7701, -7736, -701, 702, 39, -39, -1, 1], [], [-83, 0, 23821, 0, -2048606, 0, 83700188, 0, -1987879465, 0, 30757916813, 0, -333605097741, 0, 2668840781928, 0, -16346649789309, 0, 78865415650175, 0, -306448472240680, 0, 976274579549360, 0, -2587127635805804, 0, 5771284726028332, 0, -10945539997639940, 0, 17795329544550096, 0, -24974127258544737, 0, 30430659264613335, 0, -32349709848868230, 0, 30123211600160700, 0, -24649603638668085, 0, 17770644483690945, 0, -11308591944166965, 0, 6360429141585120, 0, -3163988986247700, 0, 1392155153948988, 0, -541505923451856, 0, 185971731286496, 0, -56280918678808, 0, 14966579777240, 0, -3484023489128, 0, 706437942496, 0, -123966273563, 0, 18670632789, 0, -2387548950, 0, 255568620, 0, -22464365, 0, 1578577, 0, -85241, 0, 3320, 0, -83, 0, 1], [], [1, -42, -861, 12341, 123410, -1086008, -7059052, 45379620, 215553195, -1101716330, -4076350421, 17417133617, 52251400851, -192928249296, -482320623240, 1575580702584, 3348108992991, -9847379391150, -18053528883775, 48459472266975, 77535155627160, -191991813933920, -270533919634160, 623404249591760, 779255311989700, -1683191473897752, -1877405874732108, 3824345300380220, 3824345300380220, -7384942649010080, -6646448384109072, 12220888964329584, 9929472283517787, -17451799771031262, -12832205713993575, 21631432489303455, 14420954992868970, -23385332420868600, -14154280149473100, 22138745874816900, 12176310231149295, -18412956934908690, -9206478467454345, 13488561475572645, 6131164307078475, -8719878125622720, -3601688791018080, 4981058966301600, 1867897112363100, -2515943049305400, -855420636763836, 1123787895356412, 345780890878896, -443643407165376, -123234279768160, 154603005527328, 38650751381832, -47465835030320, -10638894058520, 12802736917880, 2560547383576, -3022285436352, -536211932256, 621324937376, 97082021465, -110524147514, -15071474661, 16871053725, 1984829850, -2186189400, -218618940, 237093780, 19757815, -21111090, -1426425, 1502501, 79079, -82160, -3160, 3240, 81, -82, -1, 1], [], [1, 0, -768, 0, 38848, 0, -693120, 0, 6534000, 0, -38355328, 0, 153222304, 0, -440306496, 0, 945074420, 0, -1556312800, 0, 2005201848, 0, -2050704816, 0, 1682051474, 0, -1114357248, 0, 598719616, 0, -261189632, 0, 92351072, 0, -26328720, 0, 5995924, 0, -1074568, 0, 148093, 0, -15136, 0, 1080, 0, -48, 0, 1], [], [-1, -39, 1014, 9061, -157001, -556387, 8903427, 14656655, -252930808, -216422271, 4324257587, 2051360909, -49483859945, -13521774841, 405458684553, 65341075696, -2491355718306, -240286948785, 11871743606359, 691411044090, -45002650983004, -1590288757005, 138436551316115, 2973173393775, -351127341416826, -4578698208045, 743866969521565, 5870129857956, -1330313881030628, -6318342833374, 2026059804050724, 5747654035266, -2646952512165572, -4441369064600, 2984310576915395, 2926078446954, -2917993021435999, -1647566693461, 2484237427915958, 793766949499, -1847253500444352, -327186864550, 1202538433766241, 115221952300, -686438430180555, -34566585690, 343882440712733, 8793534750, -151210718618596, -1884328875, 58324134324755, 336962340, -19705288218335, -49639590, 5817948478160, 5916638, -1496043894384, -556075, 333510087768, 39650, -64064084656, -2015, 10519248168, 65, -1461006690, -1, 169258817, 0, -16049124, 0, 1212822, 0, -70226, 0, 2925, 0, -78, 0, 1], []]
def pt340 : List (List Int) := [[1, 0, -288, 0, 23352, 0, -844284, 0, 16719240, 0, -205007606, 0, 1691578474, 0, -9957392206, 0, 43622281450, 0, -146797882555, 0, 388799138465, 0, -826004242022, 0, 1429041330951, 0, -2037756345770, 0, 2418211233163, 0, -2406541877526, 0, 2020375732235, 0, -1437267648720, 0, 869031151540, 0, -447378137820, 0, 196168799300, 0, -73193549080, 0, 23180065690, 0, -6204488142, 0, 1394687686, 0, -260908400, 0, 40108121, 0, -4977127, 0, 485982, 0, -35931, 0, 1890, 0, -63, 0, 1], [], [1, -60, 180, 7175, -21585, -247482, 749621, 3724983, -11422431, -31598986, 98521941, 172646226, -549537664, -657186627, 2144206107, 1833689735, -6158255832, -3883891707, 13485364856, 6403545300, -23094527607, -8371339693, 31517564379, 8796419046, -34760596831, -7503436890, 31306729716, 5231794357, -23198819961, -2994502041, 14215300480, 1409483295, -7222951926, -545204619, 3045097152, 172727100, -1063385919, -44528172, 306311616, 9243368, -72258276, -1520694, 13805450, 193590, -2101464, -18378, 248724, 1224, -22050, -51, 1377, 1, -54, 0, 1], [], [1, 0, -924, 0, 141911, 0, -8684984, 0, 283352663, 0, -5717714992, 0, 78107277156, 0, -767493625840, 0, 5665357670215, 0, -32453763983180, 0, 147947936173495, 0, -547544986395360, 0, 1671852059963700, 0, -4267596836387616, 0, 9207363507071672, 0, -16944525904468576, 0, 26804238294337451, 0, -36682966847295428, 0, 43668623045688857, 0, -45424160999017784, 0, 41442154829036603, 0, -33262364508282176, 0, 23542541967477872, 0, -14720097887038784, 0, 8140220076616508, 0, -3983703211746032, 0, 1725292971075116, 0, -660837298096320, 0, 223575454091432, 0, -66676798012864, 0, 17478618298384, 0, -4011973088320, 0, 802331567673, 0, -138895391516, 0, 20641525767, 0, -2605081944, 0, 275261683, 0, -23888016, 0, 1657580, 0, -88400, 0, 3401, 0, -84, 0, 1], [], [-1, -43, 946, 13244, -148995, -1221759, 9366819, 53524680, -314457495, -1362649145, 6540715896, 22595200368, -92263734836, -262596783764, 937845656300, 2250829575120, -7174519270695, -14771069086725, 42671977361650, 76360380541900, -202355008436035, -317986441828055, 780512175396135, 1085929983159840, -2488589544741300, -3085851035479212, 6646448384109072, 7384942649010080, -15033633249770520, -15033633249770520, 29065024282889672, 26252279997448736, -48402641245296107, -39602161018878633, 69886166503903470, 51915437974328292, -87967825456500717, -59437719903041025, 96977332473382725, 59678358445158600, -93993414551124795, -52728013040874885, 80347448443237920, 41107996877935680, -60727722660586800, -28339603908273840, 40661170824914640, 17302625882942400, -24151581961607100, -9364899127970100, 12736262814039336, 4495151581425648, -5964720367660956, -1913212193400684, 2480089880334220, 721480692460864, -914734449370024, -240719591939480, 298824321028320, 70907466006720, -86270750308176, -18385569737808, 21944067106416, 4179822305984, -4898229264825, -828931106355, 954526728530, 142466675900, -161322559475, -21042072975, 23446881315, 2641902120, -2898753715, -277962685, 300500200, 24040016, -25621596, -1663740, 1749060, 88560, -91881, -3403, 3486, 84, -85, -1, 1], [], [1, 0, -280, 0, 19530, 0, -540981, 0, 7953825, 0, -71911785, 0, 436964685, 0, -1893097305, 0, 6096849825, 0, -15051260895, 0, 29150001375, 0, -45083792745, 0, 56450929785, 0, -57830355571, 0, 48854176735, 0, -34226159987, 0, 19956910557, 0, -9701434336, 0, 3930683234, 0, -1324227269, 0, 369192453, 0, -84528927, 0, 15712291, 0, -2331763, 0, 269549, 0, -23376, 0, 1430, 0, -55, 0, 1], [], [1, -40, -1000, 5790, 70750, -239133, -2042025, 4489450, 32155400, -47453275, -314980665, 320547890, 2086547125, -1497545690, -9903819250, 5099353796, 35116068700, -13130865250, -95937312825, 26267252375, 206769856985, -41655438275, -358042949250, 53181974275, 505281604750, -55309683196, -587681370765, 47273340075, 568247462640, -33417380775, -459823234113, 19619239080, 312883753050, -9586673880, -179587466100, 3899117793, 87085668085, -1317269525, -35676632160, 367982175, 12326733804, -84366645, -3579191000, 15696120, 868313250, -2330636, -174501600, 269500, 28696850, -23375, -3795012, 1430, 393525, -55, -30800, 1, 1710, 0, -60, 0, 1], [], [1, 0, -960, 0, 148400, 0, -8855392, 0, 273572268, 0, -5101543072, 0, 63248129944, 0, -557176728560, 0, 3658418800063, 0, -18550110562944, 0, 74625783904416, 0, -243263260098880, 0, 653417052532280, 0, -1465921462073152, 0, 2777420612074352, 0, -4484778175155296, 0, 6218467488920675, 0, -7450402793738496, 0, 7752907449843520, 0, -7036558573760128, 0, 5588872002464912, 0, -3894769285673856, 0, 2385882991171360, 0, -1286310026495808, 0, 610657047927676, 0, -255230102926080, 0, 93834661139136, 0, -30294637532544, 0, 8567088447696, 0, -2114562756480, 0, 453376597152, 0, -83914230336, 0, 13298907049, 0, -1785587520, 0, 200271120, 0, -18410016, 0, 1350500, 0, -76000, 0, 3080, 0, -80, 0, 1], [], [1, 60, 60, -8495, -8495, 362792, 362792, -7275112, -7275112, 83743244, 83743244, -619580416, -619580416, 3167546984, 3167546984, -11764555336, -11764555336, 32921956754, 32921956754, -71346571456, -71346571456, 122294980934, 122294980934, -168550038466, -168550038466, 189189335396, 189189335396, -174665241438, -174665241438, 133625335978, 133625335978, -85161525414, -85161525414, 45364727121, 45364727121, -20227456926, -20227456926, 7545810193, 7545810193, -2349118983, -2349118983, 607292783, 607292783, -129354667, -129354667, 22439353, 22439353, -3117087, -3117087, 338248, 338248, -27611, -27611, 1594, 1594, -58, -58, 1, 1], [], [89, 0, -29370, 0, 2904693, 0, -136520571, 0, 3731562274, 0, -66489655064, 0, 831120688300, 0, -7670056637740, 0, 54254371216955, 0, -302682281526170, 0, 1362070266867765, 0, -5033737942772175, 0, 15503912863738299, 0, -40283671030567888, 0, 89199557281971752, 0, -169766899343107528, 0, 279729550053983995, 0, -401494177724541734, 0, 504580520653815963, 0, -557694259670007117, 0, 544091960653665480, 0, -469979766677584800, 0, 360317821119481680, 0, -245656090809489360, 0, 149148340848618540, 0, -80715572694546504, 0, 38951999885249220, 0, -16761163586986028, 0, 6427213104784116, 0, -2193741936407904, 0, 665315177435184, 0, -178848165977200, 0, 42476439419585, 0, -8875673908570, 0, 1623045228805, 0, -257989080635, 0, 35340969950, 0, -4126297032, 0, 404732484, 0, -32709636, 0, 2120069, 0, -105910, 0, 3827, 0, -89, 0, 1], [], [-1, 45, 990, -15180, -163185, 1533939, 10737573, -73629072, -377348994, 2054455634, 8217822536, -37353738800, -121399651100, 476260169700, 1292706174900, -4481381406320, -10363194502115, 32308782859535, 64617565719070, -183649923622620, -321387366339585, 841728816603675, 1300853625660225, -3167295784216200, -4355031703297275, 9929472283517787, 12220888964329584, -26252279997448736, -29065024282889672, 59132290782430712, 59132290782430712, -114449595062769120, -103719945525634515, 191724747789809255, 157890968768078210, -279692573246309972, -209769429934732479, 357174975294274221, 244382877832924467, -401038568751465792, -250649105469666120, 397370533061665800, 227068876035237600, -348524321356411200, -182183167981760400, 271250494550621040, 129728497393775280, -187692294101632320, -82115378669464140, 115631859759041340, 46252743903616536, -63484158299081520, -23196134763125940, 31074067324187580, 10358022441395860, -13559593014190944, -4116305022165108, 5271759063474612, 1454278362337824, -1824010149372864, -456002537343216, 560658857389200, 126600387152400, -152724276564800, -31022118677225, 36749279048405, 6681687099710, -7778680504140, -1258315963905, 1440680596355, 205811513765, -231900297200, -28987537150, 32164253550, 3477216600, -3801756816, -350161812, 377447148, 29034396, -30872016, -1929501, 2024785, 98770, -102340, -3655, 3741, 87, -88, -1, 1], []]
def pt360 : List (List Int) := [[1, 0, -864, 0, 36216, 0, -619152, 0, 5851386, 0, -34943820, 0, 142445393, 0, -417023856, 0, 908975295, 0, -1514843020, 0, 1969138215, 0, -2026629360, 0, 1669616130, 0, -1109376324, 0, 597177831, 0, -260824576, 0, 92286216, 0, -26320356, 0, 5995185, 0, -1074528, 0, 148092, 0, -15136, 0, 1080, 0, -48, 0, 1]]
def ptA : List (List (List Int)) := [pt0, pt20, pt40, pt60, pt80, pt100, pt120, pt140, pt160, pt180, pt200, pt220, pt240, pt260, pt280, pt300, pt320, pt340, pt360]
def pN (n : Nat) : List Int := (ptA.getD (n / 20) []).getD (n % 20) []
end WK
namespace WK
open PySem L2 FL
def addZ : List Int → List Int → List Int
  | [], b => b
  | a :: l, [] => a :: l
  | a :: l, b :: m => (a + b) :: addZ l m
def mulL : List Int → List Int → List Int
  | [], b => List.replicate (b.length - 1) 0
  | a :: q, b => addZ (b.map fun x => a * x) (0 :: mulL q b)
theorem len_addZ : ∀ a b : List Int, (addZ a b).length = max a.length b.length
  | [], b => by rw [addZ, List.length_nil]; omega
  | a :: l, [] => by rw [addZ, List.length_nil]; omega
  | a :: l, b :: m => by rw [addZ, List.length_cons, List.length_cons, List.length_cons, len_addZ l m]; omega
theorem get_addZ : ∀ (a b : List Int) (t : Nat), (addZ a b).getD t 0 = a.getD t 0 + b.getD t 0
  | [], b, t => by rw [addZ]; show _ = 0 + _; rw [Int.zero_add]
  | a :: l, [], t => by rw [addZ]; show _ = _ + 0; rw [Int.add_zero]
  | a :: l, b :: m, 0 => rfl
  | a :: l, b :: m, t + 1 => get_addZ l m t
theorem get_smul (a : Int) : ∀ (b : List Int) (t : Nat), (b.map fun x => a * x).getD t 0 = a * b.getD t 0
  | [], t => by show (0 : Int) = a * 0; rw [Int.mul_zero]
  | b :: m, 0 => rfl
  | b :: m, t + 1 => get_smul a m t
theorem len_mulL {b : List Int} (hb : 0 < b.length) : ∀ q : List Int, (mulL q b).length = q.length + b.length - 1
  | [] => by rw [mulL, List.length_replicate, List.length_nil]; omega
  | a :: q => by rw [mulL, len_addZ, List.length_map, List.length_cons, len_mulL hb q, List.length_cons]; omega
def cof (b : List Int) (t i : Nat) : Int := if i ≤ t then b.getD (t - i) 0 else 0
theorem get_mulL (b : List Int) : ∀ (q : List Int) (t : Nat), (mulL q b).getD t 0 = sm q.length fun i => q.getD i 0 * cof b t i
  | [], t => by
    rw [mulL]
    show _ = (0 : Int)
    rw [List.getD_eq_getElem?_getD, List.getElem?_replicate]
    split <;> rfl
  | a :: q, t => by
    rw [mulL, get_addZ, get_smul, List.length_cons, sm_head]
    have e0 : (a :: q).getD 0 0 * cof b t 0 = a * b.getD t 0 := by
      unfold cof
      rw [if_pos (Nat.zero_le _), Nat.sub_zero]
      rfl
    rw [e0]
    congr 1
    cases t with
    | zero =>
      show (0 : Int) = _
      have : (sm q.length fun i => (a :: q).getD (i + 1) 0 * cof b 0 (i + 1)) = sm q.length fun _ => 0 := sm_congr fun i _ => by
        unfold cof
        rw [if_neg (by omega), Int.mul_zero]
      rw [this, sm_zero]
    | succ t =>
      show (mulL q b).getD t 0 = _
      rw [get_mulL b q t]
      exact sm_congr fun i _ => by
        show q.getD i 0 * _ = q.getD i 0 * _
        congr 1
        unfold cof
        by_cases h : i ≤ t
        · rw [if_pos h, if_pos (by omega), show t + 1 - (i + 1) = t - i by omega]
        · rw [if_neg h, if_neg (by omega)]
theorem subO_addR (b : List Int) (f : Int) (o : Nat) (m : List Int) : subO b f o m = addR b (-f) o b.length m := by
  unfold subO addR
  congr 1
  funext l j
  rw [Int.neg_mul, ← Int.sub_eq_add_neg]
theorem downN_succ (k : Nat) : downN (k + 1) 0 = k :: downN k 0 := by
  unfold downN
  rw [Nat.sub_zero, Nat.sub_zero, List.range_succ_eq_map, List.map_cons, List.map_map]
  congr 1
  refine List.map_congr_left fun i _ => ?_
  show k + 1 - 1 - (i + 1) = k - 1 - i
  omega
theorem divO_mul {q b : List Int} (hb : 0 < b.length) (hm : b.getD (b.length - 1) 0 = 1) (hq : BdL 1000 q) : ∀ (k : Nat) (l F : List Int), k ≤ q.length → k + b.length - 1 ≤ l.length → F.length = q.length → (∀ t, t + 1 < k + b.length → l.getD t 0 = sm k fun i => q.getD i 0 * cof b t i) → (∀ t, k ≤ t → F.getD t 0 = q.getD t 0) → divO b (downN k 0) l F = some q
  | 0, l, F, _, _, hF, _, h => by
    show some F = some q
    congr 1
    refine List.ext_getElem? fun i => ?_
    have := h i (Nat.zero_le _)
    rw [List.getD_eq_getElem?_getD, List.getD_eq_getElem?_getD] at this
    by_cases hi : i < q.length
    · rw [List.getElem?_eq_getElem hi, List.getElem?_eq_getElem (by omega : i < F.length)] at this ⊢
      exact congrArg some this
    · rw [List.getElem?_eq_none (by omega), List.getElem?_eq_none (by omega)]
  | k + 1, l, F, hk, hl, hF, hc, h => by
    have top : l.getD (k + b.length - 1) 0 = q.getD k 0 := by
      rw [hc _ (by omega), sm]
      have z : (sm k fun i => q.getD i 0 * cof b (k + b.length - 1) i) = sm k fun _ => 0 := sm_congr fun i hi => by
        have z2 : cof b (k + b.length - 1) i = 0 := by
          unfold cof
          rw [if_pos (by omega), List.getD_eq_getElem?_getD, List.getElem?_eq_none (by omega)]
          rfl
        rw [z2, Int.mul_zero]
      rw [z, sm_zero, Int.zero_add]
      unfold cof
      rw [if_pos (by omega), show k + b.length - 1 - k = b.length - 1 by omega, hm, Int.mul_one]
    rw [downN_succ, divO, top, if_pos (hq k), subO_addR]
    refine divO_mul hb hm hq k _ _ (by omega) (by rw [len_addR]; omega) (by rw [List.length_set]; exact hF) (fun t ht => ?_) (fun t ht => ?_)
    · rw [addR_get _ _ _ _ _ (by omega), hc t (by omega), sm]
      by_cases hkt : k ≤ t
      · rw [if_pos ⟨hkt, by omega⟩]
        unfold cof
        rw [if_pos hkt, Int.neg_mul]
        omega
      · rw [if_neg (fun z => hkt z.1)]
        have : cof b t k = 0 := by unfold cof; rw [if_neg hkt]
        rw [this, Int.mul_zero, Int.add_zero]
    · rw [getD_set]
      by_cases e : k = t
      · subst e
        rw [if_pos ⟨rfl, by omega⟩]
      · rw [if_neg (fun z => e z.1)]
        exact h t (by omega)
theorem dividedO_mul {q b : List Int} (hb : 0 < b.length) (hb2 : b.length < 1000) (hl : (mulL q b).length < 1000) (hbd : BdL 1000 b) (hm : b.getD (b.length - 1) 0 = 1) (hq : BdL 1000 q) : dividedO (mulL q b) b = some q := by
  have hlen := len_mulL hb q
  have hall : b.all (fun x => decide (Bd 1000 x)) = true := List.all_eq_true.mpr fun x hx => by
    obtain ⟨i, hi, rfl⟩ := List.getElem_of_mem hx
    have := hbd i
    rw [List.getD_eq_getElem?_getD, List.getElem?_eq_getElem hi] at this
    exact decide_eq_true this
  unfold dividedO
  rw [if_pos ⟨⟨hb, hb2, hl⟩, hall⟩, hlen, show q.length + b.length - 1 + 1 - b.length = q.length by omega]
  refine divO_mul hb hm hq q.length _ _ (Nat.le_refl _) (by omega) (by rw [List.length_replicate]) (fun t _ => get_mulL b q t) (fun t ht => ?_)
  rw [List.getD_eq_getElem?_getD, List.getD_eq_getElem?_getD, List.getElem?_eq_none (by rw [List.length_replicate]; omega), List.getElem?_eq_none ht]
def evB (B : Int) : List Int → Int
  | [] => 0
  | a :: l => a + B * evB B l
def nrm : List Int → Nat
  | [] => 0
  | a :: l => a.natAbs + nrm l
theorem evB_addZ (B : Int) : ∀ a b : List Int, evB B (addZ a b) = evB B a + evB B b
  | [], b => by rw [addZ]; show _ = 0 + _; rw [Int.zero_add]
  | a :: l, [] => by rw [addZ]; show _ = _ + 0; rw [Int.add_zero]
  | a :: l, b :: m => by
    show a + b + B * evB B (addZ l m) = (a + B * evB B l) + (b + B * evB B m)
    rw [evB_addZ B l m, Int.mul_add]
    omega
theorem evB_smul (B a : Int) : ∀ b : List Int, evB B (b.map fun x => a * x) = a * evB B b
  | [] => by show (0 : Int) = a * 0; rw [Int.mul_zero]
  | b :: m => by
    show a * b + B * evB B (m.map fun x => a * x) = a * (b + B * evB B m)
    rw [evB_smul B a m, Int.mul_add, Int.mul_left_comm]
theorem evB_zeros (B : Int) : ∀ n, evB B (List.replicate n 0) = 0
  | 0 => rfl
  | n + 1 => by
    rw [List.replicate_succ]
    show 0 + B * _ = 0
    rw [evB_zeros B n, Int.mul_zero, Int.add_zero]
theorem evB_mulL (B : Int) (b : List Int) : ∀ q : List Int, evB B (mulL q b) = evB B q * evB B b
  | [] => by rw [mulL, evB_zeros]; show 0 = 0 * _; rw [Int.zero_mul]
  | a :: q => by
    rw [mulL, evB_addZ, evB_smul]
    show _ + (0 + B * evB B (mulL q b)) = (a + B * evB B q) * _
    rw [evB_mulL B b q, Int.zero_add, Int.add_mul, Int.mul_assoc]
theorem nrm_addZ : ∀ a b : List Int, nrm (addZ a b) ≤ nrm a + nrm b
  | [], b => by rw [addZ]; exact Nat.le_add_left _ _
  | a :: l, [] => by rw [addZ]; exact Nat.le_add_right _ _
  | a :: l, b :: m => by
    show (a + b).natAbs + nrm (addZ l m) ≤ (a.natAbs + nrm l) + (b.natAbs + nrm m)
    have := nrm_addZ l m
    omega
theorem nrm_smul (a : Int) : ∀ b : List Int, nrm (b.map fun x => a * x) = a.natAbs * nrm b
  | [] => rfl
  | b :: m => by
    show (a * b).natAbs + nrm (m.map fun x => a * x) = a.natAbs * (b.natAbs + nrm m)
    rw [nrm_smul a m, Int.natAbs_mul, Nat.mul_add]
theorem nrm_zeros : ∀ n, nrm (List.replicate n 0) = 0
  | 0 => rfl
  | n + 1 => by
    rw [List.replicate_succ]
    show 0 + _ = 0
    rw [nrm_zeros n]
theorem nrm_mulL (b : List Int) : ∀ q : List Int, nrm (mulL q b) ≤ nrm q * nrm b
  | [] => by rw [mulL, nrm_zeros]; exact Nat.zero_le _
  | a :: q => by
    rw [mulL]
    refine Nat.le_trans (nrm_addZ _ _) ?_
    rw [nrm_smul]
    show _ + (0 + nrm (mulL q b)) ≤ (a.natAbs + nrm q) * _
    have := nrm_mulL b q
    rw [Nat.add_mul]
    omega
theorem nrm_get : ∀ (l : List Int) (i : Nat), (l.getD i 0).natAbs ≤ nrm l
  | [], i => Nat.zero_le _
  | a :: l, 0 => Nat.le_add_right _ _
  | a :: l, i + 1 => Nat.le_trans (nrm_get l i) (Nat.le_add_left _ _)
theorem evB_inj (B : Int) : ∀ a b : List Int, a.length = b.length → (nrm a : Int) + nrm b < B → evB B a = evB B b → a = b
  | [], [], _, _, _ => rfl
  | [], _ :: _, h, _, _ => by cases h
  | _ :: _, [], h, _, _ => by cases h
  | a :: l, b :: m, h, hB, he => by
    have he : a + B * evB B l = b + B * evB B m := he
    have hB : ((a.natAbs + nrm l : Nat) : Int) + ((b.natAbs + nrm m : Nat) : Int) < B := hB
    have e1 : a - b = B * (evB B m - evB B l) := by
      rw [Int.mul_sub]
      omega
    have e2 : a - b = 0 := by
      have dv : B ∣ a - b := ⟨_, e1⟩
      exact Int.eq_zero_of_dvd_of_natAbs_lt_natAbs dv (by omega)
    have e3 : evB B m - evB B l = 0 := by
      rw [e2] at e1
      rcases Int.mul_eq_zero.mp e1.symm with z | z
      · omega
      · exact z
    rw [show a = b by omega, evB_inj B l m (Nat.succ.inj h) (by omega) (by omega)]
theorem get_lessP {a b : List Int} (h : b.length ≤ a.length) (t : Nat) : (lessP a b).getD t 0 = a.getD t 0 - b.getD t 0 := by
  have e : ∀ m : List Int, subL b m = addR b (-1) 0 b.length m := fun m => by
    unfold subL addR
    congr 1
    funext l k
    rw [Nat.zero_add, Int.neg_mul, Int.one_mul, ← Int.sub_eq_add_neg]
  unfold lessP
  rw [e, show b.length - a.length = 0 by omega, List.replicate_zero, List.append_nil, addR_get _ _ _ _ _ (by omega)]
  by_cases ht : t < b.length
  · rw [if_pos (by omega), Nat.sub_zero, Int.neg_mul, Int.one_mul, ← Int.sub_eq_add_neg]
  · rw [if_neg (by omega)]
    have : b.getD t 0 = 0 := by rw [List.getD_eq_getElem?_getD, List.getElem?_eq_none (by omega)]; rfl
    rw [this, Int.sub_zero]
theorem lessP_addZ {a b : List Int} (h : b.length ≤ a.length) : lessP a b = addZ a (b.map fun x => -1 * x) := by
  refine List.ext_getElem? fun i => ?_
  have l1 : (lessP a b).length = a.length := by rw [len_less]; omega
  have l2 : (addZ a (b.map fun x => -1 * x)).length = a.length := by rw [len_addZ, List.length_map]; omega
  have e : (lessP a b).getD i 0 = (addZ a (b.map fun x => -1 * x)).getD i 0 := by
    rw [get_lessP h, get_addZ, get_smul, Int.neg_mul, Int.one_mul, ← Int.sub_eq_add_neg]
  rw [List.getD_eq_getElem?_getD, List.getD_eq_getElem?_getD] at e
  by_cases hi : i < a.length
  · rw [List.getElem?_eq_getElem (by omega), List.getElem?_eq_getElem (by omega)] at e ⊢
    exact congrArg some e
  · rw [List.getElem?_eq_none (by omega), List.getElem?_eq_none (by omega)]
theorem len_chainE : ∀ i, 0 < i → (chainS i).1.length = i ∧ (chainS i).2.length = i + 1
  | 1, _ => ⟨rfl, rfl⟩
  | i + 2, _ => by
    obtain ⟨h1, h2⟩ := len_chainE (i + 1) (by omega)
    refine ⟨h2, ?_⟩
    show (lessP (0 :: (chainS (i + 1)).2) (chainS (i + 1)).1).length = _
    rw [len_less, List.length_cons, h1, h2]
    omega
theorem len_chain2 (i : Nat) : (chainS i).2.length = i + 1 := by
  cases i with
  | zero => rfl
  | succ i => exact (len_chainE (i + 1) (by omega)).2
theorem chain_addZ (i : Nat) : (chainS (i + 1)).2 = addZ (0 :: (chainS i).2) ((chainS i).1.map fun x => -1 * x) := by
  show lessP _ _ = _
  rw [lessP_addZ]
  rw [List.length_cons, len_chain2]
  cases i with
  | zero => decide
  | succ i => rw [(len_chainE (i + 1) (by omega)).1]; omega
def nSf (B : Int) : Nat → Int → Int → Int × Int
  | 0, a, b => (a, b)
  | k + 1, a, b => nSf B k b (B * b - a)
theorem nSf_succ (B : Int) : ∀ (k : Nat) (a b : Int), nSf B (k + 1) a b = ((nSf B k a b).2, B * (nSf B k a b).2 - (nSf B k a b).1)
  | 0, _, _ => rfl
  | k + 1, a, b => by rw [nSf, nSf_succ B k]; rfl
theorem ev_chain (B : Int) : ∀ k, nSf B k 0 1 = (evB B (chainS k).1, evB B (chainS k).2)
  | 0 => by
    show ((0 : Int), (1 : Int)) = (0 + B * 0, 1 + B * 0)
    rw [Int.mul_zero]; rfl
  | k + 1 => by
    rw [nSf_succ, ev_chain B k, chain_addZ, evB_addZ, evB_smul]
    show (_, _) = (evB B (chainS k).2, (0 + B * evB B (chainS k).2) + _)
    rw [Int.zero_add, Int.neg_mul, Int.one_mul, ← Int.sub_eq_add_neg]
theorem nrm_chain : ∀ k, nrm (chainS k).1 ≤ 2 ^ k ∧ nrm (chainS k).2 ≤ 2 ^ k
  | 0 => ⟨by decide, by decide⟩
  | k + 1 => by
    obtain ⟨h1, h2⟩ := nrm_chain k
    have e : 2 ^ (k + 1) = 2 ^ k + 2 ^ k := by rw [Nat.pow_succ]; omega
    refine ⟨by show nrm (chainS k).2 ≤ _; omega, ?_⟩
    rw [chain_addZ]
    refine Nat.le_trans (nrm_addZ _ _) ?_
    rw [nrm_smul, e]
    show (0 + nrm (chainS k).2) + 1 * nrm (chainS k).1 ≤ _
    omega
theorem whole_addZ {n : Nat} (h : ¬ n % 2 = 0) (h3 : 3 ≤ n) : wholeP n = addZ (chainS ((n - 1) / 2)).2 (chainS ((n - 3) / 2)).2 := by
  unfold wholeP
  rw [if_neg h, lessP_addZ (by rw [List.length_map, len_chain2, len_chain2]; omega), List.map_map]
  congr 1
  rw [show ((fun x : Int => -1 * x) ∘ fun x => -x) = id by
    funext x
    show -1 * -x = x
    omega, List.map_id]
def wVal (B : Int) (n : Nat) : Int := if n % 2 = 0 then (nSf B (n / 2 - 1) 0 1).2 else (nSf B ((n - 1) / 2) 0 1).2 + (nSf B ((n - 3) / 2) 0 1).2
theorem ev_whole (B : Int) {n : Nat} (h3 : 3 ≤ n) : evB B (wholeP n) = wVal B n := by
  unfold wVal
  by_cases h : n % 2 = 0
  · rw [if_pos h, ev_chain]
    unfold wholeP
    rw [if_pos h]
  · rw [if_neg h, whole_addZ h h3, evB_addZ, ev_chain, ev_chain]
theorem len_wholeE {n : Nat} (h3 : 3 ≤ n) : (wholeP n).length = if n % 2 = 0 then n / 2 else (n + 1) / 2 := by
  by_cases h : n % 2 = 0
  · rw [if_pos h]
    unfold wholeP
    rw [if_pos h, len_chain2]
    omega
  · rw [if_neg h, whole_addZ h h3, len_addZ, len_chain2, len_chain2]
    omega
theorem nrm_whole {n : Nat} (h3 : 3 ≤ n) (hn : n ≤ 400) : nrm (wholeP n) ≤ 2 ^ 201 := by
  by_cases h : n % 2 = 0
  · unfold wholeP
    rw [if_pos h]
    exact Nat.le_trans (nrm_chain _).2 (Nat.pow_le_pow_right (by decide) (by omega))
  · rw [whole_addZ h h3]
    refine Nat.le_trans (nrm_addZ _ _) ?_
    have h1 := Nat.le_trans (nrm_chain ((n - 1) / 2)).2 (Nat.pow_le_pow_right (show 0 < 2 by decide) (show (n - 1) / 2 ≤ 200 by omega))
    have h2 := Nat.le_trans (nrm_chain ((n - 3) / 2)).2 (Nat.pow_le_pow_right (show 0 < 2 by decide) (show (n - 3) / 2 ≤ 200 by omega))
    have e : 2 ^ 201 = 2 ^ 200 + 2 ^ 200 := by decide
    omega
end WK
namespace WK
open PySem L2 FL
def prodL (n : Nat) : List Nat → List Int
  | [] => pN n
  | d :: ks => if n % d = 0 then mulL (prodL n ks) (pN d) else prodL n ks
def prodV (B : Int) (n : Nat) : List Nat → Int
  | [] => evB B (pN n)
  | d :: ks => if n % d = 0 then prodV B n ks * evB B (pN d) else prodV B n ks
def prodH (n : Nat) : List Nat → Nat
  | [] => nrm (pN n)
  | d :: ks => if n % d = 0 then prodH n ks * nrm (pN d) else prodH n ks
def prodE (n : Nat) : List Nat → Nat
  | [] => (pN n).length
  | d :: ks => if n % d = 0 then prodE n ks + (pN d).length - 1 else prodE n ks
def usedN (n : Nat) : Bool := decide (3 ≤ n) && decide (n ≤ 360) && (decide (n % 2 = 0) || decide (n ≤ 180))
def b0 : Int := Int.ofNat (2 ^ 1000)
def chkP (n : Nat) : Bool := decide (2 ≤ (pN n).length) && decide ((pN n).length < 100) && decide ((pN n).getD ((pN n).length - 1) 0 = 1) && Nat.blt (nrm (pN n)) (2 ^ 79) && decide (wVal b0 n = prodV b0 n (List.range' 3 (n - 3))) && Nat.beq (prodE n (List.range' 3 (n - 3))) (if n % 2 = 0 then n / 2 else (n + 1) / 2) && Nat.blt (prodH n (List.range' 3 (n - 3))) (2 ^ 700)
def chkB (b : Nat) : Bool := (List.range' b 30).all fun n => !usedN n || chkP n
theorem chkB_0 : chkB 0 = true := by decide +kernel
theorem chkB_30 : chkB 30 = true := by decide +kernel
theorem chkB_60 : chkB 60 = true := by decide +kernel
theorem chkB_90 : chkB 90 = true := by decide +kernel
theorem chkB_120 : chkB 120 = true := by decide +kernel
theorem chkB_150 : chkB 150 = true := by decide +kernel
theorem chkB_180 : chkB 180 = true := by decide +kernel
theorem chkB_210 : chkB 210 = true := by decide +kernel
theorem chkB_240 : chkB 240 = true := by decide +kernel
theorem chkB_270 : chkB 270 = true := by decide +kernel
theorem chkB_300 : chkB 300 = true := by decide +kernel
theorem chkB_330 : chkB 330 = true := by decide +kernel
theorem chkB_360 : chkB 360 = true := by decide +kernel
theorem chkP_of {n : Nat} (h : usedN n = true) : chkP n = true := by
  have hB : ∀ b, chkB b = true → b ≤ n → n < b + 30 → chkP n = true := fun b hb h1 h2 => by
    have := (List.all_eq_true.mp hb) n (List.mem_range'.mpr ⟨n - b, by omega, by omega⟩)
    rw [h] at this
    simpa using this
  have h3 : n ≤ 360 := by
    unfold usedN at h
    simp only [Bool.and_eq_true, decide_eq_true_eq] at h
    exact h.1.2
  by_cases h0 : n < 30
  · exact hB 0 chkB_0 (by omega) (by omega)
  by_cases h1 : n < 60
  · exact hB 30 chkB_30 (by omega) (by omega)
  by_cases h2 : n < 90
  · exact hB 60 chkB_60 (by omega) (by omega)
  by_cases h4 : n < 120
  · exact hB 90 chkB_90 (by omega) (by omega)
  by_cases h5 : n < 150
  · exact hB 120 chkB_120 (by omega) (by omega)
  by_cases h6 : n < 180
  · exact hB 150 chkB_150 (by omega) (by omega)
  by_cases h7 : n < 210
  · exact hB 180 chkB_180 (by omega) (by omega)
  by_cases h8 : n < 240
  · exact hB 210 chkB_210 (by omega) (by omega)
  by_cases h9 : n < 270
  · exact hB 240 chkB_240 (by omega) (by omega)
  by_cases h10 : n < 300
  · exact hB 270 chkB_270 (by omega) (by omega)
  by_cases h11 : n < 330
  · exact hB 300 chkB_300 (by omega) (by omega)
  by_cases h12 : n < 360
  · exact hB 330 chkB_330 (by omega) (by omega)
  exact hB 360 chkB_360 (by omega) (by omega)
structure PGood (n : Nat) : Prop where
  l2 : 2 ≤ (pN n).length
  l3 : (pN n).length < 100
  mon : (pN n).getD ((pN n).length - 1) 0 = 1
  bd : nrm (pN n) < 2 ^ 79
  wv : wVal b0 n = prodV b0 n (List.range' 3 (n - 3))
  we : prodE n (List.range' 3 (n - 3)) = if n % 2 = 0 then n / 2 else (n + 1) / 2
  wh : prodH n (List.range' 3 (n - 3)) < 2 ^ 700
theorem pgood {n : Nat} (h : usedN n = true) : PGood n := by
  have c := chkP_of h
  unfold chkP at c
  simp only [Bool.and_eq_true] at c
  obtain ⟨⟨⟨⟨⟨⟨c1, c2⟩, c3⟩, c4⟩, c5⟩, c6⟩, c7⟩ := c
  exact ⟨of_decide_eq_true c1, of_decide_eq_true c2, of_decide_eq_true c3, Nat.le_of_ble_eq_true c4, of_decide_eq_true c5, Nat.eq_of_beq_eq_true c6, Nat.le_of_ble_eq_true c7⟩
theorem used_iff {n : Nat} : usedN n = true ↔ 3 ≤ n ∧ n ≤ 360 ∧ (n % 2 = 0 ∨ n ≤ 180) := by
  unfold usedN
  simp only [Bool.and_eq_true, Bool.or_eq_true, decide_eq_true_eq]
  exact and_assoc
theorem used_div {n d : Nat} (h : usedN n = true) (h3 : 3 ≤ d) (hd : d < n) (hm : n % d = 0) : usedN d = true := by
  obtain ⟨a1, a2, a3⟩ := used_iff.mp h
  obtain ⟨k, rfl⟩ := Nat.dvd_of_mod_eq_zero hm
  have k2 : 2 ≤ k := by
    rcases k with _ | _ | k
    · omega
    · omega
    · omega
  have := Nat.mul_le_mul_left d k2
  exact used_iff.mpr ⟨h3, by omega, .inr (by omega)⟩
theorem one_nrm {n : Nat} (h : PGood n) : 1 ≤ nrm (pN n) := by
  have := nrm_get (pN n) ((pN n).length - 1)
  rw [h.mon] at this
  exact this
theorem ev_prodL (B : Int) (n : Nat) : ∀ ks, evB B (prodL n ks) = prodV B n ks
  | [] => rfl
  | d :: ks => by
    rw [prodL, prodV]
    split
    · rw [evB_mulL, ev_prodL B n ks]
    · exact ev_prodL B n ks
theorem nrm_prodL (n : Nat) : ∀ ks, nrm (prodL n ks) ≤ prodH n ks
  | [] => Nat.le_refl _
  | d :: ks => by
    rw [prodL, prodH]
    split
    · exact Nat.le_trans (nrm_mulL _ _) (Nat.mul_le_mul_right _ (nrm_prodL n ks))
    · exact nrm_prodL n ks
theorem len_prodL (n : Nat) : ∀ ks : List Nat, (∀ d ∈ ks, n % d = 0 → PGood d) → (prodL n ks).length = prodE n ks
  | [], _ => rfl
  | d :: ks, h => by
    rw [prodL, prodE]
    have ih := len_prodL n ks fun x hx => h x (List.mem_cons_of_mem _ hx)
    split
    · rename_i hd
      rw [len_mulL (by have := (h d List.mem_cons_self hd).l2; omega), ih]
    · exact ih
theorem whole_prod {n : Nat} (h : usedN n = true) : wholeP n = prodL n (List.range' 3 (n - 3)) := by
  obtain ⟨a1, a2, a3⟩ := used_iff.mp h
  have g := pgood h
  have hg : ∀ d ∈ List.range' 3 (n - 3), n % d = 0 → PGood d := fun d hd hm => by
    obtain ⟨i, hi, rfl⟩ := List.mem_range'.mp hd
    exact pgood (used_div h (by omega) (by omega) hm)
  refine evB_inj b0 _ _ ?_ ?_ ?_
  · rw [len_wholeE a1, len_prodL n _ hg, g.we]
  · have h1 := nrm_whole a1 (by omega)
    have h2 := Nat.lt_of_le_of_lt (nrm_prodL n (List.range' 3 (n - 3))) g.wh
    have e : (2 : Nat) ^ 201 + 2 ^ 700 < 2 ^ 1000 := by decide +kernel
    have e2 : b0 = ((2 ^ 1000 : Nat) : Int) := rfl
    rw [e2]
    generalize (2 : Nat) ^ 201 = x at *
    generalize (2 : Nat) ^ 700 = y at *
    generalize (2 : Nat) ^ 1000 = z at *
    omega
  · rw [ev_whole b0 a1, ev_prodL, g.wv]
theorem prodL_filter (n : Nat) (q : Nat → Bool) : ∀ ks : List Nat, (∀ d ∈ ks, n % d = 0 → q d = true) → prodL n (ks.filter q) = prodL n ks ∧ prodH n (ks.filter q) = prodH n ks
  | [], _ => ⟨rfl, rfl⟩
  | d :: ks, h => by
    obtain ⟨i1, i2⟩ := prodL_filter n q ks fun x hx => h x (List.mem_cons_of_mem _ hx)
    by_cases hd : n % d = 0
    · rw [List.filter_cons_of_pos (h d List.mem_cons_self hd), prodL, prodL, prodH, prodH, i1, i2]
      exact ⟨rfl, rfl⟩
    · cases hq : q d with
      | true =>
        rw [List.filter_cons_of_pos hq, prodL, prodL, prodH, prodH, i1, i2]
        exact ⟨rfl, rfl⟩
      | false =>
        rw [List.filter_cons_of_neg (by rw [hq]; exact Bool.false_ne_true), prodL, prodH, if_neg hd, if_neg hd]
        exact ⟨i1, i2⟩
theorem redO_prod (n : Nat) (made : List (Nat × List Int)) : ∀ ks : List Nat, (∀ d ∈ ks, 0 < d ∧ (n % d = 0 → made.lookup d = some (pN d) ∧ PGood d)) → (prodL n ks).length < 1000 → prodH n ks < 2 ^ 1000 → redO n made ks (prodL n ks) = some (pN n)
  | [], _, _, _ => rfl
  | d :: ks, h, hl, hh => by
    obtain ⟨d0, hd⟩ := h d List.mem_cons_self
    have ht := fun x hx => h x (List.mem_cons_of_mem d hx)
    rw [redO, if_pos d0]
    rw [prodL] at hl ⊢
    rw [prodH] at hh
    by_cases hm : n % d = 0
    · obtain ⟨hk, g⟩ := hd hm
      rw [if_pos hm] at hl hh
      rw [if_pos hm, if_pos hm, hk, Option.bind_some]
      have g2 := g.l2
      have g3 := g.l3
      have hl1 := len_mulL (b := pN d) (by omega) (prodL n ks)
      have hh2 : prodH n ks < 2 ^ 1000 := Nat.lt_of_le_of_lt (Nat.le_mul_of_pos_right _ (one_nrm g)) hh
      have bq : BdL 1000 (prodL n ks) := fun i => Nat.lt_of_le_of_lt (Nat.le_trans (nrm_get _ i) (nrm_prodL n ks)) hh2
      have bb : BdL 1000 (pN d) := fun i => Nat.lt_of_le_of_lt (nrm_get _ i) (Nat.lt_of_lt_of_le g.bd (Nat.pow_le_pow_right (by decide) (by decide)))
      rw [dividedO_mul (by omega) (by omega) hl bb g.mon bq, Option.bind_some]
      exact redO_prod n made ks ht (by omega) hh2
    · rw [if_neg hm] at hl hh
      rw [if_neg hm, if_neg hm]
      exact redO_prod n made ks ht hl hh
theorem lookup_map (f : Nat → List Int) (d : Nat) : ∀ l : List Nat, (l.map fun x => (x, f x)).lookup d = if d ∈ l then some (f d) else none
  | [] => by rw [if_neg (fun z => nomatch z)]; rfl
  | x :: l => by
    rw [List.map_cons, List.lookup_cons]
    by_cases e : d = x
    · subst e
      rw [if_pos List.mem_cons_self]
      simp
    · have eb : (d == x) = false := beq_eq_false_iff_ne.mpr e
      rw [eb, lookup_map f d l]
      simp only [List.mem_cons, e, false_or]
def mkN (M s : Nat) : List (Nat × List Int) := ((List.range' 3 (s - 3)).filter fun d => decide (2 * M % d = 0)).map fun d => (d, pN d)
theorem mkN_succ (M s : Nat) (h3 : 3 ≤ s) : mkN M (s + 1) = mkN M s ++ (if 2 * M % s = 0 then [(s, pN s)] else []) := by
  unfold mkN
  have e : List.range' 3 (s + 1 - 3) = List.range' 3 (s - 3) ++ [s] := by
    rw [show s + 1 - 3 = s - 3 + 1 by omega, List.range'_1_concat, show 3 + (s - 3) = s by omega]
  rw [e, List.filter_append, List.map_append]
  congr 1
  by_cases h : 2 * M % s = 0
  · rw [if_pos h, List.filter_cons_of_pos (p := fun d => decide (2 * M % d = 0)) (decide_eq_true h)]; rfl
  · rw [if_neg h, List.filter_cons_of_neg (p := fun d => decide (2 * M % d = 0)) (by rw [decide_eq_false h]; exact Bool.false_ne_true)]; rfl
theorem madeO_all {M : Nat} (h1 : 3 ≤ M) (h2 : M ≤ 180) : ∀ t s, s + t = 2 * M + 1 → 3 ≤ s → madeO ((List.range' s t).filter fun d => decide (2 * M % d = 0)) (mkN M s) = some (mkN M (2 * M + 1))
  | 0, s, h, _ => by rw [← h]; rfl
  | t + 1, s, h, h3 => by
    have ih := madeO_all h1 h2 t (s + 1) (by omega) (by omega)
    rw [mkN_succ M s h3] at ih
    rw [List.range'_succ]
    by_cases hs : 2 * M % s = 0
    · rw [if_pos hs] at ih
      rw [List.filter_cons_of_pos (p := fun d => decide (2 * M % d = 0)) (decide_eq_true hs), madeO]
      have u2 : usedN (2 * M) = true := used_iff.mpr ⟨by omega, by omega, .inl (by omega)⟩
      have us : usedN s = true := by
        by_cases e : s = 2 * M
        · rw [e]; exact u2
        · exact used_div u2 h3 (by omega) hs
      have g := pgood us
      have hkeys : (mkN M s).map (·.1) = (List.range' 3 (s - 3)).filter fun d => decide (2 * M % d = 0) := by
        unfold mkN
        rw [List.map_map]
        exact List.map_id _
      have ml : (mkN M s).length < 1000 := by
        unfold mkN
        rw [List.length_map]
        refine Nat.lt_of_le_of_lt (List.length_filter_le _ _) ?_
        rw [List.length_range']
        omega
      have lk : (mkN M s).lookup s = none := by
        unfold mkN
        rw [lookup_map, if_neg]
        intro z
        obtain ⟨i, hi, e⟩ := List.mem_range'.mp (List.mem_filter.mp z).1
        omega
      have hdv : ∀ d ∈ List.range' 3 (s - 3), s % d = 0 → decide (2 * M % d = 0) = true := fun d _ hd => by
        obtain ⟨x, hx⟩ := Nat.dvd_of_mod_eq_zero hd
        obtain ⟨y, hy⟩ := Nat.dvd_of_mod_eq_zero hs
        refine decide_eq_true (Nat.mod_eq_zero_of_dvd ⟨x * y, ?_⟩)
        rw [hy, hx, Nat.mul_assoc]
      obtain ⟨f1, f2⟩ := prodL_filter s (fun d => decide (2 * M % d = 0)) (List.range' 3 (s - 3)) hdv
      have hw := whole_prod us
      have hr := redO_prod s (mkN M s) ((List.range' 3 (s - 3)).filter fun d => decide (2 * M % d = 0)) (fun d hd => by
        obtain ⟨i, hi, e⟩ := List.mem_range'.mp (List.mem_filter.mp hd).1
        refine ⟨by omega, fun hm => ⟨?_, pgood (used_div us (by omega) (by omega) hm)⟩⟩
        unfold mkN
        rw [lookup_map, if_pos hd]) (by
        rw [f1, ← hw]
        have := len_whole s
        omega) (by
        rw [f2]
        exact Nat.lt_of_lt_of_le g.wh (Nat.pow_le_pow_right (by decide) (by decide)))
      rw [if_pos ⟨⟨h3, by omega, ml⟩, lk⟩, hkeys, hw, ← f1, hr, Option.bind_some]
      exact ih
    · rw [if_neg hs, List.append_nil] at ih
      rw [List.filter_cons_of_neg (p := fun d => decide (2 * M % d = 0)) (by rw [decide_eq_false hs]; exact Bool.false_ne_true)]
      exact ih
theorem parts_eq (M : Nat) : partsN M = (List.range' 3 (2 * M - 2)).filter fun d => decide (2 * M % d = 0) := by
  unfold partsN
  rw [List.range'_eq_map_range, List.filter_map]
  rfl
theorem lp_all {M : Nat} (h1 : 3 ≤ M) (h2 : M ≤ 180) : lpO M = some (pN (2 * M)) := by
  unfold lpO
  rw [parts_eq]
  have e := madeO_all h1 h2 (2 * M - 2) 3 (by omega) (Nat.le_refl _)
  rw [show mkN M 3 = [] from rfl] at e
  rw [e, Option.bind_some]
  unfold mkN
  rw [lookup_map, if_pos]
  exact List.mem_filter.mpr ⟨List.mem_range'.mpr ⟨2 * M - 3, by omega, by omega⟩, decide_eq_true (Nat.mod_self _)⟩
theorem good_2M {M : Nat} (h1 : 3 ≤ M) (h2 : M ≤ 180) : PGood (2 * M) := pgood (used_iff.mpr ⟨by omega, by omega, .inl (by omega)⟩)
theorem PGood.b80 {n : Nat} (g : PGood n) : BdL 80 (pN n) := fun i => Nat.lt_of_le_of_lt (nrm_get _ i) (Nat.lt_of_lt_of_le g.bd (Nat.pow_le_pow_right (by decide) (by decide)))
theorem pr_addZ : ∀ (a b : List Int) (u : Nat → Int), pr (addZ a b) u = pr a u + pr b u
  | [], b, u => by rw [addZ]; show _ = 0 + _; rw [Int.zero_add]
  | a :: l, [], u => by rw [addZ]; show _ = _ + 0; rw [Int.add_zero]
  | a :: l, b :: m, u => by
    show (a + b) * u 0 + pr (addZ l m) _ = (a * u 0 + pr l _) + (b * u 0 + pr m _)
    rw [pr_addZ l m, Int.add_mul]
    omega
theorem pr_smulL (a : Int) : ∀ (b : List Int) (u : Nat → Int), pr (b.map fun x => a * x) u = a * pr b u
  | [], u => by show (0 : Int) = a * 0; rw [Int.mul_zero]
  | b :: m, u => by
    show a * b * u 0 + pr (m.map fun x => a * x) _ = a * (b * u 0 + pr m _)
    rw [pr_smulL a m, Int.mul_add, Int.mul_assoc]
theorem pr_mulL (b : List Int) : ∀ (q : List Int) (u : Nat → Int), pr (mulL q b) u = pr q fun i => pr b fun j => u (i + j)
  | [], u => by rw [mulL, pr_zeros]; rfl
  | a :: q, u => by
    rw [mulL, pr_addZ, pr_smulL]
    show _ + (0 * u 0 + pr (mulL q b) fun n => u (n + 1)) = a * pr b (fun j => u (0 + j)) + pr q fun i => pr b fun j => u (i + 1 + j)
    rw [pr_mulL b q, Int.zero_mul, Int.zero_add]
    congr 1
    · congr 2
      funext j
      rw [Nat.zero_add]
    · congr 1
      funext i
      congr 1
      funext j
      rw [Nat.add_right_comm]
theorem rec_zero {b : List Int} (hb : 1 ≤ b.length) (hm : b.getD (b.length - 1) 0 = 1) {u : Nat → Int} (hu : Rec b u) (i : Nat) : (pr b fun j => u (i + j)) = 0 := by
  have := hu i
  rw [pr_sm]
  obtain ⟨k, hk⟩ : ∃ k, b.length = k + 1 := ⟨b.length - 1, by omega⟩
  rw [hk, Nat.add_sub_cancel] at this hm
  rw [hk, sm, hm, Int.one_mul, this]
  omega
theorem pr_prodL {n : Nat} (g : PGood n) : ∀ (ks : List Nat) (u : Nat → Int), Rec (pN n) u → pr (prodL n ks) u = 0
  | [], u, hu => by
    have := rec_zero (by have := g.l2; omega) g.mon hu 0
    rw [prodL]
    rw [show (fun j => u (0 + j)) = u by funext j; rw [Nat.zero_add]] at this
    exact this
  | d :: ks, u, hu => by
    rw [prodL]
    split
    · rw [pr_mulL, pr_comm]
      have : (fun j => pr (prodL n ks) fun i => u (j + i)) = fun _ => (0 : Int) := by
        funext j
        exact pr_prodL g ks _ (hu.shift j)
      rw [this, pr_zeroF]
    · exact pr_prodL g ks u hu
theorem chain_zero {M : Nat} (h1 : 3 ≤ M) (h2 : M ≤ 180) {u : Nat → Int} (hu : Rec (pN (2 * M)) u) : pr (chainS (M - 1)).2 u = 0 := by
  have us : usedN (2 * M) = true := used_iff.mpr ⟨by omega, by omega, .inl (by omega)⟩
  have hw := whole_prod us
  have e : wholeP (2 * M) = (chainS (M - 1)).2 := by
    unfold wholeP
    rw [if_pos (by omega), show 2 * M / 2 - 1 = M - 1 by omega]
  rw [← e, hw]
  exact pr_prodL (pgood us) _ u hu
end WK
namespace WK
open PySem L2 FL
theorem whole_is (x : Int) : mFn 1 m__law_whole [.imm (.int x)] = some (.imm (.bool true), [.imm (.int x)]) := by
  rw [v_fn]
  unfold m__law_whole
  simp -implicitDefEqProofs only [q00,q01,q02,q03,q04,q05,q06,q07,q08,q09,q0a,q0b,q0c,q0d,q0e,q0f,q0g,q0h,q0i,q0j,q0k,q0l,q0m,q0n,q0o,q0p,q0q,q0r,q0s,q0t,q0u,q0v,q0w,q0x,q0y,q0z,q0A,q0B,q0C,q0D,q0E,q0F,q0G,q0H,q0I,q0J,q0K,q0L,q0M,q0N,q0O,q0P,q0Q,q0R,q0S,q0T,FL.toDs_imms,FL.imms_imms,q0U,q0V,q0W,q0X,q0Y,q0Z,q10q,q11,q12,q13,q14,q15,q16,q17,q18,q19,q1a,q1b,q1c,q1d,q1e,q1f,q1g,q1h,q1i,q1j,q1k,q1l,q1m,q1n,q1o,q1p,q1q,q1r,q1s,q1t,q1u,q1v,q1w,q1x,q1y,q1z,q1A,q1B,q1C,q1D,q1E,q1F,q1G,q1H,q1I,q1J,q1K,q1L,q1M,q1N,q1O,q1P,q1Q,q1R,q1S,q1T,q1U,q1V,q1W,q1X,q1Y,q1Z,q20,q21,q22,q23,q24,q25,q26,q27,q28,q29,q2a,q2bq,q2c,q2d,q2e,q2f,q2g,q2h,q2i,q2j,q2k,q2l,q2m,q2n,q2o,q2p,q2q,q2r,q2s,q2t,q2u,q2v,q2w,q2x,q2y,q2z,q2A,q2B,q2C,q2D,q2E,q2F,q2G,q2H,q2I,q2J,q2K,q2L,q2M,q2N,q2O,q2P,q2Q,q2R,q2S,q2T,q2U,q2V,q2W,q2X,q2Y,q2Z,q30,q31,q32,q33,q34,q35,q36,q37,q38,q39,q3a,q3b,q3c,q3d,q3e,q3f,q3g,q3h,q3i,FL.callD,Option.bind_some,Option.bind_none,List.getElem?_cons_zero,List.getElem?_cons_succ,List.getElem?_nil,List.set_cons_zero,List.set_cons_succ,List.length_cons,List.length_nil,List.filterMap_cons,List.filterMap_nil,decide_eq_true_eq,if_true,if_false,true_and,and_true,Nat.reduceAdd,Nat.reduceLeDiff,Nat.reduceEqDiff,↓reduceIte,Bool.false_eq_true,FL.startE,FL.backs,List.map_cons,List.map_nil,List.cons_append,List.nil_append,Nat.reduceSub,List.replicate_succ,List.replicate_zero,List.nodup_nil,List.nodup_cons,List.not_mem_nil,not_false_eq_true,and_self,reduceCtorEq,Option.map_some,Option.map_none,lenT_tab,lenT_row]
  rfl
theorem orders_at {r : Int} (h0 : 0 ≤ r) (h1 : r < 12) : ∃ M : Nat, atI [Tr.imm (.int 3), .imm (.int 4), .imm (.int 6), .imm (.int 60), .imm (.int 180), .imm (.int 179), .imm (.int 105), .imm (.int 128), .imm (.int 169), .imm (.int 90), .imm (.int 175), .imm (.int 9)] r = some (.imm (.int (M : Nat))) ∧ 3 ≤ M ∧ M ≤ 180 := by
  obtain ⟨x, g1, g2⟩ := atI_ofint (xs := ([3, 4, 6, 60, 180, 179, 105, 128, 169, 90, 175, 9] : List Nat).map fun x : Nat => Tr.imm (.int ((x : Nat) : Int))) h0 (by simpa using h1)
  rw [List.getElem?_map] at g2
  obtain ⟨w, g3, rfl⟩ := Option.map_eq_some_iff.mp g2
  have hb : ∀ z ∈ ([3, 4, 6, 60, 180, 179, 105, 128, 169, 90, 175, 9] : List Nat), 3 ≤ z ∧ z ≤ 180 := by decide
  exact ⟨w, g1, hb w (List.mem_of_getElem? g3)⟩
theorem order_one (t : Tr) (N : Int) (hN : N < 2 ^ 40) (ht : Hd t N) : ∃ t' M, mFn 2 m__law_order [t] = some (.imm (.int (M : Nat)), [t']) ∧ Hd t' (N + 2) ∧ 3 ≤ M ∧ M ≤ 180 := by
  obtain ⟨r, t1, e1, r0, r1, ht1⟩ := take_hd ht (by omega) 4 (by decide) (by decide)
  obtain ⟨x1, x2, x3, hx⟩ := ht.lst
  obtain ⟨y1, y2, y3, hy⟩ := ht1.lst
  by_cases h0 : r = 0
  · obtain ⟨q, t2, e2, q0, q1, ht2⟩ := take_hd ht1 (by omega) 10 (by decide) (by decide)
    obtain ⟨q, rfl⟩ := Int.eq_ofNat_of_zero_le q0
    obtain ⟨z1, z2, z3, rfl⟩ := ht2.lst
    subst hx hy
    refine ⟨_, 3 + q, ?_, ht2.le (by omega), by omega, by omega⟩
    have c : ((3 + q : Nat) : Int) = 3 + (q : Nat) := by omega
    rw [v_fn, c]
    unfold m__law_order
    simp -implicitDefEqProofs only [q00,q01,q02,q03,q04,q05,q06,q07,q08,q09,q0a,q0b,q0c,q0d,q0e,q0f,q0g,q0h,q0i,q0j,q0k,q0l,q0m,q0n,q0o,q0p,q0q,q0r,q0s,q0t,q0u,q0v,q0w,q0x,q0y,q0z,q0A,q0B,q0C,q0D,q0E,q0F,q0G,q0H,q0I,q0J,q0K,q0L,q0M,q0N,q0O,q0P,q0Q,q0R,q0S,q0T,FL.toDs_imms,FL.imms_imms,q0U,q0V,q0W,q0X,q0Y,q0Z,q10q,q11,q12,q13,q14,q15,q16,q17,q18,q19,q1a,q1b,q1c,q1d,q1e,q1f,q1g,q1h,q1i,q1j,q1k,q1l,q1m,q1n,q1o,q1p,q1q,q1r,q1s,q1t,q1u,q1v,q1w,q1x,q1y,q1z,q1A,q1B,q1C,q1D,q1E,q1F,q1G,q1H,q1I,q1J,q1K,q1L,q1M,q1N,q1O,q1P,q1Q,q1R,q1S,q1T,q1U,q1V,q1W,q1X,q1Y,q1Z,q20,q21,q22,q23,q24,q25,q26,q27,q28,q29,q2a,q2bq,q2c,q2d,q2e,q2f,q2g,q2h,q2i,q2j,q2k,q2l,q2m,q2n,q2o,q2p,q2q,q2r,q2s,q2t,q2u,q2v,q2w,q2x,q2y,q2z,q2A,q2B,q2C,q2D,q2E,q2F,q2G,q2H,q2I,q2J,q2K,q2L,q2M,q2N,q2O,q2P,q2Q,q2R,q2S,q2T,q2U,q2V,q2W,q2X,q2Y,q2Z,q30,q31,q32,q33,q34,q35,q36,q37,q38,q39,q3a,q3b,q3c,q3d,q3e,q3f,q3g,q3h,q3i,FL.callD,Option.bind_some,Option.bind_none,List.getElem?_cons_zero,List.getElem?_cons_succ,List.getElem?_nil,List.set_cons_zero,List.set_cons_succ,List.length_cons,List.length_nil,List.filterMap_cons,List.filterMap_nil,decide_eq_true_eq,if_true,if_false,true_and,and_true,Nat.reduceAdd,Nat.reduceLeDiff,Nat.reduceEqDiff,↓reduceIte,Bool.false_eq_true,FL.startE,FL.backs,List.map_cons,List.map_nil,List.cons_append,List.nil_append,Nat.reduceSub,List.replicate_succ,List.replicate_zero,List.nodup_nil,List.nodup_cons,List.not_mem_nil,not_false_eq_true,and_self,reduceCtorEq,Option.map_some,Option.map_none,lenT_tab,lenT_row,e1,h0,decide_true,e2]
  · by_cases h1 : r = 1
    · obtain ⟨q, t2, e2, q0, q1, ht2⟩ := take_hd ht1 (by omega) 58 (by decide) (by decide)
      obtain ⟨q, rfl⟩ := Int.eq_ofNat_of_zero_le q0
      obtain ⟨z1, z2, z3, rfl⟩ := ht2.lst
      subst hx hy
      refine ⟨_, 3 + q, ?_, ht2.le (by omega), by omega, by omega⟩
      have c : ((3 + q : Nat) : Int) = 3 + (q : Nat) := by omega
      have n0 : ¬ (1 : Int) = 0 := by decide
      rw [v_fn, c]
      unfold m__law_order
      simp -implicitDefEqProofs only [q00,q01,q02,q03,q04,q05,q06,q07,q08,q09,q0a,q0b,q0c,q0d,q0e,q0f,q0g,q0h,q0i,q0j,q0k,q0l,q0m,q0n,q0o,q0p,q0q,q0r,q0s,q0t,q0u,q0v,q0w,q0x,q0y,q0z,q0A,q0B,q0C,q0D,q0E,q0F,q0G,q0H,q0I,q0J,q0K,q0L,q0M,q0N,q0O,q0P,q0Q,q0R,q0S,q0T,FL.toDs_imms,FL.imms_imms,q0U,q0V,q0W,q0X,q0Y,q0Z,q10q,q11,q12,q13,q14,q15,q16,q17,q18,q19,q1a,q1b,q1c,q1d,q1e,q1f,q1g,q1h,q1i,q1j,q1k,q1l,q1m,q1n,q1o,q1p,q1q,q1r,q1s,q1t,q1u,q1v,q1w,q1x,q1y,q1z,q1A,q1B,q1C,q1D,q1E,q1F,q1G,q1H,q1I,q1J,q1K,q1L,q1M,q1N,q1O,q1P,q1Q,q1R,q1S,q1T,q1U,q1V,q1W,q1X,q1Y,q1Z,q20,q21,q22,q23,q24,q25,q26,q27,q28,q29,q2a,q2bq,q2c,q2d,q2e,q2f,q2g,q2h,q2i,q2j,q2k,q2l,q2m,q2n,q2o,q2p,q2q,q2r,q2s,q2t,q2u,q2v,q2w,q2x,q2y,q2z,q2A,q2B,q2C,q2D,q2E,q2F,q2G,q2H,q2I,q2J,q2K,q2L,q2M,q2N,q2O,q2P,q2Q,q2R,q2S,q2T,q2U,q2V,q2W,q2X,q2Y,q2Z,q30,q31,q32,q33,q34,q35,q36,q37,q38,q39,q3a,q3b,q3c,q3d,q3e,q3f,q3g,q3h,q3i,FL.callD,Option.bind_some,Option.bind_none,List.getElem?_cons_zero,List.getElem?_cons_succ,List.getElem?_nil,List.set_cons_zero,List.set_cons_succ,List.length_cons,List.length_nil,List.filterMap_cons,List.filterMap_nil,decide_eq_true_eq,if_true,if_false,true_and,and_true,Nat.reduceAdd,Nat.reduceLeDiff,Nat.reduceEqDiff,↓reduceIte,Bool.false_eq_true,FL.startE,FL.backs,List.map_cons,List.map_nil,List.cons_append,List.nil_append,Nat.reduceSub,List.replicate_succ,List.replicate_zero,List.nodup_nil,List.nodup_cons,List.not_mem_nil,not_false_eq_true,and_self,reduceCtorEq,Option.map_some,Option.map_none,lenT_tab,lenT_row,e1,h1,n0,decide_true,decide_false,e2]
    · by_cases h2 : r = 2
      · obtain ⟨q, t2, e2, q0, q1, ht2⟩ := take_hd ht1 (by omega) 178 (by decide) (by decide)
        obtain ⟨q, rfl⟩ := Int.eq_ofNat_of_zero_le q0
        obtain ⟨z1, z2, z3, rfl⟩ := ht2.lst
        subst hx hy
        refine ⟨_, 3 + q, ?_, ht2.le (by omega), by omega, by omega⟩
        have c : ((3 + q : Nat) : Int) = 3 + (q : Nat) := by omega
        have n0 : ¬ (2 : Int) = 0 := by decide
        have n1 : ¬ (2 : Int) = 1 := by decide
        rw [v_fn, c]
        unfold m__law_order
        simp -implicitDefEqProofs only [q00,q01,q02,q03,q04,q05,q06,q07,q08,q09,q0a,q0b,q0c,q0d,q0e,q0f,q0g,q0h,q0i,q0j,q0k,q0l,q0m,q0n,q0o,q0p,q0q,q0r,q0s,q0t,q0u,q0v,q0w,q0x,q0y,q0z,q0A,q0B,q0C,q0D,q0E,q0F,q0G,q0H,q0I,q0J,q0K,q0L,q0M,q0N,q0O,q0P,q0Q,q0R,q0S,q0T,FL.toDs_imms,FL.imms_imms,q0U,q0V,q0W,q0X,q0Y,q0Z,q10q,q11,q12,q13,q14,q15,q16,q17,q18,q19,q1a,q1b,q1c,q1d,q1e,q1f,q1g,q1h,q1i,q1j,q1k,q1l,q1m,q1n,q1o,q1p,q1q,q1r,q1s,q1t,q1u,q1v,q1w,q1x,q1y,q1z,q1A,q1B,q1C,q1D,q1E,q1F,q1G,q1H,q1I,q1J,q1K,q1L,q1M,q1N,q1O,q1P,q1Q,q1R,q1S,q1T,q1U,q1V,q1W,q1X,q1Y,q1Z,q20,q21,q22,q23,q24,q25,q26,q27,q28,q29,q2a,q2bq,q2c,q2d,q2e,q2f,q2g,q2h,q2i,q2j,q2k,q2l,q2m,q2n,q2o,q2p,q2q,q2r,q2s,q2t,q2u,q2v,q2w,q2x,q2y,q2z,q2A,q2B,q2C,q2D,q2E,q2F,q2G,q2H,q2I,q2J,q2K,q2L,q2M,q2N,q2O,q2P,q2Q,q2R,q2S,q2T,q2U,q2V,q2W,q2X,q2Y,q2Z,q30,q31,q32,q33,q34,q35,q36,q37,q38,q39,q3a,q3b,q3c,q3d,q3e,q3f,q3g,q3h,q3i,FL.callD,Option.bind_some,Option.bind_none,List.getElem?_cons_zero,List.getElem?_cons_succ,List.getElem?_nil,List.set_cons_zero,List.set_cons_succ,List.length_cons,List.length_nil,List.filterMap_cons,List.filterMap_nil,decide_eq_true_eq,if_true,if_false,true_and,and_true,Nat.reduceAdd,Nat.reduceLeDiff,Nat.reduceEqDiff,↓reduceIte,Bool.false_eq_true,FL.startE,FL.backs,List.map_cons,List.map_nil,List.cons_append,List.nil_append,Nat.reduceSub,List.replicate_succ,List.replicate_zero,List.nodup_nil,List.nodup_cons,List.not_mem_nil,not_false_eq_true,and_self,reduceCtorEq,Option.map_some,Option.map_none,lenT_tab,lenT_row,e1,h2,n0,n1,decide_true,decide_false,e2]
      · obtain ⟨q, t2, e2, q0, q1, ht2⟩ := take_hd ht1 (by omega) 12 (by decide) (by decide)
        obtain ⟨M, e3, m1, m2⟩ := orders_at q0 q1
        obtain ⟨z1, z2, z3, rfl⟩ := ht2.lst
        subst hx hy
        refine ⟨_, M, ?_, ht2.le (by omega), m1, m2⟩
        rw [v_fn]
        unfold m__law_order
        simp -implicitDefEqProofs only [q00,q01,q02,q03,q04,q05,q06,q07,q08,q09,q0a,q0b,q0c,q0d,q0e,q0f,q0g,q0h,q0i,q0j,q0k,q0l,q0m,q0n,q0o,q0p,q0q,q0r,q0s,q0t,q0u,q0v,q0w,q0x,q0y,q0z,q0A,q0B,q0C,q0D,q0E,q0F,q0G,q0H,q0I,q0J,q0K,q0L,q0M,q0N,q0O,q0P,q0Q,q0R,q0S,q0T,FL.toDs_imms,FL.imms_imms,q0U,q0V,q0W,q0X,q0Y,q0Z,q10q,q11,q12,q13,q14,q15,q16,q17,q18,q19,q1a,q1b,q1c,q1d,q1e,q1f,q1g,q1h,q1i,q1j,q1k,q1l,q1m,q1n,q1o,q1p,q1q,q1r,q1s,q1t,q1u,q1v,q1w,q1x,q1y,q1z,q1A,q1B,q1C,q1D,q1E,q1F,q1G,q1H,q1I,q1J,q1K,q1L,q1M,q1N,q1O,q1P,q1Q,q1R,q1S,q1T,q1U,q1V,q1W,q1X,q1Y,q1Z,q20,q21,q22,q23,q24,q25,q26,q27,q28,q29,q2a,q2bq,q2c,q2d,q2e,q2f,q2g,q2h,q2i,q2j,q2k,q2l,q2m,q2n,q2o,q2p,q2q,q2r,q2s,q2t,q2u,q2v,q2w,q2x,q2y,q2z,q2A,q2B,q2C,q2D,q2E,q2F,q2G,q2H,q2I,q2J,q2K,q2L,q2M,q2N,q2O,q2P,q2Q,q2R,q2S,q2T,q2U,q2V,q2W,q2X,q2Y,q2Z,q30,q31,q32,q33,q34,q35,q36,q37,q38,q39,q3a,q3b,q3c,q3d,q3e,q3f,q3g,q3h,q3i,FL.callD,Option.bind_some,Option.bind_none,List.getElem?_cons_zero,List.getElem?_cons_succ,List.getElem?_nil,List.set_cons_zero,List.set_cons_succ,List.length_cons,List.length_nil,List.filterMap_cons,List.filterMap_nil,decide_eq_true_eq,if_true,if_false,true_and,and_true,Nat.reduceAdd,Nat.reduceLeDiff,Nat.reduceEqDiff,↓reduceIte,Bool.false_eq_true,FL.startE,FL.backs,List.map_cons,List.map_nil,List.cons_append,List.nil_append,Nat.reduceSub,List.replicate_succ,List.replicate_zero,List.nodup_nil,List.nodup_cons,List.not_mem_nil,not_false_eq_true,and_self,reduceCtorEq,Option.map_some,Option.map_none,lenT_tab,lenT_row,e1,h0,h1,h2,decide_false,e2,e3]
def restF (p : List Int) (d : Nat) : Nat → List Int → List Int
  | 0, l => l
  | n + 1, l => restF p d n (addR p (-(l.getD (d + n) 0)) n d (l.take (d + n)))
theorem len_restF (p : List Int) (d : Nat) : ∀ (n : Nat) (l : List Int), l.length = d + n → (restF p d n l).length = d
  | 0, l, h => h
  | n + 1, l, h => by rw [restF]; exact len_restF p d n _ (by rw [len_addR, List.length_take]; omega)
theorem pr_restF {p : List Int} {u : Nat → Int} (hu : Rec p u) : ∀ (n : Nat) (l : List Int), l.length = p.length - 1 + n → pr (restF p (p.length - 1) n l) u = pr l u
  | 0, _, _ => rfl
  | n + 1, l, h => by
    have lt : (l.take (p.length - 1 + n)).length = p.length - 1 + n := by rw [List.length_take]; omega
    have la := len_addR p (-(l.getD (p.length - 1 + n) 0)) n (p.length - 1) (l.take (p.length - 1 + n))
    rw [restF, pr_restF hu n _ (by rw [la, lt])]
    have e1 := pr_addR p (-(l.getD (p.length - 1 + n) 0)) n (p.length - 1 + n) (l.take (p.length - 1 + n)) u (by omega) (p.length - 1) (by omega)
    rw [List.take_of_length_le (by rw [la, lt]; exact Nat.le_refl _), List.take_take, Nat.min_self] at e1
    rw [e1]
    have e2 := pr_take_succ l (p.length - 1 + n) u (by omega)
    rw [List.take_of_length_le (by omega)] at e2
    rw [e2, Nat.add_comm (p.length - 1) n, hu n, Int.neg_mul, Int.mul_neg]
theorem rest_inner (D : PyData) (p l : List Int) (n : Nat) {N : Nat} (last : Int) (h1 : 1 ≤ p.length) (hl : l.length = p.length - 1 + n) (hp : BdL 80 p) (hb : Bd N last) (hN : N < 700000) (x y : Option Tr) :
    ∃ x' y', forD (mName 4) B__law_rest_1 ((List.range (p.length - 1)).map iE) [.val (.imm D), .val (.imm (tI p)), .val (lT l), .val (.imm (.int last)), ov x, ov y] = some (.nx [.val (.imm D), .val (.imm (tI p)), .val (lT (addR p (-last) n (p.length - 1) l)), .val (.imm (.int last)), ov x', ov y']) := by
  obtain ⟨E', e, x', y', rfl⟩ := forD_inv (g := mName 4) (ms := B__law_rest_1)
    (fun i E => ∃ (x y : Option Tr), E = [.val (.imm D), .val (.imm (tI p)), .val (lT (addR p (-last) n i l)), .val (.imm (.int last)), ov x, ov y]) ((List.range (p.length - 1)).map iE)
    (fun i d E hi ⟨x, y, hE⟩ => by
      have hi2 : i < p.length - 1 := by
        have := (List.getElem?_eq_some_iff.mp hi).1
        simpa using this
      have hd : d = .int (i : Nat) := by
        rw [List.getElem?_map, List.getElem?_range hi2] at hi
        cases hi
        rfl
      subst hd
      have la := len_addR p (-last) n i l
      have g1 := fIx_T (l := addR p (-last) n i l) (k := n + i) (by rw [la]; omega)
      have g2 := fIx_D (l := p) (k := i) (by omega)
      have m1 := hb.fmul (hp i) (by omega)
      have s1 := set_T (l := addR p (-last) n i l) (k := n + i) (v := (addR p (-last) n i l).getD (n + i) 0 - last * p.getD i 0) (by rw [la]; omega)
      have es : (addR p (-last) n i l).set (n + i) ((addR p (-last) n i l).getD (n + i) 0 - last * p.getD i 0) = addR p (-last) n (i + 1) l := by
        rw [addR_succ, Int.neg_mul, ← Int.sub_eq_add_neg]
      rw [es] at s1
      have l1 := len_T (addR p (-last) n i l)
      rw [la, hl] at l1
      have l2 := len_I p
      have ce : ((n + i : Nat) : Int) = ((p.length - 1 + n : Nat) : Int) - (p.length : Nat) + 1 + (i : Nat) := by omega
      rw [ce] at g1 s1
      refine ⟨[.val (.imm D), .val (.imm (tI p)), .val (lT (addR p (-last) n i l)), .val (.imm (.int last)), .val (.imm (.int (i : Nat))), ov y], [.val (.imm D), .val (.imm (tI p)), .val (lT (addR p (-last) n (i + 1) l)), .val (.imm (.int last)), ov (some (.imm (.int (i : Nat)))), ov (some (.imm (.int (((p.length - 1 + n : Nat) : Int) - (p.length : Nat) + 1 + (i : Nat)))))], ?_, .inl ?_, some (.imm (.int (i : Nat))), _, rfl⟩
      · rw [hE]
        unfold lT
        simp -implicitDefEqProofs only [q00,q01,q02,q03,q04,q05,q06,q07,q08,q09,q0a,q0b,q0c,q0d,q0e,q0f,q0g,q0h,q0i,q0j,q0k,q0l,q0m,q0n,q0o,q0p,q0q,q0r,q0s,q0t,q0u,q0v,q0w,q0x,q0y,q0z,q0A,q0B,q0C,q0D,q0E,q0F,q0G,q0H,q0I,q0J,q0K,q0L,q0M,q0N,q0O,q0P,q0Q,q0R,q0S,q0T,FL.toDs_imms,FL.imms_imms,q0U,q0V,q0W,q0X,q0Y,q0Z,q10q,q11,q12,q13,q14,q15,q16,q17,q18,q19,q1a,q1b,q1c,q1d,q1e,q1f,q1g,q1h,q1i,q1j,q1k,q1l,q1m,q1n,q1o,q1p,q1q,q1r,q1s,q1t,q1u,q1v,q1w,q1x,q1y,q1z,q1A,q1B,q1C,q1D,q1E,q1F,q1G,q1H,q1I,q1J,q1K,q1L,q1M,q1N,q1O,q1P,q1Q,q1R,q1S,q1T,q1U,q1V,q1W,q1X,q1Y,q1Z,q20,q21,q22,q23,q24,q25,q26,q27,q28,q29,q2a,q2bq,q2c,q2d,q2e,q2f,q2g,q2h,q2i,q2j,q2k,q2l,q2m,q2n,q2o,q2p,q2q,q2r,q2s,q2t,q2u,q2v,q2w,q2x,q2y,q2z,q2A,q2B,q2C,q2D,q2E,q2F,q2G,q2H,q2I,q2J,q2K,q2L,q2M,q2N,q2O,q2P,q2Q,q2R,q2S,q2T,q2U,q2V,q2W,q2X,q2Y,q2Z,q30,q31,q32,q33,q34,q35,q36,q37,q38,q39,q3a,q3b,q3c,q3d,q3e,q3f,q3g,q3h,q3i,FL.callD,Option.bind_some,Option.bind_none,List.getElem?_cons_zero,List.getElem?_cons_succ,List.getElem?_nil,List.set_cons_zero,List.set_cons_succ,List.length_cons,List.length_nil,List.filterMap_cons,List.filterMap_nil,decide_eq_true_eq,if_true,if_false,true_and,and_true,Nat.reduceAdd,Nat.reduceLeDiff,Nat.reduceEqDiff,↓reduceIte,Bool.false_eq_true,FL.startE,FL.backs,List.map_cons,List.map_nil,List.cons_append,List.nil_append,Nat.reduceSub,List.replicate_succ,List.replicate_zero,List.nodup_nil,List.nodup_cons,List.not_mem_nil,not_false_eq_true,and_self,reduceCtorEq,Option.map_some,Option.map_none,lenT_tab,lenT_row]
      · unfold B__law_rest_1
        generalize (addR p (-last) n i l).getD (n + i) 0 = v at *
        generalize addR p (-last) n i l = A1 at *
        generalize addR p (-last) n (i + 1) l = A2 at *
        unfold lT tI at *
        simp -implicitDefEqProofs only [q00,q01,q02,q03,q04,q05,q06,q07,q08,q09,q0a,q0b,q0c,q0d,q0e,q0f,q0g,q0h,q0i,q0j,q0k,q0l,q0m,q0n,q0o,q0p,q0q,q0r,q0s,q0t,q0u,q0v,q0w,q0x,q0y,q0z,q0A,q0B,q0C,q0D,q0E,q0F,q0G,q0H,q0I,q0J,q0K,q0L,q0M,q0N,q0O,q0P,q0Q,q0R,q0S,q0T,FL.toDs_imms,FL.imms_imms,q0U,q0V,q0W,q0X,q0Y,q0Z,q10q,q11,q12,q13,q14,q15,q16,q17,q18,q19,q1a,q1b,q1c,q1d,q1e,q1f,q1g,q1h,q1i,q1j,q1k,q1l,q1m,q1n,q1o,q1p,q1q,q1r,q1s,q1t,q1u,q1v,q1w,q1x,q1y,q1z,q1A,q1B,q1C,q1D,q1E,q1F,q1G,q1H,q1I,q1J,q1K,q1L,q1M,q1N,q1O,q1P,q1Q,q1R,q1S,q1T,q1U,q1V,q1W,q1X,q1Y,q1Z,q20,q21,q22,q23,q24,q25,q26,q27,q28,q29,q2a,q2bq,q2c,q2d,q2e,q2f,q2g,q2h,q2i,q2j,q2k,q2l,q2m,q2n,q2o,q2p,q2q,q2r,q2s,q2t,q2u,q2v,q2w,q2x,q2y,q2z,q2A,q2B,q2C,q2D,q2E,q2F,q2G,q2H,q2I,q2J,q2K,q2L,q2M,q2N,q2O,q2P,q2Q,q2R,q2S,q2T,q2U,q2V,q2W,q2X,q2Y,q2Z,q30,q31,q32,q33,q34,q35,q36,q37,q38,q39,q3a,q3b,q3c,q3d,q3e,q3f,q3g,q3h,q3i,FL.callD,Option.bind_some,Option.bind_none,List.getElem?_cons_zero,List.getElem?_cons_succ,List.getElem?_nil,List.set_cons_zero,List.set_cons_succ,List.length_cons,List.length_nil,List.filterMap_cons,List.filterMap_nil,decide_eq_true_eq,if_true,if_false,true_and,and_true,Nat.reduceAdd,Nat.reduceLeDiff,Nat.reduceEqDiff,↓reduceIte,Bool.false_eq_true,FL.startE,FL.backs,List.map_cons,List.map_nil,List.cons_append,List.nil_append,Nat.reduceSub,List.replicate_succ,List.replicate_zero,List.nodup_nil,List.nodup_cons,List.not_mem_nil,not_false_eq_true,and_self,reduceCtorEq,Option.map_some,Option.map_none,lenT_tab,lenT_row,l1,l2,g1,g2,m1,s1]
        rfl) [.val (.imm D), .val (.imm (tI p)), .val (lT l), .val (.imm (.int last)), ov x, ov y] ⟨x, y, rfl⟩
  rw [List.length_map, List.length_range] at e
  exact ⟨x', y', e⟩
theorem pop_T {l : List Int} (h : 0 < l.length) : fPop (lT l) [] = some (.imm (.int (l.getD (l.length - 1) 0)), lT (l.take (l.length - 1))) := by
  have hl : ((l.map PyData.int).map Tr.imm).length = l.length := by simp
  unfold lT fPop
  simp only
  rw [hl, List.getElem?_map, List.getElem?_map, List.getElem?_eq_getElem (by omega : l.length - 1 < l.length), List.getD_eq_getElem?_getD, List.getElem?_eq_getElem (by omega : l.length - 1 < l.length)]
  have e : ((l.map PyData.int).map Tr.imm).eraseIdx (l.length - 1) = ((l.take (l.length - 1)).map PyData.int).map Tr.imm := by
    rw [← hl, ← dropLast_erase, hl, ← List.map_dropLast, ← List.map_dropLast, List.dropLast_eq_take]
  rw [e]
  rfl
theorem rest_loop (D : PyData) (p : List Int) (h1 : 1 ≤ p.length) (hp : BdL 80 p) (hp2 : p.length < 900) : ∀ (n : Nat) (l : List Int) (N : Nat) (x3 x4 x5 : Option Tr), l.length = p.length - 1 + n → BdL N l → N + 81 * n < 700000 → n < 2000 →
    ∃ y3 y4 y5, whileF (mTest (mOp fGe (mER (mCB fLen (arCons (mVar 2) arNil))) (mER (mCB fLen (arCons (mVar 1) arNil))))) B__law_rest_2 (n + 1) [.val (.imm D), .val (.imm (tI p)), .val (lT l), ov x3, ov x4, ov x5] = some (.nx [.val (.imm D), .val (.imm (tI p)), .val (lT (restF p (p.length - 1) n l)), ov y3, ov y4, ov y5])
  | 0, l, N, x3, x4, x5, hl, hb, hN, hn => by
    refine ⟨x3, x4, x5, ?_⟩
    have l1 := len_T l
    have l2 := len_I p
    have nt : ¬ ((p.length : Nat) : Int) ≤ (l.length : Nat) := by omega
    rw [whileF, restF]
    unfold lT tI at *
    simp -implicitDefEqProofs only [q00,q01,q02,q03,q04,q05,q06,q07,q08,q09,q0a,q0b,q0c,q0d,q0e,q0f,q0g,q0h,q0i,q0j,q0k,q0l,q0m,q0n,q0o,q0p,q0q,q0r,q0s,q0t,q0u,q0v,q0w,q0x,q0y,q0z,q0A,q0B,q0C,q0D,q0E,q0F,q0G,q0H,q0I,q0J,q0K,q0L,q0M,q0N,q0O,q0P,q0Q,q0R,q0S,q0T,FL.toDs_imms,FL.imms_imms,q0U,q0V,q0W,q0X,q0Y,q0Z,q10q,q11,q12,q13,q14,q15,q16,q17,q18,q19,q1a,q1b,q1c,q1d,q1e,q1f,q1g,q1h,q1i,q1j,q1k,q1l,q1m,q1n,q1o,q1p,q1q,q1r,q1s,q1t,q1u,q1v,q1w,q1x,q1y,q1z,q1A,q1B,q1C,q1D,q1E,q1F,q1G,q1H,q1I,q1J,q1K,q1L,q1M,q1N,q1O,q1P,q1Q,q1R,q1S,q1T,q1U,q1V,q1W,q1X,q1Y,q1Z,q20,q21,q22,q23,q24,q25,q26,q27,q28,q29,q2a,q2bq,q2c,q2d,q2e,q2f,q2g,q2h,q2i,q2j,q2k,q2l,q2m,q2n,q2o,q2p,q2q,q2r,q2s,q2t,q2u,q2v,q2w,q2x,q2y,q2z,q2A,q2B,q2C,q2D,q2E,q2F,q2G,q2H,q2I,q2J,q2K,q2L,q2M,q2N,q2O,q2P,q2Q,q2R,q2S,q2T,q2U,q2V,q2W,q2X,q2Y,q2Z,q30,q31,q32,q33,q34,q35,q36,q37,q38,q39,q3a,q3b,q3c,q3d,q3e,q3f,q3g,q3h,q3i,FL.callD,Option.bind_some,Option.bind_none,List.getElem?_cons_zero,List.getElem?_cons_succ,List.getElem?_nil,List.set_cons_zero,List.set_cons_succ,List.length_cons,List.length_nil,List.filterMap_cons,List.filterMap_nil,decide_eq_true_eq,if_true,if_false,true_and,and_true,Nat.reduceAdd,Nat.reduceLeDiff,Nat.reduceEqDiff,↓reduceIte,Bool.false_eq_true,FL.startE,FL.backs,List.map_cons,List.map_nil,List.cons_append,List.nil_append,Nat.reduceSub,List.replicate_succ,List.replicate_zero,List.nodup_nil,List.nodup_cons,List.not_mem_nil,not_false_eq_true,and_self,reduceCtorEq,Option.map_some,Option.map_none,lenT_tab,lenT_row,l1,l2,nt,decide_false]
  | n + 1, l, N, x3, x4, x5, hl, hb, hN, hn => by
    have po := pop_T (l := l) (by omega)
    rw [show l.length - 1 = p.length - 1 + n by omega] at po
    have bl := hb (p.length - 1 + n)
    have bt : BdL N (l.take (p.length - 1 + n)) := BdL.take hb
    have lt : (l.take (p.length - 1 + n)).length = p.length - 1 + n := by rw [List.length_take]; omega
    obtain ⟨z4, z5, e1⟩ := rest_inner D p (l.take (p.length - 1 + n)) n (l.getD (p.length - 1 + n) 0) h1 lt hp bl (by omega) x4 x5
    have ba : BdL (N + 81) (addR p (-(l.getD (p.length - 1 + n) 0)) n (p.length - 1) (l.take (p.length - 1 + n))) := BdL.addR (m := 80) (k := N) (N := N + 80) (bt.mono (by omega)) hp (Bd.neg bl) (Nat.le_refl _) (by rw [lt]; omega)
    obtain ⟨y3, y4, y5, e2⟩ := rest_loop D p h1 hp hp2 n _ (N + 81) (some (.imm (.int (l.getD (p.length - 1 + n) 0)))) z4 z5 (by rw [len_addR, lt]) ba (by omega) (by omega)
    refine ⟨y3, y4, y5, ?_⟩
    have l1 := len_T l
    have l2 := len_I p
    have nt : ((p.length : Nat) : Int) ≤ (l.length : Nat) := by omega
    have rg := fun E => v_rgN (n := p.length - 1) (by omega) (E := E)
    rw [show ((p.length - 1 : Nat) : Int) = (p.length : Int) - 1 by omega] at rg
    rw [← range_iE] at e1
    rw [whileF, restF]
    have eB : B__law_rest_2 [.val (.imm D), .val (.imm (tI p)), .val (lT l), ov x3, ov x4, ov x5] = some (.nx [.val (.imm D), .val (.imm (tI p)), .val (lT (addR p (-(l.getD (p.length - 1 + n) 0)) n (p.length - 1) (l.take (p.length - 1 + n)))), .val (.imm (.int (l.getD (p.length - 1 + n) 0))), ov z4, ov z5]) := by
      clear e2
      unfold B__law_rest_2
      generalize addR p (-(l.getD (p.length - 1 + n) 0)) n (p.length - 1) (l.take (p.length - 1 + n)) = A1 at *
      generalize l.getD (p.length - 1 + n) 0 = v at *
      generalize l.take (p.length - 1 + n) = A2 at *
      unfold lT tI at *
      simp -implicitDefEqProofs only [q00,q01,q02,q03,q04,q05,q06,q07,q08,q09,q0a,q0b,q0c,q0d,q0e,q0f,q0g,q0h,q0i,q0j,q0k,q0l,q0m,q0n,q0o,q0p,q0q,q0r,q0s,q0t,q0u,q0v,q0w,q0x,q0y,q0z,q0A,q0B,q0C,q0D,q0E,q0F,q0G,q0H,q0I,q0J,q0K,q0L,q0M,q0N,q0O,q0P,q0Q,q0R,q0S,q0T,FL.toDs_imms,FL.imms_imms,q0U,q0V,q0W,q0X,q0Y,q0Z,q10q,q11,q12,q13,q14,q15,q16,q17,q18,q19,q1a,q1b,q1c,q1d,q1e,q1f,q1g,q1h,q1i,q1j,q1k,q1l,q1m,q1n,q1o,q1p,q1q,q1r,q1s,q1t,q1u,q1v,q1w,q1x,q1y,q1z,q1A,q1B,q1C,q1D,q1E,q1F,q1G,q1H,q1I,q1J,q1K,q1L,q1M,q1N,q1O,q1P,q1Q,q1R,q1S,q1T,q1U,q1V,q1W,q1X,q1Y,q1Z,q20,q21,q22,q23,q24,q25,q26,q27,q28,q29,q2a,q2bq,q2c,q2d,q2e,q2f,q2g,q2h,q2i,q2j,q2k,q2l,q2m,q2n,q2o,q2p,q2q,q2r,q2s,q2t,q2u,q2v,q2w,q2x,q2y,q2z,q2A,q2B,q2C,q2D,q2E,q2F,q2G,q2H,q2I,q2J,q2K,q2L,q2M,q2N,q2O,q2P,q2Q,q2R,q2S,q2T,q2U,q2V,q2W,q2X,q2Y,q2Z,q30,q31,q32,q33,q34,q35,q36,q37,q38,q39,q3a,q3b,q3c,q3d,q3e,q3f,q3g,q3h,q3i,FL.callD,Option.bind_some,Option.bind_none,List.getElem?_cons_zero,List.getElem?_cons_succ,List.getElem?_nil,List.set_cons_zero,List.set_cons_succ,List.length_cons,List.length_nil,List.filterMap_cons,List.filterMap_nil,decide_eq_true_eq,if_true,if_false,true_and,and_true,Nat.reduceAdd,Nat.reduceLeDiff,Nat.reduceEqDiff,↓reduceIte,Bool.false_eq_true,FL.startE,FL.backs,List.map_cons,List.map_nil,List.cons_append,List.nil_append,Nat.reduceSub,List.replicate_succ,List.replicate_zero,List.nodup_nil,List.nodup_cons,List.not_mem_nil,not_false_eq_true,and_self,reduceCtorEq,Option.map_some,Option.map_none,lenT_tab,lenT_row,po,l2,rg,e1]
    clear e1
    generalize restF p (p.length - 1) n (addR p (-(l.getD (p.length - 1 + n) 0)) n (p.length - 1) (l.take (p.length - 1 + n))) = R1 at *
    generalize addR p (-(l.getD (p.length - 1 + n) 0)) n (p.length - 1) (l.take (p.length - 1 + n)) = A1 at *
    generalize l.getD (p.length - 1 + n) 0 = v at *
    unfold lT tI at *
    simp -implicitDefEqProofs only [q00,q01,q02,q03,q04,q05,q06,q07,q08,q09,q0a,q0b,q0c,q0d,q0e,q0f,q0g,q0h,q0i,q0j,q0k,q0l,q0m,q0n,q0o,q0p,q0q,q0r,q0s,q0t,q0u,q0v,q0w,q0x,q0y,q0z,q0A,q0B,q0C,q0D,q0E,q0F,q0G,q0H,q0I,q0J,q0K,q0L,q0M,q0N,q0O,q0P,q0Q,q0R,q0S,q0T,FL.toDs_imms,FL.imms_imms,q0U,q0V,q0W,q0X,q0Y,q0Z,q10q,q11,q12,q13,q14,q15,q16,q17,q18,q19,q1a,q1b,q1c,q1d,q1e,q1f,q1g,q1h,q1i,q1j,q1k,q1l,q1m,q1n,q1o,q1p,q1q,q1r,q1s,q1t,q1u,q1v,q1w,q1x,q1y,q1z,q1A,q1B,q1C,q1D,q1E,q1F,q1G,q1H,q1I,q1J,q1K,q1L,q1M,q1N,q1O,q1P,q1Q,q1R,q1S,q1T,q1U,q1V,q1W,q1X,q1Y,q1Z,q20,q21,q22,q23,q24,q25,q26,q27,q28,q29,q2a,q2bq,q2c,q2d,q2e,q2f,q2g,q2h,q2i,q2j,q2k,q2l,q2m,q2n,q2o,q2p,q2q,q2r,q2s,q2t,q2u,q2v,q2w,q2x,q2y,q2z,q2A,q2B,q2C,q2D,q2E,q2F,q2G,q2H,q2I,q2J,q2K,q2L,q2M,q2N,q2O,q2P,q2Q,q2R,q2S,q2T,q2U,q2V,q2W,q2X,q2Y,q2Z,q30,q31,q32,q33,q34,q35,q36,q37,q38,q39,q3a,q3b,q3c,q3d,q3e,q3f,q3g,q3h,q3i,FL.callD,Option.bind_some,Option.bind_none,List.getElem?_cons_zero,List.getElem?_cons_succ,List.getElem?_nil,List.set_cons_zero,List.set_cons_succ,List.length_cons,List.length_nil,List.filterMap_cons,List.filterMap_nil,decide_eq_true_eq,if_true,if_false,true_and,and_true,Nat.reduceAdd,Nat.reduceLeDiff,Nat.reduceEqDiff,↓reduceIte,Bool.false_eq_true,FL.startE,FL.backs,List.map_cons,List.map_nil,List.cons_append,List.nil_append,Nat.reduceSub,List.replicate_succ,List.replicate_zero,List.nodup_nil,List.nodup_cons,List.not_mem_nil,not_false_eq_true,and_self,reduceCtorEq,Option.map_some,Option.map_none,lenT_tab,lenT_row,l1,l2,nt,decide_true,eB,afterTurn]
    exact e2
theorem rest_one {D : PyData} {p row : List Int} (fl : fList [.imm D] = some (lT row)) (h2 : 2 ≤ p.length) (hp : BdL 80 p) (hp2 : p.length < 900) (hr : BdL 200 row) (hl : row.length < 2000) : mFn 6 m__law_rest [.imm D, .imm (tI p)] = some (lT (foldP p row), [.imm D, .imm (tI p)]) := by
  have l2 := len_I p
  by_cases h : p.length ≤ row.length
  · obtain ⟨y3, y4, y5, e⟩ := rest_loop D p (by omega) hp hp2 (row.length - (p.length - 1)) row 200 none none none (by omega) hr (by omega) (by omega)
    have e := mWhile_of e
    have lr := len_restF p (p.length - 1) (row.length - (p.length - 1)) row (by omega)
    have er : restF p (p.length - 1) (row.length - (p.length - 1)) row = foldP p row := faith h2 lr (len_foldP p row) fun u hu => by
      rw [pr_foldP hu, pr_restF hu _ _ (by omega)]
    rw [er] at e lr
    have l3 := len_T (foldP p row)
    rw [lr] at l3
    have mz := mul_zero (m := p.length - 1) (n := p.length - 1) (by omega) (by omega)
    rw [Nat.sub_self, List.replicate_zero] at mz
    rw [show ((p.length - 1 : Nat) : Int) = (p.length : Int) - 1 by omega] at mz
    have ad := add_L (a := foldP p row) (b := []) (by rw [lr, List.length_nil]; omega)
    rw [List.append_nil] at ad
    obtain ⟨Z, hZ⟩ : ∃ Z : List Int, Z = [] := ⟨_, rfl⟩
    rw [← hZ] at mz ad
    clear hZ
    have e : mWhile (mTest (mOp fGe (mER (mCB fLen (arCons (mVar 2) arNil))) (mER (mCB fLen (arCons (mVar 1) arNil))))) B__law_rest_2 [.val (.imm D), .val (.imm (tI p)), .val (lT row), .no, .no, .no] = _ := e
    have l4 : lenT (lT (foldP p row)) = some (p.length - 1) := l3
    have cd : ((p.length - 1 : Nat) : Int) = (p.length : Int) - 1 := by omega
    rw [v_fn]
    unfold m__law_rest
    generalize foldP p row = A1 at *
    unfold lT tI at *
    simp -implicitDefEqProofs only [q00,q01,q02,q03,q04,q05,q06,q07,q08,q09,q0a,q0b,q0c,q0d,q0e,q0f,q0g,q0h,q0i,q0j,q0k,q0l,q0m,q0n,q0o,q0p,q0q,q0r,q0s,q0t,q0u,q0v,q0w,q0x,q0y,q0z,q0A,q0B,q0C,q0D,q0E,q0F,q0G,q0H,q0I,q0J,q0K,q0L,q0M,q0N,q0O,q0P,q0Q,q0R,q0S,q0T,FL.toDs_imms,FL.imms_imms,q0U,q0V,q0W,q0X,q0Y,q0Z,q10q,q11,q12,q13,q14,q15,q16,q17,q18,q19,q1a,q1b,q1c,q1d,q1e,q1f,q1g,q1h,q1i,q1j,q1k,q1l,q1m,q1n,q1o,q1p,q1q,q1r,q1s,q1t,q1u,q1v,q1w,q1x,q1y,q1z,q1A,q1B,q1C,q1D,q1E,q1F,q1G,q1H,q1I,q1J,q1K,q1L,q1M,q1N,q1O,q1P,q1Q,q1R,q1S,q1T,q1U,q1V,q1W,q1X,q1Y,q1Z,q20,q21,q22,q23,q24,q25,q26,q27,q28,q29,q2a,q2bq,q2c,q2d,q2e,q2f,q2g,q2h,q2i,q2j,q2k,q2l,q2m,q2n,q2o,q2p,q2q,q2r,q2s,q2t,q2u,q2v,q2w,q2x,q2y,q2z,q2A,q2B,q2C,q2D,q2E,q2F,q2G,q2H,q2I,q2J,q2K,q2L,q2M,q2N,q2O,q2P,q2Q,q2R,q2S,q2T,q2U,q2V,q2W,q2X,q2Y,q2Z,q30,q31,q32,q33,q34,q35,q36,q37,q38,q39,q3a,q3b,q3c,q3d,q3e,q3f,q3g,q3h,q3i,FL.callD,Option.bind_some,Option.bind_none,List.getElem?_cons_zero,List.getElem?_cons_succ,List.getElem?_nil,List.set_cons_zero,List.set_cons_succ,List.length_cons,List.length_nil,List.filterMap_cons,List.filterMap_nil,decide_eq_true_eq,if_true,if_false,true_and,and_true,Nat.reduceAdd,Nat.reduceLeDiff,Nat.reduceEqDiff,↓reduceIte,Bool.false_eq_true,FL.startE,FL.backs,List.map_cons,List.map_nil,List.cons_append,List.nil_append,Nat.reduceSub,List.replicate_succ,List.replicate_zero,List.nodup_nil,List.nodup_cons,List.not_mem_nil,not_false_eq_true,and_self,reduceCtorEq,Option.map_some,Option.map_none,lenT_tab,lenT_row,fl,e,l2,l4,cd,mz,ad]
  · have e := mWhile_of (n := 1) (mc := mTest (mOp fGe (mER (mCB fLen (arCons (mVar 2) arNil))) (mER (mCB fLen (arCons (mVar 1) arNil))))) (mb := B__law_rest_2) (E := [.val (.imm D), .val (.imm (tI p)), .val (lT row), .no, .no, .no]) (o := .nx [.val (.imm D), .val (.imm (tI p)), .val (lT row), .no, .no, .no]) (by
      have l1 := len_T row
      have nt : ¬ ((p.length : Nat) : Int) ≤ (row.length : Nat) := by omega
      rw [whileF]
      unfold lT tI at *
      simp -implicitDefEqProofs only [q00,q01,q02,q03,q04,q05,q06,q07,q08,q09,q0a,q0b,q0c,q0d,q0e,q0f,q0g,q0h,q0i,q0j,q0k,q0l,q0m,q0n,q0o,q0p,q0q,q0r,q0s,q0t,q0u,q0v,q0w,q0x,q0y,q0z,q0A,q0B,q0C,q0D,q0E,q0F,q0G,q0H,q0I,q0J,q0K,q0L,q0M,q0N,q0O,q0P,q0Q,q0R,q0S,q0T,FL.toDs_imms,FL.imms_imms,q0U,q0V,q0W,q0X,q0Y,q0Z,q10q,q11,q12,q13,q14,q15,q16,q17,q18,q19,q1a,q1b,q1c,q1d,q1e,q1f,q1g,q1h,q1i,q1j,q1k,q1l,q1m,q1n,q1o,q1p,q1q,q1r,q1s,q1t,q1u,q1v,q1w,q1x,q1y,q1z,q1A,q1B,q1C,q1D,q1E,q1F,q1G,q1H,q1I,q1J,q1K,q1L,q1M,q1N,q1O,q1P,q1Q,q1R,q1S,q1T,q1U,q1V,q1W,q1X,q1Y,q1Z,q20,q21,q22,q23,q24,q25,q26,q27,q28,q29,q2a,q2bq,q2c,q2d,q2e,q2f,q2g,q2h,q2i,q2j,q2k,q2l,q2m,q2n,q2o,q2p,q2q,q2r,q2s,q2t,q2u,q2v,q2w,q2x,q2y,q2z,q2A,q2B,q2C,q2D,q2E,q2F,q2G,q2H,q2I,q2J,q2K,q2L,q2M,q2N,q2O,q2P,q2Q,q2R,q2S,q2T,q2U,q2V,q2W,q2X,q2Y,q2Z,q30,q31,q32,q33,q34,q35,q36,q37,q38,q39,q3a,q3b,q3c,q3d,q3e,q3f,q3g,q3h,q3i,FL.callD,Option.bind_some,Option.bind_none,List.getElem?_cons_zero,List.getElem?_cons_succ,List.getElem?_nil,List.set_cons_zero,List.set_cons_succ,List.length_cons,List.length_nil,List.filterMap_cons,List.filterMap_nil,decide_eq_true_eq,if_true,if_false,true_and,and_true,Nat.reduceAdd,Nat.reduceLeDiff,Nat.reduceEqDiff,↓reduceIte,Bool.false_eq_true,FL.startE,FL.backs,List.map_cons,List.map_nil,List.cons_append,List.nil_append,Nat.reduceSub,List.replicate_succ,List.replicate_zero,List.nodup_nil,List.nodup_cons,List.not_mem_nil,not_false_eq_true,and_self,reduceCtorEq,Option.map_some,Option.map_none,lenT_tab,lenT_row,l1,l2,nt,decide_false])
    have er : row ++ List.replicate (p.length - 1 - row.length) 0 = foldP p row := faith h2 (by rw [List.length_append, List.length_replicate]; omega) (len_foldP p row) fun u hu => by
      rw [pr_foldP hu, pr_app, pr_zeros, Int.add_zero]
    have l3 := len_T row
    have mz := mul_zero (m := p.length - 1) (n := row.length) (by omega) (by omega)
    rw [show ((p.length - 1 : Nat) : Int) = (p.length : Int) - 1 by omega] at mz
    have ad := add_L (a := row) (b := List.replicate (p.length - 1 - row.length) 0) (by rw [List.length_replicate]; omega)
    rw [er] at ad
    rw [v_fn]
    unfold m__law_rest
    generalize foldP p row = A1 at *
    unfold lT tI at *
    simp -implicitDefEqProofs only [q00,q01,q02,q03,q04,q05,q06,q07,q08,q09,q0a,q0b,q0c,q0d,q0e,q0f,q0g,q0h,q0i,q0j,q0k,q0l,q0m,q0n,q0o,q0p,q0q,q0r,q0s,q0t,q0u,q0v,q0w,q0x,q0y,q0z,q0A,q0B,q0C,q0D,q0E,q0F,q0G,q0H,q0I,q0J,q0K,q0L,q0M,q0N,q0O,q0P,q0Q,q0R,q0S,q0T,FL.toDs_imms,FL.imms_imms,q0U,q0V,q0W,q0X,q0Y,q0Z,q10q,q11,q12,q13,q14,q15,q16,q17,q18,q19,q1a,q1b,q1c,q1d,q1e,q1f,q1g,q1h,q1i,q1j,q1k,q1l,q1m,q1n,q1o,q1p,q1q,q1r,q1s,q1t,q1u,q1v,q1w,q1x,q1y,q1z,q1A,q1B,q1C,q1D,q1E,q1F,q1G,q1H,q1I,q1J,q1K,q1L,q1M,q1N,q1O,q1P,q1Q,q1R,q1S,q1T,q1U,q1V,q1W,q1X,q1Y,q1Z,q20,q21,q22,q23,q24,q25,q26,q27,q28,q29,q2a,q2bq,q2c,q2d,q2e,q2f,q2g,q2h,q2i,q2j,q2k,q2l,q2m,q2n,q2o,q2p,q2q,q2r,q2s,q2t,q2u,q2v,q2w,q2x,q2y,q2z,q2A,q2B,q2C,q2D,q2E,q2F,q2G,q2H,q2I,q2J,q2K,q2L,q2M,q2N,q2O,q2P,q2Q,q2R,q2S,q2T,q2U,q2V,q2W,q2X,q2Y,q2Z,q30,q31,q32,q33,q34,q35,q36,q37,q38,q39,q3a,q3b,q3c,q3d,q3e,q3f,q3g,q3h,q3i,FL.callD,Option.bind_some,Option.bind_none,List.getElem?_cons_zero,List.getElem?_cons_succ,List.getElem?_nil,List.set_cons_zero,List.set_cons_succ,List.length_cons,List.length_nil,List.filterMap_cons,List.filterMap_nil,decide_eq_true_eq,if_true,if_false,true_and,and_true,Nat.reduceAdd,Nat.reduceLeDiff,Nat.reduceEqDiff,↓reduceIte,Bool.false_eq_true,FL.startE,FL.backs,List.map_cons,List.map_nil,List.cons_append,List.nil_append,Nat.reduceSub,List.replicate_succ,List.replicate_zero,List.nodup_nil,List.nodup_cons,List.not_mem_nil,not_false_eq_true,and_self,reduceCtorEq,Option.map_some,Option.map_none,lenT_tab,lenT_row,fl,e,l2,l3,mz,ad]
def padK (m : Nat) (l : List Int) : List Int := (List.range m).map fun i => l.getD i 0
theorem get_padK {m i : Nat} (h : i < m) (l : List Int) : (padK m l).getD i 0 = l.getD i 0 := by
  unfold padK
  rw [List.getD_eq_getElem?_getD, List.getElem?_map, List.getElem?_range h]
  rfl
theorem padK_self (l : List Int) : padK l.length l = l := by
  unfold padK
  refine List.ext_getElem? fun i => ?_
  by_cases h : i < l.length
  · rw [List.getElem?_map, List.getElem?_range h, List.getElem?_eq_getElem h, Option.map_some, List.getD_eq_getElem?_getD, List.getElem?_eq_getElem h]; rfl
  · rw [List.getElem?_eq_none (by simp; omega), List.getElem?_eq_none (by omega)]
theorem pairs9 (n : Nat) (f g : Nat → PyData) : pairsZ ((List.range n).map f) ((List.range n).map g) = (List.range n).map fun i => .tuple [f i, g i] := by
  refine List.ext_getElem? fun i => ?_
  unfold pairsZ
  rw [List.getElem?_zipWith]
  by_cases h : i < n
  · rw [range_get h, range_get h, range_get h]
  · rw [List.getElem?_eq_none (by simp; omega), List.getElem?_eq_none (by simp; omega), List.getElem?_eq_none (by simp; omega)]
theorem v_zip9 {ms : MFs} {E : En} : mZip ms E = (ms E).bind fun p => (Tr.toDs p.1).bind fun ds => (zipT ds).bind fun r => some (r, p.2) := rfl
theorem slD_neg {l : List Int} (h : 1 ≤ l.length) : fSl (.imm (lD l)) none (some (-1)) = some (lT (l.take (l.length - 1))) := by
  unfold lD lT
  show some (Tr.lst ((cutL (l.map PyData.int) none (some (-1))).map Tr.imm)) = _
  have e : HT.sIx (l.map PyData.int).length (l.map PyData.int).length (some (-1)) = l.length - 1 := by
    rw [List.length_map]
    unfold HT.sIx
    simp only
    rw [if_pos (by decide)]
    omega
  unfold cutL
  rw [e, HT.sIx_none, Nat.sub_zero, List.drop_zero, ← List.map_take]
theorem chain_step {M : Nat} (h1 : 1 ≤ M) (hM : M < 1000) (t : Nat) (x3 : Option Tr) : B__law_chain_1 [.val (.imm (.int (M : Nat))), .val (.imm (lD (padK M (chainS t).1))), .val (lT (padK M (chainS t).2)), ov x3, .no, .no] = some (.nx [.val (.imm (.int (M : Nat))), .val (.imm (lD (padK M (chainS (t + 1)).1))), .val (lT (padK M (chainS (t + 1)).2)), ov x3, .no, .no]) := by
  have lp : (padK M (chainS t).2).length = M := by unfold padK; simp
  have sl := slD_neg (l := padK M (chainS t).2) (by omega)
  have ad := add_L (a := [0]) (b := (padK M (chainS t).2).take ((padK M (chainS t).2).length - 1)) (by rw [List.length_take]; simp; omega)
  have e0 : [0] ++ (padK M (chainS t).2).take ((padK M (chainS t).2).length - 1) = padK M (0 :: (chainS t).2) := by
    have l2 : ([0] ++ (padK M (chainS t).2).take ((padK M (chainS t).2).length - 1)).length = M := by
      rw [List.length_append, List.length_take, lp, List.length_singleton]; omega
    have := padK_self ([0] ++ (padK M (chainS t).2).take ((padK M (chainS t).2).length - 1))
    rw [l2] at this
    rw [← this]
    unfold padK
    refine List.map_congr_left fun i hi => ?_
    have hi := List.mem_range.mp hi
    cases i with
    | zero => rfl
    | succ i =>
      show ((padK M (chainS t).2).take ((padK M (chainS t).2).length - 1)).getD i 0 = (chainS t).2.getD i 0
      rw [List.getD_eq_getElem?_getD, List.getElem?_take_of_lt (by omega), ← List.getD_eq_getElem?_getD, get_padK (by omega)]
  rw [e0] at ad
  have z : zipT [lD (padK M (0 :: (chainS t).2)), lD (padK M (chainS t).1)] = some ((List.range M).map fun i => PyData.tuple [.int ((0 :: (chainS t).2).getD i 0), .int ((chainS t).1.getD i 0)]) := by
    unfold lD padK
    rw [List.map_map, List.map_map]
    exact congrArg some (pairs9 M _ _)
  have lc := lcD_imm (g := mTupG 2 (gsCons (mName 4) (gsCons (mName 5) gsNil))) (m := X__law_chain_1) (vs := [4, 5]) (E := [.val (.imm (.int (M : Nat))), .val (.imm (lD (padK M (chainS t).1))), .val (.imm (lD (padK M (chainS t).2))), ov x3, .no, .no]) (fun i => PyData.tuple [.int ((0 :: (chainS t).2).getD i 0), .int ((chainS t).1.getD i 0)]) (fun i => PyData.int ((chainS (t + 1)).2.getD i 0)) (List.range M) (fun i hi => by
    have hv : (chainS (t + 1)).2.getD i 0 = (0 :: (chainS t).2).getD i 0 - (chainS t).1.getD i 0 := by
      rw [chain_addZ, get_addZ, get_smul, Int.neg_mul, Int.one_mul, ← Int.sub_eq_add_neg]
    rw [hv]
    generalize (0 :: (chainS t).2).getD i 0 = a
    generalize (chainS t).1.getD i 0 = b
    refine ⟨[.val (.imm (.int (M : Nat))), .val (.imm (lD (padK M (chainS t).1))), .val (.imm (lD (padK M (chainS t).2))), ov x3, .val (.imm (.int a)), .val (.imm (.int b))], [.val (.imm (.int (M : Nat))), .val (.imm (lD (padK M (chainS t).1))), .val (.imm (lD (padK M (chainS t).2))), ov x3, .val (.imm (.int a)), .val (.imm (.int b))], by simp -implicitDefEqProofs only [q00,q01,q02,q03,q04,q05,q06,q07,q08,q09,q0a,q0b,q0c,q0d,q0e,q0f,q0g,q0h,q0i,q0j,q0k,q0l,q0m,q0n,q0o,q0p,q0q,q0r,q0s,q0t,q0u,q0v,q0w,q0x,q0y,q0z,q0A,q0B,q0C,q0D,q0E,q0F,q0G,q0H,q0I,q0J,q0K,q0L,q0M,q0N,q0O,q0P,q0Q,q0R,q0S,q0T,FL.toDs_imms,FL.imms_imms,q0U,q0V,q0W,q0X,q0Y,q0Z,q10q,q11,q12,q13,q14,q15,q16,q17,q18,q19,q1a,q1b,q1c,q1d,q1e,q1f,q1g,q1h,q1i,q1j,q1k,q1l,q1m,q1n,q1o,q1p,q1q,q1r,q1s,q1t,q1u,q1v,q1w,q1x,q1y,q1z,q1A,q1B,q1C,q1D,q1E,q1F,q1G,q1H,q1I,q1J,q1K,q1L,q1M,q1N,q1O,q1P,q1Q,q1R,q1S,q1T,q1U,q1V,q1W,q1X,q1Y,q1Z,q20,q21,q22,q23,q24,q25,q26,q27,q28,q29,q2a,q2bq,q2c,q2d,q2e,q2f,q2g,q2h,q2i,q2j,q2k,q2l,q2m,q2n,q2o,q2p,q2q,q2r,q2s,q2t,q2u,q2v,q2w,q2x,q2y,q2z,q2A,q2B,q2C,q2D,q2E,q2F,q2G,q2H,q2I,q2J,q2K,q2L,q2M,q2N,q2O,q2P,q2Q,q2R,q2S,q2T,q2U,q2V,q2W,q2X,q2Y,q2Z,q30,q31,q32,q33,q34,q35,q36,q37,q38,q39,q3a,q3b,q3c,q3d,q3e,q3f,q3g,q3h,q3i,FL.callD,Option.bind_some,Option.bind_none,List.getElem?_cons_zero,List.getElem?_cons_succ,List.getElem?_nil,List.set_cons_zero,List.set_cons_succ,List.length_cons,List.length_nil,List.filterMap_cons,List.filterMap_nil,decide_eq_true_eq,if_true,if_false,true_and,and_true,Nat.reduceAdd,Nat.reduceLeDiff,Nat.reduceEqDiff,↓reduceIte,Bool.false_eq_true,FL.startE,FL.backs,List.map_cons,List.map_nil,List.cons_append,List.nil_append,Nat.reduceSub,List.replicate_succ,List.replicate_zero,List.nodup_nil,List.nodup_cons,List.not_mem_nil,not_false_eq_true,and_self,reduceCtorEq,Option.map_some,Option.map_none,lenT_tab,lenT_row], ?_, rfl⟩
    unfold X__law_chain_1
    simp -implicitDefEqProofs only [q00,q01,q02,q03,q04,q05,q06,q07,q08,q09,q0a,q0b,q0c,q0d,q0e,q0f,q0g,q0h,q0i,q0j,q0k,q0l,q0m,q0n,q0o,q0p,q0q,q0r,q0s,q0t,q0u,q0v,q0w,q0x,q0y,q0z,q0A,q0B,q0C,q0D,q0E,q0F,q0G,q0H,q0I,q0J,q0K,q0L,q0M,q0N,q0O,q0P,q0Q,q0R,q0S,q0T,FL.toDs_imms,FL.imms_imms,q0U,q0V,q0W,q0X,q0Y,q0Z,q10q,q11,q12,q13,q14,q15,q16,q17,q18,q19,q1a,q1b,q1c,q1d,q1e,q1f,q1g,q1h,q1i,q1j,q1k,q1l,q1m,q1n,q1o,q1p,q1q,q1r,q1s,q1t,q1u,q1v,q1w,q1x,q1y,q1z,q1A,q1B,q1C,q1D,q1E,q1F,q1G,q1H,q1I,q1J,q1K,q1L,q1M,q1N,q1O,q1P,q1Q,q1R,q1S,q1T,q1U,q1V,q1W,q1X,q1Y,q1Z,q20,q21,q22,q23,q24,q25,q26,q27,q28,q29,q2a,q2bq,q2c,q2d,q2e,q2f,q2g,q2h,q2i,q2j,q2k,q2l,q2m,q2n,q2o,q2p,q2q,q2r,q2s,q2t,q2u,q2v,q2w,q2x,q2y,q2z,q2A,q2B,q2C,q2D,q2E,q2F,q2G,q2H,q2I,q2J,q2K,q2L,q2M,q2N,q2O,q2P,q2Q,q2R,q2S,q2T,q2U,q2V,q2W,q2X,q2Y,q2Z,q30,q31,q32,q33,q34,q35,q36,q37,q38,q39,q3a,q3b,q3c,q3d,q3e,q3f,q3g,q3h,q3i,FL.callD,Option.bind_some,Option.bind_none,List.getElem?_cons_zero,List.getElem?_cons_succ,List.getElem?_nil,List.set_cons_zero,List.set_cons_succ,List.length_cons,List.length_nil,List.filterMap_cons,List.filterMap_nil,decide_eq_true_eq,if_true,if_false,true_and,and_true,Nat.reduceAdd,Nat.reduceLeDiff,Nat.reduceEqDiff,↓reduceIte,Bool.false_eq_true,FL.startE,FL.backs,List.map_cons,List.map_nil,List.cons_append,List.nil_append,Nat.reduceSub,List.replicate_succ,List.replicate_zero,List.nodup_nil,List.nodup_cons,List.not_mem_nil,not_false_eq_true,and_self,reduceCtorEq,Option.map_some,Option.map_none,lenT_tab,lenT_row]) (by rw [List.length_range]; omega)
  rw [show (List.range M).map (fun i => PyData.int ((chainS (t + 1)).2.getD i 0)) = (padK M (chainS (t + 1)).2).map PyData.int by unfold padK; rw [List.map_map]; rfl] at lc
  have e1 : padK M (chainS (t + 1)).1 = padK M (chainS t).2 := rfl
  rw [e1]
  generalize (List.range M).map (fun i => PyData.tuple [.int ((0 :: (chainS t).2).getD i 0), .int ((chainS t).1.getD i 0)]) = Z at *
  generalize padK M (chainS (t + 1)).2 = C2 at *
  generalize (padK M (chainS t).2).take ((padK M (chainS t).2).length - 1) = C3 at *
  generalize padK M (0 :: (chainS t).2) = C4 at *
  generalize padK M (chainS t).2 = C5 at *
  generalize padK M (chainS t).1 = C6 at *
  have ad : fAdd (.lst [.imm (.int 0)]) (.lst ((C3.map PyData.int).map Tr.imm)) = some (.lst ((C4.map PyData.int).map Tr.imm)) := ad
  have t4 : Tr.toDs [lT C4, .imm (lD C6)] = some [lD C4, lD C6] := by
    show (Tr.toD (lT C4)).bind _ = _
    unfold lT
    rw [q0T, toDs_imms]; rfl
  unfold B__law_chain_1
  unfold lT lD at *
  simp -implicitDefEqProofs only [q00,q01,q02,q03,q04,q05,q06,q07,q08,q09,q0a,q0b,q0c,q0d,q0e,q0f,q0g,q0h,q0i,q0j,q0k,q0l,q0m,q0n,q0o,q0p,q0q,q0r,q0s,q0t,q0u,q0v,q0w,q0x,q0y,q0z,q0A,q0B,q0C,q0D,q0E,q0F,q0G,q0H,q0I,q0J,q0K,q0L,q0M,q0N,q0O,q0P,q0Q,q0R,q0S,q0T,FL.toDs_imms,FL.imms_imms,q0U,q0V,q0W,q0X,q0Y,q0Z,q10q,q11,q12,q13,q14,q15,q16,q17,q18,q19,q1a,q1b,q1c,q1d,q1e,q1f,q1g,q1h,q1i,q1j,q1k,q1l,q1m,q1n,q1o,q1p,q1q,q1r,q1s,q1t,q1u,q1v,q1w,q1x,q1y,q1z,q1A,q1B,q1C,q1D,q1E,q1F,q1G,q1H,q1I,q1J,q1K,q1L,q1M,q1N,q1O,q1P,q1Q,q1R,q1S,q1T,q1U,q1V,q1W,q1X,q1Y,q1Z,q20,q21,q22,q23,q24,q25,q26,q27,q28,q29,q2a,q2bq,q2c,q2d,q2e,q2f,q2g,q2h,q2i,q2j,q2k,q2l,q2m,q2n,q2o,q2p,q2q,q2r,q2s,q2t,q2u,q2v,q2w,q2x,q2y,q2z,q2A,q2B,q2C,q2D,q2E,q2F,q2G,q2H,q2I,q2J,q2K,q2L,q2M,q2N,q2O,q2P,q2Q,q2R,q2S,q2T,q2U,q2V,q2W,q2X,q2Y,q2Z,q30,q31,q32,q33,q34,q35,q36,q37,q38,q39,q3a,q3b,q3c,q3d,q3e,q3f,q3g,q3h,q3i,FL.callD,Option.bind_some,Option.bind_none,List.getElem?_cons_zero,List.getElem?_cons_succ,List.getElem?_nil,List.set_cons_zero,List.set_cons_succ,List.length_cons,List.length_nil,List.filterMap_cons,List.filterMap_nil,decide_eq_true_eq,if_true,if_false,true_and,and_true,Nat.reduceAdd,Nat.reduceLeDiff,Nat.reduceEqDiff,↓reduceIte,Bool.false_eq_true,FL.startE,FL.backs,List.map_cons,List.map_nil,List.cons_append,List.nil_append,Nat.reduceSub,List.replicate_succ,List.replicate_zero,List.nodup_nil,List.nodup_cons,List.not_mem_nil,not_false_eq_true,and_self,reduceCtorEq,Option.map_some,Option.map_none,lenT_tab,lenT_row,sl,ad,v_zip9,z,lc,t4]
theorem chain_step0 {M : Nat} (h1 : 1 ≤ M) (hM : M < 1000) (t : Nat) (x3 : Option Tr) : B__law_chain_1 [.val (.imm (.int (M : Nat))), .val (lT (padK M (chainS t).1)), .val (lT (padK M (chainS t).2)), ov x3, .no, .no] = some (.nx [.val (.imm (.int (M : Nat))), .val (.imm (lD (padK M (chainS (t + 1)).1))), .val (lT (padK M (chainS (t + 1)).2)), ov x3, .no, .no]) := by
  have lp : (padK M (chainS t).2).length = M := by unfold padK; simp
  have sl := slD_neg (l := padK M (chainS t).2) (by omega)
  have ad := add_L (a := [0]) (b := (padK M (chainS t).2).take ((padK M (chainS t).2).length - 1)) (by rw [List.length_take]; simp; omega)
  have e0 : [0] ++ (padK M (chainS t).2).take ((padK M (chainS t).2).length - 1) = padK M (0 :: (chainS t).2) := by
    have l2 : ([0] ++ (padK M (chainS t).2).take ((padK M (chainS t).2).length - 1)).length = M := by
      rw [List.length_append, List.length_take, lp, List.length_singleton]; omega
    have := padK_self ([0] ++ (padK M (chainS t).2).take ((padK M (chainS t).2).length - 1))
    rw [l2] at this
    rw [← this]
    unfold padK
    refine List.map_congr_left fun i hi => ?_
    have hi := List.mem_range.mp hi
    cases i with
    | zero => rfl
    | succ i =>
      show ((padK M (chainS t).2).take ((padK M (chainS t).2).length - 1)).getD i 0 = (chainS t).2.getD i 0
      rw [List.getD_eq_getElem?_getD, List.getElem?_take_of_lt (by omega), ← List.getD_eq_getElem?_getD, get_padK (by omega)]
  rw [e0] at ad
  have z : zipT [lD (padK M (0 :: (chainS t).2)), lD (padK M (chainS t).1)] = some ((List.range M).map fun i => PyData.tuple [.int ((0 :: (chainS t).2).getD i 0), .int ((chainS t).1.getD i 0)]) := by
    unfold lD padK
    rw [List.map_map, List.map_map]
    exact congrArg some (pairs9 M _ _)
  have lc := lcD_imm (g := mTupG 2 (gsCons (mName 4) (gsCons (mName 5) gsNil))) (m := X__law_chain_1) (vs := [4, 5]) (E := [.val (.imm (.int (M : Nat))), .val (.imm (lD (padK M (chainS t).1))), .val (.imm (lD (padK M (chainS t).2))), ov x3, .no, .no]) (fun i => PyData.tuple [.int ((0 :: (chainS t).2).getD i 0), .int ((chainS t).1.getD i 0)]) (fun i => PyData.int ((chainS (t + 1)).2.getD i 0)) (List.range M) (fun i hi => by
    have hv : (chainS (t + 1)).2.getD i 0 = (0 :: (chainS t).2).getD i 0 - (chainS t).1.getD i 0 := by
      rw [chain_addZ, get_addZ, get_smul, Int.neg_mul, Int.one_mul, ← Int.sub_eq_add_neg]
    rw [hv]
    generalize (0 :: (chainS t).2).getD i 0 = a
    generalize (chainS t).1.getD i 0 = b
    refine ⟨[.val (.imm (.int (M : Nat))), .val (.imm (lD (padK M (chainS t).1))), .val (.imm (lD (padK M (chainS t).2))), ov x3, .val (.imm (.int a)), .val (.imm (.int b))], [.val (.imm (.int (M : Nat))), .val (.imm (lD (padK M (chainS t).1))), .val (.imm (lD (padK M (chainS t).2))), ov x3, .val (.imm (.int a)), .val (.imm (.int b))], by simp -implicitDefEqProofs only [q00,q01,q02,q03,q04,q05,q06,q07,q08,q09,q0a,q0b,q0c,q0d,q0e,q0f,q0g,q0h,q0i,q0j,q0k,q0l,q0m,q0n,q0o,q0p,q0q,q0r,q0s,q0t,q0u,q0v,q0w,q0x,q0y,q0z,q0A,q0B,q0C,q0D,q0E,q0F,q0G,q0H,q0I,q0J,q0K,q0L,q0M,q0N,q0O,q0P,q0Q,q0R,q0S,q0T,FL.toDs_imms,FL.imms_imms,q0U,q0V,q0W,q0X,q0Y,q0Z,q10q,q11,q12,q13,q14,q15,q16,q17,q18,q19,q1a,q1b,q1c,q1d,q1e,q1f,q1g,q1h,q1i,q1j,q1k,q1l,q1m,q1n,q1o,q1p,q1q,q1r,q1s,q1t,q1u,q1v,q1w,q1x,q1y,q1z,q1A,q1B,q1C,q1D,q1E,q1F,q1G,q1H,q1I,q1J,q1K,q1L,q1M,q1N,q1O,q1P,q1Q,q1R,q1S,q1T,q1U,q1V,q1W,q1X,q1Y,q1Z,q20,q21,q22,q23,q24,q25,q26,q27,q28,q29,q2a,q2bq,q2c,q2d,q2e,q2f,q2g,q2h,q2i,q2j,q2k,q2l,q2m,q2n,q2o,q2p,q2q,q2r,q2s,q2t,q2u,q2v,q2w,q2x,q2y,q2z,q2A,q2B,q2C,q2D,q2E,q2F,q2G,q2H,q2I,q2J,q2K,q2L,q2M,q2N,q2O,q2P,q2Q,q2R,q2S,q2T,q2U,q2V,q2W,q2X,q2Y,q2Z,q30,q31,q32,q33,q34,q35,q36,q37,q38,q39,q3a,q3b,q3c,q3d,q3e,q3f,q3g,q3h,q3i,FL.callD,Option.bind_some,Option.bind_none,List.getElem?_cons_zero,List.getElem?_cons_succ,List.getElem?_nil,List.set_cons_zero,List.set_cons_succ,List.length_cons,List.length_nil,List.filterMap_cons,List.filterMap_nil,decide_eq_true_eq,if_true,if_false,true_and,and_true,Nat.reduceAdd,Nat.reduceLeDiff,Nat.reduceEqDiff,↓reduceIte,Bool.false_eq_true,FL.startE,FL.backs,List.map_cons,List.map_nil,List.cons_append,List.nil_append,Nat.reduceSub,List.replicate_succ,List.replicate_zero,List.nodup_nil,List.nodup_cons,List.not_mem_nil,not_false_eq_true,and_self,reduceCtorEq,Option.map_some,Option.map_none,lenT_tab,lenT_row], ?_, rfl⟩
    unfold X__law_chain_1
    simp -implicitDefEqProofs only [q00,q01,q02,q03,q04,q05,q06,q07,q08,q09,q0a,q0b,q0c,q0d,q0e,q0f,q0g,q0h,q0i,q0j,q0k,q0l,q0m,q0n,q0o,q0p,q0q,q0r,q0s,q0t,q0u,q0v,q0w,q0x,q0y,q0z,q0A,q0B,q0C,q0D,q0E,q0F,q0G,q0H,q0I,q0J,q0K,q0L,q0M,q0N,q0O,q0P,q0Q,q0R,q0S,q0T,FL.toDs_imms,FL.imms_imms,q0U,q0V,q0W,q0X,q0Y,q0Z,q10q,q11,q12,q13,q14,q15,q16,q17,q18,q19,q1a,q1b,q1c,q1d,q1e,q1f,q1g,q1h,q1i,q1j,q1k,q1l,q1m,q1n,q1o,q1p,q1q,q1r,q1s,q1t,q1u,q1v,q1w,q1x,q1y,q1z,q1A,q1B,q1C,q1D,q1E,q1F,q1G,q1H,q1I,q1J,q1K,q1L,q1M,q1N,q1O,q1P,q1Q,q1R,q1S,q1T,q1U,q1V,q1W,q1X,q1Y,q1Z,q20,q21,q22,q23,q24,q25,q26,q27,q28,q29,q2a,q2bq,q2c,q2d,q2e,q2f,q2g,q2h,q2i,q2j,q2k,q2l,q2m,q2n,q2o,q2p,q2q,q2r,q2s,q2t,q2u,q2v,q2w,q2x,q2y,q2z,q2A,q2B,q2C,q2D,q2E,q2F,q2G,q2H,q2I,q2J,q2K,q2L,q2M,q2N,q2O,q2P,q2Q,q2R,q2S,q2T,q2U,q2V,q2W,q2X,q2Y,q2Z,q30,q31,q32,q33,q34,q35,q36,q37,q38,q39,q3a,q3b,q3c,q3d,q3e,q3f,q3g,q3h,q3i,FL.callD,Option.bind_some,Option.bind_none,List.getElem?_cons_zero,List.getElem?_cons_succ,List.getElem?_nil,List.set_cons_zero,List.set_cons_succ,List.length_cons,List.length_nil,List.filterMap_cons,List.filterMap_nil,decide_eq_true_eq,if_true,if_false,true_and,and_true,Nat.reduceAdd,Nat.reduceLeDiff,Nat.reduceEqDiff,↓reduceIte,Bool.false_eq_true,FL.startE,FL.backs,List.map_cons,List.map_nil,List.cons_append,List.nil_append,Nat.reduceSub,List.replicate_succ,List.replicate_zero,List.nodup_nil,List.nodup_cons,List.not_mem_nil,not_false_eq_true,and_self,reduceCtorEq,Option.map_some,Option.map_none,lenT_tab,lenT_row]) (by rw [List.length_range]; omega)
  rw [show (List.range M).map (fun i => PyData.int ((chainS (t + 1)).2.getD i 0)) = (padK M (chainS (t + 1)).2).map PyData.int by unfold padK; rw [List.map_map]; rfl] at lc
  have e1 : padK M (chainS (t + 1)).1 = padK M (chainS t).2 := rfl
  rw [e1]
  generalize (List.range M).map (fun i => PyData.tuple [.int ((0 :: (chainS t).2).getD i 0), .int ((chainS t).1.getD i 0)]) = Z at *
  generalize padK M (chainS (t + 1)).2 = C2 at *
  generalize (padK M (chainS t).2).take ((padK M (chainS t).2).length - 1) = C3 at *
  generalize padK M (0 :: (chainS t).2) = C4 at *
  generalize padK M (chainS t).2 = C5 at *
  generalize padK M (chainS t).1 = C6 at *
  have ad : fAdd (.lst [.imm (.int 0)]) (.lst ((C3.map PyData.int).map Tr.imm)) = some (.lst ((C4.map PyData.int).map Tr.imm)) := ad
  have t4 : Tr.toDs [lT C4, .imm (lD C6)] = some [lD C4, lD C6] := by
    show (Tr.toD (lT C4)).bind _ = _
    unfold lT
    rw [q0T, toDs_imms]; rfl
  unfold B__law_chain_1
  unfold lT lD at *
  simp -implicitDefEqProofs only [q00,q01,q02,q03,q04,q05,q06,q07,q08,q09,q0a,q0b,q0c,q0d,q0e,q0f,q0g,q0h,q0i,q0j,q0k,q0l,q0m,q0n,q0o,q0p,q0q,q0r,q0s,q0t,q0u,q0v,q0w,q0x,q0y,q0z,q0A,q0B,q0C,q0D,q0E,q0F,q0G,q0H,q0I,q0J,q0K,q0L,q0M,q0N,q0O,q0P,q0Q,q0R,q0S,q0T,FL.toDs_imms,FL.imms_imms,q0U,q0V,q0W,q0X,q0Y,q0Z,q10q,q11,q12,q13,q14,q15,q16,q17,q18,q19,q1a,q1b,q1c,q1d,q1e,q1f,q1g,q1h,q1i,q1j,q1k,q1l,q1m,q1n,q1o,q1p,q1q,q1r,q1s,q1t,q1u,q1v,q1w,q1x,q1y,q1z,q1A,q1B,q1C,q1D,q1E,q1F,q1G,q1H,q1I,q1J,q1K,q1L,q1M,q1N,q1O,q1P,q1Q,q1R,q1S,q1T,q1U,q1V,q1W,q1X,q1Y,q1Z,q20,q21,q22,q23,q24,q25,q26,q27,q28,q29,q2a,q2bq,q2c,q2d,q2e,q2f,q2g,q2h,q2i,q2j,q2k,q2l,q2m,q2n,q2o,q2p,q2q,q2r,q2s,q2t,q2u,q2v,q2w,q2x,q2y,q2z,q2A,q2B,q2C,q2D,q2E,q2F,q2G,q2H,q2I,q2J,q2K,q2L,q2M,q2N,q2O,q2P,q2Q,q2R,q2S,q2T,q2U,q2V,q2W,q2X,q2Y,q2Z,q30,q31,q32,q33,q34,q35,q36,q37,q38,q39,q3a,q3b,q3c,q3d,q3e,q3f,q3g,q3h,q3i,FL.callD,Option.bind_some,Option.bind_none,List.getElem?_cons_zero,List.getElem?_cons_succ,List.getElem?_nil,List.set_cons_zero,List.set_cons_succ,List.length_cons,List.length_nil,List.filterMap_cons,List.filterMap_nil,decide_eq_true_eq,if_true,if_false,true_and,and_true,Nat.reduceAdd,Nat.reduceLeDiff,Nat.reduceEqDiff,↓reduceIte,Bool.false_eq_true,FL.startE,FL.backs,List.map_cons,List.map_nil,List.cons_append,List.nil_append,Nat.reduceSub,List.replicate_succ,List.replicate_zero,List.nodup_nil,List.nodup_cons,List.not_mem_nil,not_false_eq_true,and_self,reduceCtorEq,Option.map_some,Option.map_none,lenT_tab,lenT_row,sl,ad,v_zip9,z,lc,t4]
theorem chain_law {M : Nat} (h1 : 1 ≤ M) (hM : M < 1000) : mFn 6 m__law_chain [.imm (.int (M : Nat))] = some (.imm (lD (chainS (M - 1)).2), [.imm (.int (M : Nat))]) := by
  obtain ⟨E', e, x3, rfl⟩ := forD_inv (g := mName 3) (ms := B__law_chain_1)
    (fun i E => ∃ x3, E = [.val (.imm (.int (M : Nat))), .val (if i = 0 then lT (padK M (chainS i).1) else .imm (lD (padK M (chainS i).1))), .val (lT (padK M (chainS i).2)), ov x3, .no, .no]) (rangeD 0 (M - 1))
    (fun i d E hi ⟨x3, hE⟩ => by
      obtain ⟨hid, rfl⟩ := rangeD_at hi
      rw [Int.zero_add]
      have st := chain_step h1 hM i (some (.imm (.int (i : Nat))))
      refine ⟨[.val (.imm (.int (M : Nat))), .val (if i = 0 then lT (padK M (chainS i).1) else .imm (lD (padK M (chainS i).1))), .val (lT (padK M (chainS i).2)), .val (.imm (.int (i : Nat))), .no, .no], [.val (.imm (.int (M : Nat))), .val (.imm (lD (padK M (chainS (i + 1)).1))), .val (lT (padK M (chainS (i + 1)).2)), ov (some (.imm (.int (i : Nat)))), .no, .no], ?_, .inl ?_, some (.imm (.int (i : Nat))), by rw [if_neg (by omega)]⟩
      · rw [hE]
        generalize (if i = 0 then lT (padK M (chainS i).1) else .imm (lD (padK M (chainS i).1))) = A at *
        unfold lT
        simp -implicitDefEqProofs only [q00,q01,q02,q03,q04,q05,q06,q07,q08,q09,q0a,q0b,q0c,q0d,q0e,q0f,q0g,q0h,q0i,q0j,q0k,q0l,q0m,q0n,q0o,q0p,q0q,q0r,q0s,q0t,q0u,q0v,q0w,q0x,q0y,q0z,q0A,q0B,q0C,q0D,q0E,q0F,q0G,q0H,q0I,q0J,q0K,q0L,q0M,q0N,q0O,q0P,q0Q,q0R,q0S,q0T,FL.toDs_imms,FL.imms_imms,q0U,q0V,q0W,q0X,q0Y,q0Z,q10q,q11,q12,q13,q14,q15,q16,q17,q18,q19,q1a,q1b,q1c,q1d,q1e,q1f,q1g,q1h,q1i,q1j,q1k,q1l,q1m,q1n,q1o,q1p,q1q,q1r,q1s,q1t,q1u,q1v,q1w,q1x,q1y,q1z,q1A,q1B,q1C,q1D,q1E,q1F,q1G,q1H,q1I,q1J,q1K,q1L,q1M,q1N,q1O,q1P,q1Q,q1R,q1S,q1T,q1U,q1V,q1W,q1X,q1Y,q1Z,q20,q21,q22,q23,q24,q25,q26,q27,q28,q29,q2a,q2bq,q2c,q2d,q2e,q2f,q2g,q2h,q2i,q2j,q2k,q2l,q2m,q2n,q2o,q2p,q2q,q2r,q2s,q2t,q2u,q2v,q2w,q2x,q2y,q2z,q2A,q2B,q2C,q2D,q2E,q2F,q2G,q2H,q2I,q2J,q2K,q2L,q2M,q2N,q2O,q2P,q2Q,q2R,q2S,q2T,q2U,q2V,q2W,q2X,q2Y,q2Z,q30,q31,q32,q33,q34,q35,q36,q37,q38,q39,q3a,q3b,q3c,q3d,q3e,q3f,q3g,q3h,q3i,FL.callD,Option.bind_some,Option.bind_none,List.getElem?_cons_zero,List.getElem?_cons_succ,List.getElem?_nil,List.set_cons_zero,List.set_cons_succ,List.length_cons,List.length_nil,List.filterMap_cons,List.filterMap_nil,decide_eq_true_eq,if_true,if_false,true_and,and_true,Nat.reduceAdd,Nat.reduceLeDiff,Nat.reduceEqDiff,↓reduceIte,Bool.false_eq_true,FL.startE,FL.backs,List.map_cons,List.map_nil,List.cons_append,List.nil_append,Nat.reduceSub,List.replicate_succ,List.replicate_zero,List.nodup_nil,List.nodup_cons,List.not_mem_nil,not_false_eq_true,and_self,reduceCtorEq,Option.map_some,Option.map_none,lenT_tab,lenT_row]
      · by_cases h0 : i = 0
        · rw [if_pos h0]
          exact chain_step0 h1 hM i (some (.imm (.int (i : Nat))))
        · rw [if_neg h0]
          exact st) [.val (.imm (.int (M : Nat))), .val (lT (padK M (chainS 0).1)), .val (lT (padK M (chainS 0).2)), .no, .no, .no] ⟨none, rfl⟩
  rw [rangeD_len] at e
  have hl : padK M (chainS (M - 1)).2 = (chainS (M - 1)).2 := by
    have := padK_self (chainS (M - 1)).2
    rw [len_chain2, show M - 1 + 1 = M by omega] at this
    exact this
  rw [hl] at e
  have hr := fun E => v_rgN (n := M - 1) (by omega) (E := E)
  rw [show ((M - 1 : Nat) : Int) = (M : Int) - 1 by omega] at hr
  have p1 : padK M (chainS 0).1 = List.replicate M 0 := by
    unfold padK
    refine List.ext_getElem? fun i => ?_
    rw [List.getElem?_map, List.getElem?_replicate]
    by_cases hi : i < M
    · rw [List.getElem?_range hi, if_pos hi]
      cases i <;> rfl
    · rw [List.getElem?_eq_none (by simp; omega), if_neg hi]; rfl
  have p2 : padK M (chainS 0).2 = [1] ++ List.replicate (M - 1) 0 := by
    unfold padK
    refine List.ext_getElem? fun i => ?_
    rw [List.getElem?_map]
    cases i with
    | zero =>
      rw [List.getElem?_range (by omega)]; rfl
    | succ i =>
      rw [List.getElem?_append_right (by simp), List.length_singleton, Nat.add_sub_cancel, List.getElem?_replicate]
      by_cases hi : i + 1 < M
      · rw [List.getElem?_range hi, if_pos (by omega)]; rfl
      · rw [List.getElem?_eq_none (by simp; omega), if_neg (by omega)]; rfl
  have m1 := mul_zero (m := M) (n := 0) (by omega) (by decide)
  rw [Nat.sub_zero, show ((M : Int) - ((0 : Nat) : Int)) = (M : Nat) by omega, ← p1] at m1
  have m2 := mul_zero (m := M) (n := 1) (by omega) (by decide)
  have a2 := add_L (a := [1]) (b := List.replicate (M - 1) 0) (by rw [List.length_replicate]; simp; omega)
  rw [← p2] at a2
  have a2 : fAdd (.lst [.imm (.int 1)]) (lT (List.replicate (M - 1) 0)) = _ := a2
  have m2 : fMul (.lst [.imm (.int 0)]) (.imm (.int ((M : Int) - 1))) = _ := m2
  rw [v_fn]
  unfold m__law_chain
  generalize padK M (chainS 0).1 = C1 at *
  generalize padK M (chainS 0).2 = C2 at *
  generalize List.replicate (M - 1) (0 : Int) = C3 at *
  generalize (chainS (M - 1)).2 = C4 at *
  generalize (if M - 1 = 0 then lT (padK M (chainS (M - 1)).1) else .imm (lD (padK M (chainS (M - 1)).1))) = A at *
  unfold lT lD at *
  simp -implicitDefEqProofs only [q00,q01,q02,q03,q04,q05,q06,q07,q08,q09,q0a,q0b,q0c,q0d,q0e,q0f,q0g,q0h,q0i,q0j,q0k,q0l,q0m,q0n,q0o,q0p,q0q,q0r,q0s,q0t,q0u,q0v,q0w,q0x,q0y,q0z,q0A,q0B,q0C,q0D,q0E,q0F,q0G,q0H,q0I,q0J,q0K,q0L,q0M,q0N,q0O,q0P,q0Q,q0R,q0S,q0T,FL.toDs_imms,FL.imms_imms,q0U,q0V,q0W,q0X,q0Y,q0Z,q10q,q11,q12,q13,q14,q15,q16,q17,q18,q19,q1a,q1b,q1c,q1d,q1e,q1f,q1g,q1h,q1i,q1j,q1k,q1l,q1m,q1n,q1o,q1p,q1q,q1r,q1s,q1t,q1u,q1v,q1w,q1x,q1y,q1z,q1A,q1B,q1C,q1D,q1E,q1F,q1G,q1H,q1I,q1J,q1K,q1L,q1M,q1N,q1O,q1P,q1Q,q1R,q1S,q1T,q1U,q1V,q1W,q1X,q1Y,q1Z,q20,q21,q22,q23,q24,q25,q26,q27,q28,q29,q2a,q2bq,q2c,q2d,q2e,q2f,q2g,q2h,q2i,q2j,q2k,q2l,q2m,q2n,q2o,q2p,q2q,q2r,q2s,q2t,q2u,q2v,q2w,q2x,q2y,q2z,q2A,q2B,q2C,q2D,q2E,q2F,q2G,q2H,q2I,q2J,q2K,q2L,q2M,q2N,q2O,q2P,q2Q,q2R,q2S,q2T,q2U,q2V,q2W,q2X,q2Y,q2Z,q30,q31,q32,q33,q34,q35,q36,q37,q38,q39,q3a,q3b,q3c,q3d,q3e,q3f,q3g,q3h,q3i,FL.callD,Option.bind_some,Option.bind_none,List.getElem?_cons_zero,List.getElem?_cons_succ,List.getElem?_nil,List.set_cons_zero,List.set_cons_succ,List.length_cons,List.length_nil,List.filterMap_cons,List.filterMap_nil,decide_eq_true_eq,if_true,if_false,true_and,and_true,Nat.reduceAdd,Nat.reduceLeDiff,Nat.reduceEqDiff,↓reduceIte,Bool.false_eq_true,FL.startE,FL.backs,List.map_cons,List.map_nil,List.cons_append,List.nil_append,Nat.reduceSub,List.replicate_succ,List.replicate_zero,List.nodup_nil,List.nodup_cons,List.not_mem_nil,not_false_eq_true,and_self,reduceCtorEq,Option.map_some,Option.map_none,lenT_tab,lenT_row,m1,m2,a2,hr,e]
end WK
namespace WK
open PySem L2 FL
noncomputable def overN (h sc : Nat) (k : Nat) : Nat → Nat → Bool := Nat.rec (motive := fun _ => Nat → Nat → Bool) (fun _ _ => true) (fun _ ih a b => bif Nat.ble (h * b / sc) a then false else ih b (h * b / sc - a)) k
noncomputable def bisN (km sc : Nat) (f : Nat) : Nat → Nat → Nat × Nat := Nat.rec (motive := fun _ => Nat → Nat → Nat × Nat) (fun lo hi => (lo, hi)) (fun _ ih lo hi => bif Nat.ble (hi - lo) 1 then (lo, hi) else bif overN ((lo + hi) / 2) sc (km - 2) sc ((lo + hi) / 2) then ih lo ((lo + hi) / 2) else ih ((lo + hi) / 2) hi) f
def valF (top sc : Int) : List Int → Int → Int → Int
  | [], t, _ => t
  | c :: cs, t, f => valF top sc cs (t * top + c * f) (f * sc)
def s40 : Nat := 10 ^ 40
noncomputable def nearC (M : Nat) : Bool := decide (valF (((bisN M s40 134 s40 (2 * s40)).1 : Int) - 1000000) (s40 : Int) (pN (2 * M)).reverse 0 1 ≤ 0) && decide (0 < valF (((bisN M s40 134 s40 (2 * s40)).2 : Int) + 1000000) (s40 : Int) (pN (2 * M)).reverse 0 1)
noncomputable def nearB (b : Nat) : Bool := (List.range' b 10).all fun M => Nat.blt M 3 || Nat.blt 180 M || nearC M
theorem nearB_3 : nearB 3 = true := by decide +kernel
theorem nearB_13 : nearB 13 = true := by decide +kernel
theorem nearB_23 : nearB 23 = true := by decide +kernel
theorem nearB_33 : nearB 33 = true := by decide +kernel
theorem nearB_43 : nearB 43 = true := by decide +kernel
theorem nearB_53 : nearB 53 = true := by decide +kernel
theorem nearB_63 : nearB 63 = true := by decide +kernel
theorem nearB_73 : nearB 73 = true := by decide +kernel
theorem nearB_83 : nearB 83 = true := by decide +kernel
theorem nearB_93 : nearB 93 = true := by decide +kernel
theorem nearB_103 : nearB 103 = true := by decide +kernel
theorem nearB_113 : nearB 113 = true := by decide +kernel
theorem nearB_123 : nearB 123 = true := by decide +kernel
theorem nearB_133 : nearB 133 = true := by decide +kernel
theorem nearB_143 : nearB 143 = true := by decide +kernel
theorem nearB_153 : nearB 153 = true := by decide +kernel
theorem nearB_163 : nearB 163 = true := by decide +kernel
theorem nearB_173 : nearB 173 = true := by decide +kernel
theorem nearC_of {M : Nat} (h1 : 3 ≤ M) (h2 : M ≤ 180) : nearC M = true := by
  have hB : ∀ b, nearB b = true → b ≤ M → M < b + 10 → nearC M = true := fun b hb h3 h4 => by
    have := (List.all_eq_true.mp hb) M (List.mem_range'.mpr ⟨M - b, by omega, by omega⟩)
    have n1 : Nat.blt M 3 = false := by
      cases h : Nat.blt M 3 with
      | false => rfl
      | true => have := Nat.le_of_ble_eq_true h; omega
    have n2 : Nat.blt 180 M = false := by
      cases h : Nat.blt 180 M with
      | false => rfl
      | true => have := Nat.le_of_ble_eq_true h; omega
    rw [n1, n2] at this
    exact this
  by_cases g3 : M < 13
  · exact hB 3 nearB_3 (by omega) (by omega)
  by_cases g13 : M < 23
  · exact hB 13 nearB_13 (by omega) (by omega)
  by_cases g23 : M < 33
  · exact hB 23 nearB_23 (by omega) (by omega)
  by_cases g33 : M < 43
  · exact hB 33 nearB_33 (by omega) (by omega)
  by_cases g43 : M < 53
  · exact hB 43 nearB_43 (by omega) (by omega)
  by_cases g53 : M < 63
  · exact hB 53 nearB_53 (by omega) (by omega)
  by_cases g63 : M < 73
  · exact hB 63 nearB_63 (by omega) (by omega)
  by_cases g73 : M < 83
  · exact hB 73 nearB_73 (by omega) (by omega)
  by_cases g83 : M < 93
  · exact hB 83 nearB_83 (by omega) (by omega)
  by_cases g93 : M < 103
  · exact hB 93 nearB_93 (by omega) (by omega)
  by_cases g103 : M < 113
  · exact hB 103 nearB_103 (by omega) (by omega)
  by_cases g113 : M < 123
  · exact hB 113 nearB_113 (by omega) (by omega)
  by_cases g123 : M < 133
  · exact hB 123 nearB_123 (by omega) (by omega)
  by_cases g133 : M < 143
  · exact hB 133 nearB_133 (by omega) (by omega)
  by_cases g143 : M < 153
  · exact hB 143 nearB_143 (by omega) (by omega)
  by_cases g153 : M < 163
  · exact hB 153 nearB_153 (by omega) (by omega)
  by_cases g163 : M < 173
  · exact hB 163 nearB_163 (by omega) (by omega)
  exact hB 173 nearB_173 (by omega) (by omega)
end WK
namespace WK
open PySem L2 FL
theorem Bd.ediv8 {N : Nat} {a b : Int} (h : Bd N a) (hb : 0 < b) : Bd N (a / b) := by
  unfold Bd at *
  have := Int.natAbs_ediv_le_natAbs a b
  omega
theorem Bd.sub8 {N : Nat} {a b : Int} (h : Bd N a) (k : Bd N b) : Bd (N + 1) (a - b) := by
  unfold Bd at *
  rw [Nat.pow_succ]
  omega
def itF (h sc : Int) : Nat → Int → Int → Bool → Bool
  | 0, _, _, o => o
  | k + 1, a, b, o => itF h sc k b (h * b / sc - a) (o && decide (0 < h * b / sc - a))
theorem itF_false (h sc : Int) : ∀ (k : Nat) (a b : Int), itF h sc k a b false = false
  | 0, _, _ => rfl
  | k + 1, a, b => by rw [itF, Bool.false_and]; exact itF_false h sc k _ _
theorem overN_succ (h sc k a b : Nat) : overN h sc (k + 1) a b = bif Nat.ble (h * b / sc) a then false else overN h sc k b (h * b / sc - a) := rfl
theorem itF_over (h sc : Nat) : ∀ (k a b : Nat), itF (h : Int) (sc : Int) k (a : Int) (b : Int) true = overN h sc k a b
  | 0, _, _ => rfl
  | k + 1, a, b => by
    rw [itF, overN_succ, Bool.true_and]
    have e : ((h : Int) * (b : Int) / (sc : Int)) = ((h * b / sc : Nat) : Int) := by rw [Int.natCast_ediv, Int.natCast_mul]
    rw [e]
    generalize h * b / sc = c
    cases hc : Nat.ble c a with
    | true =>
      have := Nat.le_of_ble_eq_true hc
      rw [decide_eq_false (by omega), itF_false]; rfl
    | false =>
      have : ¬ c ≤ a := fun z => by rw [Nat.ble_eq_true_of_le z] at hc; cases hc
      rw [decide_eq_true (by omega), show ((c : Int) - (a : Int)) = ((c - a : Nat) : Int) by omega, itF_over h sc k b (c - a)]; rfl
theorem near_inner (K L H : SL) (h sc : Int) (hs : 0 < sc) (bs : Bd 140 sc) (bh : Bd 140 h) : ∀ (ds : List PyData) (hd : ∀ d ∈ ds, ∃ i : Int, d = .int i) (a b : Int) (o : Bool) (N : Nat) (x8 : Option Tr), Bd N a → Bd N b → N + 141 * ds.length < 900000 →
    ∃ a' b' y8, forD (mName 8) B__law_near_1 ds [K, .val (.imm (.int sc)), L, H, .val (.imm (.int h)), .val (.imm (.int a)), .val (.imm (.int b)), .val (.imm (.bool o)), ov x8] = some (.nx [K, .val (.imm (.int sc)), L, H, .val (.imm (.int h)), .val (.imm (.int a')), .val (.imm (.int b')), .val (.imm (.bool (itF h sc ds.length a b o))), ov y8])
  | [], _, a, b, o, N, x8, _, _, _ => ⟨a, b, x8, rfl⟩
  | d :: ds, hd, a, b, o, N, x8, ha, hb, hN => by
    obtain ⟨i, rfl⟩ := hd d List.mem_cons_self
    rw [List.length_cons] at hN ⊢
    have m1 := bh.fmul hb (by omega)
    have d1 := v_divI (a := h * b) (b := sc) (cdiv_ok hs bs (by decide))
    have bc : Bd (N + 141) (h * b / sc - a) := Bd.sub8 ((Bd.ediv8 (bh.mul hb) hs).mono (show 140 + N ≤ N + 140 by omega)) (ha.mono (by omega))
    obtain ⟨a', b', y8, e⟩ := near_inner K L H h sc hs bs bh ds (fun z hz => hd z (List.mem_cons_of_mem _ hz)) b (h * b / sc - a) (o && decide (0 < h * b / sc - a)) (N + 141) (some (.imm (.int i))) (hb.mono (by omega)) bc (by omega)
    refine ⟨a', b', y8, ?_⟩
    have nm : (mName 8) (.imm (.int i)) [K, .val (.imm (.int sc)), L, H, .val (.imm (.int h)), .val (.imm (.int a)), .val (.imm (.int b)), .val (.imm (.bool o)), ov x8] = some [K, .val (.imm (.int sc)), L, H, .val (.imm (.int h)), .val (.imm (.int a)), .val (.imm (.int b)), .val (.imm (.bool o)), .val (.imm (.int i))] := by simp -implicitDefEqProofs only [q00,q01,q02,q03,q04,q05,q06,q07,q08,q09,q0a,q0b,q0c,q0d,q0e,q0f,q0g,q0h,q0i,q0j,q0k,q0l,q0m,q0n,q0o,q0p,q0q,q0r,q0s,q0t,q0u,q0v,q0w,q0x,q0y,q0z,q0A,q0B,q0C,q0D,q0E,q0F,q0G,q0H,q0I,q0J,q0K,q0L,q0M,q0N,q0O,q0P,q0Q,q0R,q0S,q0T,FL.toDs_imms,FL.imms_imms,q0U,q0V,q0W,q0X,q0Y,q0Z,q10q,q11,q12,q13,q14,q15,q16,q17,q18,q19,q1a,q1b,q1c,q1d,q1e,q1f,q1g,q1h,q1i,q1j,q1k,q1l,q1m,q1n,q1o,q1p,q1q,q1r,q1s,q1t,q1u,q1v,q1w,q1x,q1y,q1z,q1A,q1B,q1C,q1D,q1E,q1F,q1G,q1H,q1I,q1J,q1K,q1L,q1M,q1N,q1O,q1P,q1Q,q1R,q1S,q1T,q1U,q1V,q1W,q1X,q1Y,q1Z,q20,q21,q22,q23,q24,q25,q26,q27,q28,q29,q2a,q2bq,q2c,q2d,q2e,q2f,q2g,q2h,q2i,q2j,q2k,q2l,q2m,q2n,q2o,q2p,q2q,q2r,q2s,q2t,q2u,q2v,q2w,q2x,q2y,q2z,q2A,q2B,q2C,q2D,q2E,q2F,q2G,q2H,q2I,q2J,q2K,q2L,q2M,q2N,q2O,q2P,q2Q,q2R,q2S,q2T,q2U,q2V,q2W,q2X,q2Y,q2Z,q30,q31,q32,q33,q34,q35,q36,q37,q38,q39,q3a,q3b,q3c,q3d,q3e,q3f,q3g,q3h,q3i,FL.callD,Option.bind_some,Option.bind_none,List.getElem?_cons_zero,List.getElem?_cons_succ,List.getElem?_nil,List.set_cons_zero,List.set_cons_succ,List.length_cons,List.length_nil,List.filterMap_cons,List.filterMap_nil,decide_eq_true_eq,if_true,if_false,true_and,and_true,Nat.reduceAdd,Nat.reduceLeDiff,Nat.reduceEqDiff,↓reduceIte,Bool.false_eq_true,FL.startE,FL.backs,List.map_cons,List.map_nil,List.cons_append,List.nil_append,Nat.reduceSub,List.replicate_succ,List.replicate_zero,List.nodup_nil,List.nodup_cons,List.not_mem_nil,not_false_eq_true,and_self,reduceCtorEq,Option.map_some,Option.map_none,lenT_tab,lenT_row]
    have eB : B__law_near_1 [K, .val (.imm (.int sc)), L, H, .val (.imm (.int h)), .val (.imm (.int a)), .val (.imm (.int b)), .val (.imm (.bool o)), .val (.imm (.int i))] = some (.nx [K, .val (.imm (.int sc)), L, H, .val (.imm (.int h)), .val (.imm (.int b)), .val (.imm (.int (h * b / sc - a))), .val (.imm (.bool (o && decide (0 < h * b / sc - a)))), .val (.imm (.int i))]) := by
      unfold B__law_near_1
      cases o with
      | true => simp -implicitDefEqProofs only [q00,q01,q02,q03,q04,q05,q06,q07,q08,q09,q0a,q0b,q0c,q0d,q0e,q0f,q0g,q0h,q0i,q0j,q0k,q0l,q0m,q0n,q0o,q0p,q0q,q0r,q0s,q0t,q0u,q0v,q0w,q0x,q0y,q0z,q0A,q0B,q0C,q0D,q0E,q0F,q0G,q0H,q0I,q0J,q0K,q0L,q0M,q0N,q0O,q0P,q0Q,q0R,q0S,q0T,FL.toDs_imms,FL.imms_imms,q0U,q0V,q0W,q0X,q0Y,q0Z,q10q,q11,q12,q13,q14,q15,q16,q17,q18,q19,q1a,q1b,q1c,q1d,q1e,q1f,q1g,q1h,q1i,q1j,q1k,q1l,q1m,q1n,q1o,q1p,q1q,q1r,q1s,q1t,q1u,q1v,q1w,q1x,q1y,q1z,q1A,q1B,q1C,q1D,q1E,q1F,q1G,q1H,q1I,q1J,q1K,q1L,q1M,q1N,q1O,q1P,q1Q,q1R,q1S,q1T,q1U,q1V,q1W,q1X,q1Y,q1Z,q20,q21,q22,q23,q24,q25,q26,q27,q28,q29,q2a,q2bq,q2c,q2d,q2e,q2f,q2g,q2h,q2i,q2j,q2k,q2l,q2m,q2n,q2o,q2p,q2q,q2r,q2s,q2t,q2u,q2v,q2w,q2x,q2y,q2z,q2A,q2B,q2C,q2D,q2E,q2F,q2G,q2H,q2I,q2J,q2K,q2L,q2M,q2N,q2O,q2P,q2Q,q2R,q2S,q2T,q2U,q2V,q2W,q2X,q2Y,q2Z,q30,q31,q32,q33,q34,q35,q36,q37,q38,q39,q3a,q3b,q3c,q3d,q3e,q3f,q3g,q3h,q3i,FL.callD,Option.bind_some,Option.bind_none,List.getElem?_cons_zero,List.getElem?_cons_succ,List.getElem?_nil,List.set_cons_zero,List.set_cons_succ,List.length_cons,List.length_nil,List.filterMap_cons,List.filterMap_nil,decide_eq_true_eq,if_true,if_false,true_and,and_true,Nat.reduceAdd,Nat.reduceLeDiff,Nat.reduceEqDiff,↓reduceIte,Bool.false_eq_true,FL.startE,FL.backs,List.map_cons,List.map_nil,List.cons_append,List.nil_append,Nat.reduceSub,List.replicate_succ,List.replicate_zero,List.nodup_nil,List.nodup_cons,List.not_mem_nil,not_false_eq_true,and_self,reduceCtorEq,Option.map_some,Option.map_none,lenT_tab,lenT_row,m1,d1,Bool.true_and]
      | false => simp -implicitDefEqProofs only [q00,q01,q02,q03,q04,q05,q06,q07,q08,q09,q0a,q0b,q0c,q0d,q0e,q0f,q0g,q0h,q0i,q0j,q0k,q0l,q0m,q0n,q0o,q0p,q0q,q0r,q0s,q0t,q0u,q0v,q0w,q0x,q0y,q0z,q0A,q0B,q0C,q0D,q0E,q0F,q0G,q0H,q0I,q0J,q0K,q0L,q0M,q0N,q0O,q0P,q0Q,q0R,q0S,q0T,FL.toDs_imms,FL.imms_imms,q0U,q0V,q0W,q0X,q0Y,q0Z,q10q,q11,q12,q13,q14,q15,q16,q17,q18,q19,q1a,q1b,q1c,q1d,q1e,q1f,q1g,q1h,q1i,q1j,q1k,q1l,q1m,q1n,q1o,q1p,q1q,q1r,q1s,q1t,q1u,q1v,q1w,q1x,q1y,q1z,q1A,q1B,q1C,q1D,q1E,q1F,q1G,q1H,q1I,q1J,q1K,q1L,q1M,q1N,q1O,q1P,q1Q,q1R,q1S,q1T,q1U,q1V,q1W,q1X,q1Y,q1Z,q20,q21,q22,q23,q24,q25,q26,q27,q28,q29,q2a,q2bq,q2c,q2d,q2e,q2f,q2g,q2h,q2i,q2j,q2k,q2l,q2m,q2n,q2o,q2p,q2q,q2r,q2s,q2t,q2u,q2v,q2w,q2x,q2y,q2z,q2A,q2B,q2C,q2D,q2E,q2F,q2G,q2H,q2I,q2J,q2K,q2L,q2M,q2N,q2O,q2P,q2Q,q2R,q2S,q2T,q2U,q2V,q2W,q2X,q2Y,q2Z,q30,q31,q32,q33,q34,q35,q36,q37,q38,q39,q3a,q3b,q3c,q3d,q3e,q3f,q3g,q3h,q3i,FL.callD,Option.bind_some,Option.bind_none,List.getElem?_cons_zero,List.getElem?_cons_succ,List.getElem?_nil,List.set_cons_zero,List.set_cons_succ,List.length_cons,List.length_nil,List.filterMap_cons,List.filterMap_nil,decide_eq_true_eq,if_true,if_false,true_and,and_true,Nat.reduceAdd,Nat.reduceLeDiff,Nat.reduceEqDiff,↓reduceIte,Bool.false_eq_true,FL.startE,FL.backs,List.map_cons,List.map_nil,List.cons_append,List.nil_append,Nat.reduceSub,List.replicate_succ,List.replicate_zero,List.nodup_nil,List.nodup_cons,List.not_mem_nil,not_false_eq_true,and_self,reduceCtorEq,Option.map_some,Option.map_none,lenT_tab,lenT_row,m1,d1,Bool.false_and]
    rw [forD, nm, Option.bind_some, eB]
    exact e
theorem s40_bd : Bd 134 (s40 : Int) := by unfold Bd s40; decide
theorem bisN_succ (km sc f lo hi : Nat) : bisN km sc (f + 1) lo hi = bif Nat.ble (hi - lo) 1 then (lo, hi) else bif overN ((lo + hi) / 2) sc (km - 2) sc ((lo + hi) / 2) then bisN km sc f lo ((lo + hi) / 2) else bisN km sc f ((lo + hi) / 2) hi := rfl
theorem near_loop {M : Nat} (h1 : 3 ≤ M) (h2 : M ≤ 180) : ∀ (f lo hi : Nat) (x4 x5 x6 x7 x8 : Option Tr), lo ≤ hi → hi - lo ≤ 2 ^ f → hi ≤ 2 * s40 →
    ∃ y4 y5 y6 y7 y8, whileF (mTest (mOp fGt (mER (mOp fSub (mVar 3) (mVar 2))) (mER (mC (.int 1))))) B__law_near_2 (f + 1) [.val (.imm (.int (M : Nat))), .val (.imm (.int (s40 : Nat))), .val (.imm (.int (lo : Nat))), .val (.imm (.int (hi : Nat))), ov x4, ov x5, ov x6, ov x7, ov x8] = some (.nx [.val (.imm (.int (M : Nat))), .val (.imm (.int (s40 : Nat))), .val (.imm (.int ((bisN M s40 f lo hi).1 : Nat))), .val (.imm (.int ((bisN M s40 f lo hi).2 : Nat))), ov y4, ov y5, ov y6, ov y7, ov y8]) ∧ (bisN M s40 f lo hi).2 ≤ 2 * s40 ∧ (bisN M s40 f lo hi).1 ≤ 2 * s40
  | 0, lo, hi, x4, x5, x6, x7, x8, hle, hd, hh => by
    refine ⟨x4, x5, x6, x7, x8, ?_, hh, by show lo ≤ _; omega⟩
    have nt : ¬ (1 : Int) < (hi : Nat) - (lo : Nat) := by
      rw [Nat.pow_zero] at hd
      omega
    show _ = some (Out.nx [_, _, .val (.imm (.int (lo : Nat))), .val (.imm (.int (hi : Nat))), _, _, _, _, _])
    rw [whileF]
    simp -implicitDefEqProofs only [q00,q01,q02,q03,q04,q05,q06,q07,q08,q09,q0a,q0b,q0c,q0d,q0e,q0f,q0g,q0h,q0i,q0j,q0k,q0l,q0m,q0n,q0o,q0p,q0q,q0r,q0s,q0t,q0u,q0v,q0w,q0x,q0y,q0z,q0A,q0B,q0C,q0D,q0E,q0F,q0G,q0H,q0I,q0J,q0K,q0L,q0M,q0N,q0O,q0P,q0Q,q0R,q0S,q0T,FL.toDs_imms,FL.imms_imms,q0U,q0V,q0W,q0X,q0Y,q0Z,q10q,q11,q12,q13,q14,q15,q16,q17,q18,q19,q1a,q1b,q1c,q1d,q1e,q1f,q1g,q1h,q1i,q1j,q1k,q1l,q1m,q1n,q1o,q1p,q1q,q1r,q1s,q1t,q1u,q1v,q1w,q1x,q1y,q1z,q1A,q1B,q1C,q1D,q1E,q1F,q1G,q1H,q1I,q1J,q1K,q1L,q1M,q1N,q1O,q1P,q1Q,q1R,q1S,q1T,q1U,q1V,q1W,q1X,q1Y,q1Z,q20,q21,q22,q23,q24,q25,q26,q27,q28,q29,q2a,q2bq,q2c,q2d,q2e,q2f,q2g,q2h,q2i,q2j,q2k,q2l,q2m,q2n,q2o,q2p,q2q,q2r,q2s,q2t,q2u,q2v,q2w,q2x,q2y,q2z,q2A,q2B,q2C,q2D,q2E,q2F,q2G,q2H,q2I,q2J,q2K,q2L,q2M,q2N,q2O,q2P,q2Q,q2R,q2S,q2T,q2U,q2V,q2W,q2X,q2Y,q2Z,q30,q31,q32,q33,q34,q35,q36,q37,q38,q39,q3a,q3b,q3c,q3d,q3e,q3f,q3g,q3h,q3i,FL.callD,Option.bind_some,Option.bind_none,List.getElem?_cons_zero,List.getElem?_cons_succ,List.getElem?_nil,List.set_cons_zero,List.set_cons_succ,List.length_cons,List.length_nil,List.filterMap_cons,List.filterMap_nil,decide_eq_true_eq,if_true,if_false,true_and,and_true,Nat.reduceAdd,Nat.reduceLeDiff,Nat.reduceEqDiff,↓reduceIte,Bool.false_eq_true,FL.startE,FL.backs,List.map_cons,List.map_nil,List.cons_append,List.nil_append,Nat.reduceSub,List.replicate_succ,List.replicate_zero,List.nodup_nil,List.nodup_cons,List.not_mem_nil,not_false_eq_true,and_self,reduceCtorEq,Option.map_some,Option.map_none,lenT_tab,lenT_row,nt,decide_false]
  | f + 1, lo, hi, x4, x5, x6, x7, x8, hle, hd, hh => by
    by_cases hs : hi - lo ≤ 1
    · refine ⟨x4, x5, x6, x7, x8, ?_, ?_⟩
      · have nt : ¬ (1 : Int) < (hi : Nat) - (lo : Nat) := by omega
        rw [bisN_succ, Nat.ble_eq_true_of_le hs]
        show _ = some (Out.nx [_, _, .val (.imm (.int (lo : Nat))), .val (.imm (.int (hi : Nat))), _, _, _, _, _])
        rw [whileF]
        simp -implicitDefEqProofs only [q00,q01,q02,q03,q04,q05,q06,q07,q08,q09,q0a,q0b,q0c,q0d,q0e,q0f,q0g,q0h,q0i,q0j,q0k,q0l,q0m,q0n,q0o,q0p,q0q,q0r,q0s,q0t,q0u,q0v,q0w,q0x,q0y,q0z,q0A,q0B,q0C,q0D,q0E,q0F,q0G,q0H,q0I,q0J,q0K,q0L,q0M,q0N,q0O,q0P,q0Q,q0R,q0S,q0T,FL.toDs_imms,FL.imms_imms,q0U,q0V,q0W,q0X,q0Y,q0Z,q10q,q11,q12,q13,q14,q15,q16,q17,q18,q19,q1a,q1b,q1c,q1d,q1e,q1f,q1g,q1h,q1i,q1j,q1k,q1l,q1m,q1n,q1o,q1p,q1q,q1r,q1s,q1t,q1u,q1v,q1w,q1x,q1y,q1z,q1A,q1B,q1C,q1D,q1E,q1F,q1G,q1H,q1I,q1J,q1K,q1L,q1M,q1N,q1O,q1P,q1Q,q1R,q1S,q1T,q1U,q1V,q1W,q1X,q1Y,q1Z,q20,q21,q22,q23,q24,q25,q26,q27,q28,q29,q2a,q2bq,q2c,q2d,q2e,q2f,q2g,q2h,q2i,q2j,q2k,q2l,q2m,q2n,q2o,q2p,q2q,q2r,q2s,q2t,q2u,q2v,q2w,q2x,q2y,q2z,q2A,q2B,q2C,q2D,q2E,q2F,q2G,q2H,q2I,q2J,q2K,q2L,q2M,q2N,q2O,q2P,q2Q,q2R,q2S,q2T,q2U,q2V,q2W,q2X,q2Y,q2Z,q30,q31,q32,q33,q34,q35,q36,q37,q38,q39,q3a,q3b,q3c,q3d,q3e,q3f,q3g,q3h,q3i,FL.callD,Option.bind_some,Option.bind_none,List.getElem?_cons_zero,List.getElem?_cons_succ,List.getElem?_nil,List.set_cons_zero,List.set_cons_succ,List.length_cons,List.length_nil,List.filterMap_cons,List.filterMap_nil,decide_eq_true_eq,if_true,if_false,true_and,and_true,Nat.reduceAdd,Nat.reduceLeDiff,Nat.reduceEqDiff,↓reduceIte,Bool.false_eq_true,FL.startE,FL.backs,List.map_cons,List.map_nil,List.cons_append,List.nil_append,Nat.reduceSub,List.replicate_succ,List.replicate_zero,List.nodup_nil,List.nodup_cons,List.not_mem_nil,not_false_eq_true,and_self,reduceCtorEq,Option.map_some,Option.map_none,lenT_tab,lenT_row,nt,decide_false]
      · rw [bisN_succ, Nat.ble_eq_true_of_le hs]
        exact ⟨hh, by show lo ≤ _; omega⟩
    · have hb : Nat.ble (hi - lo) 1 = false := by
        cases hc : Nat.ble (hi - lo) 1 with
        | false => rfl
        | true => exact absurd (Nat.le_of_ble_eq_true hc) hs
      have nt : (1 : Int) < (hi : Nat) - (lo : Nat) := by omega
      have e2 : (2 : Nat) ^ (f + 1) = 2 * 2 ^ f := by rw [Nat.pow_succ, Nat.mul_comm]
      have hd2 : hi - lo ≤ 2 * 2 ^ f := by rw [← e2]; exact hd
      have dv := v_divI (a := (lo : Int) + (hi : Int)) (b := 2) (cdiv_ok (n := 10) (by decide) (by unfold Bd; decide) (by decide))
      have ec : ((lo : Int) + (hi : Int)) / 2 = (((lo + hi) / 2 : Nat) : Int) := by omega
      rw [ec] at dv
      have s0 : (0 : Int) < (s40 : Nat) := by unfold s40; decide
      have bs : Bd 140 ((s40 : Nat) : Int) := s40_bd.mono (by omega)
      have hm : (lo + hi) / 2 ≤ 2 * s40 := by omega
      have bm : Bd 140 (((lo + hi) / 2 : Nat) : Int) := by
        have : (2 * s40 : Nat) < 2 ^ 140 := by unfold s40; decide
        unfold Bd
        omega
      have rg := fun E => v_rgN (n := M - 2) (by omega) (E := E)
      rw [show ((M - 2 : Nat) : Int) = (M : Int) - 2 by omega] at rg
      obtain ⟨a', b', y8, e⟩ := near_inner (.val (.imm (.int (M : Nat)))) (.val (.imm (.int (lo : Nat)))) (.val (.imm (.int (hi : Nat)))) (((lo + hi) / 2 : Nat) : Int) (s40 : Nat) s0 bs bm (rangeD 0 (M - 2)) (fun d hd => by
        unfold rangeD at hd
        obtain ⟨i, _, rfl⟩ := List.mem_map.mp hd
        exact ⟨_, rfl⟩) (s40 : Nat) (((lo + hi) / 2 : Nat) : Int) true 140 x8 bs bm (by rw [rangeD_len]; omega)
      rw [rangeD_len, itF_over] at e
      cases ho : overN ((lo + hi) / 2) s40 (M - 2) s40 ((lo + hi) / 2) with
      | true =>
        rw [ho] at e
        obtain ⟨y4, y5, y6, y7, y9, e3, k1, k2⟩ := near_loop h1 h2 f lo ((lo + hi) / 2) (some (.imm (.int (((lo + hi) / 2 : Nat) : Int)))) (some (.imm (.int a'))) (some (.imm (.int b'))) (some (.imm (.bool true))) y8 (by omega) (by omega) hm
        have er : bisN M s40 (f + 1) lo hi = bisN M s40 f lo ((lo + hi) / 2) := by rw [bisN_succ, hb, ho]; rfl
        rw [er]
        refine ⟨y4, y5, y6, y7, y9, ?_, k1, k2⟩
        have eB : B__law_near_2 [.val (.imm (.int (M : Nat))), .val (.imm (.int (s40 : Nat))), .val (.imm (.int (lo : Nat))), .val (.imm (.int (hi : Nat))), ov x4, ov x5, ov x6, ov x7, ov x8] = some (.nx [.val (.imm (.int (M : Nat))), .val (.imm (.int (s40 : Nat))), .val (.imm (.int (lo : Nat))), .val (.imm (.int (((lo + hi) / 2 : Nat) : Int))), .val (.imm (.int (((lo + hi) / 2 : Nat) : Int))), .val (.imm (.int a')), .val (.imm (.int b')), .val (.imm (.bool true)), ov y8]) := by
          clear e3
          unfold B__law_near_2
          generalize ((s40 : Nat) : Int) = S at *
          generalize (((lo + hi) / 2 : Nat) : Int) = h at *
          simp -implicitDefEqProofs only [q00,q01,q02,q03,q04,q05,q06,q07,q08,q09,q0a,q0b,q0c,q0d,q0e,q0f,q0g,q0h,q0i,q0j,q0k,q0l,q0m,q0n,q0o,q0p,q0q,q0r,q0s,q0t,q0u,q0v,q0w,q0x,q0y,q0z,q0A,q0B,q0C,q0D,q0E,q0F,q0G,q0H,q0I,q0J,q0K,q0L,q0M,q0N,q0O,q0P,q0Q,q0R,q0S,q0T,FL.toDs_imms,FL.imms_imms,q0U,q0V,q0W,q0X,q0Y,q0Z,q10q,q11,q12,q13,q14,q15,q16,q17,q18,q19,q1a,q1b,q1c,q1d,q1e,q1f,q1g,q1h,q1i,q1j,q1k,q1l,q1m,q1n,q1o,q1p,q1q,q1r,q1s,q1t,q1u,q1v,q1w,q1x,q1y,q1z,q1A,q1B,q1C,q1D,q1E,q1F,q1G,q1H,q1I,q1J,q1K,q1L,q1M,q1N,q1O,q1P,q1Q,q1R,q1S,q1T,q1U,q1V,q1W,q1X,q1Y,q1Z,q20,q21,q22,q23,q24,q25,q26,q27,q28,q29,q2a,q2bq,q2c,q2d,q2e,q2f,q2g,q2h,q2i,q2j,q2k,q2l,q2m,q2n,q2o,q2p,q2q,q2r,q2s,q2t,q2u,q2v,q2w,q2x,q2y,q2z,q2A,q2B,q2C,q2D,q2E,q2F,q2G,q2H,q2I,q2J,q2K,q2L,q2M,q2N,q2O,q2P,q2Q,q2R,q2S,q2T,q2U,q2V,q2W,q2X,q2Y,q2Z,q30,q31,q32,q33,q34,q35,q36,q37,q38,q39,q3a,q3b,q3c,q3d,q3e,q3f,q3g,q3h,q3i,FL.callD,Option.bind_some,Option.bind_none,List.getElem?_cons_zero,List.getElem?_cons_succ,List.getElem?_nil,List.set_cons_zero,List.set_cons_succ,List.length_cons,List.length_nil,List.filterMap_cons,List.filterMap_nil,decide_eq_true_eq,if_true,if_false,true_and,and_true,Nat.reduceAdd,Nat.reduceLeDiff,Nat.reduceEqDiff,↓reduceIte,Bool.false_eq_true,FL.startE,FL.backs,List.map_cons,List.map_nil,List.cons_append,List.nil_append,Nat.reduceSub,List.replicate_succ,List.replicate_zero,List.nodup_nil,List.nodup_cons,List.not_mem_nil,not_false_eq_true,and_self,reduceCtorEq,Option.map_some,Option.map_none,lenT_tab,lenT_row,dv,rg,e]
        clear e
        generalize bisN M s40 f lo ((lo + hi) / 2) = R at *
        generalize ((s40 : Nat) : Int) = S at *
        generalize (((lo + hi) / 2 : Nat) : Int) = h at *
        rw [whileF]
        simp -implicitDefEqProofs only [q00,q01,q02,q03,q04,q05,q06,q07,q08,q09,q0a,q0b,q0c,q0d,q0e,q0f,q0g,q0h,q0i,q0j,q0k,q0l,q0m,q0n,q0o,q0p,q0q,q0r,q0s,q0t,q0u,q0v,q0w,q0x,q0y,q0z,q0A,q0B,q0C,q0D,q0E,q0F,q0G,q0H,q0I,q0J,q0K,q0L,q0M,q0N,q0O,q0P,q0Q,q0R,q0S,q0T,FL.toDs_imms,FL.imms_imms,q0U,q0V,q0W,q0X,q0Y,q0Z,q10q,q11,q12,q13,q14,q15,q16,q17,q18,q19,q1a,q1b,q1c,q1d,q1e,q1f,q1g,q1h,q1i,q1j,q1k,q1l,q1m,q1n,q1o,q1p,q1q,q1r,q1s,q1t,q1u,q1v,q1w,q1x,q1y,q1z,q1A,q1B,q1C,q1D,q1E,q1F,q1G,q1H,q1I,q1J,q1K,q1L,q1M,q1N,q1O,q1P,q1Q,q1R,q1S,q1T,q1U,q1V,q1W,q1X,q1Y,q1Z,q20,q21,q22,q23,q24,q25,q26,q27,q28,q29,q2a,q2bq,q2c,q2d,q2e,q2f,q2g,q2h,q2i,q2j,q2k,q2l,q2m,q2n,q2o,q2p,q2q,q2r,q2s,q2t,q2u,q2v,q2w,q2x,q2y,q2z,q2A,q2B,q2C,q2D,q2E,q2F,q2G,q2H,q2I,q2J,q2K,q2L,q2M,q2N,q2O,q2P,q2Q,q2R,q2S,q2T,q2U,q2V,q2W,q2X,q2Y,q2Z,q30,q31,q32,q33,q34,q35,q36,q37,q38,q39,q3a,q3b,q3c,q3d,q3e,q3f,q3g,q3h,q3i,FL.callD,Option.bind_some,Option.bind_none,List.getElem?_cons_zero,List.getElem?_cons_succ,List.getElem?_nil,List.set_cons_zero,List.set_cons_succ,List.length_cons,List.length_nil,List.filterMap_cons,List.filterMap_nil,decide_eq_true_eq,if_true,if_false,true_and,and_true,Nat.reduceAdd,Nat.reduceLeDiff,Nat.reduceEqDiff,↓reduceIte,Bool.false_eq_true,FL.startE,FL.backs,List.map_cons,List.map_nil,List.cons_append,List.nil_append,Nat.reduceSub,List.replicate_succ,List.replicate_zero,List.nodup_nil,List.nodup_cons,List.not_mem_nil,not_false_eq_true,and_self,reduceCtorEq,Option.map_some,Option.map_none,lenT_tab,lenT_row,nt,decide_true,eB,afterTurn]
        exact e3
      | false =>
        rw [ho] at e
        obtain ⟨y4, y5, y6, y7, y9, e3, k1, k2⟩ := near_loop h1 h2 f ((lo + hi) / 2) hi (some (.imm (.int (((lo + hi) / 2 : Nat) : Int)))) (some (.imm (.int a'))) (some (.imm (.int b'))) (some (.imm (.bool false))) y8 (by omega) (by omega) hh
        have er : bisN M s40 (f + 1) lo hi = bisN M s40 f ((lo + hi) / 2) hi := by rw [bisN_succ, hb, ho]; rfl
        rw [er]
        refine ⟨y4, y5, y6, y7, y9, ?_, k1, k2⟩
        have eB : B__law_near_2 [.val (.imm (.int (M : Nat))), .val (.imm (.int (s40 : Nat))), .val (.imm (.int (lo : Nat))), .val (.imm (.int (hi : Nat))), ov x4, ov x5, ov x6, ov x7, ov x8] = some (.nx [.val (.imm (.int (M : Nat))), .val (.imm (.int (s40 : Nat))), .val (.imm (.int (((lo + hi) / 2 : Nat) : Int))), .val (.imm (.int (hi : Nat))), .val (.imm (.int (((lo + hi) / 2 : Nat) : Int))), .val (.imm (.int a')), .val (.imm (.int b')), .val (.imm (.bool false)), ov y8]) := by
          clear e3
          unfold B__law_near_2
          generalize ((s40 : Nat) : Int) = S at *
          generalize (((lo + hi) / 2 : Nat) : Int) = h at *
          simp -implicitDefEqProofs only [q00,q01,q02,q03,q04,q05,q06,q07,q08,q09,q0a,q0b,q0c,q0d,q0e,q0f,q0g,q0h,q0i,q0j,q0k,q0l,q0m,q0n,q0o,q0p,q0q,q0r,q0s,q0t,q0u,q0v,q0w,q0x,q0y,q0z,q0A,q0B,q0C,q0D,q0E,q0F,q0G,q0H,q0I,q0J,q0K,q0L,q0M,q0N,q0O,q0P,q0Q,q0R,q0S,q0T,FL.toDs_imms,FL.imms_imms,q0U,q0V,q0W,q0X,q0Y,q0Z,q10q,q11,q12,q13,q14,q15,q16,q17,q18,q19,q1a,q1b,q1c,q1d,q1e,q1f,q1g,q1h,q1i,q1j,q1k,q1l,q1m,q1n,q1o,q1p,q1q,q1r,q1s,q1t,q1u,q1v,q1w,q1x,q1y,q1z,q1A,q1B,q1C,q1D,q1E,q1F,q1G,q1H,q1I,q1J,q1K,q1L,q1M,q1N,q1O,q1P,q1Q,q1R,q1S,q1T,q1U,q1V,q1W,q1X,q1Y,q1Z,q20,q21,q22,q23,q24,q25,q26,q27,q28,q29,q2a,q2bq,q2c,q2d,q2e,q2f,q2g,q2h,q2i,q2j,q2k,q2l,q2m,q2n,q2o,q2p,q2q,q2r,q2s,q2t,q2u,q2v,q2w,q2x,q2y,q2z,q2A,q2B,q2C,q2D,q2E,q2F,q2G,q2H,q2I,q2J,q2K,q2L,q2M,q2N,q2O,q2P,q2Q,q2R,q2S,q2T,q2U,q2V,q2W,q2X,q2Y,q2Z,q30,q31,q32,q33,q34,q35,q36,q37,q38,q39,q3a,q3b,q3c,q3d,q3e,q3f,q3g,q3h,q3i,FL.callD,Option.bind_some,Option.bind_none,List.getElem?_cons_zero,List.getElem?_cons_succ,List.getElem?_nil,List.set_cons_zero,List.set_cons_succ,List.length_cons,List.length_nil,List.filterMap_cons,List.filterMap_nil,decide_eq_true_eq,if_true,if_false,true_and,and_true,Nat.reduceAdd,Nat.reduceLeDiff,Nat.reduceEqDiff,↓reduceIte,Bool.false_eq_true,FL.startE,FL.backs,List.map_cons,List.map_nil,List.cons_append,List.nil_append,Nat.reduceSub,List.replicate_succ,List.replicate_zero,List.nodup_nil,List.nodup_cons,List.not_mem_nil,not_false_eq_true,and_self,reduceCtorEq,Option.map_some,Option.map_none,lenT_tab,lenT_row,dv,rg,e]
        clear e
        generalize bisN M s40 f ((lo + hi) / 2) hi = R at *
        generalize ((s40 : Nat) : Int) = S at *
        generalize (((lo + hi) / 2 : Nat) : Int) = h at *
        rw [whileF]
        simp -implicitDefEqProofs only [q00,q01,q02,q03,q04,q05,q06,q07,q08,q09,q0a,q0b,q0c,q0d,q0e,q0f,q0g,q0h,q0i,q0j,q0k,q0l,q0m,q0n,q0o,q0p,q0q,q0r,q0s,q0t,q0u,q0v,q0w,q0x,q0y,q0z,q0A,q0B,q0C,q0D,q0E,q0F,q0G,q0H,q0I,q0J,q0K,q0L,q0M,q0N,q0O,q0P,q0Q,q0R,q0S,q0T,FL.toDs_imms,FL.imms_imms,q0U,q0V,q0W,q0X,q0Y,q0Z,q10q,q11,q12,q13,q14,q15,q16,q17,q18,q19,q1a,q1b,q1c,q1d,q1e,q1f,q1g,q1h,q1i,q1j,q1k,q1l,q1m,q1n,q1o,q1p,q1q,q1r,q1s,q1t,q1u,q1v,q1w,q1x,q1y,q1z,q1A,q1B,q1C,q1D,q1E,q1F,q1G,q1H,q1I,q1J,q1K,q1L,q1M,q1N,q1O,q1P,q1Q,q1R,q1S,q1T,q1U,q1V,q1W,q1X,q1Y,q1Z,q20,q21,q22,q23,q24,q25,q26,q27,q28,q29,q2a,q2bq,q2c,q2d,q2e,q2f,q2g,q2h,q2i,q2j,q2k,q2l,q2m,q2n,q2o,q2p,q2q,q2r,q2s,q2t,q2u,q2v,q2w,q2x,q2y,q2z,q2A,q2B,q2C,q2D,q2E,q2F,q2G,q2H,q2I,q2J,q2K,q2L,q2M,q2N,q2O,q2P,q2Q,q2R,q2S,q2T,q2U,q2V,q2W,q2X,q2Y,q2Z,q30,q31,q32,q33,q34,q35,q36,q37,q38,q39,q3a,q3b,q3c,q3d,q3e,q3f,q3g,q3h,q3i,FL.callD,Option.bind_some,Option.bind_none,List.getElem?_cons_zero,List.getElem?_cons_succ,List.getElem?_nil,List.set_cons_zero,List.set_cons_succ,List.length_cons,List.length_nil,List.filterMap_cons,List.filterMap_nil,decide_eq_true_eq,if_true,if_false,true_and,and_true,Nat.reduceAdd,Nat.reduceLeDiff,Nat.reduceEqDiff,↓reduceIte,Bool.false_eq_true,FL.startE,FL.backs,List.map_cons,List.map_nil,List.cons_append,List.nil_append,Nat.reduceSub,List.replicate_succ,List.replicate_zero,List.nodup_nil,List.nodup_cons,List.not_mem_nil,not_false_eq_true,and_self,reduceCtorEq,Option.map_some,Option.map_none,lenT_tab,lenT_row,nt,decide_true,eB,afterTurn]
        exact e3
end WK
namespace WK
open PySem L2 FL
theorem near_one {M : Nat} (h1 : 3 ≤ M) (h2 : M ≤ 180) : mFn 9 m__law_near [.imm (.int (M : Nat)), .imm (.int (s40 : Nat))] = some (.imm (.tuple [.int (((bisN M s40 134 s40 (2 * s40)).1 : Nat) - 1000000), .int (((bisN M s40 134 s40 (2 * s40)).2 : Nat) + 1000000)]), [.imm (.int (M : Nat)), .imm (.int (s40 : Nat))]) ∧ (bisN M s40 134 s40 (2 * s40)).2 ≤ 2 * s40 ∧ (bisN M s40 134 s40 (2 * s40)).1 ≤ 2 * s40 := by
  have hs : 2 * s40 - s40 ≤ 2 ^ 134 := by unfold s40; decide
  obtain ⟨y4, y5, y6, y7, y8, e, k1, k2⟩ := near_loop h1 h2 134 s40 (2 * s40) none none none none none (by omega) hs (Nat.le_refl _)
  refine ⟨?_, k1, k2⟩
  have e := mWhile_of e
  have e : mWhile (mTest (mOp fGt (mER (mOp fSub (mVar 3) (mVar 2))) (mER (mC (.int 1))))) B__law_near_2 [.val (.imm (.int (M : Nat))), .val (.imm (.int (s40 : Nat))), .val (.imm (.int (s40 : Nat))), .val (.imm (.int ((2 * s40 : Nat) : Int))), .no, .no, .no, .no, .no] = _ := e
  have m1 := Bd.fmul (m := 3) (n := 134) (a := 2) (b := ((s40 : Nat) : Int)) (by unfold Bd; decide) s40_bd (by decide)
  rw [show (2 : Int) * ((s40 : Nat) : Int) = ((2 * s40 : Nat) : Int) by omega] at m1
  have p1 := v_powI (a := 10) (b := 6) (by decide)
  rw [show (10 : Int) ^ Int.toNat 6 = 1000000 from by decide] at p1
  clear hs k1 k2
  generalize bisN M s40 134 s40 (2 * s40) = R at *
  generalize ((2 * s40 : Nat) : Int) = S2 at *
  generalize ((s40 : Nat) : Int) = S at *
  rw [v_fn]
  unfold m__law_near
  simp -implicitDefEqProofs only [q00,q01,q02,q03,q04,q05,q06,q07,q08,q09,q0a,q0b,q0c,q0d,q0e,q0f,q0g,q0h,q0i,q0j,q0k,q0l,q0m,q0n,q0o,q0p,q0q,q0r,q0s,q0t,q0u,q0v,q0w,q0x,q0y,q0z,q0A,q0B,q0C,q0D,q0E,q0F,q0G,q0H,q0I,q0J,q0K,q0L,q0M,q0N,q0O,q0P,q0Q,q0R,q0S,q0T,FL.toDs_imms,FL.imms_imms,q0U,q0V,q0W,q0X,q0Y,q0Z,q10q,q11,q12,q13,q14,q15,q16,q17,q18,q19,q1a,q1b,q1c,q1d,q1e,q1f,q1g,q1h,q1i,q1j,q1k,q1l,q1m,q1n,q1o,q1p,q1q,q1r,q1s,q1t,q1u,q1v,q1w,q1x,q1y,q1z,q1A,q1B,q1C,q1D,q1E,q1F,q1G,q1H,q1I,q1J,q1K,q1L,q1M,q1N,q1O,q1P,q1Q,q1R,q1S,q1T,q1U,q1V,q1W,q1X,q1Y,q1Z,q20,q21,q22,q23,q24,q25,q26,q27,q28,q29,q2a,q2bq,q2c,q2d,q2e,q2f,q2g,q2h,q2i,q2j,q2k,q2l,q2m,q2n,q2o,q2p,q2q,q2r,q2s,q2t,q2u,q2v,q2w,q2x,q2y,q2z,q2A,q2B,q2C,q2D,q2E,q2F,q2G,q2H,q2I,q2J,q2K,q2L,q2M,q2N,q2O,q2P,q2Q,q2R,q2S,q2T,q2U,q2V,q2W,q2X,q2Y,q2Z,q30,q31,q32,q33,q34,q35,q36,q37,q38,q39,q3a,q3b,q3c,q3d,q3e,q3f,q3g,q3h,q3i,FL.callD,Option.bind_some,Option.bind_none,List.getElem?_cons_zero,List.getElem?_cons_succ,List.getElem?_nil,List.set_cons_zero,List.set_cons_succ,List.length_cons,List.length_nil,List.filterMap_cons,List.filterMap_nil,decide_eq_true_eq,if_true,if_false,true_and,and_true,Nat.reduceAdd,Nat.reduceLeDiff,Nat.reduceEqDiff,↓reduceIte,Bool.false_eq_true,FL.startE,FL.backs,List.map_cons,List.map_nil,List.cons_append,List.nil_append,Nat.reduceSub,List.replicate_succ,List.replicate_zero,List.nodup_nil,List.nodup_cons,List.not_mem_nil,not_false_eq_true,and_self,reduceCtorEq,Option.map_some,Option.map_none,lenT_tab,lenT_row,m1,e,p1]
theorem v_revSl8 {m : MF} {E : En} : mRevSl m E = (m E).bind fun p => match p.1 with
  | .imm (.tuple ds) => some (.imm (.tuple ds.reverse), p.2)
  | _ => none := rfl
theorem value_loop (P : SL) (top sc : Int) (ht : Bd 137 top) (hs : Bd 134 sc) : ∀ (cs : List Int) (hc : ∀ c ∈ cs, Bd 80 c) (t f : Int) (N : Nat) (x5 : Option Tr), Bd N t → Bd N f → N + 138 * cs.length < 900000 →
    ∃ f' y5, forD (mName 5) B__law_value_1 (cs.map PyData.int) [P, .val (.imm (.int top)), .val (.imm (.int sc)), .val (.imm (.int t)), .val (.imm (.int f)), ov x5] = some (.nx [P, .val (.imm (.int top)), .val (.imm (.int sc)), .val (.imm (.int (valF top sc cs t f))), .val (.imm (.int f')), ov y5])
  | [], _, t, f, N, x5, _, _, _ => ⟨f, x5, rfl⟩
  | c :: cs, hc, t, f, N, x5, bt, bf, hN => by
    rw [List.length_cons] at hN
    have bc := hc c List.mem_cons_self
    have m1 := bt.fmul ht (by omega)
    have m2 := bc.fmul bf (by omega)
    have m3 := bf.fmul hs (by omega)
    have b1 : Bd (N + 138) (t * top + c * f) := Bd.add ((bt.mul ht)) ((bc.mul bf).mono (by omega))
    have b2 : Bd (N + 138) (f * sc) := (bf.mul hs).mono (by omega)
    obtain ⟨f', y5, e⟩ := value_loop P top sc ht hs cs (fun z hz => hc z (List.mem_cons_of_mem _ hz)) (t * top + c * f) (f * sc) (N + 138) (some (.imm (.int c))) b1 b2 (by omega)
    refine ⟨f', y5, ?_⟩
    have nm : (mName 5) (.imm (.int c)) [P, .val (.imm (.int top)), .val (.imm (.int sc)), .val (.imm (.int t)), .val (.imm (.int f)), ov x5] = some [P, .val (.imm (.int top)), .val (.imm (.int sc)), .val (.imm (.int t)), .val (.imm (.int f)), .val (.imm (.int c))] := by simp -implicitDefEqProofs only [q00,q01,q02,q03,q04,q05,q06,q07,q08,q09,q0a,q0b,q0c,q0d,q0e,q0f,q0g,q0h,q0i,q0j,q0k,q0l,q0m,q0n,q0o,q0p,q0q,q0r,q0s,q0t,q0u,q0v,q0w,q0x,q0y,q0z,q0A,q0B,q0C,q0D,q0E,q0F,q0G,q0H,q0I,q0J,q0K,q0L,q0M,q0N,q0O,q0P,q0Q,q0R,q0S,q0T,FL.toDs_imms,FL.imms_imms,q0U,q0V,q0W,q0X,q0Y,q0Z,q10q,q11,q12,q13,q14,q15,q16,q17,q18,q19,q1a,q1b,q1c,q1d,q1e,q1f,q1g,q1h,q1i,q1j,q1k,q1l,q1m,q1n,q1o,q1p,q1q,q1r,q1s,q1t,q1u,q1v,q1w,q1x,q1y,q1z,q1A,q1B,q1C,q1D,q1E,q1F,q1G,q1H,q1I,q1J,q1K,q1L,q1M,q1N,q1O,q1P,q1Q,q1R,q1S,q1T,q1U,q1V,q1W,q1X,q1Y,q1Z,q20,q21,q22,q23,q24,q25,q26,q27,q28,q29,q2a,q2bq,q2c,q2d,q2e,q2f,q2g,q2h,q2i,q2j,q2k,q2l,q2m,q2n,q2o,q2p,q2q,q2r,q2s,q2t,q2u,q2v,q2w,q2x,q2y,q2z,q2A,q2B,q2C,q2D,q2E,q2F,q2G,q2H,q2I,q2J,q2K,q2L,q2M,q2N,q2O,q2P,q2Q,q2R,q2S,q2T,q2U,q2V,q2W,q2X,q2Y,q2Z,q30,q31,q32,q33,q34,q35,q36,q37,q38,q39,q3a,q3b,q3c,q3d,q3e,q3f,q3g,q3h,q3i,FL.callD,Option.bind_some,Option.bind_none,List.getElem?_cons_zero,List.getElem?_cons_succ,List.getElem?_nil,List.set_cons_zero,List.set_cons_succ,List.length_cons,List.length_nil,List.filterMap_cons,List.filterMap_nil,decide_eq_true_eq,if_true,if_false,true_and,and_true,Nat.reduceAdd,Nat.reduceLeDiff,Nat.reduceEqDiff,↓reduceIte,Bool.false_eq_true,FL.startE,FL.backs,List.map_cons,List.map_nil,List.cons_append,List.nil_append,Nat.reduceSub,List.replicate_succ,List.replicate_zero,List.nodup_nil,List.nodup_cons,List.not_mem_nil,not_false_eq_true,and_self,reduceCtorEq,Option.map_some,Option.map_none,lenT_tab,lenT_row]
    have eB : B__law_value_1 [P, .val (.imm (.int top)), .val (.imm (.int sc)), .val (.imm (.int t)), .val (.imm (.int f)), .val (.imm (.int c))] = some (.nx [P, .val (.imm (.int top)), .val (.imm (.int sc)), .val (.imm (.int (t * top + c * f))), .val (.imm (.int (f * sc))), .val (.imm (.int c))]) := by
      unfold B__law_value_1
      simp -implicitDefEqProofs only [q00,q01,q02,q03,q04,q05,q06,q07,q08,q09,q0a,q0b,q0c,q0d,q0e,q0f,q0g,q0h,q0i,q0j,q0k,q0l,q0m,q0n,q0o,q0p,q0q,q0r,q0s,q0t,q0u,q0v,q0w,q0x,q0y,q0z,q0A,q0B,q0C,q0D,q0E,q0F,q0G,q0H,q0I,q0J,q0K,q0L,q0M,q0N,q0O,q0P,q0Q,q0R,q0S,q0T,FL.toDs_imms,FL.imms_imms,q0U,q0V,q0W,q0X,q0Y,q0Z,q10q,q11,q12,q13,q14,q15,q16,q17,q18,q19,q1a,q1b,q1c,q1d,q1e,q1f,q1g,q1h,q1i,q1j,q1k,q1l,q1m,q1n,q1o,q1p,q1q,q1r,q1s,q1t,q1u,q1v,q1w,q1x,q1y,q1z,q1A,q1B,q1C,q1D,q1E,q1F,q1G,q1H,q1I,q1J,q1K,q1L,q1M,q1N,q1O,q1P,q1Q,q1R,q1S,q1T,q1U,q1V,q1W,q1X,q1Y,q1Z,q20,q21,q22,q23,q24,q25,q26,q27,q28,q29,q2a,q2bq,q2c,q2d,q2e,q2f,q2g,q2h,q2i,q2j,q2k,q2l,q2m,q2n,q2o,q2p,q2q,q2r,q2s,q2t,q2u,q2v,q2w,q2x,q2y,q2z,q2A,q2B,q2C,q2D,q2E,q2F,q2G,q2H,q2I,q2J,q2K,q2L,q2M,q2N,q2O,q2P,q2Q,q2R,q2S,q2T,q2U,q2V,q2W,q2X,q2Y,q2Z,q30,q31,q32,q33,q34,q35,q36,q37,q38,q39,q3a,q3b,q3c,q3d,q3e,q3f,q3g,q3h,q3i,FL.callD,Option.bind_some,Option.bind_none,List.getElem?_cons_zero,List.getElem?_cons_succ,List.getElem?_nil,List.set_cons_zero,List.set_cons_succ,List.length_cons,List.length_nil,List.filterMap_cons,List.filterMap_nil,decide_eq_true_eq,if_true,if_false,true_and,and_true,Nat.reduceAdd,Nat.reduceLeDiff,Nat.reduceEqDiff,↓reduceIte,Bool.false_eq_true,FL.startE,FL.backs,List.map_cons,List.map_nil,List.cons_append,List.nil_append,Nat.reduceSub,List.replicate_succ,List.replicate_zero,List.nodup_nil,List.nodup_cons,List.not_mem_nil,not_false_eq_true,and_self,reduceCtorEq,Option.map_some,Option.map_none,lenT_tab,lenT_row,m1,m2,m3]
    rw [List.map_cons, forD, nm, Option.bind_some, eB]
    exact e
theorem value_one {p : List Int} {top sc : Int} (hp : BdL 80 p) (hl : p.length < 1000) (ht : Bd 137 top) (hs : Bd 134 sc) : mFn 6 m__law_value [.imm (tI p), .imm (.int top), .imm (.int sc)] = some (.imm (.int (valF top sc p.reverse 0 1)), [.imm (tI p), .imm (.int top), .imm (.int sc)]) := by
  obtain ⟨f', y5, e⟩ := value_loop (.val (.imm (tI p))) top sc ht hs p.reverse (fun c hc => by
    obtain ⟨i, hi, rfl⟩ := List.getElem_of_mem (List.mem_reverse.mp hc)
    have := hp i
    rw [List.getD_eq_getElem?_getD, List.getElem?_eq_getElem hi] at this
    exact this) 0 1 1 none (by unfold Bd; decide) (by unfold Bd; decide) (by rw [List.length_reverse]; omega)
  rw [List.map_reverse] at e
  have e : forD (mName 5) B__law_value_1 (p.map PyData.int).reverse [.val (.imm (tI p)), .val (.imm (.int top)), .val (.imm (.int sc)), .val (.imm (.int 0)), .val (.imm (.int 1)), .no] = _ := e
  have it : itemsD (.tuple (p.map PyData.int).reverse) = some (p.map PyData.int).reverse := rfl
  rw [v_fn]
  unfold m__law_value
  generalize valF top sc p.reverse 0 1 = V at *
  unfold tI at *
  generalize p.map PyData.int = D at *
  simp -implicitDefEqProofs only [q00,q01,q02,q03,q04,q05,q06,q07,q08,q09,q0a,q0b,q0c,q0d,q0e,q0f,q0g,q0h,q0i,q0j,q0k,q0l,q0m,q0n,q0o,q0p,q0q,q0r,q0s,q0t,q0u,q0v,q0w,q0x,q0y,q0z,q0A,q0B,q0C,q0D,q0E,q0F,q0G,q0H,q0I,q0J,q0K,q0L,q0M,q0N,q0O,q0P,q0Q,q0R,q0S,q0T,FL.toDs_imms,FL.imms_imms,q0U,q0V,q0W,q0X,q0Y,q0Z,q10q,q11,q12,q13,q14,q15,q16,q17,q18,q19,q1a,q1b,q1c,q1d,q1e,q1f,q1g,q1h,q1i,q1j,q1k,q1l,q1m,q1n,q1o,q1p,q1q,q1r,q1s,q1t,q1u,q1v,q1w,q1x,q1y,q1z,q1A,q1B,q1C,q1D,q1E,q1F,q1G,q1H,q1I,q1J,q1K,q1L,q1M,q1N,q1O,q1P,q1Q,q1R,q1S,q1T,q1U,q1V,q1W,q1X,q1Y,q1Z,q20,q21,q22,q23,q24,q25,q26,q27,q28,q29,q2a,q2bq,q2c,q2d,q2e,q2f,q2g,q2h,q2i,q2j,q2k,q2l,q2m,q2n,q2o,q2p,q2q,q2r,q2s,q2t,q2u,q2v,q2w,q2x,q2y,q2z,q2A,q2B,q2C,q2D,q2E,q2F,q2G,q2H,q2I,q2J,q2K,q2L,q2M,q2N,q2O,q2P,q2Q,q2R,q2S,q2T,q2U,q2V,q2W,q2X,q2Y,q2Z,q30,q31,q32,q33,q34,q35,q36,q37,q38,q39,q3a,q3b,q3c,q3d,q3e,q3f,q3g,q3h,q3i,FL.callD,Option.bind_some,Option.bind_none,List.getElem?_cons_zero,List.getElem?_cons_succ,List.getElem?_nil,List.set_cons_zero,List.set_cons_succ,List.length_cons,List.length_nil,List.filterMap_cons,List.filterMap_nil,decide_eq_true_eq,if_true,if_false,true_and,and_true,Nat.reduceAdd,Nat.reduceLeDiff,Nat.reduceEqDiff,↓reduceIte,Bool.false_eq_true,FL.startE,FL.backs,List.map_cons,List.map_nil,List.cons_append,List.nil_append,Nat.reduceSub,List.replicate_succ,List.replicate_zero,List.nodup_nil,List.nodup_cons,List.not_mem_nil,not_false_eq_true,and_self,reduceCtorEq,Option.map_some,Option.map_none,lenT_tab,lenT_row,v_revSl8,it,e]
theorem deg_while (T X R : SL) : ∀ (f a b : Nat), b < f → whileF (mTest (mOp fGt (mVar 4) (mER (mC (.int 0))))) B__law_degree_1 f [T, X, R, .val (.imm (.int (a : Nat))), .val (.imm (.int (b : Nat)))] = some (.nx [T, X, R, .val (.imm (.int ((Nat.gcd a b : Nat) : Int))), .val (.imm (.int 0))])
  | 0, a, b, h => by omega
  | f + 1, a, b, h => by
    rw [whileF]
    by_cases hb : b = 0
    · subst hb
      simp -implicitDefEqProofs only [q00,q01,q02,q03,q04,q05,q06,q07,q08,q09,q0a,q0b,q0c,q0d,q0e,q0f,q0g,q0h,q0i,q0j,q0k,q0l,q0m,q0n,q0o,q0p,q0q,q0r,q0s,q0t,q0u,q0v,q0w,q0x,q0y,q0z,q0A,q0B,q0C,q0D,q0E,q0F,q0G,q0H,q0I,q0J,q0K,q0L,q0M,q0N,q0O,q0P,q0Q,q0R,q0S,q0T,FL.toDs_imms,FL.imms_imms,q0U,q0V,q0W,q0X,q0Y,q0Z,q10q,q11,q12,q13,q14,q15,q16,q17,q18,q19,q1a,q1b,q1c,q1d,q1e,q1f,q1g,q1h,q1i,q1j,q1k,q1l,q1m,q1n,q1o,q1p,q1q,q1r,q1s,q1t,q1u,q1v,q1w,q1x,q1y,q1z,q1A,q1B,q1C,q1D,q1E,q1F,q1G,q1H,q1I,q1J,q1K,q1L,q1M,q1N,q1O,q1P,q1Q,q1R,q1S,q1T,q1U,q1V,q1W,q1X,q1Y,q1Z,q20,q21,q22,q23,q24,q25,q26,q27,q28,q29,q2a,q2bq,q2c,q2d,q2e,q2f,q2g,q2h,q2i,q2j,q2k,q2l,q2m,q2n,q2o,q2p,q2q,q2r,q2s,q2t,q2u,q2v,q2w,q2x,q2y,q2z,q2A,q2B,q2C,q2D,q2E,q2F,q2G,q2H,q2I,q2J,q2K,q2L,q2M,q2N,q2O,q2P,q2Q,q2R,q2S,q2T,q2U,q2V,q2W,q2X,q2Y,q2Z,q30,q31,q32,q33,q34,q35,q36,q37,q38,q39,q3a,q3b,q3c,q3d,q3e,q3f,q3g,q3h,q3i,FL.callD,Option.bind_some,Option.bind_none,List.getElem?_cons_zero,List.getElem?_cons_succ,List.getElem?_nil,List.set_cons_zero,List.set_cons_succ,List.length_cons,List.length_nil,List.filterMap_cons,List.filterMap_nil,decide_eq_true_eq,if_true,if_false,true_and,and_true,Nat.reduceAdd,Nat.reduceLeDiff,Nat.reduceEqDiff,↓reduceIte,Bool.false_eq_true,FL.startE,FL.backs,List.map_cons,List.map_nil,List.cons_append,List.nil_append,Nat.reduceSub,List.replicate_succ,List.replicate_zero,List.nodup_nil,List.nodup_cons,List.not_mem_nil,not_false_eq_true,and_self,reduceCtorEq,Option.map_some,Option.map_none,lenT_tab,lenT_row,show ((0 : Nat) : Int) = 0 from rfl,Int.lt_irrefl,decide_false,Nat.gcd_zero_right]
    · have h0 : (0 : Int) < (b : Nat) := by omega
      have e1 := v_modI (a := (a : Nat)) h0
      rw [← Int.natCast_emod] at e1
      have e2 := deg_while T X R f b (a % b) (by have := Nat.mod_lt a (Nat.pos_of_ne_zero hb); omega)
      have e3 : Nat.gcd b (a % b) = Nat.gcd a b := by rw [Nat.gcd_comm b, ← Nat.gcd_rec, Nat.gcd_comm]
      rw [e3] at e2
      unfold B__law_degree_1 at e2 ⊢
      simp -implicitDefEqProofs only [q00,q01,q02,q03,q04,q05,q06,q07,q08,q09,q0a,q0b,q0c,q0d,q0e,q0f,q0g,q0h,q0i,q0j,q0k,q0l,q0m,q0n,q0o,q0p,q0q,q0r,q0s,q0t,q0u,q0v,q0w,q0x,q0y,q0z,q0A,q0B,q0C,q0D,q0E,q0F,q0G,q0H,q0I,q0J,q0K,q0L,q0M,q0N,q0O,q0P,q0Q,q0R,q0S,q0T,FL.toDs_imms,FL.imms_imms,q0U,q0V,q0W,q0X,q0Y,q0Z,q10q,q11,q12,q13,q14,q15,q16,q17,q18,q19,q1a,q1b,q1c,q1d,q1e,q1f,q1g,q1h,q1i,q1j,q1k,q1l,q1m,q1n,q1o,q1p,q1q,q1r,q1s,q1t,q1u,q1v,q1w,q1x,q1y,q1z,q1A,q1B,q1C,q1D,q1E,q1F,q1G,q1H,q1I,q1J,q1K,q1L,q1M,q1N,q1O,q1P,q1Q,q1R,q1S,q1T,q1U,q1V,q1W,q1X,q1Y,q1Z,q20,q21,q22,q23,q24,q25,q26,q27,q28,q29,q2a,q2bq,q2c,q2d,q2e,q2f,q2g,q2h,q2i,q2j,q2k,q2l,q2m,q2n,q2o,q2p,q2q,q2r,q2s,q2t,q2u,q2v,q2w,q2x,q2y,q2z,q2A,q2B,q2C,q2D,q2E,q2F,q2G,q2H,q2I,q2J,q2K,q2L,q2M,q2N,q2O,q2P,q2Q,q2R,q2S,q2T,q2U,q2V,q2W,q2X,q2Y,q2Z,q30,q31,q32,q33,q34,q35,q36,q37,q38,q39,q3a,q3b,q3c,q3d,q3e,q3f,q3g,q3h,q3i,FL.callD,Option.bind_some,Option.bind_none,List.getElem?_cons_zero,List.getElem?_cons_succ,List.getElem?_nil,List.set_cons_zero,List.set_cons_succ,List.length_cons,List.length_nil,List.filterMap_cons,List.filterMap_nil,decide_eq_true_eq,if_true,if_false,true_and,and_true,Nat.reduceAdd,Nat.reduceLeDiff,Nat.reduceEqDiff,↓reduceIte,Bool.false_eq_true,FL.startE,FL.backs,List.map_cons,List.map_nil,List.cons_append,List.nil_append,Nat.reduceSub,List.replicate_succ,List.replicate_zero,List.nodup_nil,List.nodup_cons,List.not_mem_nil,not_false_eq_true,and_self,reduceCtorEq,Option.map_some,Option.map_none,lenT_tab,lenT_row,h0,decide_true,e1,afterTurn,e2]
def cntG (m n : Nat) : Nat := ((List.range n).filter fun i => Nat.beq (Nat.gcd m (1 + i)) 1).length
theorem cntG_succ (m n : Nat) : cntG m (n + 1) = cntG m n + (if Nat.gcd m (1 + n) = 1 then 1 else 0) := by
  unfold cntG
  rw [List.range_succ, List.filter_append, List.length_append]
  congr 1
  by_cases h : Nat.gcd m (1 + n) = 1
  · rw [if_pos h, List.filter_cons_of_pos (p := fun i => Nat.beq (Nat.gcd m (1 + i)) 1) (by rw [h]; rfl)]; rfl
  · rw [if_neg h, List.filter_cons_of_neg (p := fun i => Nat.beq (Nat.gcd m (1 + i)) 1) (fun z => h (Nat.eq_of_beq_eq_true z))]; rfl
theorem degree_one {M : Nat} (h1 : 3 ≤ M) (h2 : M ≤ 180) : mFn 5 m__law_degree [.imm (.int (M : Nat))] = some (.imm (.int ((cntG (2 * M) (2 * M - 1) / 2 : Nat) : Int)), [.imm (.int (M : Nat))]) := by
  have m1 := Bd.fmul (m := 3) (n := 10) (a := 2) (b := ((M : Nat) : Int)) (by unfold Bd; decide) (.of (by omega) (by omega)) (by decide)
  rw [show (2 : Int) * ((M : Nat) : Int) = ((2 * M : Nat) : Int) by omega] at m1
  obtain ⟨E', e, x2, x3, x4, rfl⟩ := forD_inv (g := mName 2) (ms := B__law_degree_2)
    (fun i E => ∃ (x2 x3 x4 : Option Tr), E = [.val (.imm (.int (M : Nat))), .val (.imm (.int (cntG (2 * M) i : Nat))), ov x2, ov x3, ov x4]) (rangeD 1 (2 * M - 1))
    (fun i d E hi ⟨x2, x3, x4, hE⟩ => by
      obtain ⟨hid, hd⟩ : i < 2 * M - 1 ∧ d = .int (1 + (i : Nat)) := by
        have h3 := (List.getElem?_eq_some_iff.mp hi).1
        rw [rangeD_len] at h3
        refine ⟨h3, ?_⟩
        unfold rangeD at hi
        rw [range_get h3] at hi
        cases hi
        rfl
      subst hd
      have ew := mWhile_of (deg_while (.val (.imm (.int (M : Nat)))) (.val (.imm (.int (cntG (2 * M) i : Nat)))) (.val (.imm (.int (1 + (i : Nat))))) (1 + i + 1) (2 * M) (1 + i) (by omega))
      rw [show ((1 + i : Nat) : Int) = 1 + (i : Nat) by omega] at ew
      refine ⟨[.val (.imm (.int (M : Nat))), .val (.imm (.int (cntG (2 * M) i : Nat))), .val (.imm (.int (1 + (i : Nat)))), ov x3, ov x4], [.val (.imm (.int (M : Nat))), .val (.imm (.int (cntG (2 * M) (i + 1) : Nat))), ov (some (.imm (.int (1 + (i : Nat))))), ov (some (.imm (.int (Nat.gcd (2 * M) (1 + i) : Nat)))), ov (some (.imm (.int 0)))], ?_, .inl ?_, some (.imm (.int (1 + (i : Nat)))), _, _, rfl⟩
      · rw [hE]; simp -implicitDefEqProofs only [q00,q01,q02,q03,q04,q05,q06,q07,q08,q09,q0a,q0b,q0c,q0d,q0e,q0f,q0g,q0h,q0i,q0j,q0k,q0l,q0m,q0n,q0o,q0p,q0q,q0r,q0s,q0t,q0u,q0v,q0w,q0x,q0y,q0z,q0A,q0B,q0C,q0D,q0E,q0F,q0G,q0H,q0I,q0J,q0K,q0L,q0M,q0N,q0O,q0P,q0Q,q0R,q0S,q0T,FL.toDs_imms,FL.imms_imms,q0U,q0V,q0W,q0X,q0Y,q0Z,q10q,q11,q12,q13,q14,q15,q16,q17,q18,q19,q1a,q1b,q1c,q1d,q1e,q1f,q1g,q1h,q1i,q1j,q1k,q1l,q1m,q1n,q1o,q1p,q1q,q1r,q1s,q1t,q1u,q1v,q1w,q1x,q1y,q1z,q1A,q1B,q1C,q1D,q1E,q1F,q1G,q1H,q1I,q1J,q1K,q1L,q1M,q1N,q1O,q1P,q1Q,q1R,q1S,q1T,q1U,q1V,q1W,q1X,q1Y,q1Z,q20,q21,q22,q23,q24,q25,q26,q27,q28,q29,q2a,q2bq,q2c,q2d,q2e,q2f,q2g,q2h,q2i,q2j,q2k,q2l,q2m,q2n,q2o,q2p,q2q,q2r,q2s,q2t,q2u,q2v,q2w,q2x,q2y,q2z,q2A,q2B,q2C,q2D,q2E,q2F,q2G,q2H,q2I,q2J,q2K,q2L,q2M,q2N,q2O,q2P,q2Q,q2R,q2S,q2T,q2U,q2V,q2W,q2X,q2Y,q2Z,q30,q31,q32,q33,q34,q35,q36,q37,q38,q39,q3a,q3b,q3c,q3d,q3e,q3f,q3g,q3h,q3i,FL.callD,Option.bind_some,Option.bind_none,List.getElem?_cons_zero,List.getElem?_cons_succ,List.getElem?_nil,List.set_cons_zero,List.set_cons_succ,List.length_cons,List.length_nil,List.filterMap_cons,List.filterMap_nil,decide_eq_true_eq,if_true,if_false,true_and,and_true,Nat.reduceAdd,Nat.reduceLeDiff,Nat.reduceEqDiff,↓reduceIte,Bool.false_eq_true,FL.startE,FL.backs,List.map_cons,List.map_nil,List.cons_append,List.nil_append,Nat.reduceSub,List.replicate_succ,List.replicate_zero,List.nodup_nil,List.nodup_cons,List.not_mem_nil,not_false_eq_true,and_self,reduceCtorEq,Option.map_some,Option.map_none,lenT_tab,lenT_row]
      · by_cases hg : Nat.gcd (2 * M) (1 + i) = 1
        · have ad : ((cntG (2 * M) (i + 1) : Nat) : Int) = (cntG (2 * M) i : Nat) + 1 := by rw [cntG_succ, if_pos hg]; omega
          have i1 : fInt1 [.imm (.bool true)] = some (.imm (.int 1)) := rfl
          rw [hg] at ew ⊢
          rw [ad]
          clear ad
          generalize cntG (2 * M) i = c at *
          generalize ((2 * M : Nat) : Int) = M2 at *
          unfold B__law_degree_2
          simp -implicitDefEqProofs only [q00,q01,q02,q03,q04,q05,q06,q07,q08,q09,q0a,q0b,q0c,q0d,q0e,q0f,q0g,q0h,q0i,q0j,q0k,q0l,q0m,q0n,q0o,q0p,q0q,q0r,q0s,q0t,q0u,q0v,q0w,q0x,q0y,q0z,q0A,q0B,q0C,q0D,q0E,q0F,q0G,q0H,q0I,q0J,q0K,q0L,q0M,q0N,q0O,q0P,q0Q,q0R,q0S,q0T,FL.toDs_imms,FL.imms_imms,q0U,q0V,q0W,q0X,q0Y,q0Z,q10q,q11,q12,q13,q14,q15,q16,q17,q18,q19,q1a,q1b,q1c,q1d,q1e,q1f,q1g,q1h,q1i,q1j,q1k,q1l,q1m,q1n,q1o,q1p,q1q,q1r,q1s,q1t,q1u,q1v,q1w,q1x,q1y,q1z,q1A,q1B,q1C,q1D,q1E,q1F,q1G,q1H,q1I,q1J,q1K,q1L,q1M,q1N,q1O,q1P,q1Q,q1R,q1S,q1T,q1U,q1V,q1W,q1X,q1Y,q1Z,q20,q21,q22,q23,q24,q25,q26,q27,q28,q29,q2a,q2bq,q2c,q2d,q2e,q2f,q2g,q2h,q2i,q2j,q2k,q2l,q2m,q2n,q2o,q2p,q2q,q2r,q2s,q2t,q2u,q2v,q2w,q2x,q2y,q2z,q2A,q2B,q2C,q2D,q2E,q2F,q2G,q2H,q2I,q2J,q2K,q2L,q2M,q2N,q2O,q2P,q2Q,q2R,q2S,q2T,q2U,q2V,q2W,q2X,q2Y,q2Z,q30,q31,q32,q33,q34,q35,q36,q37,q38,q39,q3a,q3b,q3c,q3d,q3e,q3f,q3g,q3h,q3i,FL.callD,Option.bind_some,Option.bind_none,List.getElem?_cons_zero,List.getElem?_cons_succ,List.getElem?_nil,List.set_cons_zero,List.set_cons_succ,List.length_cons,List.length_nil,List.filterMap_cons,List.filterMap_nil,decide_eq_true_eq,if_true,if_false,true_and,and_true,Nat.reduceAdd,Nat.reduceLeDiff,Nat.reduceEqDiff,↓reduceIte,Bool.false_eq_true,FL.startE,FL.backs,List.map_cons,List.map_nil,List.cons_append,List.nil_append,Nat.reduceSub,List.replicate_succ,List.replicate_zero,List.nodup_nil,List.nodup_cons,List.not_mem_nil,not_false_eq_true,and_self,reduceCtorEq,Option.map_some,Option.map_none,lenT_tab,lenT_row,m1,ew,show ((1 : Nat) : Int) = 1 from rfl,decide_true,i1]
          rfl
        · have ad : ((cntG (2 * M) (i + 1) : Nat) : Int) = (cntG (2 * M) i : Nat) + 0 := by rw [cntG_succ, if_neg hg]; omega
          have i1 : fInt1 [.imm (.bool false)] = some (.imm (.int 0)) := rfl
          have ng : ¬ ((Nat.gcd (2 * M) (1 + i) : Nat) : Int) = 1 := by omega
          rw [ad]
          clear ad hg
          generalize ((Nat.gcd (2 * M) (1 + i) : Nat) : Int) = gg at *
          generalize cntG (2 * M) i = c at *
          generalize ((2 * M : Nat) : Int) = M2 at *
          unfold B__law_degree_2
          simp -implicitDefEqProofs only [q00,q01,q02,q03,q04,q05,q06,q07,q08,q09,q0a,q0b,q0c,q0d,q0e,q0f,q0g,q0h,q0i,q0j,q0k,q0l,q0m,q0n,q0o,q0p,q0q,q0r,q0s,q0t,q0u,q0v,q0w,q0x,q0y,q0z,q0A,q0B,q0C,q0D,q0E,q0F,q0G,q0H,q0I,q0J,q0K,q0L,q0M,q0N,q0O,q0P,q0Q,q0R,q0S,q0T,FL.toDs_imms,FL.imms_imms,q0U,q0V,q0W,q0X,q0Y,q0Z,q10q,q11,q12,q13,q14,q15,q16,q17,q18,q19,q1a,q1b,q1c,q1d,q1e,q1f,q1g,q1h,q1i,q1j,q1k,q1l,q1m,q1n,q1o,q1p,q1q,q1r,q1s,q1t,q1u,q1v,q1w,q1x,q1y,q1z,q1A,q1B,q1C,q1D,q1E,q1F,q1G,q1H,q1I,q1J,q1K,q1L,q1M,q1N,q1O,q1P,q1Q,q1R,q1S,q1T,q1U,q1V,q1W,q1X,q1Y,q1Z,q20,q21,q22,q23,q24,q25,q26,q27,q28,q29,q2a,q2bq,q2c,q2d,q2e,q2f,q2g,q2h,q2i,q2j,q2k,q2l,q2m,q2n,q2o,q2p,q2q,q2r,q2s,q2t,q2u,q2v,q2w,q2x,q2y,q2z,q2A,q2B,q2C,q2D,q2E,q2F,q2G,q2H,q2I,q2J,q2K,q2L,q2M,q2N,q2O,q2P,q2Q,q2R,q2S,q2T,q2U,q2V,q2W,q2X,q2Y,q2Z,q30,q31,q32,q33,q34,q35,q36,q37,q38,q39,q3a,q3b,q3c,q3d,q3e,q3f,q3g,q3h,q3i,FL.callD,Option.bind_some,Option.bind_none,List.getElem?_cons_zero,List.getElem?_cons_succ,List.getElem?_nil,List.set_cons_zero,List.set_cons_succ,List.length_cons,List.length_nil,List.filterMap_cons,List.filterMap_nil,decide_eq_true_eq,if_true,if_false,true_and,and_true,Nat.reduceAdd,Nat.reduceLeDiff,Nat.reduceEqDiff,↓reduceIte,Bool.false_eq_true,FL.startE,FL.backs,List.map_cons,List.map_nil,List.cons_append,List.nil_append,Nat.reduceSub,List.replicate_succ,List.replicate_zero,List.nodup_nil,List.nodup_cons,List.not_mem_nil,not_false_eq_true,and_self,reduceCtorEq,Option.map_some,Option.map_none,lenT_tab,lenT_row,m1,ew,ng,decide_false,i1]
          rfl) [.val (.imm (.int (M : Nat))), .val (.imm (.int 0)), .no, .no, .no] ⟨none, none, none, rfl⟩
  rw [rangeD_len] at e
  have rg : ∀ E, rng2D [.imm (.int 1), .imm (.int ((2 * M : Nat) : Int))] E = some (rangeD 1 (2 * M - 1), E) := fun E => by
    rw [v_rg2 (rng_ok (by omega) (by omega)) (rng_ok (by omega) (by omega)), show (((2 * M : Nat) : Int) - 1).toNat = 2 * M - 1 by omega]
  have dv := v_divI (a := ((cntG (2 * M) (2 * M - 1) : Nat) : Int)) (b := 2) (cdiv_ok (n := 10) (by decide) (by unfold Bd; decide) (by decide))
  rw [show ((cntG (2 * M) (2 * M - 1) : Nat) : Int) / 2 = ((cntG (2 * M) (2 * M - 1) / 2 : Nat) : Int) by omega] at dv
  generalize ((cntG (2 * M) (2 * M - 1) / 2 : Nat) : Int) = C2 at *
  generalize ((cntG (2 * M) (2 * M - 1) : Nat) : Int) = C1 at *
  generalize ((2 * M : Nat) : Int) = M2 at *
  rw [v_fn]
  unfold m__law_degree
  simp -implicitDefEqProofs only [q00,q01,q02,q03,q04,q05,q06,q07,q08,q09,q0a,q0b,q0c,q0d,q0e,q0f,q0g,q0h,q0i,q0j,q0k,q0l,q0m,q0n,q0o,q0p,q0q,q0r,q0s,q0t,q0u,q0v,q0w,q0x,q0y,q0z,q0A,q0B,q0C,q0D,q0E,q0F,q0G,q0H,q0I,q0J,q0K,q0L,q0M,q0N,q0O,q0P,q0Q,q0R,q0S,q0T,FL.toDs_imms,FL.imms_imms,q0U,q0V,q0W,q0X,q0Y,q0Z,q10q,q11,q12,q13,q14,q15,q16,q17,q18,q19,q1a,q1b,q1c,q1d,q1e,q1f,q1g,q1h,q1i,q1j,q1k,q1l,q1m,q1n,q1o,q1p,q1q,q1r,q1s,q1t,q1u,q1v,q1w,q1x,q1y,q1z,q1A,q1B,q1C,q1D,q1E,q1F,q1G,q1H,q1I,q1J,q1K,q1L,q1M,q1N,q1O,q1P,q1Q,q1R,q1S,q1T,q1U,q1V,q1W,q1X,q1Y,q1Z,q20,q21,q22,q23,q24,q25,q26,q27,q28,q29,q2a,q2bq,q2c,q2d,q2e,q2f,q2g,q2h,q2i,q2j,q2k,q2l,q2m,q2n,q2o,q2p,q2q,q2r,q2s,q2t,q2u,q2v,q2w,q2x,q2y,q2z,q2A,q2B,q2C,q2D,q2E,q2F,q2G,q2H,q2I,q2J,q2K,q2L,q2M,q2N,q2O,q2P,q2Q,q2R,q2S,q2T,q2U,q2V,q2W,q2X,q2Y,q2Z,q30,q31,q32,q33,q34,q35,q36,q37,q38,q39,q3a,q3b,q3c,q3d,q3e,q3f,q3g,q3h,q3i,FL.callD,Option.bind_some,Option.bind_none,List.getElem?_cons_zero,List.getElem?_cons_succ,List.getElem?_nil,List.set_cons_zero,List.set_cons_succ,List.length_cons,List.length_nil,List.filterMap_cons,List.filterMap_nil,decide_eq_true_eq,if_true,if_false,true_and,and_true,Nat.reduceAdd,Nat.reduceLeDiff,Nat.reduceEqDiff,↓reduceIte,Bool.false_eq_true,FL.startE,FL.backs,List.map_cons,List.map_nil,List.cons_append,List.nil_append,Nat.reduceSub,List.replicate_succ,List.replicate_zero,List.nodup_nil,List.nodup_cons,List.not_mem_nil,not_false_eq_true,and_self,reduceCtorEq,Option.map_some,Option.map_none,lenT_tab,lenT_row,m1,rg,e,dv]
def degC (M : Nat) : Bool := Nat.beq (pN (2 * M)).length (1 + cntG (2 * M) (2 * M - 1) / 2)
theorem degC_all : ((List.range 181).all fun M => Nat.blt M 3 || degC M) = true := by decide +kernel
theorem deg_of {M : Nat} (h1 : 3 ≤ M) (h2 : M ≤ 180) : (pN (2 * M)).length = 1 + cntG (2 * M) (2 * M - 1) / 2 := by
  have := (List.all_eq_true.mp degC_all) M (List.mem_range.mpr (by omega))
  have n1 : Nat.blt M 3 = false := by
    cases h : Nat.blt M 3 with
    | false => rfl
    | true => have := Nat.le_of_ble_eq_true h; omega
  rw [n1, Bool.false_or] at this
  exact Nat.eq_of_beq_eq_true this
end WK
namespace WK
open PySem L2 FL
theorem rest_zero {M : Nat} (h1 : 3 ≤ M) (h2 : M ≤ 180) : foldP (pN (2 * M)) (chainS (M - 1)).2 = List.replicate ((pN (2 * M)).length - 1) 0 := by
  have g := good_2M h1 h2
  refine faith g.l2 (len_foldP _ _) List.length_replicate fun u hu => ?_
  rw [pr_foldP hu, chain_zero h1 h2 hu, pr_zeros]
theorem any_zero (d : Nat) : fAnyI [lT (List.replicate d 0)] = some (.imm (.bool false)) := by
  unfold fAnyI lstD lT
  simp only
  rw [q1Z, Option.bind_some]
  simp only [Bool.false_eq_true, if_false, Option.bind_some, intsOf_map]
  rw [Option.map_some]
  have : ((List.replicate d (0 : Int)).any fun x => x != 0) = false := by
    rw [List.any_eq_false]
    intro x hx
    rw [(List.mem_replicate.mp hx).2]
    decide
  rw [this]
theorem last_one {p : List Int} (h : 1 ≤ p.length) (hm : p.getD (p.length - 1) 0 = 1) : fIx (.imm (tI p)) (.imm (.int (-1))) = some (.imm (.int 1)) := by
  unfold tI
  rw [q1H]
  unfold atI ixN
  rw [if_neg (by decide), if_pos (by rw [List.length_map]; omega), Option.bind_some, List.length_map, show ((-1 : Int) + (p.length : Nat)).toNat = p.length - 1 by omega, List.getElem?_map]
  rw [List.getD_eq_getElem?_getD, List.getElem?_eq_getElem (by omega : p.length - 1 < p.length)] at hm
  rw [List.getElem?_eq_getElem (by omega : p.length - 1 < p.length)]
  have hm : p[p.length - 1] = 1 := hm
  rw [Option.map_some, Option.map_some, hm]
theorem fn_ret {n : Nat} {mb : MS} {ts ts' : List Tr} {E0 E' : En} {r : Tr} (h0 : startE n ts = E0) (h : mb E0 = some (.rt r E')) (h1 : backs ts E' = some ts') : mFn n mb ts = some (r, ts') := by
  unfold mFn
  rw [h0, h]
  show (backs ts E').map _ = _
  rw [h1]
  rfl
theorem turn_one (sc : PyData) (k : Int) {t : Tr} {N : Int} (hN : N < 2 ^ 36) (ht : Hd t N) (x3 x4 x5 x6 : Option Tr) :
    ∃ t' y3 y4 y5 y6, B_law_1 [.val (.imm sc), .val t, .val (.imm (.int k)), ov x3, ov x4, ov x5, ov x6, .no] = some (.nx [.val (.imm sc), .val t', .val (.imm (.int k)), ov y3, ov y4, ov y5, ov y6, .no]) ∧ Hd t' (N + 10) := by
  obtain ⟨t1, M, e1, ht1, h1, h2⟩ := order_one t N (by omega) ht
  have g := good_2M h1 h2
  have g2 := g.l2
  have g3 := g.l3
  have e6 := least_one (show M < 1000 by omega) (by omega) (lp_all h1 h2)
  have dg := degree_one h1 h2
  have dl := deg_of h1 h2
  have la := last_one (p := pN (2 * M)) (by omega) g.mon
  have ch := chain_law (show 1 ≤ M by omega) (show M < 1000 by omega)
  have lc := len_chain2 (M - 1)
  have cb : BdL 200 (chainS (M - 1)).2 := fun i => Nat.lt_of_le_of_lt (Nat.le_trans (nrm_get _ i) (nrm_chain _).2) (Nat.pow_lt_pow_right (by decide) (by omega))
  have e7 := rest_one (D := lD (chainS (M - 1)).2) rfl g2 g.b80 (by omega) cb (by omega)
  rw [rest_zero h1 h2] at e7
  have az := any_zero ((pN (2 * M)).length - 1)
  obtain ⟨nr, k1, k2⟩ := near_one h1 h2
  have bl : ∀ x : Nat, x ≤ 2 * s40 → Bd 137 ((x : Int) - 1000000) ∧ Bd 137 ((x : Int) + 1000000) := fun x hx => by
    have h : 2 * s40 + 1000000 < 2 ^ 137 := by unfold s40; decide
    unfold Bd
    constructor <;> omega
  have v1 := value_one (p := pN (2 * M)) g.b80 (by omega) (bl _ k2).1 s40_bd
  have v2 := value_one (p := pN (2 * M)) g.b80 (by omega) (bl _ k1).2 s40_bd
  have nc := nearC_of h1 h2
  unfold nearC at nc
  rw [Bool.and_eq_true, decide_eq_true_eq, decide_eq_true_eq] at nc
  obtain ⟨c1, c2⟩ := nc
  have p40 := v_powI (a := 10) (b := 40) (by decide)
  rw [show (10 : Int) ^ Int.toNat 40 = ((s40 : Nat) : Int) from by unfold s40; decide] at p40
  have kt : kitB "tuple" "tuple" = some true := by decide +kernel
  have tt : ∀ ds, tyName (.imm (.tuple ds)) = some "tuple" := fun _ => rfl
  have it : itemsD (tI (pN (2 * M))) = some ((pN (2 * M)).map PyData.int) := rfl
  have ll2 : fLen [.imm (tI (pN (2 * M)))] = some (.imm (.int (((pN (2 * M)).length : Nat) : Int))) := by
    unfold tI fLen
    simp only
    rw [q1M, List.length_map]; rfl
  obtain ⟨a1, a2, a3, rfl⟩ := ht.lst
  obtain ⟨b1, b2, b3, rfl⟩ := ht1.lst
  have lm : lcD (mName 7) mYes X_law_1 [7] ((pN (2 * M)).map PyData.int) [] [.val (.imm sc), .val (.lst [b1, b2, b3]), .val (.imm (.int k)), .val (.imm (.int (M : Nat))), .val (.imm (tI (pN (2 * M)))), ov x5, ov x6, .no] = some (((pN (2 * M)).map fun _ => PyData.bool true).map Tr.imm, [.val (.imm sc), .val (.lst [b1, b2, b3]), .val (.imm (.int k)), .val (.imm (.int (M : Nat))), .val (.imm (tI (pN (2 * M)))), ov x5, ov x6, .no]) := by
    refine lcD_imm (g := mName 7) (m := X_law_1) (vs := [7]) (E := [.val (.imm sc), .val (.lst [b1, b2, b3]), .val (.imm (.int k)), .val (.imm (.int (M : Nat))), .val (.imm (tI (pN (2 * M)))), ov x5, ov x6, .no]) PyData.int (fun _ => PyData.bool true) (pN (2 * M)) (fun x _ => ?_) (by omega)
    have w := whole_is x
    refine ⟨[.val (.imm sc), .val (.lst [b1, b2, b3]), .val (.imm (.int k)), .val (.imm (.int (M : Nat))), .val (.imm (tI (pN (2 * M)))), ov x5, ov x6, .val (.imm (.int x))], [.val (.imm sc), .val (.lst [b1, b2, b3]), .val (.imm (.int k)), .val (.imm (.int (M : Nat))), .val (.imm (tI (pN (2 * M)))), ov x5, ov x6, .val (.imm (.int x))], ?_, ?_, rfl⟩
    · generalize pN (2 * M) = P at *
      unfold tI
      simp -implicitDefEqProofs only [q00,q01,q02,q03,q04,q05,q06,q07,q08,q09,q0a,q0b,q0c,q0d,q0e,q0f,q0g,q0h,q0i,q0j,q0k,q0l,q0m,q0n,q0o,q0p,q0q,q0r,q0s,q0t,q0u,q0v,q0w,q0x,q0y,q0z,q0A,q0B,q0C,q0D,q0E,q0F,q0G,q0H,q0I,q0J,q0K,q0L,q0M,q0N,q0O,q0P,q0Q,q0R,q0S,q0T,FL.toDs_imms,FL.imms_imms,q0U,q0V,q0W,q0X,q0Y,q0Z,q10q,q11,q12,q13,q14,q15,q16,q17,q18,q19,q1a,q1b,q1c,q1d,q1e,q1f,q1g,q1h,q1i,q1j,q1k,q1l,q1m,q1n,q1o,q1p,q1q,q1r,q1s,q1t,q1u,q1v,q1w,q1x,q1y,q1z,q1A,q1B,q1C,q1D,q1E,q1F,q1G,q1H,q1I,q1J,q1K,q1L,q1M,q1N,q1O,q1P,q1Q,q1R,q1S,q1T,q1U,q1V,q1W,q1X,q1Y,q1Z,q20,q21,q22,q23,q24,q25,q26,q27,q28,q29,q2a,q2bq,q2c,q2d,q2e,q2f,q2g,q2h,q2i,q2j,q2k,q2l,q2m,q2n,q2o,q2p,q2q,q2r,q2s,q2t,q2u,q2v,q2w,q2x,q2y,q2z,q2A,q2B,q2C,q2D,q2E,q2F,q2G,q2H,q2I,q2J,q2K,q2L,q2M,q2N,q2O,q2P,q2Q,q2R,q2S,q2T,q2U,q2V,q2W,q2X,q2Y,q2Z,q30,q31,q32,q33,q34,q35,q36,q37,q38,q39,q3a,q3b,q3c,q3d,q3e,q3f,q3g,q3h,q3i,FL.callD,Option.bind_some,Option.bind_none,List.getElem?_cons_zero,List.getElem?_cons_succ,List.getElem?_nil,List.set_cons_zero,List.set_cons_succ,List.length_cons,List.length_nil,List.filterMap_cons,List.filterMap_nil,decide_eq_true_eq,if_true,if_false,true_and,and_true,Nat.reduceAdd,Nat.reduceLeDiff,Nat.reduceEqDiff,↓reduceIte,Bool.false_eq_true,FL.startE,FL.backs,List.map_cons,List.map_nil,List.cons_append,List.nil_append,Nat.reduceSub,List.replicate_succ,List.replicate_zero,List.nodup_nil,List.nodup_cons,List.not_mem_nil,not_false_eq_true,and_self,reduceCtorEq,Option.map_some,Option.map_none,lenT_tab,lenT_row]
    · generalize pN (2 * M) = P at *
      unfold X_law_1 tI
      simp -implicitDefEqProofs only [q00,q01,q02,q03,q04,q05,q06,q07,q08,q09,q0a,q0b,q0c,q0d,q0e,q0f,q0g,q0h,q0i,q0j,q0k,q0l,q0m,q0n,q0o,q0p,q0q,q0r,q0s,q0t,q0u,q0v,q0w,q0x,q0y,q0z,q0A,q0B,q0C,q0D,q0E,q0F,q0G,q0H,q0I,q0J,q0K,q0L,q0M,q0N,q0O,q0P,q0Q,q0R,q0S,q0T,FL.toDs_imms,FL.imms_imms,q0U,q0V,q0W,q0X,q0Y,q0Z,q10q,q11,q12,q13,q14,q15,q16,q17,q18,q19,q1a,q1b,q1c,q1d,q1e,q1f,q1g,q1h,q1i,q1j,q1k,q1l,q1m,q1n,q1o,q1p,q1q,q1r,q1s,q1t,q1u,q1v,q1w,q1x,q1y,q1z,q1A,q1B,q1C,q1D,q1E,q1F,q1G,q1H,q1I,q1J,q1K,q1L,q1M,q1N,q1O,q1P,q1Q,q1R,q1S,q1T,q1U,q1V,q1W,q1X,q1Y,q1Z,q20,q21,q22,q23,q24,q25,q26,q27,q28,q29,q2a,q2bq,q2c,q2d,q2e,q2f,q2g,q2h,q2i,q2j,q2k,q2l,q2m,q2n,q2o,q2p,q2q,q2r,q2s,q2t,q2u,q2v,q2w,q2x,q2y,q2z,q2A,q2B,q2C,q2D,q2E,q2F,q2G,q2H,q2I,q2J,q2K,q2L,q2M,q2N,q2O,q2P,q2Q,q2R,q2S,q2T,q2U,q2V,q2W,q2X,q2Y,q2Z,q30,q31,q32,q33,q34,q35,q36,q37,q38,q39,q3a,q3b,q3c,q3d,q3e,q3f,q3g,q3h,q3i,FL.callD,Option.bind_some,Option.bind_none,List.getElem?_cons_zero,List.getElem?_cons_succ,List.getElem?_nil,List.set_cons_zero,List.set_cons_succ,List.length_cons,List.length_nil,List.filterMap_cons,List.filterMap_nil,decide_eq_true_eq,if_true,if_false,true_and,and_true,Nat.reduceAdd,Nat.reduceLeDiff,Nat.reduceEqDiff,↓reduceIte,Bool.false_eq_true,FL.startE,FL.backs,List.map_cons,List.map_nil,List.cons_append,List.nil_append,Nat.reduceSub,List.replicate_succ,List.replicate_zero,List.nodup_nil,List.nodup_cons,List.not_mem_nil,not_false_eq_true,and_self,reduceCtorEq,Option.map_some,Option.map_none,lenT_tab,lenT_row,w]
  have fa := fAll_bools ((pN (2 * M)).map fun _ => true)
  rw [show ((pN (2 * M)).map fun _ => true).all id = true by simp, show ((pN (2 * M)).map fun _ => true).map PyData.bool = (pN (2 * M)).map fun _ => PyData.bool true by rw [List.map_map]; rfl] at fa
  have dd : (((pN (2 * M)).length : Nat) : Int) = 1 + ((cntG (2 * M) (2 * M - 1) / 2 : Nat) : Int) := by omega
  refine ⟨.lst [b1, b2, b3], some (.imm (.int (M : Nat))), some (.imm (tI (pN (2 * M)))), some (.imm (.int (((bisN M s40 134 s40 (2 * s40)).1 : Nat) - 1000000))), some (.imm (.int (((bisN M s40 134 s40 (2 * s40)).2 : Nat) + 1000000))), ?_, ht1.le (by omega)⟩
  have n1 : ¬ (0 : Int) < valF (((bisN M s40 134 s40 (2 * s40)).1 : Nat) - 1000000) ((s40 : Nat) : Int) (pN (2 * M)).reverse 0 1 := by omega
  have n2 : ¬ valF (((bisN M s40 134 s40 (2 * s40)).2 : Nat) + 1000000) ((s40 : Nat) : Int) (pN (2 * M)).reverse 0 1 ≤ 0 := by omega
  have ne1 : fNe (.imm (.int (1 + ((cntG (2 * M) (2 * M - 1) / 2 : Nat) : Int)))) (.imm (.int (1 + ((cntG (2 * M) (2 * M - 1) / 2 : Nat) : Int)))) = some (.imm (.bool false)) := by
    rw [q1E]; simp
  have ne2 : fNe (.imm (.int 1)) (.imm (.int 1)) = some (.imm (.bool false)) := by
    rw [q1E]; simp
  rw [dd] at ll2
  clear g g2 g3 dl lc cb k1 k2 bl dd c1 c2
  unfold lT at e7 az
  generalize ((List.replicate ((pN (2 * M)).length - 1) (0 : Int)).map PyData.int).map Tr.imm = RZ at *
  generalize ((pN (2 * M)).map fun _ => PyData.bool true).map Tr.imm = L1 at *
  generalize valF (((bisN M s40 134 s40 (2 * s40)).1 : Nat) - 1000000) ((s40 : Nat) : Int) (pN (2 * M)).reverse 0 1 = V1 at *
  generalize valF (((bisN M s40 134 s40 (2 * s40)).2 : Nat) + 1000000) ((s40 : Nat) : Int) (pN (2 * M)).reverse 0 1 = V2 at *
  generalize (((bisN M s40 134 s40 (2 * s40)).1 : Nat) : Int) - 1000000 = K1 at *
  generalize (((bisN M s40 134 s40 (2 * s40)).2 : Nat) : Int) + 1000000 = K2 at *
  generalize ((s40 : Nat) : Int) = S at *
  generalize ((cntG (2 * M) (2 * M - 1) / 2 : Nat) : Int) = C at *
  generalize (chainS (M - 1)).2 = CH at *
  generalize pN (2 * M) = P at *
  unfold tI lD at *
  generalize P.map PyData.int = D at *
  generalize CH.map PyData.int = DC at *
  unfold B_law_1
  simp -implicitDefEqProofs only [q00,q01,q02,q03,q04,q05,q06,q07,q08,q09,q0a,q0b,q0c,q0d,q0e,q0f,q0g,q0h,q0i,q0j,q0k,q0l,q0m,q0n,q0o,q0p,q0q,q0r,q0s,q0t,q0u,q0v,q0w,q0x,q0y,q0z,q0A,q0B,q0C,q0D,q0E,q0F,q0G,q0H,q0I,q0J,q0K,q0L,q0M,q0N,q0O,q0P,q0Q,q0R,q0S,q0T,FL.toDs_imms,FL.imms_imms,q0U,q0V,q0W,q0X,q0Y,q0Z,q10q,q11,q12,q13,q14,q15,q16,q17,q18,q19,q1a,q1b,q1c,q1d,q1e,q1f,q1g,q1h,q1i,q1j,q1k,q1l,q1m,q1n,q1o,q1p,q1q,q1r,q1s,q1t,q1u,q1v,q1w,q1x,q1y,q1z,q1A,q1B,q1C,q1D,q1E,q1F,q1G,q1H,q1I,q1J,q1K,q1L,q1M,q1N,q1O,q1P,q1Q,q1R,q1S,q1T,q1U,q1V,q1W,q1X,q1Y,q1Z,q20,q21,q22,q23,q24,q25,q26,q27,q28,q29,q2a,q2bq,q2c,q2d,q2e,q2f,q2g,q2h,q2i,q2j,q2k,q2l,q2m,q2n,q2o,q2p,q2q,q2r,q2s,q2t,q2u,q2v,q2w,q2x,q2y,q2z,q2A,q2B,q2C,q2D,q2E,q2F,q2G,q2H,q2I,q2J,q2K,q2L,q2M,q2N,q2O,q2P,q2Q,q2R,q2S,q2T,q2U,q2V,q2W,q2X,q2Y,q2Z,q30,q31,q32,q33,q34,q35,q36,q37,q38,q39,q3a,q3b,q3c,q3d,q3e,q3f,q3g,q3h,q3i,FL.callD,Option.bind_some,Option.bind_none,List.getElem?_cons_zero,List.getElem?_cons_succ,List.getElem?_nil,List.set_cons_zero,List.set_cons_succ,List.length_cons,List.length_nil,List.filterMap_cons,List.filterMap_nil,decide_eq_true_eq,if_true,if_false,true_and,and_true,Nat.reduceAdd,Nat.reduceLeDiff,Nat.reduceEqDiff,↓reduceIte,Bool.false_eq_true,FL.startE,FL.backs,List.map_cons,List.map_nil,List.cons_append,List.nil_append,Nat.reduceSub,List.replicate_succ,List.replicate_zero,List.nodup_nil,List.nodup_cons,List.not_mem_nil,not_false_eq_true,and_self,reduceCtorEq,Option.map_some,Option.map_none,lenT_tab,lenT_row,e1,e6,kt,tt,it,lm,fa,Bool.not_true,ll2,dg,ne1,la,ne2,ch,e7,az,p40,nr,v1,n1,v2,n2,decide_false]
  rfl
theorem law_true : ∀ ns : List Int, ns.length ≤ 63 → ∃ ts', mFn 8 m_law [scriptT ns] = some (.imm (.bool true), ts') := by
  intro ns h63
  obtain ⟨a, b, e1, a0, b0, b1⟩ := hand_one ns h63
  have ht0 : Hd (tS a b 0) 0 := ⟨a, b, 0, rfl, a0, b0, b1, by omega, by omega⟩
  generalize tS a b 0 = t0 at e1 ht0
  have e1 : mFn 6 m__law_hand [scriptT ns] = some (t0, [scriptT ns]) := e1
  have hst : scriptT ns = .imm (.list (ns.map PyData.int)) := rfl
  rw [hst] at e1 ⊢
  generalize PyData.list (ns.map PyData.int) = sc at *
  obtain ⟨q, t1, e2, q0, q1, ht1⟩ := take_hd ht0 (by omega) 6 (by decide) (by decide)
  obtain ⟨q, rfl⟩ := Int.eq_ofNat_of_zero_le q0
  obtain ⟨E', e5, t2, x2, x3, x4, x5, x6, rfl, ht2⟩ := forD_inv (g := mName 2) (ms := B_law_1)
    (fun i E => ∃ (t' : Tr) (x2 x3 x4 x5 x6 : Option Tr), E = [.val (.imm sc), .val t', ov x2, ov x3, ov x4, ov x5, ov x6, .no] ∧ Hd t' (90 + 10 * i)) (rangeD 0 (1 + q))
    (fun i d E hi ⟨t', x2, x3, x4, x5, x6, hE, ht'⟩ => by
      obtain ⟨hid, rfl⟩ := rangeD_at hi
      obtain ⟨t2, y3, y4, y5, y6, e2, ht2⟩ := turn_one sc (0 + (i : Nat)) (N := 90 + 10 * i) (by omega) ht' x3 x4 x5 x6
      refine ⟨[.val (.imm sc), .val t', .val (.imm (.int (0 + (i : Nat)))), ov x3, ov x4, ov x5, ov x6, .no], [.val (.imm sc), .val t2, ov (some (.imm (.int (0 + (i : Nat))))), ov y3, ov y4, ov y5, ov y6, .no], ?_, .inl e2, t2, some (.imm (.int (0 + (i : Nat)))), y3, y4, y5, y6, rfl, ht2.le (by omega)⟩
      rw [hE]
      obtain ⟨a1, a2, a3, rfl⟩ := ht'.lst
      simp -implicitDefEqProofs only [q00,q01,q02,q03,q04,q05,q06,q07,q08,q09,q0a,q0b,q0c,q0d,q0e,q0f,q0g,q0h,q0i,q0j,q0k,q0l,q0m,q0n,q0o,q0p,q0q,q0r,q0s,q0t,q0u,q0v,q0w,q0x,q0y,q0z,q0A,q0B,q0C,q0D,q0E,q0F,q0G,q0H,q0I,q0J,q0K,q0L,q0M,q0N,q0O,q0P,q0Q,q0R,q0S,q0T,FL.toDs_imms,FL.imms_imms,q0U,q0V,q0W,q0X,q0Y,q0Z,q10q,q11,q12,q13,q14,q15,q16,q17,q18,q19,q1a,q1b,q1c,q1d,q1e,q1f,q1g,q1h,q1i,q1j,q1k,q1l,q1m,q1n,q1o,q1p,q1q,q1r,q1s,q1t,q1u,q1v,q1w,q1x,q1y,q1z,q1A,q1B,q1C,q1D,q1E,q1F,q1G,q1H,q1I,q1J,q1K,q1L,q1M,q1N,q1O,q1P,q1Q,q1R,q1S,q1T,q1U,q1V,q1W,q1X,q1Y,q1Z,q20,q21,q22,q23,q24,q25,q26,q27,q28,q29,q2a,q2bq,q2c,q2d,q2e,q2f,q2g,q2h,q2i,q2j,q2k,q2l,q2m,q2n,q2o,q2p,q2q,q2r,q2s,q2t,q2u,q2v,q2w,q2x,q2y,q2z,q2A,q2B,q2C,q2D,q2E,q2F,q2G,q2H,q2I,q2J,q2K,q2L,q2M,q2N,q2O,q2P,q2Q,q2R,q2S,q2T,q2U,q2V,q2W,q2X,q2Y,q2Z,q30,q31,q32,q33,q34,q35,q36,q37,q38,q39,q3a,q3b,q3c,q3d,q3e,q3f,q3g,q3h,q3i,FL.callD,Option.bind_some,Option.bind_none,List.getElem?_cons_zero,List.getElem?_cons_succ,List.getElem?_nil,List.set_cons_zero,List.set_cons_succ,List.length_cons,List.length_nil,List.filterMap_cons,List.filterMap_nil,decide_eq_true_eq,if_true,if_false,true_and,and_true,Nat.reduceAdd,Nat.reduceLeDiff,Nat.reduceEqDiff,↓reduceIte,Bool.false_eq_true,FL.startE,FL.backs,List.map_cons,List.map_nil,List.cons_append,List.nil_append,Nat.reduceSub,List.replicate_succ,List.replicate_zero,List.nodup_nil,List.nodup_cons,List.not_mem_nil,not_false_eq_true,and_self,reduceCtorEq,Option.map_some,Option.map_none,lenT_tab,lenT_row])
    [.val (.imm sc), .val t1, .no, .no, .no, .no, .no, .no] ⟨t1, none, none, none, none, none, rfl, ht1.le (by omega)⟩
  have rg := fun E => v_rgN (n := 1 + q) (by omega) (E := E)
  rw [Int.natCast_add, show ((1 : Nat) : Int) = 1 from rfl] at rg
  obtain ⟨a1, a2, a3, rfl⟩ := ht0.lst
  obtain ⟨b1', b2', b3', rfl⟩ := ht1.lst
  obtain ⟨c1, c2, c3, rfl⟩ := ht2.lst
  refine ⟨_, fn_ret (E0 := [.val (.imm sc), .no, .no, .no, .no, .no, .no, .no]) (E' := [.val (.imm sc), .val (.lst [c1, c2, c3]), ov x2, ov x3, ov x4, ov x5, ov x6, .no]) rfl ?_ rfl⟩
  unfold m_law
  simp -implicitDefEqProofs only [q00,q01,q02,q03,q04,q05,q06,q07,q08,q09,q0a,q0b,q0c,q0d,q0e,q0f,q0g,q0h,q0i,q0j,q0k,q0l,q0m,q0n,q0o,q0p,q0q,q0r,q0s,q0t,q0u,q0v,q0w,q0x,q0y,q0z,q0A,q0B,q0C,q0D,q0E,q0F,q0G,q0H,q0I,q0J,q0K,q0L,q0M,q0N,q0O,q0P,q0Q,q0R,q0S,q0T,FL.toDs_imms,FL.imms_imms,q0U,q0V,q0W,q0X,q0Y,q0Z,q10q,q11,q12,q13,q14,q15,q16,q17,q18,q19,q1a,q1b,q1c,q1d,q1e,q1f,q1g,q1h,q1i,q1j,q1k,q1l,q1m,q1n,q1o,q1p,q1q,q1r,q1s,q1t,q1u,q1v,q1w,q1x,q1y,q1z,q1A,q1B,q1C,q1D,q1E,q1F,q1G,q1H,q1I,q1J,q1K,q1L,q1M,q1N,q1O,q1P,q1Q,q1R,q1S,q1T,q1U,q1V,q1W,q1X,q1Y,q1Z,q20,q21,q22,q23,q24,q25,q26,q27,q28,q29,q2a,q2bq,q2c,q2d,q2e,q2f,q2g,q2h,q2i,q2j,q2k,q2l,q2m,q2n,q2o,q2p,q2q,q2r,q2s,q2t,q2u,q2v,q2w,q2x,q2y,q2z,q2A,q2B,q2C,q2D,q2E,q2F,q2G,q2H,q2I,q2J,q2K,q2L,q2M,q2N,q2O,q2P,q2Q,q2R,q2S,q2T,q2U,q2V,q2W,q2X,q2Y,q2Z,q30,q31,q32,q33,q34,q35,q36,q37,q38,q39,q3a,q3b,q3c,q3d,q3e,q3f,q3g,q3h,q3i,FL.callD,Option.bind_some,Option.bind_none,List.getElem?_cons_zero,List.getElem?_cons_succ,List.getElem?_nil,List.set_cons_zero,List.set_cons_succ,List.length_cons,List.length_nil,List.filterMap_cons,List.filterMap_nil,decide_eq_true_eq,if_true,if_false,true_and,and_true,Nat.reduceAdd,Nat.reduceLeDiff,Nat.reduceEqDiff,↓reduceIte,Bool.false_eq_true,FL.startE,FL.backs,List.map_cons,List.map_nil,List.cons_append,List.nil_append,Nat.reduceSub,List.replicate_succ,List.replicate_zero,List.nodup_nil,List.nodup_cons,List.not_mem_nil,not_false_eq_true,and_self,reduceCtorEq,Option.map_some,Option.map_none,lenT_tab,lenT_row,e1,e2,rg,e5]
end WK
open PySem PySem.W PyProof.Rows in
set_option maxRecDepth 100000 in
set_option maxHeartbeats 0 in
theorem PySem.Challenge.cw_mirrorkin_k08_least_polys_holds : PySem.Challenge.rw_mirrorkin_k08_least_polys.Holds := by
  w_on; o_law; k_head; (case hw => w_witness2)
  k_fill
  refine FL.walk_G (l := PySem.Challenge.rw_mirrorkin_k08_least_polys) (n := 63) (k := 5) (m := FL.mFn 8 WK.m_law) (x := "_law_script") rfl (by decide) rfl ⟨rfl, by decide, by decide⟩ (fun w h Y => PySem.W.kIn_of Y) ?F WK.law_true
  case F =>
    intro w mg fa h KX G hmg
    refine' WK.all_mk KX G hmg ?a0 ?l0 ?c0 ?k0 ?a1 ?l1 ?c1 ?k1 ?a2 ?l2 ?c2 ?k2 ?a3 ?l3 ?c3 ?k3 ?a4 ?l4 ?c4 ?k4 ?a5 ?l5 ?c5 ?k5 ?a6 ?l6 ?c6 ?k6 ?a7 ?l7 ?c7 ?k7 ?a8 ?l8 ?c8 ?k8 ?a9 ?l9 ?c9 ?k9 ?a10 ?l10 ?c10 ?k10 ?a11 ?l11 ?c11 ?k11 ?a12 ?l12 ?c12 ?k12 ?a13 ?l13 ?c13 ?k13 ?a14 ?l14 ?c14 ?k14 ?a15 ?l15 ?c15 ?k15 ?z_abs ?z_all ?z_any ?z_bool ?z_enumerate ?z_int ?z_isinstance ?z_len ?z_list ?z_range ?z_tuple ?z_zip
    (case a0 => k_is)
    (case l0 => k_is)
    (case c0 => k_is)
    (case k0 => k_is)
    (case a1 => k_is)
    (case l1 => k_is)
    (case c1 => k_is)
    (case k1 => k_is)
    (case a2 => k_is)
    (case l2 => k_is)
    (case c2 => k_is)
    (case k2 => k_is)
    (case a3 => k_is)
    (case l3 => k_is)
    (case c3 => k_is)
    (case k3 => k_is)
    (case a4 => k_is)
    (case l4 => k_is)
    (case c4 => k_is)
    (case k4 => k_is)
    (case a5 => k_is)
    (case l5 => k_is)
    (case c5 => k_is)
    (case k5 => k_is)
    (case a6 => k_is)
    (case l6 => k_is)
    (case c6 => k_is)
    (case k6 => k_is)
    (case a7 => k_is)
    (case l7 => k_is)
    (case c7 => k_is)
    (case k7 => k_is)
    (case a8 => k_is)
    (case l8 => k_is)
    (case c8 => k_is)
    (case k8 => k_is)
    (case a9 => k_is)
    (case l9 => k_is)
    (case c9 => k_is)
    (case k9 => k_is)
    (case a10 => k_is)
    (case l10 => k_is)
    (case c10 => k_is)
    (case k10 => k_is)
    (case a11 => k_is)
    (case l11 => k_is)
    (case c11 => k_is)
    (case k11 => k_is)
    (case a12 => k_is)
    (case l12 => k_is)
    (case c12 => k_is)
    (case k12 => k_is)
    (case a13 => k_is)
    (case l13 => k_is)
    (case c13 => k_is)
    (case k13 => k_is)
    (case a14 => k_is)
    (case l14 => k_is)
    (case c14 => k_is)
    (case k14 => k_is)
    (case a15 => k_is)
    (case l15 => k_is)
    (case c15 => k_is)
    (case k15 => k_is)
    (case z_abs => k_is)
    (case z_all => k_is)
    (case z_any => k_is)
    (case z_bool => k_is)
    (case z_enumerate => k_is)
    (case z_int => k_is)
    (case z_isinstance => k_is)
    (case z_len => k_is)
    (case z_list => k_is)
    (case z_range => k_is)
    (case z_tuple => k_is)
    (case z_zip => k_is)
