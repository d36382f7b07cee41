import PyProof.Rows.All
import Wide.All
import OpenK.AllK
import Wide.FinOn
import HandS.ForMost
import HandS.ForExc
import HandS.CallSlots
import HandS.Defaults
import HandS.Evl
import HandS.SortInts
import HandS.OwnEq
import HandS.ClsMeth
import HandS.HeadHook1
import KE.KCallOwn
import KE.KOpsOwn
import PyProof.ListStr
import HandS.ExcOwn
import HandS.IsInst
import HandS.ExcIs
import HandS.ExcField
import HandS.Codes
import KE.KStateDown
import HandS.Words
import HandS.WordsExc
import HandS.Head0
import HandS.Head1
import HandS.Head2
import HandS.HeadEnd
import HandS.HeadHook2
import HandS.EndBits
import KE.KOwnIter
import HandS.OwnIter
import HandS.IterVal
import PySem.Challenge.RW_looksback_k01_word_text
set_option Elab.async false
set_option linter.all false
set_option maxRecDepth 100000
set_option maxHeartbeats 2000000
namespace Py
open PySem PySem.Spec PyProof.Rows L2

/-! ### heaps that grow -/
abbrev Ex (H H' : Hp) : Prop := ∀ a o, H a = some o → H' a = some o
theorem Ex.rf (H : Hp) : Ex H H := fun _ _ h => h
theorem Ex.tr {H H1 H2 : Hp} (a : Ex H H1) (b : Ex H1 H2) : Ex H H2 := fun x o h => b x o (a x o h)
theorem Ex.new {H : Hp} {p : Addr} {o : HO} (h : H p = none) : Ex H (upd H p o) := fun a u e => by
  rw [upd_ne (ne_of_none e h)]
  exact e
theorem Ex.free {H H' : Hp} {p : Addr} (e : Ex H H') (h : H' p = none) : H p = none := by
  cases h1 : H p with
  | none => rfl
  | some o => rw [e p o h1] at h; cases h
theorem ex_rd {H H' : Hp} {a : Addr} {u : HO} (e : Ex H H') (h : Rd H a u) : Rd H' a u := by
  rcases h with h | ⟨o, h⟩
  · exact Or.inl (e a _ h)
  · exact Or.inr ⟨o, e a _ h⟩
theorem ex_l {K : PySem.W.Frag} {H H' : Hp} {a : Addr} {xs : List V} (e : Ex H H') (h : SqL K H a xs) : SqL K H' a xs := by
  rcases h with h | h
  · exact Or.inl (ex_rd e h)
  · exact Or.inr h
theorem ex_t {K : PySem.W.Frag} {H H' : Hp} {a : Addr} {xs : List V} (e : Ex H H') (h : SqT K H a xs) : SqT K H' a xs := by
  rcases h with h | h
  · exact Or.inl (ex_rd e h)
  · exact Or.inr h
theorem sq_of {K : PySem.W.Frag} {H : Hp} {a : Addr} {xs : List V} (h : H a = some (.lst xs)) : SqL K H a xs := Or.inl (Or.inl h)
theorem st_of {K : PySem.W.Frag} {H : Hp} {a : Addr} {xs : List V} (h : H a = some (.tup xs)) : SqT K H a xs := Or.inl (Or.inl h)

/-! ### how a value bears a datum -/
class Rep (α : Type) where
  rp : PySem.W.Frag → Hp → V → α → Prop
  mono : ∀ {K F F' v a}, Ex F F' → rp K F v a → rp K F' v a
inductive Pr.{u, v} {α : Type u} {β : Type v} (R : α → β → Prop) : List α → List β → Prop
  | nil : Pr R [] []
  | cons {a b as bs} (h : R a b) (t : Pr R as bs) : Pr R (a :: as) (b :: bs)
section
universe u v
variable {α : Type u} {β : Type v} {R R' : α → β → Prop} {as as' : List α} {bs bs' : List β}
theorem Pr.imp (h : Pr R as bs) (f : ∀ a b, R a b → R' a b) : Pr R' as bs := by
  induction h with
  | nil => exact .nil
  | cons h _ ih => exact .cons (f _ _ h) ih
theorem Pr.length (h : Pr R as bs) : as.length = bs.length := by
  induction h with
  | nil => rfl
  | cons _ _ ih => simp [ih]
theorem Pr.append (h : Pr R as bs) (h' : Pr R as' bs') : Pr R (as ++ as') (bs ++ bs') := by
  induction h with
  | nil => exact h'
  | cons h _ ih => exact .cons h ih
theorem Pr.get (h : Pr R as bs) : ∀ {i : Nat} {b : β}, bs[i]? = some b → ∃ a, as[i]? = some a ∧ R a b := by
  induction h with
  | nil => intro i b e; simp at e
  | cons h _ ih =>
    intro i b e
    cases i with
    | zero => simp at e; subst e; exact ⟨_, rfl, h⟩
    | succ i => simp at e; obtain ⟨a, h1, h2⟩ := ih e; exact ⟨a, by simpa using h1, h2⟩
theorem Pr.getL (h : Pr R as bs) : ∀ {i : Nat} {a : α}, as[i]? = some a → ∃ b, bs[i]? = some b ∧ R a b := by
  induction h with
  | nil => intro i b e; simp at e
  | cons h _ ih =>
    intro i b e
    cases i with
    | zero => simp at e; subst e; exact ⟨_, rfl, h⟩
    | succ i => simp at e; obtain ⟨a, h1, h2⟩ := ih e; exact ⟨a, by simpa using h1, h2⟩
theorem Pr.set {a : α} {b : β} (r : R a b) (h : Pr R as bs) : ∀ i : Nat, Pr R (as.set i a) (bs.set i b) := by
  induction h with
  | nil => intro i; exact .nil
  | cons h t ih =>
    intro i
    cases i with
    | zero => exact .cons r t
    | succ i => exact .cons h (ih i)
theorem Pr.take (h : Pr R as bs) : ∀ n : Nat, Pr R (as.take n) (bs.take n) := by
  induction h with
  | nil => intro n; cases n <;> exact .nil
  | cons h t ih => intro n; cases n with | zero => exact .nil | succ n => exact .cons h (ih n)
theorem Pr.drop (h : Pr R as bs) : ∀ n : Nat, Pr R (as.drop n) (bs.drop n) := by
  induction h with
  | nil => intro n; cases n <;> exact .nil
  | cons h t ih => intro n; cases n with | zero => exact .cons h t | succ n => exact ih n
theorem Pr.map1 {γ : Type u} {f : γ → α} {cs : List γ} (h : Pr (fun c b => R (f c) b) cs bs) : Pr R (cs.map f) bs := by
  induction h with
  | nil => exact .nil
  | cons h _ ih => exact .cons h ih
theorem Pr.map2 {γ : Type v} {f : γ → β} {cs : List γ} (h : Pr (fun a c => R a (f c)) as cs) : Pr R as (cs.map f) := by
  induction h with
  | nil => exact .nil
  | cons h _ ih => exact .cons h ih
end

theorem Pr.diag.{u} {α : Type u} {R : α → α → Prop} (h : ∀ a, R a a) : ∀ l : List α, Pr R l l
  | [] => .nil
  | a :: l => .cons (h a) (Pr.diag h l)

instance : Rep Int := ⟨fun _ _ v a => v = .int a, fun _ h => h⟩
instance : Rep Bool := ⟨fun _ _ v a => v = .bl a, fun _ h => h⟩
/-- a text of a size and of signs that the machine has -/
structure SOk (a : Str) : Prop where
  le : a.length ≤ sizeLine
  ok : a.cps.toList.all (fun c => decide (c < 0x110000)) = true
instance : Rep Str := ⟨fun _ _ v a => v = .str a ∧ SOk a, fun _ h => h⟩
instance : Rep Unit := ⟨fun _ _ v _ => v = .non, fun _ h => h⟩
instance {α : Type} [Rep α] : Rep (Option α) := ⟨fun K F v a => match a with | none => v = .non | some a => Rep.rp K F v a, fun {K F F' v a} e h => by
  cases a with
  | none => exact h
  | some a => exact Rep.mono e h⟩
instance {α : Type} [Rep α] : Rep (List α) := ⟨fun K F v a => ∃ p vs, v = .ref p ∧ F p = some (.lst vs) ∧ Pr (Rep.rp K F) vs a ∧ a.length ≤ sizeLine, fun e ⟨p, vs, h1, h2, h3, h4⟩ => ⟨p, vs, h1, e _ _ h2, h3.imp (fun _ _ => Rep.mono e), h4⟩⟩
/-- the law's own script -/
structure Scr where
  l : List Int
instance : Rep Scr := ⟨fun K F v a => ∃ p, v = .ref p ∧ SqL K F p (a.l.map V.int) ∧ a.l.length ≤ 63, fun e ⟨p, h1, h2, h3⟩ => ⟨p, h1, ex_l e h2, h3⟩⟩
/-- a tuple of things of one kind -/
structure Tup (α : Type) where
  l : List α
deriving DecidableEq
instance {α : Type} [Rep α] : Rep (Tup α) := ⟨fun K F v a => ∃ p vs, v = .ref p ∧ SqT K F p vs ∧ Pr (Rep.rp K F) vs a.l ∧ a.l.length ≤ sizeLine, fun e ⟨p, vs, h1, h2, h3, h4⟩ => ⟨p, vs, h1, ex_t e h2, h3.imp (fun _ _ => Rep.mono e), h4⟩⟩
structure P2 (α β : Type) where
  a : α
  b : β
deriving DecidableEq
structure P3 (α β γ : Type) where
  a : α
  b : β
  c : γ
deriving DecidableEq
instance {α β : Type} [Rep α] [Rep β] : Rep (P2 α β) := ⟨fun K F v a => ∃ p x y, v = .ref p ∧ SqT K F p [x, y] ∧ Rep.rp K F x a.a ∧ Rep.rp K F y a.b, fun e ⟨p, x, y, h1, h2, h3, h4⟩ => ⟨p, x, y, h1, ex_t e h2, Rep.mono e h3, Rep.mono e h4⟩⟩
instance {α β γ : Type} [Rep α] [Rep β] [Rep γ] : Rep (P3 α β γ) := ⟨fun K F v a => ∃ p x y z, v = .ref p ∧ SqT K F p [x, y, z] ∧ Rep.rp K F x a.a ∧ Rep.rp K F y a.b ∧ Rep.rp K F z a.c, fun e ⟨p, x, y, z, h1, h2, h3, h4, h5⟩ => ⟨p, x, y, z, h1, ex_t e h2, Rep.mono e h3, Rep.mono e h4, Rep.mono e h5⟩⟩
/-- an address of a thing of one's own -/
structure At where
  p : Addr
instance : Rep At := ⟨fun _ _ v a => v = .ref a.p, fun _ h => h⟩

/-- a typed datum -/
structure Ent where
  {α : Type}
  [i : Rep α]
  a : α
def Ent.rp (e : Ent) (K : PySem.W.Frag) (F : Hp) (v : V) : Prop := e.i.rp K F v e.a
theorem Ent.mono {e : Ent} {K F F' v} (x : Ex F F') (h : e.rp K F v) : e.rp K F' v := e.i.mono x h
abbrev Env := List (Option Ent)
def SlotOk (K : PySem.W.Frag) (F : Hp) : Option V → Option Ent → Prop
  | some v, some e => e.rp K F v
  | none, some _ => False
  | _, none => True
abbrev Slots (K : PySem.W.Frag) (F : Hp) (σ : L2.St) (env : Env) : Prop := Pr (SlotOk K F) σ env
theorem Slots.mono {K F F' σ env} (x : Ex F F') (h : Slots K F σ env) : Slots K F' σ env := h.imp fun a b q => by
  cases a with
  | none => cases b with | none => trivial | some e => exact q
  | some v => cases b with | none => trivial | some e => exact Ent.mono x q
theorem Slots.get {K F σ env} {i : Nat} {e : Ent} (h : Slots K F σ env) (hi : env[i]? = some (some e)) : ∃ v, σ[i]? = some (some v) ∧ e.rp K F v := by
  obtain ⟨o, h1, h2⟩ := Pr.get h hi
  cases o with
  | none => exact h2.elim
  | some v => exact ⟨v, h1, h2⟩
theorem Slots.put {K F σ env} {e : Ent} {v : V} (h : Slots K F σ env) (hv : e.rp K F v) (i : Nat) : Slots K F (σ.set i (some v)) (env.set i (some e)) := Pr.set (R := SlotOk K F) (a := some v) (b := some e) hv h i
theorem Slots.wipe {K F σ env} (h : Slots K F σ env) (i : Nat) (o : Option V) : Slots K F (σ.set i o) (env.set i none) := Pr.set (R := SlotOk K F) (a := o) (b := none) (by cases o <;> trivial) h i

/-! ### what may be written: cells -/
structure Cell where
  ad : List Addr
  ok : PySem.W.Frag → Hp → Hp → Prop
  mono : ∀ {K F F' H H'}, Ex F F' → (∀ a ∈ ad, H' a = H a) → ok K F H → ok K F' H'
  th : ∀ {K F H}, ok K F H → ∀ a ∈ ad, ∃ o, H a = some o

structure Own (K : PySem.W.Frag) (R F H : Hp) (L : List Cell) : Prop where
  fH : Ex F H
  rH : Ex R H
  fr : ∀ a o, R a = some o → F a = none
  ok : ∀ c ∈ L, c.ok K F H
  nd : (L.flatMap Cell.ad).Nodup
  nf : ∀ c ∈ L, ∀ a ∈ c.ad, F a = none
  nr : ∀ c ∈ L, ∀ a ∈ c.ad, R a = none

section
variable {K : PySem.W.Frag} {R F H H' : Hp} {L : List Cell}
/-- the heap has grown: what is new is frozen -/
theorem Own.ext (o : Own K R F H L) (e : Ex H H') : ∃ F', Ex F F' ∧ Own K R F' H' L ∧ ∀ p u, H p = none → H' p = some u → F' p = some u := by
  refine ⟨fun b => if (R b).isSome ∨ b ∈ L.flatMap Cell.ad then none else H' b, fun a u h => ?_, ⟨fun a u h => ?_, o.rH.tr e, fun a u h => ?_, fun c hc => ?_, o.nd, fun c hc a ha => ?_, o.nr⟩, fun p u h1 h2 => ?_⟩
  · have h1 : ¬ ((R a).isSome ∨ a ∈ L.flatMap Cell.ad) := by
      rintro (h1 | h1)
      · cases q : R a with
        | none => rw [q] at h1; cases h1
        | some v => rw [o.fr a v q] at h; cases h
      · obtain ⟨c, hc, ha⟩ := List.mem_flatMap.mp h1
        rw [o.nf c hc a ha] at h; cases h
    show (if _ then none else H' a) = some u
    rw [if_neg h1]
    exact e a u (o.fH a u h)
  · have h : (if (R a).isSome ∨ a ∈ L.flatMap Cell.ad then none else H' a) = some u := h
    split at h
    · cases h
    · exact h
  · show (if _ then none else H' a) = none
    rw [if_pos (Or.inl (by rw [h]; rfl))]
  · refine c.mono (F := F) (H := H) (fun a u h => ?_) (fun a ha => ?_) (o.ok c hc)
    · have h1 : ¬ ((R a).isSome ∨ a ∈ L.flatMap Cell.ad) := by
        rintro (h1 | h1)
        · cases q : R a with
          | none => rw [q] at h1; cases h1
          | some v => rw [o.fr a v q] at h; cases h
        · obtain ⟨c, hc, ha⟩ := List.mem_flatMap.mp h1
          rw [o.nf c hc a ha] at h; cases h
      show (if _ then none else H' a) = some u
      rw [if_neg h1]
      exact e a u (o.fH a u h)
    · obtain ⟨u, hu⟩ := c.th (o.ok c hc) a ha
      rw [hu, e a u hu]
  · show (if _ then none else H' a) = none
    rw [if_pos (Or.inr (List.mem_flatMap.mpr ⟨c, hc, ha⟩))]
  · show (if _ then none else H' p) = some u
    rw [if_neg ?_]
    · exact h2
    · rintro (h3 | h3)
      · cases q : R p with
        | none => rw [q] at h3; cases h3
        | some v => rw [o.rH p v q] at h1; cases h1
      · obtain ⟨c, hc, ha⟩ := List.mem_flatMap.mp h3
        obtain ⟨u', hu⟩ := c.th (o.ok c hc) p ha
        rw [hu] at h1; cases h1
/-- a new frozen object -/
theorem Own.frz (o : Own K R F H L) {p : Addr} {u : HO} (h : H p = none) : Own K R (upd F p u) (upd H p u) L := by
  have hc : ∀ c ∈ L, ∀ a ∈ c.ad, a ≠ p := fun c hc a ha e => by
    obtain ⟨v, hv⟩ := c.th (o.ok c hc) a ha
    rw [e, h] at hv; cases hv
  have hF : F p = none := Ex.free o.fH h
  refine ⟨fun a v q => ?_, o.rH.tr (Ex.new h), fun a v q => ?_, fun c hc' => c.mono (Ex.new hF) (fun a ha => upd_ne (hc c hc' a ha)) (o.ok c hc'), o.nd, fun c hc' a ha => ?_, o.nr⟩
  · by_cases e : a = p
    · subst e; rw [upd_same] at q ⊢; exact q
    · rw [upd_ne e] at q ⊢; exact o.fH a v q
  · have e : a ≠ p := fun e => by subst e; rw [o.rH _ _ q] at h; cases h
    rw [upd_ne e]; exact o.fr a v q
  · rw [upd_ne (hc c hc' a ha)]; exact o.nf c hc' a ha
/-- a new cell -/
theorem Own.cell (o : Own K R F H L) {p : Addr} {u : HO} {c : Cell} (h : H p = none) (ha : c.ad = [p]) (ok : c.ok K F (upd H p u)) : Own K R F (upd H p u) (c :: L) := by
  have hc : ∀ c ∈ L, ∀ a ∈ c.ad, a ≠ p := fun c hc a ha e => by
    obtain ⟨v, hv⟩ := c.th (o.ok c hc) a ha
    rw [e, h] at hv; cases hv
  have hF : F p = none := Ex.free o.fH h
  have hR : R p = none := Ex.free o.rH h
  refine ⟨fun a v q => ?_, o.rH.tr (Ex.new h), o.fr, fun d hd => ?_, ?_, fun d hd a hda => ?_, fun d hd a hda => ?_⟩
  · have e : a ≠ p := fun e => by subst e; rw [hF] at q; cases q
    rw [upd_ne e]; exact o.fH a v q
  · rcases List.mem_cons.mp hd with rfl | hd
    · exact ok
    · exact d.mono (Ex.rf F) (fun a ha => upd_ne (hc d hd a ha)) (o.ok d hd)
  · rw [List.flatMap_cons, ha]
    refine List.nodup_cons.mpr ⟨fun hm => ?_, o.nd⟩
    obtain ⟨d, hd, hda⟩ := List.mem_flatMap.mp hm
    exact hc d hd p hda rfl
  · rcases List.mem_cons.mp hd with rfl | hd
    · rw [ha] at hda; rw [List.mem_singleton.mp hda]; exact hF
    · exact o.nf d hd a hda
  · rcases List.mem_cons.mp hd with rfl | hd
    · rw [ha] at hda; rw [List.mem_singleton.mp hda]; exact hR
    · exact o.nr d hd a hda

/-- one cell is written -/
theorem Own.put (o : Own K R F H L) {k : Nat} {c c' : Cell} (hk : L[k]? = some c) (ha : c'.ad = c.ad) (hs : ∀ b, b ∉ c.ad → H' b = H b) (ok : c'.ok K F H') : Own K R F H' (L.set k c') := by
  obtain ⟨hlt, hek⟩ := List.getElem?_eq_some_iff.mp hk
  have eL : L = L.take k ++ c :: L.drop (k + 1) := by
    rw [← hek]; simp
  have eS : L.set k c' = L.take k ++ c' :: L.drop (k + 1) := by
    rw [List.set_eq_take_append_cons_drop, if_pos hlt]
  have nd := o.nd
  rw [eL] at nd
  simp only [List.flatMap_append, List.flatMap_cons] at nd
  have ncd : ∀ d, d ∈ L.take k ++ L.drop (k + 1) → ∀ a ∈ d.ad, a ∉ c.ad := by
    intro d hd a hda hca
    obtain ⟨n1, n2, n3⟩ := List.nodup_append.mp nd
    obtain ⟨n4, n5, n6⟩ := List.nodup_append.mp n2
    rcases List.mem_append.mp hd with hd | hd
    · exact n3 a (List.mem_flatMap.mpr ⟨d, hd, hda⟩) a (List.mem_append_left _ hca) rfl
    · exact n6 a hca a (List.mem_flatMap.mpr ⟨d, hd, hda⟩) rfl
  have hm : ∀ d, d ∈ L.set k c' → d = c' ∨ (d ∈ L.take k ++ L.drop (k + 1) ∧ d ∈ L) := by
    intro d hd
    rw [eS] at hd
    rcases List.mem_append.mp hd with hd | hd
    · exact Or.inr ⟨List.mem_append_left _ hd, List.mem_of_mem_take hd⟩
    · rcases List.mem_cons.mp hd with hd | hd
      · exact Or.inl hd
      · exact Or.inr ⟨List.mem_append_right _ hd, List.mem_of_mem_drop hd⟩
  have hc : c ∈ L := List.mem_of_getElem? hk
  refine ⟨fun a u h => ?_, fun a u h => ?_, o.fr, fun d hd => ?_, ?_, fun d hd a ha' => ?_, fun d hd a ha' => ?_⟩
  · rw [hs a fun z => by rw [o.nf c hc a z] at h; cases h]; exact o.fH a u h
  · rw [hs a fun z => by rw [o.nr c hc a z] at h; cases h]; exact o.rH a u h
  · rcases hm d hd with rfl | ⟨h1, h2⟩
    · exact ok
    · exact d.mono (Ex.rf F) (fun a ha => hs a (ncd d h1 a ha)) (o.ok d h2)
  · rw [eS]
    simp only [List.flatMap_append, List.flatMap_cons, ha]
    exact nd
  · rcases hm d hd with rfl | ⟨h1, h2⟩
    · exact o.nf c hc a (ha ▸ ha')
    · exact o.nf d h2 a ha'
  · rcases hm d hd with rfl | ⟨h1, h2⟩
    · exact o.nr c hc a (ha ▸ ha')
    · exact o.nr d h2 a ha'
theorem Own.perm {L' : List Cell} (o : Own K R F H L) (p : L'.Perm L) : Own K R F H L' :=
  ⟨o.fH, o.rH, o.fr, fun c hc => o.ok c (p.mem_iff.mp hc), (p.flatMap_right _).nodup_iff.mpr o.nd, fun c hc => o.nf c (p.mem_iff.mp hc), fun c hc => o.nr c (p.mem_iff.mp hc)⟩
/-- cells are dropped: what stands there stands, nobody will write it -/
theorem Own.sub {L1 L2 : List Cell} (o : Own K R F H (L1 ++ L2)) : Own K R F H L2 :=
  ⟨o.fH, o.rH, o.fr, fun c hc => o.ok c (List.mem_append_right _ hc), by
    have := o.nd; rw [List.flatMap_append] at this; exact (List.nodup_append.mp this).2.1, fun c hc => o.nf c (List.mem_append_right _ hc), fun c hc => o.nr c (List.mem_append_right _ hc)⟩
def frame (H F : Hp) (L : List Cell) : Hp := fun b => if (F b).isSome ∨ b ∈ L.flatMap Cell.ad then none else H b
theorem frame_some {L : List Cell} {b : Addr} (h1 : F b = none) (h2 : ∀ c ∈ L, b ∉ c.ad) : frame H F L b = H b := by
  unfold frame
  rw [if_neg]
  rintro (h | h)
  · rw [h1] at h; cases h
  · obtain ⟨c, hc, hb⟩ := List.mem_flatMap.mp h
    exact h2 c hc hb
theorem frame_of {L : List Cell} {b : Addr} {u : HO} (h : frame H F L b = some u) : H b = some u ∧ F b = none ∧ ∀ c ∈ L, b ∉ c.ad := by
  unfold frame at h
  split at h
  · cases h
  · rename_i hn
    refine ⟨h, ?_, fun c hc hb => hn (Or.inr (List.mem_flatMap.mpr ⟨c, hc, hb⟩))⟩
    cases q : F b with
    | none => rfl
    | some v => exact (hn (Or.inl (by rw [q]; rfl))).elim
/-- a callee is handed the cells L1 -/
theorem Own.call {L1 L2 : List Cell} (o : Own K R F H (L1 ++ L2)) : Own K (frame H F L1) F H L1 := by
  refine ⟨o.fH, fun a u h => (frame_of h).1, fun a u h => (frame_of h).2.1, fun c hc => o.ok c (List.mem_append_left _ hc), ?_, fun c hc => o.nf c (List.mem_append_left _ hc), fun c hc a ha => ?_⟩
  · have := o.nd; rw [List.flatMap_append] at this; exact (List.nodup_append.mp this).1
  · cases q : frame H F L1 a with
    | none => rfl
    | some u => exact absurd ha ((frame_of q).2.2 c hc)
theorem Own.back {F' : Hp} {L1 L2 L1' : List Cell} (o : Own K R F H (L1 ++ L2)) (o' : Own K (frame H F L1) F' H' L1') (e : Ex F F') : Own K R F' H' (L1' ++ L2) := by
  have nd := o.nd
  rw [List.flatMap_append] at nd
  obtain ⟨n1, n2, n3⟩ := List.nodup_append.mp nd
  have h2 : ∀ c ∈ L2, ∀ a ∈ c.ad, ∃ u, H a = some u ∧ frame H F L1 a = some u := fun c hc a ha => by
    obtain ⟨u, hu⟩ := c.th (o.ok c (List.mem_append_right _ hc)) a ha
    refine ⟨u, hu, ?_⟩
    rw [frame_some (o.nf c (List.mem_append_right _ hc) a ha) fun d hd hda => n3 a (List.mem_flatMap.mpr ⟨d, hd, hda⟩) a (List.mem_flatMap.mpr ⟨c, hc, ha⟩) rfl]
    exact hu
  have hr : ∀ a u, R a = some u → frame H F L1 a = some u := fun a u h => by
    rw [frame_some (o.fr a u h) fun d hd hda => by rw [o.nr d (List.mem_append_left _ hd) a hda] at h; cases h]
    exact o.rH a u h
  refine ⟨o'.fH, fun a u h => o'.rH a u (hr a u h), fun a u h => o'.fr a u (hr a u h), fun c hc => ?_, ?_, fun c hc a ha => ?_, fun c hc a ha => ?_⟩
  · rcases List.mem_append.mp hc with hc | hc
    · exact o'.ok c hc
    · refine c.mono e (fun a ha => ?_) (o.ok c (List.mem_append_right _ hc))
      obtain ⟨u, h3, h4⟩ := h2 c hc a ha
      rw [h3, o'.rH a u h4]
  · rw [List.flatMap_append]
    refine List.nodup_append.mpr ⟨o'.nd, n2, fun a ha b hb e => ?_⟩
    subst e
    obtain ⟨c, hc, ha⟩ := List.mem_flatMap.mp ha
    obtain ⟨d, hd, hb⟩ := List.mem_flatMap.mp hb
    obtain ⟨u, h3, h4⟩ := h2 d hd a hb
    rw [o'.nr c hc a ha] at h4; cases h4
  · rcases List.mem_append.mp hc with hc | hc
    · exact o'.nf c hc a ha
    · obtain ⟨u, h3, h4⟩ := h2 c hc a ha
      exact o'.fr a u h4
  · rcases List.mem_append.mp hc with hc | hc
    · cases q : R a with
      | none => rfl
      | some u =>
        have h5 := hr a u q
        rw [o'.nr c hc a ha] at h5; cases h5
    · exact o.nr c (List.mem_append_right _ hc) a ha
/-- a cell's content is frozen from now on -/
def jn (F H : Hp) (ad : List Addr) : Hp := fun b => if b ∈ ad then H b else F b
theorem jn_in {ad : List Addr} {b : Addr} (h : b ∈ ad) : jn F H ad b = H b := if_pos h
theorem Own.freeze {c : Cell} (o : Own K R F H (c :: L)) : Ex F (jn F H c.ad) ∧ Own K R (jn F H c.ad) H L ∧ ∀ b ∈ c.ad, jn F H c.ad b = H b := by
  have nd := o.nd
  rw [List.flatMap_cons] at nd
  obtain ⟨n1, n2, n3⟩ := List.nodup_append.mp nd
  have e : Ex F (jn F H c.ad) := fun a u h => by
    unfold jn
    split
    · exact o.fH a u h
    · exact h
  refine ⟨e, ⟨fun a u h => ?_, o.rH, fun a u h => ?_, fun d hd => d.mono e (fun _ _ => rfl) (o.ok d (List.mem_cons_of_mem _ hd)), n2, fun d hd a ha => ?_, fun d hd => o.nr d (List.mem_cons_of_mem _ hd)⟩, fun b hb => if_pos hb⟩
  · unfold jn at h
    split at h
    · exact h
    · exact o.fH a u h
  · unfold jn
    split
    · rename_i ha
      rw [o.nr c List.mem_cons_self a ha] at h; cases h
    · exact o.fr a u h
  · unfold jn
    rw [if_neg fun hc => n3 a hc a (List.mem_flatMap.mpr ⟨d, hd, ha⟩) rfl]
    exact o.nf d (List.mem_cons_of_mem _ hd) a ha
/-- an object that is nobody's: the frame's -/
theorem Own.toR (o : Own K R F H L) {p : Addr} {u : HO} (h : H p = none) : Own K (upd R p u) F (upd H p u) L ∧ R p = none ∧ F p = none := by
  have hc : ∀ c ∈ L, ∀ a ∈ c.ad, a ≠ p := fun c hc a ha e => by
    obtain ⟨v, hv⟩ := c.th (o.ok c hc) a ha
    rw [e, h] at hv; cases hv
  have hF : F p = none := Ex.free o.fH h
  have hR : R p = none := Ex.free o.rH h
  refine ⟨⟨fun a v q => ?_, fun a v q => ?_, fun a v q => ?_, fun d hd => d.mono (Ex.rf F) (fun a ha => upd_ne (hc d hd a ha)) (o.ok d hd), o.nd, o.nf, fun d hd a ha => ?_⟩, hR, hF⟩
  · have e : a ≠ p := fun e => by subst e; rw [hF] at q; cases q
    rw [upd_ne e]; exact o.fH a v q
  · by_cases e : a = p
    · subst e; rw [upd_same] at q ⊢; exact q
    · rw [upd_ne e] at q ⊢; exact o.rH a v q
  · by_cases e : a = p
    · subst e; exact hF
    · rw [upd_ne e] at q; exact o.fr a v q
  · rw [upd_ne (hc d hd a ha)]; exact o.nr d hd a ha
theorem Own.updR {p : Addr} {u u' : HO} (o : Own K (upd R p u) F H L) (hR : R p = none) : Own K (upd R p u') F (upd H p u') L := by
  have hF : F p = none := o.fr p u upd_same
  have hc : ∀ c ∈ L, ∀ a ∈ c.ad, a ≠ p := fun c hc a ha e => by
    have := o.nr c hc a ha
    rw [e, upd_same] at this; cases this
  refine ⟨fun a v q => ?_, fun a v q => ?_, fun a v q => ?_, fun d hd => d.mono (Ex.rf F) (fun a ha => upd_ne (hc d hd a ha)) (o.ok d hd), o.nd, o.nf, fun d hd a ha => ?_⟩
  · have e : a ≠ p := fun e => by subst e; rw [hF] at q; cases q
    rw [upd_ne e]; exact o.fH a v q
  · by_cases e : a = p
    · subst e; rw [upd_same] at q ⊢; exact q
    · rw [upd_ne e] at q ⊢; exact o.rH a v (by rw [upd_ne e]; exact q)
  · by_cases e : a = p
    · subst e; exact hF
    · rw [upd_ne e] at q; exact o.fr a v (by rw [upd_ne e]; exact q)
  · have e := hc d hd a ha
    have := o.nr d hd a ha
    rw [upd_ne e] at this ⊢; exact this
theorem Own.ofR {p : Addr} {u : HO} (o : Own K (upd R p u) F H L) (hR : R p = none) : Own K R (upd F p u) H L ∧ Ex F (upd F p u) := by
  have hF : F p = none := o.fr p u upd_same
  have hc : ∀ c ∈ L, ∀ a ∈ c.ad, a ≠ p := fun c hc a ha e => by
    have := o.nr c hc a ha
    rw [e, upd_same] at this; cases this
  refine ⟨⟨fun a v q => ?_, fun a v q => ?_, fun a v q => ?_, fun d hd => d.mono (Ex.new hF) (fun _ _ => rfl) (o.ok d hd), o.nd, fun d hd a ha => ?_, fun d hd a ha => ?_⟩, Ex.new hF⟩
  · by_cases e : a = p
    · subst e; rw [upd_same] at q; rw [o.rH a u upd_same]; exact q
    · rw [upd_ne e] at q; exact o.fH a v q
  · have e : a ≠ p := fun e => by subst e; rw [hR] at q; cases q
    exact o.rH a v (by rw [upd_ne e]; exact q)
  · have e : a ≠ p := fun e => by subst e; rw [hR] at q; cases q
    rw [upd_ne e]; exact o.fr a v (by rw [upd_ne e]; exact q)
  · rw [upd_ne (hc d hd a ha)]; exact o.nf d hd a ha
  · have := o.nr d hd a ha
    rw [upd_ne (hc d hd a ha)] at this; exact this
/-- a list of one's own -/
def Cell.lst {α : Type} [Rep α] (l : Addr) (as : List α) : Cell := ⟨[l], fun K F H => (∃ vs, H l = some (.lst vs) ∧ Pr (Rep.rp K F) vs as) ∧ as.length ≤ sizeLine, fun x h ⟨⟨vs, h1, h2⟩, h3⟩ => ⟨⟨vs, by rw [h l List.mem_cons_self]; exact h1, h2.imp fun _ _ => Rep.mono x⟩, h3⟩,
  fun ⟨⟨vs, h1, _⟩, _⟩ a ha => by rw [List.mem_singleton.mp ha]; exact ⟨_, h1⟩⟩
end
end Py

namespace Py
open PySem PySem.Spec PyProof.Rows L2

abbrev St := L2.St
/-! ### growth by frozen things -/
structure Gro (F H F' H' : Hp) : Prop where
  f : Ex F F'
  h : Ex H H'
  fh : Ex F' H'
  nw : ∀ p u, F' p = some u → F p = some u ∨ H p = none
theorem Gro.rf {F H : Hp} (e : Ex F H) : Gro F H F H := ⟨Ex.rf F, Ex.rf H, e, fun _ _ h => Or.inl h⟩
theorem Gro.new {F H : Hp} (e : Ex F H) {p : Addr} {o : HO} (h : H p = none) : Gro F H (upd F p o) (upd H p o) := by
  refine ⟨Ex.new (Ex.free e h), Ex.new h, fun a u q => ?_, fun a u q => ?_⟩
  · by_cases z : a = p
    · subst z; rw [upd_same] at q ⊢; exact q
    · rw [upd_ne z] at q ⊢; exact e a u q
  · by_cases z : a = p
    · subst z; exact Or.inr h
    · rw [upd_ne z] at q; exact Or.inl q
theorem Own.gro {K : PySem.W.Frag} {R F H F' H' : Hp} {L : List Cell} (o : Own K R F H L) (g : Gro F H F' H') : Own K R F' H' L := by
  refine ⟨g.fh, o.rH.tr g.h, fun a u h => ?_, fun c hc => c.mono g.f (fun a ha => ?_) (o.ok c hc), o.nd, fun c hc a ha => ?_, o.nr⟩
  · cases q : F' a with
    | none => rfl
    | some v =>
      rcases g.nw a v q with z | z
      · rw [o.fr a u h] at z; cases z
      · rw [o.rH a u h] at z; cases z
  · obtain ⟨u, hu⟩ := c.th (o.ok c hc) a ha
    rw [hu, g.h a u hu]
  · cases q : F' a with
    | none => rfl
    | some v =>
      rcases g.nw a v q with z | z
      · rw [o.nf c hc a ha] at z; cases z
      · obtain ⟨u, hu⟩ := c.th (o.ok c hc) a ha
        rw [hu] at z; cases z

/-! ### a place in a def: the layer's context, the frame, what was frozen at the entry, what is wished of errors -/
structure Cz where
  X : Cx
  R : Hp
  W : WX
structure Cz.Ok (C : Cz) (k : Nat) : Prop where
  tk : Takes C.X C.W
  po : PassesOwn (model C.X.prog C.X.w) C.X.A C.X.env C.X.xe
  calm : C.X.calm = true
  nd : C.X.N.Nodup
  room : Room k C.X.A

/-- the state -/
structure StaK (K : PySem.W.Frag) (R : Hp) (F : Hp) (env : Env) (L : List Cell) (σ : St) (H : Hp) : Prop where
  sl : Slots K F σ env
  ow : Own K R F H L
abbrev Sta (C : Cz) (F : Hp) (env : Env) (L : List Cell) (σ : St) (H : Hp) : Prop := StaK C.X.K C.R F env L σ H

section
variable {C : Cz} {env : Env} {L : List Cell}
theorem StaK.gro {K : PySem.W.Frag} {R F F' H H' : Hp} {σ : St} (s : StaK K R F env L σ H) (g : Gro F H F' H') : StaK K R F' env L σ H' := ⟨s.sl.mono g.f, s.ow.gro g⟩

structure Gw (F H F' H' : Hp) : Prop where
  f : Ex F F'
theorem Gw.rf (F H : Hp) : Gw F H F H := ⟨Ex.rf F⟩
theorem Gw.tr {F H F1 H1 F2 H2 : Hp} (a : Gw F H F1 H1) (b : Gw F1 H1 F2 H2) : Gw F H F2 H2 := ⟨a.f.tr b.f⟩
theorem Gro.w {F H F' H' : Hp} (g : Gro F H F' H') : Gw F H F' H' := ⟨g.f⟩
/-! ### what an expression gives -/
/-- P: the datum, the cells behind; PX: what may fly -/
def eM (C : Cz) (env : Env) (L : List Cell) (P : Ent → List Cell → Prop) (PX : Value → Option Addr → List Cell → Prop) : TE := fun σ H Q => ∃ F, Sta C F env L σ H ∧
  (∀ v r L' F' H', P r L' → Ex F F' → Sta C F' env L' σ H' → r.rp C.X.K F' v → Q v H') ∧ (∀ cls d L' F' H', PX cls d L' → Ex F F' → Sta C F' env L' σ H' → C.W cls d σ H')
def eE (C : Cz) (env : Env) (L : List Cell) (r : Ent) : TE := fun σ H Q => ∃ F, Sta C F env L σ H ∧ ∀ v F' H', Gw F H F' H' → Sta C F' env L σ H' → r.rp C.X.K F' v → Q v H'
def eT (C : Cz) (env : Env) (L : List Cell) (b : Bool) : TT := fun σ H Q => ∃ F, Sta C F env L σ H ∧ ∀ F' H', Gw F H F' H' → Sta C F' env L σ H' → Q b H'
def eA (C : Cz) (env : Env) (L : List Cell) (rs : List Ent) : TA := fun σ H Q => ∃ F, Sta C F env L σ H ∧ ∀ vs F' H', Gw F H F' H' → Sta C F' env L σ H' → Pr (fun v r => Ent.rp r C.X.K F' v) vs rs → Q vs H'
/-- at p a list that bears as, whatever is frozen besides -/
def Rdb {α : Type} [Rep α] (K : PySem.W.Frag) (R : Hp) (L : List Cell) (p : Addr) (as : List α) (F : Hp) : Prop := ∀ F2 H2, Ex F F2 → Own K R F2 H2 L → ∃ vs, SqL K H2 p vs ∧ Pr (Rep.rp K F2) vs as
def eR {α : Type} [Rep α] (C : Cz) (env : Env) (L : List Cell) (as : List α) : TE := fun σ H Q => ∃ F, Sta C F env L σ H ∧ ∀ p F' H', Gw F H F' H' → Sta C F' env L σ H' → Rdb C.X.K C.R L p as F' → as.length ≤ sizeLine → Q (.ref p) H'
def eO (C : Cz) (env : Env) (L : List Cell) (o : Option Int) : TO := fun σ H Q => ∃ F, Sta C F env L σ H ∧ ∀ F' H', Gw F H F' H' → Sta C F' env L σ H' → Q o H'
end
/-- an expression that gives r and changes nothing -/
structure E (C : Cz) (env : Env) (L : List Cell) (e : Expr) (r : Ent) : Prop where
  p : PE C.X e (eE C env L r)
structure EM (C : Cz) (env : Env) (L : List Cell) (e : Expr) (P : Ent → List Cell → Prop) (PX : Value → Option Addr → List Cell → Prop) : Prop where
  p : PE C.X e (eM C env L P PX)
structure T (C : Cz) (env : Env) (L : List Cell) (e : Expr) (b : Bool) : Prop where
  p : PT C.X e (eT C env L b)
structure A (C : Cz) (env : Env) (L : List Cell) (es : List Expr) (rs : List Ent) : Prop where
  p : PA C.X es (eA C env L rs)
structure ER {α : Type} [Rep α] (C : Cz) (env : Env) (L : List Cell) (e : Expr) (as : List α) : Prop where
  p : PE C.X e (eR C env L as)
structure EO (C : Cz) (env : Env) (L : List Cell) (e : Option Expr) (o : Option Int) : Prop where
  p : PO C.X e (eO C env L o)

theorem PE.imp {X : Cx} {e : Expr} {t t' : TE} (h : PE X e t) (i : ∀ σ H Q, t' σ H Q → t σ H Q) : PE X e t' := ⟨fun pins s σ H Q I q => h.run pins s σ H Q I (i σ H Q q)⟩
theorem PT.imp {X : Cx} {e : Expr} {t t' : TT} (h : PT X e t) (i : ∀ σ H Q, t' σ H Q → t σ H Q) : PT X e t' := ⟨fun pins s σ H Q I q => h.run pins s σ H Q I (i σ H Q q)⟩
theorem PA.imp {X : Cx} {e : List Expr} {t t' : TA} (h : PA X e t) (i : ∀ σ H Q, t' σ H Q → t σ H Q) : PA X e t' := ⟨fun pos pins s σ H Q I q => h.run pos pins s σ H Q I (i σ H Q q)⟩
theorem PS.imp {X : Cx} {e : Stmt} {t t' : TS} (h : PS X e t) (i : ∀ D σ H, t' D σ H → t D σ H) : PS X e t' := ⟨fun pins s σ H D I q => h.run pins s σ H D I (i D σ H q)⟩
theorem PSs.imp {X : Cx} {e : List Stmt} {t t' : TS} (h : PSs X e t) (i : ∀ D σ H, t' D σ H → t D σ H) : PSs X e t' := ⟨fun pins s σ H D I q => h.run pins s σ H D I (i D σ H q)⟩
theorem PSs.ex {X : Cx} {e : List Stmt} {ι : Type 1} {p : ι → Prop} {t : ι → TS} (h : ∀ i, p i → PSs X e (t i)) : PSs X e (fun D σ H => ∃ i, p i ∧ t i D σ H) := ⟨fun pins s σ H D I ⟨i, hp, q⟩ => (h i hp).run pins s σ H D I q⟩

section
variable {C : Cz} {k : Nat} {env : Env} {L : List Cell} {e a b c : Expr} {r r1 r2 r3 : Ent} {pos : Pos}

theorem E.m (h : E C env L e r) : EM C env L e (fun r' L' => r' = r ∧ L' = L) (fun _ _ _ => False) := ⟨PE.imp h.p fun σ H Q ⟨F, s, q, _⟩ => ⟨F, s, fun v F' H' x s' rv => q v r L F' H' ⟨rfl, rfl⟩ x.f s' rv⟩⟩
theorem E.imm {α : Type} [Rep α] {as : List α} (h : E C env L e ⟨as⟩) : ER C env L e as := ⟨PE.imp h.p fun σ H Q ⟨F, s, q⟩ => ⟨F, s, fun v F' H' x s' rv => by
  obtain ⟨p, vs, rfl, h1, h2, h3⟩ := rv
  exact q p F' H' x s' (fun F2 H2 x2 o2 => ⟨vs, sq_of (o2.fH _ _ (x2 _ _ h1)), h2.imp fun _ _ => Rep.mono x2⟩) h3⟩⟩
theorem E.scr {n : List Int} (h : E C env L e ⟨(Scr.mk n)⟩) : ER C env L e n := ⟨PE.imp h.p fun σ H Q ⟨F, s, q⟩ => ⟨F, s, fun v F' H' x s' rv => by
  obtain ⟨p, rfl, h1, h2⟩ := rv
  exact q p F' H' x s' (fun F2 H2 x2 o2 => ⟨_, ex_l o2.fH (ex_l x2 h1), Pr.map1 (Pr.diag (R := fun c b => Rep.rp C.X.K F2 (V.int c) b) (fun _ => rfl) n)⟩) (Nat.le_trans h2 (by decide))⟩⟩

/-! names, constants -/
theorem E_var (i : Nat) {x : Str} (he : env[i]? = some (some r) := by rfl) (hN : C.X.N[i]? = some x := by rfl) (hv : Vis C.X.env.scope x := by first | exact Or.inl rfl | exact Or.inr (Or.inl rfl) | exact Or.inr (Or.inr rfl)) (hd : (x == ("__debug__" : Str)) = false := by decide)
    (hcd : (x == ("__classdict__" : Str)) = false := by decide) : E C env L (.Name x pos) r := ⟨PE.imp (pe_var hN hv hd hcd) fun σ H Q ⟨F, s, q⟩ => by
  obtain ⟨v, h1, h2⟩ := s.sl.get he
  exact ⟨v, h1, q v F H (Gw.rf F H) s h2⟩⟩
theorem E_int {i : Int} {j} : E C env L (.Constant (.int i) j pos) ⟨i⟩ := ⟨PE.imp pe_int fun σ H Q ⟨F, s, q⟩ => q _ F H (Gw.rf F H) s rfl⟩
theorem E_bl {i : Bool} {j} : E C env L (.Constant (.bool i) j pos) ⟨i⟩ := ⟨PE.imp pe_bl fun σ H Q ⟨F, s, q⟩ => q _ F H (Gw.rf F H) s rfl⟩
theorem E_str {i : Str} {j} (hz : SOk i := by exact ⟨by decide, by decide +kernel⟩) : E C env L (.Constant (.str i) j pos) ⟨i⟩ := ⟨PE.imp pe_str fun σ H Q ⟨F, s, q⟩ => q _ F H (Gw.rf F H) s ⟨rfl, hz⟩⟩
theorem E_non {j} : E C env L (.Constant .none j pos) ⟨()⟩ := ⟨PE.imp pe_non fun σ H Q ⟨F, s, q⟩ => q _ F H (Gw.rf F H) s rfl⟩

/-! operations on values -/
def OpS (K : PySem.W.Frag) (t : R2) (r1 r2 r : Ent) : Prop := ∀ F H v1 v2 (Q : VK), Ex F H → r1.rp K F v1 → r2.rp K F v2 → (∀ v F' H', Gro F H F' H' → r.rp K F' v → Q v H') → t v1 v2 H Q
def UnS (K : PySem.W.Frag) (t : V → Hp → VK → Prop) (r1 r : Ent) : Prop := ∀ F H v1 (Q : VK), Ex F H → r1.rp K F v1 → (∀ v F' H', Gro F H F' H' → r.rp K F' v → Q v H') → t v1 H Q
def CaS (K : PySem.W.Frag) (t : List V → Hp → VK → Prop) (rs : List Ent) (r : Ent) : Prop := ∀ F H vs (Q : VK), Ex F H → Pr (fun v r => Ent.rp r K F v) vs rs → (∀ v F' H', Gro F H F' H' → r.rp K F' v → Q v H') → t vs H Q
structure Bin (X : Cx) (op : Operator) (r1 r2 r : Ent) : Prop where
  h : ∃ t, OpR X (binaryOp op) t ∧ OpS X.K t r1 r2 r
structure Cmp (X : Cx) (op : CmpOp) (r1 r2 r : Ent) : Prop where
  h : ∃ t, OpR X (compareOp op) t ∧ OpS X.K t r1 r2 r
structure Una (X : Cx) (op : UnaryOp) (r1 r : Ent) : Prop where
  h : ∃ t, UnR X (unaryOp op) t ∧ UnS X.K t r1 r

theorem tOp_of {t : R2} {ta tb : TE} (ha : ∀ σ H Q, eE C env L r1 σ H Q → ta σ H Q) (hb : ∀ σ H Q, eE C env L r2 σ H Q → tb σ H Q) (ht : OpS C.X.K t r1 r2 r) : ∀ σ H Q, eE C env L r σ H Q → tOp t ta tb σ H Q := fun σ H Q ⟨F, s, q⟩ =>
  ha σ H _ ⟨F, s, fun v1 F1 H1 x1 s1 rv1 => hb σ H1 _ ⟨F1, s1, fun v2 F2 H2 x2 s2 rv2 => ht F2 H2 v1 v2 Q s2.ow.fH (Ent.mono x2.f rv1) rv2 fun v F' H' g rv => q v F' H' ((x1.tr x2).tr g.w) (s2.gro g) rv⟩⟩
theorem E_bin {op : Operator} (ha : E C env L a r1) (hb : E C env L b r2) (h : Bin C.X op r1 r2 r) : E C env L (.BinOp a op b pos) r := by
  obtain ⟨t, ho, hs⟩ := h.h
  exact ⟨PE.imp (pe_op ho ha.p hb.p) (tOp_of (fun _ _ _ z => z) (fun _ _ _ z => z) hs)⟩
theorem E_un {op : UnaryOp} (ha : E C env L a r1) (h : Una C.X op r1 r) : E C env L (.UnaryOp op a pos) r := by
  obtain ⟨t, ho, hs⟩ := h.h
  exact ⟨PE.imp (pe_un ho ha.p) fun σ H Q ⟨F, s, q⟩ => ⟨F, s, fun v1 F1 H1 x1 s1 rv1 => hs F1 H1 v1 Q s1.ow.fH rv1 fun v F' H' g rv => q v F' H' (x1.tr g.w) (s1.gro g) rv⟩⟩
theorem E_cmp {op : CmpOp} (ha : E C env L a r1) (hb : E C env L b r2) (h : Cmp C.X op r1 r2 r) (hm : behindInMarks op b = false := by rfl) : E C env L (.Compare a [op] [b] pos) r := by
  obtain ⟨t, ho, hs⟩ := h.h
  exact ⟨PE.imp (pe_cmpR ho ha.p hb.p hm) (tOp_of (fun _ _ _ z => z) (fun _ _ _ z => z) hs)⟩
end
end Py

namespace Py
open PySem PySem.Spec PyProof.Rows L2

/-! ### statements -/
structure Po where
  nx : Env → List Cell → Prop
  rt : Ent → List Cell → Prop
  bk : Env → List Cell → Prop := fun _ _ => False
  ct : Env → List Cell → Prop := fun _ _ => False
  ex : Value → Option Addr → Env → List Cell → Prop := fun _ _ _ _ => False
structure SndK (K : PySem.W.Frag) (R : Hp) (W : WX) (F : Hp) (Q : Po) (D : Ends) : Prop where
  nx : ∀ env' L' σ' F' H', Q.nx env' L' → Ex F F' → StaK K R F' env' L' σ' H' → D.nx σ' H'
  rt : ∀ r L' v F' H', Q.rt r L' → Ex F F' → Own K R F' H' L' → Ent.rp r K F' v → D.rt v H'
  bk : ∀ env' L' σ' F' H', Q.bk env' L' → Ex F F' → StaK K R F' env' L' σ' H' → D.bk σ' H'
  ct : ∀ env' L' σ' F' H', Q.ct env' L' → Ex F F' → StaK K R F' env' L' σ' H' → D.ct σ' H'
  ex : ∀ cls d env' L' σ' F' H', Q.ex cls d env' L' → Ex F F' → StaK K R F' env' L' σ' H' → W cls d σ' H'
abbrev Snd (C : Cz) (F : Hp) (Q : Po) (D : Ends) : Prop := SndK C.X.K C.R C.W F Q D
theorem SndK.mono {K : PySem.W.Frag} {R : Hp} {W : WX} {F F' : Hp} {Q : Po} {D : Ends} (n : SndK K R W F Q D) (x : Ex F F') : SndK K R W F' Q D :=
  ⟨fun a b c d e h y s => n.nx a b c d e h (x.tr y) s, fun a b c d e h y s => n.rt a b c d e h (x.tr y) s, fun a b c d e h y s => n.bk a b c d e h (x.tr y) s, fun a b c d e h y s => n.ct a b c d e h (x.tr y) s, fun a b c d e f g h y s => n.ex a b c d e f g h (x.tr y) s⟩
def sS (C : Cz) (env : Env) (L : List Cell) (Q : Po) : TS := fun D σ H => ∃ F, Sta C F env L σ H ∧ Snd C F Q D
structure S1 (C : Cz) (env : Env) (L : List Cell) (st : Stmt) (Q : Po) : Prop where
  p : PS C.X st (sS C env L Q)
structure S (C : Cz) (env : Env) (L : List Cell) (sts : List Stmt) (Q : Po) : Prop where
  p : PSs C.X sts (sS C env L Q)
section
variable {C : Cz} {k : Nat} {env : Env} {L : List Cell} {e a b c : Expr} {r r1 r2 r3 : Ent} {pos : Pos} {Q : Po} {st : Stmt} {rest : List Stmt} {P : Ent → List Cell → Prop} {PX : Value → Option Addr → List Cell → Prop}
theorem S_nil (h : Q.nx env L) : S C env L [] Q := ⟨PSs.imp pss_nil fun D σ H ⟨F, s, n⟩ => n.nx env L σ F H h (Ex.rf F) s⟩
theorem S_cons (h : S1 C env L st { Q with nx := fun env' L' => S C env' L' rest Q }) : S C env L (st :: rest) Q := by
  have u := PSs.ex (X := C.X) (e := rest) (ι := Env × List Cell) (p := fun i => S C i.1 i.2 rest Q) (t := fun i => sS C i.1 i.2 Q) fun i h => h.p
  exact ⟨PSs.imp (pss_cons h.p u) fun D σ H ⟨F, s, n⟩ => ⟨F, s, ⟨fun env' L' σ' F' H' h x s' => ⟨(env', L'), h, F', s', n.mono x⟩, n.rt, n.bk, n.ct, n.ex⟩⟩⟩
theorem S_one (h : S1 C env L st Q) : S C env L [st] Q := ⟨PSs.imp (pss_one h.p) fun D σ H z => z⟩
/-- a stop: the rest isn't reached -/
theorem S_stop (h : S1 C env L st { Q with nx := fun _ _ => False }) : S C env L (st :: rest) Q :=
  ⟨PSs.imp (pss_cons h.p (pss_never (sts := rest))) fun D σ H ⟨F, s, n⟩ => ⟨F, s, ⟨fun _ _ _ _ _ h _ _ => h.elim, n.rt, n.bk, n.ct, n.ex⟩⟩⟩
theorem S.imp {Q' : Po} (h : S C env L rest Q) (h1 : ∀ e l, Q.nx e l → Q'.nx e l) (h2 : ∀ e l, Q.rt e l → Q'.rt e l) (h3 : ∀ e l, Q.bk e l → Q'.bk e l) (h4 : ∀ e l, Q.ct e l → Q'.ct e l) (h5 : ∀ c d e l, Q.ex c d e l → Q'.ex c d e l) : S C env L rest Q' :=
  ⟨PSs.imp h.p fun D σ H ⟨F, s, n⟩ => ⟨F, s, ⟨fun a b c d e h => n.nx a b c d e (h1 _ _ h), fun a b c d e h => n.rt a b c d e (h2 _ _ h), fun a b c d e h => n.bk a b c d e (h3 _ _ h), fun a b c d e h => n.ct a b c d e (h4 _ _ h), fun a b c d e f g h => n.ex a b c d e f g (h5 _ _ _ _ h)⟩⟩⟩
theorem S_pass (h : Q.nx env L) : S1 C env L (.Pass pos) Q := ⟨PS.imp ps_pass fun D σ H ⟨F, s, n⟩ => n.nx env L σ F H h (Ex.rf F) s⟩
theorem S_brk (h : Q.bk env L) : S1 C env L (.Break pos) Q := ⟨PS.imp ps_break fun D σ H ⟨F, s, n⟩ => n.bk env L σ F H h (Ex.rf F) s⟩
theorem S_cnt (h : Q.ct env L) : S1 C env L (.Continue pos) Q := ⟨PS.imp ps_continue fun D σ H ⟨F, s, n⟩ => n.ct env L σ F H h (Ex.rf F) s⟩
theorem S_doc {x j pos'} (h : Q.nx env L) : S1 C env L (.Expr (.Constant (.str x) j pos) pos') Q := ⟨PS.imp ps_doc fun D σ H ⟨F, s, n⟩ => n.nx env L σ F H h (Ex.rf F) s⟩

/-- x = e -/
theorem S1_setM (i : Nat) {x : Str} {pos' : Pos} (hN : C.X.N.Nodup) (he : EM C env L e P PX) (h : ∀ r L', P r L' → Q.nx (env.set i (some r)) L') (hx : ∀ cls d L', PX cls d L' → Q.ex cls d env L')
    (hi : C.X.N[i]? = some x := by rfl) (hl : Loc C.X.env.scope x := by first | exact Or.inl rfl | exact Or.inr rfl) (hs : swapsWith e (some (.Name x pos')) pos.line C.X.env = pure false := by rfl) (hf : C.X.fn x = true ∨ C.X.env.scope.names.lookup x = some .local := by exact Or.inl rfl) : S1 C env L (.Assign [.Name x pos'] e pos) Q :=
  ⟨PS.imp (ps_asg he.p (pg_name hN hi hl hf) hs rfl rfl) fun D σ H ⟨F, s, n⟩ => ⟨F, s, fun v r L' F' H' hp x s' rv => n.nx _ _ _ F' H' (h r L' hp) x ⟨s'.sl.put rv i, s'.ow⟩, fun cls d L' F' H' hp x s' => n.ex cls d env L' σ F' H' (hx cls d L' hp) x s'⟩⟩
theorem S_setM (i : Nat) {x : Str} {pos' : Pos} (hN : C.X.N.Nodup) (he : EM C env L e P PX) (h : ∀ r L', P r L' → S C (env.set i (some r)) L' rest Q) (hx : ∀ cls d L', PX cls d L' → Q.ex cls d env L')
    (hi : C.X.N[i]? = some x := by rfl) (hl : Loc C.X.env.scope x := by first | exact Or.inl rfl | exact Or.inr rfl) (hs : swapsWith e (some (.Name x pos')) pos.line C.X.env = pure false := by rfl) (hf : C.X.fn x = true ∨ C.X.env.scope.names.lookup x = some .local := by exact Or.inl rfl) : S C env L (.Assign [.Name x pos'] e pos :: rest) Q :=
  S_cons (S1_setM i hN he h hx hi hl hs hf)
theorem S_set (i : Nat) {x : Str} {pos' : Pos} (hN : C.X.N.Nodup) (he : E C env L e r) (h : S C (env.set i (some r)) L rest Q)
    (hi : C.X.N[i]? = some x := by rfl) (hl : Loc C.X.env.scope x := by first | exact Or.inl rfl | exact Or.inr rfl) (hs : swapsWith e (some (.Name x pos')) pos.line C.X.env = pure false := by rfl) (hf : C.X.fn x = true ∨ C.X.env.scope.names.lookup x = some .local := by exact Or.inl rfl) : S C env L (.Assign [.Name x pos'] e pos :: rest) Q :=
  S_setM i hN he.m (fun r' L' z => by obtain ⟨rfl, rfl⟩ := z; exact h) (fun _ _ _ z => z.elim) hi hl hs hf
/-- return e -/
theorem S_retM (he : EM C env L e P PX) (h : ∀ r L', P r L' → Q.rt r L') (hx : ∀ cls d L', PX cls d L' → Q.ex cls d env L') : S C env L (.Return (some e) pos :: rest) Q :=
  S_stop ⟨PS.imp (ps_ret he.p) fun D σ H ⟨F, s, n⟩ => ⟨F, s, fun v r L' F' H' hp x s' rv => n.rt r L' v F' H' (h r L' hp) x s'.ow rv, fun cls d L' F' H' hp x s' => n.ex cls d env L' σ F' H' (hx cls d L' hp) x s'⟩⟩
theorem S_ret (he : E C env L e r) (h : Q.rt r L) : S C env L (.Return (some e) pos :: rest) Q :=
  S_retM he.m (fun r' L' z => by obtain ⟨rfl, rfl⟩ := z; exact h) (fun _ _ _ z => z.elim)
theorem S_retN (h : Q.rt ⟨()⟩ L) : S C env L (.Return none pos :: rest) Q :=
  S_stop ⟨PS.imp ps_retN fun D σ H ⟨F, s, n⟩ => n.rt ⟨()⟩ L .non F H h (Ex.rf F) s.ow rfl⟩
/-- e as a statement -/
theorem S_exprM (he : EM C env L e P PX) (h : ∀ r L', P r L' → S C env L' rest Q) (hx : ∀ cls d L', PX cls d L' → Q.ex cls d env L') (hs : swapsWith e none pos.line C.X.env = pure false := by rfl) : S C env L (.Expr e pos :: rest) Q :=
  S_cons ⟨PS.imp (ps_expr he.p hs) fun D σ H ⟨F, s, n⟩ => ⟨F, s, fun v r L' F' H' hp x s' rv => n.nx env L' σ F' H' (h r L' hp) x s', fun cls d L' F' H' hp x s' => n.ex cls d env L' σ F' H' (hx cls d L' hp) x s'⟩⟩
/-- if -/
theorem S_if {bo : Bool} {as bs : List Stmt} (hc : T C env L c bo) (h1 : bo = true → S C env L as { Q with nx := fun env' L' => S C env' L' rest Q }) (h2 : bo = false → S C env L bs { Q with nx := fun env' L' => S C env' L' rest Q }) : S C env L (.If c as bs pos :: rest) Q := by
  refine S_cons ⟨?_⟩
  cases bo with
  | true => exact PS.imp (ps_if hc.p (h1 rfl).p (pss_never)) fun D σ H ⟨F, s, n⟩ => ⟨F, s, fun F' H' x s' => by
      refine iteT ?_
      exact ⟨F', s', n.mono x.f⟩⟩
  | false => exact PS.imp (ps_if hc.p (pss_never) (h2 rfl).p) fun D σ H ⟨F, s, n⟩ => ⟨F, s, fun F' H' x s' => by
      refine iteF ?_
      exact ⟨F', s', n.mono x.f⟩⟩
/-- if, the ways joined: M holds behind both -/
theorem S_ifM {bo : Bool} {as bs : List Stmt} (M : Env → List Cell → Prop) (hc : T C env L c bo) (h1 : bo = true → S C env L as { Q with nx := M }) (h2 : bo = false → S C env L bs { Q with nx := M }) (h : ∀ env' L', M env' L' → S C env' L' rest Q) : S C env L (.If c as bs pos :: rest) Q :=
  S_if hc (fun z => (h1 z).imp (fun e l m => h e l m) (fun _ _ z => z) (fun _ _ z => z) (fun _ _ z => z) (fun _ _ _ _ z => z)) (fun z => (h2 z).imp (fun e l m => h e l m) (fun _ _ z => z) (fun _ _ z => z) (fun _ _ z => z) (fun _ _ _ _ z => z))
theorem S.conv {env' : Env} {L' : List Cell} (h : S C env' L' rest Q) (he : env = env' := by rfl) (hl : L = L' := by rfl) : S C env L rest Q := by
  subst he hl; exact h

/-! tests -/
theorem T_val {bo : Bool} (h : E C env L e ⟨bo⟩) (he : ∀ whole, isTrue e C.X.env whole = (do let v ← whole; standAt e.pos; holding [v] (truthy v)) := by intro _; rfl) : T C env L e bo :=
  ⟨PT.imp (pt_val h.p he) fun σ H Q ⟨F, s, q⟩ => ⟨F, s, fun v F' H' x s' rv => ⟨bo, rv, q F' H' x s'⟩⟩⟩
theorem T_cmp {op : CmpOp} {bo : Bool} (ha : E C env L a r1) (hb : E C env L b r2) (h : Cmp C.X op r1 r2 ⟨bo⟩) (hm : behindInMarks op b = false := by rfl) : T C env L (.Compare a [op] [b] pos) bo := by
  obtain ⟨t, ho, hs⟩ := h.h
  exact ⟨PT.imp (pt_cmpR ho ha.p hb.p hm) fun σ H Q ⟨F, s, q⟩ => tOp_of (r := ⟨bo⟩) (fun _ _ _ z => z) (fun _ _ _ z => z) hs σ H _ ⟨F, s, fun v F' H' x s' rv => ⟨bo, rv, q F' H' x s'⟩⟩⟩
theorem T_not {bo : Bool} (h : T C env L a bo) : T C env L (.UnaryOp .Not a pos) (!bo) := ⟨PT.imp (pt_not h.p) fun σ H Q ⟨F, s, q⟩ => ⟨F, s, q⟩⟩
/-- a and b, a or b as tests -/
structure TW (C : Cz) (env : Env) (L : List Cell) (e : Expr) (b : Bool) : Prop where
  p : PW C.X e (eT C env L b)
theorem PW.imp {X : Cx} {e : Expr} {t t' : TT} (h : PW X e t) (i : ∀ σ H Q, t' σ H Q → t σ H Q) : PW X e t' := ⟨fun whole pins s σ H Q I q => h.run whole pins s σ H Q I (i σ H Q q)⟩
theorem T_w {bo : Bool} (h : TW C env L e bo) : T C env L e bo := ⟨h.p.pt⟩
theorem T_and1 {bo : Bool} (h : T C env L a bo) : TW C env L (.BoolOp .And [a] pos) bo := ⟨pw_and1 h.p⟩
theorem T_or1 {bo : Bool} (h : T C env L a bo) : TW C env L (.BoolOp .Or [a] pos) bo := ⟨pw_or1 h.p⟩
theorem PW.never {X : Cx} {e : Expr} : PW X e (fun _ _ _ => False) := ⟨fun _ _ _ _ _ _ _ h => h.elim⟩
theorem T_and {b1 b2 : Bool} {bb : Expr} {bs : List Expr} (h1 : T C env L a b1) (h2 : b1 = true → TW C env L (.BoolOp .And (bb :: bs) pos) b2) : TW C env L (.BoolOp .And (a :: bb :: bs) pos) (b1 && b2) := by
  cases b1 with
  | true => exact ⟨PW.imp (pw_and h1.p (h2 rfl).p) fun σ H Q ⟨F, s, q⟩ => ⟨F, s, fun F' H' x s' => by
      refine iteT ?_
      exact ⟨F', s', fun F2 H2 x2 s2 => q F2 H2 (x.tr x2) s2⟩⟩⟩
  | false => exact ⟨PW.imp (pw_and h1.p PW.never) fun σ H Q ⟨F, s, q⟩ => ⟨F, s, fun F' H' x s' => by
      refine iteF ?_
      exact q F' H' x s'⟩⟩
theorem T_or {b1 b2 : Bool} {bb : Expr} {bs : List Expr} (h1 : T C env L a b1) (h2 : b1 = false → TW C env L (.BoolOp .Or (bb :: bs) pos) b2) : TW C env L (.BoolOp .Or (a :: bb :: bs) pos) (b1 || b2) := by
  cases b1 with
  | false => exact ⟨PW.imp (pw_or h1.p (h2 rfl).p) fun σ H Q ⟨F, s, q⟩ => ⟨F, s, fun F' H' x s' => by
      refine iteF ?_
      exact ⟨F', s', fun F2 H2 x2 s2 => q F2 H2 (x.tr x2) s2⟩⟩⟩
  | true => exact ⟨PW.imp (pw_or h1.p PW.never) fun σ H Q ⟨F, s, q⟩ => ⟨F, s, fun F' H' x s' => by
      refine iteT ?_
      exact q F' H' x s'⟩⟩
/-! and, or, not, if as values -/
theorem PE.never {X : Cx} {e : Expr} : PE X e (fun _ _ _ => False) := ⟨fun _ _ _ _ _ _ h => h.elim⟩
theorem E_one {op} (h : E C env L a r) : E C env L (.BoolOp op [a] pos) r := ⟨pe_one h.p⟩
theorem E_and {b1 b2 : Bool} {bb : Expr} {bs : List Expr} (h1 : E C env L a ⟨b1⟩) (h2 : b1 = true → E C env L (.BoolOp .And (bb :: bs) pos) ⟨b2⟩) : E C env L (.BoolOp .And (a :: bb :: bs) pos) ⟨b1 && b2⟩ := by
  cases b1 with
  | true => exact ⟨PE.imp (pe_and h1.p (h2 rfl).p) fun σ H Q ⟨F, s, q⟩ => ⟨F, s, fun v F' H' x s' rv => ⟨true, rv, by
      refine iteT ?_
      exact ⟨F', s', fun v2 F2 H2 x2 s2 => q v2 F2 H2 (x.tr x2) s2⟩⟩⟩⟩
  | false => exact ⟨PE.imp (pe_and h1.p PE.never) fun σ H Q ⟨F, s, q⟩ => ⟨F, s, fun v F' H' x s' rv => ⟨false, rv, by
      refine iteF ?_
      exact q _ F' H' x s' rfl⟩⟩⟩
theorem E_or {b1 b2 : Bool} {bb : Expr} {bs : List Expr} (h1 : E C env L a ⟨b1⟩) (h2 : b1 = false → E C env L (.BoolOp .Or (bb :: bs) pos) ⟨b2⟩) : E C env L (.BoolOp .Or (a :: bb :: bs) pos) ⟨b1 || b2⟩ := by
  cases b1 with
  | false => exact ⟨PE.imp (pe_or h1.p (h2 rfl).p) fun σ H Q ⟨F, s, q⟩ => ⟨F, s, fun v F' H' x s' rv => ⟨false, rv, by
      refine iteF ?_
      exact ⟨F', s', fun v2 F2 H2 x2 s2 => q v2 F2 H2 (x.tr x2) s2⟩⟩⟩⟩
  | true => exact ⟨PE.imp (pe_or h1.p PE.never) fun σ H Q ⟨F, s, q⟩ => ⟨F, s, fun v F' H' x s' rv => ⟨true, rv, by
      refine iteT ?_
      exact q _ F' H' x s' rfl⟩⟩⟩
theorem E_not {bo : Bool} (h : E C env L a ⟨bo⟩) : E C env L (.UnaryOp .Not a pos) ⟨!bo⟩ := ⟨PE.imp (pe_not h.p) fun σ H Q ⟨F, s, q⟩ => ⟨F, s, fun v F' H' x s' rv => ⟨bo, rv, q _ F' H' x s' rfl⟩⟩⟩
theorem E_ife {α : Type} [Rep α] {x y : α} {bo : Bool} (hc : T C env L c bo) (h1 : bo = true → E C env L a ⟨x⟩) (h2 : bo = false → E C env L b ⟨y⟩) : E C env L (.IfExp c a b pos) ⟨if bo then x else y⟩ := by
  cases bo with
  | true => exact ⟨PE.imp (pe_ifExp hc.p (h1 rfl).p PE.never) fun σ H Q ⟨F, s, q⟩ => ⟨F, s, fun F' H' x s' => by
      refine iteT ?_
      exact ⟨F', s', fun v2 F2 H2 x2 s2 => q v2 F2 H2 (x.tr x2) s2⟩⟩⟩
  | false => exact ⟨PE.imp (pe_ifExp hc.p PE.never (h2 rfl).p) fun σ H Q ⟨F, s, q⟩ => ⟨F, s, fun F' H' x s' => by
      refine iteF ?_
      exact ⟨F', s', fun v2 F2 H2 x2 s2 => q v2 F2 H2 (x.tr x2) s2⟩⟩⟩
/-! arguments -/
theorem A_nil : A C env L [] [] := ⟨PA.imp pa_nil fun σ H Q ⟨F, s, q⟩ => q [] F H (Gw.rf F H) s .nil⟩
end
end Py

namespace Py
open PySem PySem.Spec PyProof.Rows L2

/-! ### what a def promises -/
/-- for one list of arguments and cells -/
def sp1 (K : PySem.W.Frag) (arg : List Ent) (cel : List Cell) (post : Ent → List Cell → Prop) (exc : Value → Option Addr → List Cell → Prop) : Sp := fun vs H Q E => ∃ R F, Own K R F H cel ∧ Pr (fun v r => Ent.rp r K F v) vs arg ∧
  (∀ r L' v F' H', post r L' → Ex F F' → Own K R F' H' L' → Ent.rp r K F' v → Q v H') ∧ (∀ cls d L' F' H', exc cls d L' → Ex F F' → Own K R F' H' L' → E cls d H')
/-- for all ghosts g -/
def spM.{u} {γ : Type u} (K : PySem.W.Frag) (arg : γ → List Ent) (cel : γ → List Cell) (pre : γ → Prop) (post : γ → Ent → List Cell → Prop) (exc : γ → Value → Option Addr → List Cell → Prop) : Sp := fun vs H Q E => ∃ g, pre g ∧ sp1 K (arg g) (cel g) (post g) (exc g) vs H Q E
/-- a function of its arguments -/
def spF.{u} {γ : Type u} (K : PySem.W.Frag) (arg : γ → List Ent) (pre : γ → Prop) (res : γ → Ent) : Sp := spM K arg (fun _ => []) pre (fun g r L' => r = res g ∧ L' = []) (fun _ _ _ _ => False)

/-- the module's name x is a def that keeps sp -/
structure Hs (P : Program) (w : World) (K : PySem.W.Frag) (mg : Str → Option Value) (base : Heap) (k : Nat) (x : Str) (sp : Sp) : Prop where
  h : ∃ f fd ps, mg x = some (.ref f) ∧ PySem.W.keepIn K (.ref f) = true ∧ Binds K fd ps [] ∧ FnOk P w K mg base (L2.CX P w) k f fd ps sp

section
variable {C : Cz} {k j : Nat} {env : Env} {L LR : List Cell} {e a b c : Expr} {es : List Expr} {r r1 r2 r3 : Ent} {rs : List Ent} {pos p apos : Pos} {Q : Po} {st : Stmt} {rest : List Stmt} {x : Str}
theorem A_cons (h : E C env L e r) (hr : A C env L es rs) (hs : starEach (e :: es) C.X.env = (false, eval e C.X.env) :: starEach es C.X.env := by rfl) : A C env L (e :: es) (r :: rs) :=
  ⟨PA.imp (pa_cons h.p hr.p hs) fun σ H Q ⟨F, s, q⟩ => ⟨F, s, fun v F1 H1 x1 s1 rv => ⟨F1, s1, fun vs F2 H2 x2 s2 rvs => q (v :: vs) F2 H2 (x1.tr x2) s2 (.cons (Ent.mono x2.f rv) rvs)⟩⟩⟩

theorem Cz.Ok.mono (h : C.Ok k) (hj : j ≤ k) : C.Ok j := ⟨h.tk, h.po, h.calm, h.nd, h.room.mono hj⟩

theorem of_sp1.{u} {γ : Type u} {arg : γ → List Ent} {cel : γ → List Cell} {pre : γ → Prop} {post : γ → Ent → List Cell → Prop} {exc : γ → Value → Option Addr → List Cell → Prop} (g : γ) (hp : pre g) (hL : L.Perm (cel g ++ LR)) {σ : Py.St} {F H : Hp} {Q : VK} {vs : List V} (s : Sta C F env L σ H) (rv : Pr (fun v r => Ent.rp r C.X.K F v) vs (arg g))
    (h1 : ∀ v r L' F' H', post g r L' → Ex F F' → Sta C F' env (L' ++ LR) σ H' → Ent.rp r C.X.K F' v → Q v H') (h2 : ∀ cls d L' F' H', exc g cls d L' → Ex F F' → Sta C F' env (L' ++ LR) σ H' → C.W cls d σ H') : spM C.X.K arg cel pre post exc vs H Q (WE C.W σ) := by
  have o : Own C.X.K C.R F H (cel g ++ LR) := s.ow.perm hL.symm
  refine ⟨g, hp, frame H F (cel g), F, o.call, rv, fun r L' v F' H' hpost x o' rr => h1 v r L' F' H' hpost x ⟨s.sl.mono x, o.back o' x⟩ rr, fun cls d L' F' H' hx x o' => h2 cls d L' F' H' hx x ⟨s.sl.mono x, o.back o' x⟩⟩

/-- f(e, ..) -/
theorem EM_call.{u} {γ : Type u} {arg : γ → List Ent} {cel : γ → List Cell} {pre : γ → Prop} {post : γ → Ent → List Cell → Prop} {exc : γ → Value → Option Addr → List Cell → Prop} (g : γ) (ok : C.Ok k) (Fn : Hs C.X.prog C.X.w C.X.K C.X.mg C.X.base j x (spM C.X.K arg cel pre post exc)) (ha : A C env L (e :: es) (arg g)) (hp : pre g) (hL : L.Perm (cel g ++ LR)) (hj : j ≤ k := by decide) (hg : Gl C.X x := by rfl)
    (hdb : (x == ("__debug__" : Str)) = false := by decide) (he : starEach (e :: es) C.X.env = (false, eval e C.X.env) :: starEach es C.X.env := by rfl) (hpl : (backTo pos (starEach es C.X.env)).any (·.1) = false := by rfl) :
    EM C env L (.Call (.Name x p) (e :: es) [] pos) (fun r L' => ∃ L1, post g r L1 ∧ L' = L1 ++ LR) (fun cls d L' => ∃ L1, exc g cls d L1 ∧ L' = L1 ++ LR) := by
  obtain ⟨f, fd, ps, hm, hk, hb, F⟩ := Fn.h
  refine ⟨PE.imp (pe_callSD F (ok.room.mono hj) hg hm hk hb .nil (fun σ => passAt ok.tk σ) ha.p hdb he hpl) fun σ H Q ⟨F0, s, q1, q2⟩ => ⟨F0, s, fun vs F' H' x1 s' rv => ?_⟩⟩
  have z := of_sp1 (post := post) (exc := exc) g hp hL s' rv (Q := Q) (fun v r L' F2 H2 hpo x2 s2 rr => q1 v r _ F2 H2 ⟨L', hpo, rfl⟩ (x1.f.tr x2) s2 rr) (fun cls d L' F2 H2 hpo x2 s2 => q2 cls d _ F2 H2 ⟨L', hpo, rfl⟩ (x1.f.tr x2) s2)
  show spM C.X.K arg cel pre post exc (vs ++ []) H' Q (WE C.W σ)
  rw [List.append_nil]
  exact z
theorem EM_call0.{u} {γ : Type u} {arg : γ → List Ent} {cel : γ → List Cell} {pre : γ → Prop} {post : γ → Ent → List Cell → Prop} (g : γ) (ok : C.Ok k) (Fn : Hs C.X.prog C.X.w C.X.K C.X.mg C.X.base j x (spM C.X.K arg cel pre post (fun _ _ _ _ => False))) (ha : arg g = []) (hp : pre g) (hL : L.Perm (cel g ++ LR)) (hj : j ≤ k := by decide) (hg : Gl C.X x := by rfl)
    (hdb : (x == ("__debug__" : Str)) = false := by decide) : EM C env L (.Call (.Name x p) [] [] pos) (fun r L' => ∃ L1, post g r L1 ∧ L' = L1 ++ LR) (fun _ _ _ => False) := by
  obtain ⟨f, fd, ps, hm, hk, hb, F⟩ := Fn.h
  refine ⟨PE.imp (pe_call0 F (ok.room.mono hj) hg hm hk hb .nil (E := E0) (passes_call (W := fun cls d _ H => False) (fun u s' ⟨_, _, _, _, _, _, _, _, _, _, _, _, _, _, _, _, z⟩ => z.elim) (fun _ _ _ _ z => z)) hdb) fun σ H Q ⟨F0, s, q1, q2⟩ => ?_⟩
  have o : Own C.X.K C.R F0 H (cel g ++ LR) := s.ow.perm hL.symm
  refine ⟨g, hp, frame H F0 (cel g), F0, o.call, by rw [ha]; exact .nil, fun r L' v F' H' hpost x o' rr => q1 v r _ F' H' ⟨L', hpost, rfl⟩ x ⟨s.sl.mono x, o.back o' x⟩ rr, fun _ _ _ _ _ z => z.elim⟩
theorem frame_ex {K : PySem.W.Frag} {F H F' H' : Hp} {L' : List Cell} (e : Ex F H) (o' : Own K (frame H F []) F' H' L') (x : Ex F F') : Ex H H' := fun a u h => by
  cases q : F a with
  | some v =>
    have h2 := e a v q
    rw [h] at h2
    rw [o'.fH a v (x a v q), ← h2]
  | none => exact o'.rH a u (by rw [frame_some q (fun c hc => by cases hc)]; exact h)
theorem E_call.{u} {γ : Type u} {arg : γ → List Ent} {pre : γ → Prop} {res : γ → Ent} (g : γ) (ok : C.Ok k) (Fn : Hs C.X.prog C.X.w C.X.K C.X.mg C.X.base j x (spF C.X.K arg pre res)) (ha : A C env L (e :: es) (arg g)) (hp : pre g) (hj : j ≤ k := by decide) (hg : Gl C.X x := by rfl)
    (hdb : (x == ("__debug__" : Str)) = false := by decide) (he : starEach (e :: es) C.X.env = (false, eval e C.X.env) :: starEach es C.X.env := by rfl) (hpl : (backTo pos (starEach es C.X.env)).any (·.1) = false := by rfl) :
    E C env L (.Call (.Name x p) (e :: es) [] pos) (res g) := by
  obtain ⟨f, fd, ps, hm, hk, hb, Fo⟩ := Fn.h
  refine ⟨PE.imp (pe_callSD Fo (ok.room.mono hj) hg hm hk hb .nil (fun σ => passAt ok.tk σ) ha.p hdb he hpl) fun σ H Q ⟨F0, s, q1⟩ => ⟨F0, s, fun vs F H1 x1 s' rv => ?_⟩⟩
  show spF C.X.K arg pre res (vs ++ []) H1 Q (WE C.W σ)
  rw [List.append_nil]
  have o : Own C.X.K C.R F H1 ([] ++ L) := s'.ow
  refine ⟨g, hp, frame H1 F [], F, o.call, rv, fun r L' v F' H' hpo x o' rr => ?_, fun _ _ _ _ _ z => z.elim⟩
  obtain ⟨rfl, rfl⟩ := hpo
  exact q1 v F' H' (x1.tr ⟨x⟩) ⟨s'.sl.mono x, o.back o' x⟩ rr
end

/-! ### a def keeps its promise -/
def startE (N : List Str) (rs : List Ent) : Env := rs.map some ++ List.replicate (N.length - rs.length) none
theorem start_slots {K : PySem.W.Frag} {F : Hp} {N : List Str} {vs : List V} {rs : List Ent} (h : Pr (fun v r => Ent.rp r K F v) vs rs) : Slots K F (L2.start N vs) (startE N rs) := by
  unfold L2.start startE
  rw [h.length]
  refine Pr.append ?_ ?_
  · induction h with
    | nil => exact .nil
    | cons h _ ih => exact .cons (R := SlotOk K F) (a := some _) (b := some _) h ih
  · generalize N.length - rs.length = n
    induction n with
    | zero => exact .nil
    | succ n ih => exact .cons (R := SlotOk K F) (a := none) (b := none) trivial ih
theorem fn_spM.{u} {γ : Type u} {P : Program} {w : World} {K : PySem.W.Frag} {mg : Str → Option Value} {base : Heap} {x qual : Str} {params : Arguments} {body : List Stmt} {scope : Scope} {dvs : List V} {kws : List (Str × V)} {f : Addr} {fd : FuncData} {N ps : List Str} {k : Nat} {arg : γ → List Ent} {cel : γ → List Cell} {pre : γ → Prop} {post : γ → Ent → List Cell → Prop} {exc : γ → Value → Option Addr → List Cell → Prop}
    (F : FunD K x qual params body scope dvs kws f fd) (Sc : FnScope N ps scope) (hlen : ∀ g, (arg g).length = ps.length)
    (h : ∀ g, pre g → ∀ cdv A outer s H E R, let C : Cz := ⟨cxOf (L2.CX P w) P w K mg base N qual scope f cdv A outer s H E, R, fun cls d _ H => E cls d H⟩
      C.Ok k → S C (startE N (arg g)) (cel g) body { nx := fun _ L' => post g ⟨()⟩ L', rt := post g, ex := fun cls d _ L' => exc g cls d L' }) : FnOk P w K mg base (L2.CX P w) (k + 1) f fd ps (spM K arg cel pre post exc) := by
  refine F.ok Sc (fun vs H Q E ⟨g, _, R, F0, _, rv, _⟩ => by rw [rv.length]; exact hlen g) fun cdv A outer s H vs Q E hr hsp => ?_
  refine ⟨fun D σ H' => ∃ g : γ, pre g ∧ ∃ R : Hp, sS ⟨cxOf (L2.CX P w) P w K mg base N qual scope f cdv A outer s H E, R, fun cls d _ H => E cls d H⟩ (startE N (arg g)) (cel g) { nx := fun _ L' => post g ⟨()⟩ L', rt := post g, ex := fun cls d _ L' => exc g cls d L' } D σ H', ⟨fun pins s' σ H' D I ⟨g, hp, R, q⟩ => ?_⟩, ?_⟩
  · exact (h g hp cdv A outer s H E R ⟨takes_of rfl rfl rfl rfl, passes_of rfl, rfl, Sc.nd, hr⟩).p.run pins s' σ H' D I q
  · obtain ⟨g, hp, R, F0, o, rv, q1, q2⟩ := hsp
    exact ⟨g, hp, R, F0, ⟨start_slots rv, o⟩, ⟨fun env' L' σ' F' H' hn x s' => q1 ⟨()⟩ L' .non F' H' hn x s'.ow rfl, fun r L' v F' H' hp x o' rr => q1 r L' v F' H' hp x o' rr, fun _ _ _ _ _ z _ _ => z.elim, fun _ _ _ _ _ z _ _ => z.elim, fun cls d env' L' σ' F' H' hx x s' => q2 cls d L' F' H' hx x s'.ow⟩⟩
end Py

namespace Py
open PySem PySem.Spec PyProof.Rows L2

theorem PE.ex {X : Cx} {e : Expr} {ι : Type 1} {p : ι → Prop} {t : ι → TE} (h : ∀ i, p i → PE X e (t i)) : PE X e (fun σ H Q => ∃ i, p i ∧ t i σ H Q) := ⟨fun pins s σ H D I ⟨i, hp, q⟩ => (h i hp).run pins s σ H D I q⟩
theorem PT.ex {X : Cx} {e : Expr} {ι : Type 1} {p : ι → Prop} {t : ι → TT} (h : ∀ i, p i → PT X e (t i)) : PT X e (fun σ H Q => ∃ i, p i ∧ t i σ H Q) := ⟨fun pins s σ H D I ⟨i, hp, q⟩ => (h i hp).run pins s σ H D I q⟩
theorem PTs.ex {X : Cx} {e : List Expr} {ι : Type 1} {p : ι → Prop} {t : ι → TT} (h : ∀ i, p i → PTs X e (t i)) : PTs X e (fun σ H Q => ∃ i, p i ∧ t i σ H Q) := ⟨fun pins s σ H D I ⟨i, hp, q⟩ => (h i hp).run pins s σ H D I q⟩
theorem PG.ex {X : Cx} {e : Expr} {ι : Type 1} {p : ι → Prop} {t : ι → TG} (h : ∀ i, p i → PG X e (t i)) : PG X e (fun v σ H Q => ∃ i, p i ∧ t i v σ H Q) := ⟨fun pins s σ H v u Q I r ⟨i, hp, q⟩ => (h i hp).run pins s σ H v u Q I r q⟩
theorem PG.imp {X : Cx} {e : Expr} {t t' : TG} (h : PG X e t) (i : ∀ v σ H Q, t' v σ H Q → t v σ H Q) : PG X e t' := ⟨fun pins s σ H v u Q I r q => h.run pins s σ H v u Q I r (i v σ H Q q)⟩
theorem PI.imp {X : Cx} {tg e : Expr} {t t' : TI} (h : PI X tg e t) (i : ∀ σ H Q, t' σ H Q → t σ H Q) : PI X tg e t' := ⟨fun pins s σ H Q I q => h.run pins s σ H Q I (i σ H Q q)⟩
theorem PTs.imp {X : Cx} {e : List Expr} {t t' : TT} (h : PTs X e t) (i : ∀ σ H Q, t' σ H Q → t σ H Q) : PTs X e t' := ⟨fun pins s σ H Q I q => h.run pins s σ H Q I (i σ H Q q)⟩

/-! ### what is walked -/
structure Srv {α : Type} [Rep α] (K : PySem.W.Frag) (J : It) (F1 : Hp) (as : List α) : Prop where
  go : ∀ i F H, i < as.length → Ex F1 F → Ex F H → J.go i H ∧ ∀ x H', J.yld i H x H' → ∃ F', Gro F H F' H' ∧ ∃ a, as[i]? = some a ∧ Rep.rp K F' x a
  stop : ∀ i F H, as.length ≤ i → Ex F1 F → Ex F H → J.stop i H
def iS {α : Type} [Rep α] (C : Cz) (env : Env) (L : List Cell) (as : List α) : TI := fun σ H Rr => ∃ F, Sta C F env L σ H ∧ ∀ J F1 H1, Gw F H F1 H1 → Sta C F1 env L σ H1 → Srv C.X.K J F1 as → as.length ≤ sizeLine → Rr J H1
structure EI {α : Type} [Rep α] (C : Cz) (env : Env) (L : List Cell) (tg e : Expr) (as : List α) : Prop where
  p : PI C.X tg e (iS C env L as)
/-- but for the slots js the frame's values are as before -/
def Chg (js : List Nat) (σ σ' : St) : Prop := ∀ vs : List Nat, (∀ j ∈ js, j ∈ vs) → wipe σ' vs = wipe σ vs
theorem Chg.rf (σ : St) : Chg [] σ σ := fun _ _ => rfl
theorem Chg.tr {js ks : List Nat} {σ σ1 σ2 : St} (a : Chg js σ σ1) (b : Chg ks σ1 σ2) : Chg (js ++ ks) σ σ2 := fun vs h => (b vs fun j hj => h j (List.mem_append_right _ hj)).trans (a vs fun j hj => h j (List.mem_append_left _ hj))
theorem wipe_set_in {σ : St} {i : Nat} {o : Option V} : ∀ {vs : List Nat}, (i ∈ vs → wipe (σ.set i o) vs = wipe σ vs) ∧ (i ∉ vs → wipe (σ.set i o) vs = (wipe σ vs).set i o)
  | [] => ⟨fun h => (by cases h), fun _ => rfl⟩
  | v :: vs => by
    obtain ⟨h1, h2⟩ := @wipe_set_in σ i o vs
    constructor
    · intro h
      show (wipe (σ.set i o) vs).set v none = (wipe σ vs).set v none
      by_cases hi : i ∈ vs
      · rw [h1 hi]
      · rw [h2 hi]
        rcases List.mem_cons.mp h with rfl | h
        · rw [List.set_set]
        · exact absurd h hi
    · intro h
      show (wipe (σ.set i o) vs).set v none = ((wipe σ vs).set v none).set i o
      have hv : i ≠ v := fun e => h (by rw [e]; exact List.mem_cons_self)
      have hi : i ∉ vs := fun e => h (List.mem_cons_of_mem _ e)
      rw [h2 hi, List.set_comm _ _ (by exact hv)]
theorem Chg.set (σ : St) (i : Nat) (o : Option V) : Chg [i] σ (σ.set i o) := fun vs h => wipe_set_in.1 (h i List.mem_cons_self)
theorem wipe_wipe (σ : St) : ∀ vs ws : List Nat, (∀ v ∈ vs, v ∈ ws) → wipe (wipe σ vs) ws = wipe σ ws
  | [], _, _ => rfl
  | v :: vs, ws, h => by
    show wipe ((wipe σ vs).set v none) ws = wipe σ ws
    rw [wipe_set_in.1 (h v List.mem_cons_self)]
    exact wipe_wipe σ vs ws fun x hx => h x (List.mem_cons_of_mem _ hx)
/-- the target of an assignment -/
def gS (C : Cz) (env : Env) (L : List Cell) (r : Ent) (env' : Env) (js : List Nat) : TG := fun v σ H Q => ∃ F, Sta C F env L σ H ∧ r.rp C.X.K F v ∧ ∀ σ' F' H', Gw F H F' H' → Sta C F' env' L σ' H' → Chg js σ σ' → Q σ' H'
structure G (C : Cz) (env : Env) (L : List Cell) (tg : Expr) (r : Ent) (env' : Env) (js : List Nat) : Prop where
  p : PG C.X tg (gS C env L r env' js)
section
variable {C : Cz} {k j : Nat} {env env' env2 env3 : Env} {L LR : List Cell} {e a b c tg iter : Expr} {es : List Expr} {r r1 r2 r3 : Ent} {rs : List Ent} {pos p apos : Pos} {Q : Po} {st : Stmt} {rest body : List Stmt} {x : Str}
theorem G_name (i : Nat) (hN : C.X.N.Nodup) (hi : C.X.N[i]? = some x := by rfl) (hl : Loc C.X.env.scope x := by first | exact Or.inl rfl | exact Or.inr rfl) (hf : C.X.fn x = true ∨ C.X.env.scope.names.lookup x = some .local := by first | exact Or.inl rfl | exact Or.inr rfl) : G C env L (.Name x p) r (env.set i (some r)) [i] :=
  ⟨PG.imp (pg_name hN hi hl hf) fun v σ H Q ⟨F, s, rv, q⟩ => q _ F H (Gw.rf F H) ⟨s.sl.put rv i, s.ow⟩ (Chg.set σ i _)⟩
structure Gs (C : Cz) (env : Env) (L : List Cell) (tgs : List Expr) (rs : List Ent) (env' : Env) (js : List Nat) : Prop where
  p : PGs C.X tgs (fun vs σ H Q => ∃ F, Sta C F env L σ H ∧ Pr (fun v r => Ent.rp r C.X.K F v) vs rs ∧ ∀ σ' F' H', Gw F H F' H' → Sta C F' env' L σ' H' → Chg js σ σ' → Q σ' H')
theorem PGs.imp {X : Cx} {e : List Expr} {t t' : TGs} (h : PGs X e t) (i : ∀ v σ H Q, t' v σ H Q → t v σ H Q) : PGs X e t' := ⟨fun pins s σ H v u Q I r q => h.run pins s σ H v u Q I r (i v σ H Q q)⟩
theorem Gs_nil : Gs C env L [] [] env [] := ⟨PGs.imp pgs_nil fun vs σ H Q ⟨F, s, rv, q⟩ => by
  cases rv
  exact ⟨rfl, q σ F H (Gw.rf F H) s (Chg.rf σ)⟩⟩
theorem Gs_cons {js ks : List Nat} (h : G C env L e r env2 js) (h2 : Gs C env2 L es rs env3 ks) (hs : (assignEach (e :: es) C.X.env).map (·.2) = assign e C.X.env :: (assignEach es C.X.env).map (·.2) := by rfl) : Gs C env L (e :: es) (r :: rs) env3 (js ++ ks) := ⟨PGs.imp (pgs_cons h.p h2.p hs) fun vs σ H Q ⟨F, s, rv, q⟩ => by
  cases rv with
  | cons rv t => exact ⟨_, _, rfl, F, s, rv, fun σ' F' H' x s' c1 => ⟨F', s', t.imp fun _ _ => Ent.mono x.f, fun σ2 F2 H2 x2 s2 c2 => q σ2 F2 H2 (x.tr x2) s2 (c1.tr c2)⟩⟩⟩
theorem G_tup {js : List Nat} {α : Type} [Rep α] {x : α} (ok : C.Ok k) (hr : ∀ F v, Rep.rp C.X.K F v x → ∃ p vs, v = .ref p ∧ SqT C.X.K F p vs ∧ Pr (fun v r => Ent.rp r C.X.K F v) vs rs) (h : Gs C env L es rs env2 js) {kt} (hn : (assignEach es C.X.env).length = rs.length := by rfl) (hst : (assignEach es C.X.env).findIdx? (·.1) = none := by rfl) : G C env L (.Tuple es kt pos) ⟨x⟩ env2 js :=
  ⟨PG.imp (pg_tup ok.calm h.p hn hst) fun v σ H Q ⟨F, s, rv, q⟩ => by
    obtain ⟨p, vs, rfl, h1, h2⟩ := hr F v rv
    exact ⟨p, vs, rfl, ex_t s.ow.fH h1, h2.length, F, s, h2, q⟩⟩
theorem G_t2 {js : List Nat} {α β : Type} [Rep α] [Rep β] {x : α} {y : β} (ok : C.Ok k) (h : Gs C env L es [⟨x⟩, ⟨y⟩] env2 js) {kt} (hn : (assignEach es C.X.env).length = 2 := by rfl) (hst : (assignEach es C.X.env).findIdx? (·.1) = none := by rfl) : G C env L (.Tuple es kt pos) ⟨(P2.mk x y)⟩ env2 js :=
  G_tup (rs := [⟨x⟩, ⟨y⟩]) ok (fun F v hv => by
    obtain ⟨p, x, y, h1, h2, h3, h4⟩ := hv
    exact ⟨p, _, h1, h2, .cons h3 (.cons h4 .nil)⟩) h hn hst
theorem G_t3 {js : List Nat} {α β γ : Type} [Rep α] [Rep β] [Rep γ] {x : α} {y : β} {z : γ} (ok : C.Ok k) (h : Gs C env L es [⟨x⟩, ⟨y⟩, ⟨z⟩] env2 js) {kt} (hn : (assignEach es C.X.env).length = 3 := by rfl) (hst : (assignEach es C.X.env).findIdx? (·.1) = none := by rfl) : G C env L (.Tuple es kt pos) ⟨(P3.mk x y z)⟩ env2 js :=
  G_tup (rs := [⟨x⟩, ⟨y⟩, ⟨z⟩]) ok (fun F v hv => by
    obtain ⟨p, x, y, z, h1, h2, h3, h4, h5⟩ := hv
    exact ⟨p, _, h1, h2, .cons h3 (.cons h4 (.cons h5 .nil))⟩) h hn hst

/-- for -/
theorem S_for {α : Type} [Rep α] {as : List α} (ok : C.Ok k) (Inv : Nat → Env → List Cell → Prop) (hi : EI C env L tg iter as) (h0 : Inv 0 env L)
    (hs : ∀ i a env' L', as[i]? = some a → Inv i env' L' → ∃ env2 js, G C env' L' tg ⟨a⟩ env2 js ∧ S C env2 L' body { Q with nx := Inv (i + 1), ct := Inv (i + 1), bk := fun e l => S C e l rest Q })
    (hd : ∀ env' L', Inv as.length env' L' → S C env' L' rest Q) (hf : ∀ x, foldedSetIterable iter C.X.env x = pure x := by intro _; rfl) : S C env L (.For tg iter body [] pos :: rest) Q := by
  refine S_cons ⟨PS.imp (ps_for ok.po ok.calm hi.p
    (PG.ex (ι := ULift.{1} (Nat × α × List Nat) × Env × List Cell × Env) (p := fun z => as[z.1.down.1]? = some z.1.down.2.1 ∧ Inv z.1.down.1 z.2.1 z.2.2.1 ∧ G C z.2.1 z.2.2.1 tg ⟨z.1.down.2.1⟩ z.2.2.2 z.1.down.2.2) (t := fun z => gS C z.2.1 z.2.2.1 ⟨z.1.down.2.1⟩ z.2.2.2 z.1.down.2.2) fun z h => h.2.2.p)
    (PSs.ex (ι := ULift.{1} Nat × Env × List Cell) (p := fun z => S C z.2.1 z.2.2 body { Q with nx := Inv (z.1.down + 1), ct := Inv (z.1.down + 1), bk := fun e l => S C e l rest Q })
      (t := fun z => sS C z.2.1 z.2.2 { Q with nx := Inv (z.1.down + 1), ct := Inv (z.1.down + 1), bk := fun e l => S C e l rest Q }) fun z h => h.p) hf) ?_⟩
  intro D σ H ⟨F, s, n⟩
  refine ⟨F, s, fun J F1 H1 x1 s1 sv hz => ⟨fun i m σ H => m = as.length - i ∧ i ≤ as.length ∧ ∃ env' L' F', Inv i env' L' ∧ Ex F1 F' ∧ Sta C F' env' L' σ H, ⟨as.length, by simp, Nat.zero_le _, env, L, F1, h0, Ex.rf F1, s1⟩, ?_⟩⟩
  rintro i m σ H ⟨rfl, hi, env', L', F', inv, x, s'⟩
  by_cases hlt : i < as.length
  · obtain ⟨go, yl⟩ := sv.go i F' H hlt x s'.ow.fH
    refine .inr ⟨go, fun σ' H' => ∃ env2 L2 F2, Inv (i + 1) env2 L2 ∧ Ex F1 F2 ∧ Sta C F2 env2 L2 σ' H', fun σ' H' ⟨env2, L2, F2, z1, z2, z3⟩ => ⟨as.length - (i + 1), by omega, rfl, hlt, env2, L2, F2, z1, z2, z3⟩, fun v H2 y => ?_⟩
    obtain ⟨F2, g, a, ha, rv⟩ := yl v H2 y
    obtain ⟨env2, js, hG, hB⟩ := hs i a env' L' ha inv
    refine ⟨(⟨(i, a, js)⟩, env', L', env2), ⟨ha, inv, hG⟩, F2, s'.gro g, rv, fun σ3 F3 H3 x3 s3 _ => ⟨(⟨i⟩, env2, L'), hB, F3, s3, ?_⟩⟩
    have xx : Ex F F3 := ((x1.f.tr x).tr g.f).tr x3.f
    have xy : Ex F1 F3 := (x.tr g.f).tr x3.f
    exact ⟨fun e l σ4 F4 H4 q x4 s4 => ⟨e, l, F4, q, xy.tr x4, s4⟩, fun a b c d e h y s => n.rt a b c d e h (xx.tr y) s, fun e l σ4 F4 H4 q x4 s4 => n.nx e l σ4 F4 H4 q (xx.tr x4) s4, fun e l σ4 F4 H4 q x4 s4 => ⟨e, l, F4, q, xy.tr x4, s4⟩, fun a b c d e f g h y s => n.ex a b c d e f g h (xx.tr y) s⟩
  · have e : i = as.length := by omega
    subst e
    exact .inl ⟨sv.stop _ F' H (Nat.le_refl _) x s'.ow.fH, n.nx env' L' σ F' H (hd env' L' inv) (x1.f.tr x) s'⟩

/-- while -/
theorem S_while (ok : C.Ok k) (Inv : Nat → Env → List Cell → Prop) (m0 : Nat) (h0 : Inv m0 env L)
    (hs : ∀ m env' L', Inv m env' L' → ∃ bo, T C env' L' c bo ∧ (bo = true → S C env' L' body { Q with nx := fun e l => ∃ m', m' < m ∧ Inv m' e l, ct := fun e l => ∃ m', m' < m ∧ Inv m' e l, bk := fun e l => S C e l rest Q }) ∧ (bo = false → S C env' L' rest Q)) :
    S C env L (.While c body [] pos :: rest) Q := by
  refine S_cons ⟨PS.imp (ps_while ok.po
    (PT.ex (ι := ULift.{1} Bool × Env × List Cell) (p := fun z => T C z.2.1 z.2.2 c z.1.down) (t := fun z => eT C z.2.1 z.2.2 z.1.down) fun z h => h.p)
    (PSs.ex (ι := ULift.{1} Nat × Env × List Cell) (p := fun z => S C z.2.1 z.2.2 body { Q with nx := fun e l => ∃ m', m' < z.1.down ∧ Inv m' e l, ct := fun e l => ∃ m', m' < z.1.down ∧ Inv m' e l, bk := fun e l => S C e l rest Q })
      (t := fun z => sS C z.2.1 z.2.2 { Q with nx := fun e l => ∃ m', m' < z.1.down ∧ Inv m' e l, ct := fun e l => ∃ m', m' < z.1.down ∧ Inv m' e l, bk := fun e l => S C e l rest Q }) fun z h => h.p)) ?_⟩
  intro D σ H ⟨F, s, n⟩
  refine ⟨fun m σ H => ∃ env' L' F', Inv m env' L' ∧ Ex F F' ∧ Sta C F' env' L' σ H, ⟨m0, env, L, F, h0, Ex.rf F, s⟩, ?_⟩
  rintro m σ H ⟨env', L', F', inv, x, s'⟩
  obtain ⟨bo, hT, h1, h2⟩ := hs m env' L' inv
  refine ⟨(⟨bo⟩, env', L'), hT, F', s', fun F2 H2 x2 s2 => ?_⟩
  cases bo with
  | true =>
    refine iteT ⟨fun σ' H' => ∃ m', m' < m ∧ ∃ env' L' F', Inv m' env' L' ∧ Ex F F' ∧ Sta C F' env' L' σ' H', fun σ' H' z => z, (⟨m⟩, env', L'), h1 rfl, F2, s2, ?_⟩
    have xx : Ex F F2 := x.tr x2.f
    exact ⟨fun e l σ4 F4 H4 ⟨m', z, q⟩ x4 s4 => ⟨m', z, e, l, F4, q, xx.tr x4, s4⟩, fun a b c d e h y s => n.rt a b c d e h (xx.tr y) s, fun e l σ4 F4 H4 q x4 s4 => n.nx e l σ4 F4 H4 q (xx.tr x4) s4, fun e l σ4 F4 H4 ⟨m', z, q⟩ x4 s4 => ⟨m', z, e, l, F4, q, xx.tr x4, s4⟩, fun a b c d e f g h y s => n.ex a b c d e f g h (xx.tr y) s⟩
  | false =>
    refine iteF ?_
    exact n.nx env' L' σ F2 H2 (h2 rfl) (x.tr x2.f) s2

/-! what is walked: lists, ranges, texts -/
theorem EI_list {α : Type} [Rep α] {as : List α} (h : E C env L e ⟨as⟩) : EI C env L tg e as := ⟨PI.imp (pi_list h.p) fun σ H Rr ⟨F, s, q⟩ => ⟨F, s, fun v F1 H1 x s1 ⟨p, vs, h1, h2, h3, h4⟩ => ⟨p, h1, ⟨vs, sq_of (s1.ow.fH _ _ h2)⟩, q _ F1 H1 x s1 ⟨fun i F2 H2 hi x2 x3 => by
    have hv : i < vs.length := by rw [h3.length]; exact hi
    refine ⟨⟨vs, vs[i], sq_of (x3 _ _ (x2 _ _ h2)), List.getElem?_eq_getElem hv⟩, fun y H3 ⟨e1, e2⟩ => ?_⟩
    subst e1
    have e3 := e2 vs (sq_of (x3 _ _ (x2 _ _ h2)))
    obtain ⟨a, h5, h6⟩ := h3.getL e3
    exact ⟨F2, Gro.rf x3, a, h5, Rep.mono x2 h6⟩, fun i F2 H2 hi x2 x3 => ⟨vs, sq_of (x3 _ _ (x2 _ _ h2)), by rw [h3.length]; exact hi⟩⟩ h4⟩⟩⟩
theorem EI_scr {n : List Int} (h : E C env L e ⟨(Scr.mk n)⟩) : EI C env L tg e n := ⟨PI.imp (pi_list h.p) fun σ H Rr ⟨F, s, q⟩ => ⟨F, s, fun v F1 H1 x s1 ⟨p, h1, h2, h4⟩ => ⟨p, h1, ⟨_, ex_l s1.ow.fH h2⟩, q _ F1 H1 x s1 ⟨fun i F2 H2 hi x2 x3 => by
    have hv : i < n.length := hi
    refine ⟨⟨_, V.int n[i], ex_l x3 (ex_l x2 h2), by simp [hv]⟩, fun y H3 ⟨e1, e2⟩ => ?_⟩
    subst e1
    have e3 := e2 _ (ex_l x3 (ex_l x2 h2))
    rw [List.getElem?_map, List.getElem?_eq_getElem hv] at e3
    exact ⟨F2, Gro.rf x3, n[i], List.getElem?_eq_getElem hv, (Option.some.inj e3).symm⟩, fun i F2 H2 hi x2 x3 => ⟨_, ex_l x3 (ex_l x2 h2), by rw [List.length_map]; exact hi⟩⟩ (Nat.le_trans h4 (by decide))⟩⟩⟩
theorem EI_tup {α : Type} [Rep α] {as : Tup α} (h : E C env L e ⟨as⟩) : EI C env L tg e as.l := ⟨PI.imp (pi_tup h.p) fun σ H Rr ⟨F, s, q⟩ => ⟨F, s, fun v F1 H1 x s1 ⟨p, vs, h1, h2, h3, h4⟩ => ⟨p, h1, ⟨vs, ex_t s1.ow.fH h2⟩, q _ F1 H1 x s1 ⟨fun i F2 H2 hi x2 x3 => by
    have hv : i < vs.length := by rw [h3.length]; exact hi
    refine ⟨⟨vs, vs[i], ex_t x3 (ex_t x2 h2), List.getElem?_eq_getElem hv⟩, fun y H3 ⟨e1, e2⟩ => ?_⟩
    subst e1
    have e3 := e2 vs (ex_t x3 (ex_t x2 h2))
    obtain ⟨a, h5, h6⟩ := h3.getL e3
    exact ⟨F2, Gro.rf x3, a, h5, Rep.mono x2 h6⟩, fun i F2 H2 hi x2 x3 => ⟨vs, ex_t x3 (ex_t x2 h2), by rw [h3.length]; exact hi⟩⟩ h4⟩⟩⟩
def rng (lo : Int) (n : Nat) : List Int := (List.range n).map fun (i : Nat) => lo + (i : Int)
theorem rng_len (lo : Int) (n : Nat) : (rng lo n).length = n := by unfold rng; simp
theorem rng_get {lo : Int} {n i : Nat} (h : i < n) : (rng lo n)[i]? = some (lo + (i : Int)) := by unfold rng; simp [h]
theorem rng_of {lo x : Int} {n i : Nat} (h : (rng lo n)[i]? = some x) : i < n ∧ x = lo + (i : Int) := by
  have h1 : i < n := by
    have := (List.getElem?_eq_some_iff.mp h).1
    rwa [rng_len] at this
  rw [rng_get h1] at h
  exact ⟨h1, (Option.some.inj h).symm⟩
theorem rng0_of {x : Int} {n i : Nat} (h : (rng 0 n)[i]? = some x) : i < n ∧ x = (i : Int) := by
  obtain ⟨h1, h2⟩ := rng_of h
  exact ⟨h1, by omega⟩
theorem srv_rng {lo : Int} {n : Nat} {K F1} : Srv K (Itr lo n) F1 (rng lo n) := ⟨fun i F2 H2 hi x2 x3 => ⟨by rw [rng_len] at hi; exact hi, fun y H3 ⟨e1, e2⟩ => by
    subst e1
    rw [rng_len] at hi
    exact ⟨F2, Gro.rf x3, lo + i, rng_get hi, e2⟩⟩, fun i F2 H2 hi x2 x3 => by rw [rng_len] at hi; exact hi⟩
theorem EI_rng1 {n : Int} (he : E C env L e ⟨n⟩) (hm : C.X.mg "range" = none) (hn : n ≤ 16777216) (hn0 : -(2 ^ 62) ≤ n := by omega) (hg : Gl C.X "range" := by rfl) (hs : starEach [e] C.X.env = [(false, eval e C.X.env)] := by rfl) : EI C env L tg (.Call (.Name "range" p) [e] [] pos) (rng 0 n.toNat) :=
  ⟨PI.imp (pi_range1 hg hm (A_cons he A_nil hs).p hs) fun σ H Rr ⟨F, s, q⟩ => ⟨F, s, fun vs F1 H1 x s1 rv => by
    cases rv with
    | cons r1 t =>
      cases t
      have r1 : _ = V.int n := r1
      subst r1
      exact ⟨n, rfl, hn0, by omega, q _ F1 H1 x s1 srv_rng (by rw [rng_len, sizeLine_eq]; omega)⟩⟩⟩
theorem EI_rng2 {m n : Int} (ha : E C env L a ⟨m⟩) (he : E C env L e ⟨n⟩) (hm : C.X.mg "range" = none) (hn : n ≤ 16777216) (hm1 : m ≤ 16777216) (hm0 : 0 ≤ m) (hn0 : -(2 ^ 62) ≤ n := by omega) (hg : Gl C.X "range" := by rfl) (hs : starEach [a, e] C.X.env = [(false, eval a C.X.env), (false, eval e C.X.env)] := by rfl) (hs2 : starEach [e] C.X.env = [(false, eval e C.X.env)] := by rfl) : EI C env L tg (.Call (.Name "range" p) [a, e] [] pos) (rng m (n - m).toNat) :=
  ⟨PI.imp (pi_range2 hg hm (A_cons ha (A_cons he A_nil hs2) (by rw [hs, hs2])).p hs hs2) fun σ H Rr ⟨F, s, q⟩ => ⟨F, s, fun vs F1 H1 x s1 rv => by
    cases rv with
    | cons r1 t =>
      cases t with
      | cons r2 t =>
      cases t
      have r1 : _ = V.int m := r1
      have r2 : _ = V.int n := r2
      subst r1 r2
      exact ⟨m, n, rfl, ⟨by omega, by omega, hn0, by omega⟩, q _ F1 H1 x s1 srv_rng (by rw [rng_len, sizeLine_eq]; omega)⟩⟩⟩
/-- range(a, b, -1) -/
def rngD (lo : Int) (n : Nat) : List Int := (List.range n).map fun (i : Nat) => lo - (i : Int)
theorem rngD_len (lo : Int) (n : Nat) : (rngD lo n).length = n := by unfold rngD; simp
theorem rngD_get {lo : Int} {n i : Nat} (h : i < n) : (rngD lo n)[i]? = some (lo - (i : Int)) := by unfold rngD; simp [h]
theorem rngD_of {lo x : Int} {n i : Nat} (h : (rngD lo n)[i]? = some x) : i < n ∧ x = lo - (i : Int) := by
  have h1 : i < n := by
    have := (List.getElem?_eq_some_iff.mp h).1
    rwa [rngD_len] at this
  rw [rngD_get h1] at h
  exact ⟨h1, (Option.some.inj h).symm⟩
theorem srv_rngD {lo : Int} {n : Nat} {K F1} : Srv K (Itc lo (-1) n) F1 (rngD lo n) := ⟨fun i F2 H2 hi x2 x3 => ⟨by rw [rngD_len] at hi; exact hi, fun y H3 ⟨e1, e2⟩ => by
    subst e1
    rw [rngD_len] at hi
    have e3 : lo + (i : Int) * (-1) = lo - (i : Int) := by omega
    rw [e3] at e2
    exact ⟨F2, Gro.rf x3, lo - i, rngD_get hi, e2⟩⟩, fun i F2 H2 hi x2 x3 => by rw [rngD_len] at hi; exact hi⟩
theorem EI_rng3 {m n : Int} (ha : E C env L a ⟨m⟩) (he : E C env L e ⟨n⟩) (hc : E C env L c ⟨(-1 : Int)⟩) (hm : C.X.mg "range" = none) (hb : -16777216 ≤ m ∧ m ≤ 16777216 ∧ -16777216 ≤ n ∧ n ≤ 16777216) (hb2 : m - n ≤ 16777216) (hg : Gl C.X "range" := by rfl) (hs : starEach [a, e, c] C.X.env = [(false, eval a C.X.env), (false, eval e C.X.env), (false, eval c C.X.env)] := by rfl) (hs2 : starEach [e, c] C.X.env = [(false, eval e C.X.env), (false, eval c C.X.env)] := by rfl) (hs3 : starEach [c] C.X.env = [(false, eval c C.X.env)] := by rfl) (hpl : (backTo pos (starEach [e, c] C.X.env)).any (·.1) = false := by rfl) : EI C env L tg (.Call (.Name "range" p) [a, e, c] [] pos) (rngD m (m - n).toNat) :=
  ⟨PI.imp (pi_range3 hg hm (A_cons ha (A_cons he (A_cons hc A_nil hs3) (by rw [hs2, hs3])) (by rw [hs, hs2])).p (by rw [hs, hs2]) hpl) fun σ H Rr ⟨F, s, q⟩ => ⟨F, s, fun vs F1 H1 x s1 rv => by
    cases rv with
    | cons r1 t =>
      cases t with
      | cons r2 t =>
      cases t with
      | cons r3 t =>
      cases t
      have r1 : _ = V.int m := r1
      have r2 : _ = V.int n := r2
      have r3 : _ = V.int (-1) := r3
      subst r1 r2 r3
      exact ⟨m, n, -1, _, rfl, RgC.neg (by omega) (by omega) (by omega) (by omega), q _ F1 H1 x s1 srv_rngD (by rw [rngD_len, sizeLine_eq]; omega)⟩⟩⟩
/-- the signs of a text -/
def signs (z : Str) : List Str := z.cps.toList.map fun c => ⟨#[c]⟩
theorem sok_sign {z : Str} {c i : Nat} (h : SOk z) (hc : z.cps.toList[i]? = some c) : SOk ⟨#[c]⟩ := ⟨by show 1 ≤ sizeLine; decide, by
  have := List.all_eq_true.mp h.ok c (List.mem_of_getElem? hc)
  simpa using this⟩
theorem EI_str {z : Str} (he : E C env L e ⟨z⟩) : EI C env L tg e (signs z) := ⟨PI.imp (pi_str he.p) fun σ H Rr ⟨F, s, q⟩ => ⟨F, s, fun v F1 H1 x s1 ⟨rv, hz⟩ => ⟨z, rv, q _ F1 H1 x s1 ⟨fun i F2 H2 hi x2 x3 => by
    have hi' : i < z.cps.size := by unfold signs at hi; simpa using hi
    refine ⟨hi', fun y H3 ⟨e1, c, e2, e3⟩ => ?_⟩
    subst e1
    rw [← Array.getElem?_toList] at e2
    refine ⟨F2, Gro.rf x3, ⟨#[c]⟩, ?_, e3, sok_sign hz e2⟩
    unfold signs
    rw [List.getElem?_map]
    rw [e2]; rfl, fun i F2 H2 hi x2 x3 => (by
    unfold signs at hi
    show z.cps.size ≤ i
    simpa using hi)⟩ (by
    unfold signs
    rw [List.length_map, Array.length_toList]
    exact hz.le)⟩⟩⟩
end
end Py

namespace Py
open PySem PySem.Spec PyProof.Rows L2

/-! ### operators on data -/
section
variable {X : Cx}
theorem bin_addI {i j : Int} : Bin X .Add ⟨i⟩ ⟨j⟩ ⟨i + j⟩ := ⟨⟨_, op_add, fun F H v1 v2 Q e h1 h2 q => ⟨i, j, h1, h2, q _ F H (Gro.rf e) rfl⟩⟩⟩
theorem bin_subI {i j : Int} : Bin X .Sub ⟨i⟩ ⟨j⟩ ⟨i - j⟩ := ⟨⟨_, op_sub, fun F H v1 v2 Q e h1 h2 q => ⟨i, j, h1, h2, q _ F H (Gro.rf e) rfl⟩⟩⟩
theorem bin_mulI {i j : Int} (h : CMul i j) : Bin X .Mult ⟨i⟩ ⟨j⟩ ⟨i * j⟩ := ⟨⟨_, op_mul, fun F H v1 v2 Q e h1 h2 q => ⟨i, j, h1, h2, h, q _ F H (Gro.rf e) rfl⟩⟩⟩
theorem bin_fdivI {i j : Int} (h : 0 < j ∧ j < 1073741824) : Bin X .FloorDiv ⟨i⟩ ⟨j⟩ ⟨i / j⟩ := ⟨⟨_, op_fdiv, fun F H v1 v2 Q e h1 h2 q => ⟨i, j, h1, h2, h, q _ F H (Gro.rf e) rfl⟩⟩⟩
theorem bin_modI {i j : Int} (h : 0 < j) : Bin X .Mod ⟨i⟩ ⟨j⟩ ⟨i % j⟩ := ⟨⟨_, op_mod, fun F H v1 v2 Q e h1 h2 q => ⟨i, j, h1, h2, h, q _ F H (Gro.rf e) rfl⟩⟩⟩
theorem bin_powI {i j : Int} (h : 0 ≤ j ∧ j ≤ 1000000 ∧ i.natAbs < 2 ^ 64) : Bin X .Pow ⟨i⟩ ⟨j⟩ ⟨i ^ j.toNat⟩ := ⟨⟨_, op_pow, fun F H v1 v2 Q e h1 h2 q => ⟨i, j, h1, h2, h, q _ F H (Gro.rf e) rfl⟩⟩⟩
theorem una_negI {i : Int} : Una X .USub ⟨i⟩ ⟨-i⟩ := ⟨⟨_, un_neg, fun F H v1 Q e h1 q => ⟨i, h1, q _ F H (Gro.rf e) rfl⟩⟩⟩
theorem str_len_append (i j : Str) : (i ++ j).length = i.length + j.length := by
  show (i.cps ++ j.cps).size = _
  rw [Array.size_append]; rfl
theorem str_cps_append (i j : Str) : (i ++ j).cps.toList = i.cps.toList ++ j.cps.toList := by
  show (i.cps ++ j.cps).toList = _
  simp
theorem sok_append {i j : Str} (h : i.length + j.length ≤ sizeLine) (h1 : SOk i) (h2 : SOk j) : SOk (i ++ j) := ⟨by rw [str_len_append]; exact h, by rw [str_cps_append, List.all_append, h1.ok, h2.ok]; rfl⟩
theorem bin_addS {i j : Str} (h : i.length + j.length ≤ sizeLine) : Bin X .Add ⟨i⟩ ⟨j⟩ ⟨i ++ j⟩ := ⟨⟨_, op_add_str, fun F H v1 v2 Q e h1 h2 q => ⟨i, j, h1.1, h2.1, h, q _ F H (Gro.rf e) ⟨rfl, sok_append h h1.2 h2.2⟩⟩⟩⟩
theorem bin_catL {α : Type} [Rep α] {as bs : List α} (h : as.length + bs.length ≤ sizeLine) : Bin X .Add ⟨as⟩ ⟨bs⟩ ⟨as ++ bs⟩ := ⟨⟨_, op_cat, fun F H v1 v2 Q e h1 h2 q => by
  obtain ⟨p1, vs1, rfl, a1, b1, c1⟩ := h1
  obtain ⟨p2, vs2, rfl, a2, b2, c2⟩ := h2
  refine ⟨p1, p2, vs1, vs2, rfl, rfl, e _ _ a1, e _ _ a2, by rw [b1.length, b2.length]; exact h, fun p hp => q _ _ _ (Gro.new e hp) ⟨p, _, rfl, upd_same, ?_, by rw [List.length_append]; exact h⟩⟩
  exact (b1.append b2).imp fun _ _ => Rep.mono (Ex.new (Ex.free e hp))⟩⟩
theorem cmp_ltI {i j : Int} : Cmp X .Lt ⟨i⟩ ⟨j⟩ ⟨decide (i < j)⟩ := ⟨⟨_, op_lt, fun F H v1 v2 Q e h1 h2 q => ⟨i, j, h1, h2, q _ F H (Gro.rf e) rfl⟩⟩⟩
theorem cmp_leI {i j : Int} : Cmp X .LtE ⟨i⟩ ⟨j⟩ ⟨decide (i ≤ j)⟩ := ⟨⟨_, op_le, fun F H v1 v2 Q e h1 h2 q => ⟨i, j, h1, h2, q _ F H (Gro.rf e) rfl⟩⟩⟩
theorem cmp_gtI {i j : Int} : Cmp X .Gt ⟨i⟩ ⟨j⟩ ⟨decide (j < i)⟩ := ⟨⟨_, op_gt, fun F H v1 v2 Q e h1 h2 q => ⟨i, j, h1, h2, q _ F H (Gro.rf e) rfl⟩⟩⟩
theorem cmp_geI {i j : Int} : Cmp X .GtE ⟨i⟩ ⟨j⟩ ⟨decide (j ≤ i)⟩ := ⟨⟨_, op_ge, fun F H v1 v2 Q e h1 h2 q => ⟨i, j, h1, h2, q _ F H (Gro.rf e) rfl⟩⟩⟩
theorem cmp_eqI {i j : Int} : Cmp X .Eq ⟨i⟩ ⟨j⟩ ⟨decide (i = j)⟩ := ⟨⟨_, op_eq, fun F H v1 v2 Q e h1 h2 q => by
  cases h1; cases h2
  exact ⟨rfl, q _ F H (Gro.rf e) (by show V.bl _ = _; simp only [V.int.injEq])⟩⟩⟩
theorem cmp_neI {i j : Int} : Cmp X .NotEq ⟨i⟩ ⟨j⟩ ⟨!decide (i = j)⟩ := ⟨⟨_, op_ne, fun F H v1 v2 Q e h1 h2 q => by
  cases h1; cases h2
  exact ⟨rfl, q _ F H (Gro.rf e) (by show V.bl _ = _; simp only [V.int.injEq])⟩⟩⟩
theorem cmp_eqS {i j : Str} : Cmp X .Eq ⟨i⟩ ⟨j⟩ ⟨decide (i = j)⟩ := ⟨⟨_, op_eq, fun F H v1 v2 Q e h1 h2 q => by
  obtain ⟨h1, _⟩ := h1; obtain ⟨h2, _⟩ := h2
  cases h1; cases h2
  exact ⟨rfl, q _ F H (Gro.rf e) (by show V.bl _ = _; simp only [V.str.injEq])⟩⟩⟩
theorem cmp_neS {i j : Str} : Cmp X .NotEq ⟨i⟩ ⟨j⟩ ⟨!decide (i = j)⟩ := ⟨⟨_, op_ne, fun F H v1 v2 Q e h1 h2 q => by
  obtain ⟨h1, _⟩ := h1; obtain ⟨h2, _⟩ := h2
  cases h1; cases h2
  exact ⟨rfl, q _ F H (Gro.rf e) (by show V.bl _ = _; simp only [V.str.injEq])⟩⟩⟩
theorem cmp_eqB {i j : Bool} : Cmp X .Eq ⟨i⟩ ⟨j⟩ ⟨i == j⟩ := ⟨⟨_, op_eq, fun F H v1 v2 Q e h1 h2 q => by
  cases h1; cases h2
  exact ⟨rfl, q _ F H (Gro.rf e) (by show V.bl _ = _; rw [dec_bl])⟩⟩⟩
theorem cmp_neB {i j : Bool} : Cmp X .NotEq ⟨i⟩ ⟨j⟩ ⟨!(i == j)⟩ := ⟨⟨_, op_ne, fun F H v1 v2 Q e h1 h2 q => by
  cases h1; cases h2
  exact ⟨rfl, q _ F H (Gro.rf e) (by show V.bl _ = _; rw [dec_bl])⟩⟩⟩
/-- never None -/
class NN (α : Type) [Rep α] : Prop where
  nn : ∀ K F v (a : α), Rep.rp K F v a → v ≠ .non
instance : NN Int := ⟨fun K F v a h => by rw [show v = V.int a from h]; intro z; cases z⟩
instance : NN Bool := ⟨fun K F v a h => by rw [show v = V.bl a from h]; intro z; cases z⟩
instance : NN Str := ⟨fun K F v a h => by rw [show v = V.str a from h.1]; intro z; cases z⟩
instance {α : Type} [Rep α] : NN (List α) := ⟨fun K F v a h => by obtain ⟨p, _, rfl, _⟩ := h; intro z; cases z⟩
instance {α β : Type} [Rep α] [Rep β] : NN (P2 α β) := ⟨fun K F v a h => by obtain ⟨p, _, _, rfl, _⟩ := h; intro z; cases z⟩
instance {α β γ : Type} [Rep α] [Rep β] [Rep γ] : NN (P3 α β γ) := ⟨fun K F v a h => by obtain ⟨p, _, _, _, rfl, _⟩ := h; intro z; cases z⟩
instance {α : Type} [Rep α] : NN (Tup α) := ⟨fun K F v a h => by obtain ⟨p, _, rfl, _⟩ := h; intro z; cases z⟩
instance : NN At := ⟨fun K F v a h => by rw [show v = V.ref a.p from h]; intro z; cases z⟩
theorem opt_non {α : Type} [Rep α] [NN α] {K F v} {a : Option α} (h : Rep.rp K F v a) : decide (v = V.non) = a.isNone := by
  cases a with
  | none => rw [show v = V.non from h]; rfl
  | some a => simp [NN.nn K F v a h]
theorem cmp_isN {α : Type} [Rep α] [NN α] {a : Option α} : Cmp X .Is ⟨a⟩ ⟨()⟩ ⟨a.isNone⟩ := ⟨⟨_, op_isN, fun F H v1 v2 Q e h1 h2 q => ⟨h2, q _ F H (Gro.rf e) (by show V.bl _ = _; rw [opt_non h1])⟩⟩⟩
theorem cmp_notN {α : Type} [Rep α] [NN α] {a : Option α} : Cmp X .IsNot ⟨a⟩ ⟨()⟩ ⟨!a.isNone⟩ := ⟨⟨_, op_notN, fun F H v1 v2 Q e h1 h2 q => ⟨h2, q _ F H (Gro.rf e) (by show V.bl _ = _; rw [opt_non h1])⟩⟩⟩
theorem cmp_isN' {α : Type} [Rep α] [NN α] {a : α} : Cmp X .Is ⟨a⟩ ⟨()⟩ ⟨false⟩ := ⟨⟨_, op_isN, fun F H v1 v2 Q e h1 h2 q => ⟨h2, q _ F H (Gro.rf e) (by show V.bl _ = _; simp [NN.nn _ F v1 a h1])⟩⟩⟩
theorem cmp_notN' {α : Type} [Rep α] [NN α] {a : α} : Cmp X .IsNot ⟨a⟩ ⟨()⟩ ⟨true⟩ := ⟨⟨_, op_notN, fun F H v1 v2 Q e h1 h2 q => ⟨h2, q _ F H (Gro.rf e) (by show V.bl _ = _; simp [NN.nn _ F v1 a h1])⟩⟩⟩
theorem cmp_leS {i j : Str} : Cmp X .LtE ⟨i⟩ ⟨j⟩ ⟨!decide (j.cps.toList < i.cps.toList)⟩ := ⟨⟨_, op_le_str, fun F H v1 v2 Q e h1 h2 q => ⟨i, j, h1.1, h2.1, q _ F H (Gro.rf e) rfl⟩⟩⟩
end

section
universe u v
variable {C : Cz} {k j : Nat} {env env' env2 env3 : Env} {L LR : List Cell} {e a b c tg iter : Expr} {es : List Expr} {r r1 r2 r3 : Ent} {rs : List Ent} {pos p p2 apos : Pos} {Q : Po} {st : Stmt} {rest body : List Stmt} {x : Str}
/-! ### subscripts -/
theorem atI_nat' {α : Type} {xs : List α} {i : Int} {a : α} (h0 : 0 ≤ i) (h : xs[i.toNat]? = some a) : atI xs i = some a := by
  have h1 : i.toNat < xs.length := (List.getElem?_eq_some_iff.mp h).1
  unfold atI ixN
  rw [if_pos h0, if_pos (by omega)]
  exact h
theorem Pr.at {α β : Type} {R : α → β → Prop} {as : List α} {bs : List β} (h : Pr R as bs) {i : Int} {b : β} (hb : atI bs i = some b) : ∃ a, atI as i = some a ∧ R a b := by
  unfold atI at hb ⊢
  rw [h.length]
  cases q : ixN bs.length i with
  | none => rw [q] at hb; cases hb
  | some n => rw [q] at hb; exact Pr.get h hb
/-- xs[i] -/
theorem E_ix {α : Type} [Rep α] {as : List α} {i : Int} {v : α} (ha : ER C env L a as) (hb : E C env L b ⟨i⟩) (h : atI as i = some v) (hs : PlainIx b := by exact fun _ _ => rfl) : E C env L (.Subscript a b pos) ⟨v⟩ :=
  ⟨PE.imp (pe_ix ix_list ha.p hb.p hs) fun σ H Q ⟨F, s, q⟩ => ⟨F, s, fun p F1 H1 x1 s1 hr h3 => ⟨F1, s1, fun w F2 H2 x2 s2 rw' => by
    obtain ⟨vs, h1, h2⟩ := hr F2 H2 x2.f s2.ow
    obtain ⟨y, e1, e2⟩ := h2.at h
    exact ⟨p, vs, i, y, rfl, rw', h1, e1, q y F2 H2 (x1.tr x2) s2 e2⟩⟩⟩⟩
end
end Py

namespace Py
open PySem PySem.Spec PyProof.Rows L2

section
variable {K : PySem.W.Frag} {R F H H' : Hp} {L : List Cell}
theorem Own.ofRc {p : Addr} {u : HO} {c : Cell} (o : Own K (upd R p u) F H L) (hR : R p = none) (ha : c.ad = [p]) (ok : c.ok K F H) : Own K R F H (c :: L) := by
  have hF : F p = none := o.fr p u upd_same
  have hc : ∀ c ∈ L, ∀ a ∈ c.ad, a ≠ p := fun c hc a ha e => by
    have := o.nr c hc a ha
    rw [e, upd_same] at this; cases this
  have hR' : ∀ a v, R a = some v → upd R p u a = some v := fun a v q => by
    have e : a ≠ p := fun e => by subst e; rw [hR] at q; cases q
    rw [upd_ne e]; exact q
  refine ⟨o.fH, fun a v q => o.rH a v (hR' a v q), fun a v q => o.fr a v (hR' a v q), fun d hd => ?_, ?_, fun d hd a hda => ?_, fun d hd a hda => ?_⟩
  · rcases List.mem_cons.mp hd with rfl | hd
    · exact ok
    · exact o.ok d hd
  · rw [List.flatMap_cons, ha]
    refine List.nodup_cons.mpr ⟨fun hm => ?_, o.nd⟩
    obtain ⟨d, hd, hda⟩ := List.mem_flatMap.mp hm
    exact hc d hd p hda rfl
  · rcases List.mem_cons.mp hd with rfl | hd
    · rw [ha] at hda; rw [List.mem_singleton.mp hda]; exact hF
    · exact o.nf d hd a hda
  · rcases List.mem_cons.mp hd with rfl | hd
    · rw [ha] at hda; rw [List.mem_singleton.mp hda]; exact hR
    · cases q : R a with
      | none => rfl
      | some v =>
        have := o.nr d hd a hda
        rw [hR' a v q] at this; cases this
end

def wipeE (env : Env) : List Nat → Env
  | [] => env
  | v :: vs => (wipeE env vs).set v none
theorem Slots.wipeE {K : PySem.W.Frag} {F : Hp} {σ : St} {env : Env} (h : Slots K F σ env) : ∀ vs : List Nat, Slots K F (L2.wipe σ vs) (Py.wipeE env vs)
  | [] => h
  | v :: vs => (Slots.wipeE h vs).wipe v none
structure Ts (C : Cz) (env : Env) (L : List Cell) (es : List Expr) (b : Bool) : Prop where
  p : PTs C.X es (eT C env L b)
section
variable {C : Cz} {k j : Nat} {env env' env2 env3 : Env} {L LR : List Cell} {e a b c tg iter elt : Expr} {es ifs : List Expr} {r r1 r2 r3 : Ent} {rs : List Ent} {pos p p2 apos : Pos} {Q : Po} {st : Stmt} {rest body : List Stmt} {x : Str} {scope : Scope} {own : List (Str × Nat)}
theorem Ts_nil : Ts C env L [] true := ⟨PTs.imp pts_nil fun σ H Q ⟨F, s, q⟩ => q F H (Gw.rf F H) s⟩
theorem Ts_one {bo : Bool} (h : T C env L c bo) : Ts C env L [c] bo := ⟨pts_one h.p⟩

/-- the turn of a comprehension: within, nobody raises, the names of its own are forgotten -/
def Cz.blk (C : Cz) (R : Hp) (s : Shared) (H : Hp) (scope : Scope) (C0 : Addr) (cl : List (Str × Addr)) (fp : List Addr) : Cz := ⟨C.X.blk s H scope (compEnvC scope cl C0 C.X.env) fp, R, fun _ _ _ _ => False⟩
theorem Cz.Ok.blk {C : Cz} {k : Nat} (ok : C.Ok k) (R : Hp) (s : Shared) (H : Hp) (scope : Scope) (C0 : Addr) (cl : List (Str × Addr)) (fp : List Addr) : (C.blk R s H scope C0 cl fp).Ok k :=
  ⟨fun u s' ⟨_, _, _, _, _, _, _, _, _, _, _, _, _, _, _, _, z⟩ => z.elim, PassesOwn.never, ok.calm, ok.nd, ok.room⟩

def picks {α β : Type} (f : α → β) (q : α → Bool) (as : List α) : List β := (as.filter q).map f
theorem picks_snoc {α β : Type} {f : α → β} {q : α → Bool} {as : List α} {i : Nat} {a : α} (h : as[i]? = some a) : picks f q (as.take (i + 1)) = picks f q (as.take i) ++ if q a then [f a] else [] := by
  unfold picks
  rw [List.take_add_one, h]
  simp only [Option.toList_some, List.filter_append, List.map_append]
  cases hq : q a <;> simp [hq]
theorem picks_le {α β : Type} (f : α → β) (q : α → Bool) (as : List α) : (picks f q as).length ≤ as.length := by
  unfold picks
  rw [List.length_map]
  exact List.length_filter_le _ _

/-- one turn, as the layer asks it -/
theorem lc_tS {α β : Type} [Rep α] [Rep β] {as : List α} (f : α → β) (q : α → Bool) (ok : C.Ok k) (hi : EI C env L tg iter as)
    (hb : ∀ (i : Nat) (a : α), as[i]? = some a → ∃ env2 js, (∀ x ∈ js, x ∈ own.map (·.2)) ∧ ∀ R s H C0 cl fp, (C.blk R s H scope C0 cl fp).Ok k → G (C.blk R s H scope C0 cl fp) (wipeE env (own.map (·.2))) L tg ⟨a⟩ env2 js ∧ Ts (C.blk R s H scope C0 cl fp) env2 L ifs (q a) ∧ (q a = true → E (C.blk R s H scope C0 cl fp) env2 L elt ⟨f a⟩)) :
    ∃ g tt te, (∀ (s : Shared) (H : Hp) (C0 : Addr) (cl : List (Str × Addr)) (fp : List Addr), PG (C.X.blk s H scope (compEnvC scope cl C0 C.X.env) fp) tg g) ∧ (∀ (s : Shared) (H : Hp) (C0 : Addr) (cl : List (Str × Addr)) (fp : List Addr), PTs (C.X.blk s H scope (compEnvC scope cl C0 C.X.env) fp) ifs tt) ∧
      (∀ (s : Shared) (H : Hp) (C0 : Addr) (cl : List (Str × Addr)) (fp : List Addr), PE (C.X.blk s H scope (compEnvC scope cl C0 C.X.env) fp) elt te) ∧
      ∀ σ H Q, (∃ F, Sta C F env L σ H ∧ ∀ D vs F' H', Gw F H F' H' → Own C.X.K (upd C.R D (.lst vs)) F' H' L → C.R D = none → Slots C.X.K F' σ env → Pr (Rep.rp C.X.K F') vs (picks f q as) → (picks f q as).length ≤ sizeLine → Q (.ref D) H') → tLc (iS C env L as) g tt te (own.map (·.2)) σ H Q := by
  let CR : Hp → Cz := fun R => ⟨C.X, R, C.W⟩
  refine ⟨fun v σ H Q => ∃ z : ULift.{1} (Hp × α × List Nat) × Env, (∀ s H C0 cl fp, G (C.blk z.1.down.1 s H scope C0 cl fp) (wipeE env (own.map (·.2))) L tg ⟨z.1.down.2.1⟩ z.2 z.1.down.2.2) ∧ gS (CR z.1.down.1) (wipeE env (own.map (·.2))) L ⟨z.1.down.2.1⟩ z.2 z.1.down.2.2 v σ H Q,
    fun σ H Q => ∃ z : ULift.{1} (Hp × Bool) × Env, (∀ s H C0 cl fp, Ts (C.blk z.1.down.1 s H scope C0 cl fp) z.2 L ifs z.1.down.2) ∧ eT (CR z.1.down.1) z.2 L z.1.down.2 σ H Q,
    fun σ H Q => ∃ z : ULift.{1} (Hp × β) × Env, (∀ s H C0 cl fp, E (C.blk z.1.down.1 s H scope C0 cl fp) z.2 L elt ⟨z.1.down.2⟩) ∧ eE (CR z.1.down.1) z.2 L ⟨z.1.down.2⟩ σ H Q,
    fun s H C0 cl fp => PG.ex fun z h => (h s H C0 cl fp).p, fun s H C0 cl fp => PTs.ex fun z h => (h s H C0 cl fp).p, fun s H C0 cl fp => PE.ex fun z h => (h s H C0 cl fp).p, ?_⟩
  intro σ H Q ⟨F, s, qf⟩
  refine ⟨F, s, fun J F1 H1 w1 s1 sv hz D hD => ?_⟩
  obtain ⟨o0, hR, _⟩ := s1.ow.toR (u := .lst []) hD
  refine ⟨fun i m H => m = as.length - i ∧ i ≤ as.length ∧ ∃ F' vs, Ex F1 F' ∧ Own C.X.K (upd C.R D (.lst vs)) F' H L ∧ Slots C.X.K F' σ env ∧ Pr (Rep.rp C.X.K F') vs (picks f q (as.take i)),
    ⟨as.length, by simp, Nat.zero_le _, F1, [], Ex.rf F1, o0, s1.sl, by simp [picks]; exact .nil⟩, ?_⟩
  rintro i m H2 ⟨rfl, hi, F', vs, x, o, sl, pr⟩
  by_cases hlt : i < as.length
  · obtain ⟨go, yl⟩ := sv.go i F' H2 hlt x o.fH
    refine .inr ⟨go, fun H => i + 1 ≤ as.length ∧ ∃ F' vs, Ex F1 F' ∧ Own C.X.K (upd C.R D (.lst vs)) F' H L ∧ Slots C.X.K F' σ env ∧ Pr (Rep.rp C.X.K F') vs (picks f q (as.take (i + 1))), fun H' z => ⟨as.length - (i + 1), by omega, rfl, z⟩, fun v H3 y => ?_⟩
    obtain ⟨F3, g, a, ha, rv⟩ := yl v H3 y
    obtain ⟨env2, js, hjs, hz2⟩ := hb i a ha
    have hB := fun s H C0 cl fp => hz2 (upd C.R D (.lst vs)) s H C0 cl fp (ok.blk _ _ _ _ _ _ _)
    refine ⟨(⟨(upd C.R D (.lst vs), a, js)⟩, env2), fun s H C0 cl fp => (hB s H C0 cl fp).1, F3, ⟨(sl.mono g.f).wipeE _, o.gro g⟩, rv, fun σ4 F4 H4 w4 s4 chg => ⟨?_, ?_⟩⟩
    · rw [chg _ hjs]
      exact wipe_wipe σ _ _ fun _ h => h
    · refine ⟨(⟨(upd C.R D (.lst vs), q a)⟩, env2), fun s H C0 cl fp => (hB s H C0 cl fp).2.1, F4, s4, fun F5 H5 w5 s5 => ?_⟩
      have hlen : vs.length ≤ i := by
        rw [pr.length]
        exact Nat.le_trans (picks_le _ _ _) (List.length_take_le _ _)
      cases hq : q a with
      | true =>
        refine iteT ⟨(⟨(upd C.R D (.lst vs), f a)⟩, env2), fun s H C0 cl fp => (hB s H C0 cl fp).2.2 hq, F5, s5, fun y F6 H6 w6 s6 ry => ⟨vs, s6.ow.rH D _ upd_same, Nat.lt_of_le_of_lt hlen (Nat.lt_of_lt_of_le hlt hz), hlt, F6, vs ++ [y], ?_, s6.ow.updR hR, sl.mono ?_, ?_⟩⟩
        · exact (((x.tr g.f).tr w4.f).tr w5.f).tr w6.f
        · exact ((g.f.tr w4.f).tr w5.f).tr w6.f
        · rw [picks_snoc ha, hq]
          exact (pr.imp fun _ _ => Rep.mono (((g.f.tr w4.f).tr w5.f).tr w6.f)).append (.cons ry .nil)
      | false =>
        refine iteF ⟨hlt, F5, vs, ((x.tr g.f).tr w4.f).tr w5.f, s5.ow, sl.mono ((g.f.tr w4.f).tr w5.f), ?_⟩
        rw [picks_snoc ha, hq]
        simp only [Bool.false_eq_true, if_false, List.append_nil]
        exact pr.imp fun _ _ => Rep.mono ((g.f.tr w4.f).tr w5.f)
  · have e : i = as.length := by omega
    subst e
    rw [List.take_length] at pr
    exact .inl ⟨sv.stop _ F' H2 (Nat.le_refl _) x o.fH, qf D vs F' H2 ⟨w1.f.tr x⟩ o hR sl pr (Nat.le_trans (picks_le _ _ _) hz)⟩

abbrev LcB (C : Cz) (env : Env) (L : List Cell) (k : Nat) {α β : Type} [Rep α] [Rep β] (scope : Scope) (own : List (Str × Nat)) (tg elt : Expr) (ifs : List Expr) (as : List α) (f : α → β) (q : α → Bool) : Prop :=
  ∀ (i : Nat) (a : α), as[i]? = some a → ∃ env2 js, (∀ x ∈ js, x ∈ own.map (·.2)) ∧ ∀ R s H C0 cl fp, (C.blk R s H scope C0 cl fp).Ok k → G (C.blk R s H scope C0 cl fp) (wipeE env (own.map (·.2))) L tg ⟨a⟩ env2 js ∧ Ts (C.blk R s H scope C0 cl fp) env2 L ifs (q a) ∧ (q a = true → E (C.blk R s H scope C0 cl fp) env2 L elt ⟨f a⟩)
/-- [elt for tg in iter if ..] -/
theorem E_lc {α β : Type} [Rep α] [Rep β] {as : List α} (own : List (Str × Nat)) (f : α → β) (q : α → Bool) (ok : C.Ok k) (hi : EI C env L tg iter as) (hb : LcB C env L k scope own tg elt ifs as f q)
    (bok : BlkOk C.X.N C.X.env.scope scope own := by exact blkOk_by (by first | rfl | decide +kernel)) (hs : ∀ x, foldedSetIterable iter C.X.env x = pure x := by intro _; rfl) : E C env L (.ListComp elt [⟨tg, iter, ifs, 0⟩] scope pos) ⟨picks f q as⟩ := by
  obtain ⟨g, tt, te, h1, h2, h3, h4⟩ := lc_tS (own := own) f q ok hi hb
  exact ⟨PE.imp (pe_lc ok.calm ok.nd hi.p bok h1 h2 h3 hs) fun σ H Q ⟨F, s, z⟩ => h4 σ H Q ⟨F, s, fun D vs F' H' w o hR sl pr hz => by
    obtain ⟨o2, x2⟩ := o.ofR hR
    exact z _ _ H' ⟨w.f.tr x2⟩ ⟨sl.mono x2, o2⟩ ⟨D, vs, rfl, upd_same, pr.imp fun _ _ => Rep.mono x2, hz⟩⟩⟩
/-- the same, the list one's own -/
theorem EM_lc {α β : Type} [Rep α] [Rep β] {as : List α} (own : List (Str × Nat)) (f : α → β) (q : α → Bool) (ok : C.Ok k) (hi : EI C env L tg iter as) (hb : LcB C env L k scope own tg elt ifs as f q)
    (bok : BlkOk C.X.N C.X.env.scope scope own := by exact blkOk_by (by first | rfl | decide +kernel)) (hs : ∀ x, foldedSetIterable iter C.X.env x = pure x := by intro _; rfl) : EM C env L (.ListComp elt [⟨tg, iter, ifs, 0⟩] scope pos) (fun r L' => ∃ l, r = ⟨(At.mk l)⟩ ∧ L' = Cell.lst l (picks f q as) :: L) (fun _ _ _ => False) := by
  obtain ⟨g, tt, te, h1, h2, h3, h4⟩ := lc_tS (own := own) f q ok hi hb
  exact ⟨PE.imp (pe_lc ok.calm ok.nd hi.p bok h1 h2 h3 hs) fun σ H Q ⟨F, s, z, _⟩ => h4 σ H Q ⟨F, s, fun D vs F' H' w o hR sl pr hz => by
    exact z _ _ _ F' H' ⟨D, rfl, rfl⟩ w.f ⟨sl, o.ofRc hR rfl ⟨⟨vs, o.rH D _ upd_same, pr⟩, hz⟩⟩ rfl⟩⟩
/-- y = [elt for ..] -/
theorem S_setLc {α β : Type} [Rep α] [Rep β] {as : List α} (i : Nat) (own : List (Str × Nat)) (f : α → β) (q : α → Bool) {y : Str} {py spos : Pos} (ok : C.Ok k) (hi : EI C env L tg iter as) (hb : LcB C env L k scope own tg elt ifs as f q) (h : S C (env.set i (some ⟨picks f q as⟩)) L rest Q)
    (hy : C.X.N[i]? = some y := by rfl) (hyl : C.X.env.scope.names.lookup y = some .local := by rfl) (hsw : swapsWith (.ListComp elt [⟨tg, iter, ifs, 0⟩] scope pos) (some (.Name y py)) spos.line C.X.env = pure true := by exact sw_true rfl rfl rfl (by decide +kernel))
    (bok : BlkOk C.X.N C.X.env.scope scope own := by exact blkOk_by (by first | rfl | decide +kernel)) (hs : ∀ x, foldedSetIterable iter C.X.env x = pure x := by intro _; rfl) : S C env L (.Assign [.Name y py] (.ListComp elt [⟨tg, iter, ifs, 0⟩] scope pos) spos :: rest) Q := by
  obtain ⟨g, tt, te, h1, h2, h3, h4⟩ := lc_tS (own := own) f q ok hi hb
  exact S_cons ⟨PS.imp (ps_setLc ok.calm ok.nd hy hyl hsw hi.p bok h1 h2 h3 hs) fun D σ H ⟨F, s, n⟩ => h4 σ H _ ⟨F, s, fun Da vs F' H' w o hR sl pr hz => by
    obtain ⟨o2, x2⟩ := o.ofR hR
    exact n.nx _ L _ _ H' h (w.f.tr x2) ⟨(sl.mono x2).put (e := ⟨picks f q as⟩) (v := .ref Da) ⟨Da, vs, rfl, upd_same, pr.imp fun _ _ => Rep.mono x2, hz⟩ i, o2⟩⟩⟩
theorem S_setLcO {α β : Type} [Rep α] [Rep β] {as : List α} (i : Nat) (own : List (Str × Nat)) (f : α → β) (q : α → Bool) {y : Str} {py spos : Pos} (ok : C.Ok k) (hi : EI C env L tg iter as) (hb : LcB C env L k scope own tg elt ifs as f q) (h : ∀ l, S C (env.set i (some ⟨(At.mk l)⟩)) (Cell.lst l (picks f q as) :: L) rest Q)
    (hy : C.X.N[i]? = some y := by rfl) (hyl : C.X.env.scope.names.lookup y = some .local := by rfl) (hsw : swapsWith (.ListComp elt [⟨tg, iter, ifs, 0⟩] scope pos) (some (.Name y py)) spos.line C.X.env = pure true := by exact sw_true rfl rfl rfl (by decide +kernel))
    (bok : BlkOk C.X.N C.X.env.scope scope own := by exact blkOk_by (by first | rfl | decide +kernel)) (hs : ∀ x, foldedSetIterable iter C.X.env x = pure x := by intro _; rfl) : S C env L (.Assign [.Name y py] (.ListComp elt [⟨tg, iter, ifs, 0⟩] scope pos) spos :: rest) Q := by
  obtain ⟨g, tt, te, h1, h2, h3, h4⟩ := lc_tS (own := own) f q ok hi hb
  exact S_cons ⟨PS.imp (ps_setLc ok.calm ok.nd hy hyl hsw hi.p bok h1 h2 h3 hs) fun D σ H ⟨F, s, n⟩ => h4 σ H _ ⟨F, s, fun Da vs F' H' w o hR sl pr hz => by
    exact n.nx _ _ _ F' H' (h Da) w.f ⟨sl.put (e := ⟨(At.mk Da)⟩) (v := .ref Da) rfl i, o.ofRc hR rfl ⟨⟨vs, o.rH Da _ upd_same, pr⟩, hz⟩⟩⟩⟩
end
end Py

namespace Py
open PySem PySem.Spec PyProof.Rows L2

/-! ### built-ins -/
structure Cal (X : Cx) (x : Str) (rs : List Ent) (r : Ent) : Prop where
  h : ∃ u t, CallR X u t ∧ bootBuiltins x = some u ∧ ((∃ id, u = .builtin id) ∨ ∃ T, u = .type T) ∧ CaS X.K t rs r
/-- of one list that is read -/
structure CalR {α : Type} [Rep α] (X : Cx) (x : Str) (as : List α) (r : Ent) : Prop where
  h : ∃ u t, CallR X u t ∧ bootBuiltins x = some u ∧ ((∃ id, u = .builtin id) ∨ ∃ T, u = .type T) ∧
    ∀ F H p vs (Q : VK), Ex F H → SqL X.K H p vs → Pr (Rep.rp X.K F) vs as → as.length ≤ sizeLine → (∀ v F' H', Gro F H F' H' → r.rp X.K F' v → Q v H') → t [.ref p] H Q
section
variable {C : Cz} {k j : Nat} {env env' env2 env3 : Env} {L LR : List Cell} {e a b c tg iter elt : Expr} {es ifs : List Expr} {r r1 r2 r3 : Ent} {rs : List Ent} {pos p p2 apos cpos : Pos} {Q : Po} {st : Stmt} {rest body : List Stmt} {x : Str}
theorem pe_callU {X : Cx} {t : TA} {u : Value} {r : List V → Hp → VK → Prop} (hc : CallR X u r) (hu : (∃ id, u = .builtin id) ∨ ∃ T, u = .type T) (hg : Gl X x) (hm : X.mg x = none) (hv : bootBuiltins x = some u) (ha : PA X (e :: es) t) (hn : x ≠ "__name__" := by decide) (hdb : (x == ("__debug__" : Str)) = false := by decide)
    (he : starEach (e :: es) X.env = (false, eval e X.env) :: starEach es X.env := by rfl) (hpl : (backTo pos (starEach es X.env)).any (·.1) = false := by rfl) : PE X (.Call (.Name x p) (e :: es) [] pos) (tCB r t) := by
  rcases hu with ⟨id, rfl⟩ | ⟨T, rfl⟩
  · exact pe_callB hc hg hm hv ha hn hdb he hpl
  · exact pe_callTy hc hg hm hv ha hn hdb he hpl
theorem E_bi (h : Cal C.X x rs r) (ha : A C env L (e :: es) rs) (hm : C.X.mg x = none) (hg : Gl C.X x := by rfl) (hn : x ≠ "__name__" := by decide) (hdb : (x == ("__debug__" : Str)) = false := by decide)
    (he : starEach (e :: es) C.X.env = (false, eval e C.X.env) :: starEach es C.X.env := by rfl) (hpl : (backTo pos (starEach es C.X.env)).any (·.1) = false := by rfl) : E C env L (.Call (.Name x p) (e :: es) [] pos) r := by
  obtain ⟨u, t, h1, h2, h3, h4⟩ := h.h
  exact ⟨PE.imp (pe_callU h1 h3 hg hm h2 ha.p hn hdb he hpl) fun σ H Q ⟨F, s, q⟩ => ⟨F, s, fun vs F1 H1 x1 s1 rv => h4 F1 H1 vs Q s1.ow.fH rv fun v F' H' g rr => q v F' H' (x1.tr g.w) (s1.gro g) rr⟩⟩
theorem E_biR {α : Type} [Rep α] {as : List α} (h : CalR C.X x as r) (ha : ER C env L e as) (hm : C.X.mg x = none) (hg : Gl C.X x := by rfl) (hn : x ≠ "__name__" := by decide) (hdb : (x == ("__debug__" : Str)) = false := by decide)
    (he : starEach [e] C.X.env = (false, eval e C.X.env) :: starEach [] C.X.env := by rfl) (hpl : (backTo pos (starEach [] C.X.env)).any (·.1) = false := by rfl) : E C env L (.Call (.Name x p) [e] [] pos) r := by
  obtain ⟨u, t, h1, h2, h3, h4⟩ := h.h
  exact ⟨PE.imp (pe_callU h1 h3 hg hm h2 (pa_cons ha.p pa_nil he) hn hdb he hpl) fun σ H Q ⟨F, s, q⟩ => ⟨F, s, fun pp F1 H1 x1 s1 hr hz => by
    obtain ⟨vs, hl, rv⟩ := hr F1 H1 (Ex.rf F1) s1.ow
    exact h4 F1 H1 pp vs Q s1.ow.fH hl rv hz fun v F' H' g rr => q v F' H' (x1.tr g.w) (s1.gro g) rr⟩⟩
end
theorem boot_absx : bootBuiltins "abs" = some (.builtin "abs") := by decide +kernel
theorem boot_anyx : bootBuiltins "any" = some (.builtin "any") := by decide +kernel
theorem boot_allx : bootBuiltins "all" = some (.builtin "all") := by decide +kernel
theorem boot_sumx : bootBuiltins "sum" = some (.builtin "sum") := by decide +kernel
theorem boot_sortedx : bootBuiltins "sorted" = some (.builtin "sorted") := by decide +kernel
theorem boot_maxx : bootBuiltins "max" = some (.builtin "max") := by decide +kernel
theorem boot_listx : bootBuiltins "list" = some (.type "list") := by decide +kernel
theorem boot_tuplex : bootBuiltins "tuple" = some (.type "tuple") := by decide +kernel
theorem boot_boolx : bootBuiltins "bool" = some (.type "bool") := by decide +kernel
section
variable {X : Cx}
theorem one_arg {K F vs} {α : Type} [Rep α] {x : α} (h : Pr (fun v r => Ent.rp r K F v) vs [⟨x⟩]) : ∃ v, vs = [v] ∧ Rep.rp K F v x := by
  cases h with
  | cons h t => cases t; exact ⟨_, rfl, h⟩
theorem two_arg {K F vs} {α β : Type} [Rep α] [Rep β] {x : α} {y : β} (h : Pr (fun v r => Ent.rp r K F v) vs [⟨x⟩, ⟨y⟩]) : ∃ v w, vs = [v, w] ∧ Rep.rp K F v x ∧ Rep.rp K F w y := by
  cases h with
  | cons h t => cases t with | cons h2 t => cases t; exact ⟨_, _, rfl, h, h2⟩
theorem cal_intI {i : Int} : Cal X "int" [⟨i⟩] ⟨i⟩ := ⟨⟨_, _, call_int1, boot_int, Or.inr ⟨_, rfl⟩, fun F H vs Q e rv q => by
  obtain ⟨v, rfl, rfl⟩ := one_arg rv
  exact .inl ⟨i, rfl, q _ F H (Gro.rf e) rfl⟩⟩⟩
theorem cal_intB {i : Bool} : Cal X "int" [⟨i⟩] ⟨(if i then 1 else 0 : Int)⟩ := ⟨⟨_, _, call_int1, boot_int, Or.inr ⟨_, rfl⟩, fun F H vs Q e rv q => by
  obtain ⟨v, rfl, rfl⟩ := one_arg rv
  exact .inr ⟨i, rfl, q _ F H (Gro.rf e) rfl⟩⟩⟩
theorem cal_abs {i : Int} : Cal X "abs" [⟨i⟩] ⟨(if i < 0 then -i else i)⟩ := ⟨⟨_, _, call_abs, boot_absx, Or.inl ⟨_, rfl⟩, fun F H vs Q e rv q => by
  obtain ⟨v, rfl, rfl⟩ := one_arg rv
  exact ⟨i, rfl, q _ F H (Gro.rf e) rfl⟩⟩⟩
theorem cal_max {i j : Int} (hc : X.calm = true) : Cal X "max" [⟨i⟩, ⟨j⟩] ⟨(if j > i then j else i)⟩ := ⟨⟨_, _, call_max2 hc, boot_maxx, Or.inl ⟨_, rfl⟩, fun F H vs Q e rv q => by
  obtain ⟨v, w, rfl, rfl, rfl⟩ := two_arg rv
  exact ⟨i, j, rfl, q _ F H (Gro.rf e) rfl⟩⟩⟩
theorem cal_lenS {z : Str} : Cal X "len" [⟨z⟩] ⟨(z.length : Int)⟩ := ⟨⟨_, _, call_len_str, boot_len, Or.inl ⟨_, rfl⟩, fun F H vs Q e rv q => by
  obtain ⟨v, rfl, rfl, hz⟩ := one_arg rv
  exact ⟨z, rfl, hz.le, q _ F H (Gro.rf e) rfl⟩⟩⟩
theorem cal_lenT {α : Type} [Rep α] {z : Tup α} : Cal X "len" [⟨z⟩] ⟨(z.l.length : Int)⟩ := ⟨⟨_, _, call_len_seq, boot_len, Or.inl ⟨_, rfl⟩, fun F H vs Q e rv q => by
  obtain ⟨v, rfl, p, vs, rfl, h1, h2, h3⟩ := one_arg rv
  exact ⟨p, vs, rfl, Or.inr (ex_t e h1), q _ F H (Gro.rf e) (by show V.int _ = V.int _; rw [h2.length])⟩⟩⟩
theorem calR_len {α : Type} [Rep α] {as : List α} : CalR X "len" as ⟨(as.length : Int)⟩ := ⟨⟨_, _, call_len_seq, boot_len, Or.inl ⟨_, rfl⟩, fun F H p vs Q e hl rv hz q =>
  ⟨p, vs, rfl, Or.inl hl, q _ F H (Gro.rf e) (by show V.int _ = V.int _; rw [rv.length])⟩⟩⟩
theorem Pr.ints {K F} : ∀ {vs : List V} {ns : List Int}, Pr (Rep.rp K F) vs ns → vs = ns.map V.int
  | _, _, .nil => rfl
  | _, _, .cons h t => by rw [show _ = V.int _ from h, Pr.ints t]; rfl
theorem Pr.bools {K F} : ∀ {vs : List V} {ns : List Bool}, Pr (Rep.rp K F) vs ns → vs = ns.map V.bl
  | _, _, .nil => rfl
  | _, _, .cons h t => by rw [show _ = V.bl _ from h, Pr.bools t]; rfl
theorem Pr.strs {K F} : ∀ {vs : List V} {ns : List Str}, Pr (Rep.rp K F) vs ns → vs = ns.map V.str
  | _, _, .nil => rfl
  | _, _, .cons h t => by rw [show _ = V.str _ from h.1, Pr.strs t]; rfl
theorem Pr.ofInts {K F} (ns : List Int) : Pr (Rep.rp K F) (ns.map V.int) ns := Pr.map1 (Pr.diag (R := fun c b => Rep.rp K F (V.int c) b) (fun _ => rfl) ns)
theorem Pr.ofBools {K F} (ns : List Bool) : Pr (Rep.rp K F) (ns.map V.bl) ns := Pr.map1 (Pr.diag (R := fun c b => Rep.rp K F (V.bl c) b) (fun _ => rfl) ns)
theorem Pr.ofStrs {K F} : ∀ (ns : List Str), (∀ z ∈ ns, SOk z) → Pr (Rep.rp K F) (ns.map V.str) ns
  | [], _ => .nil
  | z :: ns, h => .cons ⟨rfl, h z List.mem_cons_self⟩ (Pr.ofStrs ns fun y hy => h y (List.mem_cons_of_mem _ hy))
theorem Pr.strs_le {K F} : ∀ {vs : List V} {ns : List Str}, Pr (Rep.rp K F) vs ns → ∀ z ∈ ns, SOk z
  | _, _, .nil, _, h => by cases h
  | _, _, .cons h t, z, hz => by
    rcases List.mem_cons.mp hz with rfl | hz
    · exact h.2
    · exact Pr.strs_le t z hz
theorem calR_sum {ns : List Int} (hc : X.calm = true) : CalR X "sum" ns ⟨ns.sum⟩ := ⟨⟨_, _, cr_sum hc, boot_sumx, Or.inl ⟨_, rfl⟩, fun F H p vs Q e hl rv hz q => by
  rw [rv.ints] at hl
  exact ⟨p, ns, rfl, hl, q _ F H (Gro.rf e) rfl⟩⟩⟩
theorem calR_any {ns : List Bool} (hc : X.calm = true) : CalR X "any" ns ⟨ns.any id⟩ := ⟨⟨_, _, cr_any hc, boot_anyx, Or.inl ⟨_, rfl⟩, fun F H p vs Q e hl rv hz q => by
  rw [rv.bools] at hl
  exact ⟨p, ns, rfl, hl, q _ F H (Gro.rf e) rfl⟩⟩⟩
theorem calR_all {ns : List Bool} (hc : X.calm = true) : CalR X "all" ns ⟨ns.all id⟩ := ⟨⟨_, _, cr_all hc, boot_allx, Or.inl ⟨_, rfl⟩, fun F H p vs Q e hl rv hz q => by
  rw [rv.bools] at hl
  exact ⟨p, ns, rfl, hl, q _ F H (Gro.rf e) rfl⟩⟩⟩
/-- list(xs) -/
theorem calR_list {α : Type} [Rep α] {as : List α} : CalR X "list" as ⟨as⟩ := ⟨⟨_, _, call_list_of, boot_listx, Or.inr ⟨_, rfl⟩, fun F H p vs Q e hl rv hz q =>
  ⟨p, vs, rfl, Or.inl hl, fun l hn => q _ _ _ (Gro.new e hn) ⟨l, vs, rfl, upd_same, rv.imp (fun _ _ => Rep.mono (Ex.new (Ex.free e hn))), hz⟩⟩⟩⟩
theorem cal_listT {α : Type} [Rep α] {as : Tup α} : Cal X "list" [⟨as⟩] ⟨as.l⟩ := ⟨⟨_, _, call_list_of, boot_listx, Or.inr ⟨_, rfl⟩, fun F H vs Q e rv q => by
  obtain ⟨v, rfl, p, vs, rfl, h1, h2, h3⟩ := one_arg rv
  exact ⟨p, vs, rfl, Or.inr (ex_t e h1), fun l hn => q _ _ _ (Gro.new e hn) ⟨l, vs, rfl, upd_same, h2.imp (fun _ _ => Rep.mono (Ex.new (Ex.free e hn))), h3⟩⟩⟩⟩
theorem calR_tuple {α : Type} [Rep α] {as : List α} : CalR X "tuple" as ⟨(Tup.mk as)⟩ := ⟨⟨_, _, call_tuple_of, boot_tuplex, Or.inr ⟨_, rfl⟩, fun F H p vs Q e hl rv hz q =>
  ⟨p, vs, rfl, Or.inl ⟨hl, fun l hn => q _ _ _ (Gro.new e hn) ⟨l, vs, rfl, Or.inl (Or.inl upd_same), rv.imp (fun _ _ => Rep.mono (Ex.new (Ex.free e hn))), hz⟩⟩⟩⟩⟩
def sortI (ns : List Int) : List Int := ns.mergeSort (fun a b => decide (a ≤ b))
theorem sorted_unique : ∀ {xs ys : List Int}, xs.Perm ys → xs.Pairwise (· ≤ ·) → ys.Pairwise (· ≤ ·) → xs = ys
  | [], ys, p, _, _ => by rw [List.nil_perm.mp p]
  | x :: xs, [], p, _, _ => by simp at p
  | x :: xs, y :: ys, p, h1, h2 => by
    have hx : x = y := by
      have a1 : x ∈ y :: ys := p.mem_iff.mp List.mem_cons_self
      have a2 : y ∈ x :: xs := p.mem_iff.mpr List.mem_cons_self
      rcases List.mem_cons.mp a1 with rfl | a1
      · rfl
      · rcases List.mem_cons.mp a2 with rfl | a2
        · rfl
        · have b1 := (List.pairwise_cons.mp h1).1 y a2
          have b2 := (List.pairwise_cons.mp h2).1 x a1
          omega
    subst hx
    rw [sorted_unique (List.Perm.cons_inv p) (List.pairwise_cons.mp h1).2 (List.pairwise_cons.mp h2).2]
theorem sortI_perm (ns : List Int) : (sortI ns).Perm ns := List.mergeSort_perm _ _
theorem sortI_sorted (ns : List Int) : (sortI ns).Pairwise (· ≤ ·) := by
  have h := List.pairwise_mergeSort (le := fun a b : Int => decide (a ≤ b)) (by intro a b c h1 h2; simp at *; omega) (by intro a b; simp; omega) ns
  exact h.imp fun h => by simpa using h
theorem calR_sortedI {ns : List Int} : CalR X "sorted" ns ⟨sortI ns⟩ := ⟨⟨_, _, cr_sortedI, boot_sortedx, Or.inl ⟨_, rfl⟩, fun F H p vs Q e hl rv hz q => by
  rw [rv.ints] at hl
  refine ⟨p, ns, rfl, hl, fun ns' l pe so hn => ?_⟩
  have e1 : ns' = sortI ns := sorted_unique (pe.trans (sortI_perm ns).symm) so (sortI_sorted ns)
  subst e1
  exact q _ _ _ (Gro.new e hn) ⟨l, _, rfl, upd_same, Pr.ofInts _, by rw [(sortI_perm ns).length_eq]; exact hz⟩⟩⟩
end

section
variable {C : Cz} {k j : Nat} {env env' env2 env3 : Env} {L LR : List Cell} {e a b c tg iter elt lo hi : Expr} {es ifs : List Expr} {r r1 r2 r3 : Ent} {rs : List Ent} {pos p p2 apos cpos : Pos} {Q : Po} {st : Stmt} {rest body : List Stmt} {x : Str}
/-! ### displays -/
def EntsOf {α : Type} [Rep α] (as : List α) : List Ent := as.map fun a => ⟨a⟩
theorem Pr.ofEnts {K F} {α : Type} [Rep α] : ∀ {as : List α} {vs : List V}, Pr (fun v r => Ent.rp r K F v) vs (EntsOf as) → Pr (Rep.rp K F) vs as
  | [], _, .nil => .nil
  | _ :: _, _, .cons h t => .cons h (Pr.ofEnts t)
theorem E_lst {α : Type} [Rep α] (as : List α) (h : A C env L es (EntsOf as)) (hz : as.length ≤ sizeLine := by decide) : E C env L (.List es pos) ⟨as⟩ := ⟨PE.imp (pe_lst h.p) fun σ H Q ⟨F, s, q⟩ => ⟨F, s, fun vs F1 H1 x1 s1 rv =>
  ⟨by rw [rv.ofEnts.length]; exact hz, fun l hn => q _ _ _ (x1.tr (Gro.new s1.ow.fH hn).w) (s1.gro (Gro.new s1.ow.fH hn)) ⟨l, vs, rfl, upd_same, rv.ofEnts.imp (fun _ _ => Rep.mono (Ex.new (Ex.free s1.ow.fH hn))), hz⟩⟩⟩⟩
/-- a new list of one's own -/
theorem EM_lst {α : Type} [Rep α] (as : List α) (h : A C env L es (EntsOf as)) (hz : as.length ≤ sizeLine := by decide) : EM C env L (.List es pos) (fun r L' => ∃ l, r = ⟨(At.mk l)⟩ ∧ L' = Cell.lst l as :: L) (fun _ _ _ => False) := ⟨PE.imp (pe_lst h.p) fun σ H Q ⟨F, s, q, _⟩ => ⟨F, s, fun vs F1 H1 x1 s1 rv =>
  ⟨by rw [rv.ofEnts.length]; exact hz, fun l hn => q _ _ _ F1 _ ⟨l, rfl, rfl⟩ x1.f ⟨s1.sl, s1.ow.cell hn rfl ⟨⟨vs, upd_same, rv.ofEnts⟩, hz⟩⟩ rfl⟩⟩⟩
theorem S_newL {α : Type} [Rep α] (i : Nat) (as : List α) {y : Str} {py : Pos} (hN : C.X.N.Nodup) (h : A C env L es (EntsOf as)) (hk : ∀ l, S C (env.set i (some ⟨(At.mk l)⟩)) (Cell.lst l as :: L) rest Q) (hz : as.length ≤ sizeLine := by decide)
    (hi : C.X.N[i]? = some y := by rfl) (hl : Loc C.X.env.scope y := by first | exact Or.inl rfl | exact Or.inr rfl) (hs : swapsWith (.List es p) (some (.Name y py)) pos.line C.X.env = pure false := by rfl) (hf : C.X.fn y = true ∨ C.X.env.scope.names.lookup y = some .local := by exact Or.inl rfl) : S C env L (.Assign [.Name y py] (.List es p) pos :: rest) Q :=
  S_setM i hN (EM_lst as h hz) (fun r L' ⟨l, h1, h2⟩ => by subst h1 h2; exact hk l) (fun _ _ _ z => z.elim) hi hl hs hf
theorem E_tup2 {α β : Type} [Rep α] [Rep β] {x : α} {y : β} {kt} (h : A C env L es [⟨x⟩, ⟨y⟩]) : E C env L (.Tuple es kt pos) ⟨(P2.mk x y)⟩ := ⟨PE.imp (pe_tup h.p) fun σ H Q ⟨F, s, q⟩ => ⟨F, s, fun vs F1 H1 x1 s1 rv => by
  obtain ⟨v, w, rfl, h1, h2⟩ := two_arg rv
  exact ⟨by show 2 ≤ sizeLine; decide, fun l hn => q _ _ _ (x1.tr (Gro.new s1.ow.fH hn).w) (s1.gro (Gro.new s1.ow.fH hn)) ⟨l, v, w, rfl, Or.inl (Or.inl upd_same), Rep.mono (Ex.new (Ex.free s1.ow.fH hn)) h1, Rep.mono (Ex.new (Ex.free s1.ow.fH hn)) h2⟩⟩⟩⟩
theorem three_arg {K F vs} {α β γ : Type} [Rep α] [Rep β] [Rep γ] {x : α} {y : β} {z : γ} (h : Pr (fun v r => Ent.rp r K F v) vs [⟨x⟩, ⟨y⟩, ⟨z⟩]) : ∃ v w u, vs = [v, w, u] ∧ Rep.rp K F v x ∧ Rep.rp K F w y ∧ Rep.rp K F u z := by
  cases h with
  | cons h t => cases t with | cons h2 t => cases t with | cons h3 t => cases t; exact ⟨_, _, _, rfl, h, h2, h3⟩
theorem E_tup3 {α β γ : Type} [Rep α] [Rep β] [Rep γ] {x : α} {y : β} {z : γ} {kt} (h : A C env L es [⟨x⟩, ⟨y⟩, ⟨z⟩]) : E C env L (.Tuple es kt pos) ⟨(P3.mk x y z)⟩ := ⟨PE.imp (pe_tup h.p) fun σ H Q ⟨F, s, q⟩ => ⟨F, s, fun vs F1 H1 x1 s1 rv => by
  obtain ⟨v, w, u, rfl, h1, h2, h3⟩ := three_arg rv
  exact ⟨by show 3 ≤ sizeLine; decide, fun l hn => q _ _ _ (x1.tr (Gro.new s1.ow.fH hn).w) (s1.gro (Gro.new s1.ow.fH hn)) ⟨l, v, w, u, rfl, Or.inl (Or.inl upd_same), Rep.mono (Ex.new (Ex.free s1.ow.fH hn)) h1, Rep.mono (Ex.new (Ex.free s1.ow.fH hn)) h2, Rep.mono (Ex.new (Ex.free s1.ow.fH hn)) h3⟩⟩⟩⟩
/-! ### places of tuples, texts -/
theorem E_tix {α β : Type} [Rep α] [Rep β] {t : α} {y : β} {i : Int} (ha : E C env L a ⟨t⟩) (hb : E C env L b ⟨i⟩) (h : ∀ F v, Rep.rp C.X.K F v t → ∃ p vs w, v = .ref p ∧ SqT C.X.K F p vs ∧ atI vs i = some w ∧ Rep.rp C.X.K F w y) (hs : PlainIx b := by exact fun _ _ => rfl) : E C env L (.Subscript a b pos) ⟨y⟩ :=
  ⟨PE.imp (pe_ix ix_tup ha.p hb.p hs) fun σ H Q ⟨F, s, q⟩ => ⟨F, s, fun v F1 H1 x1 s1 rv => ⟨F1, s1, fun w F2 H2 x2 s2 rw' => by
    obtain ⟨p, vs, u, rfl, h1, h2, h3⟩ := h F1 v rv
    exact ⟨p, vs, i, u, rfl, rw', ex_t s2.ow.fH (ex_t x2.f h1), h2, q u F2 H2 (x1.tr x2) s2 (Rep.mono x2.f h3)⟩⟩⟩⟩
theorem E_2a {α β : Type} [Rep α] [Rep β] {t : P2 α β} (ha : E C env L a ⟨t⟩) (hb : E C env L b ⟨(0 : Int)⟩) (hs : PlainIx b := by exact fun _ _ => rfl) : E C env L (.Subscript a b pos) ⟨t.a⟩ := E_tix ha hb (fun F v ⟨p, x, y, h1, h2, h3, h4⟩ => ⟨p, _, x, h1, h2, rfl, h3⟩) hs
theorem E_2b {α β : Type} [Rep α] [Rep β] {t : P2 α β} (ha : E C env L a ⟨t⟩) (hb : E C env L b ⟨(1 : Int)⟩) (hs : PlainIx b := by exact fun _ _ => rfl) : E C env L (.Subscript a b pos) ⟨t.b⟩ := E_tix ha hb (fun F v ⟨p, x, y, h1, h2, h3, h4⟩ => ⟨p, _, y, h1, h2, rfl, h4⟩) hs
theorem E_3a {α β γ : Type} [Rep α] [Rep β] [Rep γ] {t : P3 α β γ} (ha : E C env L a ⟨t⟩) (hb : E C env L b ⟨(0 : Int)⟩) (hs : PlainIx b := by exact fun _ _ => rfl) : E C env L (.Subscript a b pos) ⟨t.a⟩ := E_tix ha hb (fun F v ⟨p, x, y, z, h1, h2, h3, h4, h5⟩ => ⟨p, _, x, h1, h2, rfl, h3⟩) hs
theorem E_3b {α β γ : Type} [Rep α] [Rep β] [Rep γ] {t : P3 α β γ} (ha : E C env L a ⟨t⟩) (hb : E C env L b ⟨(1 : Int)⟩) (hs : PlainIx b := by exact fun _ _ => rfl) : E C env L (.Subscript a b pos) ⟨t.b⟩ := E_tix ha hb (fun F v ⟨p, x, y, z, h1, h2, h3, h4, h5⟩ => ⟨p, _, y, h1, h2, rfl, h4⟩) hs
theorem E_3c {α β γ : Type} [Rep α] [Rep β] [Rep γ] {t : P3 α β γ} (ha : E C env L a ⟨t⟩) (hb : E C env L b ⟨(2 : Int)⟩) (hs : PlainIx b := by exact fun _ _ => rfl) : E C env L (.Subscript a b pos) ⟨t.c⟩ := E_tix ha hb (fun F v ⟨p, x, y, z, h1, h2, h3, h4, h5⟩ => ⟨p, _, z, h1, h2, rfl, h5⟩) hs
/-- s[i] -/
theorem E_ixS {z : Str} {i : Int} {n : Nat} (ha : E C env L a ⟨z⟩) (hb : E C env L b ⟨i⟩) (h : atI z.cps.toList i = some n) (hs : PlainIx b := by exact fun _ _ => rfl) : E C env L (.Subscript a b pos) ⟨(⟨#[n]⟩ : Str)⟩ :=
  ⟨PE.imp (pe_ix ix_str ha.p hb.p hs) fun σ H Q ⟨F, s, q⟩ => ⟨F, s, fun v F1 H1 x1 s1 rv => ⟨F1, s1, fun w F2 H2 x2 s2 rw' =>
    ⟨z, i, n, rv.1, rw', rv.2.le, h, q _ F2 H2 (x1.tr x2) s2 ⟨rfl, (by
      unfold atI at h
      cases hj : ixN z.cps.toList.length i with
      | none => rw [hj] at h; cases h
      | some j => rw [hj] at h; exact sok_sign rv.2 h)⟩⟩⟩⟩⟩
/-! ### slices -/
theorem EO_none : EO C env L none none := ⟨⟨fun pins s σ H Q I ⟨F, st, q⟩ => po_none.run pins s σ H Q I (q F H (Gw.rf F H) st)⟩⟩
theorem EO_some {i : Int} (h : E C env L a ⟨i⟩) : EO C env L (some a) (some i) := ⟨⟨fun pins s σ H Q I ⟨F, st, q⟩ => (po_some h.p).run pins s σ H Q I ⟨F, st, fun v F' H' x s' rv => ⟨i, rv, q F' H' x s'⟩⟩⟩⟩
def cut {α : Type} (xs : List α) (lo hi : Option Int) : List α := (xs.drop (HT.sIx xs.length 0 lo)).take (HT.sIx xs.length xs.length hi - HT.sIx xs.length 0 lo)
theorem cut_le {α : Type} (xs : List α) (lo hi : Option Int) : (cut xs lo hi).length ≤ xs.length := by
  unfold cut
  rw [List.length_take, List.length_drop]
  omega
theorem E_sl {α : Type} [Rep α] {as : List α} {olo ohi : Option Expr} {l u : Option Int} (ha : ER C env L a as) (hl : EO C env L olo l) (hu : EO C env L ohi u) : E C env L (.Subscript a (.Slice olo ohi none p2) pos) ⟨cut as l u⟩ :=
  ⟨PE.imp (pe_slice sl_list ha.p hl.p hu.p) fun σ H Q ⟨F, s, q⟩ => ⟨F, s, fun pp F1 H1 x1 s1 hr hz => ⟨F1, s1, fun F2 H2 x2 s2 => ⟨F2, s2, fun F3 H3 x3 s3 => by
    obtain ⟨vs, hx, rv⟩ := hr F3 H3 (x2.f.tr x3.f) s3.ow
    refine ⟨pp, vs, rfl, hx, fun nl hn => ?_⟩
    refine q _ _ _ ((((x1.tr x2).tr x3)).tr (Gro.new s3.ow.fH hn).w) (s3.gro (Gro.new s3.ow.fH hn)) ⟨nl, _, rfl, upd_same, ?_, Nat.le_trans (cut_le _ _ _) hz⟩
    unfold cut cutV
    rw [rv.length]
    exact ((rv.drop _).take _).imp fun _ _ => Rep.mono (Ex.new (Ex.free s3.ow.fH hn))⟩⟩⟩⟩
theorem cutS_le (z : Str) (lo hi : Option Int) : (cutS z lo hi).length ≤ z.length := by
  unfold cutS
  show (List.toArray _).size ≤ z.cps.size
  rw [List.size_toArray, List.length_take, List.length_drop, Array.length_toList]
  omega
theorem sok_cut {z : Str} (h : SOk z) (l u : Option Int) : SOk (cutS z l u) := ⟨Nat.le_trans (cutS_le z l u) h.le, by
  unfold cutS
  refine List.all_eq_true.mpr fun c hc => List.all_eq_true.mp h.ok c ?_
  exact List.mem_of_mem_drop (List.mem_of_mem_take hc)⟩
theorem E_slS {z : Str} {olo ohi : Option Expr} {l u : Option Int} (ha : E C env L a ⟨z⟩) (hl : EO C env L olo l) (hu : EO C env L ohi u) : E C env L (.Subscript a (.Slice olo ohi none p2) pos) ⟨cutS z l u⟩ :=
  ⟨PE.imp (pe_slice sl_str ha.p hl.p hu.p) fun σ H Q ⟨F, s, q⟩ => ⟨F, s, fun v F1 H1 x1 s1 rv => ⟨F1, s1, fun F2 H2 x2 s2 => ⟨F2, s2, fun F3 H3 x3 s3 =>
    ⟨z, rv.1, rv.2.le, q _ F3 H3 ((x1.tr x2).tr x3) s3 ⟨rfl, sok_cut rv.2 l u⟩⟩⟩⟩⟩⟩
/-! ### lists of one's own -/
theorem E.own {α : Type} [Rep α] {as : List α} {l : Addr} (h : E C env L a ⟨(At.mk l)⟩) (hL : Cell.lst l as ∈ L) : ER C env L a as := ⟨PE.imp h.p fun σ H Q ⟨F, s, q⟩ => ⟨F, s, fun v F1 H1 x1 s1 rv => by
  have rv : v = V.ref l := rv
  subst rv
  exact q l F1 H1 x1 s1 (fun F2 H2 x2 o2 => by
    obtain ⟨⟨vs, h1, h2⟩, h3⟩ := o2.ok _ hL
    exact ⟨vs, sq_of h1, h2⟩) (s1.ow.ok _ hL).2⟩⟩
/-- xs.append(e) -/
theorem S_app {α : Type} [Rep α] {as : List α} {x : α} {l : Addr} (kk : Nat) (ho : E C env L a ⟨(At.mk l)⟩) (he : E C env L e ⟨x⟩) (hL : L[kk]? = some (Cell.lst l as)) (hz : as.length < sizeLine) (hk : S C env (L.set kk (Cell.lst l (as ++ [x]))) rest Q)
    (hs : swapsWith (.Call (.Attribute a "append" apos) [e] [] cpos) none pos.line C.X.env = pure false := by rfl) (hbase : attributeBase a "append" C.X.env (eval a C.X.env) = eval a C.X.env := by rfl)
    (hfew : ((backTo cpos (starEach (e :: []) C.X.env)).all (fun x => !x.1) && (backToKw cpos (keywordEach [] C.X.env)).all (fun x => x.1.isSome) && decide ((e :: []).length + ([] : List Keyword).length + (if ([] : List Keyword).isEmpty then 0 else 1) < 30)) = true := by rfl)
    (hst : starEach [e] C.X.env = (false, eval e C.X.env) :: starEach [] C.X.env := by rfl) (hline : (apos.endLine == cpos.line) = true := by rfl) : S C env L (.Expr (.Call (.Attribute a "append" apos) [e] [] cpos) pos :: rest) Q := by
  refine S_cons ⟨PS.imp (ps_expr (pe_bm PySem.F.plainAttrs_list PySem.F.slot_list_append PySem.F.type_list_append mt_append ho.p (pa_cons he.p pa_nil hst) hbase hfew hline hst rfl) hs) fun D σ H ⟨F, s, n⟩ => ?_⟩
  refine ⟨F, s, fun v F1 H1 x1 s1 rv => ?_⟩
  have rv : v = V.ref l := rv
  subst rv
  obtain ⟨⟨vs, h1, h2⟩, h3⟩ := s1.ow.ok _ (List.mem_of_getElem? hL)
  refine ⟨Or.inl ⟨rfl, vs, sq_of h1⟩, F1, s1, fun w F2 H2 x2 s2 rw' => ?_⟩
  obtain ⟨⟨vs2, h4, h5⟩, h6⟩ := s2.ow.ok _ (List.mem_of_getElem? hL)
  refine ⟨l, vs2, w, rfl, rfl, h4, by rw [h5.length]; exact hz, n.nx _ _ σ F2 _ hk (x1.f.tr x2.f) ⟨s2.sl, s2.ow.put hL rfl (fun b hb => upd_ne fun z => hb (by rw [z]; exact List.mem_cons_self)) ⟨⟨_, upd_same, h5.append (.cons rw' .nil)⟩, by rw [List.length_append]; exact hz⟩⟩⟩
/-- a list of one's own is frozen -/
theorem S_frz {α : Type} [Rep α] {as : List α} {l : Addr} (i kk : Nat) (hi : env[i]? = some (some ⟨(At.mk l)⟩)) (hL : L[kk]? = some (Cell.lst l as)) (hk : S C (env.set i (some ⟨as⟩)) (L.eraseIdx kk) rest Q) : S C env L rest Q := by
  refine ⟨PSs.imp hk.p fun D σ H ⟨F, s, n⟩ => ?_⟩
  have hp : L.Perm (Cell.lst l as :: L.eraseIdx kk) := by
    obtain ⟨hlt, he⟩ := List.getElem?_eq_some_iff.mp hL
    have e : L = L.take kk ++ Cell.lst l as :: L.drop (kk + 1) := by rw [← he]; simp
    rw [List.eraseIdx_eq_take_drop_succ]
    conv => lhs; rw [e]
    exact List.perm_middle
  obtain ⟨⟨vs, h1, h2⟩, h3⟩ := s.ow.ok _ (List.mem_of_getElem? hL)
  obtain ⟨x, o, hj⟩ := (s.ow.perm hp.symm).freeze
  obtain ⟨v, hv, rv⟩ := s.sl.get hi
  have rv : v = V.ref l := rv
  subst rv
  have sl := (s.sl.mono x).put (e := ⟨as⟩) (v := .ref l) (show Rep.rp C.X.K _ (.ref l) as from ⟨l, vs, rfl, by rw [hj l List.mem_cons_self]; exact h1, h2.imp fun _ _ => Rep.mono x, h3⟩) i
  have e : σ.set i (some (.ref l)) = σ := by
    obtain ⟨hlt, he⟩ := List.getElem?_eq_some_iff.mp hv
    rw [← he]; exact List.set_getElem_self hlt
  rw [e] at sl
  exact ⟨_, ⟨sl, o⟩, n.mono x⟩
end
end Py

namespace Py
open PySem PySem.Spec PyProof.Rows L2

/-! ### classes -/
/-- the method m of the class at C0 keeps sp -/
structure Ms (P : Program) (w : World) (K : PySem.W.Frag) (mg : Str → Option Value) (base : Heap) (k : Nat) (C0 : Addr) (m : Str) (sp : Sp) : Prop where
  h : ∃ f fd ps, Meth K C0 m f ∧ PySem.W.fnIn K f = true ∧ Binds K fd ps [] ∧ FnOk P w K mg base (L2.CX P w) k f fd ps sp
/-- the class's name is x, its __init__ keeps sp -/
structure Mks (P : Program) (w : World) (K : PySem.W.Frag) (mg : Str → Option Value) (base : Heap) (k : Nat) (C0 : Addr) (x : Str) (sp : Sp) : Prop where
  h : ∃ f fd ps, Mk K C0 f ∧ mg x = some (.ref C0) ∧ Binds K fd ps [] ∧ FnOk P w K mg base (L2.CX P w) k f fd ps sp

theorem own0 {K : PySem.W.Frag} {F H : Hp} (e : Ex F H) : Own K (frame H F []) F H [] :=
  ⟨e, fun a u h => (frame_of h).1, fun a u h => (frame_of h).2.1, fun c hc => (by cases hc), List.nodup_nil, fun c hc => (by cases hc), fun c hc => (by cases hc)⟩
theorem gro_of {K : PySem.W.Frag} {F H F' H' : Hp} {L : List Cell} (e : Ex F H) (o : Own K (frame H F []) F' H' L) (x : Ex F F') : Gro F H F' H' := ⟨x, frame_ex e o x, o.fH, fun p u h => by
  cases q : F p with
  | some v => left; have := x p v q; rw [h] at this; rw [this]
  | none =>
    right
    cases q2 : H p with
    | none => rfl
    | some v =>
      have h3 : frame H F [] p = some v := by rw [frame_some q (fun c hc => by cases hc)]; exact q2
      rw [o.fr p v h3] at h; cases h⟩
theorem of_spF.{u} {γ : Type u} {K : PySem.W.Frag} {arg : γ → List Ent} {pre : γ → Prop} {res : γ → Ent} {F H : Hp} {vs : List V} {Q : VK} {E : XK} (g : γ) (hp : pre g) (e : Ex F H) (rv : Pr (fun v r => Ent.rp r K F v) vs (arg g)) (h : ∀ v F' H', Gro F H F' H' → (res g).rp K F' v → Q v H') : spF K arg pre res vs H Q E :=
  ⟨g, hp, frame H F [], F, own0 e, rv, fun r L' v F' H' hpo x o rr => by
    obtain ⟨rfl, rfl⟩ := hpo
    exact h v F' H' (gro_of e o x) rr, fun _ _ _ _ _ z => z.elim⟩

section
variable {X : Cx} {A1 : Around} {CX0' : CXT} {k n : Nat} {f C0 : Addr} {fd : FuncData} {ps : List Str} {sp : Sp} {E : XK} {pins : List (Addr × Obj)} {σ : Py.St} {H : Hp} {s : Shared} {Q : VK} {us : List Value} {vs : List V}
theorem tk0 : Takes X (fun _ _ _ _ => False) := fun u s' ⟨_, _, _, _, _, _, _, _, _, _, _, _, _, _, _, _, z⟩ => z.elim
/-- a def is called, here or deeper within a builtin -/
theorem run_sub (F : FnOk X.prog X.w X.K X.mg X.base CX0' n f fd ps sp) (sb : Sub X n A1) (hb : Binds X.K fd ps []) (hx : PassesAt CX0' X σ E) (I : L2.Inv X pins σ H s) (r : Vals vs us) (h : sp vs H Q E) :
    wpAny (model X.prog X.w) A1 (call (.ref f) us) (EP X pins σ Q) X.xe s := by
  have e0 : Env0 X.prog X.w X.K X.mg X.base A1 X.stack s H := by
    have e := I.env0
    exact ⟨by rw [sb.fr]; exact e.frames, e.mod, e.bs, e.bsz, e.funs, e.frf, e.hok, e.bare⟩
  have hl : us.length = ps.length := by rw [← r.length]; exact F.len _ _ _ _ h
  have b := hb s us I.kIn (by rw [List.append_nil]; exact hl)
  rw [List.append_nil] at b
  refine wpAny_call (codeAny_mono (F.run A1 X.stack s H ⟨us, []⟩ us vs Q E sb.room e0 b r h) fun r s' hq => ?_)
  cases r with
  | error e => exact hx pins H s e s' I hq
  | ok fl =>
    cases fl with
    | ret u => exact I.after hq
    | next => exact False.elim hq
    | brk => exact False.elim hq
    | cont => exact False.elim hq
theorem Sub.here {X : Cx} {k n : Nat} (hr : Room k X.A) (h : n ≤ k) : Sub X n X.A := ⟨hr.mono h, rfl⟩

/-- an instance of the class at C0 -/
def IsI (K : PySem.W.Frag) (r : Ent) (C0 : Addr) : Prop := ∀ F v, r.rp K F v → ∃ p dx fs, v = .ref p ∧ F p = some (.ins C0 dx fs)
theorem inst_at {dx p : Addr} {fs : List (Str × V)} (I : L2.Inv X pins σ H s) (h : H p = some (.ins C0 dx fs)) : ∃ ox od, PySem.W.InstAt s.heap p ox C0 od ∧ ox.data = .plain := by
  obtain ⟨mA, J, _⟩ := ins_get I.hok h
  obtain ⟨od, J, _⟩ := J.look
  exact ⟨_, _, J, rfl⟩

theorem cmpBack_of {u : Value} {s' : Shared} (h : EP X pins σ Q u s') : PySem.W.CmpBack (EP X pins σ Q) u s' := by
  obtain ⟨v, H', I, r, q⟩ := h
  cases v with
  | non => cases r; exact ⟨.non, H', I, rfl, q⟩
  | bl b => cases r; exact ⟨.bl b, H', I, rfl, q⟩
  | int i => obtain ⟨t, rfl⟩ := r; exact ⟨.int i, H', I, ⟨t, rfl⟩, q⟩
  | str i => obtain ⟨t, rfl⟩ := r; exact ⟨.str i, H', I, ⟨t, rfl⟩, q⟩
  | byt i => obtain ⟨t, rfl⟩ := r; exact ⟨.byt i, H', I, ⟨t, rfl⟩, q⟩
  | flt i => obtain ⟨t, rfl⟩ := r; exact ⟨.flt i, H', I, ⟨t, rfl⟩, q⟩
  | ref a => cases r; exact ⟨.ref a, H', I, rfl, q⟩
  | ty a => cases r; exact ⟨.ty a, H', I, rfl, q⟩

/-- a op b by an own comparison: reading by values -/
def rOwn2 (C0 : Addr) (sp : Sp) : R2 := fun x y H Q => ∃ a dx fs b dy gs, x = .ref a ∧ y = .ref b ∧ H a = some (.ins C0 dx fs) ∧ H b = some (.ins C0 dy gs) ∧ sp [x, y] H Q (fun _ _ _ => False)
theorem op_cmpO {op : CmpOp} {m : Str} (ho : ∀ u v, compareOp op u v = richCompare op u v) (hm : (PySem.cmpInfo op).2.1 = m) (hr : Room k X.A) (M : Ms X.prog X.w X.K X.mg X.base n C0 m sp) (hj : n ≤ k) : OpR X (compareOp op) (rOwn2 C0 sp) := by
  intro pins s σ H x y v u Q I rx ry h
  obtain ⟨a, dx, fs, b, dy, gs, rfl, rfl, ha, hb, q⟩ := h
  cases rx
  cases ry
  obtain ⟨f, fd, ps, hM, _, hB, F⟩ := M.h
  obtain ⟨ox, od, J, _⟩ := inst_at I ha
  obtain ⟨ox', od', J', _⟩ := inst_at I hb
  obtain ⟨m', hF⟩ := I.fr
  rw [ho]
  subst hm
  refine PySem.W.cmp_K (tb := .ref C0) hr.units0 hF I.ok.mod.kin J J'.type (by simp [PySem.W.notFirst]) hM.at_ hM.fn ?_
  exact wpAny_mono (run_sub F (Sub.here hr hj) hB (passAt tk0 σ) I (show Vals [V.ref a, V.ref b] [Value.ref a, Value.ref b] from .cons rfl (.cons rfl .nil)) q) (fun _ _ z => cmpBack_of z) fun _ _ z => z
theorem op_binO {op : Operator} {m : Str} (hm : PySem.dunder op.info.2 = m) (hr : Room k X.A) (hc : PySem.W.selfFirst X.K C0 = true) (M : Ms X.prog X.w X.K X.mg X.base n C0 m sp) (hj : n ≤ k) : OpR X (binaryOp op) (rOwn2 C0 sp) := by
  intro pins s σ H x y v u Q I rx ry h
  obtain ⟨a, dx, fs, b, dy, gs, rfl, rfl, ha, hb, q⟩ := h
  cases rx
  cases ry
  obtain ⟨f, fd, ps, hM, _, hB, F⟩ := M.h
  obtain ⟨ox, od, J, _⟩ := inst_at I ha
  obtain ⟨ox', od', J', _⟩ := inst_at I hb
  obtain ⟨m', hF⟩ := I.fr
  subst hm
  refine PySem.W.binop_K hF I.ok.mod.kin J J'.type hc hM.at_ hM.fn ?_
  exact wpAny_mono (run_sub F (Sub.here hr hj) hB (passAt tk0 σ) I (show Vals [V.ref a, V.ref b] [Value.ref a, Value.ref b] from .cons rfl (.cons rfl .nil)) q) (fun _ _ z => cmpBack_of z) fun _ _ z => z
theorem call_lenO (hr : Room k X.A) (M : Ms X.prog X.w X.K X.mg X.base n C0 "__len__" sp) (hj : n + 1 ≤ k) : CallR X (.builtin "len") (fun xs H Q => ∃ a dx fs, xs = [.ref a] ∧ H a = some (.ins C0 dx fs) ∧ sp xs H (fun v H' => ∃ i : Int, v = .int i ∧ 0 ≤ i ∧ i < 2 ^ 63 ∧ Q (.int i) H') (fun _ _ _ => False)) := by
  intro pins s σ H xs us Q I r h
  obtain ⟨a, dx, fs, rfl, ha, q⟩ := h
  obtain ⟨f, fd, ps, hM, _, hB, F⟩ := M.h
  obtain ⟨ox, od, J, _⟩ := inst_at I ha
  obtain ⟨m', hF⟩ := I.fr
  cases r with
  | cons r t =>
    cases t
    cases r
    refine PySem.W.len_K hF I.ok.mod.kin J hM.at_ hM.fn ?_
    refine wpAny_mono (run_sub F (Sub.in1 (Sub.here hr hj)) hB (passAt tk0 σ) I (show Vals [V.ref a] [Value.ref a] from .cons rfl .nil) q) (fun u s' z => ?_) fun _ _ z => z
    obtain ⟨v, H', I', rv, i, rfl, h0, h1, q'⟩ := z
    obtain ⟨t, rfl⟩ := rv
    exact ⟨⟨h0, h1⟩, .int i, H', I'.tok _, ⟨_, rfl⟩, q'⟩
theorem call_strO (hr : Room k X.A) (M : Ms X.prog X.w X.K X.mg X.base n C0 "__str__" sp) (hj : n + 2 ≤ k) : CallR X (.type "str") (fun xs H Q => ∃ a dx fs, xs = [.ref a] ∧ H a = some (.ins C0 dx fs) ∧ sp xs H (fun v H' => ∃ z, v = .str z ∧ Q (.str z) H') (fun _ _ _ => False)) := by
  intro pins s σ H xs us Q I r h
  obtain ⟨a, dx, fs, rfl, ha, q⟩ := h
  obtain ⟨f, fd, ps, hM, _, hB, F⟩ := M.h
  obtain ⟨ox, od, J, _⟩ := inst_at I ha
  cases r with
  | cons r t =>
    cases t
    cases r
    have sb : Sub X n X.A.in1.in1 := Sub.in1 (Sub.in1 (Sub.here hr hj))
    refine PySem.W.kso_call sb.room.units0 I.kIn J hM.at_ hM.fn ?_
    refine wpAny_mono (run_sub F sb hB (passAt tk0 σ) I (show Vals [V.ref a] [Value.ref a] from .cons rfl .nil) q) (fun u s' z => ?_) fun _ _ z => z
    obtain ⟨v, H', I', rv, i, rfl, q'⟩ := z
    obtain ⟨t, rfl⟩ := rv
    exact ⟨.str i, H', I', ⟨t, rfl⟩, q'⟩
theorem pe_ixO {a b : Expr} {ta tb : TE} {pos : Pos} (hr : Room k X.A) (M : Ms X.prog X.w X.K X.mg X.base n C0 "__getitem__" sp) (hj : n + 1 ≤ k) (ha : PE X a ta) (hb : PE X b tb)
    (hs : ∀ x i, subscripted b true (.ref x) i = runValue (.builtin "lifetime.subscript" ⟨[.ref x, i], []⟩) := by intro _ _; with_unfolding_all rfl) : PE X (.Subscript a b pos) (fun σ H Q => ta σ H fun x H1 => tb σ H1 fun y H2 => ∃ a dx fs, x = .ref a ∧ H2 a = some (.ins C0 dx fs) ∧ sp [x, y] H2 Q (fun _ _ _ => False)) := by
  refine ⟨fun pins s σ H Q I h => ?_⟩
  refine Subscript_ (binT ha hb I h fun v u s2 x y H2 I2 rx ry q => ?_)
  obtain ⟨a, dx, fs, rfl, ha, q⟩ := q
  cases rx
  obtain ⟨f, fd, ps, hM, hfn, hB, F⟩ := M.h
  obtain ⟨ox, od, J, _⟩ := inst_at I2 ha
  obtain ⟨m', hF⟩ := I2.fr
  refine PySem.W.sub_K hF I2.ok.mod.kin J hM.at_ hfn hM.fn ?_ (hs a u)
  exact run_sub F (Sub.in1 (Sub.here hr hj)) hB (passAt tk0 σ) I2 (show Vals [V.ref a, y] [Value.ref a, u] from .cons rfl (.cons ry .nil)) q
theorem call_listS (hc : X.calm = true) : CallR X (.type "list") (fun xs H Q => ∃ z : Str, xs = [.str z] ∧ z.length ≤ sizeLine ∧ ∀ l, H l = none → Q (.ref l) (upd H l (.lst ((signs z).map V.str)))) := by
  intro pins s σ H xs us Q I r h
  obtain ⟨z, rfl, hz, q⟩ := h
  cases r with
  | cons r t =>
    cases t
    obtain ⟨t, rfl⟩ := r
    have hn := I.hok.fresh (Nat.le_refl _)
    refine call_list_str (I.ok.hd hc) z t (fun h' tk acc' c' k he hi => ?_) hz
    have ob : ObjOk X.prog X.w (upd H s.heap.objs.size (.lst ((signs z).map V.str))) h' s.heap.objs.size (.lst ((signs z).map V.str)) := by
      refine ⟨by rw [List.length_map]; unfold signs; rw [List.length_map, Array.length_toList]; exact hz, acc'.toList, c', ?_, by rw [Array.toArray_toList]; exact he⟩
      obtain ⟨e1, e2⟩ := hi
      have key : ∀ (cs : List Nat) (us : List Value), us.length = cs.length → (∀ (j : Nat) v, us[j]? = some v → ∃ c u, cs[j]? = some c ∧ v = Value.str ⟨#[c]⟩ u) → Vals ((cs.map fun c => (⟨#[c]⟩ : Str)).map V.str) us := by
        intro cs
        induction cs with
        | nil => intro us hl _; cases us with | nil => exact .nil | cons _ _ => simp at hl
        | cons c cs ih =>
          intro us hl hv
          cases us with
          | nil => simp at hl
          | cons u us =>
            obtain ⟨c', t', h1, h2⟩ := hv 0 u rfl
            have h1 : some c = some c' := h1
            cases h1
            refine .cons ⟨t', h2⟩ (ih us (by simpa using hl) fun j v hj => ?_)
            have := hv (j + 1) v (by simpa using hj)
            simpa using this
      refine key z.cps.toList acc'.toList (by simp [e1]) fun j v hj => ?_
      obtain ⟨c, u, h1, h2⟩ := e2 j v (by rw [← Array.getElem?_toList]; exact hj)
      exact ⟨c, u, by rw [← Array.getElem?_toList] at h1; exact h1, h2⟩
    exact ⟨.ref s.heap.objs.size, _, I.laid k (Nat.le_refl _) ob, rfl, q _ hn⟩
end
end Py

namespace Py
open PySem PySem.Spec PyProof.Rows L2

section
variable {X : Cx} {CX0' : CXT} {k n : Nat} {f C0 : Addr} {fd : FuncData} {ps : List Str} {sp : Sp} {E : XK} {pins : List (Addr × Obj)} {σ : Py.St} {H : Hp} {s : Shared} {Q : VK} {us : List Value} {vs : List V} {x : Str} {e : Expr} {es : List Expr} {p pos : Pos} {t : TA}
/-- C(..), what is raised wished for at the slots -/
theorem run_makeS (M : Mk X.K C0 f) (F : FnOk X.prog X.w X.K X.mg X.base CX0' n f fd ps sp) (hr : Room (n + 1) X.A) (hb : Binds X.K fd ps []) (hx : PassesAt CX0' X σ E) (I : L2.Inv X pins σ H s) (r : Vals vs us)
    (h : ∀ x dx, H x = none → H dx = none → dx ≠ x → sp (.ref x :: vs) (upd (upd H dx (.own x)) x (.ins C0 dx [])) (fun v H2 => v = .non ∧ Q (.ref x) H2) E) :
    wpAny (model X.prog X.w) X.A (call (.ref C0) us) (EP X pins σ Q) X.xe s := by
  have hq := h (s.heap.objs.size + 1) s.heap.objs.size (I.hok.fresh (Nat.le_succ _)) (I.hok.fresh (Nat.le_refl _)) (Nat.ne_of_lt (Nat.lt_succ_self _))
  have I2 := Inv.made (C := C0) I
  have r2 : Vals (V.ref (s.heap.objs.size + 1) :: vs) (Value.ref (s.heap.objs.size + 1) :: us) := .cons rfl r
  have hl : (Value.ref (s.heap.objs.size + 1) :: us).length = ps.length := by
    have e := r2.length
    rw [F.len _ _ _ _ hq] at e
    exact e.symm
  have b := hb _ (Value.ref (s.heap.objs.size + 1) :: us) I2.kIn (by rw [List.append_nil]; exact hl)
  rw [List.append_nil] at b
  refine wpAny_call (make_map (f := f) I.kIn M.makes M.init (beq_iff_eq.mp M.fn) (codeAny_mono (F.run _ X.stack _ _ ⟨Value.ref (s.heap.objs.size + 1) :: us, []⟩ (Value.ref (s.heap.objs.size + 1) :: us) _ _ E (hr.make C0 us [])
    (I2.env0.make C0 us []) b r2 hq) fun r s' hq' => ?_))
  cases r with
  | error e => exact hx pins _ _ e s' I2 hq'
  | ok fl =>
    cases fl with
    | ret u =>
      obtain ⟨v, H', I3, rv, ev, q3⟩ := I2.after hq'
      subst ev
      exact ⟨rv, ⟨V.ref (s.heap.objs.size + 1), H', I3, rfl, q3⟩⟩
    | next => exact False.elim hq'
    | brk => exact False.elim hq'
    | cont => exact False.elim hq'
def tMakeS (C0 : Addr) (sp : Sp) (E : Py.St → XK) (t : TA) : TE := fun σ H Q => t σ H fun vs H1 => ∀ x dx, H1 x = none → H1 dx = none → dx ≠ x →
  sp (.ref x :: vs) (upd (upd H1 dx (.own x)) x (.ins C0 dx [])) (fun v H2 => v = .non ∧ Q (.ref x) H2) (E σ)
theorem pe_makeS {E : Py.St → XK} (M : Mk X.K C0 f) (F : FnOk X.prog X.w X.K X.mg X.base CX0' n f fd ps sp) (hr : Room (n + 1) X.A) (hg : Gl X x) (hm : X.mg x = some (.ref C0)) (hb : Binds X.K fd ps []) (hx : ∀ σ, PassesAt CX0' X σ (E σ))
    (ha : PA X (e :: es) t) (hdb : (x == ("__debug__" : Str)) = false := by decide) (he : starEach (e :: es) X.env = (false, eval e X.env) :: starEach es X.env := by rfl) (hpl : (backTo pos (starEach es X.env)).any (·.1) = false := by rfl) :
    PE X (.Call (.Name x p) (e :: es) [] pos) (tMakeS C0 sp E t) := by
  refine ⟨fun pins s σ H Q I h => ?_⟩
  refine wpAny_Call_Name_kw (ld_glob I hg hm ?_ hdb)
  refine PySem.W.callWith_K (h₀ := X.base) I.ok.mod.kin M.kp (thn (ha.run pos pins s σ H _ I h) fun us s1 ⟨vs, H1, I1, r, q⟩ => ⟨I1.kIn, ?_⟩) he hpl
  exact run_makeS M F hr hb (hx σ) I1 r q
theorem pe_makeS0 {E : Py.St → XK} (M : Mk X.K C0 f) (F : FnOk X.prog X.w X.K X.mg X.base CX0' n f fd ps sp) (hr : Room (n + 1) X.A) (hg : Gl X x) (hm : X.mg x = some (.ref C0)) (hb : Binds X.K fd ps []) (hx : ∀ σ, PassesAt CX0' X σ (E σ))
    (hdb : (x == ("__debug__" : Str)) = false := by decide) : PE X (.Call (.Name x p) [] [] pos) (tMakeS C0 sp E tNil) := by
  refine ⟨fun pins s σ H Q I h => ?_⟩
  refine wpAny_Call_Name_kw (ld_glob I hg hm ?_ hdb)
  exact PySem.W.callWith_K0 I.kIn M.kp (run_makeS (us := []) M F hr hb (hx σ) I .nil h)
end

/-! ### an object of one's own -/
abbrev Fld := List (Str × Ent)
def FldOk (K : PySem.W.Frag) (F : Hp) (a : Str × V) (b : Str × Ent) : Prop := a.1 = b.1 ∧ b.2.rp K F a.2
theorem FldOk.mono {K F F' a b} (x : Ex F F') (h : FldOk K F a b) : FldOk K F' a b := ⟨h.1, Ent.mono x h.2⟩
theorem fld_lookup {K F} {vs : List (Str × V)} {fs : Fld} (h : Pr (FldOk K F) vs fs) {f : Str} {y : Ent} (hf : fs.lookup f = some y) : ∃ v, vs.lookup f = some v ∧ y.rp K F v := by
  induction h with
  | nil => cases hf
  | @cons a b _ _ h t ih =>
    obtain ⟨g, v⟩ := a
    obtain ⟨g', y'⟩ := b
    obtain ⟨h1, h2⟩ := h
    have h1 : g = g' := h1
    subst h1
    rw [List.lookup_cons] at hf ⊢
    cases q : (f == g) with
    | true => rw [q] at hf; cases hf; exact ⟨v, rfl, h2⟩
    | false => rw [q] at hf; exact ih hf
theorem fld_none {K F} {vs : List (Str × V)} {fs : Fld} (h : Pr (FldOk K F) vs fs) {f : Str} (hf : fs.lookup f = none) : vs.lookup f = none := by
  induction h with
  | nil => rfl
  | @cons a b _ _ h t ih =>
    obtain ⟨g, v⟩ := a
    obtain ⟨g', y'⟩ := b
    have h1 : g = g' := h.1
    subst h1
    rw [List.lookup_cons] at hf ⊢
    cases q : (f == g) with
    | true => rw [q] at hf; cases hf
    | false => rw [q] at hf; exact ih hf
def putE (f : Str) (y : Ent) : Fld → Fld
  | [] => [(f, y)]
  | (g, x) :: r => if g = f then (g, y) :: r else (g, x) :: putE f y r
theorem fld_put {K F} {vs : List (Str × V)} {fs : Fld} (h : Pr (FldOk K F) vs fs) {f : Str} {y : Ent} {v : V} (hv : y.rp K F v) : Pr (FldOk K F) (putF f v vs) (putE f y fs) := by
  induction h with
  | nil => exact .cons ⟨rfl, hv⟩ .nil
  | @cons a b _ _ h t ih =>
    obtain ⟨g, w⟩ := a
    obtain ⟨g', y'⟩ := b
    have h1 : g = g' := h.1
    subst h1
    unfold putF putE
    by_cases q : g = f
    · rw [if_pos q, if_pos q]; exact .cons ⟨rfl, hv⟩ t
    · rw [if_neg q, if_neg q]; exact .cons h ih
def Cell.obj (p C0 dx : Addr) (fs : Fld) : Cell := ⟨[p, dx], fun K F H => ∃ vs, H p = some (.ins C0 dx vs) ∧ H dx = some (.own p) ∧ Pr (FldOk K F) vs fs, fun x h ⟨vs, h1, h2, h3⟩ => ⟨vs, by rw [h p List.mem_cons_self]; exact h1, by rw [h dx (List.mem_cons_of_mem _ List.mem_cons_self)]; exact h2, h3.imp fun _ _ => FldOk.mono x⟩,
  fun ⟨vs, h1, h2, _⟩ a ha => by
    rcases List.mem_cons.mp ha with rfl | ha
    · exact ⟨_, h1⟩
    · rw [List.mem_singleton.mp ha]; exact ⟨_, h2⟩⟩

section
variable {K : PySem.W.Frag} {R F H H' : Hp} {L : List Cell}
theorem Own.cells (o : Own K R F H L) {c : Cell} {u : Hp} (hu : ∀ a, a ∉ c.ad → u a = H a) (hnew : ∀ a ∈ c.ad, H a = none) (hnd : c.ad.Nodup) (ok : c.ok K F u) : Own K R F u (c :: L) := by
  have hc : ∀ d ∈ L, ∀ a ∈ d.ad, a ∉ c.ad := fun d hd a ha h => by
    obtain ⟨v, hv⟩ := d.th (o.ok d hd) a ha
    rw [hnew a h] at hv; cases hv
  refine ⟨fun a v q => ?_, fun a v q => ?_, o.fr, fun d hd => ?_, ?_, fun d hd a hda => ?_, fun d hd a hda => ?_⟩
  · rw [hu a fun h => by rw [Ex.free o.fH (hnew a h)] at q; cases q]; exact o.fH a v q
  · rw [hu a fun h => by rw [Ex.free o.rH (hnew a h)] at q; cases q]; exact o.rH a v q
  · rcases List.mem_cons.mp hd with rfl | hd
    · exact ok
    · exact d.mono (Ex.rf F) (fun a ha => hu a (hc d hd a ha)) (o.ok d hd)
  · rw [List.flatMap_cons]
    refine List.nodup_append.mpr ⟨hnd, o.nd, fun a ha b hb e => ?_⟩
    subst e
    obtain ⟨d, hd, hda⟩ := List.mem_flatMap.mp hb
    exact hc d hd a hda ha
  · rcases List.mem_cons.mp hd with rfl | hd
    · exact Ex.free o.fH (hnew a hda)
    · exact o.nf d hd a hda
  · rcases List.mem_cons.mp hd with rfl | hd
    · exact Ex.free o.rH (hnew a hda)
    · exact o.nr d hd a hda
theorem Own.made (o : Own K R F H L) {x dx C0 : Addr} (h1 : H x = none) (h2 : H dx = none) (h3 : dx ≠ x) : Own K R F (upd (upd H dx (.own x)) x (.ins C0 dx [])) (Cell.obj x C0 dx [] :: L) := by
  refine o.cells (fun a ha => ?_) (fun a ha => ?_) (by show List.Nodup [x, dx]; simp; exact fun e => h3 e.symm) ⟨[], upd_same, by rw [upd_ne h3, upd_same], .nil⟩
  · have e1 : a ≠ x := fun e => ha (by rw [e]; exact List.mem_cons_self)
    have e2 : a ≠ dx := fun e => ha (by rw [e]; exact List.mem_cons_of_mem _ List.mem_cons_self)
    rw [upd_ne e1, upd_ne e2]
  · rcases List.mem_cons.mp ha with rfl | ha
    · exact h1
    · rw [List.mem_singleton.mp ha]; exact h2
end

section
variable {C : Cz} {k j n : Nat} {env env' env2 env3 : Env} {L LR : List Cell} {e a b c o tg iter elt lo hi : Expr} {es ifs : List Expr} {r r1 r2 r3 : Ent} {rs : List Ent} {pos p p2 apos cpos : Pos} {Q : Po} {st : Stmt} {rest body : List Stmt} {x f m : Str} {C0 : Addr}
/-- C(e, ..) -/
theorem EM_make.{u} {δ : Type u} {arg : δ → List Ent} {pre : δ → Prop} {post : Addr → Addr → δ → Ent → List Cell → Prop} {exc : Addr → Addr → δ → Value → Option Addr → List Cell → Prop} (d : δ) (ok : C.Ok k)
    (M : Mks C.X.prog C.X.w C.X.K C.X.mg C.X.base j C0 x (spM (γ := Addr × Addr × δ) C.X.K (fun g => ⟨(At.mk g.1)⟩ :: arg g.2.2) (fun g => [Cell.obj g.1 C0 g.2.1 []]) (fun g => pre g.2.2) (fun g => post g.1 g.2.1 g.2.2) (fun g => exc g.1 g.2.1 g.2.2)))
    (hpo : ∀ p dx d r L', post p dx d r L' → r = ⟨()⟩) (ha : A C env L (e :: es) (arg d)) (hp : pre d) (hj : j + 1 ≤ k := by decide) (hg : Gl C.X x := by rfl)
    (hdb : (x == ("__debug__" : Str)) = false := by decide) (he : starEach (e :: es) C.X.env = (false, eval e C.X.env) :: starEach es C.X.env := by rfl) (hpl : (backTo pos (starEach es C.X.env)).any (·.1) = false := by rfl) :
    EM C env L (.Call (.Name x p) (e :: es) [] pos) (fun r L' => ∃ p dx L1, r = ⟨(At.mk p)⟩ ∧ post p dx d ⟨()⟩ L1 ∧ L' = L1 ++ L) (fun cls dd L' => ∃ p dx L1, exc p dx d cls dd L1 ∧ L' = L1 ++ L) := by
  obtain ⟨f, fd, ps, hM, hm, hb, F⟩ := M.h
  refine ⟨PE.imp (pe_makeS hM F (ok.room.mono hj) hg hm hb (fun σ => passAt ok.tk σ) ha.p hdb he hpl) fun σ H Q ⟨F0, s, q1, q2⟩ => ⟨F0, s, fun vs F1 H1 x1 s1 rv xx dx h1 h2 h3 => ?_⟩⟩
  have o := s1.ow.made (C0 := C0) h1 h2 h3
  have s2 : Sta C F1 env (Cell.obj xx C0 dx [] :: L) σ (upd (upd H1 dx (.own xx)) xx (.ins C0 dx [])) := ⟨s1.sl, o⟩
  refine of_sp1 (C := C) (env := env) (LR := L) (xx, dx, d) hp (List.Perm.refl _) s2 (.cons (show Ent.rp ⟨(At.mk xx)⟩ _ _ _ from rfl) rv) (fun v r L' F' H' hpost x2 s' rr => ?_) (fun cls dd L' F' H' hx x2 s' => q2 cls dd _ F' H' ⟨xx, dx, L', hx, rfl⟩ (x1.f.tr x2) s')
  have hr := hpo _ _ _ _ _ hpost
  subst hr
  exact ⟨rr, q1 (.ref xx) _ _ F' H' ⟨xx, dx, L', rfl, hpost, rfl⟩ (x1.f.tr x2) s' rfl⟩
theorem EM_make0.{u} {δ : Type u} {pre : δ → Prop} {post : Addr → Addr → δ → Ent → List Cell → Prop} {exc : Addr → Addr → δ → Value → Option Addr → List Cell → Prop} (d : δ) (ok : C.Ok k)
    (M : Mks C.X.prog C.X.w C.X.K C.X.mg C.X.base j C0 x (spM (γ := Addr × Addr × δ) C.X.K (fun g => [⟨(At.mk g.1)⟩]) (fun g => [Cell.obj g.1 C0 g.2.1 []]) (fun g => pre g.2.2) (fun g => post g.1 g.2.1 g.2.2) (fun g => exc g.1 g.2.1 g.2.2)))
    (hpo : ∀ p dx d r L', post p dx d r L' → r = ⟨()⟩) (hp : pre d) (hj : j + 1 ≤ k := by decide) (hg : Gl C.X x := by rfl)
    (hdb : (x == ("__debug__" : Str)) = false := by decide) :
    EM C env L (.Call (.Name x p) [] [] pos) (fun r L' => ∃ p dx L1, r = ⟨(At.mk p)⟩ ∧ post p dx d ⟨()⟩ L1 ∧ L' = L1 ++ L) (fun cls dd L' => ∃ p dx L1, exc p dx d cls dd L1 ∧ L' = L1 ++ L) := by
  obtain ⟨f, fd, ps, hM, hm, hb, F⟩ := M.h
  refine ⟨PE.imp (pe_makeS0 hM F (ok.room.mono hj) hg hm hb (fun σ => passAt ok.tk σ) hdb) fun σ H1 Q ⟨F1, s1, q1, q2⟩ => ?_⟩
  show ∀ xx dx, _ → _ → _ → _
  intro xx dx h1 h2 h3
  have o := s1.ow.made (C0 := C0) h1 h2 h3
  have s2 : Sta C F1 env (Cell.obj xx C0 dx [] :: L) σ (upd (upd H1 dx (.own xx)) xx (.ins C0 dx [])) := ⟨s1.sl, o⟩
  refine of_sp1 (C := C) (env := env) (LR := L) (xx, dx, d) hp (List.Perm.refl _) s2 (.cons (show Ent.rp ⟨(At.mk xx)⟩ _ _ _ from rfl) .nil) (fun v r L' F' H' hpost x2 s' rr => ?_) (fun cls dd L' F' H' hx x2 s' => q2 cls dd _ F' H' ⟨xx, dx, L', hx, rfl⟩ x2 s')
  have hr := hpo _ _ _ _ _ hpost
  subst hr
  exact ⟨rr, q1 (.ref xx) _ _ F' H' ⟨xx, dx, L', rfl, hpost, rfl⟩ x2 s' rfl⟩
/-- o.f, o frozen -/
theorem E_fld {α β : Type} [Rep α] [Rep β] {t : α} {y : β} (cl : Cls C.X.K C0) (na : NoAttr C.X.K C0 f) (h : ∀ F v, Rep.rp C.X.K F v t → ∃ p dx fs w, v = .ref p ∧ F p = some (.ins C0 dx fs) ∧ fs.lookup f = some w ∧ Rep.rp C.X.K F w y) (he : E C env L e ⟨t⟩) (hb : attributeBase e f C.X.env (eval e C.X.env) = eval e C.X.env := by rfl) : E C env L (.Attribute e f pos) ⟨y⟩ :=
  ⟨PE.imp (pe_fld he.p hb) fun σ H Q ⟨F, s, q⟩ => ⟨F, s, fun v F1 H1 x1 s1 rv => by
    obtain ⟨p, dx, fs, w, rfl, h1, h2, h3⟩ := h F1 v rv
    exact ⟨p, C0, dx, fs, w, rfl, s1.ow.fH _ _ h1, cl, na, h2, q w F1 H1 x1 s1 h3⟩⟩⟩
/-- o.f, o one's own -/
theorem E_fldO {q dx : Addr} {fs : Fld} {y : Ent} (cl : Cls C.X.K C0) (na : NoAttr C.X.K C0 f) (he : E C env L e ⟨(At.mk q)⟩) (hL : Cell.obj q C0 dx fs ∈ L) (hf : fs.lookup f = some y) (hb : attributeBase e f C.X.env (eval e C.X.env) = eval e C.X.env := by rfl) : E C env L (.Attribute e f pos) y :=
  ⟨PE.imp (pe_fld he.p hb) fun σ H Q ⟨F, s, qq⟩ => ⟨F, s, fun v F1 H1 x1 s1 rv => by
    have rv : v = V.ref q := rv
    subst rv
    obtain ⟨vs, h1, h2, h3⟩ := s1.ow.ok _ hL
    obtain ⟨w, h4, h5⟩ := fld_lookup h3 hf
    exact ⟨q, C0, dx, vs, w, rfl, h1, cl, na, h4, qq w F1 H1 x1 s1 h5⟩⟩⟩
/-- o.f = e -/
theorem S_fld {q dx : Addr} {fs : Fld} {y : Ent} (kk : Nat) (cl : Cls C.X.K C0) (na : NoAttr C.X.K C0 f) (ho : E C env L o ⟨(At.mk q)⟩) (he : E C env L e y) (hL : L[kk]? = some (Cell.obj q C0 dx fs)) (hk : S C env (L.set kk (Cell.obj q C0 dx (putE f y fs))) rest Q) (hz : fs.length < 1000 := by decide)
    (hs : swapsWith e (some (.Attribute o f p)) pos.line C.X.env = pure false := by rfl) : S C env L (.Assign [.Attribute o f p] e pos :: rest) Q :=
  S_cons ⟨PS.imp (ps_fld ho.p he.p hs) fun D σ H ⟨F, s, n⟩ => ⟨F, s, fun v F1 H1 x1 s1 rv => ⟨F1, s1, fun w F2 H2 x2 s2 rw' => by
    have rw' : w = V.ref q := rw'
    subst rw'
    obtain ⟨vs, h1, h2, h3⟩ := s2.ow.ok _ (List.mem_of_getElem? hL)
    have hne : dx ≠ q := fun e => by
      subst e
      rw [h1] at h2; cases h2
    refine ⟨q, C0, dx, vs, rfl, h1, cl, na, by rw [h3.length]; exact hz, n.nx env _ σ F2 _ hk (x1.f.tr x2.f) ⟨s2.sl, s2.ow.put hL rfl (fun b hb => upd_ne fun z => hb (by rw [z]; exact List.mem_cons_self)) ⟨_, upd_same, by rw [upd_ne hne]; exact h2, fld_put h3 (Ent.mono x2.f rv)⟩⟩⟩⟩⟩⟩
/-- a cell is frozen, and its name's datum is read anew -/
theorem S_frzG {c : Cell} {r0 r1 : Ent} (i kk : Nat) (hi : env[i]? = some (some r0)) (hL : L[kk]? = some c) (hc : ∀ F H F' v, c.ok C.X.K F H → Ex F F' → (∀ a ∈ c.ad, F' a = H a) → r0.rp C.X.K F v → r1.rp C.X.K F' v) (hk : S C (env.set i (some r1)) (L.eraseIdx kk) rest Q) : S C env L rest Q := by
  refine ⟨PSs.imp hk.p fun D σ H ⟨F, s, n⟩ => ?_⟩
  have hp : L.Perm (c :: L.eraseIdx kk) := by
    obtain ⟨hlt, he⟩ := List.getElem?_eq_some_iff.mp hL
    have e : L = L.take kk ++ c :: L.drop (kk + 1) := by rw [← he]; simp
    rw [List.eraseIdx_eq_take_drop_succ]
    conv => lhs; rw [e]
    exact List.perm_middle
  obtain ⟨x, o, hj⟩ := (s.ow.perm hp.symm).freeze
  obtain ⟨v, hv, rv⟩ := s.sl.get hi
  have sl := (s.sl.mono x).put (e := r1) (v := v) (hc F H _ v (s.ow.ok _ (List.mem_of_getElem? hL)) x hj rv) i
  have e : σ.set i (some v) = σ := by
    obtain ⟨hlt, he⟩ := List.getElem?_eq_some_iff.mp hv
    rw [← he]; exact List.set_getElem_self hlt
  rw [e] at sl
  exact ⟨_, ⟨sl, o⟩, n.mono x⟩
/-- an expression whose result is a new object, frozen at once -/
theorem EM_frz {c : Addr → Cell} {y : Ent} {PX} (h : EM C env L e (fun r L' => ∃ q, r = ⟨(At.mk q)⟩ ∧ L' = c q :: L) PX) (hc : ∀ q F H F', (c q).ok C.X.K F H → Ex F F' → (∀ a ∈ (c q).ad, F' a = H a) → y.rp C.X.K F' (.ref q)) : EM C env L e (fun r L' => r = y ∧ L' = L) PX :=
  ⟨PE.imp h.p fun σ H Q ⟨F, s, q1, q2⟩ => ⟨F, s, fun v r L' F' H' hr x s' rv => by
    obtain ⟨q, rfl, rfl⟩ := hr
    have rv : v = V.ref q := rv
    subst rv
    obtain ⟨x2, o, hj⟩ := s'.ow.freeze
    exact q1 (.ref q) y L _ H' ⟨rfl, rfl⟩ (x.tr x2) ⟨s'.sl.mono x2, o⟩ (hc q F' H' _ (s'.ow.ok _ List.mem_cons_self) x2 hj), q2⟩⟩

/-! own operators, by values -/
theorem cmp_own.{u} {X : Cx} {γ : Type u} {arg : γ → List Ent} {pre : γ → Prop} {res : γ → Ent} {op : CmpOp} (g : γ) (hr : Room k X.A) (M : Ms X.prog X.w X.K X.mg X.base n C0 m (spF X.K arg pre res)) (ha : arg g = [r1, r2]) (hp : pre g) (i1 : IsI X.K r1 C0) (i2 : IsI X.K r2 C0) (ho : ∀ u v, compareOp op u v = richCompare op u v := by intro _ _; rfl) (hm : (PySem.cmpInfo op).2.1 = m := by rfl) (hj : n ≤ k := by decide) : Cmp X op r1 r2 (res g) :=
  ⟨⟨_, op_cmpO ho hm hr M hj, fun F H v1 v2 Q e h1 h2 q => by
    obtain ⟨a, dx, fs, rfl, g1⟩ := i1 F v1 h1
    obtain ⟨b, dy, gs, rfl, g2⟩ := i2 F v2 h2
    exact ⟨a, dx, fs, b, dy, gs, rfl, rfl, e _ _ g1, e _ _ g2, of_spF g hp e (by rw [ha]; exact .cons h1 (.cons h2 .nil)) q⟩⟩⟩
theorem bin_own.{u} {X : Cx} {γ : Type u} {arg : γ → List Ent} {pre : γ → Prop} {res : γ → Ent} {op : Operator} (g : γ) (hr : Room k X.A) (hc : PySem.W.selfFirst X.K C0 = true) (M : Ms X.prog X.w X.K X.mg X.base n C0 m (spF X.K arg pre res)) (ha : arg g = [r1, r2]) (hp : pre g) (i1 : IsI X.K r1 C0) (i2 : IsI X.K r2 C0) (hm : PySem.dunder op.info.2 = m := by rfl) (hj : n ≤ k := by decide) : Bin X op r1 r2 (res g) :=
  ⟨⟨_, op_binO hm hr hc M hj, fun F H v1 v2 Q e h1 h2 q => by
    obtain ⟨a, dx, fs, rfl, g1⟩ := i1 F v1 h1
    obtain ⟨b, dy, gs, rfl, g2⟩ := i2 F v2 h2
    exact ⟨a, dx, fs, b, dy, gs, rfl, rfl, e _ _ g1, e _ _ g2, of_spF g hp e (by rw [ha]; exact .cons h1 (.cons h2 .nil)) q⟩⟩⟩
theorem pr_one {K F} {v : V} {r : Ent} (h : Pr (fun v r => Ent.rp r K F v) [v] [r]) : r.rp K F v := by cases h; assumption
theorem one_of {K F} {vs : List V} {r : Ent} (h : Pr (fun v r => Ent.rp r K F v) vs [r]) : ∃ v, vs = [v] ∧ r.rp K F v := by
  cases h with
  | cons h t => cases t; exact ⟨_, rfl, h⟩
theorem cal_lenO.{u} {X : Cx} {γ : Type u} {arg : γ → List Ent} {pre : γ → Prop} {res : γ → Int} (g : γ) (hr : Room k X.A) (M : Ms X.prog X.w X.K X.mg X.base n C0 "__len__" (spF X.K arg pre (fun g => ⟨res g⟩))) (ha : arg g = [r1]) (hp : pre g) (i1 : IsI X.K r1 C0) (hb : 0 ≤ res g ∧ res g < 2 ^ 63) (hj : n + 1 ≤ k := by decide) : Cal X "len" [r1] ⟨res g⟩ :=
  ⟨⟨_, _, call_lenO hr M hj, boot_len, Or.inl ⟨_, rfl⟩, fun F H vs Q e rv q => by
    obtain ⟨v, rfl, h1⟩ := one_of rv
    obtain ⟨a, dx, fs, rfl, g1⟩ := i1 F v h1
    exact ⟨a, dx, fs, rfl, e _ _ g1, of_spF g hp e (by rw [ha]; exact .cons h1 .nil) fun v F' H' gg rr => ⟨res g, rr, hb.1, hb.2, q _ F' H' gg rfl⟩⟩⟩⟩
theorem cal_strO.{u} {X : Cx} {γ : Type u} {arg : γ → List Ent} {pre : γ → Prop} {res : γ → Str} (g : γ) (hr : Room k X.A) (M : Ms X.prog X.w X.K X.mg X.base n C0 "__str__" (spF X.K arg pre (fun g => ⟨res g⟩))) (ha : arg g = [r1]) (hp : pre g) (i1 : IsI X.K r1 C0) (hj : n + 2 ≤ k := by decide) : Cal X "str" [r1] ⟨res g⟩ :=
  ⟨⟨_, _, call_strO hr M hj, boot_str, Or.inr ⟨_, rfl⟩, fun F H vs Q e rv q => by
    obtain ⟨v, rfl, h1⟩ := one_of rv
    obtain ⟨a, dx, fs, rfl, g1⟩ := i1 F v h1
    exact ⟨a, dx, fs, rfl, e _ _ g1, of_spF g hp e (by rw [ha]; exact .cons h1 .nil) fun v F' H' gg rr => ⟨res g, rr.1, q _ F' H' gg ⟨rfl, rr.2⟩⟩⟩⟩⟩
theorem E_ixO.{u} {γ : Type u} {arg : γ → List Ent} {pre : γ → Prop} {res : γ → Ent} (g : γ) (ok : C.Ok k) (M : Ms C.X.prog C.X.w C.X.K C.X.mg C.X.base n C0 "__getitem__" (spF C.X.K arg pre res)) (hg : arg g = [r1, r2]) (hp : pre g) (i1 : IsI C.X.K r1 C0) (ha : E C env L a r1) (hb : E C env L b r2) (hj : n + 1 ≤ k := by decide)
    (hs : ∀ x i, subscripted b true (.ref x) i = runValue (.builtin "lifetime.subscript" ⟨[.ref x, i], []⟩) := by intro _ _; with_unfolding_all rfl) : E C env L (.Subscript a b pos) (res g) :=
  ⟨PE.imp (pe_ixO ok.room M hj ha.p hb.p hs) fun σ H Q ⟨F, s, q⟩ => ⟨F, s, fun v F1 H1 x1 s1 rv => ⟨F1, s1, fun w F2 H2 x2 s2 rw' => by
    obtain ⟨aa, dx, fs, rfl, g1⟩ := i1 F1 v rv
    exact ⟨aa, dx, fs, rfl, s2.ow.fH _ _ (x2.f _ _ g1), of_spF g hp s2.ow.fH (by rw [hg]; exact .cons (Ent.mono x2.f rv) (.cons rw' .nil)) fun v F' H' gg rr => q v F' H' ((x1.tr x2).tr gg.w) (s2.gro gg) rr⟩⟩⟩⟩
theorem sok_signs {z : Str} (hz : SOk z) : ∀ y ∈ signs z, SOk y := fun y hy => by
  unfold signs at hy
  obtain ⟨c, hc, rfl⟩ := List.mem_map.mp hy
  obtain ⟨i, hi⟩ := List.getElem?_of_mem hc
  exact sok_sign hz hi
/-- list(s), s a text -/
theorem cal_listS {X : Cx} {z : Str} (hc : X.calm = true) : Cal X "list" [⟨z⟩] ⟨signs z⟩ := ⟨⟨_, _, call_listS hc, boot_listx, Or.inr ⟨_, rfl⟩, fun F H vs Q e rv q => by
  obtain ⟨v, rfl, rfl, hz⟩ := one_arg rv
  exact ⟨z, rfl, hz.le, fun l hn => q _ _ _ (Gro.new e hn) ⟨l, _, rfl, upd_same, Pr.ofStrs _ (sok_signs hz), by unfold signs; rw [List.length_map, Array.length_toList]; exact hz.le⟩⟩⟩⟩
end
end Py

namespace Py
open PySem PySem.Spec PyProof.Rows L2

/-- a built-in type as a value -/
structure TyN where
  n : String
instance : Rep TyN := ⟨fun _ _ v a => v = .ty a.n, fun _ h => h⟩
section
variable {C : Cz} {k j n : Nat} {env env' env2 env3 : Env} {L LR : List Cell} {e a b c o tg iter elt lo hi : Expr} {es ifs : List Expr} {r r1 r2 r3 : Ent} {rs : List Ent} {pos p p2 apos cpos : Pos} {Q : Po} {st : Stmt} {rest body : List Stmt} {x f m : Str} {C0 : Addr}
/-! names of the module -/
theorem E_glo {q : Addr} (hm : C.X.mg x = some (.ref q)) (hg : Gl C.X x := by rfl) (hd : (x == ("__debug__" : Str)) = false := by decide) : E C env L (.Name x p) ⟨(At.mk q)⟩ :=
  ⟨PE.imp (pe_glob (v := .ref q) hg hm rfl hd) fun σ H Q ⟨F, s, q⟩ => q _ F H (Gw.rf F H) s rfl⟩
theorem E_gloI {i : Int} {t : Tok} (hm : C.X.mg x = some (.int i t)) (hg : Gl C.X x := by rfl) (hd : (x == ("__debug__" : Str)) = false := by decide) : E C env L (.Name x p) ⟨i⟩ :=
  ⟨PE.imp (pe_glob (v := .int i) hg hm ⟨t, rfl⟩ hd) fun σ H Q ⟨F, s, q⟩ => q _ F H (Gw.rf F H) s rfl⟩
theorem E_gloS {i : Str} {t : Tok} (hm : C.X.mg x = some (.str i t)) (hz : SOk i := by exact ⟨by decide, by decide +kernel⟩) (hg : Gl C.X x := by rfl) (hd : (x == ("__debug__" : Str)) = false := by decide) : E C env L (.Name x p) ⟨i⟩ :=
  ⟨PE.imp (pe_glob (v := .str i) hg hm ⟨t, rfl⟩ hd) fun σ H Q ⟨F, s, q⟩ => q _ F H (Gw.rf F H) s ⟨rfl, hz⟩⟩
/-- a written tuple of texts -/
theorem E_gloT {q : Addr} {ss : List Str} (hm : C.X.mg x = some (.ref q)) (ht : ∀ H, SqT C.X.K H q (ss.map V.str)) (hz : ∀ z ∈ ss, SOk z) (hl : ss.length ≤ sizeLine := by decide) (hg : Gl C.X x := by rfl) (hd : (x == ("__debug__" : Str)) = false := by decide) : E C env L (.Name x p) ⟨(Tup.mk ss)⟩ :=
  ⟨PE.imp (pe_glob (v := .ref q) hg hm rfl hd) fun σ H Q ⟨F, s, qq⟩ => qq _ F H (Gw.rf F H) s ⟨q, _, rfl, ht F, Pr.ofStrs ss hz, hl⟩⟩
theorem E_ty {T : String} (hv : bootBuiltins x = some (.type T)) (hm : C.X.mg x = none) (hg : Gl C.X x := by rfl) (hn : x ≠ "__name__" := by decide) (hd : (x == ("__debug__" : Str)) = false := by decide) : E C env L (.Name x p) ⟨(TyN.mk T)⟩ :=
  ⟨PE.imp (pe_bltn (v := .ty T) hg hm hv rfl hn hd) fun σ H Q ⟨F, s, q⟩ => q _ F H (Gw.rf F H) s rfl⟩
end
theorem E_cval {C : Cz} {env : Env} {L : List Cell} {e : Expr} {f : Str} {pos : Pos} {C0 : Addr} {mc : Value} {i : Int} {u : Value} (cr : ClX.CRead C.X.K C0 mc) (cv : ClX.CVal C.X.K C0 mc f (.int i) u) (he : E C env L e ⟨(At.mk C0)⟩) (hb : attributeBase e f C.X.env (eval e C.X.env) = eval e C.X.env := by rfl) : E C env L (.Attribute e f pos) ⟨i⟩ :=
  ⟨PE.imp (ClX.pe_cval he.p hb) fun σ H Q ⟨F, s, q⟩ => ⟨F, s, fun v F1 H1 x1 s1 rv => ⟨C0, mc, .int i, u, rv, cr, cv, q _ F1 H1 x1 s1 rfl⟩⟩⟩
/-! ### isinstance -/
class TyE (α : Type) [Rep α] (t : outParam String) : Prop where
  ty : ∀ K F H v (a : α), Ex F H → Rep.rp K F v a → TyX K H v (.type t)
instance : TyE Int "int" := ⟨fun K F H v a e h => by rw [show v = V.int a from h]; exact .base (.int a)⟩
instance : TyE Bool "bool" := ⟨fun K F H v a e h => by rw [show v = V.bl a from h]; exact .base (.bl a)⟩
instance : TyE Str "str" := ⟨fun K F H v a e h => by rw [show v = V.str a from h.1]; exact .base (.str a)⟩
instance : TyE Unit "NoneType" := ⟨fun K F H v a e h => by rw [show v = V.non from h]; exact .base .non⟩
instance {α : Type} [Rep α] : TyE (List α) "list" := ⟨fun K F H v a e h => by obtain ⟨p, vs, rfl, h1, _⟩ := h; exact .base (.lst (e _ _ h1))⟩
theorem tyT_of {K F H p vs} (e : Ex F H) (h : SqT K F p vs) : TyX K H (.ref p) (.type "tuple") := by
  rcases h with (h | ⟨o, h⟩) | ⟨o, its, n, h1, h2, h3⟩
  · exact .base (.tup (e _ _ h))
  · exact .fTuple (e _ _ h)
  · exact .kTuple h1 h2
instance {α β : Type} [Rep α] [Rep β] : TyE (P2 α β) "tuple" := ⟨fun K F H v a e h => by obtain ⟨p, x, y, rfl, h1, _⟩ := h; exact tyT_of e h1⟩
instance {α β γ : Type} [Rep α] [Rep β] [Rep γ] : TyE (P3 α β γ) "tuple" := ⟨fun K F H v a e h => by obtain ⟨p, x, y, z, rfl, h1, _⟩ := h; exact tyT_of e h1⟩
instance {α : Type} [Rep α] : TyE (Tup α) "tuple" := ⟨fun K F H v a e h => by obtain ⟨p, vs, rfl, h1, _⟩ := h; exact tyT_of e h1⟩
theorem boot_isinst : bootBuiltins "isinstance" = some (.builtin "isinstance") := by decide +kernel
theorem cal_isi {X : Cx} {α : Type} [Rep α] {t : String} [TyE α t] {x : α} {T : String} {bo : Bool} (hk : kitB t T = some bo) : Cal X "isinstance" [⟨x⟩, ⟨(TyN.mk T)⟩] ⟨bo⟩ :=
  ⟨⟨_, _, call_isi, boot_isinst, Or.inl ⟨_, rfl⟩, fun F H vs Q e rv q => by
    obtain ⟨v, w, rfl, h1, h2⟩ := two_arg rv
    have h2 : w = V.ty T := h2
    subst h2
    exact ⟨v, _, _, _, bo, rfl, .ty T, TyE.ty _ F H v x e h1, kit_ty hk, q _ F H (Gro.rf e) rfl⟩⟩⟩
/-- an instance of the class itself -/
theorem cal_isC {X : Cx} {r : Ent} {C0 : Addr} (c : C8.InsC X.K C0) (i1 : IsI X.K r C0) : Cal X "isinstance" [r, ⟨(At.mk C0)⟩] ⟨true⟩ :=
  ⟨⟨_, _, C8.call_isC c, boot_isinst, Or.inl ⟨_, rfl⟩, fun F H vs Q e rv q => by
    cases rv with
    | cons h1 t =>
      cases t with
      | cons h2 t =>
      cases t
      obtain ⟨a, dx, fs, rfl, g1⟩ := i1 F _ h1
      have h2 : _ = V.ref C0 := h2
      subst h2
      exact ⟨a, dx, fs, rfl, e _ _ g1, q _ F H (Gro.rf e) rfl⟩⟩⟩
/-! ### x in ..: flat things -/
theorem all_flatI (ns : List Int) : (ns.map V.int).all flatV = true := by simp [flatV]
theorem all_flatS (ns : List Str) : (ns.map V.str).all flatV = true := by simp [flatV]
theorem inV_int (i : Int) (ns : List Int) : inV (.int i) (ns.map V.int) = decide (i ∈ ns) := by
  unfold inV
  rw [List.any_map]
  induction ns with
  | nil => simp
  | cons a t ih =>
    rw [List.any_cons, ih]
    simp only [Function.comp, eqV, List.mem_cons]
    by_cases h : a = i
    · simp [h]
    · have h2 : ¬ i = a := fun e => h e.symm
      simp [h, h2]
theorem inV_str (i : Str) (ns : List Str) : inV (.str i) (ns.map V.str) = decide (i ∈ ns) := by
  unfold inV
  rw [List.any_map]
  induction ns with
  | nil => simp
  | cons a t ih =>
    rw [List.any_cons, ih]
    simp only [Function.comp, eqV, List.mem_cons]
    by_cases h : a = i
    · simp [h]
    · have h2 : ¬ i = a := fun e => h e.symm
      simp [h, h2]
theorem cmp_inST {X : Cx} {i : Str} {ns : List Str} : Cmp X .In ⟨i⟩ ⟨(Tup.mk ns)⟩ ⟨decide (i ∈ ns)⟩ := ⟨⟨_, op_in_seq, fun F H v1 v2 Q e h1 h2 q => by
  obtain ⟨p, vs, rfl, g1, g2, _⟩ := h2
  have g2 := Pr.strs g2
  subst g2
  refine ⟨p, _, rfl, Or.inr (ex_t e g1), by rw [show v1 = V.str i from h1.1]; rfl, all_flatS ns, q _ F H (Gro.rf e) ?_⟩
  rw [show v1 = V.str i from h1.1, inV_str]; rfl⟩⟩
theorem cmp_ninST {X : Cx} {i : Str} {ns : List Str} : Cmp X .NotIn ⟨i⟩ ⟨(Tup.mk ns)⟩ ⟨!decide (i ∈ ns)⟩ := ⟨⟨_, op_notIn_seq, fun F H v1 v2 Q e h1 h2 q => by
  obtain ⟨p, vs, rfl, g1, g2, _⟩ := h2
  have g2 := Pr.strs g2
  subst g2
  refine ⟨p, _, rfl, Or.inr (ex_t e g1), by rw [show v1 = V.str i from h1.1]; rfl, all_flatS ns, q _ F H (Gro.rf e) ?_⟩
  rw [show v1 = V.str i from h1.1, inV_str]; rfl⟩⟩

/-! ### errors -/
/-- what the text says of an own class of errors over ValueError without an __init__ of its own -/
structure ExcT (K : PySem.W.Frag) (mg : Str → Option Value) (x : Str) (C0 : Addr) : Prop where
  g : mg x = some (.ref C0)
  ex : PySem.W.excIn K C0 He.veBase "ValueError.__new__" = true
  kp : PySem.W.keepIn K (.ref C0) = true
  sb : PySem.W.subIn K (.ref C0) (.type "BaseException") = some true
  ty : PySem.W.typeIn K (.ref C0) = some (.type "type")
section
variable {C : Cz} {k j n : Nat} {env env' env2 env3 : Env} {L LR : List Cell} {e a b c o tg iter elt lo hi : Expr} {es ifs : List Expr} {r r1 r2 r3 : Ent} {rs : List Ent} {pos p p2 apos cpos : Pos} {Q : Po} {st : Stmt} {rest body : List Stmt} {x y f m : Str} {C0 : Addr}
theorem S_raise {jj} {pos3 : Pos} (ok : C.Ok k) (T : ExcT C.X.K C.X.mg x C0) (h : Q.ex (.ref C0) none env L) (hg : Gl C.X x := by rfl) (hdb : (x == ("__debug__" : Str)) = false := by decide) : S C env L (.Raise (some (.Call (.Name x p) [.Constant (.str y) jj p2] [] pos)) none pos3 :: rest) Q :=
  S_stop ⟨PS.imp (ps_raise ok.calm ok.tk (pmk_own PySem.F.excBase_ValueError T.ex T.g T.kp (raises_own T.sb T.ty) hg hdb)) fun D σ H ⟨F, s, n⟩ => n.ex (.ref C0) none env L σ F H h (Ex.rf F) s⟩
/-- the error that a suite holds -/
structure Exn where
  p : Addr
instance : Rep Exn := ⟨fun _ _ v a => v = .ref a.p, fun _ h => h⟩
def Cz.tr (C : Cz) (W : WX) (pn : List (Addr × Obj)) (xe : Value → Shared → Prop) : Cz := ⟨C.X.tr pn xe, C.R, W⟩
def Cz.suite (C : Cz) (a : Addr) (oe : Obj) (pn : List (Addr × Obj)) : Cz := ⟨C.X.suite a ((a, oe) :: pn), C.R, fun _ _ _ _ => False⟩
theorem S_try {nn : Str} {b₀ : Stmt} {suite : List Stmt} {np pos' : Pos} {cv : Value} (i : Nat) (ok : C.Ok k) (PX : Value → Option Addr → Env → List Cell → Prop) (hc : Names C.X x cv)
    (hb : ∀ W pn xe, (C.tr W pn xe).Ok k → S (C.tr W pn xe) env L body { Q with nx := fun e l => S C e l rest Q, ex := PX })
    (hca : ∀ cls d env' L', PX cls d env' L' → ∃ bo, PySem.W.exmOne C.X.K cls cv = some bo ∧ (bo = true → ∀ a oe pn, Zc cls d oe → (∃ vs, oe.data = .fields vs) → S (C.suite a oe pn) (env'.set i (some ⟨(Exn.mk a)⟩)) L' (b₀ :: suite) { nx := fun e l => S C (e.set i none) l rest Q, rt := Q.rt, bk := fun e l => Q.bk (e.set i none) l, ct := fun e l => Q.ct (e.set i none) l }) ∧ (bo = false → Q.ex cls d env' L'))
    (hs : C.X.stack = C.X.env :: C.X.outer := by rfl) (hf : C.X.env.frame = some C.X.env.locals := by rfl) (hi : C.X.N[i]? = some nn := by rfl) (hln : C.X.env.kindOf nn = some .local := by rfl) :
    S C env L (.Try body [.ExceptHandler (some (.Name x np)) (some nn) (b₀ :: suite) pos'] [] [] pos :: rest) Q := by
  refine S_cons ⟨PS.imp (ps_try_as (i := i) (Wout := C.W) (tb := fun W => sS ⟨C.X, C.R, W⟩ env L { Q with nx := fun e l => S C e l rest Q, ex := PX })
    (ts := fun a cls d D σ H => ∃ z : Env × List Cell, (∀ oe pn, Zc cls d oe → (∃ vs, oe.data = .fields vs) → S (C.suite a oe pn) z.1 z.2 (b₀ :: suite) { nx := fun e l => S C (e.set i none) l rest Q, rt := Q.rt, bk := fun e l => Q.bk (e.set i none) l, ct := fun e l => Q.ct (e.set i none) l }) ∧ sS ⟨C.X, C.R, fun _ _ _ _ => False⟩ z.1 z.2 { nx := fun e l => S C (e.set i none) l rest Q, rt := Q.rt, bk := fun e l => Q.bk (e.set i none) l, ct := fun e l => Q.ct (e.set i none) l } D σ H)
    hs hf ok.nd hi hln hc ok.tk (fun W pn xe tk po => (hb W pn xe ⟨tk, po, ok.calm, ok.nd, ok.room⟩).p) (fun a oe cls d pn hz hv => PSs.ex fun z h => (h oe pn hz hv).p)) fun D σ H ⟨F, s, n⟩ => ?_⟩
  refine ⟨F, s, ⟨fun e l σ' F' H' h x s' => n.nx e l σ' F' H' h x s', n.rt, n.bk, n.ct, fun cls d env' L' σ' F' H' h x s' => ?_⟩⟩
  obtain ⟨bo, h1, h2, h3⟩ := hca cls d env' L' h
  refine ⟨bo, h1, fun hbo a ha => ⟨(env'.set i (some ⟨(Exn.mk a)⟩), L'), fun oe pn hz hv => h2 hbo a oe pn hz hv, F', ⟨s'.sl.put (e := ⟨(Exn.mk a)⟩) (v := .ref a) rfl i, s'.ow⟩, ?_⟩, fun hbo => n.ex cls d env' L' σ' F' H' (h3 hbo) x s'⟩
  have w : ∀ {e : Env} {l : List Cell} {σ2 : Py.St} {F2 H2 : Hp}, StaK C.X.K C.R F2 e l σ2 H2 → StaK C.X.K C.R F2 (e.set i none) l (σ2.set i none) H2 := fun s2 => ⟨s2.sl.wipe i none, s2.ow⟩
  exact ⟨fun e l σ2 F2 H2 h x2 s2 => n.nx _ _ _ F2 H2 h (x.tr x2) (w s2), fun r l v F2 H2 h x2 o rr => n.rt r l v F2 H2 h (x.tr x2) o rr, fun e l σ2 F2 H2 h x2 s2 => n.bk _ _ _ F2 H2 h (x.tr x2) (w s2), fun e l σ2 F2 H2 h x2 s2 => n.ct _ _ _ F2 H2 h (x.tr x2) (w s2), fun _ _ _ _ _ _ _ h _ _ => h.elim⟩
/-- isinstance(e, D), e the error that the suite holds -/
theorem E_isE {a0 D0 : Addr} {oe : Obj} {pn : List (Addr × Obj)} {y : V} {cv : Value} {bo : Bool} (T : ExcC C.X.K D0) (hz : Zc (.ref D0) none oe) (hf : ∃ vs, oe.data = .fields vs) (hk : PySem.W.kitOne C.X.K (.ref D0) cv = some bo) (he : E (C.suite a0 oe pn) env L a ⟨(Exn.mk a0)⟩)
    (hc : PE (C.suite a0 oe pn).X b (tC y)) (hy : ∀ u, RelV y u → u = cv) (hm : C.X.mg "isinstance" = none) (hg : Gl (C.suite a0 oe pn).X "isinstance" := by rfl) (hst : starEach [a, b] (C.suite a0 oe pn).X.env = (false, eval a (C.suite a0 oe pn).X.env) :: starEach [b] (C.suite a0 oe pn).X.env := by rfl) (hst2 : starEach [b] (C.suite a0 oe pn).X.env = (false, eval b (C.suite a0 oe pn).X.env) :: starEach [] (C.suite a0 oe pn).X.env := by rfl) (hpl : (backTo pos (starEach [b] (C.suite a0 oe pn).X.env)).any (·.1) = false := by rfl) :
    E (C.suite a0 oe pn) env L (.Call (.Name "isinstance" p) [a, b] [] pos) ⟨bo⟩ := by
  have h := call_isE (X := C.X) (a := a0) (pn := pn) T hz hf
  exact ⟨PE.imp (pe_callB (X := (C.suite a0 oe pn).X) h hg hm boot_isinst (pa_cons he.p (pa_cons hc pa_nil hst2) hst) (by decide) (by decide) hst hpl) fun σ H Q ⟨F, s, q⟩ => ⟨F, s, fun v F1 H1 x1 s1 rv => by
    have rv : v = V.ref a0 := rv
    subst rv
    exact ⟨y, cv, bo, rfl, hy, hk, q _ F1 H1 x1 s1 rfl⟩⟩⟩
end
end Py

namespace Py
open PySem PySem.Spec PyProof.Rows L2

/-! ### == of data -/
class DE (α : Type) [Rep α] [DecidableEq α] where
  d : α → PyData
  n : Nat
  dp : ∀ K F H v a, Ex F H → Rep.rp K F v a → Dp K H v (d a) ∧ (d a).canLay0 = true
  dn : ∀ a, (d a).depth ≤ n
  ev : ∀ a b, PyData.eqv (d a) (d b) = decide (a = b)
instance : DE Int := ⟨.int, 0, fun K F H v a e h => by rw [show v = V.int a from h]; exact ⟨.int a, rfl⟩, fun _ => Nat.le_refl _, fun a b => by simp [PyData.eqv]; rfl⟩
instance : DE Bool := ⟨.bool, 0, fun K F H v a e h => by rw [show v = V.bl a from h]; exact ⟨.bl a, rfl⟩, fun _ => Nat.le_refl _, fun a b => by simp [PyData.eqv]; cases a <;> cases b <;> rfl⟩
theorem strOk_of {a : Str} (h : SOk a) : PyData.strOk a = true := by
  unfold PyData.strOk
  rw [← Array.all_toList]
  exact h.ok
instance : DE Str := ⟨.str, 0, fun K F H v a e h => by rw [show v = V.str a from h.1]; exact ⟨.str a, strOk_of h.2⟩, fun _ => Nat.le_refl _, fun a b => by simp [PyData.eqv]; by_cases h : a = b <;> simp [h]⟩
section
variable {α : Type} [Rep α] [DecidableEq α] [DE α]
theorem dpAll {K F H} (e : Ex F H) : ∀ {vs : List V} {as : List α}, Pr (Rep.rp K F) vs as → DpAll K H vs (as.map DE.d) ∧ PyData.canLayAll0 (as.map DE.d) = true
  | _, _, .nil => ⟨.nil, rfl⟩
  | _, _, .cons h t => by
    obtain ⟨h1, h2⟩ := DE.dp K F H _ _ e h
    obtain ⟨h3, h4⟩ := dpAll e t
    exact ⟨.cons h1 h3, by rw [List.map_cons]; unfold PyData.canLayAll0; rw [h2, h4]; rfl⟩
theorem depAll : ∀ as : List α, PyData.depthAll (as.map DE.d) ≤ DE.n α
  | [] => Nat.zero_le _
  | a :: as => by
    rw [List.map_cons]; unfold PyData.depthAll
    exact Nat.max_le.mpr ⟨DE.dn a, depAll as⟩
theorem evAll : ∀ as bs : List α, PyData.eqvAll (as.map DE.d) (bs.map DE.d) = decide (as = bs)
  | [], [] => by simp [PyData.eqvAll]
  | [], _ :: _ => by simp [PyData.eqvAll]
  | _ :: _, [] => by simp [PyData.eqvAll]
  | a :: as, b :: bs => by
    simp only [List.map_cons, PyData.eqvAll, DE.ev, evAll as bs]
    by_cases h : a = b <;> by_cases h2 : as = bs <;> simp [h, h2]
end
instance {α : Type} [Rep α] [DecidableEq α] [DE α] : DE (List α) := ⟨fun as => .list (as.map DE.d), DE.n α + 1, fun K F H v a e h => by
  obtain ⟨p, vs, rfl, h1, h2, _⟩ := h
  obtain ⟨h3, h4⟩ := dpAll e h2
  exact ⟨.lst (sq_of (e _ _ h1)) h3, by unfold PyData.canLay0; exact h4⟩, fun a => by unfold PyData.depth; exact Nat.succ_le_succ (depAll a), fun a b => by unfold PyData.eqv; exact evAll a b⟩



instance {α : Type} [Rep α] [DecidableEq α] [DE α] : DE (Tup α) := ⟨fun as => .tuple (as.l.map DE.d), DE.n α + 1, fun K F H v a e h => by
  obtain ⟨p, vs, rfl, h1, h2, _⟩ := h
  obtain ⟨h3, h4⟩ := dpAll e h2
  exact ⟨.tup (ex_t e h1) h3, by unfold PyData.canLay0; exact h4⟩, fun a => by unfold PyData.depth; exact Nat.succ_le_succ (depAll a.l), fun a b => by
    unfold PyData.eqv
    rw [evAll]
    by_cases h : a.l = b.l
    · have : a = b := by cases a; cases b; simp at h; rw [h]
      simp [this]
    · have : a ≠ b := fun e => h (by rw [e])
      simp [h, this]⟩
instance {α β : Type} [Rep α] [Rep β] [DecidableEq α] [DecidableEq β] [DE α] [DE β] : DE (P2 α β) := ⟨fun t => .tuple [DE.d t.a, DE.d t.b], max (DE.n α) (DE.n β) + 1, fun K F H v a e h => by
  obtain ⟨p, x, y, rfl, h1, h2, h3⟩ := h
  obtain ⟨g1, g2⟩ := DE.dp K F H _ _ e h2
  obtain ⟨g3, g4⟩ := DE.dp K F H _ _ e h3
  exact ⟨.tup (ex_t e h1) (.cons g1 (.cons g3 .nil)), by simp [PyData.canLay0, PyData.canLayAll0, g2, g4]⟩, fun t => by
    simp only [PyData.depth, PyData.depthAll]
    have := DE.dn t.a
    have := DE.dn t.b
    omega, fun t u => by
    simp only [PyData.eqv, PyData.eqvAll, DE.ev]
    obtain ⟨a, b⟩ := t
    obtain ⟨c, d⟩ := u
    by_cases h : a = c <;> by_cases h2 : b = d <;> simp [h, h2]⟩
instance {α β γ : Type} [Rep α] [Rep β] [Rep γ] [DecidableEq α] [DecidableEq β] [DecidableEq γ] [DE α] [DE β] [DE γ] : DE (P3 α β γ) := ⟨fun t => .tuple [DE.d t.a, DE.d t.b, DE.d t.c], max (DE.n α) (max (DE.n β) (DE.n γ)) + 1, fun K F H v a e h => by
  obtain ⟨p, x, y, z, rfl, h1, h2, h3, h4⟩ := h
  obtain ⟨g1, g2⟩ := DE.dp K F H _ _ e h2
  obtain ⟨g3, g4⟩ := DE.dp K F H _ _ e h3
  obtain ⟨g5, g6⟩ := DE.dp K F H _ _ e h4
  exact ⟨.tup (ex_t e h1) (.cons g1 (.cons g3 (.cons g5 .nil))), by simp [PyData.canLay0, PyData.canLayAll0, g2, g4, g6]⟩, fun t => by
    simp only [PyData.depth, PyData.depthAll]
    have := DE.dn t.a
    have := DE.dn t.b
    have := DE.dn t.c
    omega, fun t u => by
    simp only [PyData.eqv, PyData.eqvAll, DE.ev]
    obtain ⟨a, b, x⟩ := t
    obtain ⟨c, d, y⟩ := u
    by_cases h : a = c <;> by_cases h2 : b = d <;> by_cases h3 : x = y <;> simp [h, h2, h3]⟩
theorem shaped_of {α : Type} [Rep α] [DecidableEq α] [DE α] (hn : DE.n α ≤ 64) {a : α} (h : (DE.d a).canLay0 = true) : SeqAt.shaped (DE.d a) = true := by
  unfold SeqAt.shaped
  rw [h, decide_eq_true (Nat.le_trans (DE.dn a) hn)]; rfl
theorem cmp_eqD {X : Cx} {k : Nat} {α : Type} [Rep α] [DecidableEq α] [DE α] {a b : α} (hr : Room k X.A) (hn : DE.n α ≤ 64 := by decide) : Cmp X .Eq ⟨a⟩ ⟨b⟩ ⟨decide (a = b)⟩ := ⟨⟨_, op_eqD hr.units, fun F H v1 v2 Q e h1 h2 q => by
  obtain ⟨g1, g2⟩ := DE.dp _ F H v1 a e h1
  obtain ⟨g3, g4⟩ := DE.dp _ F H v2 b e h2
  exact ⟨_, _, g1, g3, shaped_of hn g2, shaped_of hn g4, q _ F H (Gro.rf e) (by show V.bl _ = V.bl _; rw [DE.ev])⟩⟩⟩
theorem cmp_neD {X : Cx} {k : Nat} {α : Type} [Rep α] [DecidableEq α] [DE α] {a b : α} (hr : Room k X.A) (hn : DE.n α ≤ 64 := by decide) : Cmp X .NotEq ⟨a⟩ ⟨b⟩ ⟨!decide (a = b)⟩ := ⟨⟨_, op_neD hr.units, fun F H v1 v2 Q e h1 h2 q => by
  obtain ⟨g1, g2⟩ := DE.dp _ F H v1 a e h1
  obtain ⟨g3, g4⟩ := DE.dp _ F H v2 b e h2
  exact ⟨_, _, g1, g3, shaped_of hn g2, shaped_of hn g4, q _ F H (Gro.rf e) (by show V.bl _ = V.bl _; rw [DE.ev])⟩⟩⟩
/-! ### sep.join(xs) -/
def joinS (sep : Str) (ys : List Str) : Str := Str.join sep ys
theorem joinS_len (sep : Str) : ∀ ys : List Str, (joinS sep ys).length ≤ (ys.map (·.length)).sum + ys.length * sep.length
  | [] => Nat.zero_le _
  | [x] => by show x.length ≤ _; simp
  | x :: y :: ys => by
    have ih := joinS_len sep (y :: ys)
    show (x ++ sep ++ joinS sep (y :: ys)).length ≤ _
    rw [str_len_append, str_len_append]
    simp only [List.map_cons, List.sum_cons, List.length_cons] at ih ⊢
    have e : (ys.length + 1 + 1) * sep.length = (ys.length + 1) * sep.length + sep.length := by rw [Nat.succ_mul]
    omega
theorem joinS_ok {sep : Str} (hs : SOk sep) : ∀ {ys : List Str}, (∀ y ∈ ys, SOk y) → (joinS sep ys).cps.toList.all (fun c => decide (c < 0x110000)) = true
  | [], _ => rfl
  | [x], h => (h x List.mem_cons_self).ok
  | x :: y :: ys, h => by
    have ih := joinS_ok hs (ys := y :: ys) fun z hz => h z (List.mem_cons_of_mem _ hz)
    show (x ++ sep ++ joinS sep (y :: ys)).cps.toList.all _ = true
    rw [str_cps_append, str_cps_append, List.all_append, List.all_append, (h x List.mem_cons_self).ok, hs.ok, ih]; rfl
section
variable {C : Cz} {env : Env} {L : List Cell} {e o : Expr} {apos pos : Pos}
theorem E_join {sep : Str} {ys : List Str} (ho : E C env L o ⟨sep⟩) (he : ER C env L e ys) (hz : (ys.map (·.length)).sum + ys.length * sep.length ≤ 16777216) (hs : starEach [e] C.X.env = [(false, eval e C.X.env)] := by rfl) (hbase : attributeBase o "join" C.X.env (eval o C.X.env) = eval o C.X.env := by rfl) (hline : (apos.endLine == pos.line) = true := by rfl) : E C env L (.Call (.Attribute o "join" apos) [e] [] pos) ⟨joinS sep ys⟩ :=
  ⟨PE.imp (pe_join ho.p he.p hs hbase hline) fun σ H Q ⟨F, s, q⟩ => ⟨F, s, fun v F1 H1 x1 s1 rv => by
    refine ⟨⟨sep, rv.1⟩, F1, s1, fun p F2 H2 x2 s2 hr hz2 => ?_⟩
    obtain ⟨vs, hl, pr⟩ := hr F2 H2 (Ex.rf F2) s2.ow
    have e1 := Pr.strs pr
    subst e1
    refine ⟨sep, p, ys, rv.1, rfl, Or.inl hl, hz, q _ F2 H2 (x1.tr x2) s2 ⟨?_, ⟨?_, joinS_ok rv.2 (Pr.strs_le pr)⟩⟩⟩
    · rw [TL.join_eq]; rfl
    · have := joinS_len sep ys
      show (joinS sep ys).length ≤ sizeLine
      rw [sizeLine_eq]; omega⟩⟩
end
end Py

namespace Py
open PySem PySem.Spec PyProof.Rows L2
/-! ### the head: facts by names -/
abbrev AlX : Type := Bool × He.AlD
def obsX (xs : List (PySem.W.Frag → Bool)) (fn : List He.DefD) (K : PySem.W.Frag) : AlX := (xs.all fun f => f K, He.obsD [] fn K)
def valX (fn : List He.DefD) : AlX := (true, He.valD fn)
def SaysX (xs : List (PySem.W.Frag → Bool)) (fn : List He.DefD) (K : PySem.W.Frag) : Prop := obsX xs fn K = valX fn
def obsXG (n : Nat) (xs : List (PySem.W.Frag → Bool)) (fn : List He.DefD) (g : Addr → Option Obj) : AlX := obsX xs fn (He.frG g (PySem.cStatics :: He.asD g n))
def hookX (n : Nat) (xs : List (PySem.W.Frag → Bool)) (fn : List He.DefD) : PySem.W.Hook where
  α := AlX
  obs := fun s => obsXG n xs fn s.heap.get?
  val := fun _ => valX fn
  says := fun _ h => ∃ K : PySem.W.Frag, K.In h ∧ SaysX xs fn K
  of := fun _ _ e => ⟨_, He.frG_in, e⟩
  keeps := fun _ _ _ ⟨K, hK, c⟩ k => ⟨K, PySem.W.Frag.In.keeps hK k, c⟩
theorem obsXG_eq {n : Nat} {xs : List (PySem.W.Frag → Bool)} {fn : List He.DefD} {g : Addr → Option Obj} {s : Shared} (h : ∀ a, g a = s.heap.get? a) : obsXG n xs fn g = (hookX n xs fn).obs s := by
  have e : g = s.heap.get? := funext h
  rw [e] <;> rfl
section
variable {xs : List (PySem.W.Frag → Bool)} {fn : List He.DefD} {K : PySem.W.Frag}
theorem SaysX.chk (c : SaysX xs fn K) (i : Nat) {f : PySem.W.Frag → Bool} (h : xs[i]? = some f := by rfl) : f K = true :=
  List.all_eq_true.mp (show xs.all (fun f => f K) = true from congrArg (fun z : AlX => z.1) c) f (List.mem_of_getElem? h)
theorem SaysX.def_ (c : SaysX xs fn K) (i : Nat) {d : He.DefD} (h : fn[i]? = some d := by rfl) : ∃ fd, FunD K d.name d.qual d.params d.body d.scope (d.dvs K) (d.kws K) (He.fAd K d.at_) fd :=
  He.SaysD.def_ (show He.SaysD [] fn K from congrArg (fun z : AlX => z.2) c) i h
end
/-- a list of facts -/
def faB (fs : List He.Fa) (K : PySem.W.Frag) : Bool := fs.all fun f => f.ok K
theorem faB_at {fs : List He.Fa} {K : PySem.W.Frag} (h : faB fs K = true) (i : Nat) {f : He.Fa} (hi : fs[i]? = some f := by rfl) : f.ok K = true := List.all_eq_true.mp h f (List.mem_of_getElem? hi)
section
variable {K : PySem.W.Frag} {h : Heap} {mg : Str → Option Value}
def insB (x : Str) (K : PySem.W.Frag) : Bool := (He.Fa.cls x).ok K && (He.eqO (PySem.W.findIn K (.ref (He.ga K x)) "__class__") (some (some (.builtin "object.__class__"))) && (He.eqO (PySem.W.specialIn K (.builtin "object.__class__") "__get__") (some (some (.builtin "getset_descriptor.__get__"))) &&
  (decide (PySem.W.takesIn K (.builtin "object.__class__") = some true) && (decide (PySem.W.mroIn K (He.ga K x) (.type "object") = some true) && decide (PySem.W.kitOne K (.ref (He.ga K x)) (.ref (He.ga K x)) = some true)))))
theorem insB_ok {x : Str} (c : insB x K = true) : C8.InsC K (He.ga K x) := by
  obtain ⟨c1, c⟩ := He.ba c
  obtain ⟨c2, c⟩ := He.ba c
  obtain ⟨c3, c⟩ := He.ba c
  obtain ⟨c4, c⟩ := He.ba c
  obtain ⟨c5, c6⟩ := He.ba c
  exact ⟨He.cls_ok c1, He.eqO_ok c2, He.eqO_ok c3, of_decide_eq_true c4, of_decide_eq_true c5, of_decide_eq_true c6⟩
def creadB (x : Str) (K : PySem.W.Frag) : Bool := PySem.W.readsIn K (He.ga K x) (.type "type") && He.eqO (PySem.W.specialIn K (.ref (He.ga K x)) "__getattribute__") (some (some (.builtin "type.__getattribute__")))
theorem creadB_ok {x : Str} (c : creadB x K = true) : ClX.CRead K (He.ga K x) (.type "type") := by
  obtain ⟨c1, c2⟩ := He.ba c
  exact ⟨c1, He.eqO_ok c2⟩
def cvalB (x f : Str) (v : V) (K : PySem.W.Frag) : Bool := match PySem.W.findCls K (.ref (He.ga K x)) (.type "type") f with
  | some (.val u) => He.relB v u
  | _ => false
theorem cvalB_ok {x f : Str} {v : V} (c : cvalB x f v K = true) : ∃ u, ClX.CVal K (He.ga K x) (.type "type") f v u := by
  unfold cvalB at c
  cases e : PySem.W.findCls K (.ref (He.ga K x)) (.type "type") f with
  | none => rw [e] at c; cases c
  | some o =>
    rw [e] at c
    cases o with
    | val u => exact ⟨u, e, He.relB_ok c⟩
    | _ => cases c
def excB (x : Str) : List He.Fa := [.glo x, .exc x]
theorem excT_of (X : K.In h) (G : h.Ns mainGlobals mg) {x : Str} (c1 : (He.Fa.glo x).ok K = true) (c2 : (He.Fa.exc x).ok K = true) : ExcT K mg x (He.ga K x) := by
  obtain ⟨h1, h2, h3, h4⟩ := He.exc_ok c2
  exact ⟨He.glo_ok X G c1, h1, h2, h3, h4⟩
section
variable {P : Program} {w : World} {base : Heap} {k : Nat} {x qual m : Str} {sp : Sp} {fd : FuncData} {ps : List Str} {params : Arguments} {body : List Stmt} {scope : Scope} {f C0 : Addr}
theorem hs_of (F : FunD K x qual params body scope [] [] f fd) (hm : mg m = some (.ref f)) (hb : Binds K fd ps []) (ok : FnOk P w K mg base (L2.CX P w) k f fd ps sp) : Hs P w K mg base k m sp := ⟨f, fd, ps, hm, F.kp, hb, ok⟩
theorem ms_of (M : Meth K C0 m f) (hf : PySem.W.fnIn K f = true) (hb : Binds K fd ps []) (ok : FnOk P w K mg base (L2.CX P w) k f fd ps sp) : Ms P w K mg base k C0 m sp := ⟨f, fd, ps, M, hf, hb, ok⟩
theorem mks_of (M : Mk K C0 f) (hm : mg x = some (.ref C0)) (hb : Binds K fd ps []) (ok : FnOk P w K mg base (L2.CX P w) k f fd ps sp) : Mks P w K mg base k C0 x sp := ⟨f, fd, ps, M, hm, hb, ok⟩
end
/-- a method: found, a def of the text -/
def methB (x m : Str) (K : PySem.W.Frag) : Bool := (He.Fa.meth x m).ok K && PySem.W.fnIn K (He.ma K (He.ga K x) m)
theorem methB_ok {x m : Str} (c : methB x m K = true) : Meth K (He.ga K x) m (He.ma K (He.ga K x) m) ∧ PySem.W.fnIn K (He.ma K (He.ga K x) m) = true := ⟨He.meth_ok (He.ba c).1, (He.ba c).2⟩
/-- the law's own promise -/
def spLaw (K : PySem.W.Frag) : Sp := spF (γ := List Int) K (fun ns => [⟨(Scr.mk ns)⟩]) (fun _ => True) (fun _ => ⟨true⟩)
theorem spLaw_at (H : Hp) (a : Addr) (ns : List Int) (hl : ns.length ≤ 63) (hS : SqL K H a (ns.map V.int)) : spLaw K [.ref a] H (fun v _ => v = .bl true) fun _ _ _ => False := by
  refine of_spF ns trivial (Ex.rf H) (.cons ⟨a, rfl, hS, hl⟩ .nil) fun v F' H' g rv => ?_
  exact rv
end
theorem cx_top {P : Program} {w : World} {H : Hp} {s : Shared} {e : Value} {s' : Shared} (h : L2.CX P w [] H s (fun _ _ _ => False) e s') : False := by
  obtain ⟨_, _, _, _, _, _, _, _, _, _, _, _, h⟩ := h
  exact h
theorem walk_ofX {l : PySem.W.OpenLaw} {k : Nat} {q : Program} {loose : List Str} {XP : (Str → Option Value) → Heap → Prop} {YP : World → Heap → Prop} {d : DefRec} {x : Str}
    (hn : l.most = some 63) (hdf : d.params.defaults = []) (hr : Room k callerA)
    (F : ∀ (w : World) (mg : Str → Option Value) (fa : Addr) (h : Heap), YP w h → h.Ns mainGlobals mg → mg d.name = some (.ref fa) →
      ∃ (K : PySem.W.Frag) (fd : FuncData), K.In h ∧ (∀ (s : Shared) (u : Value), BindsTo s fd ⟨[u], []⟩ [(x, u)]) ∧
        ∀ base : Heap, K.In base → base.Ns mainGlobals mg → FnOk l.prog w K mg base (L2.CX l.prog w) k fa fd [x] (spLaw K)) :
    PySem.W.WalkO q loose XP YP l.row.toRowW d [] (fun f vs => PySem.call f vs) := by
  refine Att.attach_call hn hdf fun w s₀ s₁ mg mb fa o pm cd doc a vs ns G Y ho hd hcd hmg hobj hints hlen hg => ?_
  obtain ⟨K, fd, KX, hb, hF⟩ := F w mg fa _ Y G.T.g hmg
  exact law_call KX G.T.g G.T.b G.T.builtins G.T.nolimit hg hobj hints (Nat.le_trans hlen (by decide)) hr hF hb (fun H hO hS => spLaw_at H a ns hlen hS) fun H e s' => cx_top
end Py

namespace Py
open PySem PySem.Spec PyProof.Rows L2
theorem str_ext {a b : Str} (h : a.cps.toList = b.cps.toList) : a = b := by
  obtain ⟨x⟩ := a
  obtain ⟨y⟩ := b
  have h : x.toList = y.toList := h
  rw [Array.toList_inj.mp h]
theorem str_len (z : Str) : z.length = z.cps.toList.length := (Array.length_toList).symm
/-- z[:j] -/
theorem cutS_to {z : Str} {j : Int} (h0 : 0 ≤ j) (h1 : j ≤ z.length) : (cutS z none (some j)).cps.toList = z.cps.toList.take j.toNat := by
  unfold cutS
  obtain ⟨n, rfl⟩ := Int.eq_ofNat_of_zero_le h0
  rw [HT.sIx_none, HT.sIx_nat]
  simp only [List.drop_zero, Nat.sub_zero, Int.toNat_natCast]
  rw [Nat.min_eq_left (by omega)]
/-- z[i:] -/
theorem cutS_from {z : Str} {i : Int} (h0 : 0 ≤ i) : (cutS z (some i) none).cps.toList = z.cps.toList.drop i.toNat := by
  unfold cutS
  obtain ⟨n, rfl⟩ := Int.eq_ofNat_of_zero_le h0
  rw [HT.sIx_none, HT.sIx_nat, Int.toNat_natCast, str_len]
  simp only
  by_cases h : n ≤ z.cps.toList.length
  · rw [Nat.min_eq_left h, ← List.length_drop, List.take_length]
  · rw [Nat.min_eq_right (by omega), Nat.sub_self, List.take_zero, List.drop_eq_nil_of_le (by omega)]
/-- z[i:j] -/
theorem cutS_mid {z : Str} {i j : Int} (h0 : 0 ≤ i) (h1 : 0 ≤ j) (h2 : j ≤ z.length) : (cutS z (some i) (some j)).cps.toList = (z.cps.toList.take j.toNat).drop i.toNat := by
  unfold cutS
  obtain ⟨n, rfl⟩ := Int.eq_ofNat_of_zero_le h0
  obtain ⟨m, rfl⟩ := Int.eq_ofNat_of_zero_le h1
  rw [HT.sIx_nat, HT.sIx_nat, Int.toNat_natCast, Int.toNat_natCast, str_len] at *
  rw [Nat.min_eq_left (show m ≤ z.cps.toList.length by omega)]
  show (z.cps.toList.drop (min n z.cps.toList.length)).take (m - min n z.cps.toList.length) = _
  by_cases h : n ≤ z.cps.toList.length
  · rw [Nat.min_eq_left h, List.drop_take]
  · rw [Nat.min_eq_right (by omega), List.drop_eq_nil_of_le (Nat.le_refl _), List.take_nil, List.drop_eq_nil_of_le]
    rw [List.length_take]; omega
theorem atS {z : Str} {i : Int} (h0 : 0 ≤ i) (h : i < z.length) : atI z.cps.toList i = some (z.cps.toList.getD i.toNat 0) := by
  have hi : i.toNat < z.cps.toList.length := by rw [← str_len]; omega
  exact atI_nat' h0 (by rw [List.getD_eq_getElem?_getD, List.getElem?_eq_getElem hi]; rfl)
end Py

namespace Py
open PySem PySem.Spec PyProof.Rows L2
section
variable {C : Cz} {k j n : Nat} {env env' env2 env3 : Env} {L LR : List Cell} {e a b c o tg iter elt lo hi : Expr} {r r1 r2 r3 : Ent} {P P' : Ent → List Cell → Prop} {PX PX' : Value → Option Addr → List Cell → Prop}
theorem EM.imp (h : EM C env L e P PX) (h1 : ∀ r L', P r L' → P' r L') (h2 : ∀ c d L', PX c d L' → PX' c d L') : EM C env L e P' PX' := ⟨PE.imp h.p fun σ H Q ⟨F, s, q1, q2⟩ => ⟨F, s, fun v r L' F' H' hp => q1 v r L' F' H' (h1 _ _ hp), fun c d L' F' H' hp => q2 c d L' F' H' (h2 _ _ _ hp)⟩⟩
/-- cells are forgotten where an error flies -/
theorem EM.dropX (h : EM C env L e P PX) (h2 : ∀ c d L', PX c d L' → ∃ L1 L2, L' = L1 ++ L2 ∧ PX' c d L2) : EM C env L e P PX' := ⟨PE.imp h.p fun σ H Q ⟨F, s, q1, q2⟩ => ⟨F, s, q1, fun c d L' F' H' hp x s' => by
  obtain ⟨L1, L2, rfl, hp2⟩ := h2 c d L' hp
  exact q2 c d L2 F' H' hp2 x ⟨s'.sl, s'.ow.sub⟩⟩⟩
/-- .. and where it ends -/
theorem EM.dropP (h : EM C env L e P PX) (h2 : ∀ r L', P r L' → ∃ L1 L2, L' = L1 ++ L2 ∧ P' r L2) : EM C env L e P' PX := ⟨PE.imp h.p fun σ H Q ⟨F, s, q1, q2⟩ => ⟨F, s, fun v r L' F' H' hp x s' rv => by
  obtain ⟨L1, L2, rfl, hp2⟩ := h2 r L' hp
  exact q1 v r L2 F' H' hp2 x ⟨s'.sl, s'.ow.sub⟩ rv, q2⟩⟩
theorem EM_frzO {ι : Type} {pre : ι → Prop} {c : Addr → ι → Cell} {y : Ent} (h : EM C env L e (fun r L' => ∃ q i, r = ⟨(At.mk q)⟩ ∧ pre i ∧ L' = c q i :: L) PX) (hc : ∀ q i, pre i → ∀ F H F', (c q i).ok C.X.K F H → Ex F F' → (∀ a ∈ (c q i).ad, F' a = H a) → y.rp C.X.K F' (.ref q)) : EM C env L e (fun r L' => (∃ i, pre i) ∧ r = y ∧ L' = L) PX :=
  ⟨PE.imp h.p fun σ H Q ⟨F, s, q1, q2⟩ => ⟨F, s, fun v r L' F' H' hr x s' rv => by
    obtain ⟨q, i, rfl, hi, rfl⟩ := hr
    have rv : v = V.ref q := rv
    subst rv
    obtain ⟨x2, o, hj⟩ := s'.ow.freeze
    exact q1 (.ref q) y L _ H' ⟨⟨i, hi⟩, rfl, rfl⟩ (x.tr x2) ⟨s'.sl.mono x2, o⟩ (hc q i hi F' H' _ (s'.ow.ok _ List.mem_cons_self) x2 hj), q2⟩⟩
end
end Py

namespace Py
open PySem PySem.Spec PyProof.Rows L2
/-! ### own iterators: __iter__ gives a list's iterator -/
/-- a promise that may look at the size of the heap at the entry -/
structure FnN (P : Program) (w : World) (K : PySem.W.Frag) (mg : Str → Option Value) (base : Heap) (C0 : CXT) (k : Nat) (f : Addr) (fd : FuncData) (ps : List Str) (sp : Nat → Sp) : Prop where
  len : ∀ n vs H Q E, sp n vs H Q E → vs.length = ps.length
  run : ∀ (A : Around) (outer : List PySem.Env) (s : Shared) (H : Hp) (args : Args) (us : List Value) (vs : List V) (Q : VK) (E : XK), Room k A → Env0 P w K mg base A outer s H → BindsTo s fd args (ps.zip us) → Vals vs us → sp s.heap.objs.size vs H Q E →
    codeAny (model P w) A (.call (.ref f) args) (CR C0 outer P w H s Q E) s
section
variable {P : Program} {w : World} {K : PySem.W.Frag} {mg : Str → Option Value} {base : Heap} {x qual : Str} {params : Arguments} {body : List Stmt} {scope : Scope} {dvs : List V} {kws : List (Str × V)} {f : Addr} {fd : FuncData} {C0 : CXT} {N ps : List Str} {k : Nat} {sp : Nat → Sp}
theorem FnN.of (F : FunD K x qual params body scope dvs kws f fd) (Sc : FnScope N ps scope) (hlen : ∀ n vs H Q E, sp n vs H Q E → vs.length = ps.length)
    (hbody : ∀ (cdv : Value) (A : Around) (outer : List PySem.Env) (s : Shared) (H : Hp) (vs : List V) (Q : VK) (E : XK), Room k (A.deeper (envOfC qual scope s.heap.objs.size f cdv)) → sp s.heap.objs.size vs H Q E →
      ∃ t, PSs (cxOf C0 P w K mg base N qual scope f cdv A outer s H E) body t ∧ t { nx := fun _ H' => Q .non H', rt := Q } (L2.start N vs) H) : FnN P w K mg base C0 (k + 1) f fd ps sp := by
  obtain ⟨oc, od, dV, kV, doc, pm, an, cdv, ct, osl, rfl, look, hcode, _, _⟩ := F.ex
  constructor
  · exact hlen
  intro A outer s H args us vs Q E room e0 bind rv hsp
  have len := hlen _ _ _ _ _ hsp
  have inS : ∀ b o, base.get? b = some o → s.heap.get? b = some o := fun b o e => (e0.bs b o e).1
  have KS : K.In s.heap := e0.mod.kin.keeps inS
  have noL : s.heap.NoLimit := e0.mod.nolimit.keeps inS
  have kinds : ∀ y ∈ ps.zip us, scope.names.lookup y.1 = some .local ∨ (scope.names.lookup y.1 = some .cell ∧ ((cellsFrom (s.heap.objs.size + 1) scope.names []).lookup y.1).isSome = true) := by
    rintro ⟨a, v⟩ hy
    exact (Sc.par a (List.of_mem_zip hy).1).elim Or.inl fun q => Or.inr ⟨q, PySem.W.cellsFrom_some _ _ _ (.inl q)⟩
  refine codeAny_call_function room.depth (KS _ _ look) rfl Sc.co Sc.gen rfl (PySem.W.codeRec_of KS hcode) (bind _ _ _ _ ?_)
  refine wpAny_newFunctionEnv_cells Sc.kind kinds ?_
  rintro env rfl s1 made
  obtain ⟨t, ht, hq⟩ := hbody cdv A outer s H vs Q E (room.deeper _) hsp
  have I := inv_start Sc room.hd e0 len rv made (CX := C0) (E := E) (qual := qual) (f := f) (cd := cdv)
  refine ⟨noL.keeps made.toInCall.keep, codeAny_func (wpAny_mono (ht.run [] s1 (L2.start N vs) H _ I hq) ?_ fun e s' hs => hs)⟩
  intro fl s' hs
  cases fl with
  | ret u =>
    obtain ⟨v, σ', H', J, rv', q⟩ := hs
    exact ⟨v, H', J.os, J.bare, J.base, J.hok, rv', q⟩
  | next =>
    obtain ⟨σ', H', J, q⟩ := hs
    exact ⟨V.non, H', J.os, J.bare, J.base, J.hok, rfl, q⟩
  | brk =>
    obtain ⟨_, _, _, q⟩ := hs
    exact q.elim
  | cont =>
    obtain ⟨_, _, _, q⟩ := hs
    exact q.elim
end
def spIt.{u} {γ : Type u} {β : Type} [Rep β] (K : PySem.W.Frag) (arg : γ → Ent) (cel : γ → List Cell) (pre : γ → Prop) (res : γ → List β) (n : Nat) : Sp := fun vs H Q E => ∃ g R F, pre g ∧ Own K R F H (cel g) ∧ Pr (fun v r => Ent.rp r K F v) vs [arg g] ∧
  ∀ it p us F' H', n ≤ it → H' it = none → Ex F F' → Own K R F' H' (cel g) → F' p = some (.lst us) → Pr (Rep.rp K F') us (res g) → (res g).length ≤ sizeLine → Q (.ref it) (upd H' it (ItO p it 0))
/-- the class's __iter__ -/
structure Mi (P : Program) (w : World) (K : PySem.W.Frag) (mg : Str → Option Value) (base : Heap) (k : Nat) (C0 : Addr) (sp : Nat → Sp) : Prop where
  h : ∃ f fd ps, Meth K C0 "__iter__" f ∧ Binds K fd ps [] ∧ FnN P w K mg base (L2.CX P w) k f fd ps sp
theorem boot_iterx : bootBuiltins "iter" = some (.builtin "iter") := by first | rfl | decide +kernel
theorem fn_it.{u} {γ : Type u} {β : Type} [Rep β] {P : Program} {w : World} {K : PySem.W.Frag} {mg : Str → Option Value} {base : Heap} {x qual : Str} {params : Arguments} {body : List Stmt} {scope : Scope} {dvs : List V} {kws : List (Str × V)} {f : Addr} {fd : FuncData} {N ps : List Str} {k : Nat} {arg : γ → Ent} {cel : γ → List Cell} {pre : γ → Prop} {res : γ → List β}
    (F : FunD K x qual params body scope dvs kws f fd) (Sc : FnScope N ps scope) (hlen : ps.length = 1) (hm : mg "iter" = none)
    (h : ∀ g, pre g → ∀ cdv A outer s H Ex0 R, let C : Cz := ⟨cxOf (L2.CX P w) P w K mg base N qual scope f cdv A outer s H Ex0, R, fun cls d _ H => Ex0 cls d H⟩
      C.Ok k → ∃ p e pos pos2, body = [.Return (some (.Call (.Name "iter" p) [e] [] pos)) pos2] ∧ Gl C.X "iter" ∧ starEach [e] C.X.env = (false, eval e C.X.env) :: starEach [] C.X.env ∧ (backTo pos (starEach [] C.X.env)).any (·.1) = false ∧ E C (startE N [arg g]) (cel g) e ⟨res g⟩) : FnN P w K mg base (L2.CX P w) (k + 1) f fd ps (spIt K arg cel pre res) := by
  refine FnN.of F Sc (fun n vs H Q E ⟨g, R, F0, _, _, rv, _⟩ => by rw [rv.length, hlen]; rfl) fun cdv A outer s H vs Q E0 hr ⟨g, R, F0, hp, o, rv, q⟩ => ?_
  obtain ⟨p, e, pos, pos2, rfl, hg, hst, hpl, he⟩ := h g hp cdv A outer s H E0 R ⟨takes_of rfl rfl rfl rfl, passes_of rfl, rfl, Sc.nd, hr⟩
  refine ⟨_, pss_one (ps_ret (pe_callU ItX.call_iterN (Or.inl ⟨_, rfl⟩) hg hm boot_iterx (A_cons he A_nil hst).p (by decide) (by decide) hst hpl)), ?_⟩
  refine ⟨F0, ⟨start_slots rv, o⟩, fun us F1 H1 x1 s1 rr => ?_⟩
  obtain ⟨v, rfl, r2⟩ := one_of rr
  have rr : Rep.rp K F1 v (res g) := r2
  obtain ⟨l, ws, rfl, h1, h2, h3⟩ := rr
  exact ⟨l, ws, rfl, sq_of (s1.ow.fH _ _ h1), fun it hit hn => q it l ws F1 H1 hn hit x1.f s1.ow h1 h2 h3⟩
theorem mi_of {P : Program} {w : World} {K : PySem.W.Frag} {mg : Str → Option Value} {base : Heap} {k : Nat} {C0 f : Addr} {fd : FuncData} {ps : List Str} {sp : Nat → Sp} (M : Meth K C0 "__iter__" f) (hb : Binds K fd ps []) (ok : FnN P w K mg base (L2.CX P w) k f fd ps sp) : Mi P w K mg base k C0 sp := ⟨f, fd, ps, M, hb, ok⟩
section
variable {X : Cx} {A1 : Around} {CX0' : CXT} {k n : Nat} {f C0 : Addr} {fd : FuncData} {ps : List Str} {sp : Nat → Sp} {E : XK} {pins : List (Addr × Obj)} {σ : Py.St} {H : Hp} {s : Shared} {Q : VK} {us : List Value} {vs : List V}
theorem run_subN (F : FnN X.prog X.w X.K X.mg X.base (L2.CX X.prog X.w) n f fd ps sp) (sb : Sub X n A1) (hb : Binds X.K fd ps []) (I : L2.Inv X pins σ H s) (r : Vals vs us) (h : sp s.heap.objs.size vs H Q (fun _ _ _ => False)) (E : Value → Shared → Prop) :
    wpAny (model X.prog X.w) A1 (call (.ref f) us) (EP X pins σ Q) E s := by
  have e := I.env0
  have e0 : Env0 X.prog X.w X.K X.mg X.base A1 X.stack s H := ⟨by rw [sb.fr]; exact e.frames, e.mod, e.bs, e.bsz, e.funs, e.frf, e.hok, e.bare⟩
  have b := hb s us I.kIn (by rw [List.append_nil, ← r.length]; exact F.len _ _ _ _ _ h)
  rw [List.append_nil] at b
  refine wpAny_call (codeAny_mono (F.run A1 X.stack s H ⟨us, []⟩ us vs Q _ sb.room e0 b r h) ?_)
  intro r s' hq
  cases r with
  | error e =>
    obtain ⟨_, _, _, _, _, _, _, _, _, _, _, _, z⟩ := hq
    exact z.elim
  | ok fl =>
    cases fl with
    | ret u => exact I.after hq
    | next => exact hq.elim
    | brk => exact hq.elim
    | cont => exact hq.elim
end
end Py

namespace Py
open PySem PySem.Spec PyProof.Rows L2
section
variable {C : Cz} {k n j : Nat} {env : Env} {L LR : List Cell} {e tg : Expr} {C0 : Addr} {r : Ent}
/-- own iteration at the machine's level: pyIter of an instance -/
theorem iter_own.{u} {X : Cx} {γ : Type u} {β : Type} [Rep β] {arg : γ → Ent} {cel : γ → List Cell} {pre : γ → Prop} {res : γ → List β} {A1 : Around} {pins : List (Addr × Obj)} {σ σ2 : Py.St} {R F H : Hp} {s : Shared} {L : List Cell} {env : Env} {a dx : Addr} {fs : List (Str × V)} {Q : Value → Shared → Prop} {Ee : Value → Shared → Prop}
    (M : Mi X.prog X.w X.K X.mg X.base n C0 (spIt X.K arg cel pre res)) (sb : Sub X n A1) (g : γ) (hp : pre g) (hL : L.Perm (cel g ++ LR)) (I : L2.Inv X pins σ H s) (st : StaK X.K R F env L σ2 H) (ha : H a = some (.ins C0 dx fs)) (rv : (arg g).rp X.K F (.ref a))
    (h : ∀ it p us F' H' s', s.heap.objs.size ≤ it → L2.Inv X pins σ H' s' → (∀ b ∈ [it], FpOk X pins H' b) → s'.heap.IsListIter it p 0 → Ex F F' → StaK X.K R F' env L σ2 H' → F' p = some (.lst us) → Pr (Rep.rp X.K F') us (res g) → (res g).length ≤ sizeLine → Q (.ref it) s') :
    wpAny (model X.prog X.w) A1 (pyIter (.ref a)) Q Ee s := by
  obtain ⟨f, fd, ps, hM, hB, FN⟩ := M.h
  obtain ⟨ox, od, J, _⟩ := inst_at I ha
  obtain ⟨m', hF⟩ := I.fr
  refine PySem.W.owit_iter hF I.ok.mod.kin J hM.at_ hM.fn ?_
  have o1 := st.ow.perm hL.symm
  have o2 := o1.call
  refine wpAny_mono (run_subN FN sb hB I (show Vals [V.ref a] [Value.ref a] from .cons rfl .nil) (Q := fun v H2 => ∃ it p us F' H', s.heap.objs.size ≤ it ∧ H' it = none ∧ v = .ref it ∧ H2 = upd H' it (ItO p it 0) ∧ Ex F F' ∧ StaK X.K R F' env L σ2 H' ∧ F' p = some (.lst us) ∧ Pr (Rep.rp X.K F') us (res g) ∧ (res g).length ≤ sizeLine) ⟨g, frame H F (cel g), F, hp, o2, .cons rv .nil, ?_⟩ Ee) (fun u s' z => ?_) fun _ _ z => z
  · intro it p us F' H' hn hit x o3 h1 h2 h3
    have o4 := o1.back o3 x
    exact ⟨it, p, us, F', H', hn, hit, rfl, rfl, x, ⟨st.sl.mono x, o4.perm hL⟩, h1, h2, h3⟩
  · obtain ⟨v, H2, I2, rv2, it, p, us, F', H', hn, hit, rfl, rfl, x, s2, h1, h2, h3⟩ := z
    cases rv2
    have eo := itO_get I2 upd_same
    have hty : s'.TypeIs (.ref it) "list_iterator" := ⟨_, eo, rfl⟩
    refine wpAny_specialOf (name := Str.ofString "__next__") hty slot_listiter_next.lookup ?_
    have dr := ItX.inv_drop I2 (φ := fun h => h.get? it = some (GNX.itObj p 0)) upd_same
    have fp := ItX.inv_fp I2 upd_same (Nat.le_trans I.sz hn)
    rw [ItX.dropH_upd hit] at dr fp
    refine h it p us F' H' s' hn dr (fun b hb => ?_) ⟨_, eo, rfl, rfl⟩ x s2 h1 h2 h3
    rw [List.mem_singleton.mp hb]
    exact fp
/-- an instance whose object is seen -/
def Seen (C : Cz) (L : List Cell) (r : Ent) (C0 : Addr) : Prop := ∀ R F H v, Own C.X.K R F H L → r.rp C.X.K F v → ∃ p dx fs, v = .ref p ∧ H p = some (.ins C0 dx fs)
theorem Seen.of (h : IsI C.X.K r C0) : Seen C L r C0 := fun _ F H v o rv => by
  obtain ⟨p, dx, fs, rfl, h1⟩ := h F v rv
  exact ⟨p, dx, fs, rfl, o.fH _ _ h1⟩
theorem Seen.obj {q dx : Addr} {fs : Fld} (h : Cell.obj q C0 dx fs ∈ L) : Seen C L ⟨(At.mk q)⟩ C0 := fun _ F H v o rv => by
  have rv : v = V.ref q := rv
  obtain ⟨vs, h1, _⟩ := o.ok _ h
  exact ⟨q, dx, vs, rv, h1⟩
theorem srv_it {X : Cx} {β : Type} [Rep β] {p : Addr} {F1 : Hp} {us : List V} {as : List β} (h2 : F1 p = some (.lst us)) (h3 : Pr (Rep.rp X.K F1) us as) : Srv X.K (ItX.ItlF X.K p 0) F1 as := by
  refine ⟨fun i F2 H2 hi x2 x3 => ?_, fun i F2 H2 hi x2 x3 => ?_⟩
  · have hv : i < us.length := by rw [h3.length]; exact hi
    have hz : (0 : Nat) + i = i := Nat.zero_add i
    refine ⟨⟨us, us[i], sq_of (x3 _ _ (x2 _ _ h2)), by rw [hz]; exact List.getElem?_eq_getElem hv⟩, fun y H3 ⟨e1, e2⟩ => ?_⟩
    subst e1
    have e3 := e2 us (sq_of (x3 _ _ (x2 _ _ h2)))
    rw [hz] at e3
    obtain ⟨a, h5, h6⟩ := h3.getL e3
    exact ⟨F2, Gro.rf x3, a, h5, Rep.mono x2 h6⟩
  · exact ⟨us, sq_of (x3 _ _ (x2 _ _ h2)), by rw [h3.length, Nat.zero_add]; exact hi⟩
/-- for x in o, o of an own class -/
theorem EI_own.{u} {γ : Type u} {β : Type} [Rep β] {arg : γ → Ent} {cel : γ → List Cell} {pre : γ → Prop} {res : γ → List β} (g : γ) (ok : C.Ok k) (M : Mi C.X.prog C.X.w C.X.K C.X.mg C.X.base n C0 (spIt C.X.K arg cel pre res)) (he : E C env L e (arg g)) (hp : pre g) (hL : L.Perm (cel g ++ LR)) (hs : Seen C L (arg g) C0) (hj : n ≤ k := by decide) : EI C env L tg e (res g) := by
  refine ⟨⟨fun pins s σ H Rr I ⟨F, st, q⟩ => ?_⟩⟩
  refine wpAny_mono (he.p.run pins s σ H (fun v H1 => ∃ F1, Gw F H F1 H1 ∧ Sta C F1 env L σ H1 ∧ (arg g).rp C.X.K F1 v) I ⟨F, st, fun v F1 H1 x1 s1 rv => ⟨F1, x1, s1, rv⟩⟩) (fun u s1 z => ?_) fun _ _ z => z
  obtain ⟨v, H1, I1, rv1, F1, x1, st1, rv⟩ := z
  obtain ⟨a, dx, fs, rfl, ha⟩   := hs _ F1 H1 v st1.ow rv
  cases rv1
  refine iter_own M (Sub.here ok.room hj) g hp hL I1 st1 ha rv fun it p us F2 H2 s2 hn I2 fp hi x2 st2 h1 h2 h3 => ?_
  refine ⟨it, [it], _, ItX.ItlF C.X.K p 0, H2, rfl, I2, ItX.turn_listF p it 0, hi, fp, ?_⟩
  refine q _ F2 H2 ⟨x1.f.tr x2⟩ st2 (srv_it h1 h2) h3
end
end Py

namespace Py
open PySem PySem.Spec PyProof.Rows L2
/-- a promise about cells that are lent -/
abbrev spB.{u} {γ : Type u} (K : PySem.W.Frag) (arg : γ → List Ent) (cel : γ → List Cell) (pre : γ → Prop) (res : γ → Ent) : Sp := spM K arg cel pre (fun g r L' => r = res g ∧ L' = cel g) (fun _ _ _ _ => False)
theorem not_long {n : Nat} (h : n ≤ sizeLine) : Builtin.List.listTooLong n = false := by
  unfold Builtin.List.listTooLong
  exact decide_eq_false (Nat.not_lt.mpr h)
section
variable {X : Cx} {A1 : Around} {C0 f a dx : Addr} {fd : FuncData} {ps : List Str} {sp : Sp} {ox : Obj} {od : Option Obj} {s : Shared} {n k : Nat} {pins : List (Addr × Obj)} {σ : Py.St} {H : Hp} {Qv : VK} {us : List Value} {vs : List V}
theorem run_sub0 (F : FnOk X.prog X.w X.K X.mg X.base (L2.CX X.prog X.w) n f fd ps sp) (sb : Sub X n A1) (hb : Binds X.K fd ps []) (I : L2.Inv X pins σ H s) (r : Vals vs us) (h : sp vs H Qv (fun _ _ _ => False)) (E : Value → Shared → Prop) :
    wpAny (model X.prog X.w) A1 (call (.ref f) us) (EP X pins σ Qv) E s := by
  have e := I.env0
  have e0 : Env0 X.prog X.w X.K X.mg X.base A1 X.stack s H := ⟨by rw [sb.fr]; exact e.frames, e.mod, e.bs, e.bsz, e.funs, e.frf, e.hok, e.bare⟩
  have b := hb s us I.kIn (by rw [List.append_nil, ← r.length]; exact F.len _ _ _ _ h)
  rw [List.append_nil] at b
  refine wpAny_call (codeAny_mono (F.run A1 X.stack s H ⟨us, []⟩ us vs Qv _ sb.room e0 b r h) ?_)
  intro q s' hq
  cases q with
  | error e =>
    obtain ⟨_, _, _, _, _, _, _, _, _, _, _, _, z⟩ := hq
    exact z.elim
  | ok fl =>
    cases fl with
    | ret u => exact I.after hq
    | next => exact hq.elim
    | brk => exact hq.elim
    | cont => exact hq.elim
/-- what list() asks of an own length -/
theorem hint_own {Q : Bool → Shared → Prop} {E : Value → Shared → Prop} (hK : X.K.In s.heap) (J : PySem.W.InstAt s.heap a ox C0 od) (hl : PySem.W.findIn X.K (.ref C0) "__len__" = some (some (.ref f)))
    (h : wpAny (model X.prog X.w) A1 (call (.builtin "len") [.ref a]) (fun u s' => ∃ (m : Nat) (t : Tok), u = .int m t ∧ m ≤ sizeLine ∧ ∀ b, Q b s') (fun _ _ => False) s) : wpAny (model X.prog X.w) A1 (Builtin.List.listLengthHint (.ref a)) Q E s := by
  unfold Builtin.List.listLengthHint
  refine wpAny_bind (wpAny_bind (J.type.here ((PySem.W.looks_findIn hK hl).here ?_)))
  refine PySem.W.KFB.if_not rfl ?_
  refine wpAny_ite_split (fun _ => ?_) (fun z => absurd rfl z)
  refine wpAny_bind (wpAny_rule (wpAny_bind (wpAny_attempt (wpAny_mono h ?_ fun _ _ z => z.elim))))
  rintro u s' ⟨m, t, rfl, hm, hq⟩
  refine wpAny_bind (wpAny_pure ?_)
  show wpAny _ _ (if Builtin.List.listTooLong ((m : Int)).toNat = true then _ else _) _ _ _
  rw [Int.toNat_natCast, not_long hm]
  exact wpAny_pure (hq _)
/-- a list's iterator fills the list at q -/
theorem it_loop {Rs : Result → Shared → Prop} {R F : Hp} {β : Type} {L : List Cell} {env : Env} {it p q : Addr} {ws : List V} (hh : A1.in1.handled = none) (hq : R q = none) (hz : ws.length ≤ sizeLine) (h1 : F p = some (.lst ws))
    (hd : ∀ s', L2.Inv X pins σ (upd H q (.lst ws)) s' → Rs (.ok (.ret .none)) s') : ∀ (m i : Nat) (s : Shared), m = ws.length - i → i ≤ ws.length → L2.Inv X pins σ (upd H q (.lst (ws.take i))) s → SqL X.K (upd H q (.lst (ws.take i))) p ws → p ≠ q → H it = none → it ≠ q → (∀ b ∈ [it], FpOk X pins (upd H q (.lst (ws.take i))) b) → s.heap.IsListIter it p i →
    codeAny (model X.prog X.w) A1 (.builtin "list.extend.loop" ⟨[.ref q, .ref it, .none], []⟩) Rs s := by
  intro m
  induction m with
  | zero =>
    intro i s hm hi I hS hpq hit hiq fp st
    have e : i = ws.length := by omega
    subst e
    refine codeAny_builtin PySem.F.entry_extend_loop ?_
    rw [Around.under_plainId PySem.F.plain_extend_loop _]
    show wpAny _ A1.in1 (pyNext (.ref it) >>= _) _ _ s
    obtain ⟨its, rv, pl, hz2⟩ := I.list hS
    have hl := rv.length
    obtain ⟨f0, f1, f2, f3, f4, f5⟩ := fp it (by simp)
    refine wpAny_bind (wpAny_pyNext_list_end hh st pl.isList (by simp; omega) fun h' eb => ?_)
    have I2 := I.turned (t' := s.toks) (fun b o hb e => eb b o hb e) f0 f1 f3 f4 f5
    rw [List.take_length] at I2
    exact wpAny_pure (hd _ I2)
  | succ m ih =>
    intro i s hm hi I hS hpq hit hiq fp st
    have hlt : i < ws.length := by omega
    refine codeAny_builtin PySem.F.entry_extend_loop ?_
    rw [Around.under_plainId PySem.F.plain_extend_loop _]
    show wpAny _ A1.in1 (pyNext (.ref it) >>= _) _ _ s
    obtain ⟨its, rv, pl, hz2⟩ := I.list hS
    obtain ⟨f0, f1, f2, f3, f4, f5⟩ := fp it (by simp)
    obtain ⟨u, hu, ru⟩ := rv.get (List.getElem?_eq_getElem hlt)
    refine wpAny_bind (wpAny_pyNext_list_item st pl.isList (x := u) (by simpa using hu) fun h' st' sb => ?_)
    have I1 : L2.Inv X pins σ (upd H q (.lst (ws.take i))) { s with heap := h' } := I.turned (t' := s.toks) (fun b o hb e => (sb.2 b hb).trans e) f0 f1 f3 f4 f5
    show wpAny _ A1.in1 (updateSeq q (·.push u) >>= _) _ _ _
    obtain ⟨z, is2, k2, r2, hl2, e2⟩ := I1.lstM upd_same
    have hls : is2.length = i := by rw [← hl2, List.length_take]; omega
    have sz : i < sizeLine := Nat.lt_of_lt_of_le hlt hz
    refine wpAny_bind (wpAny_updateSeq e2 rfl (wpAny_pure ⟨plainId_quiet PySem.F.plain_extend_loop _, ?_⟩) (by rw [List.size_toArray, hls]; omega) (by show (is2.toArray.push u).size ≤ sizeLine + 1; rw [Array.size_push, List.size_toArray, hls]; omega))
    have et : ws.take (i + 1) = ws.take i ++ [ws[i]] := by rw [List.take_add_one, List.getElem?_eq_getElem hlt]; rfl
    have I3 := I1.lset (its' := is2 ++ [u]) (f := (·.push u)) (t' := s.toks) upd_same e2 (by simp) (r2.append (.cons ru .nil)) (by rw [List.length_append, List.length_take, List.length_singleton]; omega)
    rw [upd_upd, ← et] at I3
    refine ih (i + 1) _ (by omega) hlt I3 ?_ hpq hit hiq (fun b hb => ?_) ?_
    · unfold SqL Rd at hS ⊢
      rw [upd_ne hpq] at hS ⊢
      exact hS
    · obtain ⟨g0, g1⟩ := fp b hb
      refine ⟨?_, g1⟩
      rw [List.mem_singleton.mp hb, upd_ne hiq]
      exact hit
    · exact st'.at fun o e => (Heap.get?_update_other _ _ (fun z => hiq z.symm)).trans e
end
section
variable {C : Cz} {k n n2 j : Nat} {env : Env} {L LR : List Cell} {e tg : Expr} {C0 : Addr} {r : Ent} {p pos : Pos}
/-- list(o), o of an own class with __len__ -/
theorem E_listO.{u, v} {γ : Type u} {δ : Type v} {β : Type} [Rep β] {arg : γ → Ent} {cel : γ → List Cell} {pre : γ → Prop} {res : γ → List β} {arg2 : δ → List Ent} {cel2 : δ → List Cell} {pre2 : δ → Prop} {res2 : δ → Int} (g : γ) (g2 : δ) (ok : C.Ok k)
    (M : Mi C.X.prog C.X.w C.X.K C.X.mg C.X.base n C0 (spIt C.X.K arg cel pre res)) (M2 : Ms C.X.prog C.X.w C.X.K C.X.mg C.X.base n2 C0 "__len__" (spB C.X.K arg2 cel2 pre2 (fun g => ⟨res2 g⟩)))
    (he : E C env L e (arg g)) (hp : pre g) (hL : L.Perm (cel g ++ LR)) (hs : Seen C L (arg g) C0) (ha2 : arg2 g2 = [arg g]) (hp2 : pre2 g2) (hc2 : cel2 g2 = cel g) (hb : 0 ≤ res2 g2 ∧ res2 g2 ≤ sizeLine) (hm : C.X.mg "list" = none) (hj : n + 2 ≤ k := by decide) (hj2 : n2 + 3 ≤ k := by decide) (hg : Gl C.X "list" := by rfl)
    (hst : starEach [e] C.X.env = (false, eval e C.X.env) :: starEach [] C.X.env := by rfl) (hpl : (backTo pos (starEach [] C.X.env)).any (·.1) = false := by rfl) : E C env L (.Call (.Name "list" p) [e] [] pos) ⟨res g⟩ := by
  obtain ⟨f2, fd2, ps2, hM2, _, hB2, FN2⟩ := M2.h
  have key : CallR C.X (.type "list") (fun xs H Q => ∃ σ F a, xs = [.ref a] ∧ Sta C F env L σ H ∧ (arg g).rp C.X.K F (.ref a) ∧ (∃ dx fs, H a = some (.ins C0 dx fs)) ∧ ∀ v F' H', Gw F H F' H' → Sta C F' env L σ H' → (⟨res g⟩ : Ent).rp C.X.K F' v → Q v H') := by
    intro pins s σ' H xs us Q I rv h
    obtain ⟨σ, F, a, rfl, st, ra, ⟨dx, fs, ha⟩, hq⟩ := h
    obtain ⟨u, rfl, ru⟩ := rv.one
    cases ru
    have sb : Sub C.X (n + 2) C.X.A := Sub.here ok.room hj
    have sb2 : Sub C.X n C.X.A.in1.in1 := Sub.in1 (Sub.in1 sb)
    have sb3 : Sub C.X n2 C.X.A.in1.in1.in1 := Sub.in1 (Sub.in1 (Sub.in1 (Sub.here ok.room hj2)))
    refine callType_codes (Q₁ := fun obj s₁ => obj = .ref s.heap.objs.size ∧ s₁ = { s with heap := s.heap.push { cls := .type "list", data := .seq #[] } }) PySem.F.called_list (PySem.F.typeCall_list_1 _) PySem.F.entry_list_init (code_list_new _ ⟨rfl, rfl⟩) fun obj s₁ h₁ => ?_
    obtain ⟨rfl, rfl⟩ := h₁
    have hS : (s.heap.push { cls := .type "list", data := .seq #[] }).get? s.heap.objs.size = some { cls := .type "list", data := .seq #[] } := Heap.get?_push_size _ rfl
    refine ⟨⟨_, hS, rfl⟩, PySem.F.args_list_init_2 _ _, ?_⟩
    have fr : H s.heap.objs.size = none := I.hok.fresh (Nat.le_refl _)
    obtain ⟨q, eq⟩ : ∃ q, q = s.heap.objs.size := ⟨_, rfl⟩
    have I1 : L2.Inv C.X pins σ' (upd H s.heap.objs.size (.lst [])) { s with heap := s.heap.push { cls := .type "list", data := .seq #[] } } := I.lnew (its := []) (t' := s.toks) .nil (Nat.zero_le _)
    show wpAny _ _ (do let old ← Builtin.List.listItems (.ref s.heap.objs.size); Builtin.List.listUpdate (.ref s.heap.objs.size) (fun _ => #[]); letGo old.toList.reverse; Builtin.List.listExtendWith (.ref s.heap.objs.size) (.ref a) .none) _ _ _
    refine wpAny_bind ?_
    unfold Builtin.List.listItems
    refine wpAny_bind (wpAny_seqItems hS rfl (wpAny_pure ?_))
    show wpAny _ _ (updateSeq s.heap.objs.size (fun _ => #[]) >>= fun _ => letGo (#[] : Array Value).toList.reverse >>= fun _ => Builtin.List.listExtendWith (.ref s.heap.objs.size) (.ref a) .none) _ _ _
    refine wpAny_bind (wpAny_updateSeq hS rfl ?_)
    have I2 := I1.lset (f := fun _ => #[]) (its := []) (its' := []) (ys := []) (t' := s.toks) upd_same hS rfl .nil (Nat.zero_le _)
    rw [upd_upd] at I2
    refine wpAny_bind (wpAny_letGo ?_)
    have hne : s.heap.objs.size ≠ a := fun z => by rw [z] at fr; rw [fr] at ha; cases ha
    have ha2' : upd H s.heap.objs.size (.lst []) a = some (.ins C0 dx fs) := by rw [upd_ne (Ne.symm hne)]; exact ha
    rw [← eq] at I2 hne ha2' fr ⊢
    obtain ⟨oR, hR, hF⟩ := st.ow.toR (u := .lst []) fr
    obtain ⟨ox, od, J, _⟩ := inst_at I2 ha2'
    unfold Builtin.List.listExtendWith
    refine wpAny_bind (J.type.here ?_)
    have h1 : Builtin.List.listSameRef (.ref q) (.ref a) = false := by simp [Builtin.List.listSameRef, hne]
    have h2 : (Value.ref C0 == Value.type "list") = false := rfl
    have h3 : (Value.ref C0 == Value.type "tuple") = false := rfl
    simp only [h1, h2, h3, Bool.or_false, Bool.false_eq_true, if_false]
    refine wpAny_bind (iter_own M sb2 g hp hL I2 (R := upd C.R q (.lst [])) ⟨st.sl, oR⟩ ha2' ra fun it l ws F2 H2 s2 hn J2 fp hi x2 st2 hl pr hz => ?_)
    have hq2 : H2 q = some (.lst []) := st2.ow.rH _ _ upd_same
    have hlq : l ≠ q := fun z => by
      have := st2.ow.fr q _ upd_same
      rw [← z, hl] at this; cases this
    obtain ⟨a2, dx2, fs2, ea, ha3⟩ := hs _ F2 H2 (.ref a) st2.ow (Ent.mono x2 ra)
    cases ea
    obtain ⟨ox2, od2, J3, _⟩ := inst_at J2 ha3
    obtain ⟨m3, hF3⟩ := J2.fr
    obtain ⟨f0, fr2⟩ := fp it (by simp)
    have K2 := J2.pinned fp fun b hb => by
      rw [List.mem_singleton.mp hb]
      obtain ⟨o, e, c, d⟩ := id hi
      exact ⟨o, e, fun v z => by rw [d] at z; cases z⟩
    have pin : ∀ o, s2.heap.get? it = some o → (it, o) ∈ pins ++ pinsAt [it] s2.heap := fun o e => List.mem_append_right _ (List.mem_filterMap.mpr ⟨it, by simp, by rw [e]; rfl⟩)
    have o1 : Own C.X.K (upd C.R q (.lst [])) F2 H2 (cel2 g2 ++ LR) := by rw [hc2]; exact st2.ow.perm hL.symm
    have iq : it ≠ q := fun z => by rw [z, hq2] at f0; cases f0
    refine wpAny_bind (wpAny_holding (hint_own J2.kIn J3 hM2.at_ (PySem.W.len_K hF3 J2.ok.mod.kin J3 hM2.at_ hM2.fn (wpAny_mono (run_sub0 FN2 sb3 hB2 K2 (show Vals [V.ref a] [Value.ref a] from .cons rfl .nil) (Qv := fun v H3 => ∃ F3, v = .int (res2 g2) ∧ Ex F2 F3 ∧ Own C.X.K (upd C.R q (.lst [])) F3 H3 L) ⟨g2, hp2, frame H2 F2 (cel2 g2), F2, o1.call, by rw [ha2]; exact .cons (Ent.mono x2 ra) .nil, ?_, fun _ _ _ _ _ z => z.elim⟩ _) (fun u s3 z => ?_) fun _ _ z => z))))
    · rintro r3 L3 v F3 H3 ⟨rfl, rfl⟩ x3 o3 rr
      have o4 := o1.back o3 x3
      rw [hc2] at o4
      exact ⟨F3, rr, x3, o4.perm hL⟩
    · obtain ⟨v, H3, I3, rv3, F3, rfl, x3, o3⟩ := z
      obtain ⟨t3, rfl⟩ := rv3
      refine ⟨⟨hb.1, by have h9 := hb.2; rw [sizeLine_eq] at h9; omega⟩, (res2 g2).toNat, _, by rw [Int.toNat_of_nonneg hb.1], by omega, fun bo => ?_⟩
      have I4 := I3.tok (s3.toks + 1)
      obtain ⟨oi, ei, ci, di⟩ := id hi
      obtain ⟨e3, n3, _⟩ := I4.pin (it, oi) (List.mem_append_right _ (pin oi ei))
      have st3 : ({ s3 with toks := s3.toks + 1 } : Shared).heap.IsListIter it l 0 := ⟨oi, e3, ci, di⟩
      have fp3 : ∀ b ∈ [it], FpOk C.X pins H3 b := fun b hb => by
        rw [List.mem_singleton.mp hb]
        exact ⟨n3, fr2⟩
      have hq3 : H3 q = some (.lst []) := o3.rH _ _ upd_same
      have hH : ∀ zs : List V, zs = [] → upd H3 q (.lst zs) = H3 := fun zs e => by
        subst e
        funext b
        by_cases hb : b = q
        · rw [hb, upd_same, hq3]
        · rw [upd_ne hb]
      have hl3 : SqL C.X.K H3 l ws := sq_of (o3.fH _ _ (x3 _ _ hl))
      have hzw : ws.length ≤ sizeLine := by rw [pr.length]; exact hz
      have fin : ∀ s', L2.Inv C.X pins σ' (upd H3 q (.lst ws)) s' → EP C.X pins σ' Q (.ref q) s' := fun s' I5 => by
        have o5 := (o3.updR (u' := .lst ws) hR)
        obtain ⟨o6, x6⟩ := o5.ofR hR
        exact ⟨.ref q, _, I5, rfl, hq (.ref q) _ _ ⟨(x2.tr x3).tr x6⟩ ⟨st2.sl.mono (x3.tr x6), o6⟩ ⟨q, ws, rfl, upd_same, pr.imp fun _ _ => Rep.mono (x3.tr x6), hz⟩⟩
      have loop := fun (s4 : Shared) (J4 : L2.Inv C.X pins σ' H3 s4) (st4 : s4.heap.IsListIter it l 0) => it_loop (A1 := C.X.A.in1) (β := β) (L := L) (env := env) (R := C.R) (H := H3) (X := C.X) (pins := pins) (σ := σ') (Rs := wants (fun r s₂ => r = .none ∧ EP C.X pins σ' Q (.ref q) s₂) C.X.xe) (F := F3) (it := it) (p := l) (q := q) (ws := ws) (I.ok.hd ok.calm) hR hzw (x3 _ _ hl) (fun s' I5 => ⟨rfl, fin s' I5⟩) ws.length 0 s4 rfl (Nat.zero_le _) (by rw [hH _ (List.take_zero)]; exact J4) (by rw [hH _ (List.take_zero)]; exact hl3) hlq n3 iq (by rw [hH _ (List.take_zero)]; exact fp3) st4
      have I5 := I4.unpinned
      refine wpAny_ite_split (fun _ => ?_) (fun _ => wpAny_pure ⟨plainId_quiet PySem.F.plain_extend_loop _, loop _ I5 st3⟩)
      refine wpAny_bind (wpAny_rule ?_)
      refine wpAny_bind ?_
      show wpAny _ _ (updateSeq q (·.push .none) >>= fun _ => updateSeq q (·.pop)) _ _ _
      obtain ⟨z, its, k1, r3, hl4, e4⟩ := I5.lstM hq3
      cases r3
      refine wpAny_bind (wpAny_updateSeq e4 rfl ?_)
      have I6 := I5.lset (f := (·.push Value.none)) (its' := [Value.none]) (ys := [.non]) (t' := s3.toks + 1) hq3 e4 (by simp) (.cons rfl .nil) (by rw [List.length_singleton, sizeLine_eq]; decide)
      obtain ⟨z4, its4, k4, r4, hl5, e5⟩ := I6.lstM upd_same
      obtain ⟨u4, rfl, ru4⟩ := r4.one
      refine wpAny_updateSeq e5 rfl ?_ (by show 1 ≤ sizeLine; rw [sizeLine_eq]; decide) (by show 0 ≤ sizeLine + 1; exact Nat.zero_le _)
      have I7 := I6.lset (f := (·.pop)) (its := [u4]) (its' := []) (ys := []) (t' := s3.toks + 1) upd_same e5 (by rfl) .nil (Nat.zero_le _)
      rw [upd_upd, hH _ rfl] at I7
      refine wpAny_pure ⟨plainId_quiet PySem.F.plain_extend_loop _, loop _ I7 ?_⟩
      refine st3.at fun o e => ?_
      exact (Heap.get?_update_other _ _ (fun z => iq z.symm)).trans ((Heap.get?_update_other _ _ (fun z => iq z.symm)).trans e)
  refine ⟨PE.imp (pe_callU key (Or.inr ⟨_, rfl⟩) hg hm boot_listx (A_cons he A_nil hst).p (by decide) (by decide) hst hpl) fun σ H Q ⟨F, s, q⟩ => ⟨F, s, fun vs F1 H1 x1 s1 rv => ?_⟩⟩
  obtain ⟨v, rfl, rv2⟩ := one_of rv
  obtain ⟨a, dx, fs, rfl, ha⟩ := hs _ F1 H1 v s1.ow rv2
  exact ⟨σ, F1, a, rfl, s1, rv2, ⟨dx, fs, ha⟩, fun v F' H' x2 s2 rr => q v F' H' (x1.tr x2) s2 rr⟩
end
end Py

namespace Py
open PySem PySem.Spec PyProof.Rows L2
section
variable {C : Cz} {k n j : Nat} {env : Env} {L LR : List Cell} {e a b o tg : Expr} {es : List Expr} {C0 : Addr} {r r1 r2 : Ent} {rs : List Ent} {p pos apos : Pos} {m x : Str} {rest : List Stmt} {Q : Po}
/-- an expression is run in a state -/
theorem E.go (he : E C env L e r) {pins : List (Addr × Obj)} {σ : Py.St} {F H : Hp} {s : Shared} {Qv : Value → Shared → Prop} (I : L2.Inv C.X pins σ H s) (st : Sta C F env L σ H)
    (h : ∀ u s1 v F1 H1, L2.Inv C.X pins σ H1 s1 → RelV v u → Ex F F1 → Sta C F1 env L σ H1 → r.rp C.X.K F1 v → Qv u s1) : wpAny (model C.X.prog C.X.w) C.X.A (eval e C.X.env) Qv C.X.xe s :=
  wpAny_mono (he.p.run pins s σ H (fun v H1 => ∃ F1, Ex F F1 ∧ Sta C F1 env L σ H1 ∧ r.rp C.X.K F1 v) I ⟨F, st, fun v F1 H1 x s1 rv => ⟨F1, x.f, s1, rv⟩⟩) (fun u s1 ⟨v, H1, I1, r1, F1, x1, st1, rv⟩ => h u s1 v F1 H1 I1 r1 x1 st1 rv) fun _ _ z => z
theorem A.go (he : A C env L es rs) {pins : List (Addr × Obj)} {σ : Py.St} {F H : Hp} {s : Shared} {Qv : List Value → Shared → Prop} (I : L2.Inv C.X pins σ H s) (st : Sta C F env L σ H)
    (h : ∀ us s1 vs F1 H1, L2.Inv C.X pins σ H1 s1 → Vals vs us → Ex F F1 → Sta C F1 env L σ H1 → Pr (fun v r => Ent.rp r C.X.K F1 v) vs rs → Qv us s1) (pos : Pos) : wpAny (model C.X.prog C.X.w) C.X.A (spliced (backTo pos (starEach es C.X.env))) Qv C.X.xe s :=
  wpAny_mono (he.p.run pos pins s σ H (fun vs H1 => ∃ F1, Ex F F1 ∧ Sta C F1 env L σ H1 ∧ Pr (fun v r => Ent.rp r C.X.K F1 v) vs rs) I ⟨F, st, fun vs F1 H1 x s1 rv => ⟨F1, x.f, s1, rv⟩⟩) (fun u s1 ⟨v, H1, I1, r1, F1, x1, st1, rv⟩ => h u s1 v F1 H1 I1 r1 x1 st1 rv) fun _ _ z => z
/-- an own method is run by its promise -/
theorem run_ctr.{u} {γ : Type u} {arg : γ → List Ent} {cel : γ → List Cell} {pre : γ → Prop} {post : γ → Ent → List Cell → Prop} {exc : γ → Value → Option Addr → List Cell → Prop} {f : Addr} {fd : FuncData} {ps : List Str} {A1 : Around} (g : γ) (ok : C.Ok k)
    (Fn : FnOk C.X.prog C.X.w C.X.K C.X.mg C.X.base (L2.CX C.X.prog C.X.w) n f fd ps (spM C.X.K arg cel pre post exc)) (sb : Sub C.X n A1) (hb : Binds C.X.K fd ps []) (hp : pre g) (hL : L.Perm (cel g ++ LR)) {pins : List (Addr × Obj)} {σ : Py.St} {F H : Hp} {s : Shared} {Qv : VK} {us : List Value} {vs : List V}
    (I : L2.Inv C.X pins σ H s) (st : Sta C F env L σ H) (rv : Vals vs us) (pr : Pr (fun v r => Ent.rp r C.X.K F v) vs (arg g)) (h1 : ∀ v r L' F' H', post g r L' → Ex F F' → Sta C F' env (L' ++ LR) σ H' → Ent.rp r C.X.K F' v → Qv v H') (h2 : ∀ cls d L' F' H', exc g cls d L' → Ex F F' → Sta C F' env (L' ++ LR) σ H' → C.W cls d σ H') :
    wpAny (model C.X.prog C.X.w) A1 (call (.ref f) us) (EP C.X pins σ Qv) C.X.xe s := run_sub Fn sb hb (passAt ok.tk σ) I rv (of_sp1 g hp hL st pr h1 h2)
/-- the shape of an own call's end -/
abbrev enM {γ : Type _} (post : γ → Ent → List Cell → Prop) (g : γ) (LR : List Cell) : Ent → List Cell → Prop := fun r L' => ∃ L1, post g r L1 ∧ L' = L1 ++ LR
abbrev enX {γ : Type _} (exc : γ → Value → Option Addr → List Cell → Prop) (g : γ) (LR : List Cell) : Value → Option Addr → List Cell → Prop := fun cls d L' => ∃ L1, exc g cls d L1 ∧ L' = L1 ++ LR
/-- a op b, a and b of one own class -/
theorem EM_binO.{u} {γ : Type u} {arg : γ → List Ent} {cel : γ → List Cell} {pre : γ → Prop} {post : γ → Ent → List Cell → Prop} {exc : γ → Value → Option Addr → List Cell → Prop} {op : Operator} (g : γ) (ok : C.Ok k) (hc : PySem.W.selfFirst C.X.K C0 = true)
    (M : Ms C.X.prog C.X.w C.X.K C.X.mg C.X.base n C0 m (spM C.X.K arg cel pre post exc)) (ha : E C env L a r1) (hb : E C env L b r2) (hg : arg g = [r1, r2]) (hp : pre g) (hL : L.Perm (cel g ++ LR)) (i1 : Seen C L r1 C0) (i2 : Seen C L r2 C0) (hm : PySem.dunder op.info.2 = m := by rfl) (hj : n ≤ k := by decide) :
    EM C env L (.BinOp a op b pos) (enM post g LR) (enX exc g LR) := by
  obtain ⟨f, fd, ps, hM, _, hB, Fn⟩ := M.h
  subst hm
  refine ⟨⟨fun pins s σ H Qv I ⟨F, st, q1, q2⟩ => wpAny_BinOp (ha.go I st fun u s1 v F1 H1 I1 ru x1 st1 rv => hb.go I1 st1 fun u2 s2 v2 F2 H2 I2 ru2 x2 st2 rv2 => ?_)⟩⟩
  have rv1 := Ent.mono x2 rv
  obtain ⟨q, dx, fs, rfl, h1⟩ := i1 _ F2 H2 v st2.ow rv1
  obtain ⟨q', dx', fs', rfl, h2⟩ := i2 _ F2 H2 v2 st2.ow rv2
  obtain rfl : u = Value.ref q := ru
  obtain rfl : u2 = Value.ref q' := ru2
  obtain ⟨ox, od, J, _⟩ := inst_at I2 h1
  obtain ⟨ox', od', J', _⟩ := inst_at I2 h2
  obtain ⟨m', hF⟩ := I2.fr
  refine PySem.W.binop_K hF I2.ok.mod.kin J J'.type hc hM.at_ hM.fn ?_
  refine wpAny_mono (run_ctr g ok Fn (Sub.here ok.room hj) hB hp hL I2 st2 (show Vals [V.ref q, V.ref q'] [Value.ref q, Value.ref q'] from .cons rfl (.cons rfl .nil)) (by rw [hg]; exact .cons rv1 (.cons rv2 .nil)) (Qv := Qv) (fun v r L' F' H' hpo x s' rr => ?_) (fun cls d L' F' H' hx x s' => ?_)) (fun _ _ z => cmpBack_of z) fun _ _ z => z
  · exact q1 v r _ F' H' ⟨L', hpo, rfl⟩ ((x1.tr x2).tr x) s' rr
  · exact q2 cls d _ F' H' ⟨L', hx, rfl⟩ ((x1.tr x2).tr x) s'
/-- a op b, an own comparison -/
theorem EM_cmpO.{u} {γ : Type u} {arg : γ → List Ent} {cel : γ → List Cell} {pre : γ → Prop} {post : γ → Ent → List Cell → Prop} {exc : γ → Value → Option Addr → List Cell → Prop} {op : CmpOp} (g : γ) (ok : C.Ok k)
    (M : Ms C.X.prog C.X.w C.X.K C.X.mg C.X.base n C0 m (spM C.X.K arg cel pre post exc)) (ha : E C env L a r1) (hb : E C env L b r2) (hg : arg g = [r1, r2]) (hp : pre g) (hL : L.Perm (cel g ++ LR)) (i1 : Seen C L r1 C0) (i2 : Seen C L r2 C0) (ho : ∀ u v, compareOp op u v = richCompare op u v := by intro _ _; rfl) (hm : (PySem.cmpInfo op).2.1 = m := by rfl) (hj : n ≤ k := by decide) (hn : behindInMarks op b = false := by first | rfl | exact nomark _) :
    EM C env L (.Compare a [op] [b] pos) (enM post g LR) (enX exc g LR) := by
  obtain ⟨f, fd, ps, hM, _, hB, Fn⟩ := M.h
  subst hm
  refine ⟨⟨fun pins s σ H Qv I ⟨F, st, q1, q2⟩ => wpAny_Compare1 (ha.go I st fun u s1 v F1 H1 I1 ru x1 st1 rv => hb.go I1 st1 fun u2 s2 v2 F2 H2 I2 ru2 x2 st2 rv2 => ?_) hn⟩⟩
  have rv1 := Ent.mono x2 rv
  obtain ⟨q, dx, fs, rfl, h1⟩ := i1 _ F2 H2 v st2.ow rv1
  obtain ⟨q', dx', fs', rfl, h2⟩ := i2 _ F2 H2 v2 st2.ow rv2
  obtain rfl : u = Value.ref q := ru
  obtain rfl : u2 = Value.ref q' := ru2
  obtain ⟨ox, od, J, _⟩ := inst_at I2 h1
  obtain ⟨ox', od', J', _⟩ := inst_at I2 h2
  obtain ⟨m', hF⟩ := I2.fr
  rw [ho]
  refine PySem.W.cmp_K (tb := .ref C0) ok.room.units0 hF I2.ok.mod.kin J J'.type (by simp [PySem.W.notFirst]) hM.at_ hM.fn ?_
  refine wpAny_mono (run_ctr g ok Fn (Sub.here ok.room hj) hB hp hL I2 st2 (show Vals [V.ref q, V.ref q'] [Value.ref q, Value.ref q'] from .cons rfl (.cons rfl .nil)) (by rw [hg]; exact .cons rv1 (.cons rv2 .nil)) (Qv := Qv) (fun v r L' F' H' hpo x s' rr => ?_) (fun cls d L' F' H' hx x s' => ?_)) (fun _ _ z => cmpBack_of z) fun _ _ z => z
  · exact q1 v r _ F' H' ⟨L', hpo, rfl⟩ ((x1.tr x2).tr x) s' rr
  · exact q2 cls d _ F' H' ⟨L', hx, rfl⟩ ((x1.tr x2).tr x) s'
/-- an own subscript -/
theorem EM_ixO.{u} {γ : Type u} {arg : γ → List Ent} {cel : γ → List Cell} {pre : γ → Prop} {post : γ → Ent → List Cell → Prop} {exc : γ → Value → Option Addr → List Cell → Prop} (g : γ) (ok : C.Ok k)
    (M : Ms C.X.prog C.X.w C.X.K C.X.mg C.X.base n C0 "__getitem__" (spM C.X.K arg cel pre post exc)) (ha : E C env L a r1) (hb : E C env L b r2) (hg : arg g = [r1, r2]) (hp : pre g) (hL : L.Perm (cel g ++ LR)) (i1 : Seen C L r1 C0) (hj : n + 1 ≤ k := by decide)
    (hs : ∀ x i, subscripted b true (.ref x) i = runValue (.builtin "lifetime.subscript" ⟨[.ref x, i], []⟩) := by intro _ _; with_unfolding_all rfl) : EM C env L (.Subscript a b pos) (enM post g LR) (enX exc g LR) := by
  obtain ⟨f, fd, ps, hM, hfn, hB, Fn⟩ := M.h
  refine ⟨⟨fun pins s σ H Qv I ⟨F, st, q1, q2⟩ => Subscript_ (ha.go I st fun u s1 v F1 H1 I1 ru x1 st1 rv => hb.go I1 st1 fun u2 s2 v2 F2 H2 I2 ru2 x2 st2 rv2 => ?_)⟩⟩
  have rv1 := Ent.mono x2 rv
  obtain ⟨q, dx, fs, rfl, h1⟩ := i1 _ F2 H2 v st2.ow rv1
  obtain rfl : u = Value.ref q := ru
  obtain ⟨ox, od, J, _⟩ := inst_at I2 h1
  obtain ⟨m', hF⟩ := I2.fr
  refine PySem.W.sub_K hF I2.ok.mod.kin J hM.at_ hfn hM.fn ?_ (hs q u2)
  refine wpAny_mono (run_ctr g ok Fn (Sub.in1 (Sub.here ok.room hj)) hB hp hL I2 st2 (show Vals [V.ref q, v2] [Value.ref q, u2] from .cons rfl (.cons ru2 .nil)) (by rw [hg]; exact .cons rv1 (.cons rv2 .nil)) (Qv := Qv) (fun v r L' F' H' hpo x s' rr => ?_) (fun cls d L' F' H' hx x s' => ?_)) (fun _ _ z => z) fun _ _ z => z
  · exact q1 v r _ F' H' ⟨L', hpo, rfl⟩ ((x1.tr x2).tr x) s' rr
  · exact q2 cls d _ F' H' ⟨L', hx, rfl⟩ ((x1.tr x2).tr x) s'
/-- EM that gives one datum and changes nothing -/
theorem EM.toE (h : EM C env L e (fun r' L' => r' = r ∧ L' = L) (fun _ _ _ => False)) : E C env L e r := ⟨PE.imp h.p fun σ H Qv ⟨F, s, q⟩ => ⟨F, s, fun v r' L' F' H' ⟨e1, e2⟩ x s' rv => by subst e1 e2; exact q v F' H' ⟨x⟩ s' rv, fun _ _ _ _ _ z => z.elim⟩⟩
/-- the cells of L in another order -/
theorem E.of_perm {L' : List Cell} (h : E C env L' e r) (p : L'.Perm L) : E C env L e r := ⟨PE.imp h.p fun σ H Qv ⟨F, s, q⟩ => ⟨F, ⟨s.sl, s.ow.perm p⟩, fun v F' H' x s' rv => q v F' H' x ⟨s'.sl, s'.ow.perm p.symm⟩ rv⟩⟩
/-- a lent call leaves the cells -/
theorem EM.lent {γ : Type _} {cel : γ → List Cell} {res : γ → Ent} {g : γ} (hL : L.Perm (cel g ++ LR)) (h : EM C env L e (enM (fun g r L' => r = res g ∧ L' = cel g) g LR) (enX (fun (_ : γ) _ _ _ => False) g LR)) : E C env L e (res g) :=
  ⟨PE.imp h.p fun σ H Qv ⟨F, s, q⟩ => ⟨F, s, fun v r' L' F' H' ⟨L1, ⟨e1, e2⟩, e3⟩ x s' rv => by subst e1 e3 e2; exact q v F' H' ⟨x⟩ ⟨s'.sl, s'.ow.perm hL⟩ rv, fun _ _ _ _ _ ⟨_, z, _⟩ => z.elim⟩⟩
end
/-- isinstance(e, X), X an own class -/
theorem E_isEg {C : Cz} {env : Env} {L : List Cell} {a : Expr} {p p2 pos : Pos} {x : Str} {a0 D0 D1 : Addr} {oe : Obj} {pn : List (Addr × Obj)} {bo : Bool} (T : ExcC C.X.K D0) (hz : Zc (.ref D0) none oe) (hf : ∃ vs, oe.data = .fields vs) (hk : PySem.W.kitOne C.X.K (.ref D0) (.ref D1) = some bo) (he : E (C.suite a0 oe pn) env L a ⟨(Exn.mk a0)⟩)
    (hx : C.X.mg x = some (.ref D1)) (hm : C.X.mg "isinstance" = none) (hgx : Gl (C.suite a0 oe pn).X x := by rfl) (hdx : (x == ("__debug__" : Str)) = false := by decide) (hg : Gl (C.suite a0 oe pn).X "isinstance" := by rfl) (hst : starEach [a, .Name x p2] (C.suite a0 oe pn).X.env = (false, eval a (C.suite a0 oe pn).X.env) :: starEach [.Name x p2] (C.suite a0 oe pn).X.env := by rfl) (hpl : (backTo pos (starEach [.Name x p2] (C.suite a0 oe pn).X.env)).any (·.1) = false := by rfl) :
    E (C.suite a0 oe pn) env L (.Call (.Name "isinstance" p) [a, .Name x p2] [] pos) ⟨bo⟩ := E_isE T hz hf hk he (pe_glob (v := V.ref D1) hgx hx rfl hdx) (fun _ z => z) hm hg hst rfl hpl
/-- isinstance(e, X), X a built-in class -/
theorem E_isEb {C : Cz} {env : Env} {L : List Cell} {a : Expr} {p p2 pos : Pos} {x : Str} {a0 D0 : Addr} {Y : String} {oe : Obj} {pn : List (Addr × Obj)} {bo : Bool} (T : ExcC C.X.K D0) (hz : Zc (.ref D0) none oe) (hf : ∃ vs, oe.data = .fields vs) (hk : PySem.W.kitOne C.X.K (.ref D0) (.type Y) = some bo) (he : E (C.suite a0 oe pn) env L a ⟨(Exn.mk a0)⟩)
    (hx : C.X.mg x = none) (hv : bootBuiltins x = some (.type Y)) (hm : C.X.mg "isinstance" = none) (hn : x ≠ "__name__" := by decide) (hgx : Gl (C.suite a0 oe pn).X x := by rfl) (hdx : (x == ("__debug__" : Str)) = false := by decide) (hg : Gl (C.suite a0 oe pn).X "isinstance" := by rfl) (hst : starEach [a, .Name x p2] (C.suite a0 oe pn).X.env = (false, eval a (C.suite a0 oe pn).X.env) :: starEach [.Name x p2] (C.suite a0 oe pn).X.env := by rfl) (hpl : (backTo pos (starEach [.Name x p2] (C.suite a0 oe pn).X.env)).any (·.1) = false := by rfl) :
    E (C.suite a0 oe pn) env L (.Call (.Name "isinstance" p) [a, .Name x p2] [] pos) ⟨bo⟩ := E_isE (y := V.ty Y) T hz hf hk he (pe_bltn (v := .ty Y) hgx hx hv rfl hn hdx) (fun _ z => z) hm hg hst rfl hpl
/-! ### more facts of the head -/
def excCB (x : Str) (K : PySem.W.Frag) : Bool := He.eqO (PySem.W.findIn K (.ref (He.ga K x)) "__getattribute__") (some (some (.builtin "BaseException.__getattribute__"))) && (He.eqO (PySem.W.findIn K (.ref (He.ga K x)) "__getattr__") (some none) && (decide (PySem.W.subIn K (.ref (He.ga K x)) (.type "BaseException") = some true) && (PySem.W.hasDictIn K (He.ga K x) &&
  (He.eqO (PySem.W.findIn K (.ref (He.ga K x)) "__class__") (some (some (.builtin "object.__class__"))) && (He.eqO (PySem.W.specialIn K (.builtin "object.__class__") "__get__") (some (some (.builtin "getset_descriptor.__get__"))) && (decide (PySem.W.takesIn K (.builtin "object.__class__") = some true) && decide (PySem.W.mroIn K (He.ga K x) (.type "object") = some true)))))))
theorem excCB_ok {x : Str} {K : PySem.W.Frag} (c : excCB x K = true) : ExcC K (He.ga K x) := by
  obtain ⟨c1, c⟩ := He.ba c
  obtain ⟨c2, c⟩ := He.ba c
  obtain ⟨c3, c⟩ := He.ba c
  obtain ⟨c4, c⟩ := He.ba c
  obtain ⟨c5, c⟩ := He.ba c
  obtain ⟨c6, c⟩ := He.ba c
  obtain ⟨c7, c8⟩ := He.ba c
  exact ⟨He.eqO_ok c1, He.eqO_ok c2, of_decide_eq_true c3, c4, He.eqO_ok c5, He.eqO_ok c6, of_decide_eq_true c7, of_decide_eq_true c8⟩
def kitOB (x y : Str) (b : Bool) (K : PySem.W.Frag) : Bool := decide (PySem.W.kitOne K (.ref (He.ga K x)) (.ref (He.ga K y)) = some b)
theorem kitOB_ok {x y : Str} {b : Bool} {K : PySem.W.Frag} (c : kitOB x y b K = true) : PySem.W.kitOne K (.ref (He.ga K x)) (.ref (He.ga K y)) = some b := of_decide_eq_true c
def kitTB (x : Str) (y : String) (b : Bool) (K : PySem.W.Frag) : Bool := decide (PySem.W.kitOne K (.ref (He.ga K x)) (.type y) = some b)
theorem kitTB_ok {x : Str} {y : String} {b : Bool} {K : PySem.W.Frag} (c : kitTB x y b K = true) : PySem.W.kitOne K (.ref (He.ga K x)) (.type y) = some b := of_decide_eq_true c
end Py

namespace Py
open PySem PySem.Spec PyProof.Rows L2
theorem boot_strx : bootBuiltins "str" = some (.type "str") := by decide +kernel
section
variable {C : Cz} {k : Nat} {env : Env} {L : List Cell} {a b : Expr} {es : List Expr} {p pos : Pos}
/-- (a, b, ..), of one kind -/
theorem E_tupL {α : Type} [Rep α] (as : List α) {kt} (h : A C env L es (EntsOf as)) (hz : as.length ≤ sizeLine := by decide) : E C env L (.Tuple es kt pos) ⟨(Tup.mk as)⟩ := ⟨PE.imp (pe_tup h.p) fun σ H Q ⟨F, s, q⟩ => ⟨F, s, fun vs F1 H1 x1 s1 rv => by
  have rv := Pr.ofEnts rv
  exact ⟨by rw [rv.length]; exact hz, fun l hn => q _ _ _ (x1.tr (Gro.new s1.ow.fH hn).w) (s1.gro (Gro.new s1.ow.fH hn)) ⟨l, vs, rfl, Or.inl (Or.inl upd_same), rv.imp fun _ _ => Rep.mono (Ex.new (Ex.free s1.ow.fH hn)), hz⟩⟩⟩⟩
def rIsET (K : PySem.W.Frag) (D a : Addr) : List V → Hp → VK → Prop := fun xs H Q => ∃ (tp : Addr) (cs : List Addr) (b : Bool), xs = [.ref a, .ref tp] ∧ SqT K H tp (cs.map V.ref) ∧ PySem.W.kitAny K (.ref D) (cs.map Value.ref) = some b ∧ Q (.bl b) H
theorem vals_refs : ∀ {cs : List Addr} {us : List Value}, Vals (cs.map V.ref) us → us = cs.map Value.ref
  | [], _, .nil => rfl
  | c :: cs, u :: us, .cons h t => by
    have h : u = Value.ref c := h
    rw [h, vals_refs t]; rfl
theorem call_isET {X : Cx} {a D : Addr} {oe : Obj} {pn : List (Addr × Obj)} (T : ExcC X.K D) (hz : Zc (.ref D) none oe) (hf : ∃ vs, oe.data = .fields vs) : CallR (X.suite a ((a, oe) :: pn)) (.builtin "isinstance") (rIsET X.K D a) := by
  intro pins s σ H xs us Q I r h
  obtain ⟨tp, cs, b, rfl, hT, e, q⟩ := h
  obtain ⟨u1, u2, rfl, r1, r2⟩ := vals2 r
  cases (show u2 = Value.ref tp from r2)
  cases (show u1 = Value.ref a from r1)
  obtain ⟨hget, _⟩ := I.pin (a, oe) (List.mem_append.mpr (.inl List.mem_cons_self))
  obtain ⟨vs, hv⟩ := hf
  have J : PySem.W.InstAt s.heap a oe D none := by
    obtain ⟨oc, od, oda, osl⟩ := oe
    obtain ⟨h1, h2⟩ := hz
    dsimp only at h1 h2 hv
    subst h1 h2 hv
    exact ⟨hget, rfl, rfl, trivial⟩
  obtain ⟨its, rv, ⟨o, ho, hc, n, hd⟩, _⟩ := I.tuple hT
  rw [← vals_refs rv] at e
  obtain ⟨oc, od, dt, sl⟩ := o
  simp only at hc hd
  subst hc hd
  exact PySem.W.kia_tup (PySem.W.handS_kitx_exc T.hg T.hk T.hs T.hd T.ha T.hn T.ht T.hm) I.kIn J ho e (fun z => nomatch z) fun tk => ⟨.bl b, H, I.kept (t' := tk) fun _ _ z => z, rfl, q⟩
theorem Pr.ats {K F} : ∀ {vs : List V} {as : List At}, Pr (Rep.rp K F) vs as → vs = (as.map At.p).map V.ref
  | _, _, .nil => rfl
  | _, _, .cons h t => by rw [show _ = V.ref _ from h, Pr.ats t]; rfl
/-- isinstance(e, (X, Y, ..)) in a suite -/
theorem E_isET {a0 D0 : Addr} {oe : Obj} {pn : List (Addr × Obj)} {cs : List At} {bo : Bool} (T : ExcC C.X.K D0) (hz : Zc (.ref D0) none oe) (hf : ∃ vs, oe.data = .fields vs) (hk : PySem.W.kitAny C.X.K (.ref D0) ((cs.map At.p).map Value.ref) = some bo) (he : E (C.suite a0 oe pn) env L a ⟨(Exn.mk a0)⟩)
    (hc : E (C.suite a0 oe pn) env L b ⟨(Tup.mk cs)⟩) (hm : C.X.mg "isinstance" = none) (hg : Gl (C.suite a0 oe pn).X "isinstance" := by rfl) (hst : starEach [a, b] (C.suite a0 oe pn).X.env = (false, eval a (C.suite a0 oe pn).X.env) :: starEach [b] (C.suite a0 oe pn).X.env := by rfl) (hst2 : starEach [b] (C.suite a0 oe pn).X.env = (false, eval b (C.suite a0 oe pn).X.env) :: starEach [] (C.suite a0 oe pn).X.env := by rfl) (hpl : (backTo pos (starEach [b] (C.suite a0 oe pn).X.env)).any (·.1) = false := by rfl) :
    E (C.suite a0 oe pn) env L (.Call (.Name "isinstance" p) [a, b] [] pos) ⟨bo⟩ := by
  have h := call_isET (X := C.X) (a := a0) (pn := pn) T hz hf
  refine ⟨PE.imp (pe_callB (X := (C.suite a0 oe pn).X) h hg hm boot_isinst (A_cons he (A_cons hc A_nil hst2) hst).p (by decide) (by decide) hst hpl) fun σ H Q ⟨F, s, q⟩ => ⟨F, s, fun vs F1 H1 x1 s1 rv => ?_⟩⟩
  obtain ⟨v, w, rfl, h1, h2⟩ := two_arg rv
  have h1 : v = V.ref a0 := h1
  obtain ⟨tp, ws, rfl, g1, g2, _⟩ := h2
  rw [Pr.ats g2] at g1
  subst h1
  exact ⟨tp, _, bo, rfl, ex_t s1.ow.fH g1, hk, q _ F1 H1 x1 s1 rfl⟩
end
def kitAB (x : Str) (ys : List Str) (b : Bool) (K : PySem.W.Frag) : Bool := decide (PySem.W.kitAny K (.ref (He.ga K x)) (ys.map fun y => Value.ref (He.ga K y)) = some b)
theorem kitAB_ok {x : Str} {ys : List Str} {b : Bool} {K : PySem.W.Frag} (c : kitAB x ys b K = true) : PySem.W.kitAny K (.ref (He.ga K x)) (ys.map fun y => Value.ref (He.ga K y)) = some b := of_decide_eq_true c
end Py

namespace Lw
open PySem PySem.Spec L2
open Py hiding Env
abbrev Env := Py.Env
def top (i : Nat) : Stmt := PySem.Challenge.pw_looksback_k01_word_text.main.body.getD i (.Pass ⟨0, 0, 0, 0⟩)
abbrev FnP (K : PySem.W.Frag) (x qual : Str) (st : Stmt) (f : Addr) (fd : FuncData) : Prop := FunD K x qual (defArgs st) (defBody st) (defScope st) [] [] f fd
abbrev d_BadQuestion___init__ : Stmt := inClass (top 6) 0
abbrev n_BadQuestion___init__ : List Str := ["self", "at"]
def dd_BadQuestion___init__ : He.DefD := ⟨("BadQuestion", some "__init__"), "__init__", "BadQuestion.__init__", defArgs d_BadQuestion___init__, defBody d_BadQuestion___init__, defScope d_BadQuestion___init__, [], []⟩
theorem bn_BadQuestion___init__ {K : PySem.W.Frag} {f : Addr} {fd : FuncData} (F : FnP K "__init__" "BadQuestion.__init__" d_BadQuestion___init__ f fd) : Binds K fd ["self", "at"] [] := F.bindsN fun _ _ _ _ _ _ us hl => match us, hl with | [_, _], _ => rfl
abbrev d_NoSuchNode___init__ : Stmt := inClass (top 7) 0
abbrev n_NoSuchNode___init__ : List Str := ["self", "node"]
def dd_NoSuchNode___init__ : He.DefD := ⟨("NoSuchNode", some "__init__"), "__init__", "NoSuchNode.__init__", defArgs d_NoSuchNode___init__, defBody d_NoSuchNode___init__, defScope d_NoSuchNode___init__, [], []⟩
theorem bn_NoSuchNode___init__ {K : PySem.W.Frag} {f : Addr} {fd : FuncData} (F : FnP K "__init__" "NoSuchNode.__init__" d_NoSuchNode___init__ f fd) : Binds K fd ["self", "node"] [] := F.bindsN fun _ _ _ _ _ _ us hl => match us, hl with | [_, _], _ => rfl
abbrev d_NoSuchEdge___init__ : Stmt := inClass (top 8) 0
abbrev n_NoSuchEdge___init__ : List Str := ["self", "edge"]
def dd_NoSuchEdge___init__ : He.DefD := ⟨("NoSuchEdge", some "__init__"), "__init__", "NoSuchEdge.__init__", defArgs d_NoSuchEdge___init__, defBody d_NoSuchEdge___init__, defScope d_NoSuchEdge___init__, [], []⟩
theorem bn_NoSuchEdge___init__ {K : PySem.W.Frag} {f : Addr} {fd : FuncData} (F : FnP K "__init__" "NoSuchEdge.__init__" d_NoSuchEdge___init__ f fd) : Binds K fd ["self", "edge"] [] := F.bindsN fun _ _ _ _ _ _ us hl => match us, hl with | [_, _], _ => rfl
abbrev d_Word___init__ : Stmt := inClass (top 11) 1
abbrev n_Word___init__ : List Str := ["self", "text", "letter"]
def dd_Word___init__ : He.DefD := ⟨("Word", some "__init__"), "__init__", "Word.__init__", defArgs d_Word___init__, defBody d_Word___init__, defScope d_Word___init__, [], []⟩
theorem bn_Word___init__ {K : PySem.W.Frag} {f : Addr} {fd : FuncData} (F : FnP K "__init__" "Word.__init__" d_Word___init__ f fd) : Binds K fd ["self", "text"] [] := F.bindsN fun _ _ _ _ _ _ us hl => match us, hl with | [_, _], _ => rfl
theorem sc_Word___init__ : FnScope n_Word___init__ ["self", "text"] (defScope d_Word___init__) := ⟨rfl, rfl, rfl, by decide +kernel, rfl, by decide +kernel, by decide +kernel⟩
abbrev d_Word___str__ : Stmt := inClass (top 11) 2
abbrev n_Word___str__ : List Str := ["self"]
def dd_Word___str__ : He.DefD := ⟨("Word", some "__str__"), "__str__", "Word.__str__", defArgs d_Word___str__, defBody d_Word___str__, defScope d_Word___str__, [], []⟩
theorem bn_Word___str__ {K : PySem.W.Frag} {f : Addr} {fd : FuncData} (F : FnP K "__str__" "Word.__str__" d_Word___str__ f fd) : Binds K fd ["self"] [] := F.bindsN fun _ _ _ _ _ _ us hl => match us, hl with | [_], _ => rfl
theorem sc_Word___str__ : FnScope n_Word___str__ ["self"] (defScope d_Word___str__) := ⟨rfl, rfl, rfl, by decide +kernel, rfl, by decide +kernel, by decide +kernel⟩
abbrev d_Word___len__ : Stmt := inClass (top 11) 3
abbrev n_Word___len__ : List Str := ["self"]
def dd_Word___len__ : He.DefD := ⟨("Word", some "__len__"), "__len__", "Word.__len__", defArgs d_Word___len__, defBody d_Word___len__, defScope d_Word___len__, [], []⟩
theorem bn_Word___len__ {K : PySem.W.Frag} {f : Addr} {fd : FuncData} (F : FnP K "__len__" "Word.__len__" d_Word___len__ f fd) : Binds K fd ["self"] [] := F.bindsN fun _ _ _ _ _ _ us hl => match us, hl with | [_], _ => rfl
theorem sc_Word___len__ : FnScope n_Word___len__ ["self"] (defScope d_Word___len__) := ⟨rfl, rfl, rfl, by decide +kernel, rfl, by decide +kernel, by decide +kernel⟩
abbrev d_Word___iter__ : Stmt := inClass (top 11) 4
abbrev n_Word___iter__ : List Str := ["self"]
def dd_Word___iter__ : He.DefD := ⟨("Word", some "__iter__"), "__iter__", "Word.__iter__", defArgs d_Word___iter__, defBody d_Word___iter__, defScope d_Word___iter__, [], []⟩
theorem bn_Word___iter__ {K : PySem.W.Frag} {f : Addr} {fd : FuncData} (F : FnP K "__iter__" "Word.__iter__" d_Word___iter__ f fd) : Binds K fd ["self"] [] := F.bindsN fun _ _ _ _ _ _ us hl => match us, hl with | [_], _ => rfl
theorem sc_Word___iter__ : FnScope n_Word___iter__ ["self"] (defScope d_Word___iter__) := ⟨rfl, rfl, rfl, by decide +kernel, rfl, by decide +kernel, by decide +kernel⟩
abbrev d_Word___getitem__ : Stmt := inClass (top 11) 5
abbrev n_Word___getitem__ : List Str := ["self", "at"]
def dd_Word___getitem__ : He.DefD := ⟨("Word", some "__getitem__"), "__getitem__", "Word.__getitem__", defArgs d_Word___getitem__, defBody d_Word___getitem__, defScope d_Word___getitem__, [], []⟩
theorem bn_Word___getitem__ {K : PySem.W.Frag} {f : Addr} {fd : FuncData} (F : FnP K "__getitem__" "Word.__getitem__" d_Word___getitem__ f fd) : Binds K fd ["self", "at"] [] := F.bindsN fun _ _ _ _ _ _ us hl => match us, hl with | [_, _], _ => rfl
theorem sc_Word___getitem__ : FnScope n_Word___getitem__ ["self", "at"] (defScope d_Word___getitem__) := ⟨rfl, rfl, rfl, by decide +kernel, rfl, by decide +kernel, by decide +kernel⟩
abbrev d_Word___eq__ : Stmt := inClass (top 11) 6
abbrev n_Word___eq__ : List Str := ["self", "other"]
def dd_Word___eq__ : He.DefD := ⟨("Word", some "__eq__"), "__eq__", "Word.__eq__", defArgs d_Word___eq__, defBody d_Word___eq__, defScope d_Word___eq__, [], []⟩
theorem bn_Word___eq__ {K : PySem.W.Frag} {f : Addr} {fd : FuncData} (F : FnP K "__eq__" "Word.__eq__" d_Word___eq__ f fd) : Binds K fd ["self", "other"] [] := F.bindsN fun _ _ _ _ _ _ us hl => match us, hl with | [_, _], _ => rfl
theorem sc_Word___eq__ : FnScope n_Word___eq__ ["self", "other"] (defScope d_Word___eq__) := ⟨rfl, rfl, rfl, by decide +kernel, rfl, by decide +kernel, by decide +kernel⟩
abbrev d_Word___le__ : Stmt := inClass (top 11) 7
abbrev n_Word___le__ : List Str := ["self", "other", "found", "letter"]
def dd_Word___le__ : He.DefD := ⟨("Word", some "__le__"), "__le__", "Word.__le__", defArgs d_Word___le__, defBody d_Word___le__, defScope d_Word___le__, [], []⟩
theorem bn_Word___le__ {K : PySem.W.Frag} {f : Addr} {fd : FuncData} (F : FnP K "__le__" "Word.__le__" d_Word___le__ f fd) : Binds K fd ["self", "other"] [] := F.bindsN fun _ _ _ _ _ _ us hl => match us, hl with | [_, _], _ => rfl
theorem sc_Word___le__ : FnScope n_Word___le__ ["self", "other"] (defScope d_Word___le__) := ⟨rfl, rfl, rfl, by decide +kernel, rfl, by decide +kernel, by decide +kernel⟩
abbrev d_Word___lt__ : Stmt := inClass (top 11) 8
abbrev n_Word___lt__ : List Str := ["self", "other"]
def dd_Word___lt__ : He.DefD := ⟨("Word", some "__lt__"), "__lt__", "Word.__lt__", defArgs d_Word___lt__, defBody d_Word___lt__, defScope d_Word___lt__, [], []⟩
theorem bn_Word___lt__ {K : PySem.W.Frag} {f : Addr} {fd : FuncData} (F : FnP K "__lt__" "Word.__lt__" d_Word___lt__ f fd) : Binds K fd ["self", "other"] [] := F.bindsN fun _ _ _ _ _ _ us hl => match us, hl with | [_, _], _ => rfl
theorem sc_Word___lt__ : FnScope n_Word___lt__ ["self", "other"] (defScope d_Word___lt__) := ⟨rfl, rfl, rfl, by decide +kernel, rfl, by decide +kernel, by decide +kernel⟩
abbrev d_Word___add__ : Stmt := inClass (top 11) 9
abbrev n_Word___add__ : List Str := ["self", "other"]
def dd_Word___add__ : He.DefD := ⟨("Word", some "__add__"), "__add__", "Word.__add__", defArgs d_Word___add__, defBody d_Word___add__, defScope d_Word___add__, [], []⟩
theorem bn_Word___add__ {K : PySem.W.Frag} {f : Addr} {fd : FuncData} (F : FnP K "__add__" "Word.__add__" d_Word___add__ f fd) : Binds K fd ["self", "other"] [] := F.bindsN fun _ _ _ _ _ _ us hl => match us, hl with | [_, _], _ => rfl
theorem sc_Word___add__ : FnScope n_Word___add__ ["self", "other"] (defScope d_Word___add__) := ⟨rfl, rfl, rfl, by decide +kernel, rfl, by decide +kernel, by decide +kernel⟩
abbrev d__law_cell : Stmt := top 13
abbrev n__law_cell : List Str := ["_law_script", "_law_k"]
def dd__law_cell : He.DefD := ⟨("_law_cell", none), "_law_cell", "_law_cell", defArgs d__law_cell, defBody d__law_cell, defScope d__law_cell, [], []⟩
theorem bn__law_cell {K : PySem.W.Frag} {f : Addr} {fd : FuncData} (F : FnP K "_law_cell" "_law_cell" d__law_cell f fd) : Binds K fd ["_law_script", "_law_k"] [] := F.bindsN fun _ _ _ _ _ _ us hl => match us, hl with | [_, _], _ => rfl
theorem sc__law_cell : FnScope n__law_cell ["_law_script", "_law_k"] (defScope d__law_cell) := ⟨rfl, rfl, rfl, by decide +kernel, rfl, by decide +kernel, by decide +kernel⟩
abbrev d__law_row : Stmt := top 14
abbrev n__law_row : List Str := ["_law_cell_here", "_law_count", "_law_row_here", "_law_left", "_law_great", "_law_k", "_law_mixed"]
def dd__law_row : He.DefD := ⟨("_law_row", none), "_law_row", "_law_row", defArgs d__law_row, defBody d__law_row, defScope d__law_row, [], []⟩
theorem bn__law_row {K : PySem.W.Frag} {f : Addr} {fd : FuncData} (F : FnP K "_law_row" "_law_row" d__law_row f fd) : Binds K fd ["_law_cell_here", "_law_count"] [] := F.bindsN fun _ _ _ _ _ _ us hl => match us, hl with | [_, _], _ => rfl
theorem sc__law_row : FnScope n__law_row ["_law_cell_here", "_law_count"] (defScope d__law_row) := ⟨rfl, rfl, rfl, by decide +kernel, rfl, by decide +kernel, by decide +kernel⟩
abbrev d__law_refused : Stmt := top 15
abbrev n__law_refused : List Str := ["_law_text", "e"]
def dd__law_refused : He.DefD := ⟨("_law_refused", none), "_law_refused", "_law_refused", defArgs d__law_refused, defBody d__law_refused, defScope d__law_refused, [], []⟩
theorem bn__law_refused {K : PySem.W.Frag} {f : Addr} {fd : FuncData} (F : FnP K "_law_refused" "_law_refused" d__law_refused f fd) : Binds K fd ["_law_text"] [] := F.bindsN fun _ _ _ _ _ _ us hl => match us, hl with | [_], _ => rfl
theorem sc__law_refused : FnScope n__law_refused ["_law_text"] (defScope d__law_refused) := ⟨rfl, rfl, rfl, by decide +kernel, rfl, by decide +kernel, by decide +kernel⟩
abbrev d__law_accepted : Stmt := top 16
abbrev n__law_accepted : List Str := ["_law_text", "_law_word", "_law_shown", "_law_k"]
def dd__law_accepted : He.DefD := ⟨("_law_accepted", none), "_law_accepted", "_law_accepted", defArgs d__law_accepted, defBody d__law_accepted, defScope d__law_accepted, [], []⟩
theorem bn__law_accepted {K : PySem.W.Frag} {f : Addr} {fd : FuncData} (F : FnP K "_law_accepted" "_law_accepted" d__law_accepted f fd) : Binds K fd ["_law_text"] [] := F.bindsN fun _ _ _ _ _ _ us hl => match us, hl with | [_], _ => rfl
theorem sc__law_accepted : FnScope n__law_accepted ["_law_text"] (defScope d__law_accepted) := ⟨rfl, rfl, rfl, by decide +kernel, rfl, by decide +kernel, by decide +kernel⟩
abbrev d_law : Stmt := top 17
abbrev n_law : List Str := ["_law_script", "_law_row_here", "_law_count", "_law_text", "_law_k", "_law_near", "_law_spoilt", "_law_place"]
def dd_law : He.DefD := ⟨("law", none), "law", "law", defArgs d_law, defBody d_law, defScope d_law, [], []⟩
theorem bn_law {K : PySem.W.Frag} {f : Addr} {fd : FuncData} (F : FnP K "law" "law" d_law f fd) : Binds K fd ["_law_script"] [] := F.bindsN fun _ _ _ _ _ _ us hl => match us, hl with | [_], _ => rfl
theorem sc_law : FnScope n_law ["_law_script"] (defScope d_law) := ⟨rfl, rfl, rfl, by decide +kernel, rfl, by decide +kernel, by decide +kernel⟩
def cellF (ns : List Int) (i : Nat) : Int := ns.getD i 0
theorem at_row {ns : List Int} {j : Int} (h0 : 0 ≤ j) (h : j < (ns.length : Int)) : atI ns j = some (cellF ns j.toNat) := by
  have hi : j.toNat < ns.length := by omega
  exact atI_nat' h0 (by simp [cellF, hi])
def spCell (K : PySem.W.Frag) : Sp := spF (γ := List Int × Nat) K (fun g => [⟨(Scr.mk g.1)⟩, ⟨(g.2 : Int)⟩]) (fun _ => True) (fun g => ⟨cellF g.1 g.2⟩)
section
variable {P : Program} {w : World} {K : PySem.W.Frag} {mg : Str → Option Value} {base : Heap} {f : Addr} {fd : FuncData}
theorem ok_law_cell (F : FnP K "_law_cell" "_law_cell" d__law_cell f fd) (hlen : mg "len" = none) : FnOk P w K mg base (L2.CX P w) 2 f fd ["_law_script", "_law_k"]
    (spCell K) := by
  refine fn_spM F sc__law_cell (fun _ => rfl) ?_
  rintro ⟨ns, i⟩ _ cdv A outer s H E R C ok
  show S _ [some ⟨(Scr.mk ns)⟩, some ⟨(i : Int)⟩] _ _ _
  refine S_if (T_cmp (E_var 1) (E_biR calR_len (E_var 0).scr hlen) cmp_ltI (nomark _)) (fun h => ?_) (fun h => ?_)
  · have h := of_decide_eq_true h
    have hi : i < ns.length := by omega
    exact S_ret (E_ix (E_var 0).scr (E_var 1) (atI_nat' (by omega) (a := ns[i]) (by simp [hi]))) ⟨by simp [cellF, hi], rfl⟩
  · have h := of_decide_eq_false h
    have hi : ns.length ≤ i := by omega
    exact S_nil (S_ret E_int ⟨by simp [cellF, hi], rfl⟩)
/-! the row of drawn numbers -/
def absI (c : Int) : Int := if c < 0 then -c else c
def mixF (c : Int) (k : Nat) : Int := ((((absI c * 48271 + ((k : Int) + 1) * 69621) % 2147483647) * ((absI c * 48271 + ((k : Int) + 1) * 69621) % 2147483647) + (k : Int) * 40692 + 13) % 2147483399) / 7 % 1000
def rowS (c : Int) : Nat → List Int × Int
  | 0 => ([], absI c)
  | k + 1 => if (decide ((10 : Int) ^ 18 ≤ absI c) && decide (0 < (rowS c k).2)) = true then ((rowS c k).1 ++ [(rowS c k).2 % 1000], (rowS c k).2 / 1000) else ((rowS c k).1 ++ [mixF c k], (rowS c k).2)
def rowF (c : Int) (n : Nat) : List Int := (rowS c n).1
def spRow (K : PySem.W.Frag) : Sp := spF (γ := Int × Nat) K (fun g => [⟨g.1⟩, ⟨(g.2 : Int)⟩]) (fun g => g.2 ≤ 1000) (fun g => ⟨rowF g.1 g.2⟩)
theorem rowS_len (c : Int) : ∀ n, (rowS c n).1.length = n
  | 0 => rfl
  | k + 1 => by unfold rowS; split <;> simp [rowS_len c k]
theorem rowF_len (c : Int) (n : Nat) : (rowF c n).length = n := rowS_len c n
theorem ok_law_row (F : FnP K "_law_row" "_law_row" d__law_row f fd) (habs : mg "abs" = none) (hrange : mg "range" = none) (hint : mg "int" = none) : FnOk P w K mg base (L2.CX P w) 2 f fd ["_law_cell_here", "_law_count"]
    (spRow K) := by
  refine fn_spM F sc__law_row (fun _ => rfl) ?_
  rintro ⟨c, n⟩ hn cdv A outer s H E R C ok
  have hn : n ≤ 1000 := hn
  show S _ [some ⟨c⟩, some ⟨(n : Int)⟩, none, none, none, none, none] _ _ _
  refine S_newL 2 ([] : List Int) ok.nd A_nil (fun l => ?_)
  refine S_set 3 ok.nd (E_bi cal_abs (A_cons (E_var 0) A_nil) habs) ?_
  refine S_set 4 ok.nd (E_cmp (E_var 3) (E_bin E_int E_int (bin_powI ⟨by decide, by decide, by decide⟩)) cmp_geI (nomark _)) ?_
  refine S_for ok (fun i env L => ∃ m : Option Ent, ∃ o : Option Ent, env = [some ⟨c⟩, some ⟨(n : Int)⟩, some ⟨(At.mk l)⟩, some ⟨(rowS c i).2⟩, some ⟨decide ((10 : Int) ^ 18 ≤ absI c)⟩, o, m] ∧ L = [Cell.lst l (rowS c i).1]) (EI_rng1 (E_var 1) hrange (by omega)) ⟨none, none, rfl, rfl⟩ ?_ ?_
  · rintro i a env' L' ha ⟨m, o, rfl, rfl⟩
    obtain ⟨hi, rfl⟩ := rng0_of ha
    refine ⟨_, _, G_name 5 ok.nd, ?_⟩
    refine S_if (T_w (T_and (T_val (E_var 4)) (fun _ => T_and1 (T_cmp (E_var 3) E_int cmp_gtI (nomark _))))) (fun h => ?_) (fun h => ?_)
    · refine S_app 0 (E_var 2) (E_bin (E_bi cal_intI (A_cons (E_var 3) A_nil) hint) E_int (bin_modI (by decide))) rfl (by rw [rowS_len, sizeLine_eq]; omega) ?_
      refine S_set 3 ok.nd (E_bin (E_var 3) E_int (bin_fdivI (by decide))) ?_
      have e : rowS c (i + 1) = ((rowS c i).1 ++ [(rowS c i).2 % 1000], (rowS c i).2 / 1000) := by rw [rowS, if_pos h]
      refine S_nil (S_nil ?_)
      simp only [e]
      exact ⟨_, _, rfl, rfl⟩
    · refine S_set 6 ok.nd (E_bin (E_bi cal_intI (A_cons (E_bin (E_bin (E_bi cal_abs (A_cons (E_var 0) A_nil) habs) E_int (bin_mulI (by unfold CMul; omega))) (E_bin (E_bin (E_var 5) E_int bin_addI) E_int (bin_mulI (by unfold CMul; omega))) bin_addI) A_nil) hint) E_int (bin_modI (by decide))) ?_
      refine S_set 6 ok.nd (E_bin (E_bi cal_intI (A_cons (E_bin (E_bin (E_bin (E_var 6) (E_var 6) (bin_mulI (by unfold CMul; omega))) (E_bin (E_var 5) E_int (bin_mulI (by unfold CMul; omega))) bin_addI) E_int bin_addI) A_nil) hint) E_int (bin_modI (by decide))) ?_
      refine S_app 0 (E_var 2) (E_bin (E_bi cal_intI (A_cons (E_bin (E_var 6) E_int (bin_fdivI (by decide))) A_nil) hint) E_int (bin_modI (by decide))) rfl (by rw [rowS_len, sizeLine_eq]; omega) ?_
      have e : rowS c (i + 1) = ((rowS c i).1 ++ [mixF c i], (rowS c i).2) := by rw [rowS, if_neg (by rw [h]; decide)]
      refine S_nil (S_nil ?_)
      simp only [e]
      exact ⟨_, _, rfl, rfl⟩
  · rintro env' L' ⟨m, o, rfl, rfl⟩
    rw [rng_len, Int.toNat_natCast]
    refine S_frz 2 0 rfl rfl ?_
    exact S_ret (E_var 2) ⟨rfl, rfl⟩
end

/-! ### words -/
def okC (c : Nat) : Bool := c == 68 || c == 85
def okW (t : Str) : Bool := t.cps.toList.all okC
structure Wd where
  t : Str
instance : Rep Wd := ⟨fun K F v w => ∃ p dx r, v = .ref p ∧ F p = some (.ins (He.ga K "Word") dx [("rows", .ref r)]) ∧ F r = some (.lst ((signs w.t).map V.str)) ∧ okW w.t = true ∧ w.t.length ≤ 12, fun e ⟨p, dx, r, h1, h2, h3, h4⟩ => ⟨p, dx, r, h1, e _ _ h2, e _ _ h3, h4⟩⟩
structure WordT (K : PySem.W.Frag) (mg : Str → Option Value) : Prop where
  cl : Cls K (He.ga K "Word")
  na : NoAttr K (He.ga K "Word") "rows"
  gW : mg "Word" = some (.ref (He.ga K "Word"))
  gS : mg "STEPS" = some (.ref (He.ga K "STEPS"))
  st : ∀ H, SqT K H (He.ga K "STEPS") ([("D" : Str), "U"].map V.str)
  cr : ∃ mc, ClX.CRead K (He.ga K "Word") mc ∧ ∃ u, ClX.CVal K (He.ga K "Word") mc "LONGEST" (.int 12) u
  ic : C8.InsC K (He.ga K "Word")
  sf : PySem.W.selfFirst K (He.ga K "Word") = true
  bw : ExcT K mg "BadWord" (He.ga K "BadWord")
  len : mg "len" = none
  list : mg "list" = none
  isi : mg "isinstance" = none
  str : mg "str" = none
theorem sign_in (c : Nat) : decide ((⟨#[c]⟩ : Str) ∈ [("D" : Str), "U"]) = okC c := by
  have h1 : ("D" : Str) = ⟨#[68]⟩ := by decide +kernel
  have h2 : ("U" : Str) = ⟨#[85]⟩ := by decide +kernel
  rw [h1, h2]
  unfold okC
  by_cases a : c = 68
  · subst a; simp
  · by_cases b : c = 85
    · subst b; simp
    · have e1 : (⟨#[c]⟩ : Str) ≠ ⟨#[68]⟩ := fun e => a (by injection e with e; simpa using e)
      have e2 : (⟨#[c]⟩ : Str) ≠ ⟨#[85]⟩ := fun e => b (by injection e with e; simpa using e)
      simp [a, b, e1, e2]
theorem signs_get {t : Str} {i : Nat} {a : Str} (h : (signs t)[i]? = some a) : ∃ c, t.cps.toList[i]? = some c ∧ a = ⟨#[c]⟩ := by
  unfold signs at h
  rw [List.getElem?_map] at h
  cases q : t.cps.toList[i]? with
  | none => rw [q] at h; cases h
  | some c => rw [q] at h; exact ⟨c, rfl, (Option.some.inj h).symm⟩
theorem signs_len (t : Str) : (signs t).length = t.length := by unfold signs; rw [List.length_map, Array.length_toList]; rfl
theorem okC_lt {c : Nat} (h : okC c = true) : c < 0x110000 := by
  unfold okC at h
  simp at h
  omega
theorem sok_W {t : Str} (h : okW t = true) (hl : t.length ≤ 12) : SOk t := ⟨Nat.le_trans hl (by decide), List.all_eq_true.mpr fun c hc => decide_eq_true (okC_lt (List.all_eq_true.mp h c hc))⟩
theorem sok_steps : ∀ z ∈ [("D" : Str), "U"], SOk z := fun z hz => by
  rcases List.mem_cons.mp hz with rfl | hz
  · exact ⟨by decide, by decide +kernel⟩
  · rw [List.mem_singleton.mp hz]; exact ⟨by decide, by decide +kernel⟩
theorem isI_Wd {K : PySem.W.Frag} {w : Wd} : IsI K ⟨w⟩ (He.ga K "Word") := fun F v ⟨p, dx, r, h1, h2, _⟩ => ⟨p, dx, _, h1, h2⟩
theorem wd_rows {K : PySem.W.Frag} {w : Wd} : ∀ F v, Rep.rp K F v w → ∃ p dx fs x, v = .ref p ∧ F p = some (.ins (He.ga K "Word") dx fs) ∧ fs.lookup ("rows" : Str) = some x ∧ Rep.rp K F x (signs w.t) := fun F v ⟨p, dx, r, h1, h2, h3, h4, h5⟩ =>
  ⟨p, dx, _, .ref r, h1, h2, by simp [List.lookup], r, _, rfl, h3, Pr.ofStrs _ (sok_signs (sok_W h4 h5)), by rw [signs_len]; exact Nat.le_trans h5 (by decide)⟩
def spWordInit (K : PySem.W.Frag) : Sp := spM (γ := Addr × Addr × Str) K (fun g => [⟨(At.mk g.1)⟩, ⟨g.2.2⟩]) (fun g => [Cell.obj g.1 (He.ga K "Word") g.2.1 []]) (fun _ => True)
  (fun g r L' => r = ⟨()⟩ ∧ (okW g.2.2 = true ∧ g.2.2.length ≤ 12) ∧ L' = [Cell.obj g.1 (He.ga K "Word") g.2.1 [("rows", ⟨signs g.2.2⟩)]])
  (fun g cls d L' => ¬ (okW g.2.2 = true ∧ g.2.2.length ≤ 12) ∧ cls = .ref (He.ga K "BadWord") ∧ d = none ∧ L' = [Cell.obj g.1 (He.ga K "Word") g.2.1 []])
section
variable {P : Program} {w : World} {K : PySem.W.Frag} {mg : Str → Option Value} {base : Heap} {f : Addr} {fd : FuncData}
theorem take_all_succ {l : List Nat} {i c : Nat} (h : l[i]? = some c) (h1 : (l.take i).all okC = true) (h2 : okC c = true) : (l.take (i + 1)).all okC = true := by
  rw [List.take_add_one, h]
  simp [List.all_append, h1, h2]
theorem ok_Word_init (Fn : FnP K "__init__" "Word.__init__" d_Word___init__ f fd) (T : WordT K mg) : FnOk P w K mg base (L2.CX P w) 2 f fd ["self", "text"] (spWordInit K) := by
  refine fn_spM Fn sc_Word___init__ (fun _ => rfl) ?_
  rintro ⟨p, dx, t⟩ _ cdv A outer s H E R C ok
  show S _ [some ⟨(At.mk p)⟩, some ⟨t⟩, none] [Cell.obj p (He.ga K "Word") dx []] _ _
  obtain ⟨mc, cr, u, cv⟩ := T.cr
  refine S_for ok (fun i env L => ∃ o : Option Ent, env = [some ⟨(At.mk p)⟩, some ⟨t⟩, o] ∧ L = [Cell.obj p (He.ga K "Word") dx []] ∧ (t.cps.toList.take i).all okC = true) (EI_str (E_var 1)) ⟨none, rfl, rfl, by simp⟩ ?_ ?_
  · rintro i a env' L' ha ⟨o, rfl, rfl, hall⟩
    obtain ⟨c, hc, rfl⟩ := signs_get ha
    refine ⟨_, _, G_name 2 ok.nd, ?_⟩
    refine S_if (T_cmp (E_var 2) (E_gloT T.gS T.st sok_steps) cmp_ninST rfl) (fun h => ?_) (fun h => ?_)
    · refine S_raise ok T.bw ⟨?_, rfl, rfl, rfl⟩
      rw [sign_in] at h
      rintro ⟨h1, _⟩
      unfold okW at h1
      have := List.all_eq_true.mp h1 c (List.mem_of_getElem? hc)
      rw [this] at h; cases h
    · rw [sign_in] at h
      refine S_nil (S_nil ⟨_, rfl, rfl, take_all_succ hc hall (by simpa using h)⟩)
  · rintro env' L' ⟨o, rfl, rfl, hall⟩
    rw [signs_len, show t.length = t.cps.toList.length from (Array.length_toList).symm, List.take_length] at hall
    refine S_if (T_cmp (E_bi cal_lenS (A_cons (E_var 1) A_nil) T.len) (E_cval cr cv (E_glo T.gW)) cmp_gtI (nomark _)) (fun h => ?_) (fun h => ?_)
    · refine S_raise ok T.bw ⟨?_, rfl, rfl, rfl⟩
      have h := of_decide_eq_true h
      rintro ⟨_, h2⟩
      have h2 : t.length ≤ 12 := h2
      omega
    · have h := of_decide_eq_false h
      refine S_nil (S_fld 0 T.cl T.na (E_var 0) (E_bi (cal_listS ok.calm) (A_cons (E_var 1) A_nil) T.list) rfl ?_)
      exact S_nil ⟨rfl, ⟨hall, by show t.length ≤ 12; omega⟩, rfl⟩
end
def wordFa : List He.Fa := [.glo "Word", .glo "STEPS", .cls "Word", .noat "Word" "rows", .glo "BadWord", .exc "BadWord", .free "len", .free "list", .free "isinstance", .free "str", .mkr "Word"]
def wordB (K : PySem.W.Frag) : Bool := faB wordFa K && (He.tupB K "STEPS" [.str "D", .str "U"] && (creadB "Word" K && (cvalB "Word" "LONGEST" (.int 12) K && (insB "Word" K && PySem.W.selfFirst K (He.ga K "Word")))))
theorem wordT_of {K : PySem.W.Frag} {h : Heap} {mg : Str → Option Value} (X : K.In h) (G : h.Ns mainGlobals mg) (c : wordB K = true) : WordT K mg ∧ Mk K (He.ga K "Word") (He.ma K (He.ga K "Word") "__init__") := by
  obtain ⟨c1, c⟩ := He.ba c
  obtain ⟨c2, c⟩ := He.ba c
  obtain ⟨c3, c⟩ := He.ba c
  obtain ⟨c4, c⟩ := He.ba c
  obtain ⟨c5, c6⟩ := He.ba c
  exact ⟨⟨He.cls_ok (faB_at c1 2), He.noat_ok (faB_at c1 3), He.glo_ok X G (faB_at c1 0), He.glo_ok X G (faB_at c1 1), fun H => He.tupB_ok c2 H, ⟨_, creadB_ok c3, cvalB_ok c4⟩, insB_ok c5, c6, excT_of X G (faB_at c1 4) (faB_at c1 5), He.free_ok X G (faB_at c1 6), He.free_ok X G (faB_at c1 7), He.free_ok X G (faB_at c1 8), He.free_ok X G (faB_at c1 9)⟩, He.mkr_ok (faB_at c1 10)⟩

theorem signs_cons (c : Nat) (l : List Nat) : signs ⟨(c :: l).toArray⟩ = ⟨#[c]⟩ :: signs ⟨l.toArray⟩ := by simp [signs]
theorem join_signs_aux : ∀ l : List Nat, (joinS "" (l.map fun c => (⟨#[c]⟩ : Str))).cps.toList = l
  | [] => rfl
  | [c] => rfl
  | c :: d :: l => by
    have ih := join_signs_aux (d :: l)
    show ((⟨#[c]⟩ : Str) ++ ("" : Str) ++ joinS "" ((d :: l).map fun c => (⟨#[c]⟩ : Str))).cps.toList = _
    rw [str_cps_append, str_cps_append, ih]
    rfl
theorem join_signs (t : Str) : joinS "" (signs t) = t := str_ext (join_signs_aux t.cps.toList)
theorem sum_ones (t : Str) : ((signs t).map (·.length)).sum = t.length := by
  have key : ∀ l : List Nat, ((l.map fun c => (⟨#[c]⟩ : Str)).map (·.length)).sum = l.length := by
    intro l
    induction l with
    | nil => rfl
    | cons c l ih =>
      rw [List.map_cons, List.map_cons, List.sum_cons, ih, List.length_cons]
      show 1 + l.length = _
      omega
  rw [show t.length = t.cps.toList.length from (Array.length_toList).symm]
  exact key _
/-- the words' own methods -/
def letterAt (w : Wd) (i : Nat) : Str := (signs w.t).getD i ""
/-- how far the letters of a are found in bs -/
def standN (as bs : List Str) : Nat := bs.foldl (fun (n : Nat) b => if decide ((n : Int) < (as.length : Int)) && decide (as.getD n "" = b) then n + 1 else n) 0
def stands (a b : Str) : Bool := decide (standN (signs a) (signs b) = (signs a).length)
def spWordStr (K : PySem.W.Frag) : Sp := spF (γ := Wd) K (fun w => [⟨w⟩]) (fun _ => True) (fun w => ⟨w.t⟩)
def spWordLen (K : PySem.W.Frag) : Sp := spF (γ := Wd) K (fun w => [⟨w⟩]) (fun _ => True) (fun w => ⟨(w.t.length : Int)⟩)
def spWordGet (K : PySem.W.Frag) : Sp := spF (γ := Wd × Nat) K (fun g => [⟨g.1⟩, ⟨(g.2 : Int)⟩]) (fun g => g.2 < g.1.t.length) (fun g => ⟨letterAt g.1 g.2⟩)
def spWordEq (K : PySem.W.Frag) : Sp := spF (γ := Wd × Wd) K (fun g => [⟨g.1⟩, ⟨g.2⟩]) (fun _ => True) (fun g => ⟨decide (g.1.t = g.2.t)⟩)
def spWordLe (K : PySem.W.Frag) : Sp := spF (γ := Wd × Wd) K (fun g => [⟨g.1⟩, ⟨g.2⟩]) (fun _ => True) (fun g => ⟨stands g.1.t g.2.t⟩)
def spWordLt (K : PySem.W.Frag) : Sp := spF (γ := Wd × Wd) K (fun g => [⟨g.1⟩, ⟨g.2⟩]) (fun _ => True) (fun g => ⟨(decide (g.1.t.length < g.2.t.length) && stands g.1.t g.2.t)⟩)
section
variable {P : Program} {w : World} {K : PySem.W.Frag} {mg : Str → Option Value} {base : Heap} {f : Addr} {fd : FuncData}
theorem wd_le {K F v} {w : Wd} (h : Rep.rp K F v w) : okW w.t = true ∧ w.t.length ≤ 12 := by obtain ⟨_, _, _, _, _, _, h4, h5⟩ := h; exact ⟨h4, h5⟩
/-- what the first argument's being a word tells -/
theorem fn_word {γ : Type} {x qual : Str} {params : Arguments} {body : List Stmt} {scope : Scope} {N ps : List Str} {k : Nat} {wd : γ → Wd} {arg : γ → List Ent} {pre : γ → Prop} {res : γ → Ent} (Fn : FnOk P w K mg base (L2.CX P w) k f fd ps (spF (γ := γ) K arg (fun g => pre g ∧ (wd g).t.length ≤ 12 ∧ okW (wd g).t = true) res)) (ha : ∀ g, ∃ rest, arg g = ⟨wd g⟩ :: rest) : FnOk P w K mg base (L2.CX P w) k f fd ps (spF K arg pre res) := by
  refine Fn.imp fun vs H Q E ⟨g, hp, R, F, o, rv, h⟩ => ⟨g, ⟨hp, ?_⟩, R, F, o, rv, h⟩
  obtain ⟨rest, e⟩ := ha g
  rw [e] at rv
  cases rv with
  | cons h1 _ => exact ⟨(wd_le h1).2, (wd_le h1).1⟩
theorem ok_Word_str (Fn : FnP K "__str__" "Word.__str__" d_Word___str__ f fd) (T : WordT K mg) : FnOk P w K mg base (L2.CX P w) 2 f fd ["self"] (spWordStr K) := by
  refine fn_word (wd := id) (x := "") (qual := "") (params := defArgs d_Word___str__) (body := []) (scope := defScope d_Word___str__) (N := []) (fn_spM Fn sc_Word___str__ (fun _ => rfl) ?_) fun g => ⟨[], rfl⟩
  rintro t ⟨_, ht, _⟩ cdv A outer s H E R C ok
  show S _ [some ⟨t⟩] _ _ _
  have ht : t.t.length ≤ 12 := ht
  refine S_ret (E_join (E_str) (E_fld T.cl T.na wd_rows (E_var 0)).imm ?_) ⟨by rw [join_signs], rfl⟩
  rw [sum_ones, signs_len]
  show t.t.length + t.t.length * 0 ≤ _
  omega
theorem ok_Word_len (Fn : FnP K "__len__" "Word.__len__" d_Word___len__ f fd) (T : WordT K mg) : FnOk P w K mg base (L2.CX P w) 2 f fd ["self"] (spWordLen K) := by
  refine fn_spM Fn sc_Word___len__ (fun _ => rfl) ?_
  rintro t _ cdv A outer s H E R C ok
  show S _ [some ⟨t⟩] _ _ _
  exact S_ret (E_biR calR_len (E_fld T.cl T.na wd_rows (E_var 0)).imm T.len) ⟨by rw [signs_len], rfl⟩
theorem ok_Word_get (Fn : FnP K "__getitem__" "Word.__getitem__" d_Word___getitem__ f fd) (T : WordT K mg) : FnOk P w K mg base (L2.CX P w) 2 f fd ["self", "at"] (spWordGet K) := by
  refine fn_spM Fn sc_Word___getitem__ (fun _ => rfl) ?_
  rintro ⟨t, i⟩ hi cdv A outer s H E R C ok
  show S _ [some ⟨t⟩, some ⟨(i : Int)⟩] _ _ _
  have hi : i < (signs t.t).length := by rw [signs_len]; exact hi
  exact S_ret (E_ix (E_fld T.cl T.na wd_rows (E_var 0)).imm (E_var 1) (atI_nat' (by omega) (a := (signs t.t)[i]) (by simp [hi]))) ⟨by simp [letterAt, hi], rfl⟩
theorem signs_inj {a b : Str} (h : signs a = signs b) : a = b := by rw [← join_signs a, ← join_signs b, h]
theorem ok_Word_eq (Fn : FnP K "__eq__" "Word.__eq__" d_Word___eq__ f fd) (T : WordT K mg) : FnOk P w K mg base (L2.CX P w) 2 f fd ["self", "other"] (spWordEq K) := by
  refine fn_spM Fn sc_Word___eq__ (fun _ => rfl) ?_
  rintro ⟨a, b⟩ _ cdv A outer s H E R C ok
  show S _ [some ⟨a⟩, some ⟨b⟩] _ _ _
  refine S_ret (E_and (E_bi (cal_isC T.ic isI_Wd) (A_cons (E_var 1) (A_cons (E_glo T.gW) A_nil)) T.isi) (fun _ => E_one (E_cmp (E_fld T.cl T.na wd_rows (E_var 0)) (E_fld T.cl T.na wd_rows (E_var 1)) (cmp_eqD ok.room) (nomark _)))) ⟨?_, rfl⟩
  show (⟨(true && decide (signs a.t = signs b.t))⟩ : Ent) = ⟨decide (a.t = b.t)⟩
  congr 1
  rw [Bool.true_and]
  by_cases h : a.t = b.t
  · simp [h]
  · rw [decide_eq_false h, decide_eq_false fun e => h (signs_inj e)]
theorem standN_le (as bs : List Str) : standN as bs ≤ as.length ∧ standN as bs ≤ bs.length := by
  have key : ∀ (bs : List Str) (n : Nat), n ≤ as.length → (bs.foldl (fun (n : Nat) b => if decide ((n : Int) < (as.length : Int)) && decide (as.getD n "" = b) then n + 1 else n) n) ≤ as.length ∧ (bs.foldl (fun (n : Nat) b => if decide ((n : Int) < (as.length : Int)) && decide (as.getD n "" = b) then n + 1 else n) n) ≤ n + bs.length := by
    intro bs
    induction bs with
    | nil => intro n h; exact ⟨h, Nat.le_refl _⟩
    | cons b bs ih =>
      intro n h
      rw [List.foldl_cons, List.length_cons]
      split
      · rename_i hc
        have h1 : (n : Int) < as.length := of_decide_eq_true (Bool.and_eq_true_iff.mp hc).1
        have := ih (n + 1) (by omega)
        exact ⟨this.1, by have := this.2; omega⟩
      · have := ih n h
        exact ⟨this.1, by have := this.2; omega⟩
  have := key bs 0 (Nat.zero_le _)
  exact ⟨this.1, by have h2 := this.2; rw [Nat.zero_add] at h2; exact h2⟩
theorem standN_take {as bs : List Str} {i : Nat} {b : Str} (h : bs[i]? = some b) : standN as (bs.take (i + 1)) = if decide ((standN as (bs.take i) : Int) < (as.length : Int)) && decide (as.getD (standN as (bs.take i)) "" = b) then standN as (bs.take i) + 1 else standN as (bs.take i) := by
  unfold standN
  rw [List.take_add_one, h, List.foldl_append]
  rfl
theorem ok_Word_le (Fn : FnP K "__le__" "Word.__le__" d_Word___le__ f fd) (T : WordT K mg) : FnOk P w K mg base (L2.CX P w) 2 f fd ["self", "other"] (spWordLe K) := by
  refine fn_spM Fn sc_Word___le__ (fun _ => rfl) ?_
  rintro ⟨a, b⟩ _ cdv A outer s H E R C ok
  show S _ [some ⟨a⟩, some ⟨b⟩, none, none] _ _ _
  refine S_set 2 ok.nd E_int ?_
  refine S_for ok (fun i env L => ∃ o : Option Ent, env = [some ⟨a⟩, some ⟨b⟩, some ⟨(standN (signs a.t) ((signs b.t).take i) : Int)⟩, o] ∧ L = []) (EI_list (E_fld T.cl T.na wd_rows (E_var 1))) ⟨none, rfl, rfl⟩ ?_ ?_
  · rintro i x env' L' hx ⟨o, rfl, rfl⟩
    refine ⟨_, _, G_name 3 ok.nd, ?_⟩
    refine S_if (T_w (T_and (T_cmp (E_var 2) (E_biR calR_len (E_fld T.cl T.na wd_rows (E_var 0)).imm T.len) cmp_ltI (nomark _)) (fun hb => T_and1 (T_cmp (E_ix (E_fld T.cl T.na wd_rows (E_var 0)).imm (E_var 2) (v := (signs a.t).getD (standN (signs a.t) ((signs b.t).take i)) "") ?_) (E_var 3) cmp_eqS (nomark _))))) (fun h => ?_) (fun h => ?_)
    · have hb := of_decide_eq_true hb
      have hb' : standN (signs a.t) ((signs b.t).take i) < (signs a.t).length := by omega
      exact atI_nat' (by omega) (by simp [hb'])
    · refine S_set 2 ok.nd (E_bin (E_var 2) E_int bin_addI) (S_nil (S_nil ⟨some ⟨x⟩, ?_, rfl⟩))
      rw [standN_take hx, if_pos h]
      rfl
    · refine S_nil (S_nil ⟨some ⟨x⟩, ?_, rfl⟩)
      rw [standN_take hx, if_neg (by rw [h]; decide)]
      rfl
  · rintro env' L' ⟨o, rfl, rfl⟩
    refine S_ret (E_cmp (E_var 2) (E_biR calR_len (E_fld T.cl T.na wd_rows (E_var 0)).imm T.len) cmp_eqI (nomark _)) ⟨?_, rfl⟩
    rw [List.take_length]
    unfold stands
    congr 1
    simp only [Int.natCast_inj]
theorem ok_Word_lt (Fn : FnP K "__lt__" "Word.__lt__" d_Word___lt__ f fd) (T : WordT K mg) (Le : Ms P w K mg base 2 (He.ga K "Word") "__le__" (spWordLe K)) : FnOk P w K mg base (L2.CX P w) 4 f fd ["self", "other"] (spWordLt K) := by
  refine fn_spM Fn sc_Word___lt__ (fun _ => rfl) ?_
  rintro ⟨a, b⟩ _ cdv A outer s H E R C ok
  show S _ [some ⟨a⟩, some ⟨b⟩] _ _ _
  refine S_ret (E_and (E_cmp (E_biR calR_len (E_fld T.cl T.na wd_rows (E_var 0)).imm T.len) (E_biR calR_len (E_fld T.cl T.na wd_rows (E_var 1)).imm T.len) cmp_ltI (nomark _)) (fun _ => E_one (E_cmp (E_var 0) (E_var 1) (cmp_own (a, b) ok.room Le rfl trivial isI_Wd isI_Wd) (nomark _)))) ⟨?_, rfl⟩
  show (⟨(decide (((signs a.t).length : Int) < ((signs b.t).length : Int)) && stands a.t b.t)⟩ : Ent) = ⟨(decide (a.t.length < b.t.length) && stands a.t b.t)⟩
  rw [signs_len, signs_len]
  simp only [Int.ofNat_lt]
end

/-! ### a word is made -/
def okT (t : Str) : Prop := okW t = true ∧ t.length ≤ 12
instance (t : Str) : Decidable (okT t) := inferInstanceAs (Decidable (_ ∧ _))
theorem okT_sok {t : Str} (h : okT t) : SOk t := sok_W h.1 h.2
theorem EM_Word {C : Cz} {k : Nat} {env : Env} {L : List Cell} {e : Expr} {p pos : Pos} {t : Str} (ok : C.Ok k) (M : Mks C.X.prog C.X.w C.X.K C.X.mg C.X.base 2 (He.ga C.X.K "Word") "Word" (spWordInit C.X.K)) (he : E C env L e ⟨t⟩) (hj : 3 ≤ k := by decide) (hg : Gl C.X "Word" := by rfl)
    (hs : starEach [e] C.X.env = [(false, eval e C.X.env)] := by rfl) : EM C env L (.Call (.Name "Word" p) [e] [] pos) (fun r L' => okT t ∧ r = ⟨(Wd.mk t)⟩ ∧ L' = L) (fun cls d L' => ¬ okT t ∧ cls = .ref (He.ga C.X.K "BadWord") ∧ d = none ∧ L' = L) := by
  have h := EM_make (pos := pos) (p := p) (δ := Str) (arg := fun t => [⟨t⟩]) (pre := fun _ => True) (post := fun p dx t r L' => r = ⟨()⟩ ∧ (okW t = true ∧ t.length ≤ 12) ∧ L' = [Cell.obj p (He.ga C.X.K "Word") dx [("rows", ⟨signs t⟩)]])
    (exc := fun p dx t cls d L' => ¬ (okW t = true ∧ t.length ≤ 12) ∧ cls = .ref (He.ga C.X.K "BadWord") ∧ d = none ∧ L' = [Cell.obj p (He.ga C.X.K "Word") dx []]) t ok M (fun _ _ _ _ _ h => h.1) (A_cons he A_nil hs) trivial hj hg (by decide) hs (by rfl)
  have h2 := EM_frzO (y := ⟨(Wd.mk t)⟩) (ι := Addr) (pre := fun _ => okT t) (c := fun q dx => Cell.obj q (He.ga C.X.K "Word") dx [("rows", ⟨signs t⟩)]) (EM.imp h (fun r L' ⟨p, dx, L1, h1, h2, h3⟩ => ⟨p, dx, h1, h2.2.1, by rw [h3, h2.2.2]; rfl⟩) (fun cls d L' h => h)) fun q dx ht F H F' ho x hj => ?_
  · refine EM.dropX (EM.imp h2 (fun r L' h => ⟨h.1.elim fun _ z => z, h.2⟩) fun _ _ _ h => h) ?_
    rintro cls d L' ⟨p, dx, L1, ⟨h1, h2, h3, rfl⟩, rfl⟩
    exact ⟨_, L, rfl, h1, h2, h3, rfl⟩
  · obtain ⟨vs, h1, h2, h3⟩ := ho
    cases h3 with
    | cons hf hr =>
      cases hr
      rename_i a
      obtain ⟨n, v⟩ := a
      obtain ⟨rfl, rr⟩ := hf
      obtain ⟨r, us, rfl, h4, h5, h6⟩ := rr
      rw [Pr.strs h5] at h4
      exact ⟨q, dx, r, rfl, by rw [hj q List.mem_cons_self]; exact h1, x _ _ h4, ht.1, ht.2⟩
theorem EM_Word' {C : Cz} {k : Nat} {env : Env} {L : List Cell} {e : Expr} {p pos : Pos} {t : Str} (ok : C.Ok k) (M : Mks C.X.prog C.X.w C.X.K C.X.mg C.X.base 2 (He.ga C.X.K "Word") "Word" (spWordInit C.X.K)) (ht : okT t) (he : E C env L e ⟨t⟩) (hj : 3 ≤ k := by decide) (hg : Gl C.X "Word" := by rfl)
    (hs : starEach [e] C.X.env = [(false, eval e C.X.env)] := by rfl) : EM C env L (.Call (.Name "Word" p) [e] [] pos) (fun r L' => r = ⟨(Wd.mk t)⟩ ∧ L' = L) (fun _ _ _ => False) :=
  EM.imp (EM_Word ok M he hj hg hs) (fun _ _ h => h.2) (fun _ _ _ h => h.1 ht)
theorem okW_append {a b : Str} (h1 : okW a = true) (h2 : okW b = true) : okW (a ++ b) = true := by
  unfold okW at *
  rw [str_cps_append, List.all_append, h1, h2]; rfl
theorem okT_join {ys : List Str} (h : ∀ y ∈ ys, okW y = true ∧ y.length = 1) (hl : ys.length ≤ 12) : okT (joinS "" ys) := by
  have key : ∀ ys : List Str, (∀ y ∈ ys, okW y = true ∧ y.length = 1) → okW (joinS "" ys) = true := by
    intro ys
    induction ys with
    | nil => intro _; exact (by decide +kernel : okW "" = true)
    | cons y ys ih =>
      intro h
      cases ys with
      | nil => exact (h y List.mem_cons_self).1
      | cons z ys =>
        show okW (y ++ ("" : Str) ++ joinS "" (z :: ys)) = true
        exact okW_append (okW_append (h y List.mem_cons_self).1 (by decide +kernel)) (ih fun y hy => h y (List.mem_cons_of_mem _ hy))
  refine ⟨key ys h, ?_⟩
  have h1 := joinS_len "" ys
  have h2 : (ys.map (·.length)).sum = ys.length := by
    clear h1 hl key
    induction ys with
    | nil => rfl
    | cons y ys ih =>
      rw [List.map_cons, List.sum_cons, ih fun y hy => h y (List.mem_cons_of_mem _ hy), (h y List.mem_cons_self).2, List.length_cons]
      omega
  rw [h2] at h1
  have h3 : ys.length + ys.length * ("" : Str).length = ys.length := by show ys.length + ys.length * 0 = _; omega
  omega
theorem okW_sub {a : Str} {l : List Nat} (h : okW a = true) (hs : ∀ c ∈ l, c ∈ a.cps.toList) {b : Str} (hb : b.cps.toList = l) : okW b = true := by
  unfold okW at *
  rw [hb]
  exact List.all_eq_true.mpr fun c hc => List.all_eq_true.mp h c (hs c hc)
theorem okW_sign {a : Str} (h : okW a = true) {i : Nat} (hi : i < a.cps.toList.length) : okW ⟨#[a.cps.toList.getD i 0]⟩ = true := by
  refine okW_sub (l := [a.cps.toList.getD i 0]) h (fun c hc => ?_) rfl
  rw [List.mem_singleton.mp hc, List.getD_eq_getElem?_getD, List.getElem?_eq_getElem hi]
  exact List.getElem_mem hi

/-! ### words: iteration, sum -/
def spWordIter (K : PySem.W.Frag) : Nat → Sp := spIt (γ := Wd) K (fun w => ⟨w⟩) (fun _ => []) (fun _ => True) (fun w => signs w.t)
def spWordAdd (K : PySem.W.Frag) : Sp := spM (γ := Wd × Wd) K (fun g => [⟨g.1⟩, ⟨g.2⟩]) (fun _ => []) (fun g => okT g.1.t ∧ okT g.2.t) (fun g r L' => okT (g.1.t ++ g.2.t) ∧ r = ⟨(Wd.mk (g.1.t ++ g.2.t))⟩ ∧ L' = []) (fun g cls d L' => ¬ okT (g.1.t ++ g.2.t) ∧ cls = .ref (He.ga K "BadWord") ∧ d = none ∧ L' = [])
theorem okT_append {a b : Str} (ha : okT a) (hb : okT b) (h : a.length + b.length ≤ 12) : okT (a ++ b) := ⟨okW_append ha.1 hb.1, by rw [str_len_append]; exact h⟩
theorem okT_len {a b : Str} (h : okT (a ++ b)) : a.length + b.length ≤ 12 := by have := h.2; rw [str_len_append] at this; exact this
section
variable {P : Program} {w : World} {K : PySem.W.Frag} {mg : Str → Option Value} {base : Heap} {f : Addr} {fd : FuncData}
theorem ok_Word_iter (Fn : FnP K "__iter__" "Word.__iter__" d_Word___iter__ f fd) (T : WordT K mg) (hi : mg "iter" = none) : FnN P w K mg base (L2.CX P w) 2 f fd ["self"] (spWordIter K) := by
  refine fn_it Fn sc_Word___iter__ rfl hi ?_
  rintro t _ cdv A outer s H E R C ok
  exact ⟨_, _, _, _, rfl, rfl, rfl, rfl, E_fld T.cl T.na wd_rows (E_var 0)⟩
theorem ok_Word_add (Fn : FnP K "__add__" "Word.__add__" d_Word___add__ f fd) (T : WordT K mg) (Mw : Mks P w K mg base 2 (He.ga K "Word") "Word" (spWordInit K)) (St : Ms P w K mg base 2 (He.ga K "Word") "__str__" (spWordStr K)) : FnOk P w K mg base (L2.CX P w) 5 f fd ["self", "other"] (spWordAdd K) := by
  refine fn_spM Fn sc_Word___add__ (fun _ => rfl) ?_
  rintro ⟨a, b⟩ ⟨ha, hb⟩ cdv A outer s H E R C ok
  have ha : okT a.t := ha
  have hb : okT b.t := hb
  show S _ [some ⟨a⟩, some ⟨b⟩] _ _ _
  refine S_retM (EM_Word (t := a.t ++ b.t) ok Mw (E_bin (E_bi (cal_strO a ok.room St rfl trivial isI_Wd) (A_cons (E_var 0) A_nil) T.str) (E_bi (cal_strO b ok.room St rfl trivial isI_Wd) (A_cons (E_var 1) A_nil) T.str) (bin_addS ?_))) ?_ ?_
  · have h1 := ha.2
    have h2 := hb.2
    rw [sizeLine_eq]; omega
  · rintro r L' h
    exact h
  · rintro cls d L' h
    exact h
end

/-! ### the law's own words -/
def lett (i : Int) : Str := if i = 0 then "U" else "D"
def wordL (row : List Int) : Nat → Str
  | 0 => ""
  | k + 1 => wordL row k ++ lett (cellF row (1 + k) % 2)
def wordF (c : Int) (m : Nat) : Str := wordL (rowF c (1 + m)) (cellF (rowF c (1 + m)) 0 % ((m : Int) + 1)).toNat
theorem lett_okW (i : Int) : okW (lett i) = true ∧ (lett i).length = 1 := by
  unfold lett
  split <;> exact ⟨by decide +kernel, by decide +kernel⟩
theorem wordL_ok (row : List Int) : ∀ k, okW (wordL row k) = true ∧ (wordL row k).length = k
  | 0 => ⟨show okW "" = true by decide +kernel, rfl⟩
  | k + 1 => by
    obtain ⟨h1, h2⟩ := wordL_ok row k
    obtain ⟨h3, h4⟩ := lett_okW (cellF row (1 + k) % 2)
    exact ⟨okW_append h1 h3, by unfold wordL; rw [str_len_append, h2, h4]⟩
theorem wordF_ok (c : Int) (m : Nat) : okW (wordF c m) = true ∧ (wordF c m).length ≤ m := by
  obtain ⟨h1, h2⟩ := wordL_ok (rowF c (1 + m)) (cellF (rowF c (1 + m)) 0 % ((m : Int) + 1)).toNat
  refine ⟨h1, ?_⟩
  unfold wordF
  rw [h2]
  have := Int.emod_lt_of_pos (cellF (rowF c (1 + m)) 0) (show (0 : Int) < (m : Int) + 1 by omega)
  omega
theorem ud_at {i : Int} : atI ("UD" : Str).cps.toList (i % 2) = some (if i % 2 = 0 then 85 else 68) := by
  have h1 : 0 ≤ i % 2 := Int.emod_nonneg _ (by decide)
  have h2 : i % 2 < 2 := Int.emod_lt_of_pos _ (by decide)
  rcases (show i % 2 = 0 ∨ i % 2 = 1 by omega) with h | h <;> rw [h] <;> decide +kernel
theorem lett_eq (i : Int) : lett i = ⟨#[if i = 0 then 85 else 68]⟩ := by
  unfold lett
  split <;> decide +kernel
def spLawWord (K : PySem.W.Frag) : Sp := spF (γ := Int × Nat) K (fun g => [⟨g.1⟩, ⟨(g.2 : Int)⟩]) (fun g => g.2 ≤ 900) (fun g => ⟨wordF g.1 g.2⟩)
def spStands (K : PySem.W.Frag) : Sp := spF (γ := Str × Str) K (fun g => [⟨g.1⟩, ⟨g.2⟩]) (fun _ => True) (fun g => ⟨stands g.1 g.2⟩)
def spTruth (K : PySem.W.Frag) : Sp := spF (γ := Bool × Bool) K (fun g => [⟨g.1⟩, ⟨g.2⟩]) (fun _ => True) (fun g => ⟨(g.1 == g.2)⟩)
section
variable {P : Program} {w : World} {K : PySem.W.Frag} {mg : Str → Option Value} {base : Heap} {f : Addr} {fd : FuncData}
end

/-! ### the law -/
def errs6 : List Str := ["BadLabel", "BadNode", "BadQuestion", "NoSuchEdge", "NoSuchNode", "TooLarge"]
structure K1T (K : PySem.W.Frag) (mg : Str → Option Value) : Prop where
  lb : mg "LooksBackError" = some (.ref (He.ga K "LooksBackError"))
  e0 : mg "BadLabel" = some (.ref (He.ga K "BadLabel"))
  e1 : mg "BadNode" = some (.ref (He.ga K "BadNode"))
  e2 : mg "BadQuestion" = some (.ref (He.ga K "BadQuestion"))
  e3 : mg "NoSuchEdge" = some (.ref (He.ga K "NoSuchEdge"))
  e4 : mg "NoSuchNode" = some (.ref (He.ga K "NoSuchNode"))
  e5 : mg "TooLarge" = some (.ref (He.ga K "TooLarge"))
  ve : mg "ValueError" = none
  ex : PySem.W.exmOne K (.ref (He.ga K "BadWord")) (.ref (He.ga K "BadWord")) = some true
  ec : ExcC K (He.ga K "BadWord")
  kb : PySem.W.kitOne K (.ref (He.ga K "BadWord")) (.ref (He.ga K "LooksBackError")) = some true
  kv : PySem.W.kitOne K (.ref (He.ga K "BadWord")) (.type "ValueError") = some true
  ka : PySem.W.kitAny K (.ref (He.ga K "BadWord")) (errs6.map fun y => Value.ref (He.ga K y)) = some false
def k1B (K : PySem.W.Frag) : Bool := faB [.glo "LooksBackError", .glo "BadLabel", .glo "BadNode", .glo "BadQuestion", .glo "NoSuchEdge", .glo "NoSuchNode", .glo "TooLarge", .free "ValueError", .exm "BadWord" "BadWord" true] K && (excCB "BadWord" K && (kitOB "BadWord" "LooksBackError" true K && (kitTB "BadWord" "ValueError" true K && kitAB "BadWord" errs6 false K)))
theorem k1T_of {K : PySem.W.Frag} {h : Heap} {mg : Str → Option Value} (X : K.In h) (G : h.Ns mainGlobals mg) (c : k1B K = true) : K1T K mg := by
  obtain ⟨c1, c⟩ := He.ba c
  obtain ⟨c2, c⟩ := He.ba c
  obtain ⟨c3, c⟩ := He.ba c
  obtain ⟨c4, c5⟩ := He.ba c
  exact ⟨He.glo_ok X G (faB_at c1 0), He.glo_ok X G (faB_at c1 1), He.glo_ok X G (faB_at c1 2), He.glo_ok X G (faB_at c1 3), He.glo_ok X G (faB_at c1 4), He.glo_ok X G (faB_at c1 5), He.glo_ok X G (faB_at c1 6), He.free_ok X G (faB_at c1 7), He.exm_ok (faB_at c1 8), excCB_ok c2, kitOB_ok c3, kitTB_ok c4, kitAB_ok c5⟩
def textL (row : List Int) : Nat → Str
  | 0 => ""
  | k + 1 => textL row k ++ lett (cellF row (3 + k) % 2)
theorem textL_ok (row : List Int) : ∀ k, okW (textL row k) = true ∧ (textL row k).length = k
  | 0 => ⟨show okW "" = true by decide +kernel, rfl⟩
  | k + 1 => by
    obtain ⟨h1, h2⟩ := textL_ok row k
    obtain ⟨h3, h4⟩ := lett_okW (cellF row (3 + k) % 2)
    exact ⟨okW_append h1 h3, by unfold textL; rw [str_len_append, h2, h4]⟩
theorem bad_at {i : Int} : ∃ c : Nat, atI ("ud X-1*|[~" : Str).cps.toList (i % 10) = some c ∧ okC c = false ∧ c < 0x110000 := by
  have h1 : 0 ≤ i % 10 := Int.emod_nonneg _ (by decide)
  have h2 : i % 10 < 10 := Int.emod_lt_of_pos _ (by decide)
  have key : ∀ n : Nat, n < 10 → ∃ c : Nat, atI ("ud X-1*|[~" : Str).cps.toList (n : Int) = some c ∧ okC c = false ∧ c < 0x110000 := by
    have k2 : ∀ n : Nat, n < 10 → (match atI ("ud X-1*|[~" : Str).cps.toList (n : Int) with | some c => !okC c && decide (c < 0x110000) | none => false) = true := by decide +kernel
    intro n hn
    have := k2 n hn
    cases q : atI ("ud X-1*|[~" : Str).cps.toList (n : Int) with
    | none => rw [q] at this; cases this
    | some c =>
      rw [q] at this
      obtain ⟨g1, g2⟩ := Bool.and_eq_true_iff.mp this
      exact ⟨c, rfl, by simpa using g1, of_decide_eq_true g2⟩
  obtain ⟨c, h⟩ := key (i % 10).toNat (by omega)
  rw [Int.toNat_of_nonneg h1] at h
  exact ⟨c, h⟩
theorem okW_part {a b : Str} (h : okW (a ++ b) = true) : okW a = true ∧ okW b = true := by
  unfold okW at *
  rw [str_cps_append, List.all_append] at h
  exact Bool.and_eq_true_iff.mp h
def spRefused (K : PySem.W.Frag) : Sp := spF (γ := Str) K (fun t => [⟨t⟩]) (fun t => ¬ okT t) (fun _ => ⟨true⟩)
def spAccepted (K : PySem.W.Frag) : Sp := spF (γ := Str) K (fun t => [⟨t⟩]) (fun t => okT t) (fun _ => ⟨true⟩)
section
variable {P : Program} {w : World} {K : PySem.W.Frag} {mg : Str → Option Value} {base : Heap} {f : Addr} {fd : FuncData}
theorem ok_law_refused (Fn : FnP K "_law_refused" "_law_refused" d__law_refused f fd) (T : WordT K mg) (T1 : K1T K mg) (Mw : Mks P w K mg base 2 (He.ga K "Word") "Word" (spWordInit K)) : FnOk P w K mg base (L2.CX P w) 5 f fd ["_law_text"] (spRefused K) := by
  refine fn_spM Fn sc__law_refused (fun _ => rfl) ?_
  rintro t no cdv A outer s H E R C ok
  have no : ¬ okT t := no
  show S _ [some ⟨t⟩, none] _ _ _
  refine S_try (cv := .ref (He.ga K "BadWord")) 1 ok (fun cls d env L => cls = .ref (He.ga K "BadWord") ∧ d = none ∧ env = [some ⟨t⟩, none] ∧ L = []) ⟨rfl, by decide, Or.inl T.bw.g⟩ ?_ ?_
  · intro W pn xe ok2
    refine S_exprM (EM_Word ok2 Mw (E_var 0)) ?_ ?_
    · rintro r L' ⟨h, _⟩
      exact (no h).elim
    · rintro cls d L' ⟨_, rfl, rfl, rfl⟩
      exact ⟨rfl, rfl, rfl, rfl⟩
  · rintro cls d env' L' ⟨rfl, rfl, rfl, rfl⟩
    refine ⟨true, T1.ex, fun _ a0 oe pn hz hf => ?_, fun h => by cases h⟩
    refine S_if (T_val (E_isET (cs := [⟨He.ga K "BadLabel"⟩, ⟨He.ga K "BadNode"⟩, ⟨He.ga K "BadQuestion"⟩, ⟨He.ga K "NoSuchEdge"⟩, ⟨He.ga K "NoSuchNode"⟩, ⟨He.ga K "TooLarge"⟩]) T1.ec hz hf T1.ka (E_var 1) (E_tupL _ (A_cons (E_glo T1.e0) (A_cons (E_glo T1.e1) (A_cons (E_glo T1.e2) (A_cons (E_glo T1.e3) (A_cons (E_glo T1.e4) (A_cons (E_glo T1.e5) A_nil)))))) (by show 6 ≤ sizeLine; decide)) T.isi)) (fun h => by cases h) (fun _ => ?_)
    refine S_nil (S_ret (E_and (E_isEg T1.ec hz hf T1.kb (E_var 1) T1.lb T.isi) (fun _ => E_one (E_isEb (Y := "ValueError") T1.ec hz hf T1.kv (E_var 1) T1.ve (by decide +kernel) T.isi))) ⟨rfl, rfl⟩)
theorem ok_law_accepted (Fn : FnP K "_law_accepted" "_law_accepted" d__law_accepted f fd) (T : WordT K mg) (hr : mg "range" = none) (Mw : Mks P w K mg base 2 (He.ga K "Word") "Word" (spWordInit K)) (St : Ms P w K mg base 2 (He.ga K "Word") "__str__" (spWordStr K)) (Ln : Ms P w K mg base 2 (He.ga K "Word") "__len__" (spWordLen K)) (Ge : Ms P w K mg base 2 (He.ga K "Word") "__getitem__" (spWordGet K)) (It : Mi P w K mg base 2 (He.ga K "Word") (spWordIter K)) : FnOk P w K mg base (L2.CX P w) 6 f fd ["_law_text"] (spAccepted K) := by
  refine fn_spM Fn sc__law_accepted (fun _ => rfl) ?_
  rintro t kt cdv A outer s H E R C ok
  have kt : okT t := kt
  have lt := kt.2
  show S _ [some ⟨t⟩, none, none, none] _ _ _
  refine S_set 1 ok.nd (EM.toE (EM_Word' ok Mw kt (E_var 0))) ?_
  refine S_set 2 ok.nd (E_bi (cal_strO (Wd.mk t) ok.room St rfl trivial isI_Wd) (A_cons (E_var 1) A_nil) T.str) ?_
  refine S_if (T_w (T_or (T_not (T_val (E_bi (cal_isi rfl) (A_cons (E_var 2) (A_cons (E_ty boot_strx T.str) A_nil)) T.isi))) (fun _ => T_or (T_cmp (E_var 2) (E_var 0) cmp_neS (nomark _)) (fun _ => T_or1 (T_cmp (E_bi (cal_lenO (Wd.mk t) ok.room Ln rfl trivial isI_Wd ⟨Int.natCast_nonneg _, by show (t.length : Int) < 2 ^ 63; omega⟩) (A_cons (E_var 1) A_nil) T.len) (E_bi cal_lenS (A_cons (E_var 0) A_nil) T.len) cmp_neI (nomark _)))))) (fun h => ?_) (fun _ => ?_)
  · have h : (!true || (!decide (t = t) || !decide ((t.length : Int) = (t.length : Int)))) = true := h
    rw [decide_eq_true rfl, decide_eq_true rfl] at h; cases h
  have ls : ((t.length : Int)).toNat = t.length := Int.toNat_natCast _
  refine S_nil (S_ret (E_and (E_cmp (E_lc [("_law_k", 3)] (fun k : Int => letterAt (Wd.mk t) k.toNat) (fun _ => true) ok (EI_rng1 (E_bi cal_lenS (A_cons (E_var 0) A_nil) T.len) hr (by omega)) ?_ (blkOk_by (by rfl))) (E_bi (cal_listS ok.calm) (A_cons (E_var 0) A_nil) T.list) (cmp_eqD ok.room) (nomark _))
    (fun _ => E_one (E_cmp (E_listO (Wd.mk t) (Wd.mk t) ok It Ln (LR := []) (E_var 1) trivial (List.Perm.refl _) (Seen.of isI_Wd) rfl trivial rfl ⟨Int.natCast_nonneg _, by show (t.length : Int) ≤ sizeLine; rw [sizeLine_eq]; omega⟩ T.list) (E_bi (cal_listS ok.calm) (A_cons (E_var 0) A_nil) T.list) (cmp_eqD ok.room) (nomark _)))) ⟨?_, rfl⟩)
  · intro i a ha
    obtain ⟨h1, rfl⟩ := rng0_of ha
    rw [ls] at h1
    refine ⟨_, _, ?_, fun R s H C0 cl fp okb => ⟨G_name 3 okb.nd, Ts_nil, fun _ => ?_⟩⟩
    · intro x hx
      exact hx
    · exact E_ixO (Wd.mk t, i) okb Ge rfl h1 isI_Wd (E_var 1) (E_var 3)
  · have e : picks (fun k : Int => letterAt (Wd.mk t) k.toNat) (fun _ => true) (rng 0 ((t.length : Int)).toNat) = signs t := by
      rw [ls]
      unfold picks rng
      rw [List.filter_eq_self.mpr fun _ _ => rfl, List.map_map]
      refine List.ext_getElem? fun i => ?_
      rw [List.getElem?_map]
      by_cases hi : i < t.length
      · rw [List.getElem?_range hi]
        have h2 : i < (signs t).length := by rw [signs_len]; exact hi
        rw [List.getElem?_eq_getElem h2]
        show some (letterAt (Wd.mk t) ((0 : Int) + (i : Int)).toNat) = _
        rw [Int.zero_add, Int.toNat_natCast]
        unfold letterAt
        rw [List.getD_eq_getElem?_getD, List.getElem?_eq_getElem h2]; rfl
      · rw [List.getElem?_eq_none (by rw [List.length_range]; omega), List.getElem?_eq_none (by rw [signs_len]; omega)]; rfl
    show (⟨(decide (picks (fun k : Int => letterAt (Wd.mk t) k.toNat) (fun _ => true) (rng 0 ((t.length : Int)).toNat) = signs t) && decide (signs t = signs t))⟩ : Ent) = ⟨true⟩
    rw [decide_eq_true e, decide_eq_true rfl]; rfl
end
section
variable {P : Program} {w : World} {K : PySem.W.Frag} {mg : Str → Option Value} {base : Heap} {f : Addr} {fd : FuncData}
theorem ok_law (Fn : FnP K "law" "law" d_law f fd) (T : WordT K mg) (hr : mg "range" = none) (hi : mg "int" = none) (Ce : Hs P w K mg base 2 "_law_cell" (spCell K)) (Ro : Hs P w K mg base 2 "_law_row" (spRow K)) (Re : Hs P w K mg base 5 "_law_refused" (spRefused K)) (Ac : Hs P w K mg base 6 "_law_accepted" (spAccepted K)) :
    FnOk P w K mg base (L2.CX P w) 8 f fd ["_law_script"] (spLaw K) := by
  refine fn_spM Fn sc_law (fun _ => rfl) ?_
  rintro ns _ cdv A outer s H E R C ok
  show S _ [some ⟨(Scr.mk ns)⟩, none, none, none, none, none, none, none] _ _ _
  obtain ⟨ro, hro⟩ : ∃ t, t = rowF (cellF ns 0) 18 := ⟨_, rfl⟩
  have kr : ro.length = 18 := by rw [hro]; exact rowF_len _ _
  refine S_set 1 ok.nd (r := ⟨ro⟩) (by rw [hro]; exact E_call (cellF ns 0, 18) ok Ro (A_cons (E_call (ns, 0) ok Ce (A_cons (E_var 0) (A_cons E_int A_nil)) trivial) (A_cons E_int A_nil)) (by show 18 ≤ 1000; decide)) ?_
  clear hro
  obtain ⟨n, hn⟩ : ∃ n : Nat, (n : Int) = cellF ro 0 % 15 := ⟨(cellF ro 0 % 15).toNat, Int.toNat_of_nonneg (Int.emod_nonneg _ (by decide))⟩
  have ln : n ≤ 14 := by have := Int.emod_lt_of_pos (cellF ro 0) (show (0 : Int) < 15 by decide); omega
  refine S_set 2 ok.nd (r := ⟨(n : Int)⟩) (by rw [hn]; exact E_bin (E_bi cal_intI (A_cons (E_ix (E_var 1).imm E_int (at_row (by decide) (by rw [kr]; decide))) A_nil) hi) E_int (bin_modI (by decide))) ?_
  refine S_set 3 ok.nd E_str ?_
  refine S_for ok (fun i env L => ∃ o : Option Ent, env = [some ⟨(Scr.mk ns)⟩, some ⟨ro⟩, some ⟨(n : Int)⟩, some ⟨textL ro i⟩, o, none, none, none] ∧ L = []) (EI_rng1 (E_var 2) hr (by omega)) ⟨none, rfl, rfl⟩ ?_ ?_
  · rintro i a env' L' ha ⟨o, rfl, rfl⟩
    obtain ⟨hi', rfl⟩ := rng0_of ha
    have hi' : i < n := hi'
    refine ⟨_, _, G_name 4 ok.nd, ?_⟩
    refine S_set 3 ok.nd (E_bin (E_var 3) (E_ixS (z := "UD") E_str (E_bin (E_bi cal_intI (A_cons (E_ix (E_var 1).imm (E_bin E_int (E_var 4) bin_addI) (at_row (by omega) (by rw [kr]; omega))) A_nil) hi) E_int (bin_modI (by decide))) ud_at) (bin_addS ?_)) (S_nil ⟨some ⟨(i : Int)⟩, ?_, rfl⟩)
    · have h1 := (textL_ok ro i).2
      show (textL ro i).length + 1 ≤ _
      rw [h1, sizeLine_eq]; omega
    · have e : (3 + (i : Int)).toNat = 3 + i := by omega
      rw [show textL ro (i + 1) = textL ro i ++ lett (cellF ro (3 + i) % 2) from rfl, lett_eq, ← e]
      rfl
  rintro env' L' ⟨o, rfl, rfl⟩
  rw [rng_len, Int.toNat_natCast]
  obtain ⟨kt, lt⟩ := textL_ok ro n
  generalize textL ro n = t at kt lt ⊢
  refine S_set 5 ok.nd (E_var 3) ?_
  refine S_set 6 ok.nd (E_and (E_cmp (E_bin (E_bi cal_intI (A_cons (E_ix (E_var 1).imm E_int (at_row (by decide) (by rw [kr]; decide))) A_nil) hi) E_int (bin_modI (by decide))) E_int cmp_eqI (nomark _)) (fun _ => E_one (E_cmp (E_var 2) E_int cmp_gtI (nomark _)))) ?_
  generalize hsp : (decide (cellF ro (Int.toNat 1) % 4 = 1) && decide ((0 : Int) < (n : Int))) = sp
  refine S_ifM (fun env L => ∃ (t2 near : Str) (pl : Option Ent), (sp = true → ¬ okT t2) ∧ (sp = false → t2 = t) ∧ (12 < n → ¬ okT t2) ∧ okW near = true ∧ near.length = n ∧ (sp = false → near = t) ∧ env = [some ⟨(Scr.mk ns)⟩, some ⟨ro⟩, some ⟨(n : Int)⟩, some ⟨t2⟩, o, some ⟨near⟩, some ⟨sp⟩, pl] ∧ L = []) (T_val (E_var 6)) (fun h => ?_) (fun h => ?_) ?_
  · have hpos : 0 < n := by
      rw [h] at hsp
      have := of_decide_eq_true (Bool.and_eq_true_iff.mp hsp).2
      omega
    obtain ⟨pq, hpq⟩ : ∃ t, t = cellF ro 2 % (n : Int) := ⟨_, rfl⟩
    have p1 : 0 ≤ pq := by rw [hpq]; exact Int.emod_nonneg _ (by omega)
    have p2 : pq < n := by rw [hpq]; exact Int.emod_lt_of_pos _ (by omega)
    refine S_set 7 ok.nd (r := ⟨pq⟩) (by rw [hpq]; exact E_bin (E_bi cal_intI (A_cons (E_ix (E_var 1).imm E_int (at_row (by decide) (by rw [kr]; decide))) A_nil) hi) (E_var 2) (bin_modI (by omega))) ?_
    have c1 := cutS_to (z := t) p1 (by omega)
    have c2 := cutS_from (z := t) (show 0 ≤ pq + 1 by omega)
    have l1 : (cutS t none (some pq)).length = pq.toNat := by rw [str_len, c1, List.length_take, ← str_len]; omega
    have l2 : (cutS t (some (pq + 1)) none).length = t.length - (pq + 1).toNat := by rw [str_len, c2, List.length_drop, ← str_len]
    have w1 : okW (cutS t none (some pq)) = true := okW_sub kt (fun c hc => List.mem_of_mem_take hc) c1
    have w2 : okW (cutS t (some (pq + 1)) none) = true := okW_sub kt (fun c hc => List.mem_of_mem_drop hc) c2
    refine S_set 5 ok.nd (E_bin (E_bin (E_slS (E_var 3) EO_none (EO_some (E_var 7))) E_str (bin_addS ?_)) (E_slS (E_var 3) (EO_some (E_bin (E_var 7) E_int bin_addI)) EO_none) (bin_addS ?_)) ?_
    · show _ + 1 ≤ _
      rw [l1, sizeLine_eq]; omega
    · rw [str_len_append, l1, l2, sizeLine_eq]
      show pq.toNat + 1 + _ ≤ _
      omega
    obtain ⟨cc, hcc, hbad, hcl⟩ := bad_at (i := cellF ro 1 / 4)
    refine S_set 3 ok.nd (E_bin (E_bin (E_slS (E_var 3) EO_none (EO_some (E_var 7))) (E_ixS (z := "ud X-1*|[~") E_str (E_bin (E_bi cal_intI (A_cons (E_bin (E_ix (E_var 1).imm E_int (at_row (by decide) (by rw [kr]; decide))) E_int (bin_fdivI (by decide))) A_nil) hi) E_int (bin_modI (by decide))) hcc) (bin_addS ?_)) (E_slS (E_var 3) (EO_some (E_bin (E_var 7) E_int bin_addI)) EO_none) (bin_addS ?_)) ?_
    · show _ + 1 ≤ _
      rw [l1, sizeLine_eq]; omega
    · rw [str_len_append, l1, l2, sizeLine_eq]
      show pq.toNat + 1 + _ ≤ _
      omega
    have nb : ¬ okT (cutS t none (some pq) ++ ⟨#[cc]⟩ ++ cutS t (some (pq + 1)) none) := fun z => by
      have z1 := (okW_part (okW_part z.1).1).2
      unfold okW at z1
      have z2 : ([cc].all okC) = true := z1
      rw [List.all_cons, hbad] at z2; cases z2
    refine S_nil ⟨_, _, _, fun _ => nb, (fun q => by rw [h] at q; cases q), fun _ => nb, okW_append (okW_append w1 (by decide +kernel)) w2, ?_, (fun q => by rw [h] at q; cases q), rfl, rfl⟩
    rw [str_len_append, str_len_append, l1, l2]
    show pq.toNat + 1 + _ = _
    omega
  · exact S_nil ⟨t, t, none, (fun q => by rw [h] at q; cases q), fun _ => rfl, (fun q z => absurd z.2 (by omega)), kt, lt, fun _ => rfl, rfl, rfl⟩
  rintro _ _ ⟨t2, near, pl, i1, i2, i3, i4, i5, i6, rfl, rfl⟩
  refine S_if (T_cmp (E_var 2) E_int cmp_gtI (nomark _)) (fun h => ?_) (fun h => ?_)
  · have h : (12 : Int) < (n : Int) := of_decide_eq_true h
    have c1 := cutS_to (z := near) (j := 12) (by decide) (by omega)
    have k1 : okT (cutS near none (some 12)) := ⟨okW_sub i4 (fun c hc => List.mem_of_mem_take hc) c1, by rw [str_len, c1, List.length_take]; exact Nat.min_le_left _ _⟩
    exact S_ret (E_and (E_call t2 ok Re (A_cons (E_var 3) A_nil) (i3 (by omega))) (fun _ => E_one (E_call (cutS near none (some 12)) ok Ac (A_cons (E_slS (E_var 5) EO_none (EO_some E_int)) A_nil) k1))) ⟨rfl, rfl⟩
  · have h : ¬ (12 : Int) < (n : Int) := of_decide_eq_false h
    refine S_nil (S_if (T_val (E_var 6)) (fun h2 => ?_) (fun h2 => ?_))
    · exact S_ret (E_and (E_call t2 ok Re (A_cons (E_var 3) A_nil) (i1 h2)) (fun _ => E_one (E_call near ok Ac (A_cons (E_var 5) A_nil) ⟨i4, by omega⟩))) ⟨rfl, rfl⟩
    · refine S_nil (S_ret (E_call t2 ok Ac (A_cons (E_var 3) A_nil) ?_) ⟨rfl, rfl⟩)
      rw [i2 h2]
      exact ⟨kt, by omega⟩
end

/-! ### the head -/
def fnL : List He.DefD := [dd_Word___init__, dd_Word___str__, dd_Word___len__, dd_Word___getitem__, dd_Word___iter__, dd__law_cell, dd__law_row, dd__law_refused, dd__law_accepted, dd_law]
def lawFa : List He.Fa := [.glo "_law_cell", .glo "_law_row", .glo "_law_refused", .glo "_law_accepted", .glo "law", .free "len", .free "range", .free "int", .free "abs", .free "iter"]
def xsL : List (PySem.W.Frag → Bool) := [wordB, k1B, faB lawFa, methB "Word" "__str__", methB "Word" "__len__", methB "Word" "__getitem__", methB "Word" "__iter__"]
theorem facts {P : Program} {w : World} {K : PySem.W.Frag} {h : Heap} {mg : Str → Option Value} {fa : Addr} (X : K.In h) (G : h.Ns mainGlobals mg) (hfa : mg ("law" : Str) = some (.ref fa)) (c : SaysX xsL fnL K) :
    ∃ fd : FuncData, (∀ (s : Shared) (v : Value), BindsTo s fd ⟨[v], []⟩ [("_law_script", v)]) ∧ ∀ base : Heap, K.In base → base.Ns mainGlobals mg → FnOk P w K mg base (L2.CX P w) 8 fa fd ["_law_script"] (spLaw K) := by
  have lf := c.chk 2 (f := faB lawFa)
  have h_len := He.free_ok X G (faB_at lf 5 (f := .free "len"))
  have h_range := He.free_ok X G (faB_at lf 6 (f := .free "range"))
  have h_int := He.free_ok X G (faB_at lf 7 (f := .free "int"))
  have h_abs := He.free_ok X G (faB_at lf 8 (f := .free "abs"))
  have h_iter := He.free_ok X G (faB_at lf 9 (f := .free "iter"))
  obtain ⟨T, mk⟩ := wordT_of X G (c.chk 0 (f := wordB))
  have T1 := k1T_of X G (c.chk 1 (f := k1B))
  obtain ⟨f0, F0⟩ := c.def_ 0 (d := dd_Word___init__)
  obtain ⟨f1, F1⟩ := c.def_ 1 (d := dd_Word___str__)
  obtain ⟨f2, F2⟩ := c.def_ 2 (d := dd_Word___len__)
  obtain ⟨f3, F3⟩ := c.def_ 3 (d := dd_Word___getitem__)
  obtain ⟨f4, F4⟩ := c.def_ 4 (d := dd_Word___iter__)
  obtain ⟨f5, F5⟩ := c.def_ 5 (d := dd__law_cell)
  obtain ⟨f6, F6⟩ := c.def_ 6 (d := dd__law_row)
  obtain ⟨f7, F7⟩ := c.def_ 7 (d := dd__law_refused)
  obtain ⟨f8, F8⟩ := c.def_ 8 (d := dd__law_accepted)
  obtain ⟨f9, F9⟩ := c.def_ 9 (d := dd_law)
  have e := hfa.symm.trans (He.glo_ok X G (faB_at lf 4 (f := .glo "law")))
  cases e
  refine ⟨f9, fun s v => FunD.bindsA (ps := ["_law_script"]) F9 (fun _ _ _ _ _ _ us hl => match us, hl with | [_], _ => rfl) s [v] rfl, fun base _ _ => ?_⟩
  have Mw : Mks P w K mg base 2 (He.ga K "Word") "Word" (spWordInit K) := mks_of mk T.gW (bn_Word___init__ F0) (ok_Word_init F0 T)
  have St : Ms P w K mg base 2 (He.ga K "Word") "__str__" (spWordStr K) := ms_of (methB_ok (c.chk 3 (f := methB "Word" "__str__"))).1 (methB_ok (c.chk 3 (f := methB "Word" "__str__"))).2 (bn_Word___str__ F1) (ok_Word_str F1 T)
  have Ln : Ms P w K mg base 2 (He.ga K "Word") "__len__" (spWordLen K) := ms_of (methB_ok (c.chk 4 (f := methB "Word" "__len__"))).1 (methB_ok (c.chk 4 (f := methB "Word" "__len__"))).2 (bn_Word___len__ F2) (ok_Word_len F2 T)
  have Ge : Ms P w K mg base 2 (He.ga K "Word") "__getitem__" (spWordGet K) := ms_of (methB_ok (c.chk 5 (f := methB "Word" "__getitem__"))).1 (methB_ok (c.chk 5 (f := methB "Word" "__getitem__"))).2 (bn_Word___getitem__ F3) (ok_Word_get F3 T)
  have It : Mi P w K mg base 2 (He.ga K "Word") (spWordIter K) := mi_of (methB_ok (c.chk 6 (f := methB "Word" "__iter__"))).1 (bn_Word___iter__ F4) (ok_Word_iter F4 T h_iter)
  have Ce : Hs P w K mg base 2 "_law_cell" (spCell K) := hs_of F5 (He.glo_ok X G (faB_at lf 0 (f := .glo "_law_cell"))) (bn__law_cell F5) (ok_law_cell F5 h_len)
  have Ro : Hs P w K mg base 2 "_law_row" (spRow K) := hs_of F6 (He.glo_ok X G (faB_at lf 1 (f := .glo "_law_row"))) (bn__law_row F6) (ok_law_row F6 h_abs h_range h_int)
  have Re : Hs P w K mg base 5 "_law_refused" (spRefused K) := hs_of F7 (He.glo_ok X G (faB_at lf 2 (f := .glo "_law_refused"))) (bn__law_refused F7) (ok_law_refused F7 T T1 Mw)
  have Ac : Hs P w K mg base 6 "_law_accepted" (spAccepted K) := hs_of F8 (He.glo_ok X G (faB_at lf 3 (f := .glo "_law_accepted"))) (bn__law_accepted F8) (ok_law_accepted F8 T h_range Mw St Ln Ge It)
  exact ok_law F9 T h_range h_int Ce Ro Re Ac
abbrev Rr : PySem.W.OpenRow := PySem.W.OpenLaw.row PySem.Challenge.rw_looksback_k01_word_text
abbrev hkL : PySem.W.Hook := hookX 6 xsL fnL
def obL (s : PySem.W.SharedT) : AlX := obsXG 6 xsL fnL (HandSHeadRun.getT s)
theorem obL_eq (s : PySem.W.SharedT) : obL s = hkL.obs s.abs := obsXG_eq (HandSHeadRun.getT_eq s)
def looseL : List Str := ["LooksBackError", "BadWord", "BadNode", "BadLabel", "TooLarge", "BadQuestion", "NoSuchNode", "NoSuchEdge", "STEPS", "Word", "_law_cell", "_law_row", "_law_refused", "_law_accepted"]
theorem runL (w : World) : HandSHeadRun.RunEq Rr (PySem.W.view Rr.prog [17]) hkL obL 12000 looseL w := by
  intro os
  kernel_rfl

end Lw
open PySem PySem.W PySem.Calls PyProof.Rows
theorem PySem.Challenge.cw_looksback_k01_word_text_holds : PySem.Challenge.rw_looksback_k01_word_text.Holds := by
  w_on; o_law
  refine HandSHeadRun.head_any (r := OpenLaw.row PySem.Challenge.rw_looksback_k01_word_text) (q := view (OpenLaw.row PySem.Challenge.rw_looksback_k01_word_text).prog [17]) (H := Lw.hkL) (ob := Lw.obL) (M := 12000) (loose := Lw.looseL) (d := HandSHeadRun.topDef (OpenLaw.row PySem.Challenge.rw_looksback_k01_word_text).prog 17) (kwd := []) Lw.obL_eq
    (by kernel_rfl) (fun s => by kernel_rfl) Lw.runL (by kernel_rfl) (by kernel_rfl) (by kernel_rfl) (by rfl) (by first | assumption | decide +kernel) (by decide +kernel) ⟨rfl, rfl, rfl, rfl, rfl, by decide +kernel⟩ ?hw ?hc
  case hw => w_witness2
  case hc =>
    refine Py.walk_ofX (l := PySem.Challenge.rw_looksback_k01_word_text) (k := 8) (x := "_law_script") rfl (by kernel_rfl) ⟨rfl, by decide, by decide⟩ ?F
    intro w mg fa h Y G hmg0
    obtain ⟨K, KX, c⟩ := Y
    have hmg : mg ("law" : PySem.Str) = some (.ref fa) := by
      have e : (HandSHeadRun.topDef (OpenLaw.row PySem.Challenge.rw_looksback_k01_word_text).prog 17).name = ("law" : PySem.Str) := by kernel_rfl
      rw [← e]
      exact hmg0
    obtain ⟨fd, hb, hF⟩ := Lw.facts (P := (PySem.Challenge.rw_looksback_k01_word_text).prog) (w := w) KX G hmg c
    exact ⟨K, fd, KX, hb, hF⟩
